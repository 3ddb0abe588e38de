import PyProof.Rows.All
import Wide.All
import OpenK.AllK
import Wide.FinOn
import PyProof.EqAt
import PyProof.EqKinds
import PyProof.TupleCall
import KE.KStateDown
import KE.KLam
import HandS.ForMost
import HandS.Exc
import HandS.ExcOwn
import HandS.ExcIs
import HandS.TryOnly
import HandS.WordsExc
import HandS.Defaults
import HandS.IsInst
import HandS.Deep
import HandS.Conv
import HandS.Codes
import HandS.Style
import HandS.Zip
import HandS.Strs
import HandS.SetFor
import HandS.Set
import HandS.Lambda
import HandS.EndTab
import HandS.HeadWalk
import HandS.Head0
import HandS.Head1
import HandS.Head2
import HandS.HeadHook1
import HandS.HeadHook2
import HandS.HeadHook3
import HandS.HeadHook4
import HandS.New0
import KE.DatumOrd
import KE.KBits
import HandS.Walk
import HandS.NestedK
import PySem.Challenge.RW_roadbook_k06_nets_put_together
set_option Elab.async false
set_option linter.all false
set_option maxRecDepth 100000
set_option maxHeartbeats 4000000
namespace K06
open PySem L2
/-! ### the text by places -/
def top (i : Nat) : Stmt := PySem.Challenge.pw_roadbook_k06_nets_put_together.main.body.getD i (.Pass ⟨0, 0, 0, 0⟩)
/-! ### defs by name, with a promise -/
structure Cal (CX : CXT) (P : Program) (w : World) (K : PySem.W.Frag) (mg : Str → Option Value) (base : Heap) (k : Nat) (x : Str) (sp : Sp) : Prop where
  ex : ∃ (f : Addr) (fd : FuncData) (ps : List Str), FnOk P w K mg base CX k f fd ps sp ∧ mg x = some (.ref f) ∧ PySem.W.keepIn K (.ref f) = true ∧ Binds K fd ps []
structure Met (CX : CXT) (P : Program) (w : World) (K : PySem.W.Frag) (mg : Str → Option Value) (base : Heap) (k : Nat) (C : Addr) (m : Str) (sp : Sp) : Prop where
  ex : ∃ (f : Addr) (fd : FuncData) (ps : List Str), Cls K C ∧ Meth K C m f ∧ FnOk P w K mg base CX k f fd ps sp ∧ Binds K fd ps []
structure Mak (CX : CXT) (P : Program) (w : World) (K : PySem.W.Frag) (mg : Str → Option Value) (base : Heap) (k : Nat) (x : Str) (C : Addr) (sp : Sp) : Prop where
  ex : ∃ (f : Addr) (fd : FuncData) (ps : List Str), Mk K C f ∧ FnOk P w K mg base CX k f fd ps sp ∧ mg x = some (.ref C) ∧ Binds K fd ps []
/-- f(e, ..) -/
def tCa (sp : Sp) (E : XK) (t : TA) : TE := fun σ H Q => t σ H fun vs H1 => sp vs H1 Q E
def tMe (C : Addr) (m : Str) (sp : Sp) (E : XK) (ta : TE) (t : TA) : TE := fun σ H Q => ta σ H fun x H1 => ∃ a dx fs, x = .ref a ∧ H1 a = some (.ins C dx fs) ∧ fs.lookup m = none ∧
  t σ H1 fun vs H2 => sp (x :: vs) H2 Q E
def tMa (C : Addr) (sp : Sp) (E : XK) (t : TA) : TE := fun σ H Q => t σ H fun vs H1 => ∀ x dx, H1 x = none → H1 dx = none → dx ≠ x →
  sp (.ref x :: vs) (upd (upd H1 dx (.own x)) x (.ins C dx [])) (fun v H2 => v = .non ∧ Q (.ref x) H2) E
section
variable {X : Cx} {CX : CXT} {k j : Nat} {C : Addr} {x m : Str} {sp : Sp} {E : XK} {p pos apos : Pos} {e o : Expr} {es : List Expr} {ta : TE} {t : TA}
theorem tCall_nil : tCall sp [] E t = tCa sp E t := by
  funext σ H Q
  simp only [tCall, tCa, List.append_nil]
theorem tMeth_nil : tMeth C m sp [] E ta t = tMe C m sp E ta t := by
  funext σ H Q
  simp only [tMeth, tMe, List.append_nil]
theorem tMake_nil : tMake C sp [] E t = tMa C sp E t := by
  funext σ H Q
  simp only [tMake, tMa, List.append_nil]
theorem pe_ca (c : Cal CX X.prog X.w X.K X.mg X.base k x sp) (hr : Room j X.A) (hk : k ≤ j) (hg : Gl X x) (hx : Passes CX X E) (ha : PA X (e :: es) t)
    (hdb : (x == ("__debug__" : Str)) = false := by decide) (he : starEach (e :: es) X.env = (false, eval e X.env) :: starEach es X.env := by rfl) (hpl : (backTo pos (starEach es X.env)).any (·.1) = false := by rfl) :
    PE X (.Call (.Name x p) (e :: es) [] pos) (tCa sp E t) := by
  obtain ⟨f, fd, ps, F, hm, kp, hb⟩ := c.ex
  rw [← tCall_nil]
  exact pe_call F (hr.mono hk) hg hm kp hb .nil hx ha hdb he hpl
theorem pe_ca0 (c : Cal CX X.prog X.w X.K X.mg X.base k x sp) (hr : Room j X.A) (hk : k ≤ j) (hg : Gl X x) (hx : Passes CX X E)
    (hdb : (x == ("__debug__" : Str)) = false := by decide) : PE X (.Call (.Name x p) [] [] pos) (tCa sp E tNil) := by
  obtain ⟨f, fd, ps, F, hm, kp, hb⟩ := c.ex
  rw [← tCall_nil]
  exact pe_call0 F (hr.mono hk) hg hm kp hb .nil hx hdb
theorem pe_me {pl : Sem Bool} (c : Met CX X.prog X.w X.K X.mg X.base k C m sp) (hr : Room j X.A) (hk : k ≤ j) (hx : Passes CX X E) (he : PE X o ta) (ha : PA X (e :: es) t)
    (hst : starEach (e :: es) X.env = (false, eval e X.env) :: starEach es X.env := by rfl) (hpl : (backTo pos (starEach es X.env)).any (·.1) = false := by rfl)
    (ht : eval (.Call (.Attribute o m apos) (e :: es) [] pos) X.env = (do
      let ov ← eval o X.env
      standAt apos.atName
      let (f, first) ← holding [ov] (getMethod ov m pl)
      callWith pos f first (backTo pos (starEach (e :: es) X.env)) (backToKw pos (keywordEach [] X.env))) := by rfl) :
    PE X (.Call (.Attribute o m apos) (e :: es) [] pos) (tMe C m sp E ta t) := by
  obtain ⟨f, fd, ps, cl, me, F, hb⟩ := c.ex
  rw [← tMeth_nil]
  exact pe_meth he cl me F (hr.mono hk) hb .nil hx ha hst hpl ht
theorem pe_me0 {pl : Sem Bool} (c : Met CX X.prog X.w X.K X.mg X.base k C m sp) (hr : Room j X.A) (hk : k ≤ j) (hx : Passes CX X E) (he : PE X o ta)
    (ht : eval (.Call (.Attribute o m apos) [] [] pos) X.env = (do
      let ov ← eval o X.env
      standAt apos.atName
      let (f, first) ← holding [ov] (getMethod ov m pl)
      callWith pos f first (backTo pos (starEach [] X.env)) (backToKw pos (keywordEach [] X.env))) := by rfl) :
    PE X (.Call (.Attribute o m apos) [] [] pos) (tMe C m sp E ta tNil) := by
  obtain ⟨f, fd, ps, cl, me, F, hb⟩ := c.ex
  rw [← tMeth_nil]
  exact pe_meth0 he cl me F (hr.mono hk) hb .nil hx ht
theorem pe_ma (c : Mak CX X.prog X.w X.K X.mg X.base k x C sp) (hr : Room j X.A) (hk : k + 1 ≤ j) (hg : Gl X x) (hx : Passes CX X E) (ha : PA X (e :: es) t)
    (hdb : (x == ("__debug__" : Str)) = false := by decide) (he : starEach (e :: es) X.env = (false, eval e X.env) :: starEach es X.env := by rfl) (hpl : (backTo pos (starEach es X.env)).any (·.1) = false := by rfl) :
    PE X (.Call (.Name x p) (e :: es) [] pos) (tMa C sp E t) := by
  obtain ⟨f, fd, ps, M, F, hm, hb⟩ := c.ex
  rw [← tMake_nil]
  exact pe_make M F (hr.mono hk) hg hm hb .nil hx ha hdb he hpl
theorem pe_ma0 (c : Mak CX X.prog X.w X.K X.mg X.base k x C sp) (hr : Room j X.A) (hk : k + 1 ≤ j) (hg : Gl X x) (hx : Passes CX X E)
    (hdb : (x == ("__debug__" : Str)) = false := by decide) : PE X (.Call (.Name x p) [] [] pos) (tMa C sp E tNil) := by
  obtain ⟨f, fd, ps, M, F, hm, hb⟩ := c.ex
  rw [← tMake_nil]
  exact pe_make0 M F (hr.mono hk) hg hm hb .nil hx hdb
end
end K06
set_option maxHeartbeats 4000000
namespace K06
open PySem L2
/-! ### places, scopes -/
abbrev s_is_among : Stmt := top 22
abbrev n_is_among : List Str := ["thing", "least", "most"]
abbrev s_need : Stmt := top 28
abbrev n_need : List Str := ["good"]
abbrev s_are_rising : Stmt := top 29
abbrev n_are_rising : List Str := ["thing", "most", "one"]
abbrev s_Rule_runs : Stmt := inClass (top 30) 0
abbrev n_Rule_runs : List Str := ["self", "day"]
abbrev s_Rule_parts : Stmt := inClass (top 30) 2
abbrev n_Rule_parts : List Str := ["self"]
abbrev s_Rule_weight : Stmt := inClass (top 30) 3
abbrev n_Rule_weight : List Str := ["self", "part"]
abbrev s_Rule_depth : Stmt := inClass (top 30) 4
abbrev n_Rule_depth : List Str := ["self", "part"]
abbrev s_need_light : Stmt := top 31
abbrev n_need_light : List Str := ["rule"]
abbrev s_Week_init : Stmt := inClass (top 32) 0
abbrev n_Week_init : List Str := ["self", "bits"]
abbrev s_Week_runs : Stmt := inClass (top 32) 1
abbrev n_Week_runs : List Str := ["self", "day"]
abbrev s_Span_init : Stmt := inClass (top 33) 0
abbrev n_Span_init : List Str := ["self", "first", "last", "rule"]
abbrev s_Span_runs : Stmt := inClass (top 33) 1
abbrev n_Span_runs : List Str := ["self", "day"]
abbrev s_Span_parts : Stmt := inClass (top 33) 3
abbrev n_Span_parts : List Str := ["self"]
abbrev s_Each_init : Stmt := inClass (top 34) 0
abbrev n_Each_init : List Str := ["self", "length", "starts"]
abbrev s_Each_runs : Stmt := inClass (top 34) 1
abbrev n_Each_runs : List Str := ["self", "day"]
abbrev s_Either_init : Stmt := inClass (top 35) 0
abbrev n_Either_init : List Str := ["self", "one", "other"]
abbrev s_Either_runs : Stmt := inClass (top 35) 1
abbrev n_Either_runs : List Str := ["self", "day"]
abbrev s_Either_parts : Stmt := inClass (top 35) 3
abbrev n_Either_parts : List Str := ["self"]
abbrev s_Both_init : Stmt := inClass (top 36) 0
abbrev n_Both_init : List Str := ["self", "one", "other"]
abbrev s_Both_runs : Stmt := inClass (top 36) 1
abbrev n_Both_runs : List Str := ["self", "day"]
abbrev s_Both_parts : Stmt := inClass (top 36) 3
abbrev n_Both_parts : List Str := ["self"]
abbrev s_But_init : Stmt := inClass (top 37) 0
abbrev n_But_init : List Str := ["self", "days", "rule"]
abbrev s_But_runs : Stmt := inClass (top 37) 1
abbrev n_But_runs : List Str := ["self", "day"]
abbrev s_But_parts : Stmt := inClass (top 37) 3
abbrev n_But_parts : List Str := ["self"]
abbrev s_is_name : Stmt := top 49
abbrev n_is_name : List Str := ["thing", "sign"]
abbrev s_need_fresh : Stmt := top 50
abbrev n_need_fresh : List Str := ["name", "kept"]
abbrev s_need_among : Stmt := top 51
abbrev n_need_among : List Str := ["thing", "least", "most"]
abbrev s_need_room : Stmt := top 52
abbrev n_need_room : List Str := ["kept", "most"]
abbrev s_are_zones : Stmt := top 53
abbrev n_are_zones : List Str := ["thing", "zone", "one", "other"]
abbrev s_are_calls : Stmt := top 54
abbrev n_are_calls : List Str := ["thing", "call"]
abbrev s_rises : Stmt := top 55
abbrev n_rises : List Str := ["ahead", "call"]
abbrev s_Net_init : Stmt := inClass (top 56) 0
abbrev n_Net_init : List Str := ["self"]
abbrev s_Net_need_stop : Stmt := inClass (top 56) 1
abbrev n_Net_need_stop : List Str := ["self", "stop"]
abbrev s_Net_need_rule : Stmt := inClass (top 56) 2
abbrev n_Net_need_rule : List Str := ["self", "name"]
abbrev s_Net_need_trip : Stmt := inClass (top 56) 3
abbrev n_Net_need_trip : List Str := ["self", "trip"]
abbrev s_Net_add_stop : Stmt := inClass (top 56) 4
abbrev n_Net_add_stop : List Str := ["self", "name", "zone", "change"]
abbrev s_Net_add_walk : Stmt := inClass (top 56) 5
abbrev n_Net_add_walk : List Str := ["self", "one", "other", "minutes", "pairs", "path"]
abbrev s_Net_add_rule : Stmt := inClass (top 56) 6
abbrev n_Net_add_rule : List Str := ["self", "name", "rule"]
abbrev s_Net_add_ticket : Stmt := inClass (top 56) 7
abbrev n_Net_add_ticket : List Str := ["self", "name", "price", "lasts", "zones"]
abbrev s_Net_add_trip : Stmt := inClass (top 56) 8
abbrev n_Net_add_trip : List Str := ["self", "name", "rule", "calls", "ahead", "call"]
abbrev s_Net_stops : Stmt := inClass (top 56) 9
abbrev n_Net_stops : List Str := ["self"]
abbrev s_Net_rules : Stmt := inClass (top 56) 10
abbrev n_Net_rules : List Str := ["self"]
abbrev s_Net_tickets : Stmt := inClass (top 56) 11
abbrev n_Net_tickets : List Str := ["self"]
abbrev s_Net_trips : Stmt := inClass (top 56) 12
abbrev n_Net_trips : List Str := ["self"]
abbrev s_Net_walks : Stmt := inClass (top 56) 13
abbrev n_Net_walks : List Str := ["self"]
abbrev s_Net_zone : Stmt := inClass (top 56) 14
abbrev n_Net_zone : List Str := ["self", "stop"]
abbrev s_Net_change : Stmt := inClass (top 56) 15
abbrev n_Net_change : List Str := ["self", "stop"]
abbrev s_Net_rule : Stmt := inClass (top 56) 16
abbrev n_Net_rule : List Str := ["self", "name"]
abbrev s_Net_ticket : Stmt := inClass (top 56) 17
abbrev n_Net_ticket : List Str := ["self", "name", "price", "lasts", "zones"]
abbrev s_Net_rule_name : Stmt := inClass (top 56) 18
abbrev n_Net_rule_name : List Str := ["self", "trip"]
abbrev s_Net_calls : Stmt := inClass (top 56) 19
abbrev n_Net_calls : List Str := ["self", "trip"]
abbrev s_law_cell_at : Stmt := top 58
abbrev n_law_cell_at : List Str := ["_law_script", "_law_k"]
abbrev s_law_mixed : Stmt := top 59
abbrev n_law_mixed : List Str := ["_law_cell", "_law_k", "_law_number"]
abbrev s_law_among : Stmt := top 60
abbrev n_law_among : List Str := ["_law_thing", "_law_least", "_law_most"]
abbrev s_law_name : Stmt := top 61
abbrev n_law_name : List Str := ["_law_seed", "_law_k", "_law_letters", "_law_tail", "_law_at", "_law_j"]
abbrev s_law_is_name : Stmt := top 62
abbrev n_law_is_name : List Str := ["_law_thing", "_law_sign"]
abbrev s_law_said : Stmt := top 63
abbrev n_law_said : List Str := ["_law_call", "e", "_law_found"]
abbrev s_law_days : Stmt := top 64
abbrev n_law_days : List Str := ["_law_number", "_law_deep", "_law_more", "_law_way", "_law_starts", "_law_inner"]
abbrev s_law_rule : Stmt := top 65
abbrev n_law_rule : List Str := ["_law_told"]
abbrev s_law_runs : Stmt := top 66
abbrev n_law_runs : List Str := ["_law_told", "_law_day", "_law_one_here", "_law_other"]
abbrev s_law_calls : Stmt := top 67
abbrev n_law_calls : List Str := ["_law_number", "_law_stops", "_law_many", "_law_found", "_law_time", "_law_last", "_law_k", "_law_mixed_here", "_law_left", "_law_arrive", "_law_leave", "_law_stop"]
abbrev s_law_world : Stmt := top 68
abbrev n_law_world : List Str := []
abbrev s_law_fresh : Stmt := top 69
abbrev n_law_fresh : List Str := ["_law_name_here", "_law_kept"]
abbrev s_law_are_zones : Stmt := top 70
abbrev n_law_are_zones : List Str := ["_law_thing", "_law_one_here"]
abbrev s_law_due_stop : Stmt := top 71
abbrev n_law_due_stop : List Str := ["_law_world_here", "_law_given_here", "_law_due"]
abbrev s_law_due_walk : Stmt := top 72
abbrev n_law_due_walk : List Str := ["_law_world_here", "_law_given_here", "_law_one_here", "_law_other", "_law_minutes", "_law_name_here", "_law_pairs", "_law_walk"]
abbrev s_law_due_rule : Stmt := top 73
abbrev n_law_due_rule : List Str := ["_law_world_here", "_law_name_here", "_law_told", "_law_due"]
abbrev s_law_due_ticket : Stmt := top 74
abbrev n_law_due_ticket : List Str := ["_law_world_here", "_law_given_here", "_law_due", "_law_good"]
abbrev s_law_due_trip : Stmt := top 75
abbrev n_law_due_trip : List Str := ["_law_world_here", "_law_given_here", "_law_due"]
abbrev s_law_given : Stmt := top 76
abbrev n_law_given : List Str := ["_law_world_here", "_law_names", "_law_mixed_here", "_law_sort", "_law_name_here", "_law_more", "_law_odd_name", "_law_odd", "_law_at", "_law_given_here", "_law_some", "_law_stops", "_law_wants"]
abbrev s_law_put : Stmt := top 77
abbrev n_law_put : List Str := ["_law_net", "_law_world_here", "_law_sort", "_law_given_here", "_law_found", "_law_due", "_law_rule_here", "_law_zones", "_law_calls_here"]
abbrev s_law_one : Stmt := top 78
abbrev n_law_one : List Str := ["_law_net", "_law_world_here", "_law_way", "_law_olds", "_law_found", "_law_due", "_law_told", "_law_good", "_law_name_here", "_law_days_here", "_law_ticket", "_law_trip", "_law_stop", "_law_walk", "_law_day"]
abbrev s_law_stands : Stmt := top 79
abbrev n_law_stands : List Str := ["_law_net", "_law_world_here", "_law_turn", "_law_olds", "_law_order", "_law_way"]
abbrev s_law_not_there : Stmt := top 80
abbrev n_law_not_there : List Str := ["_law_net", "_law_names", "_law_mixed_here", "_law_odd", "_law_asked"]
abbrev s_law_filled : Stmt := top 81
abbrev n_law_filled : List Str := ["_law_net", "_law_world_here", "_law_seed", "_law_names", "_law_k", "_law_stops", "_law_rules", "_law_calls_here"]
abbrev s_law : Stmt := top 82
abbrev n_law : List Str := ["_law_script", "_law_seed", "_law_names", "_law_nets", "_law_worlds", "_law_olds", "_law_k", "_law_cell", "_law_mixed_here", "_law_at", "_law_sort", "_law_given_here", "_law_turn", "_law_pair"]
theorem sc_is_among : FnScope ["thing", "least", "most"] ["thing", "least", "most"] (defScope s_is_among) := ⟨rfl, rfl, rfl, by decide +kernel, rfl, by decide +kernel, by decide +kernel⟩
theorem sc_need : FnScope ["good"] ["good"] (defScope s_need) := ⟨rfl, rfl, rfl, by decide +kernel, rfl, by decide +kernel, by decide +kernel⟩
theorem sc_are_rising : FnScope ["thing", "most", "one"] ["thing", "most"] (defScope s_are_rising) := ⟨rfl, rfl, rfl, by decide +kernel, rfl, by decide +kernel, by decide +kernel⟩
theorem sc_Rule_runs : FnScope ["self", "day"] ["self", "day"] (defScope s_Rule_runs) := ⟨rfl, rfl, rfl, by decide +kernel, rfl, by decide +kernel, by decide +kernel⟩
theorem sc_Rule_parts : FnScope ["self"] ["self"] (defScope s_Rule_parts) := ⟨rfl, rfl, rfl, by decide +kernel, rfl, by decide +kernel, by decide +kernel⟩
theorem sc_Rule_weight : FnScope ["self", "part"] ["self"] (defScope s_Rule_weight) := ⟨rfl, rfl, rfl, by decide +kernel, rfl, by decide +kernel, by decide +kernel⟩
theorem sc_Rule_depth : FnScope ["self", "part"] ["self"] (defScope s_Rule_depth) := ⟨rfl, rfl, rfl, by decide +kernel, rfl, by decide +kernel, by decide +kernel⟩
theorem sc_need_light : FnScope ["rule"] ["rule"] (defScope s_need_light) := ⟨rfl, rfl, rfl, by decide +kernel, rfl, by decide +kernel, by decide +kernel⟩
theorem sc_Week_init : FnScope ["self", "bits"] ["self", "bits"] (defScope s_Week_init) := ⟨rfl, rfl, rfl, by decide +kernel, rfl, by decide +kernel, by decide +kernel⟩
theorem sc_Week_runs : FnScope ["self", "day"] ["self", "day"] (defScope s_Week_runs) := ⟨rfl, rfl, rfl, by decide +kernel, rfl, by decide +kernel, by decide +kernel⟩
theorem sc_Span_init : FnScope ["self", "first", "last", "rule"] ["self", "first", "last", "rule"] (defScope s_Span_init) := ⟨rfl, rfl, rfl, by decide +kernel, rfl, by decide +kernel, by decide +kernel⟩
theorem sc_Span_runs : FnScope ["self", "day"] ["self", "day"] (defScope s_Span_runs) := ⟨rfl, rfl, rfl, by decide +kernel, rfl, by decide +kernel, by decide +kernel⟩
theorem sc_Span_parts : FnScope ["self"] ["self"] (defScope s_Span_parts) := ⟨rfl, rfl, rfl, by decide +kernel, rfl, by decide +kernel, by decide +kernel⟩
theorem sc_Each_init : FnScope ["self", "length", "starts"] ["self", "length", "starts"] (defScope s_Each_init) := ⟨rfl, rfl, rfl, by decide +kernel, rfl, by decide +kernel, by decide +kernel⟩
theorem sc_Each_runs : FnScope ["self", "day"] ["self", "day"] (defScope s_Each_runs) := ⟨rfl, rfl, rfl, by decide +kernel, rfl, by decide +kernel, by decide +kernel⟩
theorem sc_Either_init : FnScope ["self", "one", "other"] ["self", "one", "other"] (defScope s_Either_init) := ⟨rfl, rfl, rfl, by decide +kernel, rfl, by decide +kernel, by decide +kernel⟩
theorem sc_Either_runs : FnScope ["self", "day"] ["self", "day"] (defScope s_Either_runs) := ⟨rfl, rfl, rfl, by decide +kernel, rfl, by decide +kernel, by decide +kernel⟩
theorem sc_Either_parts : FnScope ["self"] ["self"] (defScope s_Either_parts) := ⟨rfl, rfl, rfl, by decide +kernel, rfl, by decide +kernel, by decide +kernel⟩
theorem sc_Both_init : FnScope ["self", "one", "other"] ["self", "one", "other"] (defScope s_Both_init) := ⟨rfl, rfl, rfl, by decide +kernel, rfl, by decide +kernel, by decide +kernel⟩
theorem sc_Both_runs : FnScope ["self", "day"] ["self", "day"] (defScope s_Both_runs) := ⟨rfl, rfl, rfl, by decide +kernel, rfl, by decide +kernel, by decide +kernel⟩
theorem sc_Both_parts : FnScope ["self"] ["self"] (defScope s_Both_parts) := ⟨rfl, rfl, rfl, by decide +kernel, rfl, by decide +kernel, by decide +kernel⟩
theorem sc_But_init : FnScope ["self", "days", "rule"] ["self", "days", "rule"] (defScope s_But_init) := ⟨rfl, rfl, rfl, by decide +kernel, rfl, by decide +kernel, by decide +kernel⟩
theorem sc_But_runs : FnScope ["self", "day"] ["self", "day"] (defScope s_But_runs) := ⟨rfl, rfl, rfl, by decide +kernel, rfl, by decide +kernel, by decide +kernel⟩
theorem sc_But_parts : FnScope ["self"] ["self"] (defScope s_But_parts) := ⟨rfl, rfl, rfl, by decide +kernel, rfl, by decide +kernel, by decide +kernel⟩
theorem sc_is_name : FnScope ["thing", "sign"] ["thing"] (defScope s_is_name) := ⟨rfl, rfl, rfl, by decide +kernel, rfl, by decide +kernel, by decide +kernel⟩
theorem sc_need_fresh : FnScope ["name", "kept"] ["name", "kept"] (defScope s_need_fresh) := ⟨rfl, rfl, rfl, by decide +kernel, rfl, by decide +kernel, by decide +kernel⟩
theorem sc_need_among : FnScope ["thing", "least", "most"] ["thing", "least", "most"] (defScope s_need_among) := ⟨rfl, rfl, rfl, by decide +kernel, rfl, by decide +kernel, by decide +kernel⟩
theorem sc_need_room : FnScope ["kept", "most"] ["kept", "most"] (defScope s_need_room) := ⟨rfl, rfl, rfl, by decide +kernel, rfl, by decide +kernel, by decide +kernel⟩
theorem sc_are_zones : FnScope ["thing", "zone", "one", "other"] ["thing"] (defScope s_are_zones) := ⟨rfl, rfl, rfl, by decide +kernel, rfl, by decide +kernel, by decide +kernel⟩
theorem sc_are_calls : FnScope ["thing", "call"] ["thing"] (defScope s_are_calls) := ⟨rfl, rfl, rfl, by decide +kernel, rfl, by decide +kernel, by decide +kernel⟩
theorem sc_rises : FnScope ["ahead", "call"] ["ahead", "call"] (defScope s_rises) := ⟨rfl, rfl, rfl, by decide +kernel, rfl, by decide +kernel, by decide +kernel⟩
theorem sc_Net_init : FnScope ["self"] ["self"] (defScope s_Net_init) := ⟨rfl, rfl, rfl, by decide +kernel, rfl, by decide +kernel, by decide +kernel⟩
theorem sc_Net_need_stop : FnScope ["self", "stop"] ["self", "stop"] (defScope s_Net_need_stop) := ⟨rfl, rfl, rfl, by decide +kernel, rfl, by decide +kernel, by decide +kernel⟩
theorem sc_Net_need_rule : FnScope ["self", "name"] ["self", "name"] (defScope s_Net_need_rule) := ⟨rfl, rfl, rfl, by decide +kernel, rfl, by decide +kernel, by decide +kernel⟩
theorem sc_Net_need_trip : FnScope ["self", "trip"] ["self", "trip"] (defScope s_Net_need_trip) := ⟨rfl, rfl, rfl, by decide +kernel, rfl, by decide +kernel, by decide +kernel⟩
theorem sc_Net_add_stop : FnScope ["self", "name", "zone", "change"] ["self", "name", "zone", "change"] (defScope s_Net_add_stop) := ⟨rfl, rfl, rfl, by decide +kernel, rfl, by decide +kernel, by decide +kernel⟩
theorem sc_Net_add_walk : FnScope ["self", "one", "other", "minutes", "pairs", "path"] ["self", "one", "other", "minutes"] (defScope s_Net_add_walk) := ⟨rfl, rfl, rfl, by decide +kernel, rfl, by decide +kernel, by decide +kernel⟩
theorem sc_Net_add_rule : FnScope ["self", "name", "rule"] ["self", "name", "rule"] (defScope s_Net_add_rule) := ⟨rfl, rfl, rfl, by decide +kernel, rfl, by decide +kernel, by decide +kernel⟩
theorem sc_Net_add_ticket : FnScope ["self", "name", "price", "lasts", "zones"] ["self", "name", "price", "lasts", "zones"] (defScope s_Net_add_ticket) := ⟨rfl, rfl, rfl, by decide +kernel, rfl, by decide +kernel, by decide +kernel⟩
theorem sc_Net_add_trip : FnScope ["self", "name", "rule", "calls", "ahead", "call"] ["self", "name", "rule", "calls"] (defScope s_Net_add_trip) := ⟨rfl, rfl, rfl, by decide +kernel, rfl, by decide +kernel, by decide +kernel⟩
theorem sc_Net_stops : FnScope ["self"] ["self"] (defScope s_Net_stops) := ⟨rfl, rfl, rfl, by decide +kernel, rfl, by decide +kernel, by decide +kernel⟩
theorem sc_Net_rules : FnScope ["self"] ["self"] (defScope s_Net_rules) := ⟨rfl, rfl, rfl, by decide +kernel, rfl, by decide +kernel, by decide +kernel⟩
theorem sc_Net_tickets : FnScope ["self"] ["self"] (defScope s_Net_tickets) := ⟨rfl, rfl, rfl, by decide +kernel, rfl, by decide +kernel, by decide +kernel⟩
theorem sc_Net_trips : FnScope ["self"] ["self"] (defScope s_Net_trips) := ⟨rfl, rfl, rfl, by decide +kernel, rfl, by decide +kernel, by decide +kernel⟩
theorem sc_Net_walks : FnScope ["self"] ["self"] (defScope s_Net_walks) := ⟨rfl, rfl, rfl, by decide +kernel, rfl, by decide +kernel, by decide +kernel⟩
theorem sc_Net_zone : FnScope ["self", "stop"] ["self", "stop"] (defScope s_Net_zone) := ⟨rfl, rfl, rfl, by decide +kernel, rfl, by decide +kernel, by decide +kernel⟩
theorem sc_Net_change : FnScope ["self", "stop"] ["self", "stop"] (defScope s_Net_change) := ⟨rfl, rfl, rfl, by decide +kernel, rfl, by decide +kernel, by decide +kernel⟩
theorem sc_Net_rule : FnScope ["self", "name"] ["self", "name"] (defScope s_Net_rule) := ⟨rfl, rfl, rfl, by decide +kernel, rfl, by decide +kernel, by decide +kernel⟩
theorem sc_Net_ticket : FnScope ["self", "name", "price", "lasts", "zones"] ["self", "name"] (defScope s_Net_ticket) := ⟨rfl, rfl, rfl, by decide +kernel, rfl, by decide +kernel, by decide +kernel⟩
theorem sc_Net_rule_name : FnScope ["self", "trip"] ["self", "trip"] (defScope s_Net_rule_name) := ⟨rfl, rfl, rfl, by decide +kernel, rfl, by decide +kernel, by decide +kernel⟩
theorem sc_Net_calls : FnScope ["self", "trip"] ["self", "trip"] (defScope s_Net_calls) := ⟨rfl, rfl, rfl, by decide +kernel, rfl, by decide +kernel, by decide +kernel⟩
theorem sc_law_cell_at : FnScope ["_law_script", "_law_k"] ["_law_script", "_law_k"] (defScope s_law_cell_at) := ⟨rfl, rfl, rfl, by decide +kernel, rfl, by decide +kernel, by decide +kernel⟩
theorem sc_law_mixed : FnScope ["_law_cell", "_law_k", "_law_number"] ["_law_cell", "_law_k"] (defScope s_law_mixed) := ⟨rfl, rfl, rfl, by decide +kernel, rfl, by decide +kernel, by decide +kernel⟩
theorem sc_law_among : FnScope ["_law_thing", "_law_least", "_law_most"] ["_law_thing", "_law_least", "_law_most"] (defScope s_law_among) := ⟨rfl, rfl, rfl, by decide +kernel, rfl, by decide +kernel, by decide +kernel⟩
theorem sc_law_name : FnScope ["_law_seed", "_law_k", "_law_letters", "_law_tail", "_law_at", "_law_j"] ["_law_seed", "_law_k"] (defScope s_law_name) := ⟨rfl, rfl, rfl, by decide +kernel, rfl, by decide +kernel, by decide +kernel⟩
theorem sc_law_is_name : FnScope ["_law_thing", "_law_sign"] ["_law_thing"] (defScope s_law_is_name) := ⟨rfl, rfl, rfl, by decide +kernel, rfl, by decide +kernel, by decide +kernel⟩
theorem sc_law_said : FnScope ["_law_call", "e", "_law_found"] ["_law_call"] (defScope s_law_said) := ⟨rfl, rfl, rfl, by decide +kernel, rfl, by decide +kernel, by decide +kernel⟩
theorem sc_law_days : FnScope ["_law_number", "_law_deep", "_law_more", "_law_way", "_law_starts", "_law_inner"] ["_law_number", "_law_deep"] (defScope s_law_days) := ⟨rfl, rfl, rfl, by decide +kernel, rfl, by decide +kernel, by decide +kernel⟩
theorem sc_law_rule : FnScope ["_law_told"] ["_law_told"] (defScope s_law_rule) := ⟨rfl, rfl, rfl, by decide +kernel, rfl, by decide +kernel, by decide +kernel⟩
theorem sc_law_runs : FnScope ["_law_told", "_law_day", "_law_one_here", "_law_other"] ["_law_told", "_law_day"] (defScope s_law_runs) := ⟨rfl, rfl, rfl, by decide +kernel, rfl, by decide +kernel, by decide +kernel⟩
theorem sc_law_calls : FnScope ["_law_number", "_law_stops", "_law_many", "_law_found", "_law_time", "_law_last", "_law_k", "_law_mixed_here", "_law_left", "_law_arrive", "_law_leave", "_law_stop"] ["_law_number", "_law_stops", "_law_many"] (defScope s_law_calls) := ⟨rfl, rfl, rfl, by decide +kernel, rfl, by decide +kernel, by decide +kernel⟩
theorem sc_law_world : FnScope [] [] (defScope s_law_world) := ⟨rfl, rfl, rfl, by decide +kernel, rfl, by decide +kernel, by decide +kernel⟩
theorem sc_law_fresh : FnScope ["_law_name_here", "_law_kept"] ["_law_name_here", "_law_kept"] (defScope s_law_fresh) := ⟨rfl, rfl, rfl, by decide +kernel, rfl, by decide +kernel, by decide +kernel⟩
theorem sc_law_are_zones : FnScope ["_law_thing", "_law_one_here"] ["_law_thing"] (defScope s_law_are_zones) := ⟨rfl, rfl, rfl, by decide +kernel, rfl, by decide +kernel, by decide +kernel⟩
theorem sc_law_due_stop : FnScope ["_law_world_here", "_law_given_here", "_law_due"] ["_law_world_here", "_law_given_here"] (defScope s_law_due_stop) := ⟨rfl, rfl, rfl, by decide +kernel, rfl, by decide +kernel, by decide +kernel⟩
theorem sc_law_due_walk : FnScope ["_law_world_here", "_law_given_here", "_law_one_here", "_law_other", "_law_minutes", "_law_name_here", "_law_pairs", "_law_walk"] ["_law_world_here", "_law_given_here"] (defScope s_law_due_walk) := ⟨rfl, rfl, rfl, by decide +kernel, rfl, by decide +kernel, by decide +kernel⟩
theorem sc_law_due_rule : FnScope ["_law_world_here", "_law_name_here", "_law_told", "_law_due"] ["_law_world_here", "_law_name_here", "_law_told"] (defScope s_law_due_rule) := ⟨rfl, rfl, rfl, by decide +kernel, rfl, by decide +kernel, by decide +kernel⟩
theorem sc_law_due_ticket : FnScope ["_law_world_here", "_law_given_here", "_law_due", "_law_good"] ["_law_world_here", "_law_given_here"] (defScope s_law_due_ticket) := ⟨rfl, rfl, rfl, by decide +kernel, rfl, by decide +kernel, by decide +kernel⟩
theorem sc_law_due_trip : FnScope ["_law_world_here", "_law_given_here", "_law_due"] ["_law_world_here", "_law_given_here"] (defScope s_law_due_trip) := ⟨rfl, rfl, rfl, by decide +kernel, rfl, by decide +kernel, by decide +kernel⟩
theorem sc_law_given : FnScope ["_law_world_here", "_law_names", "_law_mixed_here", "_law_sort", "_law_name_here", "_law_more", "_law_odd_name", "_law_odd", "_law_at", "_law_given_here", "_law_some", "_law_stops", "_law_wants"] ["_law_world_here", "_law_names", "_law_mixed_here"] (defScope s_law_given) := ⟨rfl, rfl, rfl, by decide +kernel, rfl, by decide +kernel, by decide +kernel⟩
theorem sc_law_put : FnScope ["_law_net", "_law_world_here", "_law_sort", "_law_given_here", "_law_found", "_law_due", "_law_rule_here", "_law_zones", "_law_calls_here"] ["_law_net", "_law_world_here", "_law_sort", "_law_given_here"] (defScope s_law_put) := ⟨rfl, rfl, rfl, by decide +kernel, rfl, by decide +kernel, by decide +kernel⟩
theorem sc_law_one : FnScope ["_law_net", "_law_world_here", "_law_way", "_law_olds", "_law_found", "_law_due", "_law_told", "_law_good", "_law_name_here", "_law_days_here", "_law_ticket", "_law_trip", "_law_stop", "_law_walk", "_law_day"] ["_law_net", "_law_world_here", "_law_way", "_law_olds"] (defScope s_law_one) := ⟨rfl, rfl, rfl, by decide +kernel, rfl, by decide +kernel, by decide +kernel⟩
theorem sc_law_stands : FnScope ["_law_net", "_law_world_here", "_law_turn", "_law_olds", "_law_order", "_law_way"] ["_law_net", "_law_world_here", "_law_turn", "_law_olds"] (defScope s_law_stands) := ⟨rfl, rfl, rfl, by decide +kernel, rfl, by decide +kernel, by decide +kernel⟩
theorem sc_law_not_there : FnScope ["_law_net", "_law_names", "_law_mixed_here", "_law_odd", "_law_asked"] ["_law_net", "_law_names", "_law_mixed_here"] (defScope s_law_not_there) := ⟨rfl, rfl, rfl, by decide +kernel, rfl, by decide +kernel, by decide +kernel⟩
theorem sc_law_filled : FnScope ["_law_net", "_law_world_here", "_law_seed", "_law_names", "_law_k", "_law_stops", "_law_rules", "_law_calls_here"] ["_law_net", "_law_world_here", "_law_seed"] (defScope s_law_filled) := ⟨rfl, rfl, rfl, by decide +kernel, rfl, by decide +kernel, by decide +kernel⟩
theorem sc_law : FnScope ["_law_script", "_law_seed", "_law_names", "_law_nets", "_law_worlds", "_law_olds", "_law_k", "_law_cell", "_law_mixed_here", "_law_at", "_law_sort", "_law_given_here", "_law_turn", "_law_pair"] ["_law_script"] (defScope s_law) := ⟨rfl, rfl, rfl, by decide +kernel, rfl, by decide +kernel, by decide +kernel⟩
/-! ### the defs, the facts -/
def dd_is_among : He.DefD := ⟨("is_among", none), "is_among", "is_among", defArgs s_is_among, defBody s_is_among, defScope s_is_among, [], []⟩
def dd_need : He.DefD := ⟨("need", none), "need", "need", defArgs s_need, defBody s_need, defScope s_need, [], []⟩
def dd_are_rising : He.DefD := ⟨("are_rising", none), "are_rising", "are_rising", defArgs s_are_rising, defBody s_are_rising, defScope s_are_rising, [], []⟩
def dd_Rule_runs : He.DefD := ⟨("Rule", some "runs"), "runs", "Rule.runs", defArgs s_Rule_runs, defBody s_Rule_runs, defScope s_Rule_runs, [], []⟩
def dd_Rule_parts : He.DefD := ⟨("Rule", some "parts"), "parts", "Rule.parts", defArgs s_Rule_parts, defBody s_Rule_parts, defScope s_Rule_parts, [], []⟩
def dd_Rule_weight : He.DefD := ⟨("Rule", some "weight"), "weight", "Rule.weight", defArgs s_Rule_weight, defBody s_Rule_weight, defScope s_Rule_weight, [], []⟩
def dd_Rule_depth : He.DefD := ⟨("Rule", some "depth"), "depth", "Rule.depth", defArgs s_Rule_depth, defBody s_Rule_depth, defScope s_Rule_depth, [], []⟩
def dd_need_light : He.DefD := ⟨("need_light", none), "need_light", "need_light", defArgs s_need_light, defBody s_need_light, defScope s_need_light, [], []⟩
def dd_Week_init : He.DefD := ⟨("Week", some "__init__"), "__init__", "Week.__init__", defArgs s_Week_init, defBody s_Week_init, defScope s_Week_init, [], []⟩
def dd_Week_runs : He.DefD := ⟨("Week", some "runs"), "runs", "Week.runs", defArgs s_Week_runs, defBody s_Week_runs, defScope s_Week_runs, [], []⟩
def dd_Span_init : He.DefD := ⟨("Span", some "__init__"), "__init__", "Span.__init__", defArgs s_Span_init, defBody s_Span_init, defScope s_Span_init, [], []⟩
def dd_Span_runs : He.DefD := ⟨("Span", some "runs"), "runs", "Span.runs", defArgs s_Span_runs, defBody s_Span_runs, defScope s_Span_runs, [], []⟩
def dd_Span_parts : He.DefD := ⟨("Span", some "parts"), "parts", "Span.parts", defArgs s_Span_parts, defBody s_Span_parts, defScope s_Span_parts, [], []⟩
def dd_Each_init : He.DefD := ⟨("Each", some "__init__"), "__init__", "Each.__init__", defArgs s_Each_init, defBody s_Each_init, defScope s_Each_init, [], []⟩
def dd_Each_runs : He.DefD := ⟨("Each", some "runs"), "runs", "Each.runs", defArgs s_Each_runs, defBody s_Each_runs, defScope s_Each_runs, [], []⟩
def dd_Either_init : He.DefD := ⟨("Either", some "__init__"), "__init__", "Either.__init__", defArgs s_Either_init, defBody s_Either_init, defScope s_Either_init, [], []⟩
def dd_Either_runs : He.DefD := ⟨("Either", some "runs"), "runs", "Either.runs", defArgs s_Either_runs, defBody s_Either_runs, defScope s_Either_runs, [], []⟩
def dd_Either_parts : He.DefD := ⟨("Either", some "parts"), "parts", "Either.parts", defArgs s_Either_parts, defBody s_Either_parts, defScope s_Either_parts, [], []⟩
def dd_Both_init : He.DefD := ⟨("Both", some "__init__"), "__init__", "Both.__init__", defArgs s_Both_init, defBody s_Both_init, defScope s_Both_init, [], []⟩
def dd_Both_runs : He.DefD := ⟨("Both", some "runs"), "runs", "Both.runs", defArgs s_Both_runs, defBody s_Both_runs, defScope s_Both_runs, [], []⟩
def dd_Both_parts : He.DefD := ⟨("Both", some "parts"), "parts", "Both.parts", defArgs s_Both_parts, defBody s_Both_parts, defScope s_Both_parts, [], []⟩
def dd_But_init : He.DefD := ⟨("But", some "__init__"), "__init__", "But.__init__", defArgs s_But_init, defBody s_But_init, defScope s_But_init, [], []⟩
def dd_But_runs : He.DefD := ⟨("But", some "runs"), "runs", "But.runs", defArgs s_But_runs, defBody s_But_runs, defScope s_But_runs, [], []⟩
def dd_But_parts : He.DefD := ⟨("But", some "parts"), "parts", "But.parts", defArgs s_But_parts, defBody s_But_parts, defScope s_But_parts, [], []⟩
def dd_is_name : He.DefD := ⟨("is_name", none), "is_name", "is_name", defArgs s_is_name, defBody s_is_name, defScope s_is_name, [], []⟩
def dd_need_fresh : He.DefD := ⟨("need_fresh", none), "need_fresh", "need_fresh", defArgs s_need_fresh, defBody s_need_fresh, defScope s_need_fresh, [], []⟩
def dd_need_among : He.DefD := ⟨("need_among", none), "need_among", "need_among", defArgs s_need_among, defBody s_need_among, defScope s_need_among, [], []⟩
def dd_need_room : He.DefD := ⟨("need_room", none), "need_room", "need_room", defArgs s_need_room, defBody s_need_room, defScope s_need_room, [], []⟩
def dd_are_zones : He.DefD := ⟨("are_zones", none), "are_zones", "are_zones", defArgs s_are_zones, defBody s_are_zones, defScope s_are_zones, [], []⟩
def dd_are_calls : He.DefD := ⟨("are_calls", none), "are_calls", "are_calls", defArgs s_are_calls, defBody s_are_calls, defScope s_are_calls, [], []⟩
def dd_rises : He.DefD := ⟨("rises", none), "rises", "rises", defArgs s_rises, defBody s_rises, defScope s_rises, [], []⟩
def dd_Net_init : He.DefD := ⟨("Net", some "__init__"), "__init__", "Net.__init__", defArgs s_Net_init, defBody s_Net_init, defScope s_Net_init, [], []⟩
def dd_Net_need_stop : He.DefD := ⟨("Net", some "need_stop"), "need_stop", "Net.need_stop", defArgs s_Net_need_stop, defBody s_Net_need_stop, defScope s_Net_need_stop, [], []⟩
def dd_Net_need_rule : He.DefD := ⟨("Net", some "need_rule"), "need_rule", "Net.need_rule", defArgs s_Net_need_rule, defBody s_Net_need_rule, defScope s_Net_need_rule, [], []⟩
def dd_Net_need_trip : He.DefD := ⟨("Net", some "need_trip"), "need_trip", "Net.need_trip", defArgs s_Net_need_trip, defBody s_Net_need_trip, defScope s_Net_need_trip, [], []⟩
def dd_Net_add_stop : He.DefD := ⟨("Net", some "add_stop"), "add_stop", "Net.add_stop", defArgs s_Net_add_stop, defBody s_Net_add_stop, defScope s_Net_add_stop, [], []⟩
def dd_Net_add_walk : He.DefD := ⟨("Net", some "add_walk"), "add_walk", "Net.add_walk", defArgs s_Net_add_walk, defBody s_Net_add_walk, defScope s_Net_add_walk, [], []⟩
def dd_Net_add_rule : He.DefD := ⟨("Net", some "add_rule"), "add_rule", "Net.add_rule", defArgs s_Net_add_rule, defBody s_Net_add_rule, defScope s_Net_add_rule, [], []⟩
def dd_Net_add_ticket : He.DefD := ⟨("Net", some "add_ticket"), "add_ticket", "Net.add_ticket", defArgs s_Net_add_ticket, defBody s_Net_add_ticket, defScope s_Net_add_ticket, [], []⟩
def dd_Net_add_trip : He.DefD := ⟨("Net", some "add_trip"), "add_trip", "Net.add_trip", defArgs s_Net_add_trip, defBody s_Net_add_trip, defScope s_Net_add_trip, [], []⟩
def dd_Net_stops : He.DefD := ⟨("Net", some "stops"), "stops", "Net.stops", defArgs s_Net_stops, defBody s_Net_stops, defScope s_Net_stops, [], []⟩
def dd_Net_rules : He.DefD := ⟨("Net", some "rules"), "rules", "Net.rules", defArgs s_Net_rules, defBody s_Net_rules, defScope s_Net_rules, [], []⟩
def dd_Net_tickets : He.DefD := ⟨("Net", some "tickets"), "tickets", "Net.tickets", defArgs s_Net_tickets, defBody s_Net_tickets, defScope s_Net_tickets, [], []⟩
def dd_Net_trips : He.DefD := ⟨("Net", some "trips"), "trips", "Net.trips", defArgs s_Net_trips, defBody s_Net_trips, defScope s_Net_trips, [], []⟩
def dd_Net_walks : He.DefD := ⟨("Net", some "walks"), "walks", "Net.walks", defArgs s_Net_walks, defBody s_Net_walks, defScope s_Net_walks, [], []⟩
def dd_Net_zone : He.DefD := ⟨("Net", some "zone"), "zone", "Net.zone", defArgs s_Net_zone, defBody s_Net_zone, defScope s_Net_zone, [], []⟩
def dd_Net_change : He.DefD := ⟨("Net", some "change"), "change", "Net.change", defArgs s_Net_change, defBody s_Net_change, defScope s_Net_change, [], []⟩
def dd_Net_rule : He.DefD := ⟨("Net", some "rule"), "rule", "Net.rule", defArgs s_Net_rule, defBody s_Net_rule, defScope s_Net_rule, [], []⟩
def dd_Net_ticket : He.DefD := ⟨("Net", some "ticket"), "ticket", "Net.ticket", defArgs s_Net_ticket, defBody s_Net_ticket, defScope s_Net_ticket, [], []⟩
def dd_Net_rule_name : He.DefD := ⟨("Net", some "rule_name"), "rule_name", "Net.rule_name", defArgs s_Net_rule_name, defBody s_Net_rule_name, defScope s_Net_rule_name, [], []⟩
def dd_Net_calls : He.DefD := ⟨("Net", some "calls"), "calls", "Net.calls", defArgs s_Net_calls, defBody s_Net_calls, defScope s_Net_calls, [], []⟩
def dd_law_cell_at : He.DefD := ⟨("_law_cell_at", none), "_law_cell_at", "_law_cell_at", defArgs s_law_cell_at, defBody s_law_cell_at, defScope s_law_cell_at, [], []⟩
def dd_law_mixed : He.DefD := ⟨("_law_mixed", none), "_law_mixed", "_law_mixed", defArgs s_law_mixed, defBody s_law_mixed, defScope s_law_mixed, [], []⟩
def dd_law_among : He.DefD := ⟨("_law_among", none), "_law_among", "_law_among", defArgs s_law_among, defBody s_law_among, defScope s_law_among, [], []⟩
def dd_law_name : He.DefD := ⟨("_law_name", none), "_law_name", "_law_name", defArgs s_law_name, defBody s_law_name, defScope s_law_name, [], []⟩
def dd_law_is_name : He.DefD := ⟨("_law_is_name", none), "_law_is_name", "_law_is_name", defArgs s_law_is_name, defBody s_law_is_name, defScope s_law_is_name, [], []⟩
def dd_law_said : He.DefD := ⟨("_law_said", none), "_law_said", "_law_said", defArgs s_law_said, defBody s_law_said, defScope s_law_said, [], []⟩
def dd_law_days : He.DefD := ⟨("_law_days", none), "_law_days", "_law_days", defArgs s_law_days, defBody s_law_days, defScope s_law_days, [], []⟩
def dd_law_rule : He.DefD := ⟨("_law_rule", none), "_law_rule", "_law_rule", defArgs s_law_rule, defBody s_law_rule, defScope s_law_rule, [], []⟩
def dd_law_runs : He.DefD := ⟨("_law_runs", none), "_law_runs", "_law_runs", defArgs s_law_runs, defBody s_law_runs, defScope s_law_runs, [], []⟩
def dd_law_calls : He.DefD := ⟨("_law_calls", none), "_law_calls", "_law_calls", defArgs s_law_calls, defBody s_law_calls, defScope s_law_calls, [], []⟩
def dd_law_world : He.DefD := ⟨("_law_world", none), "_law_world", "_law_world", defArgs s_law_world, defBody s_law_world, defScope s_law_world, [], []⟩
def dd_law_fresh : He.DefD := ⟨("_law_fresh", none), "_law_fresh", "_law_fresh", defArgs s_law_fresh, defBody s_law_fresh, defScope s_law_fresh, [], []⟩
def dd_law_are_zones : He.DefD := ⟨("_law_are_zones", none), "_law_are_zones", "_law_are_zones", defArgs s_law_are_zones, defBody s_law_are_zones, defScope s_law_are_zones, [], []⟩
def dd_law_due_stop : He.DefD := ⟨("_law_due_stop", none), "_law_due_stop", "_law_due_stop", defArgs s_law_due_stop, defBody s_law_due_stop, defScope s_law_due_stop, [], []⟩
def dd_law_due_walk : He.DefD := ⟨("_law_due_walk", none), "_law_due_walk", "_law_due_walk", defArgs s_law_due_walk, defBody s_law_due_walk, defScope s_law_due_walk, [], []⟩
def dd_law_due_rule : He.DefD := ⟨("_law_due_rule", none), "_law_due_rule", "_law_due_rule", defArgs s_law_due_rule, defBody s_law_due_rule, defScope s_law_due_rule, [], []⟩
def dd_law_due_ticket : He.DefD := ⟨("_law_due_ticket", none), "_law_due_ticket", "_law_due_ticket", defArgs s_law_due_ticket, defBody s_law_due_ticket, defScope s_law_due_ticket, [], []⟩
def dd_law_due_trip : He.DefD := ⟨("_law_due_trip", none), "_law_due_trip", "_law_due_trip", defArgs s_law_due_trip, defBody s_law_due_trip, defScope s_law_due_trip, [], []⟩
def dd_law_given : He.DefD := ⟨("_law_given", none), "_law_given", "_law_given", defArgs s_law_given, defBody s_law_given, defScope s_law_given, [], []⟩
def dd_law_put : He.DefD := ⟨("_law_put", none), "_law_put", "_law_put", defArgs s_law_put, defBody s_law_put, defScope s_law_put, [], []⟩
def dd_law_one : He.DefD := ⟨("_law_one", none), "_law_one", "_law_one", defArgs s_law_one, defBody s_law_one, defScope s_law_one, [], []⟩
def dd_law_stands : He.DefD := ⟨("_law_stands", none), "_law_stands", "_law_stands", defArgs s_law_stands, defBody s_law_stands, defScope s_law_stands, [], []⟩
def dd_law_not_there : He.DefD := ⟨("_law_not_there", none), "_law_not_there", "_law_not_there", defArgs s_law_not_there, defBody s_law_not_there, defScope s_law_not_there, [], []⟩
def dd_law_filled : He.DefD := ⟨("_law_filled", none), "_law_filled", "_law_filled", defArgs s_law_filled, defBody s_law_filled, defScope s_law_filled, [], []⟩
def dd_law : He.DefD := ⟨("law", none), "law", "law", defArgs s_law, defBody s_law, defScope s_law, [], []⟩
def fn0 : List He.DefD := [dd_is_among, dd_need, dd_are_rising, dd_Rule_runs, dd_Rule_parts, dd_Rule_weight, dd_Rule_depth, dd_need_light, dd_Week_init, dd_Week_runs, dd_Span_init, dd_Span_runs, dd_Span_parts, dd_Each_init, dd_Each_runs, dd_Either_init, dd_Either_runs, dd_Either_parts, dd_Both_init, dd_Both_runs, dd_Both_parts, dd_But_init, dd_But_runs, dd_But_parts, dd_is_name, dd_need_fresh, dd_need_among, dd_need_room, dd_are_zones, dd_are_calls]
def fn1 : List He.DefD := [dd_rises, dd_Net_init, dd_Net_need_stop, dd_Net_need_rule, dd_Net_need_trip, dd_Net_add_stop, dd_Net_add_walk, dd_Net_add_rule, dd_Net_add_ticket, dd_Net_add_trip, dd_Net_stops, dd_Net_rules, dd_Net_tickets, dd_Net_trips, dd_Net_walks, dd_Net_zone, dd_Net_change, dd_Net_rule, dd_Net_ticket, dd_Net_rule_name, dd_Net_calls, dd_law_cell_at, dd_law_mixed, dd_law_among, dd_law_name, dd_law_is_name, dd_law_said, dd_law_days, dd_law_rule, dd_law_runs]
def fn2 : List He.DefD := [dd_law_calls, dd_law_world, dd_law_fresh, dd_law_are_zones, dd_law_due_stop, dd_law_due_walk, dd_law_due_rule, dd_law_due_ticket, dd_law_due_trip, dd_law_given, dd_law_put, dd_law_one, dd_law_stands, dd_law_not_there, dd_law_filled, dd_law]
def fn : List He.DefD := fn0 ++ fn1 ++ fn2
def fa0 : List He.Fa := [.glo "is_among", .glo "need", .glo "are_rising", .glo "need_light", .glo "is_name", .glo "need_fresh", .glo "need_among", .glo "need_room", .glo "are_zones", .glo "are_calls", .glo "rises", .glo "_law_cell_at", .glo "_law_mixed", .glo "_law_among", .glo "_law_name", .glo "_law_is_name", .glo "_law_said", .glo "_law_days", .glo "_law_rule", .glo "_law_runs", .glo "_law_calls", .glo "_law_world", .glo "_law_fresh", .glo "_law_are_zones", .glo "_law_due_stop", .glo "_law_due_walk", .glo "_law_due_rule", .glo "_law_due_ticket", .glo "_law_due_trip", .glo "_law_given", .glo "_law_put", .glo "_law_one", .glo "_law_stands", .glo "_law_not_there", .glo "_law_filled"]
def fa1 : List He.Fa := [.glo "law", .glo "RoadError", .glo "BadClock", .glo "BadRule", .glo "TooMany", .glo "BadName", .glo "Twice", .glo "NoStop", .glo "NoRule", .glo "NoTicket", .glo "NoTrip", .glo "BadNumber", .glo "BadCalls", .glo "NoRun", .glo "TooLate", .glo "NoTraveller", .glo "BadLine", .glo "BadRow", .glo "NoPlan", .glo "Rule", .glo "Week", .glo "Span", .glo "Each", .glo "Either", .glo "Both", .glo "But", .glo "Net", .free "int", .free "str", .free "list", .free "tuple", .free "bool", .free "set", .free "isinstance", .free "len"]
def fa2 : List He.Fa := [.free "sorted", .free "sum", .free "max", .free "all", .free "zip", .free "range", .free "enumerate", .free "ValueError", .int "LAST_DAY" 9999, .int "MOST_WEIGHT" 15, .int "MOST_DEEP" 8, .int "MOST_LENGTH" 28, .int "MOST_LISTED" 12, .str "LETTERS" "abcdefghijklmnopqrstuvwxyz", .int "MOST_LETTERS" 8, .int "MOST_MINUTE" 2879, .int "MOST_STOPS" 8, .int "MOST_WALKS" 12, .int "MOST_RULES" 6, .int "MOST_TICKETS" 3, .int "MOST_TRIPS" 10, .int "MOST_CALLS" 6, .int "MOST_ZONE" 6, .cls "Rule", .cls "Week", .mkr "Week", .cls "Span", .mkr "Span", .cls "Each", .mkr "Each", .cls "Either", .mkr "Either", .cls "Both", .mkr "Both", .cls "But"]
def fa3 : List He.Fa := [.mkr "But", .cls "Net", .mkr "Net", .noat "Week" "bits", .noat "Span" "first", .noat "Span" "last", .noat "Span" "within", .noat "Each" "length", .noat "Each" "starts", .noat "Either" "one", .noat "Either" "other", .noat "Both" "one", .noat "Both" "other", .noat "But" "days", .noat "But" "under", .noat "Net" "spots", .noat "Net" "paths", .noat "Net" "habits", .noat "Net" "passes", .noat "Net" "lines", .meth "Rule" "runs", .meth "Rule" "parts", .meth "Rule" "weight", .meth "Rule" "depth", .meth "Week" "runs", .meth "Week" "parts", .meth "Week" "weight", .meth "Week" "depth", .meth "Span" "runs", .meth "Span" "parts", .meth "Span" "weight", .meth "Span" "depth", .meth "Each" "runs", .meth "Each" "parts", .meth "Each" "weight"]
def fa4 : List He.Fa := [.meth "Each" "depth", .meth "Either" "runs", .meth "Either" "parts", .meth "Either" "weight", .meth "Either" "depth", .meth "Both" "runs", .meth "Both" "parts", .meth "Both" "weight", .meth "Both" "depth", .meth "But" "runs", .meth "But" "parts", .meth "But" "weight", .meth "But" "depth", .meth "Net" "need_stop", .meth "Net" "need_rule", .meth "Net" "need_trip", .meth "Net" "add_stop", .meth "Net" "add_walk", .meth "Net" "add_rule", .meth "Net" "add_ticket", .meth "Net" "add_trip", .meth "Net" "stops", .meth "Net" "rules", .meth "Net" "tickets", .meth "Net" "trips", .meth "Net" "walks", .meth "Net" "zone", .meth "Net" "change", .meth "Net" "rule", .meth "Net" "ticket", .meth "Net" "rule_name", .meth "Net" "calls", .exc "BadRule", .exm "BadRule" "RoadError" true, .exc "TooMany"]
def fa5 : List He.Fa := [.exm "TooMany" "RoadError" true, .exc "BadName", .exm "BadName" "RoadError" true, .exc "Twice", .exm "Twice" "RoadError" true, .exc "NoStop", .exm "NoStop" "RoadError" true, .exc "NoRule", .exm "NoRule" "RoadError" true, .exc "NoTicket", .exm "NoTicket" "RoadError" true, .exc "NoTrip", .exm "NoTrip" "RoadError" true, .exc "BadNumber", .exm "BadNumber" "RoadError" true, .exc "BadCalls", .exm "BadCalls" "RoadError" true]
def fa : List He.Fa := fa0 ++ fa1 ++ fa2 ++ fa3 ++ fa4 ++ fa5
/-- what isinstance asks of an own class C, of the class R: is C below it -/
def insB (K : PySem.W.Frag) (x : Str) : Bool := let C := He.ga K x
  decide (PySem.W.findIn K (.ref C) "__class__" = some (some (.builtin "object.__class__"))) && decide (PySem.W.specialIn K (.builtin "object.__class__") "__get__" = some (some (.builtin "getset_descriptor.__get__"))) &&
    decide (PySem.W.takesIn K (.builtin "object.__class__") = some true) && decide (PySem.W.mroIn K C (.type "object") = some true)
def kitB2 (K : PySem.W.Frag) (t : Value) (y : Str) (b : Bool) : Bool := decide (PySem.W.kitOne K t (.ref (He.ga K y)) = some b)
def excCB (K : PySem.W.Frag) (x : Str) : Bool := let D := He.ga K x
  decide (PySem.W.findIn K (.ref D) "__getattribute__" = some (some (.builtin "BaseException.__getattribute__"))) && decide (PySem.W.findIn K (.ref D) "__getattr__" = some none) && decide (PySem.W.subIn K (.ref D) (.type "BaseException") = some true) && PySem.W.hasDictIn K D && insB K x
def ownNames : List Str := ["Rule", "Week", "Span", "Each", "Either", "Both", "But", "Net"]
def ruleNames : List Str := ["Rule", "Week", "Span", "Each", "Either", "Both", "But"]
/-- the classes below Rule; those of them that take its parts -/
def underNames : List Str := ["Week", "Span", "Each", "Either", "Both", "But"]
def bareNames : List Str := ["Week", "Each"]
def raisedNames : List Str := ["BadRule", "TooMany", "BadName", "Twice", "NoStop", "NoRule", "NoTicket", "NoTrip", "BadNumber", "BadCalls"]
def excNames : List Str := ["BadClock", "BadRule", "TooMany", "BadName", "Twice", "NoStop", "NoRule", "NoTicket", "NoTrip", "BadNumber", "BadCalls", "NoRun", "TooLate", "NoTraveller", "BadLine", "BadRow", "NoPlan"]
def typNames : List String := ["NoneType", "bool", "int", "str", "list", "tuple", "dict"]
/-- the class Rule is made by object's own __init__; isinstance; the exceptions' classes -/
def exB (K : PySem.W.Frag) : Bool :=
  (PySem.W.makesIn K (He.ga K "Rule") && decide (PySem.W.findIn K (.ref (He.ga K "Rule")) "__init__" = some (some (.builtin "object.__init__"))) && PySem.W.keepIn K (.ref (He.ga K "Rule"))) &&
  (ownNames.all fun x => insB K x) && (ruleNames.all fun x => kitB2 K (.ref (He.ga K x)) "Rule" true) && (typNames.all fun t => kitB2 K (.type t) "Rule" false) &&
  (raisedNames.all fun x => excCB K x) && (raisedNames.all fun x => excNames.all fun y => kitB2 K (.ref (He.ga K x)) y (decide (x = y))) && (raisedNames.all fun x => decide (PySem.W.kitOne K (.ref (He.ga K x)) (.type "ValueError") = some true)) &&
  (underNames.all fun x => decide (He.ma K (He.ga K x) "weight" = He.ma K (He.ga K "Rule") "weight") && decide (He.ma K (He.ga K x) "depth" = He.ma K (He.ga K "Rule") "depth")) &&
  (bareNames.all fun x => decide (He.ma K (He.ga K x) "parts" = He.ma K (He.ga K "Rule") "parts")) &&
  decide ((He.cT K ("_law_put", none)).2 ≠ (He.cT K ("_law_not_there", none)).2)

/-- what is known of the top: the fragment K, the module's names mg -/
structure Tx (K : PySem.W.Frag) (mg : Str → Option Value) : Prop where
  ex_ : ∃ h : Heap, K.In h ∧ h.Ns mainGlobals mg
  sd : He.SaysD fa fn K
  eb : exB K = true
section
variable {K : PySem.W.Frag} {mg : Str → Option Value}
theorem Tx.g_is_among (T : Tx K mg) : mg "is_among" = some (.ref (He.ga K "is_among")) := by
  obtain ⟨h, a, b⟩ := T.ex_
  exact He.glo_ok a b (T.sd.fact 0 rfl)
theorem Tx.g_need (T : Tx K mg) : mg "need" = some (.ref (He.ga K "need")) := by
  obtain ⟨h, a, b⟩ := T.ex_
  exact He.glo_ok a b (T.sd.fact 1 rfl)
theorem Tx.g_are_rising (T : Tx K mg) : mg "are_rising" = some (.ref (He.ga K "are_rising")) := by
  obtain ⟨h, a, b⟩ := T.ex_
  exact He.glo_ok a b (T.sd.fact 2 rfl)
theorem Tx.g_need_light (T : Tx K mg) : mg "need_light" = some (.ref (He.ga K "need_light")) := by
  obtain ⟨h, a, b⟩ := T.ex_
  exact He.glo_ok a b (T.sd.fact 3 rfl)
theorem Tx.g_is_name (T : Tx K mg) : mg "is_name" = some (.ref (He.ga K "is_name")) := by
  obtain ⟨h, a, b⟩ := T.ex_
  exact He.glo_ok a b (T.sd.fact 4 rfl)
theorem Tx.g_need_fresh (T : Tx K mg) : mg "need_fresh" = some (.ref (He.ga K "need_fresh")) := by
  obtain ⟨h, a, b⟩ := T.ex_
  exact He.glo_ok a b (T.sd.fact 5 rfl)
theorem Tx.g_need_among (T : Tx K mg) : mg "need_among" = some (.ref (He.ga K "need_among")) := by
  obtain ⟨h, a, b⟩ := T.ex_
  exact He.glo_ok a b (T.sd.fact 6 rfl)
theorem Tx.g_need_room (T : Tx K mg) : mg "need_room" = some (.ref (He.ga K "need_room")) := by
  obtain ⟨h, a, b⟩ := T.ex_
  exact He.glo_ok a b (T.sd.fact 7 rfl)
theorem Tx.g_are_zones (T : Tx K mg) : mg "are_zones" = some (.ref (He.ga K "are_zones")) := by
  obtain ⟨h, a, b⟩ := T.ex_
  exact He.glo_ok a b (T.sd.fact 8 rfl)
theorem Tx.g_are_calls (T : Tx K mg) : mg "are_calls" = some (.ref (He.ga K "are_calls")) := by
  obtain ⟨h, a, b⟩ := T.ex_
  exact He.glo_ok a b (T.sd.fact 9 rfl)
theorem Tx.g_rises (T : Tx K mg) : mg "rises" = some (.ref (He.ga K "rises")) := by
  obtain ⟨h, a, b⟩ := T.ex_
  exact He.glo_ok a b (T.sd.fact 10 rfl)
theorem Tx.g__law_cell_at (T : Tx K mg) : mg "_law_cell_at" = some (.ref (He.ga K "_law_cell_at")) := by
  obtain ⟨h, a, b⟩ := T.ex_
  exact He.glo_ok a b (T.sd.fact 11 rfl)
theorem Tx.g__law_mixed (T : Tx K mg) : mg "_law_mixed" = some (.ref (He.ga K "_law_mixed")) := by
  obtain ⟨h, a, b⟩ := T.ex_
  exact He.glo_ok a b (T.sd.fact 12 rfl)
theorem Tx.g__law_among (T : Tx K mg) : mg "_law_among" = some (.ref (He.ga K "_law_among")) := by
  obtain ⟨h, a, b⟩ := T.ex_
  exact He.glo_ok a b (T.sd.fact 13 rfl)
theorem Tx.g__law_name (T : Tx K mg) : mg "_law_name" = some (.ref (He.ga K "_law_name")) := by
  obtain ⟨h, a, b⟩ := T.ex_
  exact He.glo_ok a b (T.sd.fact 14 rfl)
theorem Tx.g__law_is_name (T : Tx K mg) : mg "_law_is_name" = some (.ref (He.ga K "_law_is_name")) := by
  obtain ⟨h, a, b⟩ := T.ex_
  exact He.glo_ok a b (T.sd.fact 15 rfl)
theorem Tx.g__law_said (T : Tx K mg) : mg "_law_said" = some (.ref (He.ga K "_law_said")) := by
  obtain ⟨h, a, b⟩ := T.ex_
  exact He.glo_ok a b (T.sd.fact 16 rfl)
theorem Tx.g__law_days (T : Tx K mg) : mg "_law_days" = some (.ref (He.ga K "_law_days")) := by
  obtain ⟨h, a, b⟩ := T.ex_
  exact He.glo_ok a b (T.sd.fact 17 rfl)
theorem Tx.g__law_rule (T : Tx K mg) : mg "_law_rule" = some (.ref (He.ga K "_law_rule")) := by
  obtain ⟨h, a, b⟩ := T.ex_
  exact He.glo_ok a b (T.sd.fact 18 rfl)
theorem Tx.g__law_runs (T : Tx K mg) : mg "_law_runs" = some (.ref (He.ga K "_law_runs")) := by
  obtain ⟨h, a, b⟩ := T.ex_
  exact He.glo_ok a b (T.sd.fact 19 rfl)
theorem Tx.g__law_calls (T : Tx K mg) : mg "_law_calls" = some (.ref (He.ga K "_law_calls")) := by
  obtain ⟨h, a, b⟩ := T.ex_
  exact He.glo_ok a b (T.sd.fact 20 rfl)
theorem Tx.g__law_world (T : Tx K mg) : mg "_law_world" = some (.ref (He.ga K "_law_world")) := by
  obtain ⟨h, a, b⟩ := T.ex_
  exact He.glo_ok a b (T.sd.fact 21 rfl)
theorem Tx.g__law_fresh (T : Tx K mg) : mg "_law_fresh" = some (.ref (He.ga K "_law_fresh")) := by
  obtain ⟨h, a, b⟩ := T.ex_
  exact He.glo_ok a b (T.sd.fact 22 rfl)
theorem Tx.g__law_are_zones (T : Tx K mg) : mg "_law_are_zones" = some (.ref (He.ga K "_law_are_zones")) := by
  obtain ⟨h, a, b⟩ := T.ex_
  exact He.glo_ok a b (T.sd.fact 23 rfl)
theorem Tx.g__law_due_stop (T : Tx K mg) : mg "_law_due_stop" = some (.ref (He.ga K "_law_due_stop")) := by
  obtain ⟨h, a, b⟩ := T.ex_
  exact He.glo_ok a b (T.sd.fact 24 rfl)
theorem Tx.g__law_due_walk (T : Tx K mg) : mg "_law_due_walk" = some (.ref (He.ga K "_law_due_walk")) := by
  obtain ⟨h, a, b⟩ := T.ex_
  exact He.glo_ok a b (T.sd.fact 25 rfl)
theorem Tx.g__law_due_rule (T : Tx K mg) : mg "_law_due_rule" = some (.ref (He.ga K "_law_due_rule")) := by
  obtain ⟨h, a, b⟩ := T.ex_
  exact He.glo_ok a b (T.sd.fact 26 rfl)
theorem Tx.g__law_due_ticket (T : Tx K mg) : mg "_law_due_ticket" = some (.ref (He.ga K "_law_due_ticket")) := by
  obtain ⟨h, a, b⟩ := T.ex_
  exact He.glo_ok a b (T.sd.fact 27 rfl)
theorem Tx.g__law_due_trip (T : Tx K mg) : mg "_law_due_trip" = some (.ref (He.ga K "_law_due_trip")) := by
  obtain ⟨h, a, b⟩ := T.ex_
  exact He.glo_ok a b (T.sd.fact 28 rfl)
theorem Tx.g__law_given (T : Tx K mg) : mg "_law_given" = some (.ref (He.ga K "_law_given")) := by
  obtain ⟨h, a, b⟩ := T.ex_
  exact He.glo_ok a b (T.sd.fact 29 rfl)
theorem Tx.g__law_put (T : Tx K mg) : mg "_law_put" = some (.ref (He.ga K "_law_put")) := by
  obtain ⟨h, a, b⟩ := T.ex_
  exact He.glo_ok a b (T.sd.fact 30 rfl)
theorem Tx.g__law_one (T : Tx K mg) : mg "_law_one" = some (.ref (He.ga K "_law_one")) := by
  obtain ⟨h, a, b⟩ := T.ex_
  exact He.glo_ok a b (T.sd.fact 31 rfl)
theorem Tx.g__law_stands (T : Tx K mg) : mg "_law_stands" = some (.ref (He.ga K "_law_stands")) := by
  obtain ⟨h, a, b⟩ := T.ex_
  exact He.glo_ok a b (T.sd.fact 32 rfl)
theorem Tx.g__law_not_there (T : Tx K mg) : mg "_law_not_there" = some (.ref (He.ga K "_law_not_there")) := by
  obtain ⟨h, a, b⟩ := T.ex_
  exact He.glo_ok a b (T.sd.fact 33 rfl)
theorem Tx.g__law_filled (T : Tx K mg) : mg "_law_filled" = some (.ref (He.ga K "_law_filled")) := by
  obtain ⟨h, a, b⟩ := T.ex_
  exact He.glo_ok a b (T.sd.fact 34 rfl)
theorem Tx.g_law (T : Tx K mg) : mg "law" = some (.ref (He.ga K "law")) := by
  obtain ⟨h, a, b⟩ := T.ex_
  exact He.glo_ok a b (T.sd.fact 35 rfl)
theorem Tx.g_RoadError (T : Tx K mg) : mg "RoadError" = some (.ref (He.ga K "RoadError")) := by
  obtain ⟨h, a, b⟩ := T.ex_
  exact He.glo_ok a b (T.sd.fact 36 rfl)
theorem Tx.g_BadClock (T : Tx K mg) : mg "BadClock" = some (.ref (He.ga K "BadClock")) := by
  obtain ⟨h, a, b⟩ := T.ex_
  exact He.glo_ok a b (T.sd.fact 37 rfl)
theorem Tx.g_BadRule (T : Tx K mg) : mg "BadRule" = some (.ref (He.ga K "BadRule")) := by
  obtain ⟨h, a, b⟩ := T.ex_
  exact He.glo_ok a b (T.sd.fact 38 rfl)
theorem Tx.g_TooMany (T : Tx K mg) : mg "TooMany" = some (.ref (He.ga K "TooMany")) := by
  obtain ⟨h, a, b⟩ := T.ex_
  exact He.glo_ok a b (T.sd.fact 39 rfl)
theorem Tx.g_BadName (T : Tx K mg) : mg "BadName" = some (.ref (He.ga K "BadName")) := by
  obtain ⟨h, a, b⟩ := T.ex_
  exact He.glo_ok a b (T.sd.fact 40 rfl)
theorem Tx.g_Twice (T : Tx K mg) : mg "Twice" = some (.ref (He.ga K "Twice")) := by
  obtain ⟨h, a, b⟩ := T.ex_
  exact He.glo_ok a b (T.sd.fact 41 rfl)
theorem Tx.g_NoStop (T : Tx K mg) : mg "NoStop" = some (.ref (He.ga K "NoStop")) := by
  obtain ⟨h, a, b⟩ := T.ex_
  exact He.glo_ok a b (T.sd.fact 42 rfl)
theorem Tx.g_NoRule (T : Tx K mg) : mg "NoRule" = some (.ref (He.ga K "NoRule")) := by
  obtain ⟨h, a, b⟩ := T.ex_
  exact He.glo_ok a b (T.sd.fact 43 rfl)
theorem Tx.g_NoTicket (T : Tx K mg) : mg "NoTicket" = some (.ref (He.ga K "NoTicket")) := by
  obtain ⟨h, a, b⟩ := T.ex_
  exact He.glo_ok a b (T.sd.fact 44 rfl)
theorem Tx.g_NoTrip (T : Tx K mg) : mg "NoTrip" = some (.ref (He.ga K "NoTrip")) := by
  obtain ⟨h, a, b⟩ := T.ex_
  exact He.glo_ok a b (T.sd.fact 45 rfl)
theorem Tx.g_BadNumber (T : Tx K mg) : mg "BadNumber" = some (.ref (He.ga K "BadNumber")) := by
  obtain ⟨h, a, b⟩ := T.ex_
  exact He.glo_ok a b (T.sd.fact 46 rfl)
theorem Tx.g_BadCalls (T : Tx K mg) : mg "BadCalls" = some (.ref (He.ga K "BadCalls")) := by
  obtain ⟨h, a, b⟩ := T.ex_
  exact He.glo_ok a b (T.sd.fact 47 rfl)
theorem Tx.g_NoRun (T : Tx K mg) : mg "NoRun" = some (.ref (He.ga K "NoRun")) := by
  obtain ⟨h, a, b⟩ := T.ex_
  exact He.glo_ok a b (T.sd.fact 48 rfl)
theorem Tx.g_TooLate (T : Tx K mg) : mg "TooLate" = some (.ref (He.ga K "TooLate")) := by
  obtain ⟨h, a, b⟩ := T.ex_
  exact He.glo_ok a b (T.sd.fact 49 rfl)
theorem Tx.g_NoTraveller (T : Tx K mg) : mg "NoTraveller" = some (.ref (He.ga K "NoTraveller")) := by
  obtain ⟨h, a, b⟩ := T.ex_
  exact He.glo_ok a b (T.sd.fact 50 rfl)
theorem Tx.g_BadLine (T : Tx K mg) : mg "BadLine" = some (.ref (He.ga K "BadLine")) := by
  obtain ⟨h, a, b⟩ := T.ex_
  exact He.glo_ok a b (T.sd.fact 51 rfl)
theorem Tx.g_BadRow (T : Tx K mg) : mg "BadRow" = some (.ref (He.ga K "BadRow")) := by
  obtain ⟨h, a, b⟩ := T.ex_
  exact He.glo_ok a b (T.sd.fact 52 rfl)
theorem Tx.g_NoPlan (T : Tx K mg) : mg "NoPlan" = some (.ref (He.ga K "NoPlan")) := by
  obtain ⟨h, a, b⟩ := T.ex_
  exact He.glo_ok a b (T.sd.fact 53 rfl)
theorem Tx.g_Rule (T : Tx K mg) : mg "Rule" = some (.ref (He.ga K "Rule")) := by
  obtain ⟨h, a, b⟩ := T.ex_
  exact He.glo_ok a b (T.sd.fact 54 rfl)
theorem Tx.g_Week (T : Tx K mg) : mg "Week" = some (.ref (He.ga K "Week")) := by
  obtain ⟨h, a, b⟩ := T.ex_
  exact He.glo_ok a b (T.sd.fact 55 rfl)
theorem Tx.g_Span (T : Tx K mg) : mg "Span" = some (.ref (He.ga K "Span")) := by
  obtain ⟨h, a, b⟩ := T.ex_
  exact He.glo_ok a b (T.sd.fact 56 rfl)
theorem Tx.g_Each (T : Tx K mg) : mg "Each" = some (.ref (He.ga K "Each")) := by
  obtain ⟨h, a, b⟩ := T.ex_
  exact He.glo_ok a b (T.sd.fact 57 rfl)
theorem Tx.g_Either (T : Tx K mg) : mg "Either" = some (.ref (He.ga K "Either")) := by
  obtain ⟨h, a, b⟩ := T.ex_
  exact He.glo_ok a b (T.sd.fact 58 rfl)
theorem Tx.g_Both (T : Tx K mg) : mg "Both" = some (.ref (He.ga K "Both")) := by
  obtain ⟨h, a, b⟩ := T.ex_
  exact He.glo_ok a b (T.sd.fact 59 rfl)
theorem Tx.g_But (T : Tx K mg) : mg "But" = some (.ref (He.ga K "But")) := by
  obtain ⟨h, a, b⟩ := T.ex_
  exact He.glo_ok a b (T.sd.fact 60 rfl)
theorem Tx.g_Net (T : Tx K mg) : mg "Net" = some (.ref (He.ga K "Net")) := by
  obtain ⟨h, a, b⟩ := T.ex_
  exact He.glo_ok a b (T.sd.fact 61 rfl)
theorem Tx.f_int (T : Tx K mg) : mg "int" = none := by
  obtain ⟨h, a, b⟩ := T.ex_
  exact He.free_ok a b (T.sd.fact 62 rfl)
theorem Tx.f_str (T : Tx K mg) : mg "str" = none := by
  obtain ⟨h, a, b⟩ := T.ex_
  exact He.free_ok a b (T.sd.fact 63 rfl)
theorem Tx.f_list (T : Tx K mg) : mg "list" = none := by
  obtain ⟨h, a, b⟩ := T.ex_
  exact He.free_ok a b (T.sd.fact 64 rfl)
theorem Tx.f_tuple (T : Tx K mg) : mg "tuple" = none := by
  obtain ⟨h, a, b⟩ := T.ex_
  exact He.free_ok a b (T.sd.fact 65 rfl)
theorem Tx.f_bool (T : Tx K mg) : mg "bool" = none := by
  obtain ⟨h, a, b⟩ := T.ex_
  exact He.free_ok a b (T.sd.fact 66 rfl)
theorem Tx.f_set (T : Tx K mg) : mg "set" = none := by
  obtain ⟨h, a, b⟩ := T.ex_
  exact He.free_ok a b (T.sd.fact 67 rfl)
theorem Tx.f_isinstance (T : Tx K mg) : mg "isinstance" = none := by
  obtain ⟨h, a, b⟩ := T.ex_
  exact He.free_ok a b (T.sd.fact 68 rfl)
theorem Tx.f_len (T : Tx K mg) : mg "len" = none := by
  obtain ⟨h, a, b⟩ := T.ex_
  exact He.free_ok a b (T.sd.fact 69 rfl)
theorem Tx.f_sorted (T : Tx K mg) : mg "sorted" = none := by
  obtain ⟨h, a, b⟩ := T.ex_
  exact He.free_ok a b (T.sd.fact 70 rfl)
theorem Tx.f_sum (T : Tx K mg) : mg "sum" = none := by
  obtain ⟨h, a, b⟩ := T.ex_
  exact He.free_ok a b (T.sd.fact 71 rfl)
theorem Tx.f_max (T : Tx K mg) : mg "max" = none := by
  obtain ⟨h, a, b⟩ := T.ex_
  exact He.free_ok a b (T.sd.fact 72 rfl)
theorem Tx.f_all (T : Tx K mg) : mg "all" = none := by
  obtain ⟨h, a, b⟩ := T.ex_
  exact He.free_ok a b (T.sd.fact 73 rfl)
theorem Tx.f_zip (T : Tx K mg) : mg "zip" = none := by
  obtain ⟨h, a, b⟩ := T.ex_
  exact He.free_ok a b (T.sd.fact 74 rfl)
theorem Tx.f_range (T : Tx K mg) : mg "range" = none := by
  obtain ⟨h, a, b⟩ := T.ex_
  exact He.free_ok a b (T.sd.fact 75 rfl)
theorem Tx.f_enumerate (T : Tx K mg) : mg "enumerate" = none := by
  obtain ⟨h, a, b⟩ := T.ex_
  exact He.free_ok a b (T.sd.fact 76 rfl)
theorem Tx.f_ValueError (T : Tx K mg) : mg "ValueError" = none := by
  obtain ⟨h, a, b⟩ := T.ex_
  exact He.free_ok a b (T.sd.fact 77 rfl)
theorem Tx.c_LAST_DAY (T : Tx K mg) : ∃ u, mg "LAST_DAY" = some u ∧ RelV (.int 9999) u := by
  obtain ⟨h, a, b⟩ := T.ex_
  obtain ⟨t, e⟩ := He.int_ok a b (T.sd.fact 78 rfl)
  exact ⟨_, e, t, rfl⟩
theorem Tx.c_MOST_WEIGHT (T : Tx K mg) : ∃ u, mg "MOST_WEIGHT" = some u ∧ RelV (.int 15) u := by
  obtain ⟨h, a, b⟩ := T.ex_
  obtain ⟨t, e⟩ := He.int_ok a b (T.sd.fact 79 rfl)
  exact ⟨_, e, t, rfl⟩
theorem Tx.c_MOST_DEEP (T : Tx K mg) : ∃ u, mg "MOST_DEEP" = some u ∧ RelV (.int 8) u := by
  obtain ⟨h, a, b⟩ := T.ex_
  obtain ⟨t, e⟩ := He.int_ok a b (T.sd.fact 80 rfl)
  exact ⟨_, e, t, rfl⟩
theorem Tx.c_MOST_LENGTH (T : Tx K mg) : ∃ u, mg "MOST_LENGTH" = some u ∧ RelV (.int 28) u := by
  obtain ⟨h, a, b⟩ := T.ex_
  obtain ⟨t, e⟩ := He.int_ok a b (T.sd.fact 81 rfl)
  exact ⟨_, e, t, rfl⟩
theorem Tx.c_MOST_LISTED (T : Tx K mg) : ∃ u, mg "MOST_LISTED" = some u ∧ RelV (.int 12) u := by
  obtain ⟨h, a, b⟩ := T.ex_
  obtain ⟨t, e⟩ := He.int_ok a b (T.sd.fact 82 rfl)
  exact ⟨_, e, t, rfl⟩
theorem Tx.c_LETTERS (T : Tx K mg) : ∃ u, mg "LETTERS" = some u ∧ RelV (.str "abcdefghijklmnopqrstuvwxyz") u := by
  obtain ⟨h, a, b⟩ := T.ex_
  obtain ⟨t, e⟩ := He.str_ok a b (T.sd.fact 83 rfl)
  exact ⟨_, e, t, rfl⟩
theorem Tx.c_MOST_LETTERS (T : Tx K mg) : ∃ u, mg "MOST_LETTERS" = some u ∧ RelV (.int 8) u := by
  obtain ⟨h, a, b⟩ := T.ex_
  obtain ⟨t, e⟩ := He.int_ok a b (T.sd.fact 84 rfl)
  exact ⟨_, e, t, rfl⟩
theorem Tx.c_MOST_MINUTE (T : Tx K mg) : ∃ u, mg "MOST_MINUTE" = some u ∧ RelV (.int 2879) u := by
  obtain ⟨h, a, b⟩ := T.ex_
  obtain ⟨t, e⟩ := He.int_ok a b (T.sd.fact 85 rfl)
  exact ⟨_, e, t, rfl⟩
theorem Tx.c_MOST_STOPS (T : Tx K mg) : ∃ u, mg "MOST_STOPS" = some u ∧ RelV (.int 8) u := by
  obtain ⟨h, a, b⟩ := T.ex_
  obtain ⟨t, e⟩ := He.int_ok a b (T.sd.fact 86 rfl)
  exact ⟨_, e, t, rfl⟩
theorem Tx.c_MOST_WALKS (T : Tx K mg) : ∃ u, mg "MOST_WALKS" = some u ∧ RelV (.int 12) u := by
  obtain ⟨h, a, b⟩ := T.ex_
  obtain ⟨t, e⟩ := He.int_ok a b (T.sd.fact 87 rfl)
  exact ⟨_, e, t, rfl⟩
theorem Tx.c_MOST_RULES (T : Tx K mg) : ∃ u, mg "MOST_RULES" = some u ∧ RelV (.int 6) u := by
  obtain ⟨h, a, b⟩ := T.ex_
  obtain ⟨t, e⟩ := He.int_ok a b (T.sd.fact 88 rfl)
  exact ⟨_, e, t, rfl⟩
theorem Tx.c_MOST_TICKETS (T : Tx K mg) : ∃ u, mg "MOST_TICKETS" = some u ∧ RelV (.int 3) u := by
  obtain ⟨h, a, b⟩ := T.ex_
  obtain ⟨t, e⟩ := He.int_ok a b (T.sd.fact 89 rfl)
  exact ⟨_, e, t, rfl⟩
theorem Tx.c_MOST_TRIPS (T : Tx K mg) : ∃ u, mg "MOST_TRIPS" = some u ∧ RelV (.int 10) u := by
  obtain ⟨h, a, b⟩ := T.ex_
  obtain ⟨t, e⟩ := He.int_ok a b (T.sd.fact 90 rfl)
  exact ⟨_, e, t, rfl⟩
theorem Tx.c_MOST_CALLS (T : Tx K mg) : ∃ u, mg "MOST_CALLS" = some u ∧ RelV (.int 6) u := by
  obtain ⟨h, a, b⟩ := T.ex_
  obtain ⟨t, e⟩ := He.int_ok a b (T.sd.fact 91 rfl)
  exact ⟨_, e, t, rfl⟩
theorem Tx.c_MOST_ZONE (T : Tx K mg) : ∃ u, mg "MOST_ZONE" = some u ∧ RelV (.int 6) u := by
  obtain ⟨h, a, b⟩ := T.ex_
  obtain ⟨t, e⟩ := He.int_ok a b (T.sd.fact 92 rfl)
  exact ⟨_, e, t, rfl⟩
theorem Tx.cl_Rule (T : Tx K mg) : Cls K (He.ga K "Rule") := He.cls_ok (T.sd.fact 93 rfl)
theorem Tx.cl_Week (T : Tx K mg) : Cls K (He.ga K "Week") := He.cls_ok (T.sd.fact 94 rfl)
theorem Tx.mk_Week (T : Tx K mg) : Mk K (He.ga K "Week") (He.ma K (He.ga K "Week") "__init__") := He.mkr_ok (T.sd.fact 95 rfl)
theorem Tx.cl_Span (T : Tx K mg) : Cls K (He.ga K "Span") := He.cls_ok (T.sd.fact 96 rfl)
theorem Tx.mk_Span (T : Tx K mg) : Mk K (He.ga K "Span") (He.ma K (He.ga K "Span") "__init__") := He.mkr_ok (T.sd.fact 97 rfl)
theorem Tx.cl_Each (T : Tx K mg) : Cls K (He.ga K "Each") := He.cls_ok (T.sd.fact 98 rfl)
theorem Tx.mk_Each (T : Tx K mg) : Mk K (He.ga K "Each") (He.ma K (He.ga K "Each") "__init__") := He.mkr_ok (T.sd.fact 99 rfl)
theorem Tx.cl_Either (T : Tx K mg) : Cls K (He.ga K "Either") := He.cls_ok (T.sd.fact 100 rfl)
theorem Tx.mk_Either (T : Tx K mg) : Mk K (He.ga K "Either") (He.ma K (He.ga K "Either") "__init__") := He.mkr_ok (T.sd.fact 101 rfl)
theorem Tx.cl_Both (T : Tx K mg) : Cls K (He.ga K "Both") := He.cls_ok (T.sd.fact 102 rfl)
theorem Tx.mk_Both (T : Tx K mg) : Mk K (He.ga K "Both") (He.ma K (He.ga K "Both") "__init__") := He.mkr_ok (T.sd.fact 103 rfl)
theorem Tx.cl_But (T : Tx K mg) : Cls K (He.ga K "But") := He.cls_ok (T.sd.fact 104 rfl)
theorem Tx.mk_But (T : Tx K mg) : Mk K (He.ga K "But") (He.ma K (He.ga K "But") "__init__") := He.mkr_ok (T.sd.fact 105 rfl)
theorem Tx.cl_Net (T : Tx K mg) : Cls K (He.ga K "Net") := He.cls_ok (T.sd.fact 106 rfl)
theorem Tx.mk_Net (T : Tx K mg) : Mk K (He.ga K "Net") (He.ma K (He.ga K "Net") "__init__") := He.mkr_ok (T.sd.fact 107 rfl)
theorem Tx.n_Week_bits (T : Tx K mg) : NoAttr K (He.ga K "Week") "bits" := He.noat_ok (T.sd.fact 108 rfl)
theorem Tx.n_Span_first (T : Tx K mg) : NoAttr K (He.ga K "Span") "first" := He.noat_ok (T.sd.fact 109 rfl)
theorem Tx.n_Span_last (T : Tx K mg) : NoAttr K (He.ga K "Span") "last" := He.noat_ok (T.sd.fact 110 rfl)
theorem Tx.n_Span_within (T : Tx K mg) : NoAttr K (He.ga K "Span") "within" := He.noat_ok (T.sd.fact 111 rfl)
theorem Tx.n_Each_length (T : Tx K mg) : NoAttr K (He.ga K "Each") "length" := He.noat_ok (T.sd.fact 112 rfl)
theorem Tx.n_Each_starts (T : Tx K mg) : NoAttr K (He.ga K "Each") "starts" := He.noat_ok (T.sd.fact 113 rfl)
theorem Tx.n_Either_one (T : Tx K mg) : NoAttr K (He.ga K "Either") "one" := He.noat_ok (T.sd.fact 114 rfl)
theorem Tx.n_Either_other (T : Tx K mg) : NoAttr K (He.ga K "Either") "other" := He.noat_ok (T.sd.fact 115 rfl)
theorem Tx.n_Both_one (T : Tx K mg) : NoAttr K (He.ga K "Both") "one" := He.noat_ok (T.sd.fact 116 rfl)
theorem Tx.n_Both_other (T : Tx K mg) : NoAttr K (He.ga K "Both") "other" := He.noat_ok (T.sd.fact 117 rfl)
theorem Tx.n_But_days (T : Tx K mg) : NoAttr K (He.ga K "But") "days" := He.noat_ok (T.sd.fact 118 rfl)
theorem Tx.n_But_under (T : Tx K mg) : NoAttr K (He.ga K "But") "under" := He.noat_ok (T.sd.fact 119 rfl)
theorem Tx.n_Net_spots (T : Tx K mg) : NoAttr K (He.ga K "Net") "spots" := He.noat_ok (T.sd.fact 120 rfl)
theorem Tx.n_Net_paths (T : Tx K mg) : NoAttr K (He.ga K "Net") "paths" := He.noat_ok (T.sd.fact 121 rfl)
theorem Tx.n_Net_habits (T : Tx K mg) : NoAttr K (He.ga K "Net") "habits" := He.noat_ok (T.sd.fact 122 rfl)
theorem Tx.n_Net_passes (T : Tx K mg) : NoAttr K (He.ga K "Net") "passes" := He.noat_ok (T.sd.fact 123 rfl)
theorem Tx.n_Net_lines (T : Tx K mg) : NoAttr K (He.ga K "Net") "lines" := He.noat_ok (T.sd.fact 124 rfl)
theorem Tx.m_Rule_runs (T : Tx K mg) : Meth K (He.ga K "Rule") "runs" (He.ma K (He.ga K "Rule") "runs") := He.meth_ok (T.sd.fact 125 rfl)
theorem Tx.m_Rule_parts (T : Tx K mg) : Meth K (He.ga K "Rule") "parts" (He.ma K (He.ga K "Rule") "parts") := He.meth_ok (T.sd.fact 126 rfl)
theorem Tx.m_Rule_weight (T : Tx K mg) : Meth K (He.ga K "Rule") "weight" (He.ma K (He.ga K "Rule") "weight") := He.meth_ok (T.sd.fact 127 rfl)
theorem Tx.m_Rule_depth (T : Tx K mg) : Meth K (He.ga K "Rule") "depth" (He.ma K (He.ga K "Rule") "depth") := He.meth_ok (T.sd.fact 128 rfl)
theorem Tx.m_Week_runs (T : Tx K mg) : Meth K (He.ga K "Week") "runs" (He.ma K (He.ga K "Week") "runs") := He.meth_ok (T.sd.fact 129 rfl)
theorem Tx.m_Week_parts (T : Tx K mg) : Meth K (He.ga K "Week") "parts" (He.ma K (He.ga K "Week") "parts") := He.meth_ok (T.sd.fact 130 rfl)
theorem Tx.m_Week_weight (T : Tx K mg) : Meth K (He.ga K "Week") "weight" (He.ma K (He.ga K "Week") "weight") := He.meth_ok (T.sd.fact 131 rfl)
theorem Tx.m_Week_depth (T : Tx K mg) : Meth K (He.ga K "Week") "depth" (He.ma K (He.ga K "Week") "depth") := He.meth_ok (T.sd.fact 132 rfl)
theorem Tx.m_Span_runs (T : Tx K mg) : Meth K (He.ga K "Span") "runs" (He.ma K (He.ga K "Span") "runs") := He.meth_ok (T.sd.fact 133 rfl)
theorem Tx.m_Span_parts (T : Tx K mg) : Meth K (He.ga K "Span") "parts" (He.ma K (He.ga K "Span") "parts") := He.meth_ok (T.sd.fact 134 rfl)
theorem Tx.m_Span_weight (T : Tx K mg) : Meth K (He.ga K "Span") "weight" (He.ma K (He.ga K "Span") "weight") := He.meth_ok (T.sd.fact 135 rfl)
theorem Tx.m_Span_depth (T : Tx K mg) : Meth K (He.ga K "Span") "depth" (He.ma K (He.ga K "Span") "depth") := He.meth_ok (T.sd.fact 136 rfl)
theorem Tx.m_Each_runs (T : Tx K mg) : Meth K (He.ga K "Each") "runs" (He.ma K (He.ga K "Each") "runs") := He.meth_ok (T.sd.fact 137 rfl)
theorem Tx.m_Each_parts (T : Tx K mg) : Meth K (He.ga K "Each") "parts" (He.ma K (He.ga K "Each") "parts") := He.meth_ok (T.sd.fact 138 rfl)
theorem Tx.m_Each_weight (T : Tx K mg) : Meth K (He.ga K "Each") "weight" (He.ma K (He.ga K "Each") "weight") := He.meth_ok (T.sd.fact 139 rfl)
theorem Tx.m_Each_depth (T : Tx K mg) : Meth K (He.ga K "Each") "depth" (He.ma K (He.ga K "Each") "depth") := He.meth_ok (T.sd.fact 140 rfl)
theorem Tx.m_Either_runs (T : Tx K mg) : Meth K (He.ga K "Either") "runs" (He.ma K (He.ga K "Either") "runs") := He.meth_ok (T.sd.fact 141 rfl)
theorem Tx.m_Either_parts (T : Tx K mg) : Meth K (He.ga K "Either") "parts" (He.ma K (He.ga K "Either") "parts") := He.meth_ok (T.sd.fact 142 rfl)
theorem Tx.m_Either_weight (T : Tx K mg) : Meth K (He.ga K "Either") "weight" (He.ma K (He.ga K "Either") "weight") := He.meth_ok (T.sd.fact 143 rfl)
theorem Tx.m_Either_depth (T : Tx K mg) : Meth K (He.ga K "Either") "depth" (He.ma K (He.ga K "Either") "depth") := He.meth_ok (T.sd.fact 144 rfl)
theorem Tx.m_Both_runs (T : Tx K mg) : Meth K (He.ga K "Both") "runs" (He.ma K (He.ga K "Both") "runs") := He.meth_ok (T.sd.fact 145 rfl)
theorem Tx.m_Both_parts (T : Tx K mg) : Meth K (He.ga K "Both") "parts" (He.ma K (He.ga K "Both") "parts") := He.meth_ok (T.sd.fact 146 rfl)
theorem Tx.m_Both_weight (T : Tx K mg) : Meth K (He.ga K "Both") "weight" (He.ma K (He.ga K "Both") "weight") := He.meth_ok (T.sd.fact 147 rfl)
theorem Tx.m_Both_depth (T : Tx K mg) : Meth K (He.ga K "Both") "depth" (He.ma K (He.ga K "Both") "depth") := He.meth_ok (T.sd.fact 148 rfl)
theorem Tx.m_But_runs (T : Tx K mg) : Meth K (He.ga K "But") "runs" (He.ma K (He.ga K "But") "runs") := He.meth_ok (T.sd.fact 149 rfl)
theorem Tx.m_But_parts (T : Tx K mg) : Meth K (He.ga K "But") "parts" (He.ma K (He.ga K "But") "parts") := He.meth_ok (T.sd.fact 150 rfl)
theorem Tx.m_But_weight (T : Tx K mg) : Meth K (He.ga K "But") "weight" (He.ma K (He.ga K "But") "weight") := He.meth_ok (T.sd.fact 151 rfl)
theorem Tx.m_But_depth (T : Tx K mg) : Meth K (He.ga K "But") "depth" (He.ma K (He.ga K "But") "depth") := He.meth_ok (T.sd.fact 152 rfl)
theorem Tx.m_Net_need_stop (T : Tx K mg) : Meth K (He.ga K "Net") "need_stop" (He.ma K (He.ga K "Net") "need_stop") := He.meth_ok (T.sd.fact 153 rfl)
theorem Tx.m_Net_need_rule (T : Tx K mg) : Meth K (He.ga K "Net") "need_rule" (He.ma K (He.ga K "Net") "need_rule") := He.meth_ok (T.sd.fact 154 rfl)
theorem Tx.m_Net_need_trip (T : Tx K mg) : Meth K (He.ga K "Net") "need_trip" (He.ma K (He.ga K "Net") "need_trip") := He.meth_ok (T.sd.fact 155 rfl)
theorem Tx.m_Net_add_stop (T : Tx K mg) : Meth K (He.ga K "Net") "add_stop" (He.ma K (He.ga K "Net") "add_stop") := He.meth_ok (T.sd.fact 156 rfl)
theorem Tx.m_Net_add_walk (T : Tx K mg) : Meth K (He.ga K "Net") "add_walk" (He.ma K (He.ga K "Net") "add_walk") := He.meth_ok (T.sd.fact 157 rfl)
theorem Tx.m_Net_add_rule (T : Tx K mg) : Meth K (He.ga K "Net") "add_rule" (He.ma K (He.ga K "Net") "add_rule") := He.meth_ok (T.sd.fact 158 rfl)
theorem Tx.m_Net_add_ticket (T : Tx K mg) : Meth K (He.ga K "Net") "add_ticket" (He.ma K (He.ga K "Net") "add_ticket") := He.meth_ok (T.sd.fact 159 rfl)
theorem Tx.m_Net_add_trip (T : Tx K mg) : Meth K (He.ga K "Net") "add_trip" (He.ma K (He.ga K "Net") "add_trip") := He.meth_ok (T.sd.fact 160 rfl)
theorem Tx.m_Net_stops (T : Tx K mg) : Meth K (He.ga K "Net") "stops" (He.ma K (He.ga K "Net") "stops") := He.meth_ok (T.sd.fact 161 rfl)
theorem Tx.m_Net_rules (T : Tx K mg) : Meth K (He.ga K "Net") "rules" (He.ma K (He.ga K "Net") "rules") := He.meth_ok (T.sd.fact 162 rfl)
theorem Tx.m_Net_tickets (T : Tx K mg) : Meth K (He.ga K "Net") "tickets" (He.ma K (He.ga K "Net") "tickets") := He.meth_ok (T.sd.fact 163 rfl)
theorem Tx.m_Net_trips (T : Tx K mg) : Meth K (He.ga K "Net") "trips" (He.ma K (He.ga K "Net") "trips") := He.meth_ok (T.sd.fact 164 rfl)
theorem Tx.m_Net_walks (T : Tx K mg) : Meth K (He.ga K "Net") "walks" (He.ma K (He.ga K "Net") "walks") := He.meth_ok (T.sd.fact 165 rfl)
theorem Tx.m_Net_zone (T : Tx K mg) : Meth K (He.ga K "Net") "zone" (He.ma K (He.ga K "Net") "zone") := He.meth_ok (T.sd.fact 166 rfl)
theorem Tx.m_Net_change (T : Tx K mg) : Meth K (He.ga K "Net") "change" (He.ma K (He.ga K "Net") "change") := He.meth_ok (T.sd.fact 167 rfl)
theorem Tx.m_Net_rule (T : Tx K mg) : Meth K (He.ga K "Net") "rule" (He.ma K (He.ga K "Net") "rule") := He.meth_ok (T.sd.fact 168 rfl)
theorem Tx.m_Net_ticket (T : Tx K mg) : Meth K (He.ga K "Net") "ticket" (He.ma K (He.ga K "Net") "ticket") := He.meth_ok (T.sd.fact 169 rfl)
theorem Tx.m_Net_rule_name (T : Tx K mg) : Meth K (He.ga K "Net") "rule_name" (He.ma K (He.ga K "Net") "rule_name") := He.meth_ok (T.sd.fact 170 rfl)
theorem Tx.m_Net_calls (T : Tx K mg) : Meth K (He.ga K "Net") "calls" (He.ma K (He.ga K "Net") "calls") := He.meth_ok (T.sd.fact 171 rfl)
theorem Tx.x_BadRule (T : Tx K mg) : PySem.W.excIn K (He.ga K "BadRule") He.veBase "ValueError.__new__" = true := (He.exc_ok (T.sd.fact 172 rfl)).1
theorem Tx.k_BadRule (T : Tx K mg) : PySem.W.keepIn K (.ref (He.ga K "BadRule")) = true := (He.exc_ok (T.sd.fact 172 rfl)).2.1
theorem Tx.b_BadRule (T : Tx K mg) : PySem.W.subIn K (.ref (He.ga K "BadRule")) (.type "BaseException") = some true := (He.exc_ok (T.sd.fact 172 rfl)).2.2.1
theorem Tx.t_BadRule (T : Tx K mg) : PySem.W.typeIn K (.ref (He.ga K "BadRule")) = some (.type "type") := (He.exc_ok (T.sd.fact 172 rfl)).2.2.2
theorem Tx.er_BadRule (T : Tx K mg) : PySem.W.exmOne K (.ref (He.ga K "BadRule")) (.ref (He.ga K "RoadError")) = some true := He.exm_ok (T.sd.fact 173 rfl)
theorem Tx.x_TooMany (T : Tx K mg) : PySem.W.excIn K (He.ga K "TooMany") He.veBase "ValueError.__new__" = true := (He.exc_ok (T.sd.fact 174 rfl)).1
theorem Tx.k_TooMany (T : Tx K mg) : PySem.W.keepIn K (.ref (He.ga K "TooMany")) = true := (He.exc_ok (T.sd.fact 174 rfl)).2.1
theorem Tx.b_TooMany (T : Tx K mg) : PySem.W.subIn K (.ref (He.ga K "TooMany")) (.type "BaseException") = some true := (He.exc_ok (T.sd.fact 174 rfl)).2.2.1
theorem Tx.t_TooMany (T : Tx K mg) : PySem.W.typeIn K (.ref (He.ga K "TooMany")) = some (.type "type") := (He.exc_ok (T.sd.fact 174 rfl)).2.2.2
theorem Tx.er_TooMany (T : Tx K mg) : PySem.W.exmOne K (.ref (He.ga K "TooMany")) (.ref (He.ga K "RoadError")) = some true := He.exm_ok (T.sd.fact 175 rfl)
theorem Tx.x_BadName (T : Tx K mg) : PySem.W.excIn K (He.ga K "BadName") He.veBase "ValueError.__new__" = true := (He.exc_ok (T.sd.fact 176 rfl)).1
theorem Tx.k_BadName (T : Tx K mg) : PySem.W.keepIn K (.ref (He.ga K "BadName")) = true := (He.exc_ok (T.sd.fact 176 rfl)).2.1
theorem Tx.b_BadName (T : Tx K mg) : PySem.W.subIn K (.ref (He.ga K "BadName")) (.type "BaseException") = some true := (He.exc_ok (T.sd.fact 176 rfl)).2.2.1
theorem Tx.t_BadName (T : Tx K mg) : PySem.W.typeIn K (.ref (He.ga K "BadName")) = some (.type "type") := (He.exc_ok (T.sd.fact 176 rfl)).2.2.2
theorem Tx.er_BadName (T : Tx K mg) : PySem.W.exmOne K (.ref (He.ga K "BadName")) (.ref (He.ga K "RoadError")) = some true := He.exm_ok (T.sd.fact 177 rfl)
theorem Tx.x_Twice (T : Tx K mg) : PySem.W.excIn K (He.ga K "Twice") He.veBase "ValueError.__new__" = true := (He.exc_ok (T.sd.fact 178 rfl)).1
theorem Tx.k_Twice (T : Tx K mg) : PySem.W.keepIn K (.ref (He.ga K "Twice")) = true := (He.exc_ok (T.sd.fact 178 rfl)).2.1
theorem Tx.b_Twice (T : Tx K mg) : PySem.W.subIn K (.ref (He.ga K "Twice")) (.type "BaseException") = some true := (He.exc_ok (T.sd.fact 178 rfl)).2.2.1
theorem Tx.t_Twice (T : Tx K mg) : PySem.W.typeIn K (.ref (He.ga K "Twice")) = some (.type "type") := (He.exc_ok (T.sd.fact 178 rfl)).2.2.2
theorem Tx.er_Twice (T : Tx K mg) : PySem.W.exmOne K (.ref (He.ga K "Twice")) (.ref (He.ga K "RoadError")) = some true := He.exm_ok (T.sd.fact 179 rfl)
theorem Tx.x_NoStop (T : Tx K mg) : PySem.W.excIn K (He.ga K "NoStop") He.veBase "ValueError.__new__" = true := (He.exc_ok (T.sd.fact 180 rfl)).1
theorem Tx.k_NoStop (T : Tx K mg) : PySem.W.keepIn K (.ref (He.ga K "NoStop")) = true := (He.exc_ok (T.sd.fact 180 rfl)).2.1
theorem Tx.b_NoStop (T : Tx K mg) : PySem.W.subIn K (.ref (He.ga K "NoStop")) (.type "BaseException") = some true := (He.exc_ok (T.sd.fact 180 rfl)).2.2.1
theorem Tx.t_NoStop (T : Tx K mg) : PySem.W.typeIn K (.ref (He.ga K "NoStop")) = some (.type "type") := (He.exc_ok (T.sd.fact 180 rfl)).2.2.2
theorem Tx.er_NoStop (T : Tx K mg) : PySem.W.exmOne K (.ref (He.ga K "NoStop")) (.ref (He.ga K "RoadError")) = some true := He.exm_ok (T.sd.fact 181 rfl)
theorem Tx.x_NoRule (T : Tx K mg) : PySem.W.excIn K (He.ga K "NoRule") He.veBase "ValueError.__new__" = true := (He.exc_ok (T.sd.fact 182 rfl)).1
theorem Tx.k_NoRule (T : Tx K mg) : PySem.W.keepIn K (.ref (He.ga K "NoRule")) = true := (He.exc_ok (T.sd.fact 182 rfl)).2.1
theorem Tx.b_NoRule (T : Tx K mg) : PySem.W.subIn K (.ref (He.ga K "NoRule")) (.type "BaseException") = some true := (He.exc_ok (T.sd.fact 182 rfl)).2.2.1
theorem Tx.t_NoRule (T : Tx K mg) : PySem.W.typeIn K (.ref (He.ga K "NoRule")) = some (.type "type") := (He.exc_ok (T.sd.fact 182 rfl)).2.2.2
theorem Tx.er_NoRule (T : Tx K mg) : PySem.W.exmOne K (.ref (He.ga K "NoRule")) (.ref (He.ga K "RoadError")) = some true := He.exm_ok (T.sd.fact 183 rfl)
theorem Tx.x_NoTicket (T : Tx K mg) : PySem.W.excIn K (He.ga K "NoTicket") He.veBase "ValueError.__new__" = true := (He.exc_ok (T.sd.fact 184 rfl)).1
theorem Tx.k_NoTicket (T : Tx K mg) : PySem.W.keepIn K (.ref (He.ga K "NoTicket")) = true := (He.exc_ok (T.sd.fact 184 rfl)).2.1
theorem Tx.b_NoTicket (T : Tx K mg) : PySem.W.subIn K (.ref (He.ga K "NoTicket")) (.type "BaseException") = some true := (He.exc_ok (T.sd.fact 184 rfl)).2.2.1
theorem Tx.t_NoTicket (T : Tx K mg) : PySem.W.typeIn K (.ref (He.ga K "NoTicket")) = some (.type "type") := (He.exc_ok (T.sd.fact 184 rfl)).2.2.2
theorem Tx.er_NoTicket (T : Tx K mg) : PySem.W.exmOne K (.ref (He.ga K "NoTicket")) (.ref (He.ga K "RoadError")) = some true := He.exm_ok (T.sd.fact 185 rfl)
theorem Tx.x_NoTrip (T : Tx K mg) : PySem.W.excIn K (He.ga K "NoTrip") He.veBase "ValueError.__new__" = true := (He.exc_ok (T.sd.fact 186 rfl)).1
theorem Tx.k_NoTrip (T : Tx K mg) : PySem.W.keepIn K (.ref (He.ga K "NoTrip")) = true := (He.exc_ok (T.sd.fact 186 rfl)).2.1
theorem Tx.b_NoTrip (T : Tx K mg) : PySem.W.subIn K (.ref (He.ga K "NoTrip")) (.type "BaseException") = some true := (He.exc_ok (T.sd.fact 186 rfl)).2.2.1
theorem Tx.t_NoTrip (T : Tx K mg) : PySem.W.typeIn K (.ref (He.ga K "NoTrip")) = some (.type "type") := (He.exc_ok (T.sd.fact 186 rfl)).2.2.2
theorem Tx.er_NoTrip (T : Tx K mg) : PySem.W.exmOne K (.ref (He.ga K "NoTrip")) (.ref (He.ga K "RoadError")) = some true := He.exm_ok (T.sd.fact 187 rfl)
theorem Tx.x_BadNumber (T : Tx K mg) : PySem.W.excIn K (He.ga K "BadNumber") He.veBase "ValueError.__new__" = true := (He.exc_ok (T.sd.fact 188 rfl)).1
theorem Tx.k_BadNumber (T : Tx K mg) : PySem.W.keepIn K (.ref (He.ga K "BadNumber")) = true := (He.exc_ok (T.sd.fact 188 rfl)).2.1
theorem Tx.b_BadNumber (T : Tx K mg) : PySem.W.subIn K (.ref (He.ga K "BadNumber")) (.type "BaseException") = some true := (He.exc_ok (T.sd.fact 188 rfl)).2.2.1
theorem Tx.t_BadNumber (T : Tx K mg) : PySem.W.typeIn K (.ref (He.ga K "BadNumber")) = some (.type "type") := (He.exc_ok (T.sd.fact 188 rfl)).2.2.2
theorem Tx.er_BadNumber (T : Tx K mg) : PySem.W.exmOne K (.ref (He.ga K "BadNumber")) (.ref (He.ga K "RoadError")) = some true := He.exm_ok (T.sd.fact 189 rfl)
theorem Tx.x_BadCalls (T : Tx K mg) : PySem.W.excIn K (He.ga K "BadCalls") He.veBase "ValueError.__new__" = true := (He.exc_ok (T.sd.fact 190 rfl)).1
theorem Tx.k_BadCalls (T : Tx K mg) : PySem.W.keepIn K (.ref (He.ga K "BadCalls")) = true := (He.exc_ok (T.sd.fact 190 rfl)).2.1
theorem Tx.b_BadCalls (T : Tx K mg) : PySem.W.subIn K (.ref (He.ga K "BadCalls")) (.type "BaseException") = some true := (He.exc_ok (T.sd.fact 190 rfl)).2.2.1
theorem Tx.t_BadCalls (T : Tx K mg) : PySem.W.typeIn K (.ref (He.ga K "BadCalls")) = some (.type "type") := (He.exc_ok (T.sd.fact 190 rfl)).2.2.2
theorem Tx.er_BadCalls (T : Tx K mg) : PySem.W.exmOne K (.ref (He.ga K "BadCalls")) (.ref (He.ga K "RoadError")) = some true := He.exm_ok (T.sd.fact 191 rfl)
theorem Tx.d_is_among (T : Tx K mg) : ∃ fd, FunD K "is_among" "is_among" (defArgs s_is_among) (defBody s_is_among) (defScope s_is_among) [] [] (He.fAd K ("is_among", none)) fd := T.sd.def_ 0 (d := dd_is_among) rfl
theorem Tx.d_need (T : Tx K mg) : ∃ fd, FunD K "need" "need" (defArgs s_need) (defBody s_need) (defScope s_need) [] [] (He.fAd K ("need", none)) fd := T.sd.def_ 1 (d := dd_need) rfl
theorem Tx.d_are_rising (T : Tx K mg) : ∃ fd, FunD K "are_rising" "are_rising" (defArgs s_are_rising) (defBody s_are_rising) (defScope s_are_rising) [] [] (He.fAd K ("are_rising", none)) fd := T.sd.def_ 2 (d := dd_are_rising) rfl
theorem Tx.d_Rule_runs (T : Tx K mg) : ∃ fd, FunD K "runs" "Rule.runs" (defArgs s_Rule_runs) (defBody s_Rule_runs) (defScope s_Rule_runs) [] [] (He.fAd K ("Rule", some "runs")) fd := T.sd.def_ 3 (d := dd_Rule_runs) rfl
theorem Tx.d_Rule_parts (T : Tx K mg) : ∃ fd, FunD K "parts" "Rule.parts" (defArgs s_Rule_parts) (defBody s_Rule_parts) (defScope s_Rule_parts) [] [] (He.fAd K ("Rule", some "parts")) fd := T.sd.def_ 4 (d := dd_Rule_parts) rfl
theorem Tx.d_Rule_weight (T : Tx K mg) : ∃ fd, FunD K "weight" "Rule.weight" (defArgs s_Rule_weight) (defBody s_Rule_weight) (defScope s_Rule_weight) [] [] (He.fAd K ("Rule", some "weight")) fd := T.sd.def_ 5 (d := dd_Rule_weight) rfl
theorem Tx.d_Rule_depth (T : Tx K mg) : ∃ fd, FunD K "depth" "Rule.depth" (defArgs s_Rule_depth) (defBody s_Rule_depth) (defScope s_Rule_depth) [] [] (He.fAd K ("Rule", some "depth")) fd := T.sd.def_ 6 (d := dd_Rule_depth) rfl
theorem Tx.d_need_light (T : Tx K mg) : ∃ fd, FunD K "need_light" "need_light" (defArgs s_need_light) (defBody s_need_light) (defScope s_need_light) [] [] (He.fAd K ("need_light", none)) fd := T.sd.def_ 7 (d := dd_need_light) rfl
theorem Tx.d_Week_init (T : Tx K mg) : ∃ fd, FunD K "__init__" "Week.__init__" (defArgs s_Week_init) (defBody s_Week_init) (defScope s_Week_init) [] [] (He.fAd K ("Week", some "__init__")) fd := T.sd.def_ 8 (d := dd_Week_init) rfl
theorem Tx.d_Week_runs (T : Tx K mg) : ∃ fd, FunD K "runs" "Week.runs" (defArgs s_Week_runs) (defBody s_Week_runs) (defScope s_Week_runs) [] [] (He.fAd K ("Week", some "runs")) fd := T.sd.def_ 9 (d := dd_Week_runs) rfl
theorem Tx.d_Span_init (T : Tx K mg) : ∃ fd, FunD K "__init__" "Span.__init__" (defArgs s_Span_init) (defBody s_Span_init) (defScope s_Span_init) [] [] (He.fAd K ("Span", some "__init__")) fd := T.sd.def_ 10 (d := dd_Span_init) rfl
theorem Tx.d_Span_runs (T : Tx K mg) : ∃ fd, FunD K "runs" "Span.runs" (defArgs s_Span_runs) (defBody s_Span_runs) (defScope s_Span_runs) [] [] (He.fAd K ("Span", some "runs")) fd := T.sd.def_ 11 (d := dd_Span_runs) rfl
theorem Tx.d_Span_parts (T : Tx K mg) : ∃ fd, FunD K "parts" "Span.parts" (defArgs s_Span_parts) (defBody s_Span_parts) (defScope s_Span_parts) [] [] (He.fAd K ("Span", some "parts")) fd := T.sd.def_ 12 (d := dd_Span_parts) rfl
theorem Tx.d_Each_init (T : Tx K mg) : ∃ fd, FunD K "__init__" "Each.__init__" (defArgs s_Each_init) (defBody s_Each_init) (defScope s_Each_init) [] [] (He.fAd K ("Each", some "__init__")) fd := T.sd.def_ 13 (d := dd_Each_init) rfl
theorem Tx.d_Each_runs (T : Tx K mg) : ∃ fd, FunD K "runs" "Each.runs" (defArgs s_Each_runs) (defBody s_Each_runs) (defScope s_Each_runs) [] [] (He.fAd K ("Each", some "runs")) fd := T.sd.def_ 14 (d := dd_Each_runs) rfl
theorem Tx.d_Either_init (T : Tx K mg) : ∃ fd, FunD K "__init__" "Either.__init__" (defArgs s_Either_init) (defBody s_Either_init) (defScope s_Either_init) [] [] (He.fAd K ("Either", some "__init__")) fd := T.sd.def_ 15 (d := dd_Either_init) rfl
theorem Tx.d_Either_runs (T : Tx K mg) : ∃ fd, FunD K "runs" "Either.runs" (defArgs s_Either_runs) (defBody s_Either_runs) (defScope s_Either_runs) [] [] (He.fAd K ("Either", some "runs")) fd := T.sd.def_ 16 (d := dd_Either_runs) rfl
theorem Tx.d_Either_parts (T : Tx K mg) : ∃ fd, FunD K "parts" "Either.parts" (defArgs s_Either_parts) (defBody s_Either_parts) (defScope s_Either_parts) [] [] (He.fAd K ("Either", some "parts")) fd := T.sd.def_ 17 (d := dd_Either_parts) rfl
theorem Tx.d_Both_init (T : Tx K mg) : ∃ fd, FunD K "__init__" "Both.__init__" (defArgs s_Both_init) (defBody s_Both_init) (defScope s_Both_init) [] [] (He.fAd K ("Both", some "__init__")) fd := T.sd.def_ 18 (d := dd_Both_init) rfl
theorem Tx.d_Both_runs (T : Tx K mg) : ∃ fd, FunD K "runs" "Both.runs" (defArgs s_Both_runs) (defBody s_Both_runs) (defScope s_Both_runs) [] [] (He.fAd K ("Both", some "runs")) fd := T.sd.def_ 19 (d := dd_Both_runs) rfl
theorem Tx.d_Both_parts (T : Tx K mg) : ∃ fd, FunD K "parts" "Both.parts" (defArgs s_Both_parts) (defBody s_Both_parts) (defScope s_Both_parts) [] [] (He.fAd K ("Both", some "parts")) fd := T.sd.def_ 20 (d := dd_Both_parts) rfl
theorem Tx.d_But_init (T : Tx K mg) : ∃ fd, FunD K "__init__" "But.__init__" (defArgs s_But_init) (defBody s_But_init) (defScope s_But_init) [] [] (He.fAd K ("But", some "__init__")) fd := T.sd.def_ 21 (d := dd_But_init) rfl
theorem Tx.d_But_runs (T : Tx K mg) : ∃ fd, FunD K "runs" "But.runs" (defArgs s_But_runs) (defBody s_But_runs) (defScope s_But_runs) [] [] (He.fAd K ("But", some "runs")) fd := T.sd.def_ 22 (d := dd_But_runs) rfl
theorem Tx.d_But_parts (T : Tx K mg) : ∃ fd, FunD K "parts" "But.parts" (defArgs s_But_parts) (defBody s_But_parts) (defScope s_But_parts) [] [] (He.fAd K ("But", some "parts")) fd := T.sd.def_ 23 (d := dd_But_parts) rfl
theorem Tx.d_is_name (T : Tx K mg) : ∃ fd, FunD K "is_name" "is_name" (defArgs s_is_name) (defBody s_is_name) (defScope s_is_name) [] [] (He.fAd K ("is_name", none)) fd := T.sd.def_ 24 (d := dd_is_name) rfl
theorem Tx.d_need_fresh (T : Tx K mg) : ∃ fd, FunD K "need_fresh" "need_fresh" (defArgs s_need_fresh) (defBody s_need_fresh) (defScope s_need_fresh) [] [] (He.fAd K ("need_fresh", none)) fd := T.sd.def_ 25 (d := dd_need_fresh) rfl
theorem Tx.d_need_among (T : Tx K mg) : ∃ fd, FunD K "need_among" "need_among" (defArgs s_need_among) (defBody s_need_among) (defScope s_need_among) [] [] (He.fAd K ("need_among", none)) fd := T.sd.def_ 26 (d := dd_need_among) rfl
theorem Tx.d_need_room (T : Tx K mg) : ∃ fd, FunD K "need_room" "need_room" (defArgs s_need_room) (defBody s_need_room) (defScope s_need_room) [] [] (He.fAd K ("need_room", none)) fd := T.sd.def_ 27 (d := dd_need_room) rfl
theorem Tx.d_are_zones (T : Tx K mg) : ∃ fd, FunD K "are_zones" "are_zones" (defArgs s_are_zones) (defBody s_are_zones) (defScope s_are_zones) [] [] (He.fAd K ("are_zones", none)) fd := T.sd.def_ 28 (d := dd_are_zones) rfl
theorem Tx.d_are_calls (T : Tx K mg) : ∃ fd, FunD K "are_calls" "are_calls" (defArgs s_are_calls) (defBody s_are_calls) (defScope s_are_calls) [] [] (He.fAd K ("are_calls", none)) fd := T.sd.def_ 29 (d := dd_are_calls) rfl
theorem Tx.d_rises (T : Tx K mg) : ∃ fd, FunD K "rises" "rises" (defArgs s_rises) (defBody s_rises) (defScope s_rises) [] [] (He.fAd K ("rises", none)) fd := T.sd.def_ 30 (d := dd_rises) rfl
theorem Tx.d_Net_init (T : Tx K mg) : ∃ fd, FunD K "__init__" "Net.__init__" (defArgs s_Net_init) (defBody s_Net_init) (defScope s_Net_init) [] [] (He.fAd K ("Net", some "__init__")) fd := T.sd.def_ 31 (d := dd_Net_init) rfl
theorem Tx.d_Net_need_stop (T : Tx K mg) : ∃ fd, FunD K "need_stop" "Net.need_stop" (defArgs s_Net_need_stop) (defBody s_Net_need_stop) (defScope s_Net_need_stop) [] [] (He.fAd K ("Net", some "need_stop")) fd := T.sd.def_ 32 (d := dd_Net_need_stop) rfl
theorem Tx.d_Net_need_rule (T : Tx K mg) : ∃ fd, FunD K "need_rule" "Net.need_rule" (defArgs s_Net_need_rule) (defBody s_Net_need_rule) (defScope s_Net_need_rule) [] [] (He.fAd K ("Net", some "need_rule")) fd := T.sd.def_ 33 (d := dd_Net_need_rule) rfl
theorem Tx.d_Net_need_trip (T : Tx K mg) : ∃ fd, FunD K "need_trip" "Net.need_trip" (defArgs s_Net_need_trip) (defBody s_Net_need_trip) (defScope s_Net_need_trip) [] [] (He.fAd K ("Net", some "need_trip")) fd := T.sd.def_ 34 (d := dd_Net_need_trip) rfl
theorem Tx.d_Net_add_stop (T : Tx K mg) : ∃ fd, FunD K "add_stop" "Net.add_stop" (defArgs s_Net_add_stop) (defBody s_Net_add_stop) (defScope s_Net_add_stop) [] [] (He.fAd K ("Net", some "add_stop")) fd := T.sd.def_ 35 (d := dd_Net_add_stop) rfl
theorem Tx.d_Net_add_walk (T : Tx K mg) : ∃ fd, FunD K "add_walk" "Net.add_walk" (defArgs s_Net_add_walk) (defBody s_Net_add_walk) (defScope s_Net_add_walk) [] [] (He.fAd K ("Net", some "add_walk")) fd := T.sd.def_ 36 (d := dd_Net_add_walk) rfl
theorem Tx.d_Net_add_rule (T : Tx K mg) : ∃ fd, FunD K "add_rule" "Net.add_rule" (defArgs s_Net_add_rule) (defBody s_Net_add_rule) (defScope s_Net_add_rule) [] [] (He.fAd K ("Net", some "add_rule")) fd := T.sd.def_ 37 (d := dd_Net_add_rule) rfl
theorem Tx.d_Net_add_ticket (T : Tx K mg) : ∃ fd, FunD K "add_ticket" "Net.add_ticket" (defArgs s_Net_add_ticket) (defBody s_Net_add_ticket) (defScope s_Net_add_ticket) [] [] (He.fAd K ("Net", some "add_ticket")) fd := T.sd.def_ 38 (d := dd_Net_add_ticket) rfl
theorem Tx.d_Net_add_trip (T : Tx K mg) : ∃ fd, FunD K "add_trip" "Net.add_trip" (defArgs s_Net_add_trip) (defBody s_Net_add_trip) (defScope s_Net_add_trip) [] [] (He.fAd K ("Net", some "add_trip")) fd := T.sd.def_ 39 (d := dd_Net_add_trip) rfl
theorem Tx.d_Net_stops (T : Tx K mg) : ∃ fd, FunD K "stops" "Net.stops" (defArgs s_Net_stops) (defBody s_Net_stops) (defScope s_Net_stops) [] [] (He.fAd K ("Net", some "stops")) fd := T.sd.def_ 40 (d := dd_Net_stops) rfl
theorem Tx.d_Net_rules (T : Tx K mg) : ∃ fd, FunD K "rules" "Net.rules" (defArgs s_Net_rules) (defBody s_Net_rules) (defScope s_Net_rules) [] [] (He.fAd K ("Net", some "rules")) fd := T.sd.def_ 41 (d := dd_Net_rules) rfl
theorem Tx.d_Net_tickets (T : Tx K mg) : ∃ fd, FunD K "tickets" "Net.tickets" (defArgs s_Net_tickets) (defBody s_Net_tickets) (defScope s_Net_tickets) [] [] (He.fAd K ("Net", some "tickets")) fd := T.sd.def_ 42 (d := dd_Net_tickets) rfl
theorem Tx.d_Net_trips (T : Tx K mg) : ∃ fd, FunD K "trips" "Net.trips" (defArgs s_Net_trips) (defBody s_Net_trips) (defScope s_Net_trips) [] [] (He.fAd K ("Net", some "trips")) fd := T.sd.def_ 43 (d := dd_Net_trips) rfl
theorem Tx.d_Net_walks (T : Tx K mg) : ∃ fd, FunD K "walks" "Net.walks" (defArgs s_Net_walks) (defBody s_Net_walks) (defScope s_Net_walks) [] [] (He.fAd K ("Net", some "walks")) fd := T.sd.def_ 44 (d := dd_Net_walks) rfl
theorem Tx.d_Net_zone (T : Tx K mg) : ∃ fd, FunD K "zone" "Net.zone" (defArgs s_Net_zone) (defBody s_Net_zone) (defScope s_Net_zone) [] [] (He.fAd K ("Net", some "zone")) fd := T.sd.def_ 45 (d := dd_Net_zone) rfl
theorem Tx.d_Net_change (T : Tx K mg) : ∃ fd, FunD K "change" "Net.change" (defArgs s_Net_change) (defBody s_Net_change) (defScope s_Net_change) [] [] (He.fAd K ("Net", some "change")) fd := T.sd.def_ 46 (d := dd_Net_change) rfl
theorem Tx.d_Net_rule (T : Tx K mg) : ∃ fd, FunD K "rule" "Net.rule" (defArgs s_Net_rule) (defBody s_Net_rule) (defScope s_Net_rule) [] [] (He.fAd K ("Net", some "rule")) fd := T.sd.def_ 47 (d := dd_Net_rule) rfl
theorem Tx.d_Net_ticket (T : Tx K mg) : ∃ fd, FunD K "ticket" "Net.ticket" (defArgs s_Net_ticket) (defBody s_Net_ticket) (defScope s_Net_ticket) [] [] (He.fAd K ("Net", some "ticket")) fd := T.sd.def_ 48 (d := dd_Net_ticket) rfl
theorem Tx.d_Net_rule_name (T : Tx K mg) : ∃ fd, FunD K "rule_name" "Net.rule_name" (defArgs s_Net_rule_name) (defBody s_Net_rule_name) (defScope s_Net_rule_name) [] [] (He.fAd K ("Net", some "rule_name")) fd := T.sd.def_ 49 (d := dd_Net_rule_name) rfl
theorem Tx.d_Net_calls (T : Tx K mg) : ∃ fd, FunD K "calls" "Net.calls" (defArgs s_Net_calls) (defBody s_Net_calls) (defScope s_Net_calls) [] [] (He.fAd K ("Net", some "calls")) fd := T.sd.def_ 50 (d := dd_Net_calls) rfl
theorem Tx.d_law_cell_at (T : Tx K mg) : ∃ fd, FunD K "_law_cell_at" "_law_cell_at" (defArgs s_law_cell_at) (defBody s_law_cell_at) (defScope s_law_cell_at) [] [] (He.fAd K ("_law_cell_at", none)) fd := T.sd.def_ 51 (d := dd_law_cell_at) rfl
theorem Tx.d_law_mixed (T : Tx K mg) : ∃ fd, FunD K "_law_mixed" "_law_mixed" (defArgs s_law_mixed) (defBody s_law_mixed) (defScope s_law_mixed) [] [] (He.fAd K ("_law_mixed", none)) fd := T.sd.def_ 52 (d := dd_law_mixed) rfl
theorem Tx.d_law_among (T : Tx K mg) : ∃ fd, FunD K "_law_among" "_law_among" (defArgs s_law_among) (defBody s_law_among) (defScope s_law_among) [] [] (He.fAd K ("_law_among", none)) fd := T.sd.def_ 53 (d := dd_law_among) rfl
theorem Tx.d_law_name (T : Tx K mg) : ∃ fd, FunD K "_law_name" "_law_name" (defArgs s_law_name) (defBody s_law_name) (defScope s_law_name) [] [] (He.fAd K ("_law_name", none)) fd := T.sd.def_ 54 (d := dd_law_name) rfl
theorem Tx.d_law_is_name (T : Tx K mg) : ∃ fd, FunD K "_law_is_name" "_law_is_name" (defArgs s_law_is_name) (defBody s_law_is_name) (defScope s_law_is_name) [] [] (He.fAd K ("_law_is_name", none)) fd := T.sd.def_ 55 (d := dd_law_is_name) rfl
theorem Tx.d_law_said (T : Tx K mg) : ∃ fd, FunD K "_law_said" "_law_said" (defArgs s_law_said) (defBody s_law_said) (defScope s_law_said) [] [] (He.fAd K ("_law_said", none)) fd := T.sd.def_ 56 (d := dd_law_said) rfl
theorem Tx.d_law_days (T : Tx K mg) : ∃ fd, FunD K "_law_days" "_law_days" (defArgs s_law_days) (defBody s_law_days) (defScope s_law_days) [] [] (He.fAd K ("_law_days", none)) fd := T.sd.def_ 57 (d := dd_law_days) rfl
theorem Tx.d_law_rule (T : Tx K mg) : ∃ fd, FunD K "_law_rule" "_law_rule" (defArgs s_law_rule) (defBody s_law_rule) (defScope s_law_rule) [] [] (He.fAd K ("_law_rule", none)) fd := T.sd.def_ 58 (d := dd_law_rule) rfl
theorem Tx.d_law_runs (T : Tx K mg) : ∃ fd, FunD K "_law_runs" "_law_runs" (defArgs s_law_runs) (defBody s_law_runs) (defScope s_law_runs) [] [] (He.fAd K ("_law_runs", none)) fd := T.sd.def_ 59 (d := dd_law_runs) rfl
theorem Tx.d_law_calls (T : Tx K mg) : ∃ fd, FunD K "_law_calls" "_law_calls" (defArgs s_law_calls) (defBody s_law_calls) (defScope s_law_calls) [] [] (He.fAd K ("_law_calls", none)) fd := T.sd.def_ 60 (d := dd_law_calls) rfl
theorem Tx.d_law_world (T : Tx K mg) : ∃ fd, FunD K "_law_world" "_law_world" (defArgs s_law_world) (defBody s_law_world) (defScope s_law_world) [] [] (He.fAd K ("_law_world", none)) fd := T.sd.def_ 61 (d := dd_law_world) rfl
theorem Tx.d_law_fresh (T : Tx K mg) : ∃ fd, FunD K "_law_fresh" "_law_fresh" (defArgs s_law_fresh) (defBody s_law_fresh) (defScope s_law_fresh) [] [] (He.fAd K ("_law_fresh", none)) fd := T.sd.def_ 62 (d := dd_law_fresh) rfl
theorem Tx.d_law_are_zones (T : Tx K mg) : ∃ fd, FunD K "_law_are_zones" "_law_are_zones" (defArgs s_law_are_zones) (defBody s_law_are_zones) (defScope s_law_are_zones) [] [] (He.fAd K ("_law_are_zones", none)) fd := T.sd.def_ 63 (d := dd_law_are_zones) rfl
theorem Tx.d_law_due_stop (T : Tx K mg) : ∃ fd, FunD K "_law_due_stop" "_law_due_stop" (defArgs s_law_due_stop) (defBody s_law_due_stop) (defScope s_law_due_stop) [] [] (He.fAd K ("_law_due_stop", none)) fd := T.sd.def_ 64 (d := dd_law_due_stop) rfl
theorem Tx.d_law_due_walk (T : Tx K mg) : ∃ fd, FunD K "_law_due_walk" "_law_due_walk" (defArgs s_law_due_walk) (defBody s_law_due_walk) (defScope s_law_due_walk) [] [] (He.fAd K ("_law_due_walk", none)) fd := T.sd.def_ 65 (d := dd_law_due_walk) rfl
theorem Tx.d_law_due_rule (T : Tx K mg) : ∃ fd, FunD K "_law_due_rule" "_law_due_rule" (defArgs s_law_due_rule) (defBody s_law_due_rule) (defScope s_law_due_rule) [] [] (He.fAd K ("_law_due_rule", none)) fd := T.sd.def_ 66 (d := dd_law_due_rule) rfl
theorem Tx.d_law_due_ticket (T : Tx K mg) : ∃ fd, FunD K "_law_due_ticket" "_law_due_ticket" (defArgs s_law_due_ticket) (defBody s_law_due_ticket) (defScope s_law_due_ticket) [] [] (He.fAd K ("_law_due_ticket", none)) fd := T.sd.def_ 67 (d := dd_law_due_ticket) rfl
theorem Tx.d_law_due_trip (T : Tx K mg) : ∃ fd, FunD K "_law_due_trip" "_law_due_trip" (defArgs s_law_due_trip) (defBody s_law_due_trip) (defScope s_law_due_trip) [] [] (He.fAd K ("_law_due_trip", none)) fd := T.sd.def_ 68 (d := dd_law_due_trip) rfl
theorem Tx.d_law_given (T : Tx K mg) : ∃ fd, FunD K "_law_given" "_law_given" (defArgs s_law_given) (defBody s_law_given) (defScope s_law_given) [] [] (He.fAd K ("_law_given", none)) fd := T.sd.def_ 69 (d := dd_law_given) rfl
theorem Tx.d_law_put (T : Tx K mg) : ∃ fd, FunD K "_law_put" "_law_put" (defArgs s_law_put) (defBody s_law_put) (defScope s_law_put) [] [] (He.fAd K ("_law_put", none)) fd := T.sd.def_ 70 (d := dd_law_put) rfl
theorem Tx.d_law_one (T : Tx K mg) : ∃ fd, FunD K "_law_one" "_law_one" (defArgs s_law_one) (defBody s_law_one) (defScope s_law_one) [] [] (He.fAd K ("_law_one", none)) fd := T.sd.def_ 71 (d := dd_law_one) rfl
theorem Tx.d_law_stands (T : Tx K mg) : ∃ fd, FunD K "_law_stands" "_law_stands" (defArgs s_law_stands) (defBody s_law_stands) (defScope s_law_stands) [] [] (He.fAd K ("_law_stands", none)) fd := T.sd.def_ 72 (d := dd_law_stands) rfl
theorem Tx.d_law_not_there (T : Tx K mg) : ∃ fd, FunD K "_law_not_there" "_law_not_there" (defArgs s_law_not_there) (defBody s_law_not_there) (defScope s_law_not_there) [] [] (He.fAd K ("_law_not_there", none)) fd := T.sd.def_ 73 (d := dd_law_not_there) rfl
theorem Tx.d_law_filled (T : Tx K mg) : ∃ fd, FunD K "_law_filled" "_law_filled" (defArgs s_law_filled) (defBody s_law_filled) (defScope s_law_filled) [] [] (He.fAd K ("_law_filled", none)) fd := T.sd.def_ 74 (d := dd_law_filled) rfl
theorem Tx.d_law (T : Tx K mg) : ∃ fd, FunD K "law" "law" (defArgs s_law) (defBody s_law) (defScope s_law) [] [] (He.fAd K ("law", none)) fd := T.sd.def_ 75 (d := dd_law) rfl
end
end K06
set_option maxHeartbeats 0
namespace K06H
open PySem PySem.W PySem.Calls PyProof.Rows
abbrev R : OpenRow := OpenLaw.row PySem.Challenge.rw_roadbook_k06_nets_put_together
abbrev qv : Program := view R.prog [82]
def n1 : List PySem.Str := ["_wall", "RoadError", "BadClock", "BadRule", "TooMany", "BadName", "Twice", "NoStop", "NoRule", "NoTicket", "NoTrip", "BadNumber", "BadCalls", "NoRun", "TooLate", "NoTraveller", "BadLine", "BadRow", "NoPlan", "LAST_DAY", "is_among", "MOST_WEIGHT", "MOST_DEEP", "MOST_LENGTH", "MOST_LISTED"]
def n2 : List PySem.Str := ["need", "are_rising", "Rule", "need_light", "Week", "Span", "Each", "Either", "Both", "But", "LETTERS", "MOST_LETTERS", "MOST_MINUTE", "MOST_STOPS", "MOST_WALKS", "MOST_RULES", "MOST_TICKETS", "MOST_TRIPS", "MOST_CALLS", "MOST_ZONE", "is_name", "need_fresh", "need_among", "need_room", "are_zones"]
def n3 : List PySem.Str := ["are_calls", "rises", "Net", "_law_cell_at", "_law_mixed", "_law_among", "_law_name", "_law_is_name", "_law_said", "_law_days", "_law_rule", "_law_runs", "_law_calls", "_law_world", "_law_fresh", "_law_are_zones", "_law_due_stop", "_law_due_walk", "_law_due_rule", "_law_due_ticket", "_law_due_trip", "_law_given", "_law_put", "_law_one", "_law_stands", "_law_not_there", "_law_filled"]
def names : List PySem.Str := n1 ++ n2 ++ n3
def tf : List He.Defn := [("_law_put", none), ("_law_not_there", none)]
abbrev hk : PySem.W.Hook := He.hookX 4 K06.fa K06.fn [] tf K06.exB
def ob (s : PySem.W.SharedT) : He.AlX := He.obsX 4 K06.fa K06.fn [] tf K06.exB (HandSHeadRun.getT s)
theorem ob_eq (s : PySem.W.SharedT) : ob s = hk.obs s.abs := He.obsX_eq (HandSHeadRun.getT_eq s)
/-- the fragment that is told -/
def kOf (s : PySem.W.SharedT) : PySem.W.Frag := He.frT (HandSHeadRun.getT s) (He.asD (HandSHeadRun.getT s) 4)
/-- the end of the top -/
noncomputable abbrev endR (w : World) (os : OsState) : Option PySem.W.SharedT := HandSHeadRun.endF (HandSHeadRun.stepQ (HandSHeadRun.denQ HandSHeadRun.tabQ) R.prog w) 20000 R.prog w os
/-- one look at it -/
def Look (w : World) (f : PySem.W.SharedT → Bool) : Prop := ∀ os : OsState, (endR w os).map f = some true
end K06H
set_option maxHeartbeats 0
namespace K06H
open PySem PySem.W PySem.Calls PyProof.Rows
theorem runA (w : World) (os : OsState) : (endR w os).map (fun s => (HandSHeadRun.looksF R.prog (boot_heap w.params) s.abs, HandSHeadRun.seenQ qv names (importedModules R.prog.main.body) (fun s => xlAt qv [] s && recOk R.toRowW.records s) s.abs)) = some (true, openGood qv names) := by
  kernel_rfl
end K06H
set_option maxHeartbeats 0
namespace K06H
open PySem PySem.W PySem.Calls PyProof.Rows
theorem runB (w : World) : Look w (fun s => let K := kOf s; (K06.fa0 ++ K06.fa1 ++ K06.fa2).all fun f => f.ok K) := by
  intro os
  kernel_rfl
end K06H
set_option maxHeartbeats 0
namespace K06H
open PySem PySem.W PySem.Calls PyProof.Rows
theorem runC (w : World) : Look w (fun s => let K := kOf s; (K06.fa3 ++ K06.fa4 ++ K06.fa5).all fun f => f.ok K) := by
  intro os
  kernel_rfl
end K06H
set_option maxHeartbeats 0
namespace K06H
open PySem PySem.W PySem.Calls PyProof.Rows
theorem runD (w : World) : Look w (fun s => let K := kOf s; K06.fn0.all fun d => d.ok K) := by
  intro os
  kernel_rfl
end K06H
set_option maxHeartbeats 0
namespace K06H
open PySem PySem.W PySem.Calls PyProof.Rows
theorem runF (w : World) (os : OsState) : (endR w os).map (fun s => let K := kOf s; K06.fn.map fun d => He.fnW K d.at_) = some (K06.fn.map He.DefD.val) := by
  kernel_rfl
end K06H
set_option maxHeartbeats 0
namespace K06H
open PySem PySem.W PySem.Calls PyProof.Rows
theorem runG (w : World) : Look w (fun s => let K := kOf s; (K06.fn1 ++ K06.fn2).all fun d => d.ok K) := by
  intro os
  kernel_rfl
end K06H
set_option maxHeartbeats 0
namespace K06H
open PySem PySem.W PySem.Calls PyProof.Rows
theorem runE (w : World) : Look w (fun s => let K := kOf s; K06.exB K && He.tabsB (HandSHeadRun.getT s) tf K) := by
  intro os
  kernel_rfl
end K06H
set_option maxHeartbeats 0
namespace K06H
open PySem PySem.W PySem.Calls PyProof.Rows
theorem ob_of (w : World) (s : PySem.W.SharedT) (hb : ((K06.fa0 ++ K06.fa1 ++ K06.fa2).all fun f => f.ok (kOf s)) = true) (hc : ((K06.fa3 ++ K06.fa4 ++ K06.fa5).all fun f => f.ok (kOf s)) = true) (hd : (K06.fn.all fun d => d.ok (kOf s)) = true) (he : (K06.fn.map fun d => He.fnW (kOf s) d.at_) = K06.fn.map He.DefD.val) (hx : (K06.exB (kOf s) && He.tabsB (HandSHeadRun.getT s) tf (kOf s)) = true) : ob s = hk.val w := by
  have h1 : (K06.fa.all fun f => f.ok (kOf s)) = true := by
    have e : K06.fa = (K06.fa0 ++ K06.fa1 ++ K06.fa2) ++ (K06.fa3 ++ K06.fa4 ++ K06.fa5) := by
      unfold K06.fa
      simp only [List.append_assoc]
    rw [e, List.all_append, hb, hc]
    rfl
  show (((((K06.fa.all fun f => f.ok (kOf s)) && K06.fn.all fun d => d.ok (kOf s)), K06.fn.map fun d => He.fnW (kOf s) d.at_), ([] : List (Option (List (Option (PySem.Str × Int)))))), K06.exB (kOf s) && He.tabsB (HandSHeadRun.getT s) tf (kOf s)) = (((true, K06.fn.map He.DefD.val), []), true)
  rw [h1, hd, he, hx]
  rfl
theorem run_of {α β γ : Type} {o : Option PySem.W.SharedT} {f : PySem.W.SharedT → α} {f2 : PySem.W.SharedT → β} {g : PySem.W.SharedT → γ} {x : α} {x2 : β} {y : γ} (h : o.map (fun s => (f s, f2 s)) = some (x, x2)) (k : ∀ s, o = some s → g s = y) : o.map (fun s => (f s, f2 s, g s)) = some (x, x2, y) := by
  cases o with
  | none => cases h
  | some s =>
    have z : (f s, f2 s) = (x, x2) := Option.some.inj h
    show some (f s, f2 s, g s) = some (x, x2, y)
    rw [k s rfl, show f s = x from congrArg Prod.fst z, show f2 s = x2 from congrArg Prod.snd z]
theorem at_of {α : Type} {o : Option PySem.W.SharedT} {f : PySem.W.SharedT → α} {x : α} {s : PySem.W.SharedT} (h : o.map f = some x) (e : o = some s) : f s = x := by
  rw [e] at h
  exact Option.some.inj h
theorem fns_of {K : PySem.W.Frag} (h0 : (K06.fn0.all fun d => d.ok K) = true) (h1 : ((K06.fn1 ++ K06.fn2).all fun d => d.ok K) = true) : (K06.fn.all fun d => d.ok K) = true := by
  have e : K06.fn = K06.fn0 ++ (K06.fn1 ++ K06.fn2) := by
    unfold K06.fn
    rw [List.append_assoc]
  rw [e, List.all_append, h0, h1]
  rfl
theorem run (w : World) : HandSHeadRun.RunEq R qv hk ob 20000 names w := by
  intro os
  have hb := fun s e => at_of (s := s) (runB w os) e
  have hc := fun s e => at_of (s := s) (runC w os) e
  have hd := fun s e => at_of (s := s) (runD w os) e
  have hg := fun s e => at_of (s := s) (runG w os) e
  have hf := fun s e => at_of (s := s) (runF w os) e
  have hx := fun s e => at_of (s := s) (runE w os) e
  exact run_of (runA w os) (g := ob) (y := hk.val w) fun s e => ob_of w s (hb s e) (hc s e) (fns_of (hd s e) (hg s e)) (hf s e) (hx s e)
end K06H
set_option maxHeartbeats 4000000
namespace K06
open PySem L2
/-! ### promises by the number of arguments -/
abbrev P1 := V → Hp → VK → XK → Prop
abbrev P2 := V → V → Hp → VK → XK → Prop
abbrev P3 := V → V → V → Hp → VK → XK → Prop
abbrev P4 := V → V → V → V → Hp → VK → XK → Prop
abbrev P5 := V → V → V → V → V → Hp → VK → XK → Prop
def sp0 (f : Hp → VK → XK → Prop) : Sp := fun vs H Q E => vs = [] ∧ f H Q E
def sp1 (f : P1) : Sp := fun vs H Q E => ∃ a, vs = [a] ∧ f a H Q E
def sp2 (f : P2) : Sp := fun vs H Q E => ∃ a b, vs = [a, b] ∧ f a b H Q E
def sp3 (f : P3) : Sp := fun vs H Q E => ∃ a b c, vs = [a, b, c] ∧ f a b c H Q E
def sp4 (f : P4) : Sp := fun vs H Q E => ∃ a b c d, vs = [a, b, c, d] ∧ f a b c d H Q E
def sp5 (f : P5) : Sp := fun vs H Q E => ∃ a b c d e, vs = [a, b, c, d, e] ∧ f a b c d e H Q E
section
variable {H : Hp} {Q : VK} {E : XK} {a b c d e : V}
theorem sp0_eq {f : Hp → VK → XK → Prop} : sp0 f [] H Q E = f H Q E := by simp [sp0]
theorem sp1_eq {f : P1} : sp1 f [a] H Q E = f a H Q E := by simp [sp1]
theorem sp2_eq {f : P2} : sp2 f [a, b] H Q E = f a b H Q E := by
  refine propext ⟨fun h => ?_, fun h => ⟨a, b, rfl, h⟩⟩
  obtain ⟨a', b', e, h⟩ := h
  cases e
  exact h
theorem sp3_eq {f : P3} : sp3 f [a, b, c] H Q E = f a b c H Q E := by
  refine propext ⟨fun h => ?_, fun h => ⟨a, b, c, rfl, h⟩⟩
  obtain ⟨a', b', c', e, h⟩ := h
  cases e
  exact h
theorem sp4_eq {f : P4} : sp4 f [a, b, c, d] H Q E = f a b c d H Q E := by
  refine propext ⟨fun h => ?_, fun h => ⟨a, b, c, d, rfl, h⟩⟩
  obtain ⟨a', b', c', d', e, h⟩ := h
  cases e
  exact h
theorem sp5_eq {f : P5} : sp5 f [a, b, c, d, e] H Q E = f a b c d e H Q E := by
  refine propext ⟨fun h => ?_, fun h => ⟨a, b, c, d, e, rfl, h⟩⟩
  obtain ⟨a', b', c', d', e', e0, h⟩ := h
  cases e0
  exact h
end
/-! ### a def, by its body -/
abbrev BindN (x qual : Str) (st : Stmt) (ps : List Str) : Prop := ∀ (kV doc pm : Value) (an : Option Addr) (cdv ct : Value) (us : List Value), us.length = ps.length →
  bindArgs (PySem.W.fnOf x qual (defArgs st) (defBody st) (defScope st) .none kV doc pm an cdv ct) ⟨us, []⟩ = pure (ps.zip us)
abbrev FnE (K : PySem.W.Frag) (x qual : Str) (st : Stmt) (f : Addr) : Prop := ∃ fd, FunD K x qual (defArgs st) (defBody st) (defScope st) [] [] f fd
/-- what the body's reading is run with -/
abbrev endsOf (Q : VK) : Ends := { nx := fun _ H' => Q .non H', rt := Q }
/-- THE RULE, of any def: the promise's arguments by their number -/
abbrev BodyOk (CX : CXT) (P : Program) (w : World) (K : PySem.W.Frag) (mg : Str → Option Value) (base : Heap) (N : List Str) (qual : Str) (st : Stmt) (f : Addr) (k : Nat) (vs : List V) (H : Hp) (Q : VK) (E : XK) : Prop :=
  ∀ (cdv : Value) (A : Around) (outer : List Env) (s : Shared), Room k (A.deeper (PyProof.Rows.envOfC qual (defScope st) s.heap.objs.size f cdv)) →
    ∃ t, PSs (cxOf CX P w K mg base N qual (defScope st) f cdv A outer s H E) (defBody st) t ∧ t (endsOf Q) (start N vs) H
section
variable {CX : CXT} {P : Program} {w : World} {K : PySem.W.Frag} {mg : Str → Option Value} {base : Heap} {k : Nat} {x qual : Str} {st : Stmt} {f C : Addr} {N ps : List Str} {sp : Sp}
theorem fn_mk (F : FnE K x qual st f) (S : FnScope N ps (defScope st)) (len : ∀ vs H Q E, sp vs H Q E → vs.length = ps.length)
    (body : ∀ vs H Q E, sp vs H Q E → BodyOk CX P w K mg base N qual st f k vs H Q E) : ∃ fd, FunD K x qual (defArgs st) (defBody st) (defScope st) [] [] f fd ∧ FnOk P w K mg base CX (k + 1) f fd ps sp := by
  obtain ⟨fd, F⟩ := F
  exact ⟨fd, F, F.ok S len fun cdv A outer s H vs Q E hr h => body vs H Q E h cdv A outer s hr⟩
theorem cal_of (F : FnE K x x st f) (hm : mg x = some (.ref f)) (hb : BindN x x st ps) (S : FnScope N ps (defScope st)) (len : ∀ vs H Q E, sp vs H Q E → vs.length = ps.length)
    (body : ∀ vs H Q E, sp vs H Q E → BodyOk CX P w K mg base N x st f k vs H Q E) : Cal CX P w K mg base (k + 1) x sp := by
  obtain ⟨fd, F, G⟩ := fn_mk F S len body
  exact ⟨f, fd, ps, G, hm, F.kp, F.bindsN hb⟩
theorem met_of (cl : Cls K C) (me : Meth K C x f) (F : FnE K x qual st f) (hb : BindN x qual st ps) (S : FnScope N ps (defScope st)) (len : ∀ vs H Q E, sp vs H Q E → vs.length = ps.length)
    (body : ∀ vs H Q E, sp vs H Q E → BodyOk CX P w K mg base N qual st f k vs H Q E) : Met CX P w K mg base (k + 1) C x sp := by
  obtain ⟨fd, F, G⟩ := fn_mk F S len body
  exact ⟨f, fd, ps, cl, me, G, F.bindsN hb⟩
theorem mak_of {y : Str} (M : Mk K C f) (hm : mg y = some (.ref C)) (F : FnE K x qual st f) (hb : BindN x qual st ps) (S : FnScope N ps (defScope st)) (len : ∀ vs H Q E, sp vs H Q E → vs.length = ps.length)
    (body : ∀ vs H Q E, sp vs H Q E → BodyOk CX P w K mg base N qual st f k vs H Q E) : Mak CX P w K mg base (k + 1) y C sp := by
  obtain ⟨fd, F, G⟩ := fn_mk F S len body
  exact ⟨f, fd, ps, M, G, hm, F.bindsN hb⟩
theorem len1 {f : P1} : ∀ vs H Q E, sp1 f vs H Q E → vs.length = 1 := fun vs H Q E ⟨_, e, _⟩ => by rw [e]; rfl
theorem len2 {f : P2} : ∀ vs H Q E, sp2 f vs H Q E → vs.length = 2 := fun vs H Q E ⟨_, _, e, _⟩ => by rw [e]; rfl
theorem len3 {f : P3} : ∀ vs H Q E, sp3 f vs H Q E → vs.length = 3 := fun vs H Q E ⟨_, _, _, e, _⟩ => by rw [e]; rfl
theorem len4 {f : P4} : ∀ vs H Q E, sp4 f vs H Q E → vs.length = 4 := fun vs H Q E ⟨_, _, _, _, e, _⟩ => by rw [e]; rfl
theorem len5 {f : P5} : ∀ vs H Q E, sp5 f vs H Q E → vs.length = 5 := fun vs H Q E ⟨_, _, _, _, _, e, _⟩ => by rw [e]; rfl
theorem len0 {f : Hp → VK → XK → Prop} : ∀ vs H Q E, sp0 f vs H Q E → vs.length = 0 := fun vs H Q E ⟨e, _⟩ => by rw [e]; rfl
theorem bind1 {α : Type} {p : List α → Prop} (h : ∀ a, p [a]) : ∀ us : List α, us.length = 1 → p us
  | [a], _ => h a
theorem bind2 {α : Type} {p : List α → Prop} (h : ∀ a b, p [a, b]) : ∀ us : List α, us.length = 2 → p us
  | [a, b], _ => h a b
theorem bind3 {α : Type} {p : List α → Prop} (h : ∀ a b c, p [a, b, c]) : ∀ us : List α, us.length = 3 → p us
  | [a, b, c], _ => h a b c
theorem bind4 {α : Type} {p : List α → Prop} (h : ∀ a b c d, p [a, b, c, d]) : ∀ us : List α, us.length = 4 → p us
  | [a, b, c, d], _ => h a b c d
theorem bind5 {α : Type} {p : List α → Prop} (h : ∀ a b c d e, p [a, b, c, d, e]) : ∀ us : List α, us.length = 5 → p us
  | [a, b, c, d, e], _ => h a b c d e
end
/-! ### equations of the readings -/
section
variable {σ : St} {H : Hp} {Q : VK} {E : XK} {D : Ends} {v w : V} {i : Nat} {l : St} {o : Option V}
theorem w_var0 : tVar 0 (some v :: l) H Q = Q v H := by simp [tVar]
theorem w_varS : tVar (i + 1) (o :: l) H Q = tVar i l H Q := by simp [tVar]
theorem w_c : tC v σ H Q = Q v H := rfl
theorem w_ret {t : TE} : tRet t D σ H = t σ H D.rt := rfl
theorem w_retN : tRetN D σ H = D.rt .non H := rfl
theorem w_next : tNext D σ H = D.nx σ H := rfl
theorem w_seq {t u : TS} : tSeq t u D σ H = t { D with nx := u D } σ H := rfl
theorem w_asg {t : TE} {g : TG} : tAsg t g D σ H = t σ H fun x H1 => g x σ H1 D.nx := rfl
theorem w_gn {R : St → Hp → Prop} : gName i v σ H R = R (σ.set i (some v)) H := rfl
theorem w_drop {t : TE} : tDrop t D σ H = t σ H fun _ H1 => D.nx σ H1 := rfl
theorem w_if {c : TT} {t u : TS} : tIfS c t u D σ H = c σ H fun b H1 => if b = true then t D σ H1 else u D σ H1 := rfl
theorem w_and {t u : TT} {R : Bool → Hp → Prop} : tAnd t u σ H R = t σ H fun c H1 => if c = true then u σ H1 R else R false H1 := rfl
theorem w_or {t u : TT} {R : Bool → Hp → Prop} : tOr t u σ H R = t σ H fun c H1 => if c = true then R true H1 else u σ H1 R := rfl
theorem w_not {t : TT} {R : Bool → Hp → Prop} : tNot t σ H R = t σ H fun c H1 => R (!c) H1 := rfl
theorem ex_bl {b : Bool} {R : Bool → Prop} : (∃ k, V.bl b = V.bl k ∧ R k) = R b := by
  refine propext ⟨fun ⟨k, e, h⟩ => ?_, fun h => ⟨b, rfl, h⟩⟩
  cases e
  exact h
theorem w_B {t : TE} {R : Bool → Hp → Prop} : tB t σ H R = t σ H fun x H1 => ∃ k, x = .bl k ∧ R k H1 := rfl
theorem w_test {t : TE} {R : Bool → Hp → Prop} : tTest t σ H R = t σ H fun x H1 => ∃ k, x = .bl k ∧ R k H1 := rfl
theorem w_andV {t u : TE} : tAndV t u σ H Q = t σ H fun x H1 => ∃ c, x = .bl c ∧ if c = true then u σ H1 Q else Q (.bl false) H1 := rfl
theorem w_orV {t u : TE} : tOrV t u σ H Q = t σ H fun x H1 => ∃ c, x = .bl c ∧ if c = true then Q (.bl true) H1 else u σ H1 Q := rfl
theorem w_notV {t : TE} : tNotV t σ H Q = t σ H fun x H1 => ∃ c, x = .bl c ∧ Q (.bl (!c)) H1 := rfl
theorem w_ife {c : TT} {t u : TE} : tIf c t u σ H Q = c σ H fun b H1 => if b = true then t σ H1 Q else u σ H1 Q := rfl
theorem w_op {r : R2} {t u : TE} : tOp r t u σ H Q = t σ H fun x H1 => u σ H1 fun y H2 => r x y H2 Q := rfl
theorem w_un {r : V → Hp → VK → Prop} {t : TE} : tUn r t σ H Q = t σ H fun x H1 => r x H1 Q := rfl
theorem w_chain {r r' : R2} {ta tb tc : TE} : tChain r r' ta tb tc σ H Q = ta σ H fun x H1 => tb σ H1 fun y H2 => r x y H2 fun z H3 => ∃ k, z = .bl k ∧ (if k = true then tc σ H3 fun w' H4 => r' y w' H4 Q else Q (.bl false) H3) := rfl
theorem w_nil {R : List V → Hp → Prop} : tNil σ H R = R [] H := rfl
theorem w_cons {t : TE} {u : TA} {R : List V → Hp → Prop} : tCons t u σ H R = t σ H fun x H1 => u σ H1 fun xs H2 => R (x :: xs) H2 := rfl
theorem w_cb {r : List V → Hp → VK → Prop} {t : TA} : tCB r t σ H Q = t σ H fun vs H1 => r vs H1 Q := rfl
theorem w_ca {sp : Sp} {t : TA} : tCa sp E t σ H Q = t σ H fun vs H1 => sp vs H1 Q E := rfl
theorem w_lst {t : TA} : tLst t σ H Q = t σ H fun xs H1 => xs.length ≤ sizeLine ∧ ∀ p, H1 p = none → Q (.ref p) (upd H1 p (.lst xs)) := rfl
theorem w_tup {t : TA} : tTup t σ H Q = t σ H fun xs H1 => xs.length ≤ sizeLine ∧ ∀ p, H1 p = none → Q (.ref p) (upd H1 p (.tup xs)) := rfl
theorem w_I0 {g : Int → Int → V} {i j : Int} : rI0 g (.int i) (.int j) H Q = Q (g i j) H := by
  refine propext ⟨fun ⟨a, b, e1, e2, h⟩ => ?_, fun h => ⟨i, j, rfl, rfl, h⟩⟩
  cases e1
  cases e2
  exact h
theorem w_I {C : Int → Int → Prop} {g : Int → Int → V} {i j : Int} : rI C g (.int i) (.int j) H Q = (C i j ∧ Q (g i j) H) := by
  refine propext ⟨fun ⟨a, b, e1, e2, h⟩ => ?_, fun h => ⟨i, j, rfl, rfl, h⟩⟩
  cases e1
  cases e2
  exact h
theorem w_U {g : Int → V} {i : Int} : rU g (.int i) H Q = Q (g i) H := by
  refine propext ⟨fun ⟨a, e1, h⟩ => ?_, fun h => ⟨i, rfl, h⟩⟩
  cases e1
  exact h
theorem w_eqI {i j : Int} : rEq (.int i) (.int j) H Q = Q (.bl (decide (i = j))) H := by simp [rEq, scal]
theorem w_neI {i j : Int} : rNe (.int i) (.int j) H Q = Q (.bl (!decide (i = j))) H := by simp [rNe, scal]
theorem w_eqS {i j : Str} : rEq (.str i) (.str j) H Q = Q (.bl (decide (i = j))) H := by simp [rEq, scal]
theorem w_neS {i j : Str} : rNe (.str i) (.str j) H Q = Q (.bl (!decide (i = j))) H := by simp [rNe, scal]
theorem w_isN {x : V} : (fun (x y : V) (H : Hp) (Q : VK) => y = .non ∧ Q (.bl (decide (x = .non))) H) x .non H Q = Q (.bl (decide (x = .non))) H := by simp
theorem w_drop' {t : TE} : tDrop t D σ H = t σ H fun _ H1 => D.nx σ H1 := rfl
end
end K06
set_option maxHeartbeats 4000000
namespace K06
open PySem L2
/-! ### data of any kind, in a heap -/
mutual
theorem dp_mono {K : PySem.W.Frag} {H H' : Hp} (e : Same H H') : ∀ (d : PyData) (v : V), Dp K H v d → Dp K H' v d
  | .none, _, h => by cases h; exact .non
  | .bool b, _, h => by cases h; exact .bl b
  | .int i, _, h => by cases h; exact .int i
  | .str x, _, h => by cases h; exact .str x
  | .list ds, _, h => by
    cases h with
    | lst h1 h2 => exact .lst (e.seq h1) (dpAll_mono e ds _ h2)
  | .tuple ds, _, h => by
    cases h with
    | tup h1 h2 =>
      refine .tup ?_ (dpAll_mono e ds _ h2)
      rcases h1 with (h | ⟨o, h⟩) | h
      · exact .inl (.inl (e _ _ h))
      · exact .inl (.inr ⟨o, e _ _ h⟩)
      · exact .inr h
  | .dict _, _, h => nomatch h
theorem dpAll_mono {K : PySem.W.Frag} {H H' : Hp} (e : Same H H') : ∀ (ds : List PyData) (vs : List V), DpAll K H vs ds → DpAll K H' vs ds
  | [], _, h => by cases h; exact .nil
  | d :: ds, _, h => by
    cases h with
    | cons h1 h2 => exact .cons (dp_mono e d _ h1) (dpAll_mono e ds _ h2)
end
section
variable {K : PySem.W.Frag} {H H' : Hp} {v : V} {vs : List V} {d : PyData} {ds : List PyData}
theorem _root_.L2.Dp.up (h : Dp K H v d) (e : Same H H') : Dp K H' v d := dp_mono e d v h
theorem _root_.L2.DpAll.up (h : DpAll K H vs ds) (e : Same H H') : DpAll K H' vs ds := dpAll_mono e ds vs h
theorem _root_.L2.DpAll.length : ∀ {vs : List V} {ds : List PyData}, DpAll K H vs ds → vs.length = ds.length
  | [], _, h => by cases h; rfl
  | v :: vs, _, h => by
    cases h with
    | cons _ h2 => simp [L2.DpAll.length h2]
theorem _root_.L2.DpAll.get : ∀ {vs : List V} {ds : List PyData} {i : Nat} {v : V}, DpAll K H vs ds → vs[i]? = some v → ∃ d, ds[i]? = some d ∧ Dp K H v d
  | [], _, i, v, h, e => by simp at e
  | u :: vs, _, 0, v, h, e => by
    cases h with
    | cons h1 h2 =>
      have e : u = v := by simpa using e
      subst e
      exact ⟨_, rfl, h1⟩
  | u :: vs, _, i + 1, v, h, e => by
    cases h with
    | cons h1 h2 =>
      obtain ⟨d, a, b⟩ := L2.DpAll.get (i := i) h2 (by simpa using e)
      exact ⟨d, by simpa using a, b⟩
theorem _root_.L2.DpAll.app : ∀ {vs ws : List V} {ds es : List PyData}, DpAll K H vs ds → DpAll K H ws es → DpAll K H (vs ++ ws) (ds ++ es)
  | [], ws, _, es, h, h' => by cases h; exact h'
  | v :: vs, ws, _, es, h, h' => by
    cases h with
    | cons h1 h2 => exact .cons h1 (L2.DpAll.app h2 h')
theorem _root_.L2.Dp.int_inv {i : Int} (h : Dp K H v (.int i)) : v = .int i := by cases h; rfl
theorem _root_.L2.Dp.str_inv {x : Str} (h : Dp K H v (.str x)) : v = .str x := by cases h; rfl
theorem _root_.L2.Dp.bl_inv {b : Bool} (h : Dp K H v (.bool b)) : v = .bl b := by cases h; rfl
theorem _root_.L2.Dp.non_inv (h : Dp K H v .none) : v = .non := by cases h; rfl
theorem _root_.L2.Dp.lst_inv (h : Dp K H v (.list ds)) : ∃ a vs, v = .ref a ∧ SqL K H a vs ∧ DpAll K H vs ds := by
  cases h with
  | lst h1 h2 => exact ⟨_, _, rfl, h1, h2⟩
theorem _root_.L2.Dp.tup_inv (h : Dp K H v (.tuple ds)) : ∃ a vs, v = .ref a ∧ SqT K H a vs ∧ DpAll K H vs ds := by
  cases h with
  | tup h1 h2 => exact ⟨_, _, rfl, h1, h2⟩
/-- a new tuple, a new list -/
theorem _root_.L2.Dp.newT {p : Addr} (h : H p = some (.tup vs)) (hs : DpAll K H vs ds) : Dp K H (.ref p) (.tuple ds) := .tup (SqT.of h) hs
theorem _root_.L2.Dp.newL {p : Addr} (h : H p = some (.lst vs)) (hs : DpAll K H vs ds) : Dp K H (.ref p) (.list ds) := .lst (SqL.of h) hs
theorem dpAll_ints : ∀ ns : List Int, DpAll K H (ns.map V.int) (ns.map PyData.int)
  | [] => .nil
  | n :: r => .cons (.int n) (dpAll_ints r)
theorem dpAll_strs : ∀ xs : List Str, DpAll K H (xs.map V.str) (xs.map PyData.str)
  | [] => .nil
  | n :: r => .cons (.str n) (dpAll_strs r)
theorem dpAll_ints_inv : ∀ {ns : List Int} {vs : List V}, DpAll K H vs (ns.map PyData.int) → vs = ns.map V.int
  | [], vs, h => by cases h; rfl
  | n :: r, vs, h => by
    cases h with
    | cons h1 h2 => rw [h1.int_inv, dpAll_ints_inv h2]; rfl
theorem dpAll_strs_inv : ∀ {ns : List Str} {vs : List V}, DpAll K H vs (ns.map PyData.str) → vs = ns.map V.str
  | [], vs, h => by cases h; rfl
  | n :: r, vs, h => by
    cases h with
    | cons h1 h2 => rw [h1.str_inv, dpAll_strs_inv h2]; rfl
end
/-! ### any thing that is handed in: data, or an empty dict -/
def okD (d : PyData) : Bool := SeqAt.shaped d && match d with
  | .str x => decide (x.length ≤ 1000)
  | _ => true
theorem okD_shaped {d : PyData} (h : okD d = true) : SeqAt.shaped d = true := (Bool.and_eq_true_iff.mp h).1
theorem okD_str {x : Str} (h : okD (.str x) = true) : x.length ≤ 1000 := of_decide_eq_true (Bool.and_eq_true_iff.mp h).2
inductive Av (K : PySem.W.Frag) (H : Hp) : V → PyData → Prop
  | dp {v : V} {d : PyData} (h : Dp K H v d) (ok : okD d = true) : Av K H v d
  | dic {a : Addr} (h : H a = some (.dK [])) : Av K H (.ref a) (.dict [])
def tyN : PyData → String
  | .none => "NoneType"
  | .bool _ => "bool"
  | .int _ => "int"
  | .str _ => "str"
  | .list _ => "list"
  | .tuple _ => "tuple"
  | .dict _ => "dict"
def isD (n : String) (d : PyData) : Bool := decide (tyN d = n) || (decide (n = "int") && decide (tyN d = "bool"))
section
variable {K : PySem.W.Frag} {H H' : Hp} {v : V} {d : PyData}
theorem Av.up (h : Av K H v d) (e : Same H H') : Av K H' v d := by
  cases h with
  | dp h ok => exact .dp (h.up e) ok
  | dic h => exact .dic (e _ _ h)
theorem Av.ty (h : Av K H v d) : TyX K H v (.type (tyN d)) := by
  cases h with
  | dp h _ =>
    cases h with
    | non => exact .base .non
    | bl b => exact .base (.bl b)
    | int i => exact .base (.int i)
    | str x => exact .base (.str x)
    | lst h _ =>
      rcases h with (h | ⟨o, h⟩) | ⟨o, its, n, h, c, _⟩
      · exact .base (.lst h)
      · exact .base (.frz h)
      · exact .kList h c
    | tup h _ =>
      rcases h with (h | ⟨o, h⟩) | ⟨o, its, n, h, c, _⟩
      · exact .base (.tup h)
      · exact .fTuple h
      · exact .kTuple h c
  | dic h => exact .base (.dK h)
/-- the types that are asked for -/
def okTy (n : String) : Prop := n = "int" ∨ n = "bool" ∨ n = "str" ∨ n = "list" ∨ n = "tuple"
theorem kit_tab : ∀ a ∈ typNames, ∀ n ∈ (["int", "bool", "str", "list", "tuple"] : List String), kitB a n = some (decide (a = n) || (decide (n = "int") && decide (a = "bool"))) := by decide +kernel
theorem tyN_mem (d : PyData) : tyN d ∈ typNames := by cases d <;> (show _ ∈ (["NoneType", "bool", "int", "str", "list", "tuple", "dict"] : List String)) <;> simp [tyN]
theorem kit_isD {n : String} (hn : okTy n) (d : PyData) : kitB (tyN d) n = some (isD n d) :=
  kit_tab _ (tyN_mem d) n (by rcases hn with rfl | rfl | rfl | rfl | rfl <;> simp)
theorem w_isi {n : String} {Q : VK} (h : Av K H v d) (hn : okTy n) (q : Q (.bl (isD n d)) H) : rIsi K [v, .ty n] H Q :=
  ⟨v, .ty n, .type (tyN d), .type n, isD n d, rfl, .ty n, h.ty, kit_ty (kit_isD hn d), q⟩
theorem okI : okTy "int" := .inl rfl
theorem okB : okTy "bool" := .inr (.inl rfl)
theorem okS : okTy "str" := .inr (.inr (.inl rfl))
theorem okL : okTy "list" := .inr (.inr (.inr (.inl rfl)))
theorem okT : okTy "tuple" := .inr (.inr (.inr (.inr rfl)))
end
theorem _root_.L2.Same.new {H : Hp} {p : Addr} {o : HO} (hp : H p = none) : Same H (upd H p o) := fun b u e => by rw [upd_ne (ne_of_none e hp)]; exact e
theorem _root_.L2.Same.mut {H H' : Hp} {p : Addr} {o : HO} (e : Same H H') (h : H p = none) : Same H (upd H' p o) := fun a u ha => by
  rw [upd_ne (ne_of_none ha h)]
  exact e a u ha
theorem _root_.L2.Same.sqT {K : PySem.W.Frag} {H H' : Hp} {a : Addr} {xs : List V} (e : Same H H') (h : SqT K H a xs) : SqT K H' a xs := by
  rcases h with (h | ⟨o, h⟩) | h
  · exact .inl (.inl (e _ _ h))
  · exact .inl (.inr ⟨o, e _ _ h⟩)
  · exact .inr h
/-- a new object: the heap behind it, by what is known of it -/
theorem alloc {H : Hp} {R : Addr → Hp → Prop} {o : HO} (h : ∀ (p : Addr) (H' : Hp), H p = none → Same H H' → H' p = some o → R p H') : ∀ p, H p = none → R p (upd H p o) :=
  fun p hp => h p _ hp (fun b u e => by rw [upd_ne (ne_of_none e hp)]; exact e) upd_same
theorem _root_.L2.Same.get {H H' : Hp} {a : Addr} {o : HO} (e : Same H H') (h : H a = some o) : H' a = some o := e a o h
end K06
set_option maxHeartbeats 4000000
namespace K06
open PySem L2
theorem isD_int_none : isD "int" .none = false := by simp [isD, tyN]
theorem isD_int_bool {b : Bool} : isD "int" (.bool b) = true := by simp [isD, tyN]
theorem isD_int_int {i : Int} : isD "int" (.int i) = true := by simp [isD, tyN]
theorem isD_int_str {s : Str} : isD "int" (.str s) = false := by simp [isD, tyN]
theorem isD_int_list {l : List PyData} : isD "int" (.list l) = false := by simp [isD, tyN]
theorem isD_int_tuple {l : List PyData} : isD "int" (.tuple l) = false := by simp [isD, tyN]
theorem isD_int_dict {l : List (PyData × PyData)} : isD "int" (.dict l) = false := by simp [isD, tyN]
theorem isD_bool_none : isD "bool" .none = false := by simp [isD, tyN]
theorem isD_bool_bool {b : Bool} : isD "bool" (.bool b) = true := by simp [isD, tyN]
theorem isD_bool_int {i : Int} : isD "bool" (.int i) = false := by simp [isD, tyN]
theorem isD_bool_str {s : Str} : isD "bool" (.str s) = false := by simp [isD, tyN]
theorem isD_bool_list {l : List PyData} : isD "bool" (.list l) = false := by simp [isD, tyN]
theorem isD_bool_tuple {l : List PyData} : isD "bool" (.tuple l) = false := by simp [isD, tyN]
theorem isD_bool_dict {l : List (PyData × PyData)} : isD "bool" (.dict l) = false := by simp [isD, tyN]
theorem isD_str_none : isD "str" .none = false := by simp [isD, tyN]
theorem isD_str_bool {b : Bool} : isD "str" (.bool b) = false := by simp [isD, tyN]
theorem isD_str_int {i : Int} : isD "str" (.int i) = false := by simp [isD, tyN]
theorem isD_str_str {s : Str} : isD "str" (.str s) = true := by simp [isD, tyN]
theorem isD_str_list {l : List PyData} : isD "str" (.list l) = false := by simp [isD, tyN]
theorem isD_str_tuple {l : List PyData} : isD "str" (.tuple l) = false := by simp [isD, tyN]
theorem isD_str_dict {l : List (PyData × PyData)} : isD "str" (.dict l) = false := by simp [isD, tyN]
theorem isD_list_none : isD "list" .none = false := by simp [isD, tyN]
theorem isD_list_bool {b : Bool} : isD "list" (.bool b) = false := by simp [isD, tyN]
theorem isD_list_int {i : Int} : isD "list" (.int i) = false := by simp [isD, tyN]
theorem isD_list_str {s : Str} : isD "list" (.str s) = false := by simp [isD, tyN]
theorem isD_list_list {l : List PyData} : isD "list" (.list l) = true := by simp [isD, tyN]
theorem isD_list_tuple {l : List PyData} : isD "list" (.tuple l) = false := by simp [isD, tyN]
theorem isD_list_dict {l : List (PyData × PyData)} : isD "list" (.dict l) = false := by simp [isD, tyN]
theorem isD_tuple_none : isD "tuple" .none = false := by simp [isD, tyN]
theorem isD_tuple_bool {b : Bool} : isD "tuple" (.bool b) = false := by simp [isD, tyN]
theorem isD_tuple_int {i : Int} : isD "tuple" (.int i) = false := by simp [isD, tyN]
theorem isD_tuple_str {s : Str} : isD "tuple" (.str s) = false := by simp [isD, tyN]
theorem isD_tuple_list {l : List PyData} : isD "tuple" (.list l) = false := by simp [isD, tyN]
theorem isD_tuple_tuple {l : List PyData} : isD "tuple" (.tuple l) = true := by simp [isD, tyN]
theorem isD_tuple_dict {l : List (PyData × PyData)} : isD "tuple" (.dict l) = false := by simp [isD, tyN]
section
variable {CX : CXT} {P : Program} {w : World} {K : PySem.W.Frag} {mg : Str → Option Value} {base : Heap} {N : List Str} {q : Str} {sc : Scope} {f : Addr} {cd : Value} {A : Around} {outer : List Env} {s : Shared} {H : Hp} {E : XK}
theorem cx_K : (cxOf CX P w K mg base N q sc f cd A outer s H E).K = K := rfl
theorem cx_K' : (cxOf CX P w K mg base N q sc f cd A outer s H E).nox.K = K := rfl
end
section
variable {σ : St} {H : Hp} {Q : VK} {E : XK} {D : Ends} {v w : V} {i : Nat} {l : St} {o : Option V} {K : PySem.W.Frag}
def rIsN0 : R2 := fun x y H Q => y = .non ∧ Q (.bl (decide (x = .non))) H
def rNotN0 : R2 := fun x y H Q => y = .non ∧ Q (.bl (!decide (x = .non))) H
theorem op_isN0 {X : Cx} : OpR X (compareOp .Is) rIsN0 := op_isN
theorem op_notN0 {X : Cx} : OpR X (compareOp .IsNot) rNotN0 := op_notN
theorem w_isN0 {x : V} : rIsN0 x .non H Q = Q (.bl (decide (x = .non))) H := by simp [rIsN0]
theorem w_notN0 {x : V} : rNotN0 x .non H Q = Q (.bl (!decide (x = .non))) H := by simp [rNotN0]
theorem w_fld {t : TE} {f : Str} : tFld K t f σ H Q = t σ H fun x H1 => ∃ a C dx fs v, x = .ref a ∧ H1 a = some (.ins C dx fs) ∧ Cls K C ∧ NoAttr K C f ∧ fs.lookup f = some v ∧ Q v H1 := rfl
theorem w_sfld {ta tv : TE} {f : Str} : sFld K ta tv f D σ H = tv σ H fun y H1 => ta σ H1 fun x H2 => ∃ a C dx fs, x = .ref a ∧ H2 a = some (.ins C dx fs) ∧ Cls K C ∧ NoAttr K C f ∧ fs.length < 1000 ∧ D.nx σ (upd H2 a (.ins C dx (putF f y fs))) := rfl
theorem w_me {C : Addr} {m : Str} {sp : Sp} {ta : TE} {t : TA} : tMe C m sp E ta t σ H Q = ta σ H fun x H1 => ∃ a dx fs, x = .ref a ∧ H1 a = some (.ins C dx fs) ∧ fs.lookup m = none ∧ t σ H1 fun vs H2 => sp (x :: vs) H2 Q E := rfl
theorem w_ma {C : Addr} {sp : Sp} {t : TA} : tMa C sp E t σ H Q = t σ H fun vs H1 => ∀ x dx, H1 x = none → H1 dx = none → dx ≠ x → sp (.ref x :: vs) (upd (upd H1 dx (.own x)) x (.ins C dx [])) (fun v H2 => v = .non ∧ Q (.ref x) H2) E := rfl
theorem w_dget {td ty : TE} : tDGet td ty σ H Q = td σ H fun x H1 => ty σ H1 fun y H2 => ∃ a v, x = .ref a ∧ DGet H2 a y (some v) ∧ Q v H2 := rfl
theorem w_din {td ty : TE} : tDIn ty td σ H Q = ty σ H fun y H1 => td σ H1 fun x H2 => ∃ a o, x = .ref a ∧ DGet H2 a y o ∧ Q (.bl o.isSome) H2 := rfl
theorem w_dnotin {td ty : TE} : tDNotIn ty td σ H Q = ty σ H fun y H1 => td σ H1 fun x H2 => ∃ a o, x = .ref a ∧ DGet H2 a y o ∧ Q (.bl (!o.isSome)) H2 := rfl
theorem w_dput {td ty tv : TE} : sDPut td ty tv D σ H = tv σ H fun v H1 => td σ H1 fun x H2 => ty σ H2 fun y H3 => ∃ a H4, x = .ref a ∧ DPut H3 a y v H4 ∧ D.nx σ H4 := rfl
theorem w_slice {r : V → Option Int → Option Int → Hp → VK → Prop} {te : TE} {tl th : TO} : tSl r te tl th σ H Q = te σ H fun x H1 => tl σ H1 fun l H2 => th σ H2 fun u H3 => r x l u H3 Q := rfl
theorem w_nopart {R : Option Int → Hp → Prop} : tNoPart σ H R = R none H := rfl
theorem w_part {t : TE} {R : Option Int → Hp → Prop} : tPart t σ H R = t σ H fun x H1 => ∃ i, x = .int i ∧ R (some i) H1 := rfl
theorem ex_int {i : Int} {R : Int → Prop} : (∃ k, V.int i = V.int k ∧ R k) = R i := by
  refine propext ⟨fun ⟨k, e, h⟩ => ?_, fun h => ⟨i, rfl, h⟩⟩
  cases e
  exact h
theorem w_bm {T : String} {r : V → List V → Hp → VK → Prop} {to : TE} {t : TA} : tBM K T r to t σ H Q = to σ H fun x H1 => tyV K T x H1 ∧ t σ H1 fun xs H2 => r x xs H2 Q := rfl
theorem w_bm0 {T : String} {r : V → List V → Hp → VK → Prop} {to : TE} : tBM0 K T r to σ H Q = to σ H fun x H1 => tyV K T x H1 ∧ r x [] H1 Q := rfl
theorem w_par {i j : Nat} {ta : TA} : tPar i j ta D σ H = ta σ H fun vs H1 => ∃ v w, vs = [v, w] ∧ D.nx ((σ.set i (some v)).set j (some w)) H1 := rfl
theorem ex_two {a b : V} {R : V → V → Prop} : (∃ v w, [a, b] = [v, w] ∧ R v w) = R a b := by
  refine propext ⟨fun ⟨v, w, e, h⟩ => ?_, fun h => ⟨a, b, rfl, h⟩⟩
  cases e
  exact h
end
end K06
set_option maxHeartbeats 4000000
namespace K06
open PySem L2
/-! ### what is walked, comprehensions, for loops: the equations -/
def LcR (J : It) (g : TG) (tt : TT) (te : TE) (vs : List Nat) (σ : St) (H1 : Hp) (Q : VK) : Prop :=
  ∀ D, H1 D = none → ∃ W : Nat → Nat → Hp → Prop, (∃ m, W 0 m (upd H1 D (.lst []))) ∧ ∀ i m H, W i m H →
  (J.stop i H ∧ Q (.ref D) H) ∨ (J.go i H ∧ ∃ Nx : Hp → Prop, (∀ H', Nx H' → ∃ m', m' < m ∧ W (i + 1) m' H') ∧ ∀ x H', J.yld i H x H' → g x (wipe σ vs) H' fun σ2 H2 => wipe σ2 vs = wipe σ vs ∧ tt σ2 H2 fun b H3 =>
    if b = true then te σ2 H3 fun y H4 => ∃ acc, H4 D = some (.lst acc) ∧ acc.length < sizeLine ∧ Nx (upd H4 D (.lst (acc ++ [y]))) else Nx H3)
def ForR (J : It) (g : TG) (tb : TS) (D : Ends) (σ : St) (H1 : Hp) : Prop := ∃ W : Nat → Nat → St → Hp → Prop, (∃ m, W 0 m σ H1) ∧ ∀ i m σ H, W i m σ H →
  (J.stop i H ∧ D.nx σ H) ∨ (J.go i H ∧ ∃ N : St → Hp → Prop, (∀ σ' H', N σ' H' → ∃ m', m' < m ∧ W (i + 1) m' σ' H') ∧ ∀ x H', J.yld i H x H' → g x σ H' fun σ2 H2 => tb { D with nx := N, ct := N, bk := D.nx } σ2 H2)
section
variable {σ : St} {H : Hp} {Q : VK} {D : Ends} {K : PySem.W.Frag} {t : TE} {ta : TA} {wi : TI} {g : TG} {tt : TT} {te : TE} {vs : List Nat} {tb : TS} {R : It → Hp → Prop}
theorem w_lc : tLc wi g tt te vs σ H Q = wi σ H fun J H1 => LcR J g tt te vs σ H1 Q := rfl
theorem w_for : tFor wi g tb D σ H = wi σ H fun J H1 => ForR J g tb D σ H1 := rfl
theorem w_iList : iList K t σ H R = t σ H fun x H1 => ∃ a, x = .ref a ∧ (∃ xs, SqL K H1 a xs) ∧ R (Itl K a) H1 := rfl
theorem w_iTup : iTup K t σ H R = t σ H fun x H1 => ∃ a, x = .ref a ∧ (∃ xs, SqT K H1 a xs) ∧ R (Itt K a) H1 := rfl
theorem w_iStr : iStr t σ H R = t σ H fun v H1 => ∃ x, v = .str x ∧ R (Its x) H1 := rfl
theorem w_iRng1 : iRng1 ta σ H R = ta σ H fun vs H1 => ∃ j : Int, vs = [.int j] ∧ -(2 ^ 62) ≤ j ∧ j < 2 ^ 62 ∧ R (Itr 0 j.toNat) H1 := rfl
theorem w_iZip : iZip K ta σ H R = ta σ H fun vs H1 => ∃ a b xs ys, vs = [.ref a, .ref b] ∧ SqL K H1 a xs ∧ SqL K H1 b ys ∧ R (Itz K a b) H1 := rfl
theorem w_iEnum : iEnum K ta σ H R = ta σ H fun vs H1 => ∃ a xs, vs = [.ref a] ∧ SqL K H1 a xs ∧ R (Ite K a) H1 := rfl
theorem w_dnewK : tDNewK σ H Q = ∀ p, H p = none → Q (.ref p) (upd H p (.dK [])) := rfl
theorem w_gtup {n : Nat} {u : TGs} {v : V} {R : St → Hp → Prop} : gTup K n u v σ H R = ∃ a xs, v = .ref a ∧ SqT K H a xs ∧ xs.length = n ∧ u xs σ H R := rfl
theorem w_glst {n : Nat} {u : TGs} {v : V} {R : St → Hp → Prop} : gLst K n u v σ H R = ∃ a xs, v = .ref a ∧ SqL K H a xs ∧ xs.length = n ∧ u xs σ H R := rfl
theorem w_gcons {t : TG} {u : TGs} {v : V} {r : List V} {R : St → Hp → Prop} : gCons t u (v :: r) σ H R = t v σ H fun σ' H' => u r σ' H' R := by
  refine propext ⟨fun ⟨v', r', e, h⟩ => ?_, fun h => ⟨v, r, rfl, h⟩⟩
  cases e
  exact h
theorem w_gnil {R : St → Hp → Prop} : gNil [] σ H R = R σ H := by
  refine propext ⟨fun ⟨_, h⟩ => h, fun h => ⟨rfl, h⟩⟩
theorem w_gsub {to ti : TE} {u : TSet} {v : V} {R : St → Hp → Prop} : gSub to ti u v σ H R = to σ H fun o H1 => ti σ H1 fun i H2 => u o i v H2 fun H3 => R σ H3 := rfl
theorem w_tM1 {r : V → List V → Hp → VK → Prop} {to : TE} : tM1 r to te σ H Q = (to σ H fun x H1 => (∃ z, x = .str z) ∧ te σ H1 fun y H2 => r x [y] H2 Q) := rfl
end
theorem alloc1 {H H2 : Hp} {p : Addr} {o : HO} (hp : H p = none) (h : H2 = upd H p o) : Same H H2 ∧ H2 p = some o := by
  subst h
  exact ⟨Same.new hp, upd_same⟩
/-! ### a heap without one object -/
def cut (D : Addr) (H : Hp) : Hp := fun b => if b = D then none else H b
section
variable {D : Addr} {H H' H1 : Hp} {a : Addr} {o : HO}
theorem cut_same : Same (cut D H) H := fun b u e => by
  unfold cut at e
  split at e
  · cases e
  · exact e
theorem cut_get (h : a ≠ D) (e : H a = some o) : cut D H a = some o := by
  unfold cut
  rw [if_neg h]
  exact e
theorem cut_of (hD : H1 D = none) (e : Same H1 H) : Same H1 (cut D H) := fun b u q => cut_get (ne_of_none q hD) (e b u q)
theorem cut_mono (e : Same H H') : Same (cut D H) (cut D H') := fun b u q => by
  unfold cut at q ⊢
  split at q
  · cases q
  · rename_i h
    rw [if_neg h]
    exact e b u q
theorem cut_upd : Same (cut D H) (cut D (upd H D o)) := fun b u q => by
  unfold cut at q ⊢
  split at q
  · cases q
  · rename_i h
    rw [if_neg h, upd_ne h]
    exact q
end
/-! ### a comprehension whose turns leave what is known: the list made -/
theorem lc_core' {α : Type} {J : It} {j : Nat} {tt : TT} {te : TE} {vs : List Nat} {σ : St} {H1 : Hp} {Q : VK} (xs : List α) (it : α → V → Hp → Prop) (p : α → Bool) (P : α → V → Hp → Prop)
    (hgo : ∀ i H, Same H1 H → i < xs.length → J.go i H) (hst : ∀ H, Same H1 H → J.stop xs.length H)
    (hy : ∀ i H x H', Same H1 H → i < xs.length → J.yld i H x H' → H' = H ∧ ∃ a, xs[i]? = some a ∧ it a x H)
    (hz : xs.length < 100000) (hw : ∀ x, wipe ((wipe σ vs).set j (some x)) vs = wipe σ vs)
    (hP : ∀ a y H H', Same H H' → P a y H → P a y H')
    (ht : ∀ (i : Nat) (a : α) (x : V) (H : Hp), Same H1 H → xs[i]? = some a → it a x H → ∀ R : Bool → Hp → Prop, (∀ H3, Same H H3 → R (p a) H3) → tt ((wipe σ vs).set j (some x)) H R)
    (he : ∀ (i : Nat) (a : α) (x : V) (D : Addr) (H H3 : Hp) (acc : List V), Same H1 H → xs[i]? = some a → it a x H → p a = true → Same H H3 → H1 D = none → H3 D = some (.lst acc) →
      ∀ R : VK, (∀ y H4, Same H3 H4 → P a y (cut D H4) → R y H4) → te ((wipe σ vs).set j (some x)) H3 R)
    (k : ∀ D ys H, H1 D = none → Same H1 H → H D = some (.lst ys) → Paired (fun a y => P a y (cut D H)) (xs.filter p) ys → Q (.ref D) H) : LcR J (gName j) tt te vs σ H1 Q := by
  intro D hD
  have mono : ∀ {l : List α} {ys : List V} {H H' : Hp}, Same (cut D H) (cut D H') → Paired (fun a y => P a y (cut D H)) l ys → Paired (fun a y => P a y (cut D H')) l ys := fun e h => L2.Paired.mapP h fun a y z => hP a y _ _ e z
  refine ⟨fun i m H => m = xs.length - i ∧ i ≤ xs.length ∧ Same H1 H ∧ ∃ ys, H D = some (.lst ys) ∧ ys.length ≤ i ∧ Paired (fun a y => P a y (cut D H)) ((xs.take i).filter p) ys, ⟨xs.length, by simp, Nat.zero_le _, Same.new hD, [], upd_same, Nat.le_refl _, .nil⟩, ?_⟩
  rintro i m H ⟨rfl, hi, e, ys, hys, hl, hp⟩
  by_cases hlt : i < xs.length
  · refine .inr ⟨hgo i H e hlt, fun H' => i + 1 ≤ xs.length ∧ Same H1 H' ∧ ∃ ys, H' D = some (.lst ys) ∧ ys.length ≤ i + 1 ∧ Paired (fun a y => P a y (cut D H')) ((xs.take (i + 1)).filter p) ys, fun H' q => ⟨xs.length - (i + 1), by omega, rfl, q⟩, fun x H' y => ?_⟩
    obtain ⟨rfl, a, ha, hx⟩ := hy i H x H' e hlt y
    have etake : (xs.take (i + 1)).filter p = (xs.take i).filter p ++ (if p a = true then [a] else []) := by
      rw [List.take_succ, ha, List.filter_append]
      cases hpa : p a <;> simp [hpa]
    refine ⟨hw x, ht i a x _ e ha hx _ fun H3 e3 => ?_⟩
    cases hpa : p a with
    | true =>
      rw [if_pos rfl]
      refine he i a x D _ H3 ys e ha hx hpa e3 hD (e3 _ _ hys) _ fun y H4 e4 hP4 => ?_
      have e34 := e3.trans e4
      refine ⟨ys, e34 _ _ hys, Nat.lt_of_lt_of_le (Nat.lt_of_le_of_lt hl (Nat.lt_trans hlt hz)) (by decide), hlt, (e.trans e34).mut hD, ys ++ [y], upd_same, by simp; omega, ?_⟩
      rw [etake, hpa, if_pos rfl]
      exact (mono ((cut_mono e34).trans cut_upd) hp).snoc (hP _ _ _ _ cut_upd hP4)
    | false =>
      rw [if_neg Bool.false_ne_true]
      refine ⟨hlt, e.trans e3, ys, e3 _ _ hys, by omega, ?_⟩
      rw [etake, hpa, if_neg Bool.false_ne_true, List.append_nil]
      exact mono (cut_mono e3) hp
  · have ei : i = xs.length := by omega
    subst ei
    refine .inl ⟨hst H e, k D ys H hD e hys ?_⟩
    rwa [List.take_length] at hp
section
variable {j : Nat} {tt : TT} {te : TE} {vs : List Nat} {σ : St} {H1 : Hp} {Q : VK} {K : PySem.W.Frag}
/-- over a list -/
theorem lcL {a : Addr} (xs : List V) (p : V → Bool) (P : V → V → Hp → Prop) (hx : SqL K H1 a xs) (hz : xs.length < 100000) (hw : ∀ x, wipe ((wipe σ vs).set j (some x)) vs = wipe σ vs) (hP : ∀ a y H H', Same H H' → P a y H → P a y H')
    (ht : ∀ (i : Nat) (x : V) (H : Hp), Same H1 H → xs[i]? = some x → ∀ R : Bool → Hp → Prop, (∀ H3, Same H H3 → R (p x) H3) → tt ((wipe σ vs).set j (some x)) H R)
    (he : ∀ (i : Nat) (x : V) (D : Addr) (H3 : Hp) (acc : List V), Same H1 H3 → xs[i]? = some x → p x = true → H1 D = none → H3 D = some (.lst acc) →
      ∀ R : VK, (∀ y H4, Same H3 H4 → P x y (cut D H4) → R y H4) → te ((wipe σ vs).set j (some x)) H3 R)
    (k : ∀ D ys H, H1 D = none → Same H1 H → H D = some (.lst ys) → Paired (fun a y => P a y (cut D H)) (xs.filter p) ys → Q (.ref D) H) : LcR (Itl K a) (gName j) tt te vs σ H1 Q :=
  lc_core' xs (fun b x _ => b = x) p P (fun i H e hi => ⟨xs, xs[i], e.seq hx, by simp [hi]⟩) (fun H e => ⟨xs, e.seq hx, Nat.le_refl _⟩) (fun i H x H' e hi y => ⟨y.1, x, y.2 xs (e.seq hx), rfl⟩) hz hw hP
    (fun i b x H e hb hx R r => ht i x H e (by rw [← hx]; exact hb) R (by rw [← hx]; exact r)) (fun i b x D H H3 acc e hb hx hp e3 hD h3 R r => by subst hx; exact he i b D H3 acc (e.trans e3) hb hp hD h3 R r) k
/-- over the signs of a text -/
theorem lcS {x : Str} (p : Nat → Bool) (P : Nat → V → Hp → Prop) (hz : x.length < 100000) (hw : ∀ x, wipe ((wipe σ vs).set j (some x)) vs = wipe σ vs) (hP : ∀ a y H H', Same H H' → P a y H → P a y H')
    (ht : ∀ (i c : Nat) (H : Hp), Same H1 H → x.cps.toList[i]? = some c → ∀ R : Bool → Hp → Prop, (∀ H3, Same H H3 → R (p c) H3) → tt ((wipe σ vs).set j (some (.str ⟨#[c]⟩))) H R)
    (he : ∀ (i c : Nat) (D : Addr) (H3 : Hp) (acc : List V), Same H1 H3 → x.cps.toList[i]? = some c → p c = true → H1 D = none → H3 D = some (.lst acc) →
      ∀ R : VK, (∀ y H4, Same H3 H4 → P c y (cut D H4) → R y H4) → te ((wipe σ vs).set j (some (.str ⟨#[c]⟩))) H3 R)
    (k : ∀ D ys H, H1 D = none → Same H1 H → H D = some (.lst ys) → Paired (fun a y => P a y (cut D H)) (x.cps.toList.filter p) ys → Q (.ref D) H) : LcR (Its x) (gName j) tt te vs σ H1 Q :=
  lc_core' x.cps.toList (fun c v _ => v = .str ⟨#[c]⟩) p P (fun i H e hi => by show i < x.cps.size; simpa using hi) (fun H e => by show x.cps.size ≤ _; simp) (fun i H v H' e hi y => ⟨y.1, by
    obtain ⟨c, h1, h2⟩ := y.2
    exact ⟨c, by simpa using h1, h2⟩⟩) (by simpa [Str.length] using hz) hw hP
    (fun i c v H e hb hv R r => by subst hv; exact ht i c H e hb R r) (fun i c v D H H3 acc e hb hv hp e3 hD h3 R r => by subst hv; exact he i c D H3 acc (e.trans e3) hb hp hD h3 R r) k
/-- over a range -/
theorem lcG {lo : Int} {n : Nat} (P : Nat → V → Hp → Prop) (hz : n < 100000) (hw : ∀ x, wipe ((wipe σ vs).set j (some x)) vs = wipe σ vs) (hP : ∀ a y H H', Same H H' → P a y H → P a y H')
    (he : ∀ (i : Nat) (D : Addr) (H3 : Hp) (acc : List V), Same H1 H3 → i < n → H1 D = none → H3 D = some (.lst acc) →
      ∀ R : VK, (∀ y H4, Same H3 H4 → P i y (cut D H4) → R y H4) → te ((wipe σ vs).set j (some (.int (lo + (i : Int))))) H3 R)
    (k : ∀ D ys H, H1 D = none → Same H1 H → H D = some (.lst ys) → Paired (fun a y => P a y (cut D H)) (List.range n) ys → Q (.ref D) H) : LcR (Itr lo n) (gName j) tYes te vs σ H1 Q :=
  lc_core' (List.range n) (fun i v _ => v = .int (lo + (i : Int))) (fun _ => true) P (fun i H e hi => by show i < n; simpa using hi) (fun H e => by show n ≤ _; simp) (fun i H v H' e hi y => ⟨y.1, i, by simp at hi; simp [hi], y.2⟩) (by simpa using hz) hw hP
    (fun i c v H e hb hv R r => r H (Same.refl H)) (fun i c v D H H3 acc e hb hv hp e3 hD h3 R r => by
      subst hv
      have hi : i < n := by
        have := (List.getElem?_eq_some_iff.mp hb).1
        simpa using this
      have hc : c = i := by
        rw [List.getElem?_range hi] at hb
        exact (Option.some.inj hb).symm
      subst hc
      exact he c D H3 acc (e.trans e3) hi hD h3 R r) (fun D ys H hD e h1 h2 => k D ys H hD e h1 (by rwa [List.filter_eq_self.mpr (fun _ _ => rfl)] at h2))
/-- over zip of two lists, the element a value of both -/
theorem lcZ {a b : Addr} {i1 i2 : Nat} {T1 : TG} (xs ys : List V) (f : V → V → V) (hx : SqL K H1 a xs) (hy : SqL K H1 b ys) (hz : xs.length < 100000) (hT : T1 = gTup K 2 (gCons (gName i1) (gCons (gName i2) gNil)))
    (hw : ∀ x y, wipe (((wipe σ vs).set i1 (some x)).set i2 (some y)) vs = wipe σ vs)
    (he : ∀ (i : Nat) (x y : V) (H3 : Hp), Same H1 H3 → xs[i]? = some x → ys[i]? = some y → ∀ R : VK, (∀ H4, Same H3 H4 → R (f x y) H4) → te (((wipe σ vs).set i1 (some x)).set i2 (some y)) H3 R)
    (k : ∀ D H, H1 D = none → Same H1 H → H D = some (.lst (List.zipWith f xs ys)) → Q (.ref D) H) : LcR (Itz K a b) T1 tYes te vs σ H1 Q := by
  subst hT
  intro D hD
  have tk : ∀ i x y, xs[i]? = some x → ys[i]? = some y → (List.zipWith f xs ys).take (i + 1) = (List.zipWith f xs ys).take i ++ [f x y] := fun i x y h1 h2 => by
    have h3 : (List.zipWith f xs ys)[i]? = some (f x y) := by rw [List.getElem?_zipWith, h1, h2]
    rw [List.take_succ, h3]
    rfl
  have eL : (List.zipWith f xs ys).length = min xs.length ys.length := List.length_zipWith
  refine ⟨fun i m H => m = (List.zipWith f xs ys).length - i ∧ i ≤ (List.zipWith f xs ys).length ∧ Same H1 H ∧ H D = some (.lst ((List.zipWith f xs ys).take i)), ⟨_, rfl, Nat.zero_le _, Same.new hD, upd_same⟩, ?_⟩
  rintro i m H ⟨rfl, hi, e, hd⟩
  by_cases hlt : i < (List.zipWith f xs ys).length
  · have h1 : i < xs.length := by omega
    have h2 : i < ys.length := by omega
    refine .inr ⟨⟨xs, ys, xs[i], ys[i], e.seq hx, e.seq hy, by simp [h1], by simp [h2]⟩, fun H' => i + 1 ≤ (List.zipWith f xs ys).length ∧ Same H1 H' ∧ H' D = some (.lst ((List.zipWith f xs ys).take (i + 1))), fun H' q => ⟨_, by omega, rfl, q⟩, fun v H' y => ?_⟩
    obtain ⟨T, x, y', rfl, hT, rfl, q1, q2⟩ := y
    have g1 := q1 xs (e.seq hx)
    have g2 := q2 ys (e.seq hy)
    have eT : Same H (upd H T (.tup [x, y'])) := Same.new hT
    refine ⟨T, [x, y'], rfl, SqT.of upd_same, rfl, x, [y'], rfl, y', [], rfl, rfl, hw x y', ?_⟩
    show te _ _ _
    refine he i x y' _ (e.trans eT) g1 g2 _ fun H4 e4 => ⟨_, e4 _ _ (eT _ _ hd), ?_, hlt, ((e.trans eT).trans e4).mut hD, ?_⟩
    · exact Nat.lt_of_le_of_lt (List.length_take_le _ _) (Nat.lt_of_lt_of_le (Nat.lt_of_lt_of_le hlt (by omega)) (Nat.le_of_lt (Nat.lt_of_lt_of_le hz (by decide))))
    · rw [upd_same, tk i x y' g1 g2]
  · have ei : i = (List.zipWith f xs ys).length := by omega
    refine .inl ⟨⟨xs, ys, e.seq hx, e.seq hy, by omega⟩, k D H hD e ?_⟩
    rw [hd, ei, List.take_length]
/-- Paired by values -/
theorem paired_map {α : Type} {f : α → V} : ∀ {l : List α} {ys : List V}, Paired (fun a y => y = f a) l ys → ys = l.map f
  | [], _, .nil => rfl
  | a :: l, _, .cons h t => by rw [h, paired_map t]; rfl
theorem paired_dp {α : Type} {f : α → PyData} {H : Hp} : ∀ {l : List α} {ys : List V}, Paired (fun a y => Dp K H y (f a)) l ys → DpAll K H ys (l.map f)
  | [], _, .nil => .nil
  | a :: l, _, .cons h t => .cons h (paired_dp t)
end
end K06
set_option maxHeartbeats 4000000
namespace K06
open PySem L2
section
variable {j : Nat} {tt : TT} {te : TE} {vs : List Nat} {σ : St} {H1 : Hp} {Q : VK} {K : PySem.W.Frag}
/-- over a list of data -/
theorem lcD {a : Addr} {xs : List V} (ds : List PyData) (p : PyData → Bool) (P : PyData → V → Hp → Prop) (hx : SqL K H1 a xs) (hd : DpAll K H1 xs ds) (hz : ds.length < 100000) (hw : ∀ x, wipe ((wipe σ vs).set j (some x)) vs = wipe σ vs) (hP : ∀ a y H H', Same H H' → P a y H → P a y H')
    (ht : ∀ (d : PyData) (x : V) (H : Hp), Same H1 H → d ∈ ds → Dp K H1 x d → ∀ R : Bool → Hp → Prop, (∀ H3, Same H H3 → R (p d) H3) → tt ((wipe σ vs).set j (some x)) H R)
    (he : ∀ (d : PyData) (x : V) (D : Addr) (H3 : Hp) (acc : List V), Same H1 H3 → d ∈ ds → Dp K H1 x d → p d = true → H1 D = none → H3 D = some (.lst acc) →
      ∀ R : VK, (∀ y H4, Same H3 H4 → P d y (cut D H4) → R y H4) → te ((wipe σ vs).set j (some x)) H3 R)
    (k : ∀ D ys H, H1 D = none → Same H1 H → H D = some (.lst ys) → Paired (fun a y => P a y (cut D H)) (ds.filter p) ys → Q (.ref D) H) : LcR (Itl K a) (gName j) tt te vs σ H1 Q := by
  have hl := hd.length
  refine lc_core' ds (fun d x _ => Dp K H1 x d) p P (fun i H e hi => ⟨xs, xs[i]'(by omega), e.seq hx, by simp [show i < xs.length by omega]⟩) (fun H e => ⟨xs, e.seq hx, by omega⟩) (fun i H x H' e hi y => ?_) hz hw hP
    (fun i d x H e hb hx R r => ht d x H e (List.mem_of_getElem? hb) hx R r) (fun i d x D H H3 acc e hb hx hp e3 hD h3 R r => he d x D H3 acc (e.trans e3) (List.mem_of_getElem? hb) hx hp hD h3 R r) k
  obtain ⟨d, h1, h2⟩ := hd.get (y.2 xs (e.seq hx))
  exact ⟨y.1, d, h1, h2⟩
/-- a truth value of each -/
theorem lcB {a : Addr} {xs : List V} (ds : List PyData) (f : PyData → Bool) (hx : SqL K H1 a xs) (hd : DpAll K H1 xs ds) (hz : ds.length < 100000) (hw : ∀ x, wipe ((wipe σ vs).set j (some x)) vs = wipe σ vs)
    (he : ∀ (d : PyData) (x : V) (H3 : Hp), Same H1 H3 → d ∈ ds → Dp K H1 x d → ∀ R : VK, (∀ H4, Same H3 H4 → R (.bl (f d)) H4) → te ((wipe σ vs).set j (some x)) H3 R)
    (k : ∀ D H, H1 D = none → Same H1 H → H D = some (.lst ((ds.map f).map V.bl)) → Q (.ref D) H) : LcR (Itl K a) (gName j) tYes te vs σ H1 Q :=
  lcD ds (fun _ => true) (fun d y _ => y = .bl (f d)) hx hd hz hw (fun _ _ _ _ _ h => h) (fun _ _ H _ _ _ R r => r H (Same.refl H)) (fun d x D H3 acc e hm hx _ _ _ R r => he d x H3 e hm hx R fun H4 e4 => r _ H4 e4 rfl) fun D ys H hD e hl hp => by
    rw [List.filter_eq_self.mpr (fun _ _ => rfl)] at hp
    rw [paired_map (f := fun d => V.bl (f d)) hp] at hl
    exact k D H hD e (by rw [hl, List.map_map]; rfl)
end
/-! ### rules whose reading names the fragment: K told (within a comprehension) -/
section
variable {X : Cx}
theorem slT (K : PySem.W.Frag) (h : X.K = K := by rfl) : SlR X (rSlT K) := h ▸ sl_tup
theorem slL (K : PySem.W.Frag) (h : X.K = K := by rfl) : SlR X (rSlL K) := h ▸ sl_list
theorem ixL (K : PySem.W.Frag) (h : X.K = K := by rfl) : IxR X (rIxL K) := h ▸ ix_list
theorem ixT (K : PySem.W.Frag) (h : X.K = K := by rfl) : IxR X (rIxT K) := h ▸ ix_tup
theorem isiK (K : PySem.W.Frag) (h : X.K = K := by rfl) : CallR X (.builtin "isinstance") (rIsi K) := h ▸ call_isi
def rLenQ (K : PySem.W.Frag) : List V → Hp → VK → Prop := fun xs H Q => ∃ p ys, xs = [.ref p] ∧ (SqL K H p ys ∨ SqT K H p ys) ∧ Q (.int ys.length) H
theorem lenK (K : PySem.W.Frag) (h : X.K = K := by rfl) : CallR X (.builtin "len") (rLenQ K) := by
  subst h
  exact call_len_seq
theorem inQ (K : PySem.W.Frag) (h : X.K = K := by rfl) : OpR X (compareOp .In) (rIn K false) := h ▸ op_in_seq
theorem notInQ (K : PySem.W.Frag) (h : X.K = K := by rfl) : OpR X (compareOp .NotIn) (rIn K true) := h ▸ op_notIn_seq
theorem eqDK (K : PySem.W.Frag) (hu : X.A.units + 64 < cLine) (h : X.K = K := by rfl) : OpR X (compareOp .Eq) (rEqD K) := h ▸ op_eqD hu
theorem neDK (K : PySem.W.Frag) (hu : X.A.units + 64 < cLine) (h : X.K = K := by rfl) : OpR X (compareOp .NotEq) (rNeD K) := h ▸ op_neD hu
end
theorem paired_pull {α β : Type} {f : α → β} {R : α → V → Prop} : ∀ {l : List α} {ys : List V}, Paired (fun d y => ∀ a, d = f a → R a y) (l.map f) ys → Paired R l ys
  | [], _, .nil => .nil
  | a :: l, _, .cons h t => .cons (h a rfl) (paired_pull t)
theorem all_id_map {α : Type} (f : α → Bool) (l : List α) : (l.map f).all id = l.all f := by
  rw [List.all_map]
  rfl
end K06
set_option maxHeartbeats 4000000
namespace K06
open PySem L2
local macro_rules | `(tactic| walk_at "ws") => `(tactic| try simp only [w_var0, w_varS, w_c, w_ret, w_retN, w_next, w_seq, w_asg, w_gn, w_drop, w_if, w_and, w_or, w_not, ex_bl, ex_int, ex_two, w_B, w_test, w_andV, w_orV, w_notV, w_ife, w_op, w_un, w_chain, w_nil, w_cons, w_cb, w_ca, w_lst, w_tup, w_I0, w_I, w_U, w_eqI, w_neI, w_eqS, w_neS,
  w_isN0, w_notN0, w_fld, w_sfld, w_me, w_ma, w_dget, w_din, w_dnotin, w_dput, w_slice, w_part, w_nopart, w_bm, w_bm0, w_par, w_lc, w_for, w_iList, w_iTup, w_iStr, w_iRng1, w_iZip, w_iEnum, w_tM1, w_dnewK, w_gtup, w_glst, w_gcons, w_gnil, w_gsub, cx_K, cx_K',
  L2.start, endsOf, List.map_cons, List.map_nil, List.length_cons, List.length_nil, List.cons_append, List.nil_append, Nat.zero_add, Nat.reduceAdd, Nat.reduceSub, List.replicate_succ, List.replicate_zero, List.set_cons_zero, List.set_cons_succ, List.set_nil,
  sp0_eq, sp1_eq, sp2_eq, sp3_eq, sp4_eq, sp5_eq, if_true, Bool.false_eq_true, if_false, decide_eq_true_eq, Bool.not_eq_true', decide_eq_false_iff_not, Bool.not_true, Bool.not_false, Bool.not_eq_false', isD_int_none, isD_int_bool, isD_int_int, isD_int_str, isD_int_list, isD_int_tuple, isD_int_dict, isD_bool_none, isD_bool_bool, isD_bool_int, isD_bool_str, isD_bool_list, isD_bool_tuple, isD_bool_dict, isD_str_none, isD_str_bool, isD_str_int, isD_str_str, isD_str_list, isD_str_tuple, isD_str_dict, isD_list_none, isD_list_bool, isD_list_int, isD_list_str, isD_list_list, isD_list_tuple, isD_list_dict, isD_tuple_none, isD_tuple_bool, isD_tuple_int, isD_tuple_str, isD_tuple_list, isD_tuple_tuple, isD_tuple_dict])
local macro_rules | `(tactic| walk_at "al") => `(tactic| (intro p hp; generalize hH : upd _ _ _ = H2; obtain ⟨e2, g2⟩ := alloc1 hp hH.symm; clear hH))
section
variable {P : Program} {w : World} {K : PySem.W.Frag} {mg : Str → Option Value} {base : Heap}
/-! ### a number between two -/
def amongD (d : PyData) (a b : Int) : Bool := match d with
  | .int i => decide (a ≤ i) && decide (i ≤ b)
  | _ => false
def p_is_among (K : PySem.W.Frag) : P3 := fun v a b H Q _ => ∃ d i j, Av K H v d ∧ a = .int i ∧ b = .int j ∧ Q (.bl (amongD d i j)) H
theorem ok_is_among (T : Tx K mg) : Cal CX0 P w K mg base 1 "is_among" (sp3 (p_is_among K)) := by
  refine cal_of T.d_is_among T.g_is_among (fun _ _ _ _ _ _ => bind3 fun _ _ _ => rfl) sc_is_among len3 fun vs H Q E ⟨v, a, b, e, h⟩ cdv A outer s hr => ?_
  subst e
  refine ⟨_, PSs.nox (pss_one (ps_ret (pe_and (pe_callB call_isi rfl T.f_isinstance (by decide +kernel) (pa_cons (pv 0) (pa_cons (pe_bltn (v := .ty "int") rfl T.f_int (by decide +kernel) rfl) pa_nil))) (pe_and (pe_not (pe_callB call_isi rfl T.f_isinstance (by decide +kernel) (pa_cons (pv 0) (pa_cons (pe_bltn (v := .ty "bool") rfl T.f_bool (by decide +kernel) rfl) pa_nil)))) (pe_one (pe_chain op_le op_le (pv 1) (pv 0) (pv 2))))))), ?_⟩
  obtain ⟨d, i, j, hv, rfl, rfl, q⟩ := h
  walk_at "ws"
  refine w_isi hv okI ?_
  cases d <;> walk_at "ws" <;> first | exact q | refine w_isi hv okB ?_
  · walk_at "ws"
    exact q
  · walk_at "ws"
    cases hv with
    | dp hv _ =>
      rw [hv.int_inv]
      walk_at "ws"
      refine ite2 (fun h2 => ?_) fun h2 => ?_
      · simpa only [amongD, decide_eq_true h2, Bool.true_and] using q
      · simpa only [amongD, decide_eq_false h2, Bool.false_and] using q
theorem ok_law_among (T : Tx K mg) : Cal CX0 P w K mg base 1 "_law_among" (sp3 (p_is_among K)) := by
  refine cal_of T.d_law_among T.g__law_among (fun _ _ _ _ _ _ => bind3 fun _ _ _ => rfl) sc_law_among len3 fun vs H Q E ⟨v, a, b, e, h⟩ cdv A outer s hr => ?_
  subst e
  refine ⟨_, PSs.nox (pss_one (ps_ret (pe_and (pe_callB call_isi rfl T.f_isinstance (by decide +kernel) (pa_cons (pv 0) (pa_cons (pe_bltn (v := .ty "int") rfl T.f_int (by decide +kernel) rfl) pa_nil))) (pe_and (pe_not (pe_callB call_isi rfl T.f_isinstance (by decide +kernel) (pa_cons (pv 0) (pa_cons (pe_bltn (v := .ty "bool") rfl T.f_bool (by decide +kernel) rfl) pa_nil)))) (pe_one (pe_chain op_le op_le (pv 1) (pv 0) (pv 2))))))), ?_⟩
  obtain ⟨d, i, j, hv, rfl, rfl, q⟩ := h
  walk_at "ws"
  refine w_isi hv okI ?_
  cases d <;> walk_at "ws" <;> first | exact q | refine w_isi hv okB ?_
  · walk_at "ws"
    exact q
  · walk_at "ws"
    cases hv with
    | dp hv _ =>
      rw [hv.int_inv]
      walk_at "ws"
      refine ite2 (fun h2 => ?_) fun h2 => ?_
      · simpa only [amongD, decide_eq_true h2, Bool.true_and] using q
      · simpa only [amongD, decide_eq_false h2, Bool.false_and] using q
/-! ### the drawn numbers -/
def mixed (c k : Int) : Int := let n := c % 1000000007 + 7919 * k + 13; n * n % 1000000007 * n % 998244353 / 11
def p_mixed : P2 := fun a b H Q _ => ∃ c k, a = .int c ∧ b = .int k ∧ 0 ≤ k ∧ k ≤ 1000 ∧ Q (.int (mixed c k)) H
theorem mixed_nn (c k : Int) : 0 ≤ mixed c k := Int.ediv_nonneg (Int.emod_nonneg _ (by decide)) (by decide)
theorem mixed_lt (c k : Int) : mixed c k < 90749487 := by
  have h := Int.emod_lt_of_pos (((c % 1000000007 + 7919 * k + 13) * (c % 1000000007 + 7919 * k + 13)) % 1000000007 * (c % 1000000007 + 7919 * k + 13)) (show (0 : Int) < 998244353 by decide)
  show _ / _ < _
  omega
theorem ok_law_mixed (T : Tx K mg) : Cal CX0 P w K mg base 1 "_law_mixed" (sp2 p_mixed) := by
  refine cal_of T.d_law_mixed T.g__law_mixed (fun _ _ _ _ _ _ => bind2 fun _ _ => rfl) sc_law_mixed len2 fun vs H Q E ⟨a, b, e, h⟩ cdv A outer s hr => ?_
  subst e
  refine ⟨_, PSs.nox (pss_cons (ps_set (i := 2) sc_law_mixed.nd rfl (Or.inl rfl) (pe_op op_add (pe_op op_add (pe_op op_mod (pv 0) pe_int) (pe_op op_mul pe_int (pv 1))) pe_int))
    (pss_one (ps_ret (pe_op op_fdiv (pe_op op_mod (pe_op op_mul (pe_op op_mod (pe_op op_mul (pv 2) (pv 2)) pe_int) (pv 2)) pe_int) pe_int)))), ?_⟩
  obtain ⟨c, k, rfl, rfl, h0, h1, q⟩ := h
  have a1 := Int.emod_nonneg c (show (1000000007 : Int) ≠ 0 by decide)
  have a2 := Int.emod_lt_of_pos c (show (0 : Int) < 1000000007 by decide)
  walk_at "ws"
  refine ⟨by decide, .inr ⟨by omega, by omega⟩, .inl ⟨by omega, by omega⟩, by decide, .inr ⟨by omega, by omega⟩, by decide, ⟨by decide, by decide⟩, q⟩
def cellAt (ns : List Int) (k : Nat) : Int := ns.getD k 0
def p_cell_at (K : PySem.W.Frag) : P2 := fun a b H Q _ => ∃ (p : Addr) (ns : List Int) (k : Nat), a = .ref p ∧ b = .int (k : Int) ∧ SqL K H p (ns.map V.int) ∧ Q (.int (cellAt ns k)) H
theorem ok_law_cell_at (T : Tx K mg) : Cal CX0 P w K mg base 1 "_law_cell_at" (sp2 (p_cell_at K)) := by
  refine cal_of T.d_law_cell_at T.g__law_cell_at (fun _ _ _ _ _ _ => bind2 fun _ _ => rfl) sc_law_cell_at len2 fun vs H Q E ⟨a, b, e, h⟩ cdv A outer s hr => ?_
  subst e
  refine ⟨_, PSs.nox (pss_cons (ps_if (pt_cmpR op_lt (pv 1) (pe_callB call_len_seq rfl T.f_len (by decide +kernel) (pa_cons (pv 0) pa_nil)) (nomark _)) (pss_one (ps_ret (pe_ix ix_list (pv 0) (pv 1) (fun _ _ => rfl)))) pss_nil)
    (pss_one (ps_ret pe_int))), ?_⟩
  obtain ⟨p, ns, k, rfl, rfl, hp, q⟩ := h
  walk_at "ws"
  refine ⟨p, _, rfl, .inl hp, ?_⟩
  simp only [List.length_map]
  refine ite2 (fun h => ?_) fun h => ?_
  · have hk : k < ns.length := by omega
    refine ⟨p, _, _, _, rfl, rfl, hp, atI_nat (v := .int (cellAt ns k)) ?_, q⟩
    rw [List.getElem?_map, List.getElem?_eq_getElem hk]
    simp [cellAt, List.getD, List.getElem?_eq_getElem hk]
  · have e : cellAt ns k = 0 := by
      unfold cellAt
      rw [List.getD, List.getElem?_eq_none (by omega)]
      rfl
    rw [e] at q
    exact q
end
end K06
set_option maxHeartbeats 4000000
namespace K06
open PySem L2
local macro_rules | `(tactic| walk_at "ws") => `(tactic| try simp only [w_var0, w_varS, w_c, w_ret, w_retN, w_next, w_seq, w_asg, w_gn, w_drop, w_if, w_and, w_or, w_not, ex_bl, ex_int, ex_two, w_B, w_test, w_andV, w_orV, w_notV, w_ife, w_op, w_un, w_chain, w_nil, w_cons, w_cb, w_ca, w_lst, w_tup, w_I0, w_I, w_U, w_eqI, w_neI, w_eqS, w_neS,
  w_isN0, w_notN0, w_fld, w_sfld, w_me, w_ma, w_dget, w_din, w_dnotin, w_dput, w_slice, w_part, w_nopart, w_bm, w_bm0, w_par, w_lc, w_for, w_iList, w_iTup, w_iStr, w_iRng1, w_iZip, w_iEnum, w_tM1, w_dnewK, w_gtup, w_glst, w_gcons, w_gnil, w_gsub, cx_K, cx_K',
  L2.start, endsOf, List.map_cons, List.map_nil, List.length_cons, List.length_nil, List.cons_append, List.nil_append, Nat.zero_add, Nat.reduceAdd, Nat.reduceSub, List.replicate_succ, List.replicate_zero, List.set_cons_zero, List.set_cons_succ, List.set_nil,
  sp0_eq, sp1_eq, sp2_eq, sp3_eq, sp4_eq, sp5_eq, if_true, Bool.false_eq_true, if_false, decide_eq_true_eq, Bool.not_eq_true', decide_eq_false_iff_not, Bool.not_true, Bool.not_false, Bool.not_eq_false', isD_int_none, isD_int_bool, isD_int_int, isD_int_str, isD_int_list, isD_int_tuple, isD_int_dict, isD_bool_none, isD_bool_bool, isD_bool_int, isD_bool_str, isD_bool_list, isD_bool_tuple, isD_bool_dict, isD_str_none, isD_str_bool, isD_str_int, isD_str_str, isD_str_list, isD_str_tuple, isD_str_dict, isD_list_none, isD_list_bool, isD_list_int, isD_list_str, isD_list_list, isD_list_tuple, isD_list_dict, isD_tuple_none, isD_tuple_bool, isD_tuple_int, isD_tuple_str, isD_tuple_list, isD_tuple_tuple, isD_tuple_dict])
local macro_rules | `(tactic| walk_at "al") => `(tactic| (intro p hp; generalize hH : upd _ _ _ = H2; obtain ⟨e2, g2⟩ := alloc1 hp hH.symm; clear hH))
theorem cr_lenA {X : Cx} : CallR X (.builtin "len") (fun xs H Q => (∃ p ys, xs = [.ref p] ∧ (SqL X.K H p ys ∨ SqT X.K H p ys) ∧ Q (.int ys.length) H) ∨ (∃ a kvs, xs = [V.ref a] ∧ H a = some (.dK kvs) ∧ Q (.int kvs.length) H)) := CallR.or call_len_seq call_lenD
section
variable {P : Program} {w : World} {K : PySem.W.Frag} {mg : Str → Option Value} {base : Heap}
/-! ### names -/
def letL : List Nat := (Str.ofString "abcdefghijklmnopqrstuvwxyz").cps.toList
def isNameS (x : Str) : Bool := (decide (1 ≤ x.length) && decide (x.length ≤ 8)) && x.cps.toList.all fun c => decide (c ∈ letL)
def isNameD (d : PyData) : Bool := match d with
  | .str x => isNameS x
  | _ => false
def p_is_name (K : PySem.W.Frag) : P1 := fun v H Q _ => ∃ d, Av K H v d ∧ ∀ H', Same H H' → Q (.bl (isNameD d)) H'
theorem all_map (l : List Nat) : (l.map fun c => decide (c ∈ letL)).all id = l.all fun c => decide (c ∈ letL) := by
  rw [List.all_map]
  rfl
theorem ok_is_name (T : Tx K mg) : Cal CX0 P w K mg base 1 "is_name" (sp1 (p_is_name K)) := by
  refine cal_of T.d_is_name T.g_is_name (fun _ _ _ _ _ _ => bind1 fun _ => rfl) sc_is_name len1 fun vs H Q E ⟨v, e, h⟩ cdv A outer s hr => ?_
  subst e
  refine ⟨_, PSs.nox (pss_cons (ps_if (PW.pt (pw_or (pt_not (pt_val (pe_callB call_isi rfl T.f_isinstance (by decide +kernel) (pa_cons (pv 0) (pa_cons (pe_bltn (v := .ty "str") rfl T.f_str (by decide +kernel) rfl) pa_nil))))) (pw_or1 (pt_not (pt_chain op_le op_le pe_int (pe_callB call_len_str rfl T.f_len (by decide +kernel) (pa_cons (pv 0) pa_nil)) (C8.pe_gc rfl T.c_MOST_LETTERS)))))) (pss_one (ps_ret pe_bl)) pss_nil)
    (pss_one (ps_ret (pe_callB (cr_all rfl) rfl T.f_all (by decide +kernel) (pa_cons (pe_lc (own := [("sign", 1)]) rfl sc_is_name.nd (pi_str (pv 0)) (blkOk_by (own := [("sign", 1)]) (N := ["thing", "sign"]) (sc := defScope s_is_name) (by decide +kernel)) (fun _ _ _ _ _ => pg_name (i := 1) sc_is_name.nd rfl (Or.inl rfl)) (fun _ _ _ _ _ => pts_nil) (fun _ _ _ _ _ => (pe_cmpR op_in_sign (pv 1) (C8.pe_gc rfl T.c_LETTERS) rfl))) pa_nil))))), ?_⟩
  obtain ⟨d, hv, q⟩ := h
  walk_at "ws"
  refine w_isi hv okS ?_
  cases d <;> walk_at "ws" <;> first | exact q _ (Same.refl H) | skip
  rename_i x
  cases hv with
  | dp hv ok =>
    have hx := okD_str ok
    rw [hv.str_inv]
    refine ⟨x, rfl, Nat.le_trans hx (by decide), ?_⟩
    refine ite2 (fun h1 => ?_) fun h1 => ?_
    · refine ite2 (fun h2 => ?_) fun h2 => ?_
      · have e2 : ¬ x.length ≤ 8 := by omega
        simpa only [isNameD, isNameS, decide_eq_false e2, Bool.and_false, Bool.false_and] using q H (Same.refl H)
      · refine ⟨x, rfl, ?_⟩
        refine lcS (fun _ => true) (fun c y _ => y = .bl (decide (c ∈ letL))) (by omega) (fun _ => rfl) (fun _ _ _ _ _ h => h) (fun i c H' _ _ R r => r H' (Same.refl H')) (fun i c D H3 acc e _ _ _ _ R r => ?_) fun D ys H' hD e hl hp => ?_
        · simp only [wipe]
          walk_at "ws"
          exact ⟨c, _, rfl, rfl, r _ H3 (Same.refl H3) rfl⟩
        · rw [List.filter_eq_self.mpr (fun _ _ => rfl)] at hp
          have ey := paired_map hp
          refine ⟨D, x.cps.toList.map fun c => decide (c ∈ letL), rfl, SqL.of ?_, ?_⟩
          · rw [hl, ey, List.map_map]
            rfl
          · have q' := q H' e
            have e1 : (1 : Nat) ≤ x.length := by omega
            have e2 : x.length ≤ 8 := by omega
            simpa only [isNameD, isNameS, decide_eq_true e1, decide_eq_true e2, Bool.true_and, all_map] using q'
    · have e1 : ¬ 1 ≤ x.length := by omega
      simpa only [isNameD, isNameS, decide_eq_false e1, Bool.false_and] using q H (Same.refl H)
theorem eqv_nil (ds : List PyData) : PyData.eqv (.list ds) (.list []) = ds.isEmpty := by
  rw [PyData.eqv]
  cases ds <;> simp [PyData.eqvAll]
theorem nil_of_all (l : List Nat) : ((l.filter fun c => !decide (c ∈ letL)).map fun c => PyData.str ⟨#[c]⟩).isEmpty = l.all fun c => decide (c ∈ letL) := by
  induction l with
  | nil => rfl
  | cons c r ih =>
    rw [List.all_cons, ← ih]
    by_cases h : c ∈ letL <;> simp [h]
theorem lay_all : ∀ {ds : List PyData}, (∀ d ∈ ds, SeqAt.shaped d = true) → PyData.canLayAll0 ds = true
  | [], _ => by simp [PyData.canLayAll0]
  | d :: ds, h => by
    rw [PyData.canLayAll0, lay_all fun e he => h e (List.mem_cons_of_mem _ he), SeqAt.canLay_of_shaped (h d List.mem_cons_self)]
    rfl
theorem depth_all : ∀ {ds : List PyData} {n : Nat}, (∀ d ∈ ds, d.depth ≤ n) → PyData.depthAll ds ≤ n
  | [], _, _ => by simp [PyData.depthAll]
  | d :: ds, n, h => by
    rw [PyData.depthAll]
    exact Nat.max_le.mpr ⟨h d List.mem_cons_self, depth_all fun e he => h e (List.mem_cons_of_mem _ he)⟩
theorem shaped_list {ds : List PyData} {n : Nat} (h : ∀ d ∈ ds, SeqAt.shaped d = true) (hn : ∀ d ∈ ds, d.depth ≤ n) (h9 : n < 64 := by decide) : SeqAt.shaped (.list ds) = true := by
  have h1 := lay_all h
  have h2 := depth_all hn
  have h3 : (PyData.list ds).canLay0 = true := by rw [PyData.canLay0]; exact h1
  have h4 : (PyData.list ds).depth ≤ 64 := by rw [PyData.depth]; omega
  exact Bool.and_eq_true_iff.mpr ⟨h3, decide_eq_true h4⟩
theorem shaped_tup {ds : List PyData} {n : Nat} (h : ∀ d ∈ ds, SeqAt.shaped d = true) (hn : ∀ d ∈ ds, d.depth ≤ n) (h9 : n < 64 := by decide) : SeqAt.shaped (.tuple ds) = true := by
  have h1 := lay_all h
  have h2 := depth_all hn
  have h3 : (PyData.tuple ds).canLay0 = true := by rw [PyData.canLay0]; exact h1
  have h4 : (PyData.tuple ds).depth ≤ 64 := by rw [PyData.depth]; omega
  exact Bool.and_eq_true_iff.mpr ⟨h3, decide_eq_true h4⟩
theorem shaped_str {x : Str} (h : ∀ c ∈ x.cps.toList, c < 0x110000) : SeqAt.shaped (.str x) = true := by
  have h3 : (PyData.str x).canLay0 = true := by
    rw [PyData.canLay0]
    show x.cps.all _ = true
    rw [← Array.all_toList, List.all_eq_true]
    exact fun c hc => decide_eq_true (h c hc)
  have h4 : (PyData.str x).depth ≤ 64 := by simp [PyData.depth]
  exact Bool.and_eq_true_iff.mpr ⟨h3, decide_eq_true h4⟩
theorem shaped_sign {c : Nat} (h : c < 0x110000) : SeqAt.shaped (.str ⟨#[c]⟩) = true := shaped_str fun d hd => by
  have e : d = c := by simpa using hd
  rw [e]
  exact h
theorem ok_law_is_name (T : Tx K mg) : Cal CX0 P w K mg base 1 "_law_is_name" (sp1 (p_is_name K)) := by
  refine cal_of T.d_law_is_name T.g__law_is_name (fun _ _ _ _ _ _ => bind1 fun _ => rfl) sc_law_is_name len1 fun vs H Q E ⟨v, e, h⟩ cdv A outer s hr => ?_
  subst e
  have hu64 := hr.units
  refine ⟨_, PSs.nox (pss_cons (ps_if (PW.pt (pw_or (pt_not (pt_val (pe_callB call_isi rfl T.f_isinstance (by decide +kernel) (pa_cons (pv 0) (pa_cons (pe_bltn (v := .ty "str") rfl T.f_str (by decide +kernel) rfl) pa_nil))))) (pw_or1 (pt_not (pt_chain op_le op_le pe_int (pe_callB call_len_str rfl T.f_len (by decide +kernel) (pa_cons (pv 0) pa_nil)) pe_int))))) (pss_one (ps_ret pe_bl)) pss_nil)
    (pss_one (ps_ret (pe_cmpR (op_eqD hu64) (pe_lc (own := [("_law_sign", 1)]) rfl sc_law_is_name.nd (pi_str (pv 0)) (blkOk_by (own := [("_law_sign", 1)]) (N := ["_law_thing", "_law_sign"]) (sc := defScope s_law_is_name) (by decide +kernel)) (fun _ _ _ _ _ => pg_name (i := 1) sc_law_is_name.nd rfl (Or.inl rfl)) (fun _ _ _ _ _ => pts_one (pt_cmpR op_notIn_sign (pv 1) pe_str rfl)) (fun _ _ _ _ _ => (pv 1))) (pe_lst pa_nil) (nomark _))))), ?_⟩
  obtain ⟨d, hv, q⟩ := h
  walk_at "ws"
  refine w_isi hv okS ?_
  cases d <;> walk_at "ws" <;> first | exact q _ (Same.refl H) | skip
  rename_i x
  cases hv with
  | dp hv ok =>
    have hx := okD_str ok
    have hs : (x.cps.toList.all fun c => decide (c < 0x110000)) = true := by
      have h := SeqAt.canLay_of_shaped (okD_shaped ok)
      rw [PyData.canLay0] at h
      have h3 : x.cps.all (fun c => decide (c < 0x110000)) = true := h
      simpa using h3
    rw [hv.str_inv]
    refine ⟨x, rfl, Nat.le_trans hx (by decide), ?_⟩
    refine ite2 (fun h1 => ?_) fun h1 => ?_
    · refine ite2 (fun h2 => ?_) fun h2 => ?_
      · have e2 : ¬ x.length ≤ 8 := by omega
        simpa only [isNameD, isNameS, decide_eq_false e2, Bool.and_false, Bool.false_and] using q H (Same.refl H)
      · refine ⟨x, rfl, ?_⟩
        refine lcS (fun c => !decide (c ∈ letL)) (fun c y _ => y = .str ⟨#[c]⟩) (by omega) (fun _ => rfl) (fun _ _ _ _ _ h => h) (fun i c H' _ _ R r => ?_) (fun i c D H3 acc e _ _ _ _ R r => ?_) fun D ys H' hD e hl hp => ?_
        · simp only [wipe]
          walk_at "ws"
          exact ⟨c, _, rfl, rfl, r H' (Same.refl H')⟩
        · simp only [wipe]
          walk_at "ws"
          exact r _ H3 (Same.refl H3) rfl
        · have ey := paired_map hp
          refine ⟨by decide, ?_⟩
          walk_at "al"
          rename_i p hp2 H2 e2 g2
          refine ⟨.list ((x.cps.toList.filter fun c => !decide (c ∈ letL)).map fun c => .str ⟨#[c]⟩), .list [], .lst (SqL.of (e2 _ _ hl)) ?_, .lst (SqL.of g2) .nil, ?_, rfl, ?_⟩
          · rw [ey]
            exact (paired_dp (f := fun c => PyData.str ⟨#[c]⟩) (K := K) (H := H2) (by
              rw [← ey]
              exact L2.Paired.mapP hp fun a y h => by rw [h]; exact .str _))
          · exact shaped_list (n := 0) (fun d hd => by
              obtain ⟨c, hc, rfl⟩ := List.mem_map.mp hd
              have hc' := List.all_eq_true.mp hs c (List.mem_filter.mp hc).1
              exact shaped_sign (of_decide_eq_true hc')) (fun d hd => by
              obtain ⟨c, hc, rfl⟩ := List.mem_map.mp hd
              exact Nat.le_of_eq (by simp [PyData.depth]))
          · have q' := q H2 (e.trans e2)
            have e1 : (1 : Nat) ≤ x.length := by omega
            have e2 : x.length ≤ 8 := by omega
            rw [eqv_nil, nil_of_all]
            simpa only [isNameD, isNameS, decide_eq_true e1, decide_eq_true e2, Bool.true_and] using q'
    · have e1 : ¬ 1 ≤ x.length := by omega
      simpa only [isNameD, isNameS, decide_eq_false e1, Bool.false_and] using q H (Same.refl H)
end
end K06
set_option maxHeartbeats 4000000
namespace K06
open PySem L2
local macro_rules | `(tactic| walk_at "ws") => `(tactic| try simp only [w_var0, w_varS, w_c, w_ret, w_retN, w_next, w_seq, w_asg, w_gn, w_drop, w_if, w_and, w_or, w_not, ex_bl, ex_int, ex_two, w_B, w_test, w_andV, w_orV, w_notV, w_ife, w_op, w_un, w_chain, w_nil, w_cons, w_cb, w_ca, w_lst, w_tup, w_I0, w_I, w_U, w_eqI, w_neI, w_eqS, w_neS,
  w_isN0, w_notN0, w_fld, w_sfld, w_me, w_ma, w_dget, w_din, w_dnotin, w_dput, w_slice, w_part, w_nopart, w_bm, w_bm0, w_par, w_lc, w_for, w_iList, w_iTup, w_iStr, w_iRng1, w_iZip, w_iEnum, w_tM1, w_dnewK, w_gtup, w_glst, w_gcons, w_gnil, w_gsub, cx_K, cx_K',
  L2.start, endsOf, List.map_cons, List.map_nil, List.length_cons, List.length_nil, List.cons_append, List.nil_append, Nat.zero_add, Nat.reduceAdd, Nat.reduceSub, List.replicate_succ, List.replicate_zero, List.set_cons_zero, List.set_cons_succ, List.set_nil,
  sp0_eq, sp1_eq, sp2_eq, sp3_eq, sp4_eq, sp5_eq, if_true, Bool.false_eq_true, if_false, decide_eq_true_eq, Bool.not_eq_true', decide_eq_false_iff_not, Bool.not_true, Bool.not_false, Bool.not_eq_false', isD_int_none, isD_int_bool, isD_int_int, isD_int_str, isD_int_list, isD_int_tuple, isD_int_dict, isD_bool_none, isD_bool_bool, isD_bool_int, isD_bool_str, isD_bool_list, isD_bool_tuple, isD_bool_dict, isD_str_none, isD_str_bool, isD_str_int, isD_str_str, isD_str_list, isD_str_tuple, isD_str_dict, isD_list_none, isD_list_bool, isD_list_int, isD_list_str, isD_list_list, isD_list_tuple, isD_list_dict, isD_tuple_none, isD_tuple_bool, isD_tuple_int, isD_tuple_str, isD_tuple_list, isD_tuple_tuple, isD_tuple_dict])
local macro_rules | `(tactic| walk_at "al") => `(tactic| (intro p hp; generalize hH : upd _ _ _ = H2; obtain ⟨e2, g2⟩ := alloc1 hp hH.symm; clear hH))
/-- how a def that may raise ends: none, or the class's name -/
def Out (K : PySem.W.Frag) (o : Option Str) (Q : VK) (E : XK) (H : Hp) : Prop := match o with
  | none => Q .non H
  | some x => E (.ref (He.ga K x)) none H
section
variable {P : Program} {w : World} {K : PySem.W.Frag} {mg : Str → Option Value} {base : Heap}
def freshS (x : Str) (kvs : List (Key × V)) : Option Str := if isNameS x = true then (if (valV kvs (.inr x)).isSome = true then some ("Twice" : Str) else none) else some ("BadName" : Str)
def freshD (d : PyData) (kvs : List (Key × V)) : Option Str := match d with
  | .str x => freshS x kvs
  | _ => some ("BadName" : Str)
def p_need_fresh (K : PySem.W.Frag) : P2 := fun v k H Q E => ∃ d a kvs, Av K H v d ∧ k = .ref a ∧ H a = some (.dK kvs) ∧ ∀ H', Same H H' → Out K (freshD d kvs) Q E H'
theorem isNameD_str {d : PyData} (h : isNameD d = true) : ∃ x, d = .str x ∧ isNameS x = true := by
  cases d <;> first | exact ⟨_, rfl, h⟩ | (exfalso; simp [isNameD] at h; done)
theorem Av_str {H : Hp} {v : V} {x : Str} (h : Av K H v (.str x)) : v = .str x := by
  cases h with
  | dp h _ => exact h.str_inv
theorem freshD_no {d : PyData} {kvs : List (Key × V)} (h : isNameD d = false) : freshD d kvs = some ("BadName" : Str) := by
  cases d <;> first | rfl | skip
  show freshS _ _ = _
  unfold freshS
  rw [if_neg]
  intro z
  rw [show isNameS _ = false from h] at z
  cases z
theorem ok_need_fresh (T : Tx K mg) : Cal (L2.CX P w) P w K mg base 2 "need_fresh" (sp2 (p_need_fresh K)) := by
  refine cal_of T.d_need_fresh T.g_need_fresh (fun _ _ _ _ _ _ => bind2 fun _ _ => rfl) sc_need_fresh len2 fun vs H Q E ⟨v, k, e, h⟩ cdv A outer s hr => ?_
  subst e
  have hu := hu_of hr
  refine ⟨_, (pss_cons (ps_if (pt_not (pt_val (pe_ca (ok_is_name T) hr (by decide) rfl pass0 (pa_cons (pv 0) pa_nil)))) (pss_one (ps_raise rfl (takes_of rfl rfl rfl rfl) (pmk_own PySem.F.excBase_ValueError T.x_BadName T.g_BadName T.k_BadName (raises_own T.b_BadName T.t_BadName) rfl))) pss_nil)
    (pss_one (ps_if (pt_cmp (pc_din hu (pv 0) (pv 1)) rfl) (pss_one (ps_raise rfl (takes_of rfl rfl rfl rfl) (pmk_own PySem.F.excBase_ValueError T.x_Twice T.g_Twice T.k_Twice (raises_own T.b_Twice T.t_Twice) rfl))) pss_nil))), ?_⟩
  obtain ⟨d, a, kvs, hv, rfl, ha, q⟩ := h
  walk_at "ws"
  refine ⟨d, hv, fun H' e => ?_⟩
  walk_at "ws"
  have q' := q H' e
  refine ite2 (fun h1 => ?_) fun h1 => ?_
  · rw [freshD_no h1] at q'
    exact q'
  · obtain ⟨x, rfl, hx⟩ := isNameD_str (by simpa using h1)
    rw [Av_str hv]
    refine ⟨a, _, rfl, DGet.k (k := Sum.inr x) (e _ _ ha), ?_⟩
    have q2 : Out K (if (valV kvs (.inr x)).isSome = true then some ("Twice" : Str) else none) Q E H' := by
      have e3 : freshD (.str x) kvs = (if (valV kvs (.inr x)).isSome = true then some ("Twice" : Str) else none) := if_pos hx
      rwa [e3] at q'
    walk_at "ws"
    refine ite2 (fun h2 => ?_) fun h2 => ?_
    · rw [if_pos h2] at q2
      exact q2
    · rw [if_neg h2] at q2
      exact q2
def p_need_among (K : PySem.W.Frag) : P3 := fun v a b H Q E => ∃ d i j, Av K H v d ∧ a = .int i ∧ b = .int j ∧ Out K (if amongD d i j = true then none else some ("BadNumber" : Str)) Q E H
theorem ok_need_among (T : Tx K mg) : Cal (L2.CX P w) P w K mg base 2 "need_among" (sp3 (p_need_among K)) := by
  refine cal_of T.d_need_among T.g_need_among (fun _ _ _ _ _ _ => bind3 fun _ _ _ => rfl) sc_need_among len3 fun vs H Q E ⟨v, a, b, e, h⟩ cdv A outer s hr => ?_
  subst e
  refine ⟨_, (pss_one (ps_if (pt_not (pt_val (pe_ca (ok_is_among T) hr (by decide) rfl pass0 (pa_cons (pv 0) (pa_cons (pv 1) (pa_cons (pv 2) pa_nil)))))) (pss_one (ps_raise rfl (takes_of rfl rfl rfl rfl) (pmk_own PySem.F.excBase_ValueError T.x_BadNumber T.g_BadNumber T.k_BadNumber (raises_own T.b_BadNumber T.t_BadNumber) rfl))) pss_nil)), ?_⟩
  obtain ⟨d, i, j, hv, rfl, rfl, q⟩ := h
  walk_at "ws"
  refine ⟨d, i, j, hv, rfl, rfl, ?_⟩
  walk_at "ws"
  cases h : amongD d i j with
  | true =>
    rw [h] at q
    exact q
  | false =>
    rw [h] at q
    exact q
def p_need_room (K : PySem.W.Frag) : P2 := fun v b H Q E => ∃ (a : Addr) (n : Nat) (m : Int), v = .ref a ∧ b = .int m ∧ ((∃ kvs, H a = some (.dK kvs) ∧ kvs.length = n) ∨ (∃ xs, SqL K H a xs ∧ xs.length = n)) ∧ Out K (if m ≤ (n : Int) then some ("TooMany" : Str) else none) Q E H
theorem ok_need_room (T : Tx K mg) : Cal (L2.CX P w) P w K mg base 1 "need_room" (sp2 (p_need_room K)) := by
  refine cal_of T.d_need_room T.g_need_room (fun _ _ _ _ _ _ => bind2 fun _ _ => rfl) sc_need_room len2 fun vs H Q E ⟨v, b, e, h⟩ cdv A outer s hr => ?_
  subst e
  refine ⟨_, (pss_one (ps_if (pt_cmpR op_ge (pe_callB cr_lenA rfl T.f_len (by decide +kernel) (pa_cons (pv 0) pa_nil)) (pv 1) (nomark _)) (pss_one (ps_raise rfl (takes_of rfl rfl rfl rfl) (pmk_own PySem.F.excBase_ValueError T.x_TooMany T.g_TooMany T.k_TooMany (raises_own T.b_TooMany T.t_TooMany) rfl))) pss_nil)), ?_⟩
  obtain ⟨a, n, m, rfl, rfl, hn, q⟩ := h
  walk_at "ws"
  have fin : if m ≤ (n : Int) then E (Value.ref (He.ga K "TooMany")) none H else Q V.non H := by
    refine ite2 (fun h1 => ?_) fun h1 => ?_
    · rw [if_pos h1] at q
      exact q
    · rw [if_neg h1] at q
      exact q
  rcases hn with ⟨kvs, h1, rfl⟩ | ⟨xs, h1, rfl⟩
  · exact .inr ⟨a, kvs, rfl, h1, fin⟩
  · exact .inl ⟨a, xs, rfl, .inl h1, fin⟩
def p_need (K : PySem.W.Frag) : P1 := fun v H Q E => ∃ b, v = .bl b ∧ Out K (if b = true then none else some ("BadRule" : Str)) Q E H
theorem ok_need (T : Tx K mg) : Cal (L2.CX P w) P w K mg base 1 "need" (sp1 (p_need K)) := by
  refine cal_of T.d_need T.g_need (fun _ _ _ _ _ _ => bind1 fun _ => rfl) sc_need len1 fun vs H Q E ⟨v, e, h⟩ cdv A outer s hr => ?_
  subst e
  refine ⟨_, (pss_one (ps_if (pt_not (pt_val (pv 0))) (pss_one (ps_raise rfl (takes_of rfl rfl rfl rfl) (pmk_own PySem.F.excBase_ValueError T.x_BadRule T.g_BadRule T.k_BadRule (raises_own T.b_BadRule T.t_BadRule) rfl))) pss_nil)), ?_⟩
  obtain ⟨b, rfl, q⟩ := h
  walk_at "ws"
  cases b <;> exact q
def wordOf (o : Option Str) : PyData := match o with
  | none => .none
  | some x => .str x
def wordV (o : Option Str) : V := match o with
  | none => .non
  | some x => .str x
def lfreshS (x : Str) (kvs : List (Key × V)) : Option Str := if isNameS x = true then (if (valV kvs (.inr x)).isSome = true then some ("twice" : Str) else none) else some ("name" : Str)
def lfreshD (d : PyData) (kvs : List (Key × V)) : Option Str := match d with
  | .str x => lfreshS x kvs
  | _ => some ("name" : Str)
theorem lfreshD_no {d : PyData} {kvs : List (Key × V)} (h : isNameD d = false) : lfreshD d kvs = some ("name" : Str) := by
  cases d <;> first | rfl | skip
  show lfreshS _ _ = _
  unfold lfreshS
  rw [if_neg]
  intro z
  rw [show isNameS _ = false from h] at z
  cases z
def p_law_fresh (K : PySem.W.Frag) : P2 := fun v k H Q _ => ∃ d a kvs, Av K H v d ∧ k = .ref a ∧ H a = some (.dK kvs) ∧ ∀ H', Same H H' → Q (wordV (lfreshD d kvs)) H'
theorem ok_law_fresh (T : Tx K mg) : Cal CX0 P w K mg base 2 "_law_fresh" (sp2 (p_law_fresh K)) := by
  refine cal_of T.d_law_fresh T.g__law_fresh (fun _ _ _ _ _ _ => bind2 fun _ _ => rfl) sc_law_fresh len2 fun vs H Q E ⟨v, k, e, h⟩ cdv A outer s hr => ?_
  subst e
  have hu := hu_of hr
  refine ⟨_, PSs.nox (pss_cons (ps_if (pt_not (pt_val (pe_ca (ok_law_is_name T) hr (by decide) rfl pass0 (pa_cons (pv 0) pa_nil)))) (pss_one (ps_ret pe_str)) pss_nil)
    (pss_one (ps_ret (pe_ifExp (pt_cmp (pc_din hu (pv 0) (pv 1)) rfl) pe_str pe_non)))), ?_⟩
  obtain ⟨d, a, kvs, hv, rfl, ha, q⟩ := h
  walk_at "ws"
  refine ⟨d, hv, fun H' e => ?_⟩
  walk_at "ws"
  have q' := q H' e
  refine ite2 (fun h1 => ?_) fun h1 => ?_
  · rw [lfreshD_no h1] at q'
    exact q'
  · obtain ⟨x, rfl, hx⟩ := isNameD_str (by simpa using h1)
    rw [Av_str hv]
    refine ⟨a, _, rfl, DGet.k (k := Sum.inr x) (e _ _ ha), ?_⟩
    have q2 : Q (wordV (if (valV kvs (.inr x)).isSome = true then some ("twice" : Str) else none)) H' := by
      have e3 : lfreshD (.str x) kvs = (if (valV kvs (.inr x)).isSome = true then some ("twice" : Str) else none) := if_pos hx
      rwa [e3] at q'
    walk_at "ws"
    refine ite2 (fun h2 => ?_) fun h2 => ?_
    · rw [if_pos h2] at q2
      exact q2
    · rw [if_neg h2] at q2
      exact q2
end
end K06
set_option maxHeartbeats 4000000
namespace K06
open PySem L2
local macro_rules | `(tactic| walk_at "ws") => `(tactic| try simp only [w_var0, w_varS, w_c, w_ret, w_retN, w_next, w_seq, w_asg, w_gn, w_drop, w_if, w_and, w_or, w_not, ex_bl, ex_int, ex_two, w_B, w_test, w_andV, w_orV, w_notV, w_ife, w_op, w_un, w_chain, w_nil, w_cons, w_cb, w_ca, w_lst, w_tup, w_I0, w_I, w_U, w_eqI, w_neI, w_eqS, w_neS,
  w_isN0, w_notN0, w_fld, w_sfld, w_me, w_ma, w_dget, w_din, w_dnotin, w_dput, w_slice, w_part, w_nopart, w_bm, w_bm0, w_par, w_lc, w_for, w_iList, w_iTup, w_iStr, w_iRng1, w_iZip, w_iEnum, w_tM1, w_dnewK, w_gtup, w_glst, w_gcons, w_gnil, w_gsub, cx_K, cx_K',
  L2.start, endsOf, List.map_cons, List.map_nil, List.length_cons, List.length_nil, List.cons_append, List.nil_append, Nat.zero_add, Nat.reduceAdd, Nat.reduceSub, List.replicate_succ, List.replicate_zero, List.set_cons_zero, List.set_cons_succ, List.set_nil,
  sp0_eq, sp1_eq, sp2_eq, sp3_eq, sp4_eq, sp5_eq, if_true, Bool.false_eq_true, if_false, decide_eq_true_eq, Bool.not_eq_true', decide_eq_false_iff_not, Bool.not_true, Bool.not_false, Bool.not_eq_false', isD_int_none, isD_int_bool, isD_int_int, isD_int_str, isD_int_list, isD_int_tuple, isD_int_dict, isD_bool_none, isD_bool_bool, isD_bool_int, isD_bool_str, isD_bool_list, isD_bool_tuple, isD_bool_dict, isD_str_none, isD_str_bool, isD_str_int, isD_str_str, isD_str_list, isD_str_tuple, isD_str_dict, isD_list_none, isD_list_bool, isD_list_int, isD_list_str, isD_list_list, isD_list_tuple, isD_list_dict, isD_tuple_none, isD_tuple_bool, isD_tuple_int, isD_tuple_str, isD_tuple_list, isD_tuple_tuple, isD_tuple_dict])
local macro_rules | `(tactic| walk_at "al") => `(tactic| (intro p hp; generalize hH : upd _ _ _ = H2; obtain ⟨e2, g2⟩ := alloc1 hp hH.symm; clear hH))
/-! ### a net's attributes -/
structure NA where
  a : Addr
  b : Addr
  c : Addr
  d : Addr
  e : Addr
def netF (N : NA) : List (Str × V) := [("spots", .ref N.a), ("paths", .ref N.b), ("habits", .ref N.c), ("passes", .ref N.d), ("lines", .ref N.e)]
def IsNet (K : PySem.W.Frag) (H : Hp) (p : Addr) (N : NA) : Prop := ∃ dx, H p = some (.ins (He.ga K "Net") dx (netF N))
theorem IsNet.up {K : PySem.W.Frag} {H H' : Hp} {p : Addr} {N : NA} (h : IsNet K H p N) (e : Same H H') : IsNet K H' p N := by
  obtain ⟨dx, h⟩ := h
  exact ⟨dx, e _ _ h⟩
theorem net_a {N : NA} : (netF N).lookup ("spots" : Str) = some (.ref N.a) := by rfl
theorem net_b {N : NA} : (netF N).lookup ("paths" : Str) = some (.ref N.b) := by rfl
theorem net_c {N : NA} : (netF N).lookup ("habits" : Str) = some (.ref N.c) := by rfl
theorem net_d {N : NA} : (netF N).lookup ("passes" : Str) = some (.ref N.d) := by rfl
theorem net_e {N : NA} : (netF N).lookup ("lines" : Str) = some (.ref N.e) := by rfl
section
variable {P : Program} {w : World} {K : PySem.W.Frag} {mg : Str → Option Value} {base : Heap} {H : Hp} {p : Addr} {N : NA} {R : V → Prop}
theorem f_spots (T : Tx K mg) (h : IsNet K H p N) (r : R (.ref N.a)) : ∃ a C dx fs v, V.ref p = .ref a ∧ H a = some (.ins C dx fs) ∧ Cls K C ∧ NoAttr K C "spots" ∧ fs.lookup ("spots" : Str) = some v ∧ R v := by
  obtain ⟨dx, h⟩ := h
  exact ⟨p, _, dx, _, _, rfl, h, T.cl_Net, T.n_Net_spots, net_a, r⟩
theorem f_paths (T : Tx K mg) (h : IsNet K H p N) (r : R (.ref N.b)) : ∃ a C dx fs v, V.ref p = .ref a ∧ H a = some (.ins C dx fs) ∧ Cls K C ∧ NoAttr K C "paths" ∧ fs.lookup ("paths" : Str) = some v ∧ R v := by
  obtain ⟨dx, h⟩ := h
  exact ⟨p, _, dx, _, _, rfl, h, T.cl_Net, T.n_Net_paths, net_b, r⟩
theorem f_habits (T : Tx K mg) (h : IsNet K H p N) (r : R (.ref N.c)) : ∃ a C dx fs v, V.ref p = .ref a ∧ H a = some (.ins C dx fs) ∧ Cls K C ∧ NoAttr K C "habits" ∧ fs.lookup ("habits" : Str) = some v ∧ R v := by
  obtain ⟨dx, h⟩ := h
  exact ⟨p, _, dx, _, _, rfl, h, T.cl_Net, T.n_Net_habits, net_c, r⟩
theorem f_passes (T : Tx K mg) (h : IsNet K H p N) (r : R (.ref N.d)) : ∃ a C dx fs v, V.ref p = .ref a ∧ H a = some (.ins C dx fs) ∧ Cls K C ∧ NoAttr K C "passes" ∧ fs.lookup ("passes" : Str) = some v ∧ R v := by
  obtain ⟨dx, h⟩ := h
  exact ⟨p, _, dx, _, _, rfl, h, T.cl_Net, T.n_Net_passes, net_d, r⟩
theorem f_lines (T : Tx K mg) (h : IsNet K H p N) (r : R (.ref N.e)) : ∃ a C dx fs v, V.ref p = .ref a ∧ H a = some (.ins C dx fs) ∧ Cls K C ∧ NoAttr K C "lines" ∧ fs.lookup ("lines" : Str) = some v ∧ R v := by
  obtain ⟨dx, h⟩ := h
  exact ⟨p, _, dx, _, _, rfl, h, T.cl_Net, T.n_Net_lines, net_e, r⟩
/-- a method of a net is called -/
theorem f_meth {m : Str} {R : Prop} (h : IsNet K H p N) (hm : ∀ N : NA, (netF N).lookup m = none) (r : R) : ∃ a dx fs, V.ref p = .ref a ∧ H a = some (.ins (He.ga K "Net") dx fs) ∧ fs.lookup m = none ∧ R := by
  obtain ⟨dx, h⟩ := h
  exact ⟨p, dx, _, rfl, h, hm N, r⟩
theorem initStep {H : Hp} {p q C dx : Addr} {fs : List (Str × V)} {f : Str} {o : HO} (hp : H p = some (.ins C dx fs)) (hq : H q = none) :
    (upd (upd H q o) p (.ins C dx (putF f (.ref q) fs))) p = some (.ins C dx (putF f (.ref q) fs)) ∧ (upd (upd H q o) p (.ins C dx (putF f (.ref q) fs))) q = some o ∧ ∀ b u, b ≠ p → H b = some u → (upd (upd H q o) p (.ins C dx (putF f (.ref q) fs))) b = some u :=
  ⟨upd_same, by rw [upd_ne (ne_of_none hp hq).symm, upd_same], fun b u hb e => by rw [upd_ne hb, upd_ne (ne_of_none e hq)]; exact e⟩
theorem len0F : ([] : List (Str × V)).length ≤ 0 := Nat.le_refl _
theorem lenF {f : Str} {v : V} {fs : List (Str × V)} {k : Nat} (h : fs.length ≤ k) : (putF f v fs).length ≤ k + 1 := by
  have := length_putF f v fs
  omega
theorem ltF {fs : List (Str × V)} {k : Nat} (h : fs.length ≤ k) (hk : k < 1000) : fs.length < 1000 := Nat.lt_of_le_of_lt h hk
theorem k_free {H H' : Hp} {p : Addr} {o : HO} (hp : H' p = some o) (k : ∀ b u, b ≠ p → H b = some u → H' b = some u) : ∀ b, H' b = none → H b = none := fun b hb => by
  cases e : H b with
  | none => rfl
  | some u =>
    have hbp : b ≠ p := fun z => by rw [z, hp] at hb; cases hb
    rw [k b u hbp e] at hb
    cases hb
/-! ### Net() -/
def p_Net_init (K : PySem.W.Frag) : P1 := fun v H Q _ => ∃ p dx, v = .ref p ∧ H p = some (.ins (He.ga K "Net") dx []) ∧
  ∀ N H', H' p = some (.ins (He.ga K "Net") dx (netF N)) → H' N.a = some (.dK []) → H' N.b = some (.lst []) → H' N.c = some (.dK []) → H' N.d = some (.dK []) → H' N.e = some (.dK []) →
    H N.a = none → H N.b = none → H N.c = none → H N.d = none → H N.e = none → [N.a, N.b, N.c, N.d, N.e].Nodup → (∀ b o, b ≠ p → H b = some o → H' b = some o) → Q .non H'
theorem ok_Net_init (T : Tx K mg) : Mak CX0 P w K mg base 1 "Net" (He.ga K "Net") (sp1 (p_Net_init K)) := by
  refine mak_of T.mk_Net T.g_Net T.d_Net_init (fun _ _ _ _ _ _ => bind1 fun _ => rfl) sc_Net_init len1 fun vs H Q E ⟨v, e, h⟩ cdv A outer s hr => ?_
  subst e
  refine ⟨_, PSs.nox (pss_cons (ps_fld (pv 0) pe_dnewK rfl)
    (pss_cons (ps_fld (pv 0) (pe_lst pa_nil) rfl)
    (pss_cons (ps_fld (pv 0) pe_dnewK rfl)
    (pss_cons (ps_fld (pv 0) pe_dnewK rfl)
    (pss_one (ps_fld (pv 0) pe_dnewK rfl)))))), ?_⟩
  obtain ⟨p, dx, rfl, hp, q⟩ := h
  walk_at "ws"
  intro a ha
  refine ⟨p, _, dx, [], rfl, by rw [upd_ne (ne_of_none hp ha)]; exact hp, T.cl_Net, T.n_Net_spots, by decide, ?_⟩
  obtain ⟨hp1, ha1, k1⟩ := initStep (f := "spots") (o := .dK []) hp ha
  generalize upd (upd H a _) p _ = H1 at *
  walk_at "ws"
  refine ⟨by decide, ?_⟩
  intro b hb
  refine ⟨p, _, dx, _, rfl, by rw [upd_ne (ne_of_none hp1 hb)]; exact hp1, T.cl_Net, T.n_Net_paths, ltF (lenF len0F) (by decide), ?_⟩
  obtain ⟨hp2, hb2, k2⟩ := initStep (f := "paths") (o := .lst []) hp1 hb
  generalize upd (upd H1 b _) p _ = H2 at *
  walk_at "ws"
  intro c hc
  refine ⟨p, _, dx, _, rfl, by rw [upd_ne (ne_of_none hp2 hc)]; exact hp2, T.cl_Net, T.n_Net_habits, ltF (lenF (lenF len0F)) (by decide), ?_⟩
  obtain ⟨hp3, hc3, k3⟩ := initStep (f := "habits") (o := .dK []) hp2 hc
  generalize upd (upd H2 c _) p _ = H3 at *
  walk_at "ws"
  intro d hd
  refine ⟨p, _, dx, _, rfl, by rw [upd_ne (ne_of_none hp3 hd)]; exact hp3, T.cl_Net, T.n_Net_passes, ltF (lenF (lenF (lenF len0F))) (by decide), ?_⟩
  obtain ⟨hp4, hd4, k4⟩ := initStep (f := "passes") (o := .dK []) hp3 hd
  generalize upd (upd H3 d _) p _ = H4 at *
  walk_at "ws"
  intro e he
  refine ⟨p, _, dx, _, rfl, by rw [upd_ne (ne_of_none hp4 he)]; exact hp4, T.cl_Net, T.n_Net_lines, ltF (lenF (lenF (lenF (lenF len0F)))) (by decide), ?_⟩
  obtain ⟨hp5, he5, k5⟩ := initStep (f := "lines") (o := .dK []) hp4 he
  generalize upd (upd H4 e _) p _ = H5 at *
  have fr1 := k_free hp1 k1
  have fr2 := k_free hp2 k2
  have fr3 := k_free hp3 k3
  have fr4 := k_free hp4 k4
  have pa := ne_of_none hp ha
  have pb := ne_of_none hp1 hb
  have pc := ne_of_none hp2 hc
  have pd := ne_of_none hp3 hd
  have ab := ne_of_none ha1 hb
  have ha2 := k2 _ _ pa.symm ha1
  have ac := ne_of_none ha2 hc
  have bc := ne_of_none hb2 hc
  have ha3 := k3 _ _ pa.symm ha2
  have hb3 := k3 _ _ pb.symm hb2
  have ad := ne_of_none ha3 hd
  have bd := ne_of_none hb3 hd
  have cd := ne_of_none hc3 hd
  have ha4 := k4 _ _ pa.symm ha3
  have hb4 := k4 _ _ pb.symm hb3
  have hc4 := k4 _ _ pc.symm hc3
  have ae := ne_of_none ha4 he
  have be := ne_of_none hb4 he
  have ce := ne_of_none hc4 he
  have de := ne_of_none hd4 he
  refine q ⟨a, b, c, d, e⟩ H5 hp5 (k5 _ _ pa.symm ha4) (k5 _ _ pb.symm hb4) (k5 _ _ pc.symm hc4) (k5 _ _ pd.symm hd4) he5 ha (fr1 _ hb) (fr1 _ (fr2 _ hc)) (fr1 _ (fr2 _ (fr3 _ hd))) (fr1 _ (fr2 _ (fr3 _ (fr4 _ he)))) ?_ ?_
  · simp [ab, ac, ad, ae, bc, bd, be, cd, ce, de]
  · exact fun x o hx hh => k5 _ _ hx (k4 _ _ hx (k3 _ _ hx (k2 _ _ hx (k1 _ _ hx hh))))
end
end K06
set_option maxHeartbeats 4000000
namespace K06
open PySem L2
local macro_rules | `(tactic| walk_at "ws") => `(tactic| try simp only [w_var0, w_varS, w_c, w_ret, w_retN, w_next, w_seq, w_asg, w_gn, w_drop, w_if, w_and, w_or, w_not, ex_bl, ex_int, ex_two, w_B, w_test, w_andV, w_orV, w_notV, w_ife, w_op, w_un, w_chain, w_nil, w_cons, w_cb, w_ca, w_lst, w_tup, w_I0, w_I, w_U, w_eqI, w_neI, w_eqS, w_neS,
  w_isN0, w_notN0, w_fld, w_sfld, w_me, w_ma, w_dget, w_din, w_dnotin, w_dput, w_slice, w_part, w_nopart, w_bm, w_bm0, w_par, w_lc, w_for, w_iList, w_iTup, w_iStr, w_iRng1, w_iZip, w_iEnum, w_tM1, w_dnewK, w_gtup, w_glst, w_gcons, w_gnil, w_gsub, cx_K, cx_K',
  L2.start, endsOf, List.map_cons, List.map_nil, List.length_cons, List.length_nil, List.cons_append, List.nil_append, Nat.zero_add, Nat.reduceAdd, Nat.reduceSub, List.replicate_succ, List.replicate_zero, List.set_cons_zero, List.set_cons_succ, List.set_nil,
  sp0_eq, sp1_eq, sp2_eq, sp3_eq, sp4_eq, sp5_eq, if_true, Bool.false_eq_true, if_false, decide_eq_true_eq, Bool.not_eq_true', decide_eq_false_iff_not, Bool.not_true, Bool.not_false, Bool.not_eq_false', isD_int_none, isD_int_bool, isD_int_int, isD_int_str, isD_int_list, isD_int_tuple, isD_int_dict, isD_bool_none, isD_bool_bool, isD_bool_int, isD_bool_str, isD_bool_list, isD_bool_tuple, isD_bool_dict, isD_str_none, isD_str_bool, isD_str_int, isD_str_str, isD_str_list, isD_str_tuple, isD_str_dict, isD_list_none, isD_list_bool, isD_list_int, isD_list_str, isD_list_list, isD_list_tuple, isD_list_dict, isD_tuple_none, isD_tuple_bool, isD_tuple_int, isD_tuple_str, isD_tuple_list, isD_tuple_tuple, isD_tuple_dict])
local macro_rules | `(tactic| walk_at "al") => `(tactic| (intro p hp; generalize hH : upd _ _ _ = H2; obtain ⟨e2, g2⟩ := alloc1 hp hH.symm; clear hH))
section
variable {P : Program} {w : World} {K : PySem.W.Frag} {mg : Str → Option Value} {base : Heap}
/-! ### what is asked of a name that is to be there -/
def inD (d : PyData) (kvs : List (Key × V)) : Bool := match d with
  | .str x => isNameS x && (valV kvs (.inr x)).isSome
  | _ => false
theorem inD_no {d : PyData} {kvs : List (Key × V)} (h : isNameD d = false) : inD d kvs = false := by
  cases d <;> first | rfl | skip
  show (isNameS _ && _) = _
  rw [show isNameS _ = false from h]
  rfl
theorem inD_yes {d : PyData} {kvs : List (Key × V)} (h : inD d kvs = true) : ∃ x v, d = .str x ∧ isNameS x = true ∧ valV kvs (.inr x) = some v := by
  cases d <;> first | (exfalso; simp [inD] at h; done) | skip
  rename_i x
  obtain ⟨h1, h2⟩ := Bool.and_eq_true_iff.mp (show (isNameS x && (valV kvs (.inr x)).isSome) = true from h)
  obtain ⟨v, hv⟩ := Option.isSome_iff_exists.mp h2
  exact ⟨x, v, rfl, h1, hv⟩
theorem IsNet.same {H H' : Hp} {p : Addr} {N : NA} (h : IsNet K H p N) (k : ∀ o, H p = some o → H' p = some o) : IsNet K H' p N := by
  obtain ⟨dx, h⟩ := h
  exact ⟨dx, k _ h⟩
def p_Net_need_stop (K : PySem.W.Frag) : P2 := fun v u H Q E => ∃ p N d kvs, v = .ref p ∧ IsNet K H p N ∧ Av K H u d ∧ H N.a = some (.dK kvs) ∧ ∀ H', Same H H' → Out K (if inD d kvs = true then none else some ("NoStop" : Str)) Q E H'
theorem ok_Net_need_stop (T : Tx K mg) : Met (L2.CX P w) P w K mg base 2 (He.ga K "Net") "need_stop" (sp2 (p_Net_need_stop K)) := by
  refine met_of T.cl_Net T.m_Net_need_stop T.d_Net_need_stop (fun _ _ _ _ _ _ => bind2 fun _ _ => rfl) sc_Net_need_stop len2 fun vs H Q E ⟨v, u, e, h⟩ cdv A outer s hr => ?_
  subst e
  have hu := hu_of hr
  refine ⟨_, (pss_one (ps_if (PW.pt (pw_or (pt_not (pt_val (pe_ca (ok_is_name T) hr (by decide) rfl pass0 (pa_cons (pv 1) pa_nil)))) (pw_or1 (pt_cmp (pc_dnotin hu (pv 1) (pe_fld (pv 0) rfl)) rfl)))) (pss_one (ps_raise rfl (takes_of rfl rfl rfl rfl) (pmk_own PySem.F.excBase_ValueError T.x_NoStop T.g_NoStop T.k_NoStop (raises_own T.b_NoStop T.t_NoStop) rfl))) pss_nil)), ?_⟩
  obtain ⟨p, N, d, kvs, rfl, hn, hv, ha, q⟩ := h
  walk_at "ws"
  refine ⟨d, hv, fun H' e => ?_⟩
  walk_at "ws"
  have q' := q H' e
  refine ite2 (fun h1 => ?_) fun h1 => ?_
  · rw [inD_no h1] at q'
    exact q'
  · obtain ⟨x, rfl, hx⟩ := isNameD_str (by simpa using h1)
    rw [Av_str hv]
    refine f_spots T (hn.up e) ?_
    refine ⟨N.a, _, rfl, DGet.k (k := Sum.inr x) (e _ _ ha), ?_⟩
    have e3 : inD (.str x) kvs = (valV kvs (.inr x)).isSome := by
      show (isNameS x && _) = _
      rw [show isNameS x = true from hx]
      rfl
    rw [e3] at q'
    walk_at "ws"
    cases h2 : (valV kvs (.inr x)).isSome with
    | true =>
      rw [h2] at q'
      exact q'
    | false =>
      rw [h2] at q'
      exact q'
def p_Net_need_rule (K : PySem.W.Frag) : P2 := fun v u H Q E => ∃ p N d kvs, v = .ref p ∧ IsNet K H p N ∧ Av K H u d ∧ H N.c = some (.dK kvs) ∧ ∀ H', Same H H' → Out K (if inD d kvs = true then none else some ("NoRule" : Str)) Q E H'
theorem ok_Net_need_rule (T : Tx K mg) : Met (L2.CX P w) P w K mg base 2 (He.ga K "Net") "need_rule" (sp2 (p_Net_need_rule K)) := by
  refine met_of T.cl_Net T.m_Net_need_rule T.d_Net_need_rule (fun _ _ _ _ _ _ => bind2 fun _ _ => rfl) sc_Net_need_rule len2 fun vs H Q E ⟨v, u, e, h⟩ cdv A outer s hr => ?_
  subst e
  have hu := hu_of hr
  refine ⟨_, (pss_one (ps_if (PW.pt (pw_or (pt_not (pt_val (pe_ca (ok_is_name T) hr (by decide) rfl pass0 (pa_cons (pv 1) pa_nil)))) (pw_or1 (pt_cmp (pc_dnotin hu (pv 1) (pe_fld (pv 0) rfl)) rfl)))) (pss_one (ps_raise rfl (takes_of rfl rfl rfl rfl) (pmk_own PySem.F.excBase_ValueError T.x_NoRule T.g_NoRule T.k_NoRule (raises_own T.b_NoRule T.t_NoRule) rfl))) pss_nil)), ?_⟩
  obtain ⟨p, N, d, kvs, rfl, hn, hv, ha, q⟩ := h
  walk_at "ws"
  refine ⟨d, hv, fun H' e => ?_⟩
  walk_at "ws"
  have q' := q H' e
  refine ite2 (fun h1 => ?_) fun h1 => ?_
  · rw [inD_no h1] at q'
    exact q'
  · obtain ⟨x, rfl, hx⟩ := isNameD_str (by simpa using h1)
    rw [Av_str hv]
    refine f_habits T (hn.up e) ?_
    refine ⟨N.c, _, rfl, DGet.k (k := Sum.inr x) (e _ _ ha), ?_⟩
    have e3 : inD (.str x) kvs = (valV kvs (.inr x)).isSome := by
      show (isNameS x && _) = _
      rw [show isNameS x = true from hx]
      rfl
    rw [e3] at q'
    walk_at "ws"
    cases h2 : (valV kvs (.inr x)).isSome with
    | true =>
      rw [h2] at q'
      exact q'
    | false =>
      rw [h2] at q'
      exact q'
def p_Net_need_trip (K : PySem.W.Frag) : P2 := fun v u H Q E => ∃ p N d kvs, v = .ref p ∧ IsNet K H p N ∧ Av K H u d ∧ H N.e = some (.dK kvs) ∧ ∀ H', Same H H' → Out K (if inD d kvs = true then none else some ("NoTrip" : Str)) Q E H'
theorem ok_Net_need_trip (T : Tx K mg) : Met (L2.CX P w) P w K mg base 2 (He.ga K "Net") "need_trip" (sp2 (p_Net_need_trip K)) := by
  refine met_of T.cl_Net T.m_Net_need_trip T.d_Net_need_trip (fun _ _ _ _ _ _ => bind2 fun _ _ => rfl) sc_Net_need_trip len2 fun vs H Q E ⟨v, u, e, h⟩ cdv A outer s hr => ?_
  subst e
  have hu := hu_of hr
  refine ⟨_, (pss_one (ps_if (PW.pt (pw_or (pt_not (pt_val (pe_ca (ok_is_name T) hr (by decide) rfl pass0 (pa_cons (pv 1) pa_nil)))) (pw_or1 (pt_cmp (pc_dnotin hu (pv 1) (pe_fld (pv 0) rfl)) rfl)))) (pss_one (ps_raise rfl (takes_of rfl rfl rfl rfl) (pmk_own PySem.F.excBase_ValueError T.x_NoTrip T.g_NoTrip T.k_NoTrip (raises_own T.b_NoTrip T.t_NoTrip) rfl))) pss_nil)), ?_⟩
  obtain ⟨p, N, d, kvs, rfl, hn, hv, ha, q⟩ := h
  walk_at "ws"
  refine ⟨d, hv, fun H' e => ?_⟩
  walk_at "ws"
  have q' := q H' e
  refine ite2 (fun h1 => ?_) fun h1 => ?_
  · rw [inD_no h1] at q'
    exact q'
  · obtain ⟨x, rfl, hx⟩ := isNameD_str (by simpa using h1)
    rw [Av_str hv]
    refine f_lines T (hn.up e) ?_
    refine ⟨N.e, _, rfl, DGet.k (k := Sum.inr x) (e _ _ ha), ?_⟩
    have e3 : inD (.str x) kvs = (valV kvs (.inr x)).isSome := by
      show (isNameS x && _) = _
      rw [show isNameS x = true from hx]
      rfl
    rw [e3] at q'
    walk_at "ws"
    cases h2 : (valV kvs (.inr x)).isSome with
    | true =>
      rw [h2] at q'
      exact q'
    | false =>
      rw [h2] at q'
      exact q'
def p_Net_stops (K : PySem.W.Frag) : P1 := fun v H Q E => ∃ p N kvs, v = .ref p ∧ IsNet K H p N ∧ H N.a = some (.dK kvs) ∧ ∀ l H', H l = none → Same H H' → H' l = some (.lst (kvs.map fun kv => kV kv.1)) → Q (.ref l) H'
theorem ok_Net_stops (T : Tx K mg) : Met CX0 P w K mg base 1 (He.ga K "Net") "stops" (sp1 (p_Net_stops K)) := by
  refine met_of T.cl_Net T.m_Net_stops T.d_Net_stops (fun _ _ _ _ _ _ => bind1 fun _ => rfl) sc_Net_stops len1 fun vs H Q E ⟨v, e, h⟩ cdv A outer s hr => ?_
  subst e
  refine ⟨_, PSs.nox (pss_one (ps_ret (pe_callTy (call_list_dK rfl) rfl T.f_list (by decide +kernel) (pa_cons (pe_fld (pv 0) rfl) pa_nil)))), ?_⟩
  obtain ⟨p, N, kvs, rfl, hn, ha, q⟩ := h
  walk_at "ws"
  refine f_spots T hn ?_
  refine ⟨N.a, kvs, rfl, ha, ?_⟩
  walk_at "al"
  rename_i l hl H2 e2 g2
  exact q l H2 hl e2 g2
def p_Net_rules (K : PySem.W.Frag) : P1 := fun v H Q E => ∃ p N kvs, v = .ref p ∧ IsNet K H p N ∧ H N.c = some (.dK kvs) ∧ ∀ l H', H l = none → Same H H' → H' l = some (.lst (kvs.map fun kv => kV kv.1)) → Q (.ref l) H'
theorem ok_Net_rules (T : Tx K mg) : Met CX0 P w K mg base 1 (He.ga K "Net") "rules" (sp1 (p_Net_rules K)) := by
  refine met_of T.cl_Net T.m_Net_rules T.d_Net_rules (fun _ _ _ _ _ _ => bind1 fun _ => rfl) sc_Net_rules len1 fun vs H Q E ⟨v, e, h⟩ cdv A outer s hr => ?_
  subst e
  refine ⟨_, PSs.nox (pss_one (ps_ret (pe_callTy (call_list_dK rfl) rfl T.f_list (by decide +kernel) (pa_cons (pe_fld (pv 0) rfl) pa_nil)))), ?_⟩
  obtain ⟨p, N, kvs, rfl, hn, ha, q⟩ := h
  walk_at "ws"
  refine f_habits T hn ?_
  refine ⟨N.c, kvs, rfl, ha, ?_⟩
  walk_at "al"
  rename_i l hl H2 e2 g2
  exact q l H2 hl e2 g2
def p_Net_tickets (K : PySem.W.Frag) : P1 := fun v H Q E => ∃ p N kvs, v = .ref p ∧ IsNet K H p N ∧ H N.d = some (.dK kvs) ∧ ∀ l H', H l = none → Same H H' → H' l = some (.lst (kvs.map fun kv => kV kv.1)) → Q (.ref l) H'
theorem ok_Net_tickets (T : Tx K mg) : Met CX0 P w K mg base 1 (He.ga K "Net") "tickets" (sp1 (p_Net_tickets K)) := by
  refine met_of T.cl_Net T.m_Net_tickets T.d_Net_tickets (fun _ _ _ _ _ _ => bind1 fun _ => rfl) sc_Net_tickets len1 fun vs H Q E ⟨v, e, h⟩ cdv A outer s hr => ?_
  subst e
  refine ⟨_, PSs.nox (pss_one (ps_ret (pe_callTy (call_list_dK rfl) rfl T.f_list (by decide +kernel) (pa_cons (pe_fld (pv 0) rfl) pa_nil)))), ?_⟩
  obtain ⟨p, N, kvs, rfl, hn, ha, q⟩ := h
  walk_at "ws"
  refine f_passes T hn ?_
  refine ⟨N.d, kvs, rfl, ha, ?_⟩
  walk_at "al"
  rename_i l hl H2 e2 g2
  exact q l H2 hl e2 g2
def p_Net_trips (K : PySem.W.Frag) : P1 := fun v H Q E => ∃ p N kvs, v = .ref p ∧ IsNet K H p N ∧ H N.e = some (.dK kvs) ∧ ∀ l H', H l = none → Same H H' → H' l = some (.lst (kvs.map fun kv => kV kv.1)) → Q (.ref l) H'
theorem ok_Net_trips (T : Tx K mg) : Met CX0 P w K mg base 1 (He.ga K "Net") "trips" (sp1 (p_Net_trips K)) := by
  refine met_of T.cl_Net T.m_Net_trips T.d_Net_trips (fun _ _ _ _ _ _ => bind1 fun _ => rfl) sc_Net_trips len1 fun vs H Q E ⟨v, e, h⟩ cdv A outer s hr => ?_
  subst e
  refine ⟨_, PSs.nox (pss_one (ps_ret (pe_callTy (call_list_dK rfl) rfl T.f_list (by decide +kernel) (pa_cons (pe_fld (pv 0) rfl) pa_nil)))), ?_⟩
  obtain ⟨p, N, kvs, rfl, hn, ha, q⟩ := h
  walk_at "ws"
  refine f_lines T hn ?_
  refine ⟨N.e, kvs, rfl, ha, ?_⟩
  walk_at "al"
  rename_i l hl H2 e2 g2
  exact q l H2 hl e2 g2
def p_Net_walks (K : PySem.W.Frag) : P1 := fun v H Q E => ∃ p N xs, v = .ref p ∧ IsNet K H p N ∧ H N.b = some (.lst xs) ∧ ∀ l H', H l = none → Same H H' → H' l = some (.lst xs) → Q (.ref l) H'
theorem ok_Net_walks (T : Tx K mg) : Met CX0 P w K mg base 1 (He.ga K "Net") "walks" (sp1 (p_Net_walks K)) := by
  refine met_of T.cl_Net T.m_Net_walks T.d_Net_walks (fun _ _ _ _ _ _ => bind1 fun _ => rfl) sc_Net_walks len1 fun vs H Q E ⟨v, e, h⟩ cdv A outer s hr => ?_
  subst e
  refine ⟨_, PSs.nox (pss_one (ps_ret (pe_callTy call_list_of rfl T.f_list (by decide +kernel) (pa_cons (pe_fld (pv 0) rfl) pa_nil)))), ?_⟩
  obtain ⟨p, N, xs, rfl, hn, ha, q⟩ := h
  walk_at "ws"
  refine f_paths T hn ?_
  refine ⟨N.b, xs, rfl, .inl (SqL.of ha), ?_⟩
  walk_at "al"
  rename_i l hl H2 e2 g2
  exact q l H2 hl e2 g2
def p_Net_zone (K : PySem.W.Frag) : P2 := fun v u H Q E => ∃ p N d kvs, v = .ref p ∧ IsNet K H p N ∧ Av K H u d ∧ H N.a = some (.dK kvs) ∧ ∀ H', Same H H' →
  (inD d kvs = false → E (.ref (He.ga K "NoStop")) none H') ∧ (∀ x y, d = .str x → isNameS x = true → valV kvs (.inr x) = some y → ∃ t xs z, y = .ref t ∧ H' t = some (.tup xs) ∧ xs[0]? = some z ∧ Q z H')
theorem ok_Net_zone (T : Tx K mg) : Met (L2.CX P w) P w K mg base 3 (He.ga K "Net") "zone" (sp2 (p_Net_zone K)) := by
  refine met_of T.cl_Net T.m_Net_zone T.d_Net_zone (fun _ _ _ _ _ _ => bind2 fun _ _ => rfl) sc_Net_zone len2 fun vs H Q E ⟨v, u, e, h⟩ cdv A outer s hr => ?_
  subst e
  have hu := hu_of hr
  refine ⟨_, (pss_cons (ps_expr (pe_me (ok_Net_need_stop T) hr (by decide) (passes_call (takes_of rfl rfl rfl rfl) (fun _ _ _ _ h => h)) (pv 0) (pa_cons (pv 1) pa_nil)))
    (pss_one (ps_ret (pe_ix ix_tup (pe_dget hu (pe_fld (pv 0) rfl) (pv 1) (fun _ _ => rfl)) pe_int (fun _ _ => rfl))))), ?_⟩
  obtain ⟨p, N, d, kvs, rfl, hn, hv, ha, q⟩ := h
  walk_at "ws"
  refine f_meth hn (fun _ => by rfl) ?_
  walk_at "ws"
  refine ⟨p, N, d, kvs, rfl, hn, hv, ha, fun H' e => ?_⟩
  obtain ⟨q1, q2⟩ := q H' e
  cases h2 : inD d kvs with
  | false => exact q1 h2
  | true =>
    obtain ⟨x, y, rfl, hx, hy⟩ := inD_yes h2
    have q3 := q2 x y rfl hx hy
    rw [Av_str hv]
    refine f_spots T (hn.up e) ?_
    refine ⟨N.a, y, rfl, by have z := DGet.k (k := Sum.inr x) (e _ _ ha); rwa [hy] at z, ?_⟩
    obtain ⟨t, xs, z, rfl, ht, hz, q4⟩ := q3
    exact ⟨t, xs, 0, z, rfl, rfl, SqT.of ht, atI_nat hz, q4⟩
def p_Net_change (K : PySem.W.Frag) : P2 := fun v u H Q E => ∃ p N d kvs, v = .ref p ∧ IsNet K H p N ∧ Av K H u d ∧ H N.a = some (.dK kvs) ∧ ∀ H', Same H H' →
  (inD d kvs = false → E (.ref (He.ga K "NoStop")) none H') ∧ (∀ x y, d = .str x → isNameS x = true → valV kvs (.inr x) = some y → ∃ t xs z, y = .ref t ∧ H' t = some (.tup xs) ∧ xs[1]? = some z ∧ Q z H')
theorem ok_Net_change (T : Tx K mg) : Met (L2.CX P w) P w K mg base 3 (He.ga K "Net") "change" (sp2 (p_Net_change K)) := by
  refine met_of T.cl_Net T.m_Net_change T.d_Net_change (fun _ _ _ _ _ _ => bind2 fun _ _ => rfl) sc_Net_change len2 fun vs H Q E ⟨v, u, e, h⟩ cdv A outer s hr => ?_
  subst e
  have hu := hu_of hr
  refine ⟨_, (pss_cons (ps_expr (pe_me (ok_Net_need_stop T) hr (by decide) (passes_call (takes_of rfl rfl rfl rfl) (fun _ _ _ _ h => h)) (pv 0) (pa_cons (pv 1) pa_nil)))
    (pss_one (ps_ret (pe_ix ix_tup (pe_dget hu (pe_fld (pv 0) rfl) (pv 1) (fun _ _ => rfl)) pe_int (fun _ _ => rfl))))), ?_⟩
  obtain ⟨p, N, d, kvs, rfl, hn, hv, ha, q⟩ := h
  walk_at "ws"
  refine f_meth hn (fun _ => by rfl) ?_
  walk_at "ws"
  refine ⟨p, N, d, kvs, rfl, hn, hv, ha, fun H' e => ?_⟩
  obtain ⟨q1, q2⟩ := q H' e
  cases h2 : inD d kvs with
  | false => exact q1 h2
  | true =>
    obtain ⟨x, y, rfl, hx, hy⟩ := inD_yes h2
    have q3 := q2 x y rfl hx hy
    rw [Av_str hv]
    refine f_spots T (hn.up e) ?_
    refine ⟨N.a, y, rfl, by have z := DGet.k (k := Sum.inr x) (e _ _ ha); rwa [hy] at z, ?_⟩
    obtain ⟨t, xs, z, rfl, ht, hz, q4⟩ := q3
    exact ⟨t, xs, 1, z, rfl, rfl, SqT.of ht, atI_nat (j := 1) hz, q4⟩
def p_Net_rule (K : PySem.W.Frag) : P2 := fun v u H Q E => ∃ p N d kvs, v = .ref p ∧ IsNet K H p N ∧ Av K H u d ∧ H N.c = some (.dK kvs) ∧ ∀ H', Same H H' →
  (inD d kvs = false → E (.ref (He.ga K "NoRule")) none H') ∧ (∀ x y, d = .str x → isNameS x = true → valV kvs (.inr x) = some y → Q y H')
theorem ok_Net_rule (T : Tx K mg) : Met (L2.CX P w) P w K mg base 3 (He.ga K "Net") "rule" (sp2 (p_Net_rule K)) := by
  refine met_of T.cl_Net T.m_Net_rule T.d_Net_rule (fun _ _ _ _ _ _ => bind2 fun _ _ => rfl) sc_Net_rule len2 fun vs H Q E ⟨v, u, e, h⟩ cdv A outer s hr => ?_
  subst e
  have hu := hu_of hr
  refine ⟨_, (pss_cons (ps_expr (pe_me (ok_Net_need_rule T) hr (by decide) (passes_call (takes_of rfl rfl rfl rfl) (fun _ _ _ _ h => h)) (pv 0) (pa_cons (pv 1) pa_nil)))
    (pss_one (ps_ret (pe_dget hu (pe_fld (pv 0) rfl) (pv 1) (fun _ _ => rfl))))), ?_⟩
  obtain ⟨p, N, d, kvs, rfl, hn, hv, ha, q⟩ := h
  walk_at "ws"
  refine f_meth hn (fun _ => by rfl) ?_
  walk_at "ws"
  refine ⟨p, N, d, kvs, rfl, hn, hv, ha, fun H' e => ?_⟩
  obtain ⟨q1, q2⟩ := q H' e
  cases h2 : inD d kvs with
  | false => exact q1 h2
  | true =>
    obtain ⟨x, y, rfl, hx, hy⟩ := inD_yes h2
    have q3 := q2 x y rfl hx hy
    rw [Av_str hv]
    refine f_habits T (hn.up e) ?_
    refine ⟨N.c, y, rfl, by have z := DGet.k (k := Sum.inr x) (e _ _ ha); rwa [hy] at z, ?_⟩
    exact q3
def p_Net_rule_name (K : PySem.W.Frag) : P2 := fun v u H Q E => ∃ p N d kvs, v = .ref p ∧ IsNet K H p N ∧ Av K H u d ∧ H N.e = some (.dK kvs) ∧ ∀ H', Same H H' →
  (inD d kvs = false → E (.ref (He.ga K "NoTrip")) none H') ∧ (∀ x y, d = .str x → isNameS x = true → valV kvs (.inr x) = some y → ∃ t xs z, y = .ref t ∧ H' t = some (.tup xs) ∧ xs[0]? = some z ∧ Q z H')
theorem ok_Net_rule_name (T : Tx K mg) : Met (L2.CX P w) P w K mg base 3 (He.ga K "Net") "rule_name" (sp2 (p_Net_rule_name K)) := by
  refine met_of T.cl_Net T.m_Net_rule_name T.d_Net_rule_name (fun _ _ _ _ _ _ => bind2 fun _ _ => rfl) sc_Net_rule_name len2 fun vs H Q E ⟨v, u, e, h⟩ cdv A outer s hr => ?_
  subst e
  have hu := hu_of hr
  refine ⟨_, (pss_cons (ps_expr (pe_me (ok_Net_need_trip T) hr (by decide) (passes_call (takes_of rfl rfl rfl rfl) (fun _ _ _ _ h => h)) (pv 0) (pa_cons (pv 1) pa_nil)))
    (pss_one (ps_ret (pe_ix ix_tup (pe_dget hu (pe_fld (pv 0) rfl) (pv 1) (fun _ _ => rfl)) pe_int (fun _ _ => rfl))))), ?_⟩
  obtain ⟨p, N, d, kvs, rfl, hn, hv, ha, q⟩ := h
  walk_at "ws"
  refine f_meth hn (fun _ => by rfl) ?_
  walk_at "ws"
  refine ⟨p, N, d, kvs, rfl, hn, hv, ha, fun H' e => ?_⟩
  obtain ⟨q1, q2⟩ := q H' e
  cases h2 : inD d kvs with
  | false => exact q1 h2
  | true =>
    obtain ⟨x, y, rfl, hx, hy⟩ := inD_yes h2
    have q3 := q2 x y rfl hx hy
    rw [Av_str hv]
    refine f_lines T (hn.up e) ?_
    refine ⟨N.e, y, rfl, by have z := DGet.k (k := Sum.inr x) (e _ _ ha); rwa [hy] at z, ?_⟩
    obtain ⟨t, xs, z, rfl, ht, hz, q4⟩ := q3
    exact ⟨t, xs, 0, z, rfl, rfl, SqT.of ht, atI_nat hz, q4⟩
def p_Net_calls (K : PySem.W.Frag) : P2 := fun v u H Q E => ∃ p N d kvs, v = .ref p ∧ IsNet K H p N ∧ Av K H u d ∧ H N.e = some (.dK kvs) ∧ ∀ H', Same H H' →
  (inD d kvs = false → E (.ref (He.ga K "NoTrip")) none H') ∧ (∀ x y, d = .str x → isNameS x = true → valV kvs (.inr x) = some y → ∃ t xs c cs, y = .ref t ∧ H' t = some (.tup xs) ∧ xs[1]? = some (.ref c) ∧ SqT K H' c cs ∧ ∀ l H2, H' l = none → Same H' H2 → H2 l = some (.lst cs) → Q (.ref l) H2)
theorem ok_Net_calls (T : Tx K mg) : Met (L2.CX P w) P w K mg base 3 (He.ga K "Net") "calls" (sp2 (p_Net_calls K)) := by
  refine met_of T.cl_Net T.m_Net_calls T.d_Net_calls (fun _ _ _ _ _ _ => bind2 fun _ _ => rfl) sc_Net_calls len2 fun vs H Q E ⟨v, u, e, h⟩ cdv A outer s hr => ?_
  subst e
  have hu := hu_of hr
  refine ⟨_, (pss_cons (ps_expr (pe_me (ok_Net_need_trip T) hr (by decide) (passes_call (takes_of rfl rfl rfl rfl) (fun _ _ _ _ h => h)) (pv 0) (pa_cons (pv 1) pa_nil)))
    (pss_one (ps_ret (pe_callTy call_list_of rfl T.f_list (by decide +kernel) (pa_cons (pe_ix ix_tup (pe_dget hu (pe_fld (pv 0) rfl) (pv 1) (fun _ _ => rfl)) pe_int (fun _ _ => rfl)) pa_nil))))), ?_⟩
  obtain ⟨p, N, d, kvs, rfl, hn, hv, ha, q⟩ := h
  walk_at "ws"
  refine f_meth hn (fun _ => by rfl) ?_
  walk_at "ws"
  refine ⟨p, N, d, kvs, rfl, hn, hv, ha, fun H' e => ?_⟩
  obtain ⟨q1, q2⟩ := q H' e
  cases h2 : inD d kvs with
  | false => exact q1 h2
  | true =>
    obtain ⟨x, y, rfl, hx, hy⟩ := inD_yes h2
    have q3 := q2 x y rfl hx hy
    rw [Av_str hv]
    refine f_lines T (hn.up e) ?_
    refine ⟨N.e, y, rfl, by have z := DGet.k (k := Sum.inr x) (e _ _ ha); rwa [hy] at z, ?_⟩
    obtain ⟨t, xs, c, cs, rfl, ht, hz, hc, q4⟩ := q3
    refine ⟨t, xs, 1, .ref c, rfl, rfl, SqT.of ht, atI_nat (j := 1) hz, ?_⟩
    refine ⟨c, cs, rfl, .inr hc, ?_⟩
    walk_at "al"
    rename_i l hl H2 e2 g2
    exact q4 l H2 hl e2 g2
end
end K06
set_option maxHeartbeats 4000000
namespace K06
open PySem L2
local macro_rules | `(tactic| walk_at "ws") => `(tactic| try simp only [w_var0, w_varS, w_c, w_ret, w_retN, w_next, w_seq, w_asg, w_gn, w_drop, w_if, w_and, w_or, w_not, ex_bl, ex_int, ex_two, w_B, w_test, w_andV, w_orV, w_notV, w_ife, w_op, w_un, w_chain, w_nil, w_cons, w_cb, w_ca, w_lst, w_tup, w_I0, w_I, w_U, w_eqI, w_neI, w_eqS, w_neS,
  w_isN0, w_notN0, w_fld, w_sfld, w_me, w_ma, w_dget, w_din, w_dnotin, w_dput, w_slice, w_part, w_nopart, w_bm, w_bm0, w_par, w_lc, w_for, w_iList, w_iTup, w_iStr, w_iRng1, w_iZip, w_iEnum, w_tM1, w_dnewK, w_gtup, w_glst, w_gcons, w_gnil, w_gsub, cx_K, cx_K',
  L2.start, endsOf, List.map_cons, List.map_nil, List.length_cons, List.length_nil, List.cons_append, List.nil_append, Nat.zero_add, Nat.reduceAdd, Nat.reduceSub, List.replicate_succ, List.replicate_zero, List.set_cons_zero, List.set_cons_succ, List.set_nil,
  sp0_eq, sp1_eq, sp2_eq, sp3_eq, sp4_eq, sp5_eq, if_true, Bool.false_eq_true, if_false, decide_eq_true_eq, Bool.not_eq_true', decide_eq_false_iff_not, Bool.not_true, Bool.not_false, Bool.not_eq_false', isD_int_none, isD_int_bool, isD_int_int, isD_int_str, isD_int_list, isD_int_tuple, isD_int_dict, isD_bool_none, isD_bool_bool, isD_bool_int, isD_bool_str, isD_bool_list, isD_bool_tuple, isD_bool_dict, isD_str_none, isD_str_bool, isD_str_int, isD_str_str, isD_str_list, isD_str_tuple, isD_str_dict, isD_list_none, isD_list_bool, isD_list_int, isD_list_str, isD_list_list, isD_list_tuple, isD_list_dict, isD_tuple_none, isD_tuple_bool, isD_tuple_int, isD_tuple_str, isD_tuple_list, isD_tuple_tuple, isD_tuple_dict])
local macro_rules | `(tactic| walk_at "al") => `(tactic| (intro p hp; generalize hH : upd _ _ _ = H2; obtain ⟨e2, g2⟩ := alloc1 hp hH.symm; clear hH))
section
variable {P : Program} {w : World} {K : PySem.W.Frag} {mg : Str → Option Value} {base : Heap}
/-- all but one object stand -/
def SameB (a : Addr) (H H' : Hp) : Prop := ∀ b o, b ≠ a → H b = some o → H' b = some o
theorem sameB_of {a : Addr} {H H1 : Hp} {o : HO} (e : Same H H1) : SameB a H (upd H1 a o) := fun b u hb h => by
  rw [upd_ne hb]
  exact e b u h
theorem out_of {o : Option Str} {Q : VK} {E : XK} {H : Hp} (h1 : ∀ x, o = some x → E (.ref (He.ga K x)) none H) (h2 : o = none → Q .non H) : Out K o Q E H := by
  cases o with
  | none => exact h2 rfl
  | some x => exact h1 x rfl
theorem freshD_none {d : PyData} {kvs : List (Key × V)} (h : freshD d kvs = none) : ∃ x, d = .str x ∧ isNameS x = true ∧ valV kvs (.inr x) = none := by
  cases d <;> first | (exfalso; simp [freshD] at h; done) | skip
  rename_i x
  have h : freshS x kvs = none := h
  unfold freshS at h
  cases hx : isNameS x with
  | false => rw [hx] at h; cases h
  | true =>
    rw [hx, if_pos rfl] at h
    cases hv : valV kvs (.inr x) with
    | none => exact ⟨x, rfl, hx, hv⟩
    | some v => rw [hv] at h; cases h
theorem among_int {d : PyData} {a b : Int} (h : amongD d a b = true) : ∃ i, d = .int i ∧ a ≤ i ∧ i ≤ b := by
  cases d <;> first | (exfalso; simp [amongD] at h; done) | skip
  rename_i i
  obtain ⟨h1, h2⟩ := Bool.and_eq_true_iff.mp (show (decide (a ≤ i) && decide (i ≤ b)) = true from h)
  exact ⟨i, rfl, of_decide_eq_true h1, of_decide_eq_true h2⟩
theorem Av_int {H : Hp} {v : V} {i : Int} (h : Av K H v (.int i)) : v = .int i := by
  cases h with
  | dp h _ => exact h.int_inv
/-! ### a ticket told -/
def p_Net_ticket (K : PySem.W.Frag) : P2 := fun v u H Q E => ∃ p N d kvs, v = .ref p ∧ IsNet K H p N ∧ Av K H u d ∧ H N.d = some (.dK kvs) ∧ ∀ H', Same H H' →
  (inD d kvs = false → E (.ref (He.ga K "NoTicket")) none H') ∧ (∀ x y, d = .str x → isNameS x = true → valV kvs (.inr x) = some y → ∃ t a b z zs, y = .ref t ∧ H' t = some (.tup [a, b, .ref z]) ∧ SqT K H' z zs ∧
    ∀ r l H2, H' r = none → H' l = none → r ≠ l → Same H' H2 → H2 l = some (.lst zs) → H2 r = some (.tup [a, b, .ref l]) → Q (.ref r) H2)
theorem ok_Net_ticket (T : Tx K mg) : Met (L2.CX P w) P w K mg base 3 (He.ga K "Net") "ticket" (sp2 (p_Net_ticket K)) := by
  refine met_of T.cl_Net T.m_Net_ticket T.d_Net_ticket (fun _ _ _ _ _ _ => bind2 fun _ _ => rfl) sc_Net_ticket len2 fun vs H Q E ⟨v, u, e, h⟩ cdv A outer s hr => ?_
  subst e
  have hu := hu_of hr
  refine ⟨_, (pss_cons (ps_if (PW.pt (pw_or (pt_not (pt_val (pe_ca (ok_is_name T) hr (by decide) rfl pass0 (pa_cons (pv 1) pa_nil)))) (pw_or1 (pt_cmp (pc_dnotin hu (pv 1) (pe_fld (pv 0) rfl)) rfl)))) (pss_one (ps_raise rfl (takes_of rfl rfl rfl rfl) (pmk_own PySem.F.excBase_ValueError T.x_NoTicket T.g_NoTicket T.k_NoTicket (raises_own T.b_NoTicket T.t_NoTicket) rfl))) pss_nil)
    (pss_cons (ps_asg (pe_dget hu (pe_fld (pv 0) rfl) (pv 1) (fun _ _ => rfl)) (pg_tup rfl (pgs_cons (pg_name (i := 2) sc_Net_ticket.nd rfl (Or.inl rfl)) (pgs_cons (pg_name (i := 3) sc_Net_ticket.nd rfl (Or.inl rfl)) (pgs_cons (pg_name (i := 4) sc_Net_ticket.nd rfl (Or.inl rfl)) pgs_nil)))))
    (pss_one (ps_ret (pe_tup (pa_cons (pv 2) (pa_cons (pv 3) (pa_cons (pe_callTy call_list_of rfl T.f_list (by decide +kernel) (pa_cons (pv 4) pa_nil)) pa_nil)))))))), ?_⟩
  obtain ⟨p, N, d, kvs, rfl, hn, hv, ha, q⟩ := h
  walk_at "ws"
  refine ⟨d, hv, fun H' e => ?_⟩
  walk_at "ws"
  obtain ⟨q1, q2⟩ := q H' e
  refine ite2 (fun h1 => ?_) fun h1 => ?_
  · exact q1 (inD_no h1)
  · obtain ⟨x, rfl, hx⟩ := isNameD_str (by simpa using h1)
    rw [Av_str hv]
    refine f_passes T (hn.up e) ?_
    refine ⟨N.d, _, rfl, DGet.k (k := Sum.inr x) (e _ _ ha), ?_⟩
    have e3 : inD (.str x) kvs = (valV kvs (.inr x)).isSome := by
      show (isNameS x && _) = _
      rw [show isNameS x = true from hx]
      rfl
    rw [e3] at q1
    walk_at "ws"
    cases h2 : valV kvs (.inr x) with
    | none =>
      rw [h2] at q1
      exact q1 rfl
    | some y =>
      obtain ⟨t, a, b, z, zs, rfl, ht, hz, q3⟩ := q2 x y rfl hx h2
      rw [if_neg (by simp)]
      refine f_passes T (hn.up e) ?_
      refine ⟨N.d, _, rfl, by have z := DGet.k (k := Sum.inr x) (e _ _ ha); rwa [h2] at z, ?_⟩
      refine ⟨t, _, rfl, SqT.of ht, rfl, ?_⟩
      walk_at "ws"
      refine ⟨z, zs, rfl, .inr hz, ?_⟩
      walk_at "al"
      rename_i l hl H2 e2 g2
      refine ⟨by decide, ?_⟩
      walk_at "al"
      rename_i r hr2 H3 e4 g4
      exact q3 r l H3 (e2.free hr2) hl (ne_of_none g2 hr2).symm (e2.trans e4) (e4 _ _ g2) g4
/-! ### a stop is put -/
def stopOut (d1 d2 d3 : PyData) (kvs : List (Key × V)) : Option Str := match freshD d1 kvs with
  | some e => some e
  | none => if amongD d2 1 6 = true then (if amongD d3 0 30 = true then (if 8 ≤ kvs.length then some ("TooMany" : Str) else none) else some ("BadNumber" : Str)) else some ("BadNumber" : Str)
def p_Net_add_stop (K : PySem.W.Frag) : P4 := fun v a b c H Q E => ∃ p N d1 d2 d3 kvs, v = .ref p ∧ IsNet K H p N ∧ Av K H a d1 ∧ Av K H b d2 ∧ Av K H c d3 ∧ H N.a = some (.dK kvs) ∧ kvs.length ≤ 8 ∧
  (∀ x, stopOut d1 d2 d3 kvs = some x → ∀ H', Same H H' → E (.ref (He.ga K x)) none H') ∧
  (stopOut d1 d2 d3 kvs = none → ∀ x z m t H', d1 = .str x → d2 = .int z → d3 = .int m → H t = none → SameB N.a H H' → H' N.a = some (.dK (putK kvs (.inr x) (.ref t))) → H' t = some (.tup [.int z, .int m]) → Q .non H')
theorem ok_Net_add_stop (T : Tx K mg) : Met (L2.CX P w) P w K mg base 3 (He.ga K "Net") "add_stop" (sp4 (p_Net_add_stop K)) := by
  refine met_of T.cl_Net T.m_Net_add_stop T.d_Net_add_stop (fun _ _ _ _ _ _ => bind4 fun _ _ _ _ => rfl) sc_Net_add_stop len4 fun vs H Q E ⟨v, a, b, c, e, h⟩ cdv A outer s hr => ?_
  subst e
  have hu := hu_of hr
  refine ⟨_, (pss_cons (ps_expr (pe_ca (ok_need_fresh T) hr (by decide) rfl (passes_call (takes_of rfl rfl rfl rfl) (fun _ _ _ _ h => h)) (pa_cons (pv 1) (pa_cons (pe_fld (pv 0) rfl) pa_nil))))
    (pss_cons (ps_expr (pe_ca (ok_need_among T) hr (by decide) rfl (passes_call (takes_of rfl rfl rfl rfl) (fun _ _ _ _ h => h)) (pa_cons (pv 2) (pa_cons pe_int (pa_cons (C8.pe_gc rfl T.c_MOST_ZONE) pa_nil)))))
    (pss_cons (ps_expr (pe_ca (ok_need_among T) hr (by decide) rfl (passes_call (takes_of rfl rfl rfl rfl) (fun _ _ _ _ h => h)) (pa_cons (pv 3) (pa_cons pe_int (pa_cons pe_int pa_nil)))))
    (pss_cons (ps_expr (pe_ca (ok_need_room T) hr (by decide) rfl (passes_call (takes_of rfl rfl rfl rfl) (fun _ _ _ _ h => h)) (pa_cons (pe_fld (pv 0) rfl) (pa_cons (C8.pe_gc rfl T.c_MOST_STOPS) pa_nil))))
    (pss_one (ps_dput hu (pe_fld (pv 0) rfl) (pv 1) (pe_tup (pa_cons (pv 2) (pa_cons (pv 3) pa_nil))) rfl)))))), ?_⟩
  obtain ⟨p, N, d1, d2, d3, kvs, rfl, hn, h1, h2, h3, ha, hlen, q1, q2⟩ := h
  unfold stopOut at q1 q2
  walk_at "ws"
  refine f_spots T hn ?_
  walk_at "ws"
  refine ⟨d1, N.a, kvs, h1, rfl, ha, fun H1 e1 => out_of (fun x hx => ?_) fun hx => ?_⟩
  · rw [hx] at q1
    exact q1 x rfl H1 e1
  rw [hx] at q1 q2
  obtain ⟨x, rfl, hxn, hxv⟩ := freshD_none hx
  walk_at "ws"
  refine ⟨d2, 1, 6, h2.up e1, rfl, rfl, out_of (fun y hy => ?_) fun hy => ?_⟩
  · cases hd : amongD d2 1 6 with
    | true => rw [hd] at hy; cases hy
    | false =>
      rw [hd] at hy q1
      cases hy
      exact q1 _ rfl H1 e1
  have hd2 : amongD d2 1 6 = true := by
    cases hd : amongD d2 1 6 with
    | true => rfl
    | false => rw [hd] at hy; cases hy
  rw [hd2] at q1 q2
  obtain ⟨z, rfl, _, _⟩ := among_int hd2
  walk_at "ws"
  refine ⟨d3, 0, 30, h3.up e1, rfl, rfl, out_of (fun y hy => ?_) fun hy => ?_⟩
  · cases hd : amongD d3 0 30 with
    | true => rw [hd] at hy; cases hy
    | false =>
      rw [hd] at hy q1
      cases hy
      exact q1 _ rfl H1 e1
  have hd3 : amongD d3 0 30 = true := by
    cases hd : amongD d3 0 30 with
    | true => rfl
    | false => rw [hd] at hy; cases hy
  rw [hd3] at q1 q2
  obtain ⟨m, rfl, _, _⟩ := among_int hd3
  walk_at "ws"
  refine f_spots T (hn.up e1) ?_
  walk_at "ws"
  refine ⟨N.a, kvs.length, 8, rfl, rfl, .inl ⟨kvs, e1 _ _ ha, rfl⟩, out_of (fun y hy => ?_) fun hy => ?_⟩
  · have h8 : 8 ≤ kvs.length := by
      by_cases h8 : (8 : Int) ≤ (kvs.length : Int)
      · omega
      · rw [if_neg h8] at hy; cases hy
    rw [if_pos (by omega)] at hy
    cases hy
    exact q1 _ (if_pos h8) H1 e1
  have h8 : ¬ 8 ≤ kvs.length := fun h8 => by
    rw [if_pos (by omega)] at hy
    cases hy
  walk_at "ws"
  rw [Av_int h2, Av_int h3, Av_str h1]
  refine ⟨by decide, ?_⟩
  walk_at "al"
  rename_i t ht H2 e2 g2
  refine f_spots T ((hn.up e1).up e2) ?_
  refine ⟨N.a, _, rfl, DPut.k (k := Sum.inr x) (e2 _ _ (e1 _ _ ha)) (Nat.lt_of_le_of_lt hlen (by decide)), ?_⟩
  have nat : N.a ≠ t := ne_of_none (e1 _ _ ha) ht
  exact q2 (if_neg h8) x z m t _ rfl rfl rfl (e1.free ht) (sameB_of (e1.trans e2)) upd_same (by rw [upd_ne nat.symm]; exact g2)
end
end K06
set_option maxHeartbeats 4000000
namespace K06
open PySem L2
local macro_rules | `(tactic| walk_at "ws") => `(tactic| try simp only [w_var0, w_varS, w_c, w_ret, w_retN, w_next, w_seq, w_asg, w_gn, w_drop, w_if, w_and, w_or, w_not, ex_bl, ex_int, ex_two, w_B, w_test, w_andV, w_orV, w_notV, w_ife, w_op, w_un, w_chain, w_nil, w_cons, w_cb, w_ca, w_lst, w_tup, w_I0, w_I, w_U, w_eqI, w_neI, w_eqS, w_neS,
  w_isN0, w_notN0, w_fld, w_sfld, w_me, w_ma, w_dget, w_din, w_dnotin, w_dput, w_slice, w_part, w_nopart, w_bm, w_bm0, w_par, w_lc, w_for, w_iList, w_iTup, w_iStr, w_iRng1, w_iZip, w_iEnum, w_tM1, w_dnewK, w_gtup, w_glst, w_gcons, w_gnil, w_gsub, cx_K, cx_K',
  L2.start, endsOf, List.map_cons, List.map_nil, List.length_cons, List.length_nil, List.cons_append, List.nil_append, Nat.zero_add, Nat.reduceAdd, Nat.reduceSub, List.replicate_succ, List.replicate_zero, List.set_cons_zero, List.set_cons_succ, List.set_nil,
  sp0_eq, sp1_eq, sp2_eq, sp3_eq, sp4_eq, sp5_eq, if_true, Bool.false_eq_true, if_false, decide_eq_true_eq, Bool.not_eq_true', decide_eq_false_iff_not, Bool.not_true, Bool.not_false, Bool.not_eq_false', isD_int_none, isD_int_bool, isD_int_int, isD_int_str, isD_int_list, isD_int_tuple, isD_int_dict, isD_bool_none, isD_bool_bool, isD_bool_int, isD_bool_str, isD_bool_list, isD_bool_tuple, isD_bool_dict, isD_str_none, isD_str_bool, isD_str_int, isD_str_str, isD_str_list, isD_str_tuple, isD_str_dict, isD_list_none, isD_list_bool, isD_list_int, isD_list_str, isD_list_list, isD_list_tuple, isD_list_dict, isD_tuple_none, isD_tuple_bool, isD_tuple_int, isD_tuple_str, isD_tuple_list, isD_tuple_tuple, isD_tuple_dict])
local macro_rules | `(tactic| walk_at "al") => `(tactic| (intro p hp; generalize hH : upd _ _ _ = H2; obtain ⟨e2, g2⟩ := alloc1 hp hH.symm; clear hH))
section
variable {P : Program} {w : World} {K : PySem.W.Frag} {mg : Str → Option Value} {base : Heap}
/-! ### zones -/
def intOf (d : PyData) : Int := match d with
  | .int i => i
  | _ => 0
def risesI (ns : List Int) : Bool := (List.zipWith (fun a b => decide (a < b)) ns ns.tail).all id
def zonesD (d : PyData) : Bool := match d with
  | .list ds => (decide (1 ≤ ds.length) && decide (ds.length ≤ 6)) && ((ds.all fun d => amongD d 1 6) && risesI (ds.map intOf))
  | _ => false
theorem okD_of_mem {ds : List PyData} (h : ∀ d ∈ ds, okD d = true) : True := trivial
theorem all_among_ints : ∀ {ds : List PyData} {a b : Int}, (ds.all fun d => amongD d a b) = true → ds = (ds.map intOf).map PyData.int
  | [], _, _, _ => rfl
  | d :: ds, a, b, h => by
    rw [List.all_cons, Bool.and_eq_true] at h
    obtain ⟨i, rfl, _, _⟩ := among_int h.1
    rw [List.map_cons, List.map_cons, ← all_among_ints h.2]
    rfl
/-- lists that are handed in: their items too are of any kind -/
def AvL (K : PySem.W.Frag) (H : Hp) (v : V) (d : PyData) : Prop := Av K H v d ∧ ∀ ds, d = .list ds → (∀ d ∈ ds, okD d = true)
def p_are_zones (K : PySem.W.Frag) : P1 := fun v H Q _ => ∃ d, AvL K H v d ∧ ∀ H', Same H H' → Q (.bl (zonesD d)) H'
theorem tail_cut (vs : List V) : cutV vs (some 1) none = vs.tail := by
  have e1 : HT.sIx vs.length 0 (some 1) = min 1 vs.length := HT.sIx_nat _ _ 1
  unfold cutV
  rw [e1, HT.sIx_none]
  cases vs with
  | nil => rfl
  | cons v r =>
    have e2 : min 1 (v :: r).length = 1 := by simp
    rw [e2]
    simp
theorem ok_are_zones (T : Tx K mg) : Cal CX0 P w K mg base 2 "are_zones" (sp1 (p_are_zones K)) := by
  refine cal_of T.d_are_zones T.g_are_zones (fun _ _ _ _ _ _ => bind1 fun _ => rfl) sc_are_zones len1 fun vs H Q E ⟨v, e, h⟩ cdv A outer s hr => ?_
  subst e
  refine ⟨_, PSs.nox (pss_cons (ps_if (PW.pt (pw_or (pt_not (pt_val (pe_callB call_isi rfl T.f_isinstance (by decide +kernel) (pa_cons (pv 0) (pa_cons (pe_bltn (v := .ty "list") rfl T.f_list (by decide +kernel) rfl) pa_nil))))) (pw_or1 (pt_not (pt_chain op_le op_le pe_int (pe_callB call_len_seq rfl T.f_len (by decide +kernel) (pa_cons (pv 0) pa_nil)) (C8.pe_gc rfl T.c_MOST_ZONE)))))) (pss_one (ps_ret pe_bl)) pss_nil)
    (pss_cons (ps_if (pt_not (pt_val (pe_callB (cr_all rfl) rfl T.f_all (by decide +kernel) (pa_cons (pe_lc (own := [("zone", 1)]) rfl sc_are_zones.nd (pi_list (pv 0)) (blkOk_by (own := [("zone", 1)]) (N := ["thing", "zone", "one", "other"]) (sc := defScope s_are_zones) (by decide +kernel)) (fun _ _ _ _ _ => pg_name (i := 1) sc_are_zones.nd rfl (Or.inl rfl)) (fun _ _ _ _ _ => pts_nil) (fun _ _ _ _ _ => (pe_ca (ok_is_among T) hr (by decide) rfl pass0 (pa_cons (pv 1) (pa_cons pe_int (pa_cons (C8.pe_gc rfl T.c_MOST_ZONE) pa_nil)))))) pa_nil)))) (pss_one (ps_ret pe_bl)) pss_nil)
    (pss_one (ps_ret (pe_callB (cr_all rfl) rfl T.f_all (by decide +kernel) (pa_cons (pe_lc (own := [("one", 2), ("other", 3)]) (g := gTup K 2 (gCons (gName 2) (gCons (gName 3) gNil))) rfl sc_are_zones.nd (pi_zip rfl T.f_zip (pa_cons (pv 0) (pa_cons (pe_slice sl_list (pv 0) (po_some pe_int) po_none) pa_nil))) (blkOk_by (own := [("one", 2), ("other", 3)]) (N := ["thing", "zone", "one", "other"]) (sc := defScope s_are_zones) (by decide +kernel)) (fun _ _ _ _ _ => pg_tup rfl (pgs_cons (pg_name (i := 2) sc_are_zones.nd rfl (Or.inl rfl)) (pgs_cons (pg_name (i := 3) sc_are_zones.nd rfl (Or.inl rfl)) pgs_nil))) (fun _ _ _ _ _ => pts_nil) (fun _ _ _ _ _ => (pe_cmpR op_lt (pv 2) (pv 3) (nomark _)))) pa_nil)))))), ?_⟩
  obtain ⟨d, ⟨hv, hds⟩, q⟩ := h
  walk_at "ws"
  refine w_isi hv okL ?_
  cases d <;> walk_at "ws" <;> first | exact q _ (Same.refl H) | skip
  rename_i ds
  have hds := hds ds rfl
  cases hv with
  | dp hv ok =>
    obtain ⟨a, vs, rfl, ha, hvs⟩ := hv.lst_inv
    have hlen := hvs.length
    refine ⟨a, vs, rfl, .inl ha, ?_⟩
    refine ite2 (fun h1 => ?_) fun h1 => ?_
    · refine ite2 (fun h2 => ?_) fun h2 => ?_
      · have e2 : ¬ ds.length ≤ 6 := by omega
        simpa only [zonesD, decide_eq_false e2, Bool.and_false, Bool.false_and] using q H (Same.refl H)
      · have e1 : 1 ≤ ds.length := by omega
        have e2 : ds.length ≤ 6 := by omega
        simp only [zonesD, decide_eq_true e1, decide_eq_true e2, Bool.true_and] at q
        refine ⟨a, rfl, ⟨vs, ha⟩, ?_⟩
        refine lcB ds (fun d => amongD d 1 6) ha hvs (by omega) (fun _ => rfl) (fun d x H3 e hm hx R r => ?_) fun D H' hD e hl => ?_
        · simp only [wipe]
          walk_at "ws"
          exact ⟨d, 1, 6, .dp (hx.up e) (hds d hm), rfl, rfl, r H3 (Same.refl H3)⟩
        · refine ⟨D, ds.map fun d => amongD d 1 6, rfl, SqL.of hl, ?_⟩
          walk_at "ws"
          rw [all_id_map]
          cases hall : ds.all fun d => amongD d 1 6 with
          | false =>
            rw [if_pos rfl]
            have q' := q H' e
            rw [hall] at q'
            exact q'
          | true =>
            rw [if_neg (by simp)]
            have eds := all_among_ints hall
            rw [eds] at hvs
            have evs := dpAll_ints_inv hvs
            rw [hall] at q
            refine ⟨a, vs, rfl, e.seq ha, ?_⟩
            intro l hl2
            have e2 : Same H' (upd H' l (.lst (cutV vs (some 1) none))) := Same.new hl2
            refine ⟨a, l, vs, _, rfl, e2.seq (e.seq ha), SqL.of upd_same, ?_⟩
            refine lcZ vs _ (fun x y => match x, y with | .int i, .int j => .bl (decide (i < j)) | _, _ => .bl false) (e2.seq (e.seq ha)) (SqL.of upd_same) (by omega) rfl (fun _ _ => rfl) (fun i x y H3 e3 hx hy R r => ?_) fun D2 H4 hD2 e4 hl4 => ?_
            · simp only [wipe]
              rw [evs, List.getElem?_map] at hx
              rw [tail_cut, evs, ← List.map_tail, List.getElem?_map] at hy
              obtain ⟨i1, _, rfl⟩ := Option.map_eq_some_iff.mp hx
              obtain ⟨i2, _, rfl⟩ := Option.map_eq_some_iff.mp hy
              walk_at "ws"
              exact r H3 (Same.refl H3)
            · refine ⟨D2, List.zipWith (fun a b => decide (a < b)) (ds.map intOf) (ds.map intOf).tail, rfl, SqL.of ?_, ?_⟩
              · rw [hl4, tail_cut, evs, ← List.map_tail, List.zipWith_map, List.map_zipWith]
              · have q' := q H4 ((e.trans e2).trans e4)
                rw [Bool.true_and] at q'
                exact q'
    · have e1 : ¬ 1 ≤ ds.length := by omega
      simpa only [zonesD, decide_eq_false e1, Bool.false_and] using q H (Same.refl H)
end
end K06
set_option maxHeartbeats 4000000
namespace K06
open PySem L2
local macro_rules | `(tactic| walk_at "ws") => `(tactic| try simp only [w_var0, w_varS, w_c, w_ret, w_retN, w_next, w_seq, w_asg, w_gn, w_drop, w_if, w_and, w_or, w_not, ex_bl, ex_int, ex_two, w_B, w_test, w_andV, w_orV, w_notV, w_ife, w_op, w_un, w_chain, w_nil, w_cons, w_cb, w_ca, w_lst, w_tup, w_I0, w_I, w_U, w_eqI, w_neI, w_eqS, w_neS,
  w_isN0, w_notN0, w_fld, w_sfld, w_me, w_ma, w_dget, w_din, w_dnotin, w_dput, w_slice, w_part, w_nopart, w_bm, w_bm0, w_par, w_lc, w_for, w_iList, w_iTup, w_iStr, w_iRng1, w_iZip, w_iEnum, w_tM1, w_dnewK, w_gtup, w_glst, w_gcons, w_gnil, w_gsub, cx_K, cx_K',
  L2.start, endsOf, List.map_cons, List.map_nil, List.length_cons, List.length_nil, List.cons_append, List.nil_append, Nat.zero_add, Nat.reduceAdd, Nat.reduceSub, List.replicate_succ, List.replicate_zero, List.set_cons_zero, List.set_cons_succ, List.set_nil,
  sp0_eq, sp1_eq, sp2_eq, sp3_eq, sp4_eq, sp5_eq, if_true, Bool.false_eq_true, if_false, decide_eq_true_eq, Bool.not_eq_true', decide_eq_false_iff_not, Bool.not_true, Bool.not_false, Bool.not_eq_false', isD_int_none, isD_int_bool, isD_int_int, isD_int_str, isD_int_list, isD_int_tuple, isD_int_dict, isD_bool_none, isD_bool_bool, isD_bool_int, isD_bool_str, isD_bool_list, isD_bool_tuple, isD_bool_dict, isD_str_none, isD_str_bool, isD_str_int, isD_str_str, isD_str_list, isD_str_tuple, isD_str_dict, isD_list_none, isD_list_bool, isD_list_int, isD_list_str, isD_list_list, isD_list_tuple, isD_list_dict, isD_tuple_none, isD_tuple_bool, isD_tuple_int, isD_tuple_str, isD_tuple_list, isD_tuple_tuple, isD_tuple_dict])
local macro_rules | `(tactic| walk_at "al") => `(tactic| (intro p hp; generalize hH : upd _ _ _ = H2; obtain ⟨e2, g2⟩ := alloc1 hp hH.symm; clear hH))
section
variable {P : Program} {w : World} {K : PySem.W.Frag} {mg : Str → Option Value} {base : Heap}
theorem letL_lt : ∀ c ∈ letL, c < 0x110000 := by decide +kernel
theorem shaped_name {x : Str} (h : isNameS x = true) : SeqAt.shaped (.str x) = true := shaped_str fun c hc => by
  have h2 := (Bool.and_eq_true_iff.mp h).2
  exact letL_lt c (of_decide_eq_true (List.all_eq_true.mp h2 c hc))
theorem name_len {x : Str} (h : isNameS x = true) : x.length ≤ 8 := by
  have h2 := (Bool.and_eq_true_iff.mp (Bool.and_eq_true_iff.mp h).1).2
  exact of_decide_eq_true h2
theorem okD_name {x : Str} (h : isNameS x = true) : okD (.str x) = true := Bool.and_eq_true_iff.mpr ⟨shaped_name h, decide_eq_true (Nat.le_trans (name_len h) (by decide))⟩
/-! ### a walk is put -/
abbrev Walk := Str × Str × Int
def walkD (w : Walk) : PyData := .tuple [.str w.1, .str w.2.1, .int w.2.2]
def pairD (w : Walk) : PyData := .tuple [.str w.1, .str w.2.1]
def hasPair (ws : List Walk) (a b : Str) : Bool := ws.any fun w => decide (w.1 = a) && decide (w.2.1 = b)
theorem eqv_pair {x y a b : Str} : PyData.eqv (.tuple [.str x, .str y]) (.tuple [.str a, .str b]) = (decide (x = a) && decide (y = b)) := by
  simp only [PyData.eqv, PyData.eqvAll, Bool.and_true]
  by_cases h1 : x = a <;> by_cases h2 : y = b <;> simp [h1, h2]
theorem any_pair (ws : List Walk) (a b : Str) : ((ws.map pairD).any fun z => PyData.eqv z (.tuple [.str a, .str b])) = hasPair ws a b := by
  unfold hasPair
  rw [List.any_map]
  congr 1
  funext w
  exact eqv_pair
theorem shaped_pair {a b : Str} (ha : isNameS a = true) (hb : isNameS b = true) : SeqAt.shaped (.tuple [.str a, .str b]) = true := shaped_tup (n := 0) (fun d hd => by
    simp at hd
    rcases hd with rfl | rfl
    · exact shaped_name ha
    · exact shaped_name hb) fun d hd => by
    simp at hd
    rcases hd with rfl | rfl <;> simp [PyData.depth]
theorem pair_depth (w : Walk) : (pairD w).depth ≤ 1 := by simp [pairD, PyData.depth, PyData.depthAll]
theorem shaped_pairs {ws : List Walk} (h : ∀ w ∈ ws, isNameS w.1 = true ∧ isNameS w.2.1 = true) : SeqAt.shaped (.list (ws.map pairD)) = true := shaped_list (n := 1) (fun d hd => by
    obtain ⟨w, hw, rfl⟩ := List.mem_map.mp hd
    exact shaped_pair (h w hw).1 (h w hw).2) fun d hd => by
    obtain ⟨w, hw, rfl⟩ := List.mem_map.mp hd
    exact pair_depth w
def walkOut (d1 d2 d3 : PyData) (kvs : List (Key × V)) (ws : List Walk) : Option Str :=
  if inD d1 kvs = true then (if inD d2 kvs = true then (match d1, d2 with
    | .str a, .str b => if a = b ∨ hasPair ws a b = true ∨ hasPair ws b a = true then some ("Twice" : Str) else if amongD d3 1 60 = true then (if 12 ≤ ws.length then some ("TooMany" : Str) else none) else some ("BadNumber" : Str)
    | _, _ => none) else some ("NoStop" : Str)) else some ("NoStop" : Str)
def p_Net_add_walk (K : PySem.W.Frag) : P4 := fun v a b c H Q E => ∃ p N d1 d2 d3 kvs vs ws, v = .ref p ∧ IsNet K H p N ∧ Av K H a d1 ∧ Av K H b d2 ∧ Av K H c d3 ∧ H N.a = some (.dK kvs) ∧ H N.b = some (.lst vs) ∧ DpAll K H vs (ws.map walkD) ∧ ws.length ≤ 12 ∧
  (∀ w ∈ ws, isNameS w.1 = true ∧ isNameS w.2.1 = true) ∧ (∀ x, walkOut d1 d2 d3 kvs ws = some x → ∀ H', Same H H' → E (.ref (He.ga K x)) none H') ∧
  (walkOut d1 d2 d3 kvs ws = none → ∀ x y m t H', d1 = .str x → d2 = .str y → d3 = .int m → isNameS x = true → isNameS y = true → H t = none → SameB N.b H H' → H' N.b = some (.lst (vs ++ [.ref t])) → H' t = some (.tup [.str x, .str y, .int m]) → Q .non H')
theorem ok_Net_add_walk (T : Tx K mg) : Met (L2.CX P w) P w K mg base 3 (He.ga K "Net") "add_walk" (sp4 (p_Net_add_walk K)) := by
  refine met_of T.cl_Net T.m_Net_add_walk T.d_Net_add_walk (fun _ _ _ _ _ _ => bind4 fun _ _ _ _ => rfl) sc_Net_add_walk len4 fun vs H Q E ⟨v, a, b, c, e, h⟩ cdv A outer s hr => ?_
  subst e
  have hu := hu_of hr
  have hu65 : (A.deeper (PyProof.Rows.envOfC "Net.add_walk" (defScope s_Net_add_walk) s.heap.objs.size (He.ma K (He.ga K "Net") "add_walk") cdv)).units + 65 < cLine := by
    have := hr.un
    omega
  refine ⟨_, (pss_cons (ps_expr (pe_me (ok_Net_need_stop T) hr (by decide) (passes_call (takes_of rfl rfl rfl rfl) (fun _ _ _ _ h => h)) (pv 0) (pa_cons (pv 1) pa_nil)))
    (pss_cons (ps_expr (pe_me (ok_Net_need_stop T) hr (by decide) (passes_call (takes_of rfl rfl rfl rfl) (fun _ _ _ _ h => h)) (pv 0) (pa_cons (pv 2) pa_nil)))
    (pss_cons (ps_setLc (i := 4) (own := [("path", 5)]) rfl sc_Net_add_walk.nd rfl rfl (sw_true rfl rfl rfl (by decide +kernel)) (pi_list (pe_fld (pv 0) rfl)) (blkOk_by (own := [("path", 5)]) (N := ["self", "one", "other", "minutes", "pairs", "path"]) (sc := defScope s_Net_add_walk) (by decide +kernel)) (fun _ _ _ _ _ => pg_name (i := 5) sc_Net_add_walk.nd rfl (Or.inl rfl)) (fun _ _ _ _ _ => pts_nil) (fun _ _ _ _ _ => (pe_slice (slT K) (pv 5) po_none (po_some pe_int))))
    (pss_cons (ps_if (PW.pt (pw_or (pt_cmpR op_eq (pv 1) (pv 2) (nomark _)) (pw_or (pt_cmpR (op_inD hu65) (pe_tup (pa_cons (pv 1) (pa_cons (pv 2) pa_nil))) (pv 4) rfl) (pw_or1 (pt_cmpR (op_inD hu65) (pe_tup (pa_cons (pv 2) (pa_cons (pv 1) pa_nil))) (pv 4) rfl))))) (pss_one (ps_raise rfl (takes_of rfl rfl rfl rfl) (pmk_own PySem.F.excBase_ValueError T.x_Twice T.g_Twice T.k_Twice (raises_own T.b_Twice T.t_Twice) rfl))) pss_nil)
    (pss_cons (ps_expr (pe_ca (ok_need_among T) hr (by decide) rfl (passes_call (takes_of rfl rfl rfl rfl) (fun _ _ _ _ h => h)) (pa_cons (pv 3) (pa_cons pe_int (pa_cons pe_int pa_nil)))))
    (pss_cons (ps_expr (pe_ca (ok_need_room T) hr (by decide) rfl (passes_call (takes_of rfl rfl rfl rfl) (fun _ _ _ _ h => h)) (pa_cons (pe_fld (pv 0) rfl) (pa_cons (C8.pe_gc rfl T.c_MOST_WALKS) pa_nil))))
    (pss_one (ps_expr (pe_bm PySem.F.plainAttrs_list PySem.F.slot_list_append PySem.F.type_list_append mt_append (pe_fld (pv 0) rfl) (pa_cons (pe_tup (pa_cons (pv 1) (pa_cons (pv 2) (pa_cons (pv 3) pa_nil)))) pa_nil)))))))))), ?_⟩
  obtain ⟨p, N, d1, d2, d3, kvs, vs, ws, rfl, hn, h1, h2, h3, ha, hb, hvs, hlen, hws, q1, q2⟩ := h
  unfold walkOut at q1 q2
  walk_at "ws"
  refine f_meth hn (fun _ => by rfl) ?_
  walk_at "ws"
  refine ⟨p, N, d1, kvs, rfl, hn, h1, ha, fun H1 e1 => out_of (fun x hx => ?_) fun hx => ?_⟩
  · cases hd : inD d1 kvs with
    | true => rw [hd] at hx; cases hx
    | false =>
      rw [hd] at hx q1
      cases hx
      exact q1 _ rfl H1 e1
  have hd1 : inD d1 kvs = true := by
    cases hd : inD d1 kvs with
    | true => rfl
    | false => rw [hd] at hx; cases hx
  rw [hd1] at q1 q2
  walk_at "ws"
  refine f_meth (hn.up e1) (fun _ => by rfl) ?_
  walk_at "ws"
  refine ⟨p, N, d2, kvs, rfl, hn.up e1, h2.up e1, e1 _ _ ha, fun H2 e2 => out_of (fun x hx => ?_) fun hx => ?_⟩
  · cases hd : inD d2 kvs with
    | true => rw [hd] at hx; cases hx
    | false =>
      rw [hd] at hx q1
      cases hx
      exact q1 _ rfl H2 (e1.trans e2)
  have hd2 : inD d2 kvs = true := by
    cases hd : inD d2 kvs with
    | true => rfl
    | false => rw [hd] at hx; cases hx
  rw [hd2] at q1 q2
  obtain ⟨x, _, rfl, hxn, _⟩ := inD_yes hd1
  obtain ⟨y, _, rfl, hyn, _⟩ := inD_yes hd2
  have e12 := e1.trans e2
  walk_at "ws"
  refine f_paths T (hn.up e12) ?_
  refine ⟨N.b, rfl, ⟨vs, SqL.of (e12 _ _ hb)⟩, ?_⟩
  refine lcD (ws.map walkD) (fun _ => true) (fun d y H => ∀ w, d = walkD w → Dp K H y (pairD w)) (SqL.of (e12 _ _ hb)) (hvs.up e12) (by simp; omega) (fun _ => rfl) (fun a y H H' e h w hw => (h w hw).up e) (fun d x H _ _ _ R r => r H (Same.refl H)) (fun d x0 D H3 acc e hm hx _ hD hacc R r => ?_) fun D ys H3 hD e3 hl hp => ?_
  · simp only [wipe]
    walk_at "ws"
    obtain ⟨w0, hw0, rfl⟩ := List.mem_map.mp hm
    obtain ⟨t, ts, rfl, ht, hts⟩ := (hx.up e).tup_inv
    have ets : ts = [V.str w0.1, V.str w0.2.1, V.int w0.2.2] := by
      cases hts with
      | cons a1 hts => cases hts with
        | cons a2 hts => cases hts with
          | cons a3 hts =>
            cases hts
            rw [a1.str_inv, a2.str_inv, a3.int_inv]
    subst ets
    refine ⟨t, _, rfl, ht, by show ¬ (HT.sIx 3 0 none = 0 ∧ HT.sIx 3 3 (some 2) = 3); decide, ?_⟩
    walk_at "al"
    rename_i q hq H4 e4 g4
    refine r _ H4 e4 fun w hw => ?_
    have ew : w0.1 = w.1 ∧ w0.2.1 = w.2.1 := by
      unfold walkD at hw
      simp at hw
      exact ⟨hw.1, hw.2.1⟩
    have nD : q ≠ D := (ne_of_none hacc hq).symm
    refine Dp.newT (cut_get nD g4) ?_
    show DpAll K _ [V.str w0.1, V.str w0.2.1] _
    rw [ew.1, ew.2]
    exact .cons (.str _) (.cons (.str _) .nil)
  have hys : DpAll K H3 ys (ws.map pairD) := by
    rw [List.filter_eq_self.mpr (fun _ _ => rfl)] at hp
    have hp2 : Paired (fun w y => Dp K H3 y (pairD w)) ws ys := paired_pull (L2.Paired.mapP hp fun d y h w hw => (h w hw).up cut_same)
    exact paired_dp hp2
  have e13 := e12.trans e3
  have tw : (x = y ∨ hasPair ws x y = true ∨ hasPair ws y x = true) → ∀ H', Same H H' → E (Value.ref (He.ga K "Twice")) none H' := fun h => q1 _ (by rw [if_pos rfl, if_pos rfl]; exact if_pos h)
  have lD : Dp K H3 (.ref D) (.list (ws.map pairD)) := .lst (SqL.of hl) hys
  have sP := shaped_pairs hws
  walk_at "ws"
  rw [Av_str h1, Av_str h2]
  walk_at "ws"
  refine ite2 (fun c1 => tw (.inl c1) _ e13) fun c1 => ?_
  refine ⟨by decide, ?_⟩
  walk_at "al"
  rename_i t1 ht1 H4 e4 g4
  refine ⟨_, _, Dp.newT g4 (.cons (.str x) (.cons (.str y) .nil)), lD.up e4, shaped_pair hxn hyn, sP, ?_⟩
  rw [any_pair]
  walk_at "ws"
  refine ite2 (fun c2 => tw (.inr (.inl c2)) _ (e13.trans e4)) fun c2 => ?_
  refine ⟨by decide, ?_⟩
  walk_at "al"
  rename_i t2 ht2 H5 e5 g5
  refine ⟨_, _, Dp.newT g5 (.cons (.str y) (.cons (.str x) .nil)), (lD.up e4).up e5, shaped_pair hyn hxn, sP, ?_⟩
  rw [any_pair]
  walk_at "ws"
  have e15 := (e13.trans e4).trans e5
  refine ite2 (fun c3 => tw (.inr (.inr c3)) _ e15) fun c3 => ?_
  have cc : ¬ (x = y ∨ hasPair ws x y = true ∨ hasPair ws y x = true) := fun h => h.elim c1 fun h => h.elim c2 c3
  rw [if_pos rfl, if_pos rfl] at q2
  have q1' : ∀ z, (if amongD d3 1 60 = true then if 12 ≤ ws.length then some ("TooMany" : Str) else none else some ("BadNumber" : Str)) = some z → ∀ H', Same H H' → E (.ref (He.ga K z)) none H' := fun z hz => q1 z (by rw [if_pos rfl, if_pos rfl]; exact (if_neg cc).trans hz)
  have q2' := q2 ∘ (if_neg cc).trans
  clear q1 q2
  refine ⟨d3, 1, 60, h3.up e15, rfl, rfl, out_of (fun z hz => ?_) fun hz => ?_⟩
  · cases hd : amongD d3 1 60 with
    | true => rw [hd] at hz; cases hz
    | false =>
      rw [hd] at hz q1'
      cases hz
      exact q1' _ rfl _ e15
  have hd3 : amongD d3 1 60 = true := by
    cases hd : amongD d3 1 60 with
    | true => rfl
    | false => rw [hd] at hz; cases hz
  rw [hd3, if_pos rfl] at q1' q2'
  obtain ⟨m, rfl, _, _⟩ := among_int hd3
  walk_at "ws"
  refine f_paths T (hn.up e15) ?_
  walk_at "ws"
  have hvl : vs.length = ws.length := by simpa using hvs.length
  refine ⟨N.b, vs.length, 12, rfl, rfl, .inr ⟨vs, SqL.of (e15 _ _ hb), rfl⟩, out_of (fun z hz => ?_) fun hz => ?_⟩
  · have h12 : 12 ≤ ws.length := by
      by_cases h8 : (12 : Int) ≤ (vs.length : Int)
      · omega
      · rw [if_neg h8] at hz; cases hz
    rw [if_pos (by omega)] at hz
    cases hz
    exact q1' _ (if_pos h12) _ e15
  have h12 : ¬ 12 ≤ ws.length := fun h8 => by
    rw [if_pos (by omega)] at hz
    cases hz
  walk_at "ws"
  refine f_paths T (hn.up e15) ?_
  refine ⟨.inl ⟨rfl, vs, SqL.of (e15 _ _ hb)⟩, by decide, ?_⟩
  rw [Av_int h3]
  walk_at "al"
  rename_i t ht H6 e6 g6
  have e16 := e15.trans e6
  refine ⟨N.b, vs, _, rfl, rfl, e16 _ _ hb, Nat.lt_of_le_of_lt (show vs.length ≤ 12 by omega) (by decide), ?_⟩
  have nbt : N.b ≠ t := ne_of_none (e15 _ _ hb) ht
  exact q2' (if_neg h12) x y m t _ rfl rfl rfl hxn hyn (e15.free ht) (sameB_of e16) upd_same (by rw [upd_ne nbt.symm]; exact g6)
end
end K06
set_option maxHeartbeats 4000000
namespace K06
open PySem L2
local macro_rules | `(tactic| walk_at "ws") => `(tactic| try simp only [w_var0, w_varS, w_c, w_ret, w_retN, w_next, w_seq, w_asg, w_gn, w_drop, w_if, w_and, w_or, w_not, ex_bl, ex_int, ex_two, w_B, w_test, w_andV, w_orV, w_notV, w_ife, w_op, w_un, w_chain, w_nil, w_cons, w_cb, w_ca, w_lst, w_tup, w_I0, w_I, w_U, w_eqI, w_neI, w_eqS, w_neS,
  w_isN0, w_notN0, w_fld, w_sfld, w_me, w_ma, w_dget, w_din, w_dnotin, w_dput, w_slice, w_part, w_nopart, w_bm, w_bm0, w_par, w_lc, w_for, w_iList, w_iTup, w_iStr, w_iRng1, w_iZip, w_iEnum, w_tM1, w_dnewK, w_gtup, w_glst, w_gcons, w_gnil, w_gsub, cx_K, cx_K',
  L2.start, endsOf, List.map_cons, List.map_nil, List.length_cons, List.length_nil, List.cons_append, List.nil_append, Nat.zero_add, Nat.reduceAdd, Nat.reduceSub, List.replicate_succ, List.replicate_zero, List.set_cons_zero, List.set_cons_succ, List.set_nil,
  sp0_eq, sp1_eq, sp2_eq, sp3_eq, sp4_eq, sp5_eq, if_true, Bool.false_eq_true, if_false, decide_eq_true_eq, Bool.not_eq_true', decide_eq_false_iff_not, Bool.not_true, Bool.not_false, Bool.not_eq_false', isD_int_none, isD_int_bool, isD_int_int, isD_int_str, isD_int_list, isD_int_tuple, isD_int_dict, isD_bool_none, isD_bool_bool, isD_bool_int, isD_bool_str, isD_bool_list, isD_bool_tuple, isD_bool_dict, isD_str_none, isD_str_bool, isD_str_int, isD_str_str, isD_str_list, isD_str_tuple, isD_str_dict, isD_list_none, isD_list_bool, isD_list_int, isD_list_str, isD_list_list, isD_list_tuple, isD_list_dict, isD_tuple_none, isD_tuple_bool, isD_tuple_int, isD_tuple_str, isD_tuple_list, isD_tuple_tuple, isD_tuple_dict])
local macro_rules | `(tactic| walk_at "al") => `(tactic| (intro p hp; generalize hH : upd _ _ _ = H2; obtain ⟨e2, g2⟩ := alloc1 hp hH.symm; clear hH))
section
variable {P : Program} {w : World} {K : PySem.W.Frag} {mg : Str → Option Value} {base : Heap}
/-! ### isinstance(x, Rule) -/
theorem eb_parts (T : Tx K mg) : (PySem.W.makesIn K (He.ga K "Rule") = true ∧ PySem.W.findIn K (.ref (He.ga K "Rule")) "__init__" = some (some (.builtin "object.__init__")) ∧ PySem.W.keepIn K (.ref (He.ga K "Rule")) = true) ∧
    (∀ x ∈ ownNames, insB K x = true) ∧ (∀ x ∈ ruleNames, kitB2 K (.ref (He.ga K x)) "Rule" true = true) ∧ (∀ t ∈ typNames, kitB2 K (.type t) "Rule" false = true) ∧
    (∀ x ∈ raisedNames, excCB K x = true) ∧ (∀ x ∈ raisedNames, ∀ y ∈ excNames, kitB2 K (.ref (He.ga K x)) y (decide (x = y)) = true) ∧ (∀ x ∈ raisedNames, PySem.W.kitOne K (.ref (He.ga K x)) (.type "ValueError") = some true) ∧
    (∀ x ∈ underNames, He.ma K (He.ga K x) "weight" = He.ma K (He.ga K "Rule") "weight" ∧ He.ma K (He.ga K x) "depth" = He.ma K (He.ga K "Rule") "depth") ∧ (∀ x ∈ bareNames, He.ma K (He.ga K x) "parts" = He.ma K (He.ga K "Rule") "parts") ∧ (He.cT K ("_law_put", none)).2 ≠ (He.cT K ("_law_not_there", none)).2 := by
  have h := T.eb
  unfold exB at h
  simp only [Bool.and_eq_true, List.all_eq_true, decide_eq_true_eq] at h
  obtain ⟨⟨⟨⟨⟨⟨⟨⟨⟨⟨⟨a, b⟩, c⟩, d⟩, e⟩, f⟩, g⟩, i⟩, j⟩, k⟩, l⟩, m⟩ := h
  exact ⟨⟨a, b, c⟩, d, e, f, g, i, j, k, l, m⟩
theorem ins_parts {x : Str} (h : insB K x = true) : PySem.W.findIn K (.ref (He.ga K x)) "__class__" = some (some (.builtin "object.__class__")) ∧ PySem.W.specialIn K (.builtin "object.__class__") "__get__" = some (some (.builtin "getset_descriptor.__get__")) ∧
    PySem.W.takesIn K (.builtin "object.__class__") = some true ∧ PySem.W.mroIn K (He.ga K x) (.type "object") = some true := by
  unfold insB at h
  simp only [Bool.and_eq_true, decide_eq_true_eq] at h
  obtain ⟨⟨⟨a, b⟩, c⟩, d⟩ := h
  exact ⟨a, b, c, d⟩
theorem rule_cls (T : Tx K mg) : ∀ x ∈ ruleNames, Cls K (He.ga K x) := by
  intro x hx
  simp only [ruleNames, List.mem_cons, List.not_mem_nil, or_false] at hx
  rcases hx with rfl | rfl | rfl | rfl | rfl | rfl | rfl
  · exact T.cl_Rule
  · exact T.cl_Week
  · exact T.cl_Span
  · exact T.cl_Each
  · exact T.cl_Either
  · exact T.cl_Both
  · exact T.cl_But
theorem rule_own : ∀ x ∈ ruleNames, x ∈ ownNames := by decide +kernel
/-- v is an instance of a class of rules -/
def IsRule (K : PySem.W.Frag) (H : Hp) (v : V) : Prop := ∃ a x dx fs, v = .ref a ∧ x ∈ ruleNames ∧ H a = some (.ins (He.ga K x) dx fs)
theorem IsRule.up {H H' : Hp} {v : V} (h : IsRule K H v) (e : Same H H') : IsRule K H' v := by
  obtain ⟨a, x, dx, fs, h1, h2, h3⟩ := h
  exact ⟨a, x, dx, fs, h1, h2, e _ _ h3⟩
theorem w_isRule (T : Tx K mg) {H : Hp} {v : V} {Q : VK} (h : IsRule K H v) (q : Q (.bl true) H) : rIsi K [v, .ref (He.ga K "Rule")] H Q := by
  obtain ⟨a, x, dx, fs, rfl, hx, ha⟩ := h
  obtain ⟨_, i, k, _⟩ := eb_parts T
  obtain ⟨i1, i2, i3, i4⟩ := ins_parts (i x (rule_own x hx))
  exact ⟨_, _, _, _, true, rfl, .own _, .base (.ins ha (rule_cls T x hx) i1 i2 i3 i4), of_decide_eq_true (k x hx), q⟩
theorem w_noRule (T : Tx K mg) {H : Hp} {v : V} {d : PyData} {Q : VK} (h : Av K H v d) (q : Q (.bl false) H) : rIsi K [v, .ref (He.ga K "Rule")] H Q := by
  obtain ⟨_, _, _, k, _⟩ := eb_parts T
  exact ⟨_, _, _, _, false, rfl, .own _, h.ty, of_decide_eq_true (k _ (tyN_mem d)), q⟩
/-! ### a rule is put -/
def ruleOut (d1 : PyData) (isr : Bool) (kvs : List (Key × V)) : Option Str := match freshD d1 kvs with
  | some e => some e
  | none => if isr = true then (if 6 ≤ kvs.length then some ("TooMany" : Str) else none) else some ("BadRule" : Str)
def p_Net_add_rule (K : PySem.W.Frag) : P3 := fun v a b H Q E => ∃ p N d1 isr kvs, v = .ref p ∧ IsNet K H p N ∧ Av K H a d1 ∧ (isr = true → IsRule K H b) ∧ (isr = false → ∃ d2, Av K H b d2) ∧ H N.c = some (.dK kvs) ∧ kvs.length ≤ 6 ∧
  (∀ x, ruleOut d1 isr kvs = some x → ∀ H', Same H H' → E (.ref (He.ga K x)) none H') ∧
  (ruleOut d1 isr kvs = none → ∀ x H', d1 = .str x → isr = true → SameB N.c H H' → H' N.c = some (.dK (putK kvs (.inr x) b)) → Q .non H')
theorem ok_Net_add_rule (T : Tx K mg) : Met (L2.CX P w) P w K mg base 3 (He.ga K "Net") "add_rule" (sp3 (p_Net_add_rule K)) := by
  refine met_of T.cl_Net T.m_Net_add_rule T.d_Net_add_rule (fun _ _ _ _ _ _ => bind3 fun _ _ _ => rfl) sc_Net_add_rule len3 fun vs H Q E ⟨v, a, b, e, h⟩ cdv A outer s hr => ?_
  subst e
  have hu := hu_of hr
  refine ⟨_, (pss_cons (ps_expr (pe_ca (ok_need_fresh T) hr (by decide) rfl (passes_call (takes_of rfl rfl rfl rfl) (fun _ _ _ _ h => h)) (pa_cons (pv 1) (pa_cons (pe_fld (pv 0) rfl) pa_nil))))
    (pss_cons (ps_if (pt_not (pt_val (pe_callB call_isi rfl T.f_isinstance (by decide +kernel) (pa_cons (pv 2) (pa_cons (C8.pe_gc (v := .ref (He.ga K "Rule")) rfl ⟨_, T.g_Rule, rfl⟩) pa_nil))))) (pss_one (ps_raise rfl (takes_of rfl rfl rfl rfl) (pmk_own PySem.F.excBase_ValueError T.x_BadRule T.g_BadRule T.k_BadRule (raises_own T.b_BadRule T.t_BadRule) rfl))) pss_nil)
    (pss_cons (ps_expr (pe_ca (ok_need_room T) hr (by decide) rfl (passes_call (takes_of rfl rfl rfl rfl) (fun _ _ _ _ h => h)) (pa_cons (pe_fld (pv 0) rfl) (pa_cons (C8.pe_gc rfl T.c_MOST_RULES) pa_nil))))
    (pss_one (ps_dput hu (pe_fld (pv 0) rfl) (pv 1) (pv 2) rfl))))), ?_⟩
  obtain ⟨p, N, d1, isr, kvs, rfl, hn, h1, hy, hno, ha, hlen, q1, q2⟩ := h
  unfold ruleOut at q1 q2
  walk_at "ws"
  refine f_habits T hn ?_
  walk_at "ws"
  refine ⟨d1, N.c, kvs, h1, rfl, ha, fun H1 e1 => out_of (fun x hx => ?_) fun hx => ?_⟩
  · rw [hx] at q1
    exact q1 x rfl H1 e1
  rw [hx] at q1 q2
  obtain ⟨x, rfl, hxn, hxv⟩ := freshD_none hx
  walk_at "ws"
  cases isr with
  | false =>
    obtain ⟨d2, h2⟩ := hno rfl
    refine w_noRule T (h2.up e1) ?_
    walk_at "ws"
    exact q1 _ rfl H1 e1
  | true =>
    refine w_isRule T ((hy rfl).up e1) ?_
    walk_at "ws"
    refine f_habits T (hn.up e1) ?_
    walk_at "ws"
    refine ⟨N.c, kvs.length, 6, rfl, rfl, .inl ⟨kvs, e1 _ _ ha, rfl⟩, out_of (fun y hy => ?_) fun hy => ?_⟩
    · have h8 : 6 ≤ kvs.length := by
        by_cases h8 : (6 : Int) ≤ (kvs.length : Int)
        · omega
        · rw [if_neg h8] at hy; cases hy
      rw [if_pos (by omega)] at hy
      cases hy
      exact q1 _ ((if_pos rfl).trans (if_pos h8)) H1 e1
    have h8 : ¬ 6 ≤ kvs.length := fun h8 => by
      rw [if_pos (by omega)] at hy
      cases hy
    walk_at "ws"
    rw [Av_str h1]
    refine f_habits T (hn.up e1) ?_
    refine ⟨N.c, _, rfl, DPut.k (k := Sum.inr x) (e1 _ _ ha) (Nat.lt_of_le_of_lt hlen (by decide)), ?_⟩
    exact q2 ((if_pos rfl).trans (if_neg h8)) x _ rfl rfl (sameB_of e1) upd_same
/-! ### a ticket is put -/
def ticketOut (d1 d2 d3 d4 : PyData) (kvs : List (Key × V)) : Option Str := match freshD d1 kvs with
  | some e => some e
  | none => if amongD d2 0 10000 = true then (if amongD d3 1 1440 = true then (if zonesD d4 = true then (if 3 ≤ kvs.length then some ("TooMany" : Str) else none) else some ("BadNumber" : Str)) else some ("BadNumber" : Str)) else some ("BadNumber" : Str)
theorem zonesD_list {d : PyData} (h : zonesD d = true) : ∃ ns : List Int, d = .list (ns.map PyData.int) ∧ ns.length ≤ 6 := by
  cases d <;> first | (exfalso; simp [zonesD] at h; done) | skip
  rename_i ds
  simp only [zonesD, Bool.and_eq_true, decide_eq_true_eq] at h
  exact ⟨ds.map intOf, by rw [← all_among_ints h.2.1], by simpa using h.1.2⟩
def p_Net_add_ticket (K : PySem.W.Frag) : P5 := fun v a b c z H Q E => ∃ p N d1 d2 d3 d4 kvs, v = .ref p ∧ IsNet K H p N ∧ Av K H a d1 ∧ Av K H b d2 ∧ Av K H c d3 ∧ AvL K H z d4 ∧ H N.d = some (.dK kvs) ∧ kvs.length ≤ 3 ∧
  (∀ x, ticketOut d1 d2 d3 d4 kvs = some x → ∀ H', Same H H' → E (.ref (He.ga K x)) none H') ∧
  (ticketOut d1 d2 d3 d4 kvs = none → ∀ x i j (ns : List Int) t u H', d1 = .str x → d2 = .int i → d3 = .int j → d4 = .list (ns.map PyData.int) → H t = none → H u = none → SameB N.d H H' → H' N.d = some (.dK (putK kvs (.inr x) (.ref t))) → H' t = some (.tup [.int i, .int j, .ref u]) →
    H' u = some (.tup (ns.map V.int)) → Q .non H')
theorem ok_Net_add_ticket (T : Tx K mg) : Met (L2.CX P w) P w K mg base 3 (He.ga K "Net") "add_ticket" (sp5 (p_Net_add_ticket K)) := by
  refine met_of T.cl_Net T.m_Net_add_ticket T.d_Net_add_ticket (fun _ _ _ _ _ _ => bind5 fun _ _ _ _ _ => rfl) sc_Net_add_ticket len5 fun vs H Q E ⟨v, a, b, c, z, e, h⟩ cdv A outer s hr => ?_
  subst e
  have hu := hu_of hr
  refine ⟨_, (pss_cons (ps_expr (pe_ca (ok_need_fresh T) hr (by decide) rfl (passes_call (takes_of rfl rfl rfl rfl) (fun _ _ _ _ h => h)) (pa_cons (pv 1) (pa_cons (pe_fld (pv 0) rfl) pa_nil))))
    (pss_cons (ps_expr (pe_ca (ok_need_among T) hr (by decide) rfl (passes_call (takes_of rfl rfl rfl rfl) (fun _ _ _ _ h => h)) (pa_cons (pv 2) (pa_cons pe_int (pa_cons pe_int pa_nil)))))
    (pss_cons (ps_expr (pe_ca (ok_need_among T) hr (by decide) rfl (passes_call (takes_of rfl rfl rfl rfl) (fun _ _ _ _ h => h)) (pa_cons (pv 3) (pa_cons pe_int (pa_cons pe_int pa_nil)))))
    (pss_cons (ps_if (pt_not (pt_val (pe_ca (ok_are_zones T) hr (by decide) rfl pass0 (pa_cons (pv 4) pa_nil)))) (pss_one (ps_raise rfl (takes_of rfl rfl rfl rfl) (pmk_own PySem.F.excBase_ValueError T.x_BadNumber T.g_BadNumber T.k_BadNumber (raises_own T.b_BadNumber T.t_BadNumber) rfl))) pss_nil)
    (pss_cons (ps_expr (pe_ca (ok_need_room T) hr (by decide) rfl (passes_call (takes_of rfl rfl rfl rfl) (fun _ _ _ _ h => h)) (pa_cons (pe_fld (pv 0) rfl) (pa_cons (C8.pe_gc rfl T.c_MOST_TICKETS) pa_nil))))
    (pss_one (ps_dput hu (pe_fld (pv 0) rfl) (pv 1) (pe_tup (pa_cons (pv 2) (pa_cons (pv 3) (pa_cons (pe_callTy call_tuple_of rfl T.f_tuple (by decide +kernel) (pa_cons (pv 4) pa_nil)) pa_nil)))) rfl))))))), ?_⟩
  obtain ⟨p, N, d1, d2, d3, d4, kvs, rfl, hn, h1, h2, h3, h4, ha, hlen, q1, q2⟩ := h
  unfold ticketOut at q1 q2
  walk_at "ws"
  refine f_passes T hn ?_
  walk_at "ws"
  refine ⟨d1, N.d, kvs, h1, rfl, ha, fun H1 e1 => out_of (fun x hx => ?_) fun hx => ?_⟩
  · rw [hx] at q1
    exact q1 x rfl H1 e1
  rw [hx] at q1 q2
  obtain ⟨x, rfl, hxn, hxv⟩ := freshD_none hx
  walk_at "ws"
  refine ⟨d2, 0, 10000, h2.up e1, rfl, rfl, out_of (fun y hy => ?_) fun hy => ?_⟩
  · cases hd : amongD d2 0 10000 with
    | true => rw [hd] at hy; cases hy
    | false =>
      rw [hd] at hy q1
      cases hy
      exact q1 _ rfl H1 e1
  have hd2 : amongD d2 0 10000 = true := by
    cases hd : amongD d2 0 10000 with
    | true => rfl
    | false => rw [hd] at hy; cases hy
  rw [hd2] at q1 q2
  obtain ⟨i, rfl, _, _⟩ := among_int hd2
  walk_at "ws"
  refine ⟨d3, 1, 1440, h3.up e1, rfl, rfl, out_of (fun y hy => ?_) fun hy => ?_⟩
  · cases hd : amongD d3 1 1440 with
    | true => rw [hd] at hy; cases hy
    | false =>
      rw [hd] at hy q1
      cases hy
      exact q1 _ rfl H1 e1
  have hd3 : amongD d3 1 1440 = true := by
    cases hd : amongD d3 1 1440 with
    | true => rfl
    | false => rw [hd] at hy; cases hy
  rw [hd3] at q1 q2
  obtain ⟨j, rfl, _, _⟩ := among_int hd3
  walk_at "ws"
  refine ⟨d4, ⟨h4.1.up e1, h4.2⟩, fun H2 e2 => ?_⟩
  have e12 := e1.trans e2
  walk_at "ws"
  cases hd4 : zonesD d4 with
  | false =>
    rw [hd4] at q1
    exact q1 _ rfl H2 e12
  | true =>
    rw [hd4] at q1 q2
    obtain ⟨ns, rfl, hnl⟩ := zonesD_list hd4
    rw [if_neg (by simp)]
    refine f_passes T (hn.up e12) ?_
    walk_at "ws"
    refine ⟨N.d, kvs.length, 3, rfl, rfl, .inl ⟨kvs, e12 _ _ ha, rfl⟩, out_of (fun y hy => ?_) fun hy => ?_⟩
    · have h8 : 3 ≤ kvs.length := by
        by_cases h8 : (3 : Int) ≤ (kvs.length : Int)
        · omega
        · rw [if_neg h8] at hy; cases hy
      rw [if_pos (by omega)] at hy
      cases hy
      exact q1 _ (if_pos h8) H2 e12
    have h8 : ¬ 3 ≤ kvs.length := fun h8 => by
      rw [if_pos (by omega)] at hy
      cases hy
    walk_at "ws"
    rw [Av_int h2, Av_int h3, Av_str h1]
    cases h4.1 with
    | dp h4' _ =>
      obtain ⟨za, zs, rfl, hza, hzs⟩ := h4'.lst_inv
      rw [dpAll_ints_inv hzs] at hza
      refine ⟨za, _, rfl, .inl ⟨e12.seq hza, ?_⟩⟩
      walk_at "al"
      rename_i u hu2 H3 e3 g3
      refine ⟨by decide, ?_⟩
      walk_at "al"
      rename_i t ht H4 e4 g4
      have e14 := (e12.trans e3).trans e4
      refine f_passes T (hn.up e14) ?_
      refine ⟨N.d, _, rfl, DPut.k (k := Sum.inr x) (e14 _ _ ha) (Nat.lt_of_le_of_lt hlen (by decide)), ?_⟩
      have nt : N.d ≠ t := ne_of_none (e3 _ _ (e12 _ _ ha)) ht
      have nu : N.d ≠ u := ne_of_none (e12 _ _ ha) hu2
      exact q2 (if_neg h8) x i j ns t u _ rfl rfl rfl rfl ((e12.trans e3).free ht) (e12.free hu2) (sameB_of e14) upd_same (by rw [upd_ne nt.symm]; exact g4) (by rw [upd_ne nu.symm]; exact e4 _ _ g3)
end
end K06
set_option maxHeartbeats 4000000
namespace K06
open PySem L2
local macro_rules | `(tactic| walk_at "ws") => `(tactic| try simp only [w_var0, w_varS, w_c, w_ret, w_retN, w_next, w_seq, w_asg, w_gn, w_drop, w_if, w_and, w_or, w_not, ex_bl, ex_int, ex_two, w_B, w_test, w_andV, w_orV, w_notV, w_ife, w_op, w_un, w_chain, w_nil, w_cons, w_cb, w_ca, w_lst, w_tup, w_I0, w_I, w_U, w_eqI, w_neI, w_eqS, w_neS,
  w_isN0, w_notN0, w_fld, w_sfld, w_me, w_ma, w_dget, w_din, w_dnotin, w_dput, w_slice, w_part, w_nopart, w_bm, w_bm0, w_par, w_lc, w_for, w_iList, w_iTup, w_iStr, w_iRng1, w_iZip, w_iEnum, w_tM1, w_dnewK, w_gtup, w_glst, w_gcons, w_gnil, w_gsub, cx_K, cx_K',
  L2.start, endsOf, List.map_cons, List.map_nil, List.length_cons, List.length_nil, List.cons_append, List.nil_append, Nat.zero_add, Nat.reduceAdd, Nat.reduceSub, List.replicate_succ, List.replicate_zero, List.set_cons_zero, List.set_cons_succ, List.set_nil,
  sp0_eq, sp1_eq, sp2_eq, sp3_eq, sp4_eq, sp5_eq, if_true, Bool.false_eq_true, if_false, decide_eq_true_eq, Bool.not_eq_true', decide_eq_false_iff_not, Bool.not_true, Bool.not_false, Bool.not_eq_false', isD_int_none, isD_int_bool, isD_int_int, isD_int_str, isD_int_list, isD_int_tuple, isD_int_dict, isD_bool_none, isD_bool_bool, isD_bool_int, isD_bool_str, isD_bool_list, isD_bool_tuple, isD_bool_dict, isD_str_none, isD_str_bool, isD_str_int, isD_str_str, isD_str_list, isD_str_tuple, isD_str_dict, isD_list_none, isD_list_bool, isD_list_int, isD_list_str, isD_list_list, isD_list_tuple, isD_list_dict, isD_tuple_none, isD_tuple_bool, isD_tuple_int, isD_tuple_str, isD_tuple_list, isD_tuple_tuple, isD_tuple_dict])
local macro_rules | `(tactic| walk_at "al") => `(tactic| (intro p hp; generalize hH : upd _ _ _ = H2; obtain ⟨e2, g2⟩ := alloc1 hp hH.symm; clear hH))
section
variable {P : Program} {w : World} {K : PySem.W.Frag} {mg : Str → Option Value} {base : Heap}
abbrev Call := Str × Int × Int
def callD (c : Call) : PyData := .tuple [.str c.1, .int c.2.1, .int c.2.2]
theorem dp_call {H : Hp} {v : V} {c : Call} (h : Dp K H v (callD c)) : ∃ t, v = .ref t ∧ SqT K H t [.str c.1, .int c.2.1, .int c.2.2] := by
  obtain ⟨t, ts, rfl, ht, hts⟩ := h.tup_inv
  cases hts with
  | cons a1 hts => cases hts with
    | cons a2 hts => cases hts with
      | cons a3 hts =>
        cases hts
        rw [a1.str_inv, a2.int_inv, a3.int_inv] at ht
        exact ⟨t, rfl, ht⟩
theorem ty_L {H : Hp} {a : Addr} {xs : List V} (h : SqL K H a xs) : TyX K H (.ref a) (.type "list") := by
  rcases h with (h | ⟨o, h⟩) | ⟨o, its, n, h, c, _⟩
  · exact .base (.lst h)
  · exact .base (.frz h)
  · exact .kList h c
theorem ty_T {H : Hp} {a : Addr} {xs : List V} (h : SqT K H a xs) : TyX K H (.ref a) (.type "tuple") := by
  rcases h with (h | ⟨o, h⟩) | ⟨o, its, n, h, c, _⟩
  · exact .base (.tup h)
  · exact .fTuple h
  · exact .kTuple h c
theorem kit_same (n : String) : kitB n n = some true := by
  unfold kitB
  rw [if_pos (by simp)]
theorem w_isL {H : Hp} {a : Addr} {xs : List V} {Q : VK} (h : SqL K H a xs) (q : Q (.bl true) H) : rIsi K [.ref a, .ty "list"] H Q := ⟨_, _, _, _, true, rfl, .ty _, ty_L h, kit_ty (kit_same _), q⟩
theorem w_isT {H : Hp} {a : Addr} {xs : List V} {Q : VK} (h : SqT K H a xs) (q : Q (.bl true) H) : rIsi K [.ref a, .ty "tuple"] H Q := ⟨_, _, _, _, true, rfl, .ty _, ty_T h, kit_ty (kit_same _), q⟩
def p_are_calls (K : PySem.W.Frag) : P1 := fun v H Q _ => ∃ a vs cs, v = .ref a ∧ SqL K H a vs ∧ DpAll K H vs ((cs : List Call).map callD) ∧ 2 ≤ cs.length ∧ cs.length ≤ 6 ∧ ∀ H', Same H H' → Q (.bl true) H'
theorem ok_are_calls (T : Tx K mg) : Cal CX0 P w K mg base 1 "are_calls" (sp1 (p_are_calls K)) := by
  refine cal_of T.d_are_calls T.g_are_calls (fun _ _ _ _ _ _ => bind1 fun _ => rfl) sc_are_calls len1 fun vs H Q E ⟨v, e, h⟩ cdv A outer s hr => ?_
  subst e
  refine ⟨_, PSs.nox (pss_cons (ps_if (PW.pt (pw_or (pt_not (pt_val (pe_callB call_isi rfl T.f_isinstance (by decide +kernel) (pa_cons (pv 0) (pa_cons (pe_bltn (v := .ty "list") rfl T.f_list (by decide +kernel) rfl) pa_nil))))) (pw_or1 (pt_not (pt_chain op_le op_le pe_int (pe_callB call_len_seq rfl T.f_len (by decide +kernel) (pa_cons (pv 0) pa_nil)) (C8.pe_gc rfl T.c_MOST_CALLS)))))) (pss_one (ps_ret pe_bl)) pss_nil)
    (pss_one (ps_ret (pe_callB (cr_all rfl) rfl T.f_all (by decide +kernel) (pa_cons (pe_lc (own := [("call", 1)]) rfl sc_are_calls.nd (pi_list (pv 0)) (blkOk_by (own := [("call", 1)]) (N := ["thing", "call"]) (sc := defScope s_are_calls) (by decide +kernel)) (fun _ _ _ _ _ => pg_name (i := 1) sc_are_calls.nd rfl (Or.inl rfl)) (fun _ _ _ _ _ => pts_nil) (fun _ _ _ _ _ => (pe_and (pe_callB (isiK K) rfl T.f_isinstance (by decide +kernel) (pa_cons (pv 1) (pa_cons (pe_bltn (v := .ty "tuple") rfl T.f_tuple (by decide +kernel) rfl) pa_nil))) (pe_one (pe_cmpR op_eq (pe_callB (lenK K) rfl T.f_len (by decide +kernel) (pa_cons (pv 1) pa_nil)) pe_int (nomark _)))))) pa_nil))))), ?_⟩
  obtain ⟨a, vs, cs, rfl, ha, hvs, h2, h6, q⟩ := h
  have hlen : vs.length = cs.length := by simpa using hvs.length
  walk_at "ws"
  refine w_isL ha ?_
  walk_at "ws"
  refine ⟨a, vs, rfl, .inl ha, ?_⟩
  rw [if_pos (by omega), if_neg (by omega)]
  refine ⟨a, rfl, ⟨vs, ha⟩, ?_⟩
  refine lcB (cs.map callD) (fun _ => true) ha hvs (by simp; omega) (fun _ => rfl) (fun d x H3 e hm hx R r => ?_) fun D H' hD e hl => ?_
  · simp only [wipe]
    obtain ⟨c, _, rfl⟩ := List.mem_map.mp hm
    obtain ⟨t, rfl, ht⟩ := dp_call (hx.up e)
    walk_at "ws"
    refine w_isT ht ?_
    walk_at "ws"
    refine ⟨t, _, rfl, .inr ht, ?_⟩
    walk_at "ws"
    exact r H3 (Same.refl H3)
  · refine ⟨D, _, rfl, SqL.of hl, ?_⟩
    rw [all_id_map, List.all_eq_true.mpr (fun _ _ => rfl)]
    exact q H' e
def risesC (a : Option Call) (c : Call) : Bool := !decide (c.2.2 < c.2.1) && match a with
  | none => true
  | some a => !decide (a.1 = c.1) && decide (a.2.2 < c.2.1)
def Ahead (K : PySem.W.Frag) (H : Hp) (v : V) (a : Option Call) : Prop := match a with
  | none => v = .non
  | some a => Dp K H v (callD a)
theorem Ahead.up {H H' : Hp} {v : V} {a : Option Call} (h : Ahead K H v a) (e : Same H H') : Ahead K H' v a := by
  cases a with
  | none => exact h
  | some a => exact L2.Dp.up h e
def p_rises (K : PySem.W.Frag) : P2 := fun v u H Q _ => ∃ a c, Ahead K H v a ∧ Dp K H u (callD c) ∧ Q (.bl (risesC a c)) H
theorem ok_rises (T : Tx K mg) : Cal CX0 P w K mg base 1 "rises" (sp2 (p_rises K)) := by
  refine cal_of T.d_rises T.g_rises (fun _ _ _ _ _ _ => bind2 fun _ _ => rfl) sc_rises len2 fun vs H Q E ⟨v, u, e, h⟩ cdv A outer s hr => ?_
  subst e
  refine ⟨_, PSs.nox (pss_cons (ps_if (pt_cmpR op_lt (pe_ix ix_tup (pv 1) pe_int (fun _ _ => rfl)) (pe_ix ix_tup (pv 1) pe_int (fun _ _ => rfl)) (nomark _)) (pss_one (ps_ret pe_bl)) pss_nil)
    (pss_one (ps_ret (pe_or (pe_cmpR op_isN0 (pv 0) pe_non (nomark _)) (pe_one (pe_and (pe_cmpR op_ne (pe_ix ix_tup (pv 0) pe_int (fun _ _ => rfl)) (pe_ix ix_tup (pv 1) pe_int (fun _ _ => rfl)) (nomark _)) (pe_one (pe_cmpR op_lt (pe_ix ix_tup (pv 0) pe_int (fun _ _ => rfl)) (pe_ix ix_tup (pv 1) pe_int (fun _ _ => rfl)) (nomark _))))))))), ?_⟩
  obtain ⟨a, c, hv, hu, q⟩ := h
  obtain ⟨t, rfl, ht⟩ := dp_call hu
  walk_at "ws"
  refine ⟨t, _, 2, _, rfl, rfl, ht, atI_nat (j := 2) rfl, ?_⟩
  refine ⟨t, _, 1, _, rfl, rfl, ht, atI_nat (j := 1) rfl, ?_⟩
  walk_at "ws"
  refine ite2 (fun h1 => ?_) fun h1 => ?_
  · simpa only [risesC, decide_eq_true h1, Bool.not_true, Bool.false_and] using q
  simp only [risesC, decide_eq_false h1, Bool.not_false, Bool.true_and] at q
  cases a with
  | none =>
    have hv : v = .non := hv
    subst hv
    walk_at "ws"
    exact q
  | some a =>
    obtain ⟨t2, rfl, ht2⟩ := dp_call (show Dp K H v (callD a) from hv)
    walk_at "ws"
    rw [if_neg (by simp)]
    refine ⟨t2, _, 0, _, rfl, rfl, ht2, atI_nat (j := 0) rfl, ?_⟩
    refine ⟨t, _, 0, _, rfl, rfl, ht, atI_nat (j := 0) rfl, ?_⟩
    walk_at "ws"
    refine ite2 (fun h2 => ?_) fun h2 => ?_
    · refine ⟨t2, _, 2, _, rfl, rfl, ht2, atI_nat (j := 2) rfl, ?_⟩
      refine ⟨t, _, 1, _, rfl, rfl, ht, atI_nat (j := 1) rfl, ?_⟩
      walk_at "ws"
      simpa only [decide_eq_false h2, Bool.not_false, Bool.true_and] using q
    · have h3 : a.1 = c.1 := Decidable.not_not.mp h2
      simpa only [decide_eq_true h3, Bool.not_true, Bool.false_and] using q
/-! ### a trip is put -/
def callsGood (kvs : List (Key × V)) : Option Call → List Call → Bool
  | _, [] => true
  | a, c :: r => (inD (.str c.1) kvs && okD (.str c.1)) && ((amongD (.int c.2.1) 0 2879 && amongD (.int c.2.2) 0 2879) && (risesC a c && callsGood kvs (some c) r))
def tripOut (d1 d2 : PyData) (kvs kvc : List (Key × V)) : Option Str := match freshD d1 kvs with
  | some e => some e
  | none => if inD d2 kvc = true then (if 10 ≤ kvs.length then some ("TooMany" : Str) else none) else some ("NoRule" : Str)
def p_Net_add_trip (K : PySem.W.Frag) : P4 := fun v a b c H Q E => ∃ p N d1 d2 kvs kvc kva ca vs cs, v = .ref p ∧ IsNet K H p N ∧ Av K H a d1 ∧ Av K H b d2 ∧ H N.e = some (.dK kvs) ∧ H N.c = some (.dK kvc) ∧ H N.a = some (.dK kva) ∧ kvs.length ≤ 10 ∧
  c = .ref ca ∧ SqL K H ca vs ∧ DpAll K H vs ((cs : List Call).map callD) ∧ 2 ≤ cs.length ∧ cs.length ≤ 6 ∧ callsGood kva none cs = true ∧
  (∀ x, tripOut d1 d2 kvs kvc = some x → ∀ H', Same H H' → E (.ref (He.ga K x)) none H') ∧
  (tripOut d1 d2 kvs kvc = none → ∀ x y t u H', d1 = .str x → d2 = .str y → H t = none → H u = none → SameB N.e H H' → H' N.e = some (.dK (putK kvs (.inr x) (.ref t))) → H' t = some (.tup [.str y, .ref u]) → H' u = some (.tup vs) → Q .non H')
theorem ok_Net_add_trip (T : Tx K mg) : Met (L2.CX P w) P w K mg base 3 (He.ga K "Net") "add_trip" (sp4 (p_Net_add_trip K)) := by
  refine met_of T.cl_Net T.m_Net_add_trip T.d_Net_add_trip (fun _ _ _ _ _ _ => bind4 fun _ _ _ _ => rfl) sc_Net_add_trip len4 fun vs H Q E ⟨v, a, b, c, e, h⟩ cdv A outer s hr => ?_
  subst e
  have hu := hu_of hr
  refine ⟨_, (pss_cons (ps_expr (pe_ca (ok_need_fresh T) hr (by decide) rfl (passes_call (takes_of rfl rfl rfl rfl) (fun _ _ _ _ h => h)) (pa_cons (pv 1) (pa_cons (pe_fld (pv 0) rfl) pa_nil))))
    (pss_cons (ps_expr (pe_me (ok_Net_need_rule T) hr (by decide) (passes_call (takes_of rfl rfl rfl rfl) (fun _ _ _ _ h => h)) (pv 0) (pa_cons (pv 2) pa_nil)))
    (pss_cons (ps_if (pt_not (pt_val (pe_ca (ok_are_calls T) hr (by decide) rfl pass0 (pa_cons (pv 3) pa_nil)))) (pss_one (ps_raise rfl (takes_of rfl rfl rfl rfl) (pmk_own PySem.F.excBase_ValueError T.x_BadCalls T.g_BadCalls T.k_BadCalls (raises_own T.b_BadCalls T.t_BadCalls) rfl))) pss_nil)
    (pss_cons (ps_set (i := 4) sc_Net_add_trip.nd rfl (Or.inl rfl) pe_non)
    (pss_cons (ps_for (passes_of rfl) rfl (pi_list (pv 3)) (pg_name (i := 5) sc_Net_add_trip.nd rfl (Or.inl rfl))
    (pss_cons (ps_expr (pe_me (ok_Net_need_stop T) hr (by decide) (passes_call (takes_of rfl rfl rfl rfl) (fun _ _ _ _ h => h)) (pv 0) (pa_cons (pe_ix ix_tup (pv 5) pe_int (fun _ _ => rfl)) pa_nil)))
    (pss_cons (ps_expr (pe_ca (ok_need_among T) hr (by decide) rfl (passes_call (takes_of rfl rfl rfl rfl) (fun _ _ _ _ h => h)) (pa_cons (pe_ix ix_tup (pv 5) pe_int (fun _ _ => rfl)) (pa_cons pe_int (pa_cons (C8.pe_gc rfl T.c_MOST_MINUTE) pa_nil)))))
    (pss_cons (ps_expr (pe_ca (ok_need_among T) hr (by decide) rfl (passes_call (takes_of rfl rfl rfl rfl) (fun _ _ _ _ h => h)) (pa_cons (pe_ix ix_tup (pv 5) pe_int (fun _ _ => rfl)) (pa_cons pe_int (pa_cons (C8.pe_gc rfl T.c_MOST_MINUTE) pa_nil)))))
    (pss_cons (ps_if (pt_not (pt_val (pe_ca (ok_rises T) hr (by decide) rfl pass0 (pa_cons (pv 4) (pa_cons (pv 5) pa_nil))))) (pss_one (ps_raise rfl (takes_of rfl rfl rfl rfl) (pmk_own PySem.F.excBase_ValueError T.x_BadCalls T.g_BadCalls T.k_BadCalls (raises_own T.b_BadCalls T.t_BadCalls) rfl))) pss_nil)
    (pss_one (ps_set (i := 4) sc_Net_add_trip.nd rfl (Or.inl rfl) (pv 5))))))))
    (pss_cons (ps_expr (pe_ca (ok_need_room T) hr (by decide) rfl (passes_call (takes_of rfl rfl rfl rfl) (fun _ _ _ _ h => h)) (pa_cons (pe_fld (pv 0) rfl) (pa_cons (C8.pe_gc rfl T.c_MOST_TRIPS) pa_nil))))
    (pss_one (ps_dput hu (pe_fld (pv 0) rfl) (pv 1) (pe_tup (pa_cons (pv 2) (pa_cons (pe_callTy call_tuple_of rfl T.f_tuple (by decide +kernel) (pa_cons (pv 3) pa_nil)) pa_nil))) rfl)))))))), ?_⟩
  obtain ⟨p, N, d1, d2, kvs, kvc, kva, ca, vs, cs, rfl, hn, h1, h2, he, hc, ha, hlen, rfl, hca, hvs, hc2, hc6, hg, q1, q2⟩ := h
  have hvl : vs.length = cs.length := by simpa using hvs.length
  unfold tripOut at q1 q2
  walk_at "ws"
  refine f_lines T hn ?_
  walk_at "ws"
  refine ⟨d1, N.e, kvs, h1, rfl, he, fun H1 e1 => out_of (fun x hx => ?_) fun hx => ?_⟩
  · rw [hx] at q1
    exact q1 x rfl H1 e1
  rw [hx] at q1 q2
  obtain ⟨x, rfl, hxn, hxv⟩ := freshD_none hx
  walk_at "ws"
  refine f_meth (hn.up e1) (fun _ => by rfl) ?_
  walk_at "ws"
  refine ⟨p, N, d2, kvc, rfl, hn.up e1, h2.up e1, e1 _ _ hc, fun H2 e2 => out_of (fun y hy => ?_) fun hy => ?_⟩
  · cases hd : inD d2 kvc with
    | true => rw [hd] at hy; cases hy
    | false =>
      rw [hd] at hy q1
      cases hy
      exact q1 _ rfl H2 (e1.trans e2)
  have hd2 : inD d2 kvc = true := by
    cases hd : inD d2 kvc with
    | true => rfl
    | false => rw [hd] at hy; cases hy
  rw [hd2] at q1 q2
  obtain ⟨y, _, rfl, hyn, _⟩ := inD_yes hd2
  have e12 := e1.trans e2
  walk_at "ws"
  refine ⟨ca, vs, cs, rfl, e12.seq hca, hvs.up e12, hc2, hc6, fun H3 e3 => ?_⟩
  have e13 := e12.trans e3
  rw [Av_str h1, Av_str h2]
  walk_at "ws"
  refine ⟨ca, rfl, ⟨vs, e13.seq hca⟩, ?_⟩
  refine for_list (xs := vs) (fun i σ H' => Same H H' ∧ ∃ av l a, σ = [some (.ref p), some (.str x), some (.str y), some (.ref ca), some av, l] ∧ Ahead K H' av a ∧ callsGood kva a (cs.drop i) = true)
    ⟨e13, _, _, none, rfl, rfl, hg⟩ (fun i σ H' _ h => h.1.seq hca) ?_ ?_
  · rintro i c σ H' hi ⟨e, av, l, a, rfl, hav, hgi⟩
    walk_at "ws"
    obtain ⟨d, hd, hcd⟩ := hvs.get hi
    rw [List.getElem?_map] at hd
    obtain ⟨cl, hcl, rfl⟩ := Option.map_eq_some_iff.mp hd
    obtain ⟨t, rfl, ht⟩ := dp_call (hcd.up e)
    have edrop : cs.drop i = cl :: cs.drop (i + 1) := by
      rw [List.drop_eq_getElem_cons (List.getElem?_eq_some_iff.mp hcl).1]
      rw [(List.getElem?_eq_some_iff.mp hcl).2]
    rw [edrop] at hgi
    simp only [callsGood, Bool.and_eq_true] at hgi
    obtain ⟨⟨g1, g1'⟩, ⟨g2, g3⟩, g4, g5⟩ := hgi
    refine f_meth (hn.up e) (fun _ => by rfl) ?_
    refine ⟨t, _, 0, _, rfl, rfl, ht, atI_nat (j := 0) rfl, ?_⟩
    walk_at "ws"
    refine ⟨p, N, .str cl.1, kva, rfl, hn.up e, .dp (.str _) g1', e _ _ ha, fun H4 e4 => ?_⟩
    rw [g1]
    have ht4 := e4.sqT ht
    refine ⟨t, _, 1, _, rfl, rfl, ht4, atI_nat (j := 1) rfl, ?_⟩
    walk_at "ws"
    refine ⟨.int cl.2.1, 0, 2879, .dp (.int _) rfl, rfl, rfl, ?_⟩
    rw [g2]
    refine ⟨t, _, 2, _, rfl, rfl, ht4, atI_nat (j := 2) rfl, ?_⟩
    walk_at "ws"
    refine ⟨.int cl.2.2, 0, 2879, .dp (.int _) rfl, rfl, rfl, ?_⟩
    rw [g3]
    have hcl4 := (hcd.up e).up e4
    refine ⟨a, cl, hav.up e4, hcl4, ?_⟩
    walk_at "ws"
    rw [g4, if_neg (by simp)]
    exact ⟨e.trans e4, _, _, some cl, rfl, hcl4, g5⟩
  · rintro σ H' ⟨e, av, l, a, rfl, _, _⟩
    walk_at "ws"
    refine f_lines T (hn.up e) ?_
    walk_at "ws"
    refine ⟨N.e, kvs.length, 10, rfl, rfl, .inl ⟨kvs, e _ _ he, rfl⟩, out_of (fun y hy => ?_) fun hy => ?_⟩
    · have h8 : 10 ≤ kvs.length := by
        by_cases h8 : (10 : Int) ≤ (kvs.length : Int)
        · omega
        · rw [if_neg h8] at hy; cases hy
      rw [if_pos (by omega)] at hy
      cases hy
      exact q1 _ ((if_pos rfl).trans (if_pos h8)) H' e
    have h8 : ¬ 10 ≤ kvs.length := fun h8 => by
      rw [if_pos (by omega)] at hy
      cases hy
    walk_at "ws"
    refine ⟨ca, vs, rfl, .inl ⟨e.seq hca, ?_⟩⟩
    walk_at "al"
    rename_i u hu2 H5 e5 g5
    refine ⟨by decide, ?_⟩
    walk_at "al"
    rename_i t ht H6 e6 g6
    have e16 := (e.trans e5).trans e6
    refine f_lines T (hn.up e16) ?_
    refine ⟨N.e, _, rfl, DPut.k (k := Sum.inr x) (e16 _ _ he) (Nat.lt_of_le_of_lt hlen (by decide)), ?_⟩
    have nt : N.e ≠ t := ne_of_none (e5 _ _ (e _ _ he)) ht
    have nu : N.e ≠ u := ne_of_none (e _ _ he) hu2
    exact q2 ((if_pos rfl).trans (if_neg h8)) x y t u _ rfl rfl ((e.trans e5).free ht) (e.free hu2) (sameB_of e16) upd_same (by rw [upd_ne nt.symm]; exact g6) (by rw [upd_ne nu.symm]; exact e6 _ _ g5)
end
end K06
set_option maxHeartbeats 4000000
namespace K06
open PySem L2
/-! ### frames: all but some objects (and the tables) stay -/
def FrM (C : List Addr) (H H' : Hp) : Prop := ∀ b o, b ∉ C → H b = some o → (∀ ps, o ≠ .tbl ps) → H' b = some o
def cutM (M : List Addr) (H : Hp) : Hp := fun b => if b ∈ M then none else match H b with
  | some (.tbl _) => none
  | o => o
section
variable {C D M : List Addr} {H H1 H2 H' : Hp} {a : Addr} {o : HO}
theorem FrM.refl : FrM C H H := fun _ _ _ h _ => h
theorem FrM.trans (e1 : FrM C H H1) (e2 : FrM C H1 H2) : FrM C H H2 := fun b o hb h n => e2 b o hb (e1 b o hb h n) n
theorem FrM.mono (e : FrM C H H') (h : ∀ b ∈ C, b ∈ D) : FrM D H H' := fun b o hb hh n => e b o (fun z => hb (h b z)) hh n
theorem _root_.L2.Same.frm (e : Same H H') : FrM C H H' := fun b o _ h _ => e b o h
theorem extN_frm (e : LamX.ExtN H H') : FrM C H H' := fun b o _ h n => e b o h n
theorem cutM_some (h : cutM M H a = some o) : a ∉ M ∧ H a = some o ∧ ∀ ps, o ≠ .tbl ps := by
  unfold cutM at h
  split at h
  · cases h
  · rename_i n
    cases e : H a with
    | none => rw [e] at h; cases h
    | some u =>
      rw [e] at h
      cases u <;> first | (cases h; done) | (cases h; exact ⟨n, rfl, fun _ z => nomatch z⟩)
theorem cutM_get (n : a ∉ M) (h : H a = some o) (t : ∀ ps, o ≠ .tbl ps) : cutM M H a = some o := by
  unfold cutM
  rw [if_neg n, h]
  cases o <;> first | rfl | exact absurd rfl (t _)
theorem cutM_same : Same (cutM M H) H := fun b u e => (cutM_some e).2.1
theorem cutM_fr (e : FrM C H H') (h : ∀ b ∈ C, b ∈ M) : Same (cutM M H) (cutM M H') := fun b u q => by
  obtain ⟨n, g, t⟩ := cutM_some q
  exact cutM_get n (e b u (fun z => n (h b z)) g t) t
theorem cutM_up (e : Same H H') : Same (cutM M H) (cutM M H') := cutM_fr (C := M) e.frm fun _ h => h
/-- what is new is not among what is there -/
theorem new_not (hM : ∀ b ∈ M, H b ≠ none) (h : H a = none) : a ∉ M := fun z => hM a z h
theorem keep_all (hM : ∀ b ∈ M, H b ≠ none) (e : FrM C H H') (hC : ∀ b ∈ C, H' b ≠ none) (ht : ∀ b ∈ M, ∀ ps, H b = some (.tbl ps) → H' b ≠ none) : ∀ b ∈ M, H' b ≠ none := fun b hb => by
  by_cases hc : b ∈ C
  · exact hC b hc
  · cases h : H b with
    | none => exact absurd h (hM b hb)
    | some o =>
      by_cases t : ∃ ps, o = .tbl ps
      · obtain ⟨ps, rfl⟩ := t
        exact ht b hb ps h
      · rw [e b o hc h fun ps z => t ⟨ps, z⟩]
        exact fun z => nomatch z
end
def Live (M : List Addr) (H : Hp) : Prop := ∀ b ∈ M, ∃ o, H b = some o ∧ ∀ ps, o ≠ .tbl ps
theorem Live.up {M : List Addr} {H H' : Hp} (h : Live M H) (e : Same H H') : Live M H' := fun b hb => by
  obtain ⟨o, h1, h2⟩ := h b hb
  exact ⟨o, e _ _ h1, h2⟩
theorem Live.not {M : List Addr} {H : Hp} {a : Addr} (h : Live M H) (ha : H a = none) : a ∉ M := fun z => by
  obtain ⟨o, h1, _⟩ := h a z
  rw [ha] at h1
  cases h1
theorem Live.cut {M : List Addr} {H H' : Hp} {a : Addr} {o : HO} (h : Live M H) (ha : H a = none) (g : H' a = some o) (t : ∀ ps, o ≠ .tbl ps) : cutM M H' a = some o := cutM_get (h.not ha) g t
/-- the rest of a text, unread for now -/
theorem seq_hide {t u : TS} {D : Ends} {σ : St} {H : Hp} (h : ∀ U : TS, U = u → t { D with nx := U D } σ H) : tSeq t u D σ H := h u rfl
end K06
set_option maxHeartbeats 4000000
namespace K06
open PySem L2 PySem.Spec PyProof.Rows
/-! ### set(xs) of a list of numbers -/
section
variable {P : Program} {w : World} {A : Around} {E : Value → Shared → Prop} {s : Shared}
theorem set_listI {l : Addr} {items : Array Value} (ns : List Int) {Q : Value → Shared → Prop} (hh : A.handled = none) (hl : s.heap.IsList l items) (hit : IntsAre items.toList ns) (hb : ns.length + 1 < scanBound)
    (h : ∀ (h' : Heap) (tk c : Nat), SetR w h' s.heap.objs.size (fun j => decide (j ∈ ns)) c → c ≤ ns.length → (∀ b o, s.heap.get? b = some o → h'.get? b = some o) → Q (.ref s.heap.objs.size) { s with heap := h', toks := tk }) :
    wpAny (model P w) A (call (.type "set") [.ref l]) Q E s := by
  have hisz : items.size = ns.length := by
    have q := IntsAre.length hit
    rw [Array.length_toList] at q
    exact q
  obtain ⟨c, tl, hmro⟩ := F.called_set.mro
  have hmade := F.called_set.made
  have hsub := F.called_set.sub
  refine wpAny_call (codeAny_of_tree ?_)
  show wpAny _ _ (callAny (.type "set") _) _ _ _
  refine wpAny_pure ⟨Code.quiet_builtin _ (by decide +kernel), codeAny_builtin F.entry_type_call ?_⟩
  rw [Around.under_plain (weight_type_call_type "set" [.ref l] []) rfl]
  have h1 := F.called_set.notType
  have h2 := F.called_set.canCreate
  have hct := F.typeCall_set_1 (.ref l)
  repeat (any_goals (first | assumption | wp_step))

  refine codeAny_mono (code_set_led1 (.ref l) (E := E) (Q₁ := fun obj s₁ => obj = .ref s.heap.objs.size ∧ s₁ = { s with heap := s.heap.push { cls := .type "set", dict := none, data := .set #[] 0 (.fresh 0 0 (!w.params.followText "set-order")) } }) ⟨rfl, rfl⟩) fun r s₁ hr => ?_
  cases r with
  | error e => exact hr
  | ok fl =>
    cases fl with
    | ret obj =>
      obtain ⟨rfl, rfl⟩ := hr
      have hS : (s.heap.push { cls := .type "set", dict := none, data := .set #[] 0 (.fresh 0 0 (!w.params.followText "set-order")) }).get? s.heap.objs.size = some { cls := .type "set", dict := none, data := .set #[] 0 (.fresh 0 0 (!w.params.followText "set-order")) } := Heap.get?_push_size _ rfl
      have hT : Shared.TypeIs { s with heap := s.heap.push { cls := .type "set", dict := none, data := .set #[] 0 (.fresh 0 0 (!w.params.followText "set-order")) } } (.ref s.heap.objs.size) "set" := ⟨_, hS, rfl⟩
      have hli := F.called_set.init.lookup
      have hbi := F.called_set.init.bind (.ref s.heap.objs.size)
      repeat (any_goals (first | assumption | wp_step))

      refine codeAny_mono (codeAny_call_builtin (R := wants (fun r s₂ => r = .none ∧ ∃ h' tk c, s₂ = { s with heap := h', toks := tk } ∧ SetR w h' s.heap.objs.size (fun j => decide (j ∈ ns)) c ∧ c ≤ ns.length ∧
          (∀ b o, s.heap.get? b = some o → h'.get? b = some o)) E) F.called_set.init.plain F.entry_set_init (check_set_init_1 hT ?_)) fun r₂ s₂ hr₂ => ?_
      · obtain ⟨ol, hol, hcl, nl, hdl⟩ := hl
        obtain ⟨ocls, odict, odata, oslots⟩ := ol
        simp only at hcl hdl
        subst hcl; subst hdl
        have hol' : (s.heap.push { cls := .type "set", dict := none, data := .set #[] 0 (.fresh 0 0 (!w.params.followText "set-order")) }).get? l = some { cls := .type "list", dict := odict, data := .seq items nl, slots := oslots } := Heap.get?_push_of_some _ hol
        have hsls := F.sub_list_set
        have hslf := F.sub_list_frozenset
        have hne : (Value.type "list" == Value.type "dict") = false := by decide
        have hl1 : (s.heap.push { cls := .type "set", dict := none, data := .set #[] 0 (.fresh 0 0 (!w.params.followText "set-order")) }).IsList l items := ⟨_, hol', rfl, nl, rfl⟩
        unfold Builtin.«set.__init__» noKeywords Builtin.Frozenset.updateFrom
        generalize hPI : pyIter = PI
        wp_walk
        subst hPI

        refine wpAny_pyIter_list hl1 ?_
        refine wpAny_bind (wpAny_runValue ?_)
        have hlS : l < s.heap.objs.size := Heap.lt_size hol
        have hh3 : A.in1.in1.in1.handled = none := by simp [hh]
        have hz1 : (s.heap.push { cls := .type "set", dict := none, data := .set #[] 0 (.fresh 0 0 (!w.params.followText "set-order")) }).objs.size = s.heap.objs.size + 1 := Heap.size_push ..
        have hneI : l ≠ (s.heap.push { cls := .type "set", dict := none, data := .set #[] 0 (.fresh 0 0 (!w.params.followText "set-order")) }).objs.size := by
          rw [Heap.size_push]; exact Nat.ne_of_lt (Nat.lt_succ_of_lt hlS)
        have hSf : s.heap.objs.size ∉ [(s.heap.push { cls := .type "set", dict := none, data := .set #[] 0 (.fresh 0 0 (!w.params.followText "set-order")) }).objs.size, l] := by
          rw [Heap.size_push]; simp only [List.mem_cons, List.mem_singleton, List.not_mem_nil, or_false, not_or]
          exact ⟨Nat.ne_of_lt (Nat.lt_succ_self _), Nat.ne_of_gt hlS⟩
        have hval : ∀ (i : Nat) (v : Value), items[i]? = some v → ∃ k t, ns[i]? = some k ∧ v = .int k t := fun i v hv => by
          have hi : i < ns.length := by rw [← hisz]; exact (Array.getElem?_eq_some_iff.mp hv).1
          obtain ⟨t, e⟩ := PyProof.Rows.IntsAre.int_at hit i v (by rw [Array.getElem?_toList]; exact hv)
          refine ⟨ns[i], t, List.getElem?_eq_getElem hi, ?_⟩
          rw [e, List.getD_eq_getElem?_getD, List.getElem?_eq_getElem hi] <;> rfl
        refine set_update_ints ((Walks.list hh3 _ l hneI items).toS) s.heap.objs.size
          hSf ns hisz hb hval (items.size - 0) 0 _ (by omega) (Nat.zero_le _)
          ⟨⟨_, Heap.get?_push_size _ rfl, rfl, rfl⟩, (hl1.push _)⟩ ?hS0 ?hR
        case hS0 =>
          have hget : ((s.heap.push { cls := .type "set", dict := none, data := .set #[] 0 (.fresh 0 0 (!w.params.followText "set-order")) }).push { cls := .type "list_iterator", data := .fields #[.ref l, .int 0 0] }).get? s.heap.objs.size
              = some { cls := .type "set", dict := none, data := .set #[] 0 (.fresh 0 0 (!w.params.followText "set-order")) } := Heap.get?_push_of_some _ hS
          exact ⟨0, Nat.le_refl 0, setR_new_at hget⟩
        case hR =>
          intro s' c' hm hc' hS'
          obtain ⟨h', g2, d', tk', os'⟩ := s'
          have eg : g2 = s.gens := hm.gens
          have ed : d' = s.drawn := hm.drawn
          have eo : os' = s.os := hm.os
          subst eg; subst ed; subst eo
          show wpAny _ _ _ _ _ _
          refine wpAny_pure ?_
          show wpAny _ _ (ret Value.none) _ _ _
          rw [hisz] at hc'
          refine wpAny_pure ⟨rfl, h', tk', c', rfl, hS', hc', fun b o e => ?_⟩
          have hb0 : b < s.heap.objs.size := Heap.lt_size e
          have hb1 : b ≠ s.heap.objs.size := Nat.ne_of_lt hb0
          have hb2 : b ≠ (s.heap.push { cls := .type "set", dict := none, data := .set #[] 0 (.fresh 0 0 (!w.params.followText "set-order")) }).objs.size := by
            rw [Heap.size_push]; exact Nat.ne_of_lt (Nat.lt_succ_of_lt hb0)
          exact hm.heap b o (by simp only [List.mem_cons, List.mem_singleton, List.not_mem_nil, or_false, not_or]; exact ⟨hb1, hb2⟩) (Heap.get?_push_of_some _ (Heap.get?_push_of_some _ e))

      · cases r₂ with
        | error e => exact hr₂
        | ok fl₂ =>
          cases fl₂ with
          | ret r =>
            obtain ⟨rfl, h', tk, c', rfl, hS', hc', hk'⟩ := hr₂
            repeat (any_goals (first | assumption | wp_step))
            exact h _ _ _ hS' hc' hk'
          | _ => exact hr₂.elim
    | _ => exact hr.elim

end
section
variable {X : Cx}
def rSetL (w : World) (K : PySem.W.Frag) : List V → Hp → VK → Prop := fun xs H Q => ∃ (l : Addr) (ns : List Int), xs = [.ref l] ∧ SqL K H l (ns.map V.int) ∧ ns.length < 1000 ∧
  ∀ p c, H p = none → c ≤ ns.length → Q (.ref p) (upd H p (SetO w p (fun j => decide (j ∈ ns)) c))
theorem cr_setL (hc : X.calm = true) : CallR X (.type "set") (rSetL X.w X.K) := by
  intro pins s σ H xs us Q I r h
  obtain ⟨l, ns, rfl, hl, hz, q⟩ := h
  obtain ⟨its, rv, pl, _⟩ := I.list hl
  rw [Vals.ref1 r]
  refine set_listI ns (I.ok.hd hc) pl.isList (by simpa using ints_of_vals rv) (by unfold scanBound; omega) fun h' tk c S hc2 hk => ?_
  exact ⟨.ref _, upd H s.heap.objs.size (SetO X.w s.heap.objs.size (fun j => decide (j ∈ ns)) c), I.laid (t' := tk) hk (Nat.le_refl _) (setO_new S), rfl, q _ _ (I.hok.fresh (Nat.le_refl _)) hc2⟩
end
/-! ### max(xs, default=0) -/
def maxL (ns : List Int) : Int := ns.foldr (fun a b => if a ≤ b then b else a) 0
theorem maxL_ge : ∀ {ns : List Int}, ∀ n ∈ ns, n ≤ maxL ns
  | a :: r, n, h => by
    show n ≤ if a ≤ maxL r then maxL r else a
    rcases List.mem_cons.mp h with rfl | h
    · split <;> omega
    · have := maxL_ge n h
      split <;> omega
theorem maxL_mem : ∀ {ns : List Int}, (∀ n ∈ ns, 0 ≤ n) → ns ≠ [] → maxL ns ∈ ns
  | [a], h0, _ => by
    have := h0 a List.mem_cons_self
    show (if a ≤ 0 then (0 : Int) else a) ∈ [a]
    split
    · have : a = 0 := by omega
      simp [this]
    · simp
  | a :: b :: r, h0, _ => by
    show (if a ≤ maxL (b :: r) then maxL (b :: r) else a) ∈ a :: b :: r
    have ih := maxL_mem (ns := b :: r) (fun n hn => h0 n (List.mem_cons_of_mem _ hn)) (by simp)
    split
    · exact List.mem_cons_of_mem _ ih
    · exact List.mem_cons_self
theorem maxL_unique {ns : List Int} {m : Int} (h0 : ∀ n ∈ ns, 0 ≤ n) (hm : m ∈ ns) (hg : ∀ n ∈ ns, n ≤ m) : m = maxL ns := by
  have h1 := maxL_ge m hm
  have h2 := hg _ (maxL_mem h0 (fun e => by rw [e] at hm; cases hm))
  omega
theorem maxOf_int (x : Int) : ∀ xs : List Int, PySem.W.maxOf x xs ∈ x :: xs ∧ ∀ n ∈ x :: xs, n ≤ PySem.W.maxOf x xs := by
  intro xs
  induction xs generalizing x with
  | nil => exact ⟨by simp [PySem.W.maxOf], fun n hn => by
      have : n = x := by simpa using hn
      rw [this]
      exact Int.le_refl _⟩
  | cons y ys ih =>
    have e : PySem.W.maxOf x (y :: ys) = PySem.W.maxOf (if PySem.W.DatumOrd.lt x y = true then y else x) ys := rfl
    have d : PySem.W.DatumOrd.lt x y = decide (x < y) := by first | rfl | simp [PySem.W.DatumOrd.lt]
    rw [e, d]
    by_cases h : x < y
    · rw [if_pos (by simpa using h)]
      obtain ⟨h1, h2⟩ := ih y
      refine ⟨List.mem_cons_of_mem _ h1, fun n hn => ?_⟩
      rcases List.mem_cons.mp hn with rfl | hn
      · have := h2 y List.mem_cons_self
        omega
      · exact h2 n hn
    · rw [if_neg (by simpa using h)]
      obtain ⟨h1, h2⟩ := ih x
      refine ⟨?_, fun n hn => ?_⟩
      · rcases List.mem_cons.mp h1 with h1 | h1
        · rw [h1]; exact List.mem_cons_self
        · exact List.mem_cons_of_mem _ (List.mem_cons_of_mem _ h1)
      · rcases List.mem_cons.mp hn with rfl | hn
        · exact h2 n List.mem_cons_self
        · rcases List.mem_cons.mp hn with rfl | hn
          · have := h2 x List.mem_cons_self
            omega
          · exact h2 n (List.mem_cons_of_mem _ hn)
def tMaxD (K : PySem.W.Frag) (te : TE) : TE := fun σ H Q => te σ H fun x H1 => ∃ a ns, x = .ref a ∧ SqL K H1 a (ns.map V.int) ∧ (∀ n ∈ ns, (0 : Int) ≤ n) ∧ Q (.int (maxL ns)) H1
section
variable {X : Cx}
theorem pe_maxD {e e2 : Expr} {te : TE} {p pos kpos : Pos} (hc : X.calm = true) (hu : X.A.units + 64 < cLine) (hg : Gl X "max") (hm : X.mg "max" = none) (he : PE X e te) (h2 : PE X e2 (tC (.int 0)))
    (hst : starEach [e] X.env = (false, eval e X.env) :: starEach [] X.env := by rfl) :
    PE X (.Call (.Name "max" p) [e] [⟨some (Str.ofString "default"), e2, kpos⟩] pos) (tMaxD X.K te) := by
  refine ⟨fun pins s σ H Q I h => ?_⟩
  refine wpAny_Call_Name_kw (ld_blt (u := .builtin "max") I hg hm (by decide +kernel) ?_)
  refine PyProof.Rows.callWith_kw (PyProof.Rows.args_cons (thn (he.run pins s σ H _ I (show te σ H _ from h)) fun v s1 ⟨x, H1, I1, r1, q1⟩ => PyProof.Rows.args_nil ?_) hst) (by rw [hst]; rfl) (by rw [hst]; rfl) rfl rfl
  obtain ⟨a, ns, rfl, hl, h0, q⟩ := q1
  cases r1
  refine PyProof.Rows.kws_cons (thn (h2.run pins s1 σ H1 (fun y H2 => y = .int 0 ∧ H2 = H1) I1 ⟨rfl, rfl⟩) fun v s2 ⟨y, H2, I2, r2, e2, e3⟩ => PyProof.Rows.kws_nil ?_)
  subst e2
  subst e3
  obtain ⟨t, rfl⟩ := r2
  obtain ⟨its, rv, pl, _⟩ := I2.list hl
  have hi := ints_of_vals rv
  refine PySem.W.max_list_datum_default (xs := ns) (I2.ok.hd hc) pl.isList (by simpa using PySem.W.HoldAll.of_ints hi) (by show X.A.units + 1 + 0 < cLine; omega) (fun e h' tk hk => ?_) (fun y ys i v h' tk e hv hh hk => ?_)
  · subst e
    exact ⟨.int 0, H2, I2.kept hk, ⟨_, rfl⟩, q⟩
  · obtain ⟨t2, rfl⟩ := PySem.W.int_of_holds hh
    obtain ⟨m1, m2⟩ := maxOf_int y ys
    rw [← e] at m1 m2
    have em := maxL_unique h0 m1 m2
    exact ⟨.int (maxL ns), H2, I2.kept hk, ⟨_, by rw [em]⟩, q⟩
end
end K06
set_option maxHeartbeats 4000000
namespace K06
open PySem L2
section
variable {X : Cx} {CX : CXT} {k j : Nat} {m x : Str} {E : XK} {p pos apos : Pos} {o : Expr} {e : Expr} {es : List Expr} {ta : TE} {t : TA}
/-- o.m(..), the class one of a family -/
def tMeD {ι : Type} (D : ι → Prop) (C : ι → Addr) (m : Str) (sp : ι → Sp) (E : XK) (ta : TE) (t : TA) : TE := fun σ H Q => ta σ H fun x H1 => ∃ i a dx fs, D i ∧ x = .ref a ∧ H1 a = some (.ins (C i) dx fs) ∧ fs.lookup m = none ∧ t σ H1 fun vs H2 => sp i (x :: vs) H2 Q E
theorem pe_meD {ι : Type} {D : ι → Prop} {C : ι → Addr} {sp : ι → Sp} {pl : Sem Bool} (c : ∀ i, D i → Met CX X.prog X.w X.K X.mg X.base k (C i) m (sp i)) (hr : Room j X.A) (hk : k ≤ j) (hx : Passes CX X E) (he : PE X o ta) (ha : PA X (e :: es) t)
    (hst : starEach (e :: es) X.env = (false, eval e X.env) :: starEach es X.env := by rfl) (hpl : (backTo pos (starEach es X.env)).any (·.1) = false := by rfl)
    (ht : eval (.Call (.Attribute o m apos) (e :: es) [] pos) X.env = (do
      let ov ← eval o X.env
      standAt apos.atName
      let (f, first) ← holding [ov] (getMethod ov m pl)
      callWith pos f first (backTo pos (starEach (e :: es) X.env)) (backToKw pos (keywordEach [] X.env))) := by rfl) :
    PE X (.Call (.Attribute o m apos) (e :: es) [] pos) (tMeD D C m sp E ta t) := by
  refine ⟨fun pins s σ H Q I h => ?_⟩
  refine PySem.W.methodCall_KW (pl := pl) (thn (he.run pins s σ H _ I h) fun u s1 ⟨x, H1, I1, rx, i, a, dx, fs, di, ex, ea, l, q⟩ => ?_) ht
  subst ex
  obtain ⟨f, fd, ps, cl, hm, F, hb⟩ := (c i di).ex
  obtain rfl : u = Value.ref a := rx
  refine getmeth_ok I1 ea cl hm l ?_
  refine PySem.W.callWith_K (first := [.ref a]) (h₀ := X.base) I.ok.mod.kin hm.kp (thn (ha.run pos pins s1 σ H1 _ I1 q) fun us s2 ⟨vs, H2, I2, r, q2⟩ => ⟨I2.kIn, ?_⟩) hst hpl
  exact run_fn (us := .ref a :: us) (vs := .ref a :: vs) F (hr.mono hk) hb .nil hx I2 (.cons rfl r) (by rw [List.append_nil]; exact q2)
theorem pe_meD0 {ι : Type} {D : ι → Prop} {C : ι → Addr} {sp : ι → Sp} {pl : Sem Bool} (c : ∀ i, D i → Met CX X.prog X.w X.K X.mg X.base k (C i) m (sp i)) (hr : Room j X.A) (hk : k ≤ j) (hx : Passes CX X E) (he : PE X o ta)
    (ht : eval (.Call (.Attribute o m apos) [] [] pos) X.env = (do
      let ov ← eval o X.env
      standAt apos.atName
      let (f, first) ← holding [ov] (getMethod ov m pl)
      callWith pos f first (backTo pos (starEach [] X.env)) (backToKw pos (keywordEach [] X.env))) := by rfl) :
    PE X (.Call (.Attribute o m apos) [] [] pos) (tMeD D C m sp E ta tNil) := by
  refine ⟨fun pins s σ H Q I h => ?_⟩
  refine PySem.W.methodCall_KW (pl := pl) (thn (he.run pins s σ H _ I h) fun u s1 ⟨x, H1, I1, rx, i, a, dx, fs, di, ex, ea, l, q⟩ => ?_) ht
  subst ex
  obtain ⟨f, fd, ps, cl, hm, F, hb⟩ := (c i di).ex
  obtain rfl : u = Value.ref a := rx
  refine getmeth_ok I1 ea cl hm l ?_
  exact PySem.W.callWith_K0 (first := [.ref a]) I1.kIn hm.kp (run_fn (us := [.ref a]) (vs := [.ref a]) F (hr.mono hk) hb .nil hx I1 (.cons rfl .nil) (by exact q))
/-- C() of a class that has no __init__ but object's -/
def tBare (C : Addr) : TE := fun σ H Q => ∀ x dx, H x = none → H dx = none → dx ≠ x → Q (.ref x) (upd (upd H dx (.own x)) x (.ins C dx []))
theorem pe_bare {C : Addr} (mk : PySem.W.makesIn X.K C = true) (ini : PySem.W.findIn X.K (.ref C) "__init__" = some (some (.builtin "object.__init__"))) (kp : PySem.W.keepIn X.K (.ref C) = true) (top : PySem.W.mroIn X.K C (.type "object") = some true)
    (hg : Gl X x) (hm : X.mg x = some (.ref C)) (hdb : (x == ("__debug__" : Str)) = false := by decide) : PE X (.Call (.Name x p) [] [] pos) (tBare C) := by
  refine ⟨fun pins s σ H Q I h => ?_⟩
  refine wpAny_Call_Name_kw (ld_glob I hg hm ?_ hdb)
  refine PySem.W.callWith_K0 I.kIn kp ?_
  have hq := h (s.heap.objs.size + 1) s.heap.objs.size (I.hok.fresh (Nat.le_succ _)) (I.hok.fresh (Nat.le_refl _)) (Nat.ne_of_lt (Nat.lt_succ_self _))
  have I2 := Inv.made (C := C) I
  refine wpAny_call (make_map0 I.kIn mk ini (fun self => PySem.W.Looks.of_pure (PySem.W.oi_bind _)) ?_)
  have g2 : ((s.heap.push PySem.W.emptyDict).push (PySem.W.instObj C s.heap.objs.size)).get? (s.heap.objs.size + 1) = some (PySem.W.instObj C s.heap.objs.size) := by
    have z := Heap.get?_push_size (s.heap.push PySem.W.emptyDict) (o := PySem.W.instObj C s.heap.objs.size) rfl
    rwa [Heap.size_push] at z
  have t2 : PySem.W.Looks (model X.prog X.w) ((s.heap.push PySem.W.emptyDict).push (PySem.W.instObj C s.heap.objs.size)) (isInstance (.ref (s.heap.objs.size + 1)) (.type "object")) true :=
    (NwA.type_at (o := PySem.W.instObj C s.heap.objs.size) (C := C) g2 rfl).andThen (PySem.W.looks_mroIn I2.kIn top)
  refine PySem.codeAny_call_builtin PySem.W.oi_plain PySem.W.entry_oi (@PySem.W.check_slot (model X.prog X.w) _ _ _ "object.__init__" "object" "__init__" (.ref (s.heap.objs.size + 1)) [] [] _ PySem.W.oi_kind PySem.W.oi_split t2 (NwA.oi_args_any (.ref (s.heap.objs.size + 1)) [] []) ?_)
  rw [PySem.W.oi_run]
  exact wpAny_pure ⟨rfl, .ref (s.heap.objs.size + 1), _, I2, rfl, hq⟩
end
section
variable {σ : St} {H : Hp} {Q : VK} {E : XK} {K : PySem.W.Frag} {te ta : TE} {t : TA}
theorem w_meD {ι : Type} {D : ι → Prop} {C : ι → Addr} {m : Str} {sp : ι → Sp} : tMeD D C m sp E ta t σ H Q = ta σ H fun x H1 => ∃ i a dx fs, D i ∧ x = .ref a ∧ H1 a = some (.ins (C i) dx fs) ∧ fs.lookup m = none ∧ t σ H1 fun vs H2 => sp i (x :: vs) H2 Q E := rfl
theorem w_maxD : tMaxD K te σ H Q = te σ H fun x H1 => ∃ a ns, x = .ref a ∧ SqL K H1 a (ns.map V.int) ∧ (∀ n ∈ ns, (0 : Int) ≤ n) ∧ Q (.int (maxL ns)) H1 := rfl
theorem w_bare {C : Addr} : tBare C σ H Q = ∀ x dx, H x = none → H dx = none → dx ≠ x → Q (.ref x) (upd (upd H dx (.own x)) x (.ins C dx [])) := rfl
end
/-- a def that may raise, called where it does not -/
theorem passL {P : Program} {w : World} {X : Cx} : Passes (L2.CX P w) X C8.E0 := fun _ _ _ _ _ _ _ h => by
  obtain ⟨_, _, _, _, _, _, _, _, _, _, _, _, h⟩ := h
  exact (show False from h).elim
end K06
set_option maxHeartbeats 4000000
namespace K06
open PySem L2
local macro_rules | `(tactic| walk_at "ws") => `(tactic| try simp only [w_var0, w_varS, w_c, w_ret, w_retN, w_next, w_seq, w_asg, w_gn, w_drop, w_if, w_and, w_or, w_not, ex_bl, ex_int, ex_two, w_B, w_test, w_andV, w_orV, w_notV, w_ife, w_op, w_un, w_chain, w_nil, w_cons, w_cb, w_ca, w_lst, w_tup, w_I0, w_I, w_U, w_eqI, w_neI, w_eqS, w_neS,
  w_isN0, w_notN0, w_fld, w_sfld, w_me, w_ma, w_dget, w_din, w_dnotin, w_dput, w_slice, w_part, w_nopart, w_bm, w_bm0, w_par, w_lc, w_for, w_iList, w_iTup, w_iStr, w_iRng1, w_iZip, w_iEnum, w_tM1, w_dnewK, w_gtup, w_glst, w_gcons, w_gnil, w_gsub, cx_K, cx_K',
  L2.start, endsOf, List.map_cons, List.map_nil, List.length_cons, List.length_nil, List.cons_append, List.nil_append, Nat.zero_add, Nat.reduceAdd, Nat.reduceSub, List.replicate_succ, List.replicate_zero, List.set_cons_zero, List.set_cons_succ, List.set_nil,
  sp0_eq, sp1_eq, sp2_eq, sp3_eq, sp4_eq, sp5_eq, if_true, Bool.false_eq_true, if_false, decide_eq_true_eq, Bool.not_eq_true', decide_eq_false_iff_not, Bool.not_true, Bool.not_false, Bool.not_eq_false', isD_int_none, isD_int_bool, isD_int_int, isD_int_str, isD_int_list, isD_int_tuple, isD_int_dict, isD_bool_none, isD_bool_bool, isD_bool_int, isD_bool_str, isD_bool_list, isD_bool_tuple, isD_bool_dict, isD_str_none, isD_str_bool, isD_str_int, isD_str_str, isD_str_list, isD_str_tuple, isD_str_dict, isD_list_none, isD_list_bool, isD_list_int, isD_list_str, isD_list_list, isD_list_tuple, isD_list_dict, isD_tuple_none, isD_tuple_bool, isD_tuple_int, isD_tuple_str, isD_tuple_list, isD_tuple_tuple, isD_tuple_dict])
local macro_rules | `(tactic| walk_at "al") => `(tactic| (intro p hp; generalize hH : upd _ _ _ = H2; obtain ⟨e2, g2⟩ := alloc1 hp hH.symm; clear hH))
/-! ### what a rule is told -/
inductive Told
  | always
  | week (b : Int)
  | each (l : Int) (ss : List Int)
  | span (f l : Int) (t : Told)
  | but (ds : List Int) (t : Told)
  | either (a b : Told)
  | both (a b : Told)
namespace Told
def cls : Told → Str
  | always => "Rule"
  | week _ => "Week"
  | each _ _ => "Each"
  | span _ _ _ => "Span"
  | but _ _ => "But"
  | either _ _ => "Either"
  | both _ _ => "Both"
def subs : Told → List Told
  | span _ _ t => [t]
  | but _ t => [t]
  | either a b => [a, b]
  | both a b => [a, b]
  | _ => []
def h : Told → Nat
  | span _ _ t => t.h + 1
  | but _ t => t.h + 1
  | either a b => max a.h b.h + 1
  | both a b => max a.h b.h + 1
  | _ => 1
def wt : Told → Int
  | span _ _ t => 1 + ([t.wt] : List Int).sum
  | but _ t => 1 + ([t.wt] : List Int).sum
  | either a b => 1 + ([a.wt, b.wt] : List Int).sum
  | both a b => 1 + ([a.wt, b.wt] : List Int).sum
  | _ => 1
def dp : Told → Int
  | span _ _ t => 1 + maxL [t.dp]
  | but _ t => 1 + maxL [t.dp]
  | either a b => 1 + maxL [a.dp, b.dp]
  | both a b => 1 + maxL [a.dp, b.dp]
  | _ => 1
def on : Told → Int → Bool
  | always, _ => true
  | week b, d => decide (b / 2 ^ (d % 7).toNat % 2 = 1)
  | each l ss, d => decide (d % l ∈ ss)
  | span f l t, d => (decide (f ≤ d) && decide (d ≤ l)) && t.on d
  | but ds t, d => t.on d != decide (d ∈ ds)
  | either a b, d => a.on d || b.on d
  | both a b, d => a.on d && b.on d
def rising (ns : List Int) (m : Int) : Prop := 1 ≤ ns.length ∧ ns.length ≤ 12 ∧ ns.Pairwise (· < ·) ∧ ∀ n ∈ ns, 0 ≤ n ∧ n ≤ m
def ok : Told → Prop
  | always => True
  | week b => 0 ≤ b ∧ b ≤ 127
  | each l ss => 1 ≤ l ∧ l ≤ 28 ∧ rising ss (l - 1)
  | span f l t => (0 ≤ f ∧ f ≤ l ∧ l ≤ 9999) ∧ t.ok
  | but ds t => rising ds 9999 ∧ t.ok
  | either a b => a.ok ∧ b.ok
  | both a b => a.ok ∧ b.ok
/-- as the law holds it -/
def d : Told → PyData
  | always => .tuple [.str "always"]
  | week b => .tuple [.str "week", .int b]
  | each l ss => .tuple [.str "each", .int l, .list (ss.map .int)]
  | span f l t => .tuple [.str "span", .int f, .int l, t.d]
  | but ds t => .tuple [.str "but", .list (ds.map .int), t.d]
  | either a b => .tuple [.str "either", a.d, b.d]
  | both a b => .tuple [.str "both", a.d, b.d]
theorem h_pos : ∀ t : Told, 1 ≤ t.h
  | always => Nat.le_refl _
  | week _ => Nat.le_refl _
  | each _ _ => Nat.le_refl _
  | span _ _ _ => Nat.le_add_left _ _
  | but _ _ => Nat.le_add_left _ _
  | either _ _ => Nat.le_add_left _ _
  | both _ _ => Nat.le_add_left _ _
theorem sub_h {t s : Told} {n : Nat} (hs : s ∈ t.subs) (h : t.h ≤ n + 1) : s.h ≤ n := by
  cases t <;> simp only [subs, List.mem_cons, List.not_mem_nil, or_false] at hs
  · subst hs; simp only [Told.h] at h; omega
  · subst hs; simp only [Told.h] at h; omega
  · rcases hs with rfl | rfl <;> (simp only [Told.h] at h; omega)
  · rcases hs with rfl | rfl <;> (simp only [Told.h] at h; omega)
theorem wt_nn : ∀ t : Told, 1 ≤ t.wt
  | always => Int.le_refl _
  | week _ => Int.le_refl _
  | each _ _ => Int.le_refl _
  | span _ _ t => by have := wt_nn t; simp [wt]; omega
  | but _ t => by have := wt_nn t; simp [wt]; omega
  | either a b => by have := wt_nn a; have := wt_nn b; simp [wt]; omega
  | both a b => by have := wt_nn a; have := wt_nn b; simp [wt]; omega
theorem wt_le : ∀ (n : Nat) (t : Told), t.h ≤ n → t.wt + 1 ≤ 2 ^ n
  | 0, t, h => by have := h_pos t; omega
  | n + 1, t, h => by
    have p : (2 : Int) ^ (n + 1) = 2 * 2 ^ n := by rw [Int.pow_succ]; omega
    have q : (1 : Int) ≤ 2 ^ n := by
      have := Int.pow_pos (n := 2) (m := n) (by decide)
      omega
    have sub : ∀ s ∈ t.subs, s.wt + 1 ≤ 2 ^ n := fun s hs => wt_le n s (sub_h hs h)
    cases t <;> simp only [wt, subs, List.mem_cons, List.not_mem_nil, or_false, forall_eq_or_imp, forall_eq, List.sum_cons, List.sum_nil] at sub ⊢ <;> omega
theorem maxL_nn : ∀ ns : List Int, 0 ≤ maxL ns
  | [] => Int.le_refl _
  | a :: r => by
    have := maxL_nn r
    show 0 ≤ if a ≤ maxL r then maxL r else a
    split <;> omega
theorem dp_nn : ∀ t : Told, 1 ≤ t.dp
  | always => Int.le_refl _
  | week _ => Int.le_refl _
  | each _ _ => Int.le_refl _
  | span _ _ t => by have := maxL_nn [t.dp]; simp only [dp]; omega
  | but _ t => by have := maxL_nn [t.dp]; simp only [dp]; omega
  | either a b => by have := maxL_nn [a.dp, b.dp]; simp only [dp]; omega
  | both a b => by have := maxL_nn [a.dp, b.dp]; simp only [dp]; omega
theorem maxL_le {ns : List Int} {m : Int} (h0 : 0 ≤ m) (h : ∀ n ∈ ns, n ≤ m) : maxL ns ≤ m := by
  induction ns with
  | nil => exact h0
  | cons a r ih =>
    have h1 := h a List.mem_cons_self
    have h2 := ih fun n hn => h n (List.mem_cons_of_mem _ hn)
    show (if a ≤ maxL r then maxL r else a) ≤ m
    split <;> omega
theorem dp_le : ∀ (n : Nat) (t : Told), t.h ≤ n → t.dp ≤ n
  | 0, t, h => by have := h_pos t; omega
  | n + 1, t, h => by
    have sub : ∀ s ∈ t.subs, s.dp ≤ n := fun s hs => dp_le n s (sub_h hs h)
    cases t <;> simp only [dp, subs, List.mem_cons, List.not_mem_nil, or_false, forall_eq_or_imp, forall_eq] at sub ⊢ <;> first | omega | skip
    · have := maxL_le (ns := [_]) (m := n) (by omega) (by simpa using sub); omega
    · have := maxL_le (ns := [_]) (m := n) (by omega) (by simpa using sub); omega
    · have := maxL_le (ns := [_, _]) (m := n) (by omega) (by simpa using sub); omega
    · have := maxL_le (ns := [_, _]) (m := n) (by omega) (by simpa using sub); omega
theorem wt_subs (t : Told) : t.wt = 1 + (t.subs.map wt).sum := by cases t <;> rfl
theorem dp_subs (t : Told) : t.dp = 1 + maxL (t.subs.map dp) := by cases t <;> rfl
theorem cls_mem (t : Told) : t.cls ∈ ruleNames := by cases t <;> simp [cls, ruleNames]
end Told
/-- a rule as the program holds it -/
def RuleAt (K : PySem.W.Frag) (H : Hp) : V → Told → Prop
  | v, .always => ∃ a dx, v = .ref a ∧ H a = some (.ins (He.ga K "Rule") dx [])
  | v, .week b => ∃ a dx, v = .ref a ∧ H a = some (.ins (He.ga K "Week") dx [("bits", .int b)])
  | v, .each l ss => ∃ a dx s, v = .ref a ∧ H a = some (.ins (He.ga K "Each") dx [("length", .int l), ("starts", .ref s)]) ∧ SqL K H s (ss.map V.int)
  | v, .span f l t => ∃ a dx u, v = .ref a ∧ H a = some (.ins (He.ga K "Span") dx [("first", .int f), ("last", .int l), ("within", u)]) ∧ RuleAt K H u t
  | v, .but ds t => ∃ a dx s u, v = .ref a ∧ H a = some (.ins (He.ga K "But") dx [("days", .ref s), ("under", u)]) ∧ SqL K H s (ds.map V.int) ∧ RuleAt K H u t
  | v, .either x y => ∃ a dx u z, v = .ref a ∧ H a = some (.ins (He.ga K "Either") dx [("one", u), ("other", z)]) ∧ RuleAt K H u x ∧ RuleAt K H z y
  | v, .both x y => ∃ a dx u z, v = .ref a ∧ H a = some (.ins (He.ga K "Both") dx [("one", u), ("other", z)]) ∧ RuleAt K H u x ∧ RuleAt K H z y
section
variable {P : Program} {w : World} {K : PySem.W.Frag} {mg : Str → Option Value} {base : Heap}
theorem RuleAt.up {H H' : Hp} (e : Same H H') : ∀ {t : Told} {v : V}, RuleAt K H v t → RuleAt K H' v t
  | .always, v, h => by
    obtain ⟨a, dx, rfl, h⟩ := h
    exact ⟨a, dx, rfl, e _ _ h⟩
  | .week b, v, h => by
    obtain ⟨a, dx, rfl, h⟩ := h
    exact ⟨a, dx, rfl, e _ _ h⟩
  | .each l ss, v, h => by
    obtain ⟨a, dx, s, rfl, h, h2⟩ := h
    exact ⟨a, dx, s, rfl, e _ _ h, e.seq h2⟩
  | .span f l t, v, h => by
    obtain ⟨a, dx, u, rfl, h, h2⟩ := h
    exact ⟨a, dx, u, rfl, e _ _ h, RuleAt.up e h2⟩
  | .but ds t, v, h => by
    obtain ⟨a, dx, s, u, rfl, h, h2, h3⟩ := h
    exact ⟨a, dx, s, u, rfl, e _ _ h, e.seq h2, RuleAt.up e h3⟩
  | .either x y, v, h => by
    obtain ⟨a, dx, u, z, rfl, h, h2, h3⟩ := h
    exact ⟨a, dx, u, z, rfl, e _ _ h, RuleAt.up e h2, RuleAt.up e h3⟩
  | .both x y, v, h => by
    obtain ⟨a, dx, u, z, rfl, h, h2, h3⟩ := h
    exact ⟨a, dx, u, z, rfl, e _ _ h, RuleAt.up e h2, RuleAt.up e h3⟩
theorem RuleAt.ins {H : Hp} {t : Told} {v : V} (h : RuleAt K H v t) : ∃ a dx fs, v = .ref a ∧ H a = some (.ins (He.ga K t.cls) dx fs) := by
  cases t
  · obtain ⟨a, dx, rfl, h⟩ := h; exact ⟨a, dx, _, rfl, h⟩
  · obtain ⟨a, dx, rfl, h⟩ := h; exact ⟨a, dx, _, rfl, h⟩
  · obtain ⟨a, dx, _, rfl, h, _⟩ := h; exact ⟨a, dx, _, rfl, h⟩
  · obtain ⟨a, dx, _, rfl, h, _⟩ := h; exact ⟨a, dx, _, rfl, h⟩
  · obtain ⟨a, dx, _, _, rfl, h, _⟩ := h; exact ⟨a, dx, _, rfl, h⟩
  · obtain ⟨a, dx, _, _, rfl, h, _⟩ := h; exact ⟨a, dx, _, rfl, h⟩
  · obtain ⟨a, dx, _, _, rfl, h, _⟩ := h; exact ⟨a, dx, _, rfl, h⟩
theorem RuleAt.isRule {H : Hp} {t : Told} {v : V} (h : RuleAt K H v t) : IsRule K H v := by
  obtain ⟨a, dx, fs, rfl, h2⟩ := h.ins
  exact ⟨a, t.cls, dx, fs, rfl, t.cls_mem, h2⟩
def ruleKeys : List Str := ["bits", "length", "starts", "first", "last", "within", "days", "under", "one", "other"]
theorem look_none {m : Str} (hm : m ∉ ruleKeys) : ∀ {fs : List (Str × V)}, (∀ p ∈ fs, p.1 ∈ ruleKeys) → fs.lookup m = none
  | [], _ => rfl
  | (k, v) :: r, h => by
    have hk : (m == k) = false := beq_eq_false_iff_ne.mpr fun e => hm (by rw [e]; exact h _ List.mem_cons_self)
    rw [List.lookup, hk]
    exact look_none hm fun p hp => h p (List.mem_cons_of_mem _ hp)
/-- a method of a rule is called -/
theorem r_meth {m : Str} {H : Hp} {t : Told} {v : V} {R : Str → Prop} (hm : m ∉ ruleKeys) (h : RuleAt K H v t) (r : R t.cls) :
    ∃ i a dx fs, i ∈ ruleNames ∧ v = .ref a ∧ H a = some (.ins (He.ga K i) dx fs) ∧ fs.lookup m = none ∧ R i := by
  refine ⟨t.cls, ?_⟩
  cases t
  · obtain ⟨a, dx, rfl, h⟩ := h; exact ⟨a, dx, _, Told.cls_mem _, rfl, h, look_none hm (by simp), r⟩
  · obtain ⟨a, dx, rfl, h⟩ := h; exact ⟨a, dx, _, Told.cls_mem _, rfl, h, look_none hm (by simp [ruleKeys]), r⟩
  · obtain ⟨a, dx, _, rfl, h, _⟩ := h; exact ⟨a, dx, _, Told.cls_mem _, rfl, h, look_none hm (by simp [ruleKeys]), r⟩
  · obtain ⟨a, dx, _, rfl, h, _⟩ := h; exact ⟨a, dx, _, Told.cls_mem _, rfl, h, look_none hm (by simp [ruleKeys]), r⟩
  · obtain ⟨a, dx, _, _, rfl, h, _⟩ := h; exact ⟨a, dx, _, Told.cls_mem _, rfl, h, look_none hm (by simp [ruleKeys]), r⟩
  · obtain ⟨a, dx, _, _, rfl, h, _⟩ := h; exact ⟨a, dx, _, Told.cls_mem _, rfl, h, look_none hm (by simp [ruleKeys]), r⟩
  · obtain ⟨a, dx, _, _, rfl, h, _⟩ := h; exact ⟨a, dx, _, Told.cls_mem _, rfl, h, look_none hm (by simp [ruleKeys]), r⟩
theorem no_parts : ("parts" : Str) ∉ ruleKeys := by decide +kernel
theorem no_weight : ("weight" : Str) ∉ ruleKeys := by decide +kernel
theorem no_depth : ("depth" : Str) ∉ ruleKeys := by decide +kernel
theorem no_runs : ("runs" : Str) ∉ ruleKeys := by decide +kernel
/-! ### the methods that all take from Rule -/
theorem me_weight (T : Tx K mg) : ∀ x ∈ ruleNames, Meth K (He.ga K x) "weight" (He.ma K (He.ga K "Rule") "weight") := by
  intro x hx
  have e := (eb_parts T).2.2.2.2.2.2.2.1
  simp only [ruleNames, List.mem_cons, List.not_mem_nil, or_false] at hx
  rcases hx with rfl | rfl | rfl | rfl | rfl | rfl | rfl
  · exact T.m_Rule_weight
  · rw [← (e "Week" (by simp [underNames])).1]; exact T.m_Week_weight
  · rw [← (e "Span" (by simp [underNames])).1]; exact T.m_Span_weight
  · rw [← (e "Each" (by simp [underNames])).1]; exact T.m_Each_weight
  · rw [← (e "Either" (by simp [underNames])).1]; exact T.m_Either_weight
  · rw [← (e "Both" (by simp [underNames])).1]; exact T.m_Both_weight
  · rw [← (e "But" (by simp [underNames])).1]; exact T.m_But_weight
theorem me_depth (T : Tx K mg) : ∀ x ∈ ruleNames, Meth K (He.ga K x) "depth" (He.ma K (He.ga K "Rule") "depth") := by
  intro x hx
  have e := (eb_parts T).2.2.2.2.2.2.2.1
  simp only [ruleNames, List.mem_cons, List.not_mem_nil, or_false] at hx
  rcases hx with rfl | rfl | rfl | rfl | rfl | rfl | rfl
  · exact T.m_Rule_depth
  · rw [← (e "Week" (by simp [underNames])).2]; exact T.m_Week_depth
  · rw [← (e "Span" (by simp [underNames])).2]; exact T.m_Span_depth
  · rw [← (e "Each" (by simp [underNames])).2]; exact T.m_Each_depth
  · rw [← (e "Either" (by simp [underNames])).2]; exact T.m_Either_depth
  · rw [← (e "Both" (by simp [underNames])).2]; exact T.m_Both_depth
  · rw [← (e "But" (by simp [underNames])).2]; exact T.m_But_depth
/-! ### parts -/
def p_parts (K : PySem.W.Frag) (x : Str) : P1 := fun v H Q _ => ∃ t : Told, t.cls = x ∧ RuleAt K H v t ∧ ∀ l us H', H l = none → Same H H' → H' l = some (.lst us) → Paired (fun t u => RuleAt K H u t) t.subs us → Q (.ref l) H'
theorem cls_bare {t : Told} (h : t.cls = "Rule" ∨ t.cls = "Week" ∨ t.cls = "Each") : t.subs = [] := by
  cases t <;> first | rfl | (exfalso; revert h; simp only [Told.cls]; decide +kernel)
theorem parts_bare (T : Tx K mg) {x : Str} (hc : Cls K (He.ga K x)) (hm : Meth K (He.ga K x) "parts" (He.ma K (He.ga K "Rule") "parts")) (hx : x = "Rule" ∨ x = "Week" ∨ x = "Each") : Met CX0 P w K mg base 1 (He.ga K x) "parts" (sp1 (p_parts K x)) := by
  refine met_of hc hm T.d_Rule_parts (fun _ _ _ _ _ _ => bind1 fun _ => rfl) sc_Rule_parts len1 fun vs H Q E ⟨v, e, h⟩ cdv A outer s hr => ?_
  subst e
  refine ⟨_, PSs.nox (pss_one (ps_ret (pe_lst pa_nil))), ?_⟩
  obtain ⟨t, ht, hv, q⟩ := h
  walk_at "ws"
  refine ⟨by decide, ?_⟩
  walk_at "al"
  rename_i l hl H2 e2 g2
  exact q l [] H2 hl e2 g2 (by rw [cls_bare (by rw [ht]; exact hx)]; exact .nil)
theorem parts_Span (T : Tx K mg) : Met CX0 P w K mg base 1 (He.ga K "Span") "parts" (sp1 (p_parts K "Span")) := by
  refine met_of T.cl_Span T.m_Span_parts T.d_Span_parts (fun _ _ _ _ _ _ => bind1 fun _ => rfl) sc_Span_parts len1 fun vs H Q E ⟨v, e, h⟩ cdv A outer s hr => ?_
  subst e
  refine ⟨_, PSs.nox (pss_one (ps_ret (pe_lst (pa_cons (pe_fld (pv 0) rfl) pa_nil)))), ?_⟩
  obtain ⟨t, ht, hv, q⟩ := h
  cases t <;> first | (exfalso; revert ht; simp only [Told.cls]; decide +kernel) | skip
  obtain ⟨a, dx, u, rfl, h1, h2⟩ := hv
  walk_at "ws"
  refine ⟨a, _, dx, _, u, rfl, h1, T.cl_Span, T.n_Span_within, rfl, ?_⟩
  walk_at "ws"
  refine ⟨by decide, ?_⟩
  walk_at "al"
  rename_i l hl H2 e2 g2
  exact q l _ H2 hl e2 g2 (.cons h2 .nil)
theorem parts_But (T : Tx K mg) : Met CX0 P w K mg base 1 (He.ga K "But") "parts" (sp1 (p_parts K "But")) := by
  refine met_of T.cl_But T.m_But_parts T.d_But_parts (fun _ _ _ _ _ _ => bind1 fun _ => rfl) sc_But_parts len1 fun vs H Q E ⟨v, e, h⟩ cdv A outer s hr => ?_
  subst e
  refine ⟨_, PSs.nox (pss_one (ps_ret (pe_lst (pa_cons (pe_fld (pv 0) rfl) pa_nil)))), ?_⟩
  obtain ⟨t, ht, hv, q⟩ := h
  cases t <;> first | (exfalso; revert ht; simp only [Told.cls]; decide +kernel) | skip
  obtain ⟨a, dx, s, u, rfl, h1, _, h2⟩ := hv
  walk_at "ws"
  refine ⟨a, _, dx, _, u, rfl, h1, T.cl_But, T.n_But_under, rfl, ?_⟩
  walk_at "ws"
  refine ⟨by decide, ?_⟩
  walk_at "al"
  rename_i l hl H2 e2 g2
  exact q l _ H2 hl e2 g2 (.cons h2 .nil)
theorem parts_Either (T : Tx K mg) : Met CX0 P w K mg base 1 (He.ga K "Either") "parts" (sp1 (p_parts K "Either")) := by
  refine met_of T.cl_Either T.m_Either_parts T.d_Either_parts (fun _ _ _ _ _ _ => bind1 fun _ => rfl) sc_Either_parts len1 fun vs H Q E ⟨v, e, h⟩ cdv A outer s hr => ?_
  subst e
  refine ⟨_, PSs.nox (pss_one (ps_ret (pe_lst (pa_cons (pe_fld (pv 0) rfl) (pa_cons (pe_fld (pv 0) rfl) pa_nil))))), ?_⟩
  obtain ⟨t, ht, hv, q⟩ := h
  cases t <;> first | (exfalso; revert ht; simp only [Told.cls]; decide +kernel) | skip
  obtain ⟨a, dx, u, z, rfl, h1, h2, h3⟩ := hv
  walk_at "ws"
  refine ⟨a, _, dx, _, u, rfl, h1, T.cl_Either, T.n_Either_one, rfl, ?_⟩
  refine ⟨a, _, dx, _, z, rfl, h1, T.cl_Either, T.n_Either_other, rfl, ?_⟩
  walk_at "ws"
  refine ⟨by decide, ?_⟩
  walk_at "al"
  rename_i l hl H2 e2 g2
  exact q l _ H2 hl e2 g2 (.cons h2 (.cons h3 .nil))
theorem parts_Both (T : Tx K mg) : Met CX0 P w K mg base 1 (He.ga K "Both") "parts" (sp1 (p_parts K "Both")) := by
  refine met_of T.cl_Both T.m_Both_parts T.d_Both_parts (fun _ _ _ _ _ _ => bind1 fun _ => rfl) sc_Both_parts len1 fun vs H Q E ⟨v, e, h⟩ cdv A outer s hr => ?_
  subst e
  refine ⟨_, PSs.nox (pss_one (ps_ret (pe_lst (pa_cons (pe_fld (pv 0) rfl) (pa_cons (pe_fld (pv 0) rfl) pa_nil))))), ?_⟩
  obtain ⟨t, ht, hv, q⟩ := h
  cases t <;> first | (exfalso; revert ht; simp only [Told.cls]; decide +kernel) | skip
  obtain ⟨a, dx, u, z, rfl, h1, h2, h3⟩ := hv
  walk_at "ws"
  refine ⟨a, _, dx, _, u, rfl, h1, T.cl_Both, T.n_Both_one, rfl, ?_⟩
  refine ⟨a, _, dx, _, z, rfl, h1, T.cl_Both, T.n_Both_other, rfl, ?_⟩
  walk_at "ws"
  refine ⟨by decide, ?_⟩
  walk_at "al"
  rename_i l hl H2 e2 g2
  exact q l _ H2 hl e2 g2 (.cons h2 (.cons h3 .nil))
theorem ok_parts (T : Tx K mg) : ∀ x ∈ ruleNames, Met CX0 P w K mg base 1 (He.ga K x) "parts" (sp1 (p_parts K x)) := by
  intro x hx
  have e := (eb_parts T).2.2.2.2.2.2.2.2.1
  simp only [ruleNames, List.mem_cons, List.not_mem_nil, or_false] at hx
  rcases hx with rfl | rfl | rfl | rfl | rfl | rfl | rfl
  · exact parts_bare T T.cl_Rule T.m_Rule_parts (.inl rfl)
  · exact parts_bare T T.cl_Week (by rw [← e "Week" (by simp [bareNames])]; exact T.m_Week_parts) (.inr (.inl rfl))
  · exact parts_Span T
  · exact parts_bare T T.cl_Each (by rw [← e "Each" (by simp [bareNames])]; exact T.m_Each_parts) (.inr (.inr rfl))
  · exact parts_Either T
  · exact parts_Both T
  · exact parts_But T
end
end K06
set_option maxHeartbeats 4000000
namespace K06
open PySem L2
local macro_rules | `(tactic| walk_at "ws") => `(tactic| try simp only [w_var0, w_varS, w_c, w_ret, w_retN, w_next, w_seq, w_asg, w_gn, w_drop, w_if, w_and, w_or, w_not, ex_bl, ex_int, ex_two, w_B, w_test, w_andV, w_orV, w_notV, w_ife, w_op, w_un, w_chain, w_nil, w_cons, w_cb, w_ca, w_lst, w_tup, w_I0, w_I, w_U, w_eqI, w_neI, w_eqS, w_neS,
  w_isN0, w_notN0, w_fld, w_sfld, w_me, w_ma, w_dget, w_din, w_dnotin, w_dput, w_slice, w_part, w_nopart, w_bm, w_bm0, w_par, w_lc, w_for, w_iList, w_iTup, w_iStr, w_iRng1, w_iZip, w_iEnum, w_tM1, w_dnewK, w_meD, w_maxD, w_bare, w_gtup, w_glst, w_gcons, w_gnil, w_gsub, cx_K, cx_K',
  L2.start, endsOf, List.map_cons, List.map_nil, List.length_cons, List.length_nil, List.cons_append, List.nil_append, Nat.zero_add, Nat.reduceAdd, Nat.reduceSub, List.replicate_succ, List.replicate_zero, List.set_cons_zero, List.set_cons_succ, List.set_nil,
  sp0_eq, sp1_eq, sp2_eq, sp3_eq, sp4_eq, sp5_eq, if_true, Bool.false_eq_true, if_false, decide_eq_true_eq, Bool.not_eq_true', decide_eq_false_iff_not, Bool.not_true, Bool.not_false, Bool.not_eq_false', isD_int_none, isD_int_bool, isD_int_int, isD_int_str, isD_int_list, isD_int_tuple, isD_int_dict, isD_bool_none, isD_bool_bool, isD_bool_int, isD_bool_str, isD_bool_list, isD_bool_tuple, isD_bool_dict, isD_str_none, isD_str_bool, isD_str_int, isD_str_str, isD_str_list, isD_str_tuple, isD_str_dict, isD_list_none, isD_list_bool, isD_list_int, isD_list_str, isD_list_list, isD_list_tuple, isD_list_dict, isD_tuple_none, isD_tuple_bool, isD_tuple_int, isD_tuple_str, isD_tuple_list, isD_tuple_tuple, isD_tuple_dict])
local macro_rules | `(tactic| walk_at "al") => `(tactic| (intro p hp; generalize hH : upd _ _ _ = H2; obtain ⟨e2, g2⟩ := alloc1 hp hH.symm; clear hH))
theorem paired_get {α : Type} {R : α → V → Prop} : ∀ {l : List α} {ys : List V} {i : Nat} {v : V}, Paired R l ys → ys[i]? = some v → ∃ a, l[i]? = some a ∧ R a v
  | _, _, 0, v, .cons h t, e => ⟨_, rfl, (Option.some.inj e) ▸ h⟩
  | _, _, i + 1, v, .cons h t, e => by
    obtain ⟨a, h1, h2⟩ := paired_get (i := i) t (by simpa using e)
    exact ⟨a, by simpa using h1, h2⟩
theorem paired_len {α : Type} {R : α → V → Prop} : ∀ {l : List α} {ys : List V}, Paired R l ys → ys.length = l.length
  | _, _, .nil => rfl
  | _, _, .cons h t => by simp [paired_len t]
section
variable {j : Nat} {tt : TT} {te : TE} {vs : List Nat} {σ : St} {H1 : Hp} {Q : VK} {K : PySem.W.Frag}
/-- over a list of known things: a value of each -/
theorem lcP {α : Type} {a : Addr} {xs : List V} (as : List α) (R : α → V → Prop) (f : α → V) (hx : SqL K H1 a xs) (hp : Paired R as xs) (hz : as.length < 100000) (hw : ∀ x, wipe ((wipe σ vs).set j (some x)) vs = wipe σ vs)
    (he : ∀ (t : α) (x : V) (H3 : Hp), Same H1 H3 → t ∈ as → R t x → ∀ R' : VK, (∀ H4, Same H3 H4 → R' (f t) H4) → te ((wipe σ vs).set j (some x)) H3 R')
    (k : ∀ D H, H1 D = none → Same H1 H → H D = some (.lst (as.map f)) → Q (.ref D) H) : LcR (Itl K a) (gName j) tYes te vs σ H1 Q := by
  have hl := paired_len hp
  refine lc_core' as (fun t x _ => R t x) (fun _ => true) (fun t y _ => y = f t) (fun i H e hi => ⟨xs, xs[i]'(by omega), e.seq hx, by simp [show i < xs.length by omega]⟩) (fun H e => ⟨xs, e.seq hx, by omega⟩) (fun i H x H' e hi y => ?_) hz hw (fun _ _ _ _ _ h => h)
    (fun i t x H e hb hx R r => r H (Same.refl H)) (fun i t x D H H3 acc e hb hx hp e3 hD h3 R r => he t x H3 (e.trans e3) (List.mem_of_getElem? hb) hx R fun H4 e4 => r _ H4 e4 rfl) fun D ys H hD e hl hp => ?_
  · obtain ⟨d, h1, h2⟩ := paired_get hp (y.2 xs (e.seq hx))
    exact ⟨y.1, d, h1, h2⟩
  · rw [List.filter_eq_self.mpr (fun _ _ => rfl)] at hp
    rw [paired_map hp] at hl
    exact k D H hD e hl
end
section
variable {P : Program} {w : World} {K : PySem.W.Frag} {mg : Str → Option Value} {base : Heap}
theorem subs_len (t : Told) : t.subs.length ≤ 2 := by cases t <;> simp [Told.subs]
def p_weight (K : PySem.W.Frag) (n : Nat) : P1 := fun v H Q _ => ∃ t : Told, RuleAt K H v t ∧ t.h ≤ n ∧ ∀ H', Same H H' → Q (.int t.wt) H'
theorem weight_step (T : Tx K mg) (n : Nat) (ih : ∀ x ∈ ruleNames, Met CX0 P w K mg base (n + 2) (He.ga K x) "weight" (sp1 (p_weight K n))) : ∀ x ∈ ruleNames, Met CX0 P w K mg base (n + 3) (He.ga K x) "weight" (sp1 (p_weight K (n + 1))) := by
  intro x hx
  refine met_of (rule_cls T x hx) (me_weight T x hx) T.d_Rule_weight (fun _ _ _ _ _ _ => bind1 fun _ => rfl) sc_Rule_weight len1 fun vs H Q E ⟨v, e, h⟩ cdv A outer s hr => ?_
  subst e
  refine ⟨_, PSs.nox (pss_one (ps_ret (pe_op op_add pe_int (pe_callB (cr_sum rfl) rfl T.f_sum (by decide +kernel) (pa_cons (pe_lc (own := [("part", 1)]) rfl sc_Rule_weight.nd (pi_list (pe_meD0 (D := fun x => x ∈ ruleNames) (C := He.ga K) (fun i hi => ok_parts T i hi) hr (by omega) pass0 (pv 0))) (blkOk_by (own := [("part", 1)]) (N := ["self", "part"]) (sc := defScope s_Rule_weight) (by decide +kernel)) (fun _ _ _ _ _ => pg_name (i := 1) sc_Rule_weight.nd rfl (Or.inl rfl)) (fun _ _ _ _ _ => pts_nil) (fun _ _ _ _ _ => (pe_meD0 (D := fun x => x ∈ ruleNames) (C := He.ga K) (fun i hi => ih i hi) hr (by omega) pass0 (pv 1)))) pa_nil))))), ?_⟩
  obtain ⟨t, hv, hn, q⟩ := h
  walk_at "ws"
  refine r_meth no_parts hv ?_
  walk_at "ws"
  refine ⟨t, rfl, hv, fun l us H1 hl e1 g1 hp => ?_⟩
  refine ⟨l, rfl, ⟨us, SqL.of g1⟩, ?_⟩
  refine lcP t.subs _ (fun t => V.int t.wt) (SqL.of g1) hp (Nat.lt_of_le_of_lt (subs_len t) (by decide)) (fun _ => rfl) (fun s x H3 e3 hs hx R r => ?_) fun D H2 hD e2 g2 => ?_
  · simp only [wipe]
    walk_at "ws"
    refine r_meth no_weight (hx.up (e1.trans e3)) ?_
    walk_at "ws"
    exact ⟨s, hx.up (e1.trans e3), Told.sub_h hs hn, r⟩
  · refine ⟨D, t.subs.map Told.wt, rfl, SqL.of (by rw [g2, List.map_map]; rfl), ?_⟩
    walk_at "ws"
    have q' := q H2 (e1.trans e2)
    rw [Told.wt_subs] at q'
    exact q'
theorem ok_weight (T : Tx K mg) : ∀ n : Nat, ∀ x ∈ ruleNames, Met CX0 P w K mg base (n + 2) (He.ga K x) "weight" (sp1 (p_weight K n))
  | 0, x, hx => met_of (rule_cls T x hx) (me_weight T x hx) T.d_Rule_weight (fun _ _ _ _ _ _ => bind1 fun _ => rfl) sc_Rule_weight len1 fun vs H Q E ⟨v, e, t, _, h, _⟩ => by
    have := t.h_pos
    omega
  | n + 1, x, hx => weight_step T n (ok_weight T n) x hx
def p_depth (K : PySem.W.Frag) (n : Nat) : P1 := fun v H Q _ => ∃ t : Told, RuleAt K H v t ∧ t.h ≤ n ∧ ∀ H', Same H H' → Q (.int t.dp) H'
theorem depth_step (T : Tx K mg) (n : Nat) (ih : ∀ x ∈ ruleNames, Met CX0 P w K mg base (n + 2) (He.ga K x) "depth" (sp1 (p_depth K n))) : ∀ x ∈ ruleNames, Met CX0 P w K mg base (n + 3) (He.ga K x) "depth" (sp1 (p_depth K (n + 1))) := by
  intro x hx
  refine met_of (rule_cls T x hx) (me_depth T x hx) T.d_Rule_depth (fun _ _ _ _ _ _ => bind1 fun _ => rfl) sc_Rule_depth len1 fun vs H Q E ⟨v, e, h⟩ cdv A outer s hr => ?_
  subst e
  have hu64 := hr.units
  refine ⟨_, PSs.nox (pss_one (ps_ret (pe_op op_add pe_int (pe_maxD rfl hu64 rfl T.f_max (pe_lc (own := [("part", 1)]) rfl sc_Rule_depth.nd (pi_list (pe_meD0 (D := fun x => x ∈ ruleNames) (C := He.ga K) (fun i hi => ok_parts T i hi) hr (by omega) pass0 (pv 0))) (blkOk_by (own := [("part", 1)]) (N := ["self", "part"]) (sc := defScope s_Rule_depth) (by decide +kernel)) (fun _ _ _ _ _ => pg_name (i := 1) sc_Rule_depth.nd rfl (Or.inl rfl)) (fun _ _ _ _ _ => pts_nil) (fun _ _ _ _ _ => (pe_meD0 (D := fun x => x ∈ ruleNames) (C := He.ga K) (fun i hi => ih i hi) hr (by omega) pass0 (pv 1)))) pe_int)))), ?_⟩
  obtain ⟨t, hv, hn, q⟩ := h
  walk_at "ws"
  refine r_meth no_parts hv ?_
  walk_at "ws"
  refine ⟨t, rfl, hv, fun l us H1 hl e1 g1 hp => ?_⟩
  refine ⟨l, rfl, ⟨us, SqL.of g1⟩, ?_⟩
  refine lcP t.subs _ (fun t => V.int t.dp) (SqL.of g1) hp (Nat.lt_of_le_of_lt (subs_len t) (by decide)) (fun _ => rfl) (fun s x H3 e3 hs hx R r => ?_) fun D H2 hD e2 g2 => ?_
  · simp only [wipe]
    walk_at "ws"
    refine r_meth no_depth (hx.up (e1.trans e3)) ?_
    walk_at "ws"
    exact ⟨s, hx.up (e1.trans e3), Told.sub_h hs hn, r⟩
  · refine ⟨D, t.subs.map Told.dp, rfl, SqL.of (by rw [g2, List.map_map]; rfl), fun n hn => ?_, ?_⟩
    · obtain ⟨s, _, rfl⟩ := List.mem_map.mp hn
      have := s.dp_nn
      omega
    · walk_at "ws"
      have q' := q H2 (e1.trans e2)
      rw [Told.dp_subs] at q'
      exact q'
theorem ok_depth (T : Tx K mg) : ∀ n : Nat, ∀ x ∈ ruleNames, Met CX0 P w K mg base (n + 2) (He.ga K x) "depth" (sp1 (p_depth K n))
  | 0, x, hx => met_of (rule_cls T x hx) (me_depth T x hx) T.d_Rule_depth (fun _ _ _ _ _ _ => bind1 fun _ => rfl) sc_Rule_depth len1 fun vs H Q E ⟨v, e, t, _, h, _⟩ => by
    have := t.h_pos
    omega
  | n + 1, x, hx => depth_step T n (ok_depth T n) x hx
def p_need_light (K : PySem.W.Frag) : P1 := fun v H Q _ => ∃ t : Told, RuleAt K H v t ∧ t.h ≤ 3 ∧ ∀ H', Same H H' → Q .non H'
theorem ok_need_light (T : Tx K mg) : Cal (L2.CX P w) P w K mg base 6 "need_light" (sp1 (p_need_light K)) := by
  refine cal_of T.d_need_light T.g_need_light (fun _ _ _ _ _ _ => bind1 fun _ => rfl) sc_need_light len1 fun vs H Q E ⟨v, e, h⟩ cdv A outer s hr => ?_
  subst e
  refine ⟨_, (pss_one (ps_if (PW.pt (pw_or (pt_cmpR op_gt (pe_meD0 (D := fun x => x ∈ ruleNames) (C := He.ga K) (fun i hi => ok_weight T 3 i hi) hr (by omega) pass0 (pv 0)) (C8.pe_gc rfl T.c_MOST_WEIGHT) (nomark _)) (pw_or1 (pt_cmpR op_gt (pe_meD0 (D := fun x => x ∈ ruleNames) (C := He.ga K) (fun i hi => ok_depth T 3 i hi) hr (by omega) pass0 (pv 0)) (C8.pe_gc rfl T.c_MOST_DEEP) (nomark _))))) (pss_one (ps_raise rfl (takes_of rfl rfl rfl rfl) (pmk_own PySem.F.excBase_ValueError T.x_TooMany T.g_TooMany T.k_TooMany (raises_own T.b_TooMany T.t_TooMany) rfl))) pss_nil)), ?_⟩
  obtain ⟨t, hv, hn, q⟩ := h
  walk_at "ws"
  refine r_meth no_weight hv ?_
  walk_at "ws"
  refine ⟨t, hv, hn, fun H1 e1 => ?_⟩
  have h1 := Told.wt_le 3 t hn
  have h2 := Told.dp_le 3 t hn
  walk_at "ws"
  rw [if_neg (by show ¬ (15 : Int) < t.wt; omega)]
  refine r_meth no_depth (hv.up e1) ?_
  walk_at "ws"
  refine ⟨t, hv.up e1, hn, fun H2 e2 => ?_⟩
  walk_at "ws"
  rw [if_neg (by show ¬ (8 : Int) < t.dp; omega)]
  exact q H2 (e1.trans e2)
/-! ### rising numbers -/
theorem rising_same : ∀ {xs ys : List Int}, xs.Pairwise (· < ·) → ys.Pairwise (· < ·) → (∀ k, k ∈ ys ↔ k ∈ xs) → ys = xs
  | [], [], _, _, _ => rfl
  | [], y :: ys, _, _, h => absurd ((h y).mp List.mem_cons_self) (by simp)
  | x :: xs, [], _, _, h => absurd ((h x).mpr List.mem_cons_self) (by simp)
  | x :: xs, y :: ys, hx, hy, h => by
    obtain ⟨x1, x2⟩ := List.pairwise_cons.mp hx
    obtain ⟨y1, y2⟩ := List.pairwise_cons.mp hy
    have e : y = x := by
      have a := (h y).mp List.mem_cons_self
      have b := (h x).mpr List.mem_cons_self
      rcases List.mem_cons.mp a with a | a
      · exact a
      · rcases List.mem_cons.mp b with b | b
        · exact b.symm
        · have := x1 y a
          have := y1 x b
          omega
    subst e
    rw [rising_same x2 y2 fun k => ⟨fun hk => ?_, fun hk => ?_⟩]
    · rcases List.mem_cons.mp ((h k).mp (List.mem_cons_of_mem _ hk)) with a | a
      · have := y1 k hk
        omega
      · exact a
    · rcases List.mem_cons.mp ((h k).mpr (List.mem_cons_of_mem _ hk)) with a | a
      · have := x1 k hk
        omega
      · exact a
theorem eqvAll_ints : ∀ xs ys : List Int, PyData.eqvAll (xs.map PyData.int) (ys.map PyData.int) = decide (xs = ys)
  | [], [] => by simp [PyData.eqvAll]
  | [], _ :: _ => by simp [PyData.eqvAll]
  | _ :: _, [] => by simp [PyData.eqvAll]
  | x :: xs, y :: ys => by
    rw [List.map_cons, List.map_cons, PyData.eqvAll, eqvAll_ints xs ys]
    by_cases h1 : x = y <;> by_cases h2 : xs = ys <;> simp [h1, h2, PyData.eqv]
theorem eqv_ints (xs ys : List Int) : PyData.eqv (.list (xs.map PyData.int)) (.list (ys.map PyData.int)) = decide (xs = ys) := by
  rw [PyData.eqv]
  exact eqvAll_ints xs ys
theorem shaped_ints (ns : List Int) : SeqAt.shaped (.list (ns.map PyData.int)) = true := shaped_list (n := 0) (fun d hd => by
    obtain ⟨c, hc, rfl⟩ := List.mem_map.mp hd
    rfl) fun d hd => by
    obtain ⟨c, hc, rfl⟩ := List.mem_map.mp hd
    exact Nat.le_of_eq (by simp [PyData.depth])
def p_are_rising (K : PySem.W.Frag) : P2 := fun v u H Q _ => ∃ a ns m, v = .ref a ∧ u = .int m ∧ SqL K H a (ns.map V.int) ∧ Told.rising ns m ∧ ∀ H', Same H H' → Q (.bl true) H'
theorem ok_are_rising (T : Tx K mg) : Cal CX0 P w K mg base 2 "are_rising" (sp2 (p_are_rising K)) := by
  refine cal_of T.d_are_rising T.g_are_rising (fun _ _ _ _ _ _ => bind2 fun _ _ => rfl) sc_are_rising len2 fun vs H Q E ⟨v, u, e, h⟩ cdv A outer s hr => ?_
  subst e
  have hu64 := hr.units
  refine ⟨_, PSs.nox (pss_cons (ps_if (PW.pt (pw_or (pt_not (pt_val (pe_callB call_isi rfl T.f_isinstance (by decide +kernel) (pa_cons (pv 0) (pa_cons (pe_bltn (v := .ty "list") rfl T.f_list (by decide +kernel) rfl) pa_nil))))) (pw_or1 (pt_not (pt_chain op_le op_le pe_int (pe_callB call_len_seq rfl T.f_len (by decide +kernel) (pa_cons (pv 0) pa_nil)) (C8.pe_gc rfl T.c_MOST_LISTED)))))) (pss_one (ps_ret pe_bl)) pss_nil)
    (pss_one (ps_ret (pe_and (pe_callB (cr_all rfl) rfl T.f_all (by decide +kernel) (pa_cons (pe_lc (own := [("one", 2)]) rfl sc_are_rising.nd (pi_list (pv 0)) (blkOk_by (own := [("one", 2)]) (N := ["thing", "most", "one"]) (sc := defScope s_are_rising) (by decide +kernel)) (fun _ _ _ _ _ => pg_name (i := 2) sc_are_rising.nd rfl (Or.inl rfl)) (fun _ _ _ _ _ => pts_nil) (fun _ _ _ _ _ => (pe_ca (ok_is_among T) hr (by decide) rfl pass0 (pa_cons (pv 2) (pa_cons pe_int (pa_cons (pv 1) pa_nil)))))) pa_nil)) (pe_one (pe_cmpR (op_eqD hu64) (pv 0) (pe_callB (cr_sortedSet rfl) rfl T.f_sorted (by decide +kernel) (pa_cons (pe_callTy (cr_setL rfl) rfl T.f_set (by decide +kernel) (pa_cons (pv 0) pa_nil)) pa_nil)) (nomark _))))))), ?_⟩
  obtain ⟨a, ns, m, rfl, rfl, ha, ⟨h1, h2, h3, h4⟩, q⟩ := h
  walk_at "ws"
  refine w_isL ha ?_
  walk_at "ws"
  refine ⟨a, _, rfl, .inl ha, ?_⟩
  rw [List.length_map, if_pos (by omega), if_neg (by omega)]
  refine ⟨a, rfl, ⟨_, ha⟩, ?_⟩
  refine lcB (ns.map PyData.int) (fun _ => true) ha (dpAll_ints ns) (by rw [List.length_map]; omega) (fun _ => rfl) (fun d x H3 e3 hm hx R r => ?_) fun D H1 hD e1 g1 => ?_
  · simp only [wipe]
    walk_at "ws"
    obtain ⟨i, hi, rfl⟩ := List.mem_map.mp hm
    refine ⟨.int i, 0, m, .dp (hx.up e3) rfl, rfl, rfl, ?_⟩
    have := h4 i hi
    rw [show amongD (.int i) 0 m = true from Bool.and_eq_true_iff.mpr ⟨decide_eq_true this.1, decide_eq_true this.2⟩]
    exact r H3 (Same.refl H3)
  · refine ⟨D, _, rfl, SqL.of g1, ?_⟩
    walk_at "ws"
    rw [all_id_map, List.all_eq_true.mpr (fun _ _ => rfl), if_pos rfl]
    refine ⟨a, ns, rfl, e1.seq ha, by omega, fun p c hp hc => ?_⟩
    have e2 : Same H1 (upd H1 p (SetO w p (fun j => decide (j ∈ ns)) c)) := Same.new hp
    refine ⟨p, _, c, rfl, upd_same, by omega, fun ns' l hs hmem hl hlp => ?_⟩
    have e3 : Same (upd H1 p (SetO w p (fun j => decide (j ∈ ns)) c)) (upd (upd H1 p (SetO w p (fun j => decide (j ∈ ns)) c)) l (.lst (ns'.map V.int))) := Same.new hlp
    have e13 := (e1.trans e2).trans e3
    have es : ns' = ns := rising_same h3 hs fun k => by rw [hmem k, decide_eq_true_eq]
    subst es
    refine ⟨_, _, .lst (e13.seq ha) (dpAll_ints _), .lst (SqL.of upd_same) (dpAll_ints _), shaped_ints _, shaped_ints _, ?_⟩
    rw [eqv_ints, decide_eq_true rfl]
    exact q _ e13
end
end K06
set_option maxHeartbeats 4000000
namespace K06
open PySem L2
local macro_rules | `(tactic| walk_at "ws") => `(tactic| try simp only [w_var0, w_varS, w_c, w_ret, w_retN, w_next, w_seq, w_asg, w_gn, w_drop, w_if, w_and, w_or, w_not, ex_bl, ex_int, ex_two, w_B, w_test, w_andV, w_orV, w_notV, w_ife, w_op, w_un, w_chain, w_nil, w_cons, w_cb, w_ca, w_lst, w_tup, w_I0, w_I, w_U, w_eqI, w_neI, w_eqS, w_neS,
  w_isN0, w_notN0, w_fld, w_sfld, w_me, w_ma, w_dget, w_din, w_dnotin, w_dput, w_slice, w_part, w_nopart, w_bm, w_bm0, w_par, w_lc, w_for, w_iList, w_iTup, w_iStr, w_iRng1, w_iZip, w_iEnum, w_tM1, w_dnewK, w_meD, w_maxD, w_bare, w_gtup, w_glst, w_gcons, w_gnil, w_gsub, cx_K, cx_K',
  L2.start, endsOf, List.map_cons, List.map_nil, List.length_cons, List.length_nil, List.cons_append, List.nil_append, Nat.zero_add, Nat.reduceAdd, Nat.reduceSub, List.replicate_succ, List.replicate_zero, List.set_cons_zero, List.set_cons_succ, List.set_nil,
  sp0_eq, sp1_eq, sp2_eq, sp3_eq, sp4_eq, sp5_eq, if_true, Bool.false_eq_true, if_false, decide_eq_true_eq, Bool.not_eq_true', decide_eq_false_iff_not, Bool.not_true, Bool.not_false, Bool.not_eq_false', isD_int_none, isD_int_bool, isD_int_int, isD_int_str, isD_int_list, isD_int_tuple, isD_int_dict, isD_bool_none, isD_bool_bool, isD_bool_int, isD_bool_str, isD_bool_list, isD_bool_tuple, isD_bool_dict, isD_str_none, isD_str_bool, isD_str_int, isD_str_str, isD_str_list, isD_str_tuple, isD_str_dict, isD_list_none, isD_list_bool, isD_list_int, isD_list_str, isD_list_list, isD_list_tuple, isD_list_dict, isD_tuple_none, isD_tuple_bool, isD_tuple_int, isD_tuple_str, isD_tuple_list, isD_tuple_tuple, isD_tuple_dict])
local macro_rules | `(tactic| walk_at "al") => `(tactic| (intro p hp; generalize hH : upd _ _ _ = H2; obtain ⟨e2, g2⟩ := alloc1 hp hH.symm; clear hH))
theorem w_neB {a b : Bool} {H : Hp} {Q : VK} : rNe (.bl a) (.bl b) H Q = Q (.bl (a != b)) H := by
  cases a <;> cases b <;> simp [rNe, scal]
theorem inV_ints (i : Int) (ns : List Int) : inV (.int i) (ns.map V.int) = decide (i ∈ ns) := by
  unfold inV
  rw [List.any_map]
  induction ns with
  | nil => rfl
  | cons a r ih =>
    rw [List.any_cons, ih]
    by_cases h : i = a
    · subst h; simp [eqV]
    · have h2 : (a == i) = false := beq_eq_false_iff_ne.mpr fun e => h e.symm
      simp [eqV, h, h2]
theorem flat_ints (ns : List Int) : (ns.map V.int).all flatV = true := by
  rw [List.all_map]
  exact List.all_eq_true.mpr fun _ _ => rfl
theorem w_inI {K : PySem.W.Frag} {H : Hp} {Q : VK} {i : Int} {a : Addr} {ns : List Int} (h : SqL K H a (ns.map V.int)) (q : Q (.bl (decide (i ∈ ns))) H) : rIn K false (.int i) (.ref a) H Q :=
  ⟨a, _, rfl, .inl h, rfl, flat_ints ns, by rw [inV_ints]; exact q⟩
theorem bitAnd1 (i : Int) : Builtin.bitAnd i 1 = i % 2 := by
  have := PySem.W.kbt_mask i 1
  simpa using this
section
variable {P : Program} {w : World} {K : PySem.W.Frag} {mg : Str → Option Value} {base : Heap}
theorem SameB.trans {a : Addr} {H H1 H2 : Hp} (e1 : SameB a H H1) (e2 : SameB a H1 H2) : SameB a H H2 := fun b o hb h => e2 b o hb (e1 b o hb h)
theorem SameB.cut {a : Addr} {H H' : Hp} (e : SameB a H H') : Same (cut a H) H' := fun b u q => by
  unfold K06.cut at q
  split at q
  · cases q
  · rename_i hb
    exact e b u hb q
theorem sameB_upd {a : Addr} {H : Hp} {o : HO} : SameB a H (upd H a o) := sameB_of (Same.refl H)
theorem out_true {Q : VK} {E : XK} {H : Hp} {x : Option Str} (q : Q .non H) : Out K (if true = true then none else x) Q E H := q
/-! ### a rule is made -/
def p_Week_init (K : PySem.W.Frag) : P2 := fun v b H Q _ => ∃ p dx i, v = .ref p ∧ b = .int i ∧ 0 ≤ i ∧ i ≤ 127 ∧ H p = some (.ins (He.ga K "Week") dx []) ∧ ∀ H', SameB p H H' → H' p = some (.ins (He.ga K "Week") dx [("bits", .int i)]) → Q .non H'
theorem ok_Week_init (T : Tx K mg) : Mak (L2.CX P w) P w K mg base 3 "Week" (He.ga K "Week") (sp2 (p_Week_init K)) := by
  refine mak_of T.mk_Week T.g_Week T.d_Week_init (fun _ _ _ _ _ _ => bind2 fun _ _ => rfl) sc_Week_init len2 fun vs H Q E ⟨v, b, e, h⟩ cdv A outer s hr => ?_
  subst e
  refine ⟨_, (pss_cons (ps_expr (pe_ca (ok_need T) hr (by decide) rfl (passes_call (takes_of rfl rfl rfl rfl) (fun _ _ _ _ h => h)) (pa_cons (pe_ca (ok_is_among T) hr (by decide) rfl pass0 (pa_cons (pv 1) (pa_cons pe_int (pa_cons pe_int pa_nil)))) pa_nil)))
    (pss_one (ps_fld (pv 0) (pv 1) rfl))), ?_⟩
  obtain ⟨p, dx, i, rfl, rfl, h0, h1, hp, q⟩ := h
  walk_at "ws"
  refine ⟨.int i, 0, 127, .dp (.int i) rfl, rfl, rfl, ?_⟩
  walk_at "ws"
  refine ⟨_, rfl, ?_⟩
  rw [show amongD (.int i) 0 127 = true from Bool.and_eq_true_iff.mpr ⟨decide_eq_true h0, decide_eq_true h1⟩]
  refine ⟨p, _, dx, [], rfl, hp, T.cl_Week, T.n_Week_bits, by decide, ?_⟩
  exact q _ sameB_upd upd_same
def p_Each_init (K : PySem.W.Frag) : P3 := fun v b c H Q _ => ∃ p dx i s ns, v = .ref p ∧ b = .int i ∧ c = .ref s ∧ 1 ≤ i ∧ i ≤ 28 ∧ SqL K (cut p H) s (ns.map V.int) ∧ Told.rising ns (i - 1) ∧ H p = some (.ins (He.ga K "Each") dx []) ∧
  ∀ l H', H l = none → SameB p H H' → H' p = some (.ins (He.ga K "Each") dx [("length", .int i), ("starts", .ref l)]) → H' l = some (.lst (ns.map V.int)) → Q .non H'
theorem ok_Each_init (T : Tx K mg) : Mak (L2.CX P w) P w K mg base 3 "Each" (He.ga K "Each") (sp3 (p_Each_init K)) := by
  refine mak_of T.mk_Each T.g_Each T.d_Each_init (fun _ _ _ _ _ _ => bind3 fun _ _ _ => rfl) sc_Each_init len3 fun vs H Q E ⟨v, b, c, e, h⟩ cdv A outer s hr => ?_
  subst e
  refine ⟨_, (pss_cons (ps_expr (pe_ca (ok_need T) hr (by decide) rfl (passes_call (takes_of rfl rfl rfl rfl) (fun _ _ _ _ h => h)) (pa_cons (pe_and (pe_ca (ok_is_among T) hr (by decide) rfl pass0 (pa_cons (pv 1) (pa_cons pe_int (pa_cons (C8.pe_gc rfl T.c_MOST_LENGTH) pa_nil)))) (pe_one (pe_ca (ok_are_rising T) hr (by decide) rfl pass0 (pa_cons (pv 2) (pa_cons (pe_op op_sub (pv 1) pe_int) pa_nil))))) pa_nil)))
    (pss_cons (ps_fld (pv 0) (pv 1) rfl)
    (pss_one (ps_fld (pv 0) (pe_callTy call_list_of rfl T.f_list (by decide +kernel) (pa_cons (pv 2) pa_nil)) rfl)))), ?_⟩
  obtain ⟨p, dx, i, s, ns, rfl, rfl, rfl, h0, h1, hs, hrs, hp, q⟩ := h
  walk_at "ws"
  refine ⟨.int i, 1, 28, .dp (.int i) rfl, rfl, rfl, ?_⟩
  rw [show amongD (.int i) 1 28 = true from Bool.and_eq_true_iff.mpr ⟨decide_eq_true h0, decide_eq_true h1⟩]
  walk_at "ws"
  refine ⟨s, ns, i - 1, rfl, rfl, cut_same.seq hs, hrs, fun H1 e1 => ?_⟩
  refine ⟨true, rfl, ?_⟩
  refine ⟨p, _, dx, [], rfl, e1 _ _ hp, T.cl_Each, T.n_Each_length, by decide, ?_⟩
  have b1 : SameB p H (upd H1 p (.ins (He.ga K "Each") dx (putF "length" (.int i) []))) := sameB_of e1
  have hs2 : SqL K (upd H1 p (.ins (He.ga K "Each") dx (putF "length" (.int i) []))) s (ns.map V.int) := b1.cut.seq hs
  have hp2 : (upd H1 p (.ins (He.ga K "Each") dx (putF "length" (.int i) []))) p = some (.ins (He.ga K "Each") dx [("length", .int i)]) := upd_same
  generalize upd H1 p _ = H2 at *
  refine ⟨s, _, rfl, .inl hs2, ?_⟩
  walk_at "al"
  rename_i l hl H3 e3 g3
  refine ⟨p, _, dx, _, rfl, e3 _ _ hp2, T.cl_Each, T.n_Each_starts, (by show 1 < 1000; decide), ?_⟩
  have nl : p ≠ l := ne_of_none hp2 hl
  refine q l _ ?_ ((b1.trans fun b o hb h => e3 _ _ h).trans sameB_upd) upd_same (by rw [upd_ne nl.symm]; exact g3)
  cases e : H l with
  | none => rfl
  | some u =>
    rw [b1 _ _ nl.symm e] at hl
    cases hl
def p_Span_init (K : PySem.W.Frag) : P4 := fun v b c z H Q _ => ∃ p dx i j t, v = .ref p ∧ b = .int i ∧ c = .int j ∧ 0 ≤ i ∧ i ≤ j ∧ j ≤ 9999 ∧ RuleAt K (cut p H) z t ∧ t.h ≤ 2 ∧ H p = some (.ins (He.ga K "Span") dx []) ∧
  ∀ H', SameB p H H' → H' p = some (.ins (He.ga K "Span") dx [("first", .int i), ("last", .int j), ("within", z)]) → Q .non H'
theorem ok_Span_init (T : Tx K mg) : Mak (L2.CX P w) P w K mg base 7 "Span" (He.ga K "Span") (sp4 (p_Span_init K)) := by
  refine mak_of T.mk_Span T.g_Span T.d_Span_init (fun _ _ _ _ _ _ => bind4 fun _ _ _ _ => rfl) sc_Span_init len4 fun vs H Q E ⟨v, b, c, z, e, h⟩ cdv A outer s hr => ?_
  subst e
  refine ⟨_, (pss_cons (ps_expr (pe_ca (ok_need T) hr (by decide) rfl (passes_call (takes_of rfl rfl rfl rfl) (fun _ _ _ _ h => h)) (pa_cons (pe_and (pe_ca (ok_is_among T) hr (by decide) rfl pass0 (pa_cons (pv 1) (pa_cons pe_int (pa_cons (C8.pe_gc rfl T.c_LAST_DAY) pa_nil)))) (pe_and (pe_ca (ok_is_among T) hr (by decide) rfl pass0 (pa_cons (pv 2) (pa_cons pe_int (pa_cons (C8.pe_gc rfl T.c_LAST_DAY) pa_nil)))) (pe_one (pe_cmpR op_le (pv 1) (pv 2) (nomark _))))) pa_nil)))
    (pss_cons (ps_expr (pe_ca (ok_need T) hr (by decide) rfl (passes_call (takes_of rfl rfl rfl rfl) (fun _ _ _ _ h => h)) (pa_cons (pe_callB call_isi rfl T.f_isinstance (by decide +kernel) (pa_cons (pv 3) (pa_cons (C8.pe_gc (v := .ref (He.ga K "Rule")) rfl ⟨_, T.g_Rule, rfl⟩) pa_nil))) pa_nil)))
    (pss_cons (ps_fld (pv 0) (pv 1) rfl)
    (pss_cons (ps_fld (pv 0) (pv 2) rfl)
    (pss_cons (ps_fld (pv 0) (pv 3) rfl)
    (pss_one (ps_expr (pe_ca (ok_need_light T) hr (by decide) rfl (passes_call (takes_of rfl rfl rfl rfl) (fun _ _ _ _ h => h)) (pa_cons (pv 0) pa_nil))))))))), ?_⟩
  obtain ⟨p, dx, i, j, t, rfl, rfl, rfl, h0, h1, h2, ht, hh, hp, q⟩ := h
  walk_at "ws"
  refine ⟨.int i, 0, 9999, .dp (.int i) rfl, rfl, rfl, ?_⟩
  rw [show amongD (.int i) 0 9999 = true from Bool.and_eq_true_iff.mpr ⟨decide_eq_true h0, decide_eq_true (by omega)⟩]
  walk_at "ws"
  refine ⟨.int j, 0, 9999, .dp (.int j) rfl, rfl, rfl, ?_⟩
  rw [show amongD (.int j) 0 9999 = true from Bool.and_eq_true_iff.mpr ⟨decide_eq_true (by omega), decide_eq_true h2⟩]
  walk_at "ws"
  refine ⟨_, rfl, ?_⟩
  rw [decide_eq_true h1]
  refine out_true ?_
  refine w_isRule T (ht.up cut_same).isRule ?_
  refine ⟨_, rfl, ?_⟩
  refine ⟨p, _, dx, [], rfl, hp, T.cl_Span, T.n_Span_first, by decide, ?_⟩
  refine ⟨p, _, dx, _, rfl, upd_same, T.cl_Span, T.n_Span_last, ltF (lenF len0F) (by decide), ?_⟩
  refine ⟨p, _, dx, _, rfl, upd_same, T.cl_Span, T.n_Span_within, ltF (lenF (lenF len0F)) (by decide), ?_⟩
  generalize hH : upd (upd (upd H p _) p _) p _ = H3
  have b3 : SameB p H H3 := by
    rw [← hH]
    exact (sameB_upd.trans sameB_upd).trans sameB_upd
  have g3 : H3 p = some (.ins (He.ga K "Span") dx [("first", .int i), ("last", .int j), ("within", z)]) := by
    rw [← hH]
    exact upd_same
  clear hH
  refine ⟨.span i j t, ⟨p, dx, z, rfl, g3, ht.up b3.cut⟩, by show t.h + 1 ≤ 3; omega, fun H4 e4 => ?_⟩
  exact q H4 (b3.trans fun b o _ h => e4 _ _ h) (e4 _ _ g3)
def p_two_init (K : PySem.W.Frag) (C : Str) : P3 := fun v b c H Q _ => ∃ p dx t1 t2, v = .ref p ∧ RuleAt K (cut p H) b t1 ∧ RuleAt K (cut p H) c t2 ∧ t1.h ≤ 2 ∧ t2.h ≤ 2 ∧ H p = some (.ins (He.ga K C) dx []) ∧
  ∀ H', SameB p H H' → H' p = some (.ins (He.ga K C) dx [("one", b), ("other", c)]) → Q .non H'
theorem ok_Either_init (T : Tx K mg) : Mak (L2.CX P w) P w K mg base 7 "Either" (He.ga K "Either") (sp3 (p_two_init K "Either")) := by
  refine mak_of T.mk_Either T.g_Either T.d_Either_init (fun _ _ _ _ _ _ => bind3 fun _ _ _ => rfl) sc_Either_init len3 fun vs H Q E ⟨v, b, c, e, h⟩ cdv A outer s hr => ?_
  subst e
  refine ⟨_, (pss_cons (ps_expr (pe_ca (ok_need T) hr (by decide) rfl (passes_call (takes_of rfl rfl rfl rfl) (fun _ _ _ _ h => h)) (pa_cons (pe_and (pe_callB call_isi rfl T.f_isinstance (by decide +kernel) (pa_cons (pv 1) (pa_cons (C8.pe_gc (v := .ref (He.ga K "Rule")) rfl ⟨_, T.g_Rule, rfl⟩) pa_nil))) (pe_one (pe_callB call_isi rfl T.f_isinstance (by decide +kernel) (pa_cons (pv 2) (pa_cons (C8.pe_gc (v := .ref (He.ga K "Rule")) rfl ⟨_, T.g_Rule, rfl⟩) pa_nil))))) pa_nil)))
    (pss_cons (ps_fld (pv 0) (pv 1) rfl)
    (pss_cons (ps_fld (pv 0) (pv 2) rfl)
    (pss_one (ps_expr (pe_ca (ok_need_light T) hr (by decide) rfl (passes_call (takes_of rfl rfl rfl rfl) (fun _ _ _ _ h => h)) (pa_cons (pv 0) pa_nil))))))), ?_⟩
  obtain ⟨p, dx, t1, t2, rfl, h1, h2, hh1, hh2, hp, q⟩ := h
  walk_at "ws"
  refine w_isRule T (h1.up cut_same).isRule ?_
  walk_at "ws"
  refine w_isRule T (h2.up cut_same).isRule ?_
  refine ⟨_, rfl, ?_⟩
  refine ⟨p, _, dx, [], rfl, hp, T.cl_Either, T.n_Either_one, by decide, ?_⟩
  refine ⟨p, _, dx, _, rfl, upd_same, T.cl_Either, T.n_Either_other, ltF (lenF len0F) (by decide), ?_⟩
  generalize hH : upd (upd H p _) p _ = H3
  have b3 : SameB p H H3 := by
    rw [← hH]
    exact sameB_upd.trans sameB_upd
  have g3 : H3 p = some (.ins (He.ga K "Either") dx [("one", b), ("other", c)]) := by
    rw [← hH]
    exact upd_same
  clear hH
  refine ⟨.either t1 t2, ⟨p, dx, b, c, rfl, g3, h1.up b3.cut, h2.up b3.cut⟩, by show max t1.h t2.h + 1 ≤ 3; omega, fun H4 e4 => ?_⟩
  exact q H4 (b3.trans fun b o _ h => e4 _ _ h) (e4 _ _ g3)
theorem ok_Both_init (T : Tx K mg) : Mak (L2.CX P w) P w K mg base 7 "Both" (He.ga K "Both") (sp3 (p_two_init K "Both")) := by
  refine mak_of T.mk_Both T.g_Both T.d_Both_init (fun _ _ _ _ _ _ => bind3 fun _ _ _ => rfl) sc_Both_init len3 fun vs H Q E ⟨v, b, c, e, h⟩ cdv A outer s hr => ?_
  subst e
  refine ⟨_, (pss_cons (ps_expr (pe_ca (ok_need T) hr (by decide) rfl (passes_call (takes_of rfl rfl rfl rfl) (fun _ _ _ _ h => h)) (pa_cons (pe_and (pe_callB call_isi rfl T.f_isinstance (by decide +kernel) (pa_cons (pv 1) (pa_cons (C8.pe_gc (v := .ref (He.ga K "Rule")) rfl ⟨_, T.g_Rule, rfl⟩) pa_nil))) (pe_one (pe_callB call_isi rfl T.f_isinstance (by decide +kernel) (pa_cons (pv 2) (pa_cons (C8.pe_gc (v := .ref (He.ga K "Rule")) rfl ⟨_, T.g_Rule, rfl⟩) pa_nil))))) pa_nil)))
    (pss_cons (ps_fld (pv 0) (pv 1) rfl)
    (pss_cons (ps_fld (pv 0) (pv 2) rfl)
    (pss_one (ps_expr (pe_ca (ok_need_light T) hr (by decide) rfl (passes_call (takes_of rfl rfl rfl rfl) (fun _ _ _ _ h => h)) (pa_cons (pv 0) pa_nil))))))), ?_⟩
  obtain ⟨p, dx, t1, t2, rfl, h1, h2, hh1, hh2, hp, q⟩ := h
  walk_at "ws"
  refine w_isRule T (h1.up cut_same).isRule ?_
  walk_at "ws"
  refine w_isRule T (h2.up cut_same).isRule ?_
  refine ⟨_, rfl, ?_⟩
  refine ⟨p, _, dx, [], rfl, hp, T.cl_Both, T.n_Both_one, by decide, ?_⟩
  refine ⟨p, _, dx, _, rfl, upd_same, T.cl_Both, T.n_Both_other, ltF (lenF len0F) (by decide), ?_⟩
  generalize hH : upd (upd H p _) p _ = H3
  have b3 : SameB p H H3 := by
    rw [← hH]
    exact sameB_upd.trans sameB_upd
  have g3 : H3 p = some (.ins (He.ga K "Both") dx [("one", b), ("other", c)]) := by
    rw [← hH]
    exact upd_same
  clear hH
  refine ⟨.both t1 t2, ⟨p, dx, b, c, rfl, g3, h1.up b3.cut, h2.up b3.cut⟩, by show max t1.h t2.h + 1 ≤ 3; omega, fun H4 e4 => ?_⟩
  exact q H4 (b3.trans fun b o _ h => e4 _ _ h) (e4 _ _ g3)
def p_But_init (K : PySem.W.Frag) : P3 := fun v b c H Q _ => ∃ p dx s ns t, v = .ref p ∧ b = .ref s ∧ SqL K (cut p H) s (ns.map V.int) ∧ Told.rising ns 9999 ∧ RuleAt K (cut p H) c t ∧ t.h ≤ 2 ∧ H p = some (.ins (He.ga K "But") dx []) ∧
  ∀ l H', H l = none → SameB p H H' → H' p = some (.ins (He.ga K "But") dx [("days", .ref l), ("under", c)]) → H' l = some (.lst (ns.map V.int)) → Q .non H'
theorem ok_But_init (T : Tx K mg) : Mak (L2.CX P w) P w K mg base 7 "But" (He.ga K "But") (sp3 (p_But_init K)) := by
  refine mak_of T.mk_But T.g_But T.d_But_init (fun _ _ _ _ _ _ => bind3 fun _ _ _ => rfl) sc_But_init len3 fun vs H Q E ⟨v, b, c, e, h⟩ cdv A outer s0 hr => ?_
  subst e
  refine ⟨_, (pss_cons (ps_expr (pe_ca (ok_need T) hr (by decide) rfl (passes_call (takes_of rfl rfl rfl rfl) (fun _ _ _ _ h => h)) (pa_cons (pe_ca (ok_are_rising T) hr (by decide) rfl pass0 (pa_cons (pv 1) (pa_cons (C8.pe_gc rfl T.c_LAST_DAY) pa_nil))) pa_nil)))
    (pss_cons (ps_expr (pe_ca (ok_need T) hr (by decide) rfl (passes_call (takes_of rfl rfl rfl rfl) (fun _ _ _ _ h => h)) (pa_cons (pe_callB call_isi rfl T.f_isinstance (by decide +kernel) (pa_cons (pv 2) (pa_cons (C8.pe_gc (v := .ref (He.ga K "Rule")) rfl ⟨_, T.g_Rule, rfl⟩) pa_nil))) pa_nil)))
    (pss_cons (ps_fld (pv 0) (pe_callTy call_list_of rfl T.f_list (by decide +kernel) (pa_cons (pv 1) pa_nil)) rfl)
    (pss_cons (ps_fld (pv 0) (pv 2) rfl)
    (pss_one (ps_expr (pe_ca (ok_need_light T) hr (by decide) rfl (passes_call (takes_of rfl rfl rfl rfl) (fun _ _ _ _ h => h)) (pa_cons (pv 0) pa_nil)))))))), ?_⟩
  obtain ⟨p, dx, s, ns, t, rfl, rfl, hs, hrs, ht, hh, hp, q⟩ := h
  walk_at "ws"
  refine ⟨s, ns, 9999, rfl, rfl, cut_same.seq hs, hrs, fun H1 e1 => ?_⟩
  walk_at "ws"
  refine ⟨_, rfl, ?_⟩
  refine out_true ?_
  refine w_isRule T ((ht.up cut_same).up e1).isRule ?_
  refine ⟨_, rfl, ?_⟩
  refine ⟨s, _, rfl, .inl (e1.seq (cut_same.seq hs)), ?_⟩
  walk_at "al"
  rename_i l hl H2 e2 g2
  have e12 := e1.trans e2
  refine ⟨p, _, dx, [], rfl, e12 _ _ hp, T.cl_But, T.n_But_days, by decide, ?_⟩
  refine ⟨p, _, dx, _, rfl, upd_same, T.cl_But, T.n_But_under, ltF (lenF len0F) (by decide), ?_⟩
  have nl : p ≠ l := ne_of_none (e1 _ _ hp) hl
  generalize hH : upd (upd H2 p _) p _ = H3
  have b3 : SameB p H H3 := by
    rw [← hH]
    exact (sameB_of e12).trans sameB_upd
  have g3 : H3 p = some (.ins (He.ga K "But") dx [("days", .ref l), ("under", c)]) := by
    rw [← hH]
    exact upd_same
  have g4 : H3 l = some (.lst (ns.map V.int)) := by
    rw [← hH, upd_ne nl.symm, upd_ne nl.symm]
    exact g2
  clear hH
  refine ⟨.but ns t, ⟨p, dx, l, c, rfl, g3, SqL.of g4, ht.up b3.cut⟩, by show t.h + 1 ≤ 3; omega, fun H4 e4 => ?_⟩
  exact q l H4 (e1.free hl) (b3.trans fun b o _ h => e4 _ _ h) (e4 _ _ g3) (e4 _ _ g4)
end
end K06
set_option maxHeartbeats 4000000
namespace K06
open PySem L2
local macro_rules | `(tactic| walk_at "ws") => `(tactic| try simp only [w_var0, w_varS, w_c, w_ret, w_retN, w_next, w_seq, w_asg, w_gn, w_drop, w_if, w_and, w_or, w_not, ex_bl, ex_int, ex_two, w_B, w_test, w_andV, w_orV, w_notV, w_ife, w_op, w_un, w_chain, w_nil, w_cons, w_cb, w_ca, w_lst, w_tup, w_I0, w_I, w_U, w_eqI, w_neI, w_eqS, w_neS,
  w_isN0, w_notN0, w_fld, w_sfld, w_me, w_ma, w_dget, w_din, w_dnotin, w_dput, w_slice, w_part, w_nopart, w_bm, w_bm0, w_par, w_lc, w_for, w_iList, w_iTup, w_iStr, w_iRng1, w_iZip, w_iEnum, w_tM1, w_dnewK, w_meD, w_maxD, w_bare, w_gtup, w_glst, w_gcons, w_gnil, w_gsub, cx_K, cx_K',
  L2.start, endsOf, List.map_cons, List.map_nil, List.length_cons, List.length_nil, List.cons_append, List.nil_append, Nat.zero_add, Nat.reduceAdd, Nat.reduceSub, List.replicate_succ, List.replicate_zero, List.set_cons_zero, List.set_cons_succ, List.set_nil,
  sp0_eq, sp1_eq, sp2_eq, sp3_eq, sp4_eq, sp5_eq, if_true, Bool.false_eq_true, if_false, decide_eq_true_eq, Bool.not_eq_true', decide_eq_false_iff_not, Bool.not_true, Bool.not_false, Bool.not_eq_false', isD_int_none, isD_int_bool, isD_int_int, isD_int_str, isD_int_list, isD_int_tuple, isD_int_dict, isD_bool_none, isD_bool_bool, isD_bool_int, isD_bool_str, isD_bool_list, isD_bool_tuple, isD_bool_dict, isD_str_none, isD_str_bool, isD_str_int, isD_str_str, isD_str_list, isD_str_tuple, isD_str_dict, isD_list_none, isD_list_bool, isD_list_int, isD_list_str, isD_list_list, isD_list_tuple, isD_list_dict, isD_tuple_none, isD_tuple_bool, isD_tuple_int, isD_tuple_str, isD_tuple_list, isD_tuple_tuple, isD_tuple_dict])
local macro_rules | `(tactic| walk_at "al") => `(tactic| (intro p hp; generalize hH : upd _ _ _ = H2; obtain ⟨e2, g2⟩ := alloc1 hp hH.symm; clear hH))
section
variable {P : Program} {w : World} {K : PySem.W.Frag} {mg : Str → Option Value} {base : Heap}
def p_runs (K : PySem.W.Frag) (x : Str) (n : Nat) : P2 := fun v u H Q _ => ∃ (t : Told) (i : Int), t.cls = x ∧ RuleAt K H v t ∧ t.ok ∧ t.h ≤ n ∧ u = .int i ∧ 0 ≤ i ∧ i ≤ 8 ∧ Q (.bl (t.on i)) H
theorem runs_Rule (T : Tx K mg) (n : Nat) : Met CX0 P w K mg base (n + 2) (He.ga K "Rule") "runs" (sp2 (p_runs K "Rule" n)) := by
  refine met_of T.cl_Rule T.m_Rule_runs T.d_Rule_runs (fun _ _ _ _ _ _ => bind2 fun _ _ => rfl) sc_Rule_runs len2 fun vs H Q E ⟨v, u, e, h⟩ cdv A outer s hr => ?_
  subst e
  refine ⟨_, PSs.nox (pss_one (ps_ret pe_bl)), ?_⟩
  obtain ⟨t, i, ht, hv, hok, hn, rfl, i0, i8, q⟩ := h
  cases t <;> first | (exfalso; revert ht; simp only [Told.cls]; decide +kernel) | skip
  walk_at "ws"
  exact q
theorem runs_Week (T : Tx K mg) (n : Nat) : Met CX0 P w K mg base (n + 2) (He.ga K "Week") "runs" (sp2 (p_runs K "Week" n)) := by
  refine met_of T.cl_Week T.m_Week_runs T.d_Week_runs (fun _ _ _ _ _ _ => bind2 fun _ _ => rfl) sc_Week_runs len2 fun vs H Q E ⟨v, u, e, h⟩ cdv A outer s hr => ?_
  subst e
  refine ⟨_, PSs.nox (pss_one (ps_ret (pe_cmpR op_eq (pe_op op_and (pe_op op_shr (pe_fld (pv 0) rfl) (pe_op op_mod (pv 1) pe_int)) pe_int) pe_int (nomark _)))), ?_⟩
  obtain ⟨t, i, ht, hv, hok, hn, rfl, i0, i8, q⟩ := h
  cases t <;> first | (exfalso; revert ht; simp only [Told.cls]; decide +kernel) | skip
  obtain ⟨a, dx, rfl, h1⟩ := hv
  walk_at "ws"
  refine ⟨a, _, dx, _, _, rfl, h1, T.cl_Week, T.n_Week_bits, rfl, ?_⟩
  walk_at "ws"
  refine ⟨by decide, by omega, ?_⟩
  rw [bitAnd1]
  exact q
theorem runs_Each (T : Tx K mg) (n : Nat) : Met CX0 P w K mg base (n + 2) (He.ga K "Each") "runs" (sp2 (p_runs K "Each" n)) := by
  refine met_of T.cl_Each T.m_Each_runs T.d_Each_runs (fun _ _ _ _ _ _ => bind2 fun _ _ => rfl) sc_Each_runs len2 fun vs H Q E ⟨v, u, e, h⟩ cdv A outer s hr => ?_
  subst e
  refine ⟨_, PSs.nox (pss_one (ps_ret (pe_cmpR op_in_seq (pe_op op_mod (pv 1) (pe_fld (pv 0) rfl)) (pe_fld (pv 0) rfl) rfl))), ?_⟩
  obtain ⟨t, i, ht, hv, hok, hn, rfl, i0, i8, q⟩ := h
  cases t <;> first | (exfalso; revert ht; simp only [Told.cls]; decide +kernel) | skip
  obtain ⟨a, dx, s, rfl, h1, h2⟩ := hv
  walk_at "ws"
  refine ⟨a, _, dx, _, _, rfl, h1, T.cl_Each, T.n_Each_length, rfl, ?_⟩
  walk_at "ws"
  have hl := hok.1
  refine ⟨by omega, ?_⟩
  refine ⟨a, _, dx, _, _, rfl, h1, T.cl_Each, T.n_Each_starts, rfl, ?_⟩
  exact w_inI h2 q
theorem runs_Span (T : Tx K mg) (n : Nat) (ih : ∀ x ∈ ruleNames, Met CX0 P w K mg base (n + 2) (He.ga K x) "runs" (sp2 (p_runs K x n))) : Met CX0 P w K mg base (n + 3) (He.ga K "Span") "runs" (sp2 (p_runs K "Span" (n + 1))) := by
  refine met_of T.cl_Span T.m_Span_runs T.d_Span_runs (fun _ _ _ _ _ _ => bind2 fun _ _ => rfl) sc_Span_runs len2 fun vs H Q E ⟨v, u, e, h⟩ cdv A outer s hr => ?_
  subst e
  refine ⟨_, PSs.nox (pss_one (ps_ret (pe_and (pe_chain op_le op_le (pe_fld (pv 0) rfl) (pv 1) (pe_fld (pv 0) rfl)) (pe_one (pe_meD (D := fun x => x ∈ ruleNames) (C := He.ga K) (fun i hi => ih i hi) hr (by omega) pass0 (pe_fld (pv 0) rfl) (pa_cons (pv 1) pa_nil)))))), ?_⟩
  obtain ⟨t, i, ht, hv, hok, hn, rfl, i0, i8, q⟩ := h
  cases t <;> first | (exfalso; revert ht; simp only [Told.cls]; decide +kernel) | skip
  rename_i f l t
  obtain ⟨a, dx, u, rfl, h1, h2⟩ := hv
  have hn : t.h + 1 ≤ n + 1 := hn
  walk_at "ws"
  refine ⟨a, _, dx, _, _, rfl, h1, T.cl_Span, T.n_Span_first, rfl, ?_⟩
  walk_at "ws"
  have q : Q (.bl ((decide (f ≤ i) && decide (i ≤ l)) && t.on i)) H := q
  by_cases c1 : f ≤ i
  · rw [decide_eq_true c1, Bool.true_and] at q
    rw [if_pos c1]
    refine ⟨a, _, dx, _, _, rfl, h1, T.cl_Span, T.n_Span_last, rfl, ?_⟩
    walk_at "ws"
    by_cases c2 : i ≤ l
    · rw [decide_eq_true c2, Bool.true_and] at q
      rw [if_pos c2]
      refine ⟨a, _, dx, _, _, rfl, h1, T.cl_Span, T.n_Span_within, rfl, ?_⟩
      refine r_meth no_runs h2 ?_
      walk_at "ws"
      exact ⟨t, i, rfl, h2, hok.2, by omega, rfl, i0, i8, q⟩
    · rw [decide_eq_false c2, Bool.false_and] at q
      rw [if_neg c2]
      exact q
  · rw [decide_eq_false c1, Bool.false_and, Bool.false_and] at q
    rw [if_neg c1]
    exact q
theorem runs_But (T : Tx K mg) (n : Nat) (ih : ∀ x ∈ ruleNames, Met CX0 P w K mg base (n + 2) (He.ga K x) "runs" (sp2 (p_runs K x n))) : Met CX0 P w K mg base (n + 3) (He.ga K "But") "runs" (sp2 (p_runs K "But" (n + 1))) := by
  refine met_of T.cl_But T.m_But_runs T.d_But_runs (fun _ _ _ _ _ _ => bind2 fun _ _ => rfl) sc_But_runs len2 fun vs H Q E ⟨v, u, e, h⟩ cdv A outer s hr => ?_
  subst e
  refine ⟨_, PSs.nox (pss_one (ps_ret (pe_cmpR op_ne (pe_meD (D := fun x => x ∈ ruleNames) (C := He.ga K) (fun i hi => ih i hi) hr (by omega) pass0 (pe_fld (pv 0) rfl) (pa_cons (pv 1) pa_nil)) (pe_cmpR op_in_seq (pv 1) (pe_fld (pv 0) rfl) rfl) (nomark _)))), ?_⟩
  obtain ⟨t, i, ht, hv, hok, hn, rfl, i0, i8, q⟩ := h
  cases t <;> first | (exfalso; revert ht; simp only [Told.cls]; decide +kernel) | skip
  rename_i ds t
  obtain ⟨a, dx, s, u, rfl, h1, h2, h3⟩ := hv
  have hn : t.h + 1 ≤ n + 1 := hn
  walk_at "ws"
  refine ⟨a, _, dx, _, _, rfl, h1, T.cl_But, T.n_But_under, rfl, ?_⟩
  refine r_meth no_runs h3 ?_
  walk_at "ws"
  refine ⟨t, i, rfl, h3, hok.2, by omega, rfl, i0, i8, ?_⟩
  refine ⟨a, _, dx, _, _, rfl, h1, T.cl_But, T.n_But_days, rfl, ?_⟩
  refine w_inI h2 ?_
  rw [w_neB]
  exact q
theorem runs_Either (T : Tx K mg) (n : Nat) (ih : ∀ x ∈ ruleNames, Met CX0 P w K mg base (n + 2) (He.ga K x) "runs" (sp2 (p_runs K x n))) : Met CX0 P w K mg base (n + 3) (He.ga K "Either") "runs" (sp2 (p_runs K "Either" (n + 1))) := by
  refine met_of T.cl_Either T.m_Either_runs T.d_Either_runs (fun _ _ _ _ _ _ => bind2 fun _ _ => rfl) sc_Either_runs len2 fun vs H Q E ⟨v, u, e, h⟩ cdv A outer s hr => ?_
  subst e
  refine ⟨_, PSs.nox (pss_one (ps_ret (pe_or (pe_meD (D := fun x => x ∈ ruleNames) (C := He.ga K) (fun i hi => ih i hi) hr (by omega) pass0 (pe_fld (pv 0) rfl) (pa_cons (pv 1) pa_nil)) (pe_one (pe_meD (D := fun x => x ∈ ruleNames) (C := He.ga K) (fun i hi => ih i hi) hr (by omega) pass0 (pe_fld (pv 0) rfl) (pa_cons (pv 1) pa_nil)))))), ?_⟩
  obtain ⟨t, i, ht, hv, hok, hn, rfl, i0, i8, q⟩ := h
  cases t <;> first | (exfalso; revert ht; simp only [Told.cls]; decide +kernel) | skip
  rename_i t1 t2
  obtain ⟨a, dx, u, z, rfl, h1, h2, h3⟩ := hv
  have hn : max t1.h t2.h + 1 ≤ n + 1 := hn
  walk_at "ws"
  refine ⟨a, _, dx, _, _, rfl, h1, T.cl_Either, T.n_Either_one, rfl, ?_⟩
  refine r_meth no_runs h2 ?_
  walk_at "ws"
  refine ⟨t1, i, rfl, h2, hok.1, by omega, rfl, i0, i8, ?_⟩
  refine ⟨_, rfl, ?_⟩
  cases e1 : t1.on i with
  | true =>
    have q : Q (.bl (t1.on i || t2.on i)) H := q
    rw [e1] at q
    exact q
  | false =>
    have q : Q (.bl (t1.on i || t2.on i)) H := q
    rw [e1] at q
    rw [if_neg (by simp)]
    refine ⟨a, _, dx, _, _, rfl, h1, T.cl_Either, T.n_Either_other, rfl, ?_⟩
    refine r_meth no_runs h3 ?_
    walk_at "ws"
    exact ⟨t2, i, rfl, h3, hok.2, by omega, rfl, i0, i8, q⟩
theorem runs_Both (T : Tx K mg) (n : Nat) (ih : ∀ x ∈ ruleNames, Met CX0 P w K mg base (n + 2) (He.ga K x) "runs" (sp2 (p_runs K x n))) : Met CX0 P w K mg base (n + 3) (He.ga K "Both") "runs" (sp2 (p_runs K "Both" (n + 1))) := by
  refine met_of T.cl_Both T.m_Both_runs T.d_Both_runs (fun _ _ _ _ _ _ => bind2 fun _ _ => rfl) sc_Both_runs len2 fun vs H Q E ⟨v, u, e, h⟩ cdv A outer s hr => ?_
  subst e
  refine ⟨_, PSs.nox (pss_one (ps_ret (pe_and (pe_meD (D := fun x => x ∈ ruleNames) (C := He.ga K) (fun i hi => ih i hi) hr (by omega) pass0 (pe_fld (pv 0) rfl) (pa_cons (pv 1) pa_nil)) (pe_one (pe_meD (D := fun x => x ∈ ruleNames) (C := He.ga K) (fun i hi => ih i hi) hr (by omega) pass0 (pe_fld (pv 0) rfl) (pa_cons (pv 1) pa_nil)))))), ?_⟩
  obtain ⟨t, i, ht, hv, hok, hn, rfl, i0, i8, q⟩ := h
  cases t <;> first | (exfalso; revert ht; simp only [Told.cls]; decide +kernel) | skip
  rename_i t1 t2
  obtain ⟨a, dx, u, z, rfl, h1, h2, h3⟩ := hv
  have hn : max t1.h t2.h + 1 ≤ n + 1 := hn
  walk_at "ws"
  refine ⟨a, _, dx, _, _, rfl, h1, T.cl_Both, T.n_Both_one, rfl, ?_⟩
  refine r_meth no_runs h2 ?_
  walk_at "ws"
  refine ⟨t1, i, rfl, h2, hok.1, by omega, rfl, i0, i8, ?_⟩
  refine ⟨_, rfl, ?_⟩
  have q : Q (.bl (t1.on i && t2.on i)) H := q
  cases e1 : t1.on i with
  | false =>
    rw [e1] at q
    exact q
  | true =>
    rw [e1] at q
    rw [if_pos rfl]
    refine ⟨a, _, dx, _, _, rfl, h1, T.cl_Both, T.n_Both_other, rfl, ?_⟩
    refine r_meth no_runs h3 ?_
    walk_at "ws"
    exact ⟨t2, i, rfl, h3, hok.2, by omega, rfl, i0, i8, q⟩
theorem no_h (t : Told) : ¬ t.h ≤ 0 := by
  have := t.h_pos
  omega
theorem ok_runs (T : Tx K mg) : ∀ n : Nat, ∀ x ∈ ruleNames, Met CX0 P w K mg base (n + 2) (He.ga K x) "runs" (sp2 (p_runs K x n))
  | 0, x, hx => by
    simp only [ruleNames, List.mem_cons, List.not_mem_nil, or_false] at hx
    rcases hx with rfl | rfl | rfl | rfl | rfl | rfl | rfl
    · exact runs_Rule T 0
    · exact runs_Week T 0
    · exact met_of T.cl_Span T.m_Span_runs T.d_Span_runs (fun _ _ _ _ _ _ => bind2 fun _ _ => rfl) sc_Span_runs len2 fun vs H Q E ⟨_, _, _, t, _, _, _, _, h, _⟩ => absurd h (no_h t)
    · exact runs_Each T 0
    · exact met_of T.cl_Either T.m_Either_runs T.d_Either_runs (fun _ _ _ _ _ _ => bind2 fun _ _ => rfl) sc_Either_runs len2 fun vs H Q E ⟨_, _, _, t, _, _, _, _, h, _⟩ => absurd h (no_h t)
    · exact met_of T.cl_Both T.m_Both_runs T.d_Both_runs (fun _ _ _ _ _ _ => bind2 fun _ _ => rfl) sc_Both_runs len2 fun vs H Q E ⟨_, _, _, t, _, _, _, _, h, _⟩ => absurd h (no_h t)
    · exact met_of T.cl_But T.m_But_runs T.d_But_runs (fun _ _ _ _ _ _ => bind2 fun _ _ => rfl) sc_But_runs len2 fun vs H Q E ⟨_, _, _, t, _, _, _, _, h, _⟩ => absurd h (no_h t)
  | n + 1, x, hx => by
    have ih : ∀ x ∈ ruleNames, Met CX0 P w K mg base (n + 2) (He.ga K x) "runs" (sp2 (p_runs K x n)) := ok_runs T n
    simp only [ruleNames, List.mem_cons, List.not_mem_nil, or_false] at hx
    rcases hx with rfl | rfl | rfl | rfl | rfl | rfl | rfl
    · exact runs_Rule T (n + 1)
    · exact runs_Week T (n + 1)
    · exact runs_Span T n ih
    · exact runs_Each T (n + 1)
    · exact runs_Either T n ih
    · exact runs_Both T n ih
    · exact runs_But T n ih
/-! ### the law's own reading of what is told -/
def p_law_runs (K : PySem.W.Frag) (n : Nat) : P2 := fun v u H Q _ => ∃ (t : Told) (i : Int), Dp K H v t.d ∧ t.ok ∧ t.h ≤ n ∧ u = .int i ∧ 0 ≤ i ∧ i ≤ 8 ∧ Q (.bl (t.on i)) H
theorem pow_small {b : Int} {k : Nat} (h : k ≤ 6) : CDiv b (2 ^ k) := by
  have : k = 0 ∨ k = 1 ∨ k = 2 ∨ k = 3 ∨ k = 4 ∨ k = 5 ∨ k = 6 := by omega
  rcases this with rfl | rfl | rfl | rfl | rfl | rfl | rfl <;> exact ⟨by decide, by decide⟩
theorem law_runs_step (T : Tx K mg) (n : Nat) (ih : Cal CX0 P w K mg base (n + 1) "_law_runs" (sp2 (p_law_runs K n))) : Cal CX0 P w K mg base (n + 2) "_law_runs" (sp2 (p_law_runs K (n + 1))) := by
  refine cal_of T.d_law_runs T.g__law_runs (fun _ _ _ _ _ _ => bind2 fun _ _ => rfl) sc_law_runs len2 fun vs H Q E ⟨v, u, e, h⟩ cdv A outer s hr => ?_
  subst e
  refine ⟨_, PSs.nox (pss_cons (ps_if (pt_cmpR op_eq (pe_ix ix_tup (pv 0) pe_int (fun _ _ => rfl)) pe_str (nomark _)) (pss_one (ps_ret pe_bl)) pss_nil)
    (pss_cons (ps_if (pt_cmpR op_eq (pe_ix ix_tup (pv 0) pe_int (fun _ _ => rfl)) pe_str (nomark _)) (pss_one (ps_ret (pe_cmpR op_eq (pe_op op_mod (pe_op op_fdiv (pe_ix ix_tup (pv 0) pe_int (fun _ _ => rfl)) (pe_op op_shl pe_int (pe_op op_mod (pv 1) pe_int))) pe_int) pe_int (nomark _)))) pss_nil)
    (pss_cons (ps_if (pt_cmpR op_eq (pe_ix ix_tup (pv 0) pe_int (fun _ _ => rfl)) pe_str (nomark _)) (pss_one (ps_ret (pe_cmpR op_in_seq (pe_op op_mod (pv 1) (pe_ix ix_tup (pv 0) pe_int (fun _ _ => rfl))) (pe_ix ix_tup (pv 0) pe_int (fun _ _ => rfl)) rfl))) pss_nil)
    (pss_cons (ps_if (pt_cmpR op_eq (pe_ix ix_tup (pv 0) pe_int (fun _ _ => rfl)) pe_str (nomark _)) (pss_one (ps_ret (pe_and (pe_chain op_le op_le (pe_ix ix_tup (pv 0) pe_int (fun _ _ => rfl)) (pv 1) (pe_ix ix_tup (pv 0) pe_int (fun _ _ => rfl))) (pe_one (pe_ca ih hr (by omega) rfl pass0 (pa_cons (pe_ix ix_tup (pv 0) pe_int (fun _ _ => rfl)) (pa_cons (pv 1) pa_nil))))))) pss_nil)
    (pss_cons (ps_if (pt_cmpR op_eq (pe_ix ix_tup (pv 0) pe_int (fun _ _ => rfl)) pe_str (nomark _)) (pss_one (ps_ret (pe_cmpR op_ne (pe_ca ih hr (by omega) rfl pass0 (pa_cons (pe_ix ix_tup (pv 0) pe_int (fun _ _ => rfl)) (pa_cons (pv 1) pa_nil))) (pe_cmpR op_in_seq (pv 1) (pe_ix ix_tup (pv 0) pe_int (fun _ _ => rfl)) rfl) (nomark _)))) pss_nil)
    (pss_cons (ps_par (i := 2) (j := 3) rfl sc_law_runs.nd rfl rfl (by decide) rfl rfl (pa_cons (pe_ca ih hr (by omega) rfl pass0 (pa_cons (pe_ix ix_tup (pv 0) pe_int (fun _ _ => rfl)) (pa_cons (pv 1) pa_nil))) (pa_cons (pe_ca ih hr (by omega) rfl pass0 (pa_cons (pe_ix ix_tup (pv 0) pe_int (fun _ _ => rfl)) (pa_cons (pv 1) pa_nil))) pa_nil)) (by rfl))
    (pss_one (ps_ret (pe_ifExp (pt_cmpR op_eq (pe_ix ix_tup (pv 0) pe_int (fun _ _ => rfl)) pe_str (nomark _)) (pe_or (pv 2) (pe_one (pv 3))) (pe_and (pv 2) (pe_one (pv 3)))))))))))), ?_⟩
  obtain ⟨t, i, hv, hok, hn, rfl, i0, i8, q⟩ := h
  walk_at "ws"
  match t, hv, hok, hn, q with
  | .always, hv, hok, hn, q =>
    obtain ⟨a, us, rfl, ht, hus⟩ := hv.tup_inv
    cases hus with | cons a0 hus => ?_
    cases hus
    obtain rfl := a0.str_inv
    refine ⟨a, _, 0, _, rfl, rfl, ht, atI_nat (j := 0) rfl, ?_⟩
    walk_at "ws"
    exact q
  | .week b, hv, hok, hn, q =>
    obtain ⟨a, us, rfl, ht, hus⟩ := hv.tup_inv
    cases hus with | cons a0 hus => ?_
    cases hus with | cons a1 hus => ?_
    cases hus
    obtain rfl := a0.str_inv
    obtain rfl := a1.int_inv
    refine ⟨a, _, 0, _, rfl, rfl, ht, atI_nat (j := 0) rfl, ?_⟩
    walk_at "ws"
    rw [if_neg (by decide +kernel)]
    refine ⟨a, _, 0, _, rfl, rfl, ht, atI_nat (j := 0) rfl, ?_⟩
    walk_at "ws"
    refine ⟨a, _, 1, _, rfl, rfl, ht, atI_nat (j := 1) rfl, ?_⟩
    walk_at "ws"
    rw [Int.one_mul]
    refine ⟨by decide, ⟨by omega, by omega, by decide⟩, pow_small (by omega), by decide, q⟩
  | .each l ss, hv, hok, hn, q =>
    obtain ⟨a, us, rfl, ht, hus⟩ := hv.tup_inv
    cases hus with | cons a0 hus => ?_
    cases hus with | cons a1 hus => ?_
    cases hus with | cons a2 hus => ?_
    cases hus
    obtain rfl := a0.str_inv
    obtain rfl := a1.int_inv
    obtain ⟨la, lv, rfl, hla, hlv⟩ := a2.lst_inv
    rw [dpAll_ints_inv hlv] at hla
    refine ⟨a, _, 0, _, rfl, rfl, ht, atI_nat (j := 0) rfl, ?_⟩
    walk_at "ws"
    rw [if_neg (by decide +kernel)]
    refine ⟨a, _, 0, _, rfl, rfl, ht, atI_nat (j := 0) rfl, ?_⟩
    walk_at "ws"
    rw [if_neg (by decide +kernel)]
    refine ⟨a, _, 0, _, rfl, rfl, ht, atI_nat (j := 0) rfl, ?_⟩
    walk_at "ws"
    refine ⟨a, _, 1, _, rfl, rfl, ht, atI_nat (j := 1) rfl, ?_⟩
    walk_at "ws"
    have hl := hok.1
    refine ⟨by omega, ?_⟩
    refine ⟨a, _, 2, _, rfl, rfl, ht, atI_nat (j := 2) rfl, ?_⟩
    exact w_inI hla q
  | .span f l s, hv, hok, hn, q =>
    obtain ⟨a, us, rfl, ht, hus⟩ := hv.tup_inv
    cases hus with | cons a0 hus => ?_
    cases hus with | cons a1 hus => ?_
    cases hus with | cons a2 hus => ?_
    cases hus with | cons a3 hus => ?_
    cases hus
    obtain rfl := a0.str_inv
    obtain rfl := a1.int_inv
    obtain rfl := a2.int_inv
    refine ⟨a, _, 0, _, rfl, rfl, ht, atI_nat (j := 0) rfl, ?_⟩
    walk_at "ws"
    rw [if_neg (by decide +kernel)]
    refine ⟨a, _, 0, _, rfl, rfl, ht, atI_nat (j := 0) rfl, ?_⟩
    walk_at "ws"
    rw [if_neg (by decide +kernel)]
    refine ⟨a, _, 0, _, rfl, rfl, ht, atI_nat (j := 0) rfl, ?_⟩
    walk_at "ws"
    rw [if_neg (by decide +kernel)]
    refine ⟨a, _, 0, _, rfl, rfl, ht, atI_nat (j := 0) rfl, ?_⟩
    walk_at "ws"
    have q : Q (.bl ((decide (f ≤ i) && decide (i ≤ l)) && s.on i)) H := q
    refine ⟨a, _, 1, _, rfl, rfl, ht, atI_nat (j := 1) rfl, ?_⟩
    walk_at "ws"
    by_cases c1 : f ≤ i
    · rw [decide_eq_true c1, Bool.true_and] at q
      rw [if_pos c1]
      refine ⟨a, _, 2, _, rfl, rfl, ht, atI_nat (j := 2) rfl, ?_⟩
      walk_at "ws"
      by_cases c2 : i ≤ l
      · rw [decide_eq_true c2, Bool.true_and] at q
        rw [if_pos c2]
        refine ⟨a, _, 3, _, rfl, rfl, ht, atI_nat (j := 3) rfl, ?_⟩
        walk_at "ws"
        exact ⟨s, i, a3, hok.2, by have hn : s.h + 1 ≤ n + 1 := hn; omega, rfl, i0, i8, q⟩
      · rw [decide_eq_false c2, Bool.false_and] at q
        rw [if_neg c2]
        exact q
    · rw [decide_eq_false c1, Bool.false_and, Bool.false_and] at q
      rw [if_neg c1]
      exact q
  | .but ds s, hv, hok, hn, q =>
    obtain ⟨a, us, rfl, ht, hus⟩ := hv.tup_inv
    cases hus with | cons a0 hus => ?_
    cases hus with | cons a1 hus => ?_
    cases hus with | cons a2 hus => ?_
    cases hus
    obtain rfl := a0.str_inv
    obtain ⟨la, lv, rfl, hla, hlv⟩ := a1.lst_inv
    rw [dpAll_ints_inv hlv] at hla
    refine ⟨a, _, 0, _, rfl, rfl, ht, atI_nat (j := 0) rfl, ?_⟩
    walk_at "ws"
    rw [if_neg (by decide +kernel)]
    refine ⟨a, _, 0, _, rfl, rfl, ht, atI_nat (j := 0) rfl, ?_⟩
    walk_at "ws"
    rw [if_neg (by decide +kernel)]
    refine ⟨a, _, 0, _, rfl, rfl, ht, atI_nat (j := 0) rfl, ?_⟩
    walk_at "ws"
    rw [if_neg (by decide +kernel)]
    refine ⟨a, _, 0, _, rfl, rfl, ht, atI_nat (j := 0) rfl, ?_⟩
    walk_at "ws"
    rw [if_neg (by decide +kernel)]
    refine ⟨a, _, 0, _, rfl, rfl, ht, atI_nat (j := 0) rfl, ?_⟩
    walk_at "ws"
    refine ⟨a, _, 2, _, rfl, rfl, ht, atI_nat (j := 2) rfl, ?_⟩
    walk_at "ws"
    refine ⟨s, i, a2, hok.2, by have hn : s.h + 1 ≤ n + 1 := hn; omega, rfl, i0, i8, ?_⟩
    refine ⟨a, _, 1, _, rfl, rfl, ht, atI_nat (j := 1) rfl, ?_⟩
    refine w_inI hla ?_
    rw [w_neB]
    exact q
  | .either x y, hv, hok, hn, q =>
    obtain ⟨a, us, rfl, ht, hus⟩ := hv.tup_inv
    cases hus with | cons a0 hus => ?_
    cases hus with | cons a1 hus => ?_
    cases hus with | cons a2 hus => ?_
    cases hus
    obtain rfl := a0.str_inv
    refine ⟨a, _, 0, _, rfl, rfl, ht, atI_nat (j := 0) rfl, ?_⟩
    walk_at "ws"
    rw [if_neg (by decide +kernel)]
    refine ⟨a, _, 0, _, rfl, rfl, ht, atI_nat (j := 0) rfl, ?_⟩
    walk_at "ws"
    rw [if_neg (by decide +kernel)]
    refine ⟨a, _, 0, _, rfl, rfl, ht, atI_nat (j := 0) rfl, ?_⟩
    walk_at "ws"
    rw [if_neg (by decide +kernel)]
    refine ⟨a, _, 0, _, rfl, rfl, ht, atI_nat (j := 0) rfl, ?_⟩
    walk_at "ws"
    rw [if_neg (by decide +kernel)]
    refine ⟨a, _, 0, _, rfl, rfl, ht, atI_nat (j := 0) rfl, ?_⟩
    walk_at "ws"
    rw [if_neg (by decide +kernel)]
    refine ⟨a, _, 1, _, rfl, rfl, ht, atI_nat (j := 1) rfl, ?_⟩
    walk_at "ws"
    refine ⟨x, i, a1, hok.1, by have hn : max x.h y.h + 1 ≤ n + 1 := hn; omega, rfl, i0, i8, ?_⟩
    refine ⟨a, _, 2, _, rfl, rfl, ht, atI_nat (j := 2) rfl, ?_⟩
    walk_at "ws"
    refine ⟨y, i, a2, hok.2, by have hn : max x.h y.h + 1 ≤ n + 1 := hn; omega, rfl, i0, i8, ?_⟩
    refine ⟨a, _, 0, _, rfl, rfl, ht, atI_nat (j := 0) rfl, ?_⟩
    walk_at "ws"
    have q : Q (.bl (x.on i || y.on i)) H := q
    revert q
    cases x.on i <;> cases y.on i <;> exact fun q => q
  | .both x y, hv, hok, hn, q =>
    obtain ⟨a, us, rfl, ht, hus⟩ := hv.tup_inv
    cases hus with | cons a0 hus => ?_
    cases hus with | cons a1 hus => ?_
    cases hus with | cons a2 hus => ?_
    cases hus
    obtain rfl := a0.str_inv
    refine ⟨a, _, 0, _, rfl, rfl, ht, atI_nat (j := 0) rfl, ?_⟩
    walk_at "ws"
    rw [if_neg (by decide +kernel)]
    refine ⟨a, _, 0, _, rfl, rfl, ht, atI_nat (j := 0) rfl, ?_⟩
    walk_at "ws"
    rw [if_neg (by decide +kernel)]
    refine ⟨a, _, 0, _, rfl, rfl, ht, atI_nat (j := 0) rfl, ?_⟩
    walk_at "ws"
    rw [if_neg (by decide +kernel)]
    refine ⟨a, _, 0, _, rfl, rfl, ht, atI_nat (j := 0) rfl, ?_⟩
    walk_at "ws"
    rw [if_neg (by decide +kernel)]
    refine ⟨a, _, 0, _, rfl, rfl, ht, atI_nat (j := 0) rfl, ?_⟩
    walk_at "ws"
    rw [if_neg (by decide +kernel)]
    refine ⟨a, _, 1, _, rfl, rfl, ht, atI_nat (j := 1) rfl, ?_⟩
    walk_at "ws"
    refine ⟨x, i, a1, hok.1, by have hn : max x.h y.h + 1 ≤ n + 1 := hn; omega, rfl, i0, i8, ?_⟩
    refine ⟨a, _, 2, _, rfl, rfl, ht, atI_nat (j := 2) rfl, ?_⟩
    walk_at "ws"
    refine ⟨y, i, a2, hok.2, by have hn : max x.h y.h + 1 ≤ n + 1 := hn; omega, rfl, i0, i8, ?_⟩
    refine ⟨a, _, 0, _, rfl, rfl, ht, atI_nat (j := 0) rfl, ?_⟩
    walk_at "ws"
    rw [if_neg (by decide +kernel)]
    have q : Q (.bl (x.on i && y.on i)) H := q
    revert q
    cases x.on i <;> cases y.on i <;> exact fun q => q
theorem ok_law_runs (T : Tx K mg) : ∀ n : Nat, Cal CX0 P w K mg base (n + 1) "_law_runs" (sp2 (p_law_runs K n))
  | 0 => cal_of T.d_law_runs T.g__law_runs (fun _ _ _ _ _ _ => bind2 fun _ _ => rfl) sc_law_runs len2 fun vs H Q E ⟨_, _, _, t, _, _, _, h, _⟩ => absurd h (no_h t)
  | n + 1 => law_runs_step T n (ok_law_runs T n)
end
end K06
set_option maxHeartbeats 4000000
namespace K06
open PySem L2
local macro_rules | `(tactic| walk_at "ws") => `(tactic| try simp only [w_var0, w_varS, w_c, w_ret, w_retN, w_next, w_seq, w_asg, w_gn, w_drop, w_if, w_and, w_or, w_not, ex_bl, ex_int, ex_two, w_B, w_test, w_andV, w_orV, w_notV, w_ife, w_op, w_un, w_chain, w_nil, w_cons, w_cb, w_ca, w_lst, w_tup, w_I0, w_I, w_U, w_eqI, w_neI, w_eqS, w_neS,
  w_isN0, w_notN0, w_fld, w_sfld, w_me, w_ma, w_dget, w_din, w_dnotin, w_dput, w_slice, w_part, w_nopart, w_bm, w_bm0, w_par, w_lc, w_for, w_iList, w_iTup, w_iStr, w_iRng1, w_iZip, w_iEnum, w_tM1, w_dnewK, w_meD, w_maxD, w_bare, w_gtup, w_glst, w_gcons, w_gnil, w_gsub, cx_K, cx_K',
  L2.start, endsOf, List.map_cons, List.map_nil, List.length_cons, List.length_nil, List.cons_append, List.nil_append, Nat.zero_add, Nat.reduceAdd, Nat.reduceSub, List.replicate_succ, List.replicate_zero, List.set_cons_zero, List.set_cons_succ, List.set_nil,
  sp0_eq, sp1_eq, sp2_eq, sp3_eq, sp4_eq, sp5_eq, if_true, Bool.false_eq_true, if_false, decide_eq_true_eq, Bool.not_eq_true', decide_eq_false_iff_not, Bool.not_true, Bool.not_false, Bool.not_eq_false', isD_int_none, isD_int_bool, isD_int_int, isD_int_str, isD_int_list, isD_int_tuple, isD_int_dict, isD_bool_none, isD_bool_bool, isD_bool_int, isD_bool_str, isD_bool_list, isD_bool_tuple, isD_bool_dict, isD_str_none, isD_str_bool, isD_str_int, isD_str_str, isD_str_list, isD_str_tuple, isD_str_dict, isD_list_none, isD_list_bool, isD_list_int, isD_list_str, isD_list_list, isD_list_tuple, isD_list_dict, isD_tuple_none, isD_tuple_bool, isD_tuple_int, isD_tuple_str, isD_tuple_list, isD_tuple_tuple, isD_tuple_dict])
local macro_rules | `(tactic| walk_at "al") => `(tactic| (intro p hp; generalize hH : upd _ _ _ = H2; obtain ⟨e2, g2⟩ := alloc1 hp hH.symm; clear hH))
section
variable {P : Program} {w : World} {K : PySem.W.Frag} {mg : Str → Option Value} {base : Heap}
theorem made_same {H : Hp} {x dx : Addr} {o1 o2 : HO} (hx : H x = none) (hd : H dx = none) (n : dx ≠ x) : Same H (upd (upd H dx o1) x o2) := fun b u e => by
  rw [upd_ne (ne_of_none e hx), upd_ne (ne_of_none e hd)]
  exact e
theorem sameB_new {H H1 H2 : Hp} {x : Addr} (hx : H x = none) (e : Same H H1) (sb : SameB x H1 H2) : Same H H2 := fun b u h => sb b u (ne_of_none h hx) (e b u h)
def p_law_rule (K : PySem.W.Frag) (n : Nat) : P1 := fun v H Q _ => ∃ (M : List Addr) (t : Told), Live M H ∧ Dp K H v t.d ∧ t.ok ∧ t.h ≤ n ∧ t.h ≤ 3 ∧ ∀ u H', Same H H' → RuleAt K (cutM M H') u t → Q u H'
theorem law_rule_step (T : Tx K mg) (n : Nat) (ih : Cal CX0 P w K mg base (n + 8) "_law_rule" (sp1 (p_law_rule K n))) : Cal CX0 P w K mg base (n + 9) "_law_rule" (sp1 (p_law_rule K (n + 1))) := by
  refine cal_of T.d_law_rule T.g__law_rule (fun _ _ _ _ _ _ => bind1 fun _ => rfl) sc_law_rule len1 fun vs H Q E ⟨v, e, h⟩ cdv A outer s hr => ?_
  subst e
  refine ⟨_, PSs.nox (pss_cons (ps_if (pt_cmpR op_eq (pe_ix ix_tup (pv 0) pe_int (fun _ _ => rfl)) pe_str (nomark _)) (pss_one (ps_ret (pe_bare (eb_parts T).1.1 (eb_parts T).1.2.1 (eb_parts T).1.2.2 (ins_parts ((eb_parts T).2.1 "Rule" (by decide))).2.2.2 rfl T.g_Rule))) pss_nil)
    (pss_cons (ps_if (pt_cmpR op_eq (pe_ix ix_tup (pv 0) pe_int (fun _ _ => rfl)) pe_str (nomark _)) (pss_one (ps_ret (pe_ma (ok_Week_init T) hr (by omega) rfl passL (pa_cons (pe_ix ix_tup (pv 0) pe_int (fun _ _ => rfl)) pa_nil)))) pss_nil)
    (pss_cons (ps_if (pt_cmpR op_eq (pe_ix ix_tup (pv 0) pe_int (fun _ _ => rfl)) pe_str (nomark _)) (pss_one (ps_ret (pe_ma (ok_Each_init T) hr (by omega) rfl passL (pa_cons (pe_ix ix_tup (pv 0) pe_int (fun _ _ => rfl)) (pa_cons (pe_callTy call_list_of rfl T.f_list (by decide +kernel) (pa_cons (pe_ix ix_tup (pv 0) pe_int (fun _ _ => rfl)) pa_nil)) pa_nil))))) pss_nil)
    (pss_cons (ps_if (pt_cmpR op_eq (pe_ix ix_tup (pv 0) pe_int (fun _ _ => rfl)) pe_str (nomark _)) (pss_one (ps_ret (pe_ma (ok_Span_init T) hr (by omega) rfl passL (pa_cons (pe_ix ix_tup (pv 0) pe_int (fun _ _ => rfl)) (pa_cons (pe_ix ix_tup (pv 0) pe_int (fun _ _ => rfl)) (pa_cons (pe_ca ih hr (by omega) rfl pass0 (pa_cons (pe_ix ix_tup (pv 0) pe_int (fun _ _ => rfl)) pa_nil)) pa_nil)))))) pss_nil)
    (pss_cons (ps_if (pt_cmpR op_eq (pe_ix ix_tup (pv 0) pe_int (fun _ _ => rfl)) pe_str (nomark _)) (pss_one (ps_ret (pe_ma (ok_But_init T) hr (by omega) rfl passL (pa_cons (pe_callTy call_list_of rfl T.f_list (by decide +kernel) (pa_cons (pe_ix ix_tup (pv 0) pe_int (fun _ _ => rfl)) pa_nil)) (pa_cons (pe_ca ih hr (by omega) rfl pass0 (pa_cons (pe_ix ix_tup (pv 0) pe_int (fun _ _ => rfl)) pa_nil)) pa_nil))))) pss_nil)
    (pss_cons (ps_if (pt_cmpR op_eq (pe_ix ix_tup (pv 0) pe_int (fun _ _ => rfl)) pe_str (nomark _)) (pss_one (ps_ret (pe_ma (ok_Either_init T) hr (by omega) rfl passL (pa_cons (pe_ca ih hr (by omega) rfl pass0 (pa_cons (pe_ix ix_tup (pv 0) pe_int (fun _ _ => rfl)) pa_nil)) (pa_cons (pe_ca ih hr (by omega) rfl pass0 (pa_cons (pe_ix ix_tup (pv 0) pe_int (fun _ _ => rfl)) pa_nil)) pa_nil))))) pss_nil)
    (pss_one (ps_ret (pe_ma (ok_Both_init T) hr (by omega) rfl passL (pa_cons (pe_ca ih hr (by omega) rfl pass0 (pa_cons (pe_ix ix_tup (pv 0) pe_int (fun _ _ => rfl)) pa_nil)) (pa_cons (pe_ca ih hr (by omega) rfl pass0 (pa_cons (pe_ix ix_tup (pv 0) pe_int (fun _ _ => rfl)) pa_nil)) pa_nil))))))))))), ?_⟩
  obtain ⟨M, t, hM, hv, hok, hn, hn3, q⟩ := h
  walk_at "ws"
  match t, hv, hok, hn, hn3, q with
  | .always, hv, hok, hn, hn3, q =>
    obtain ⟨a, us, rfl, ht, hus⟩ := hv.tup_inv
    cases hus with | cons a0 hus => ?_
    cases hus
    obtain rfl := a0.str_inv
    refine ⟨a, _, 0, _, rfl, rfl, ht, atI_nat (j := 0) rfl, ?_⟩
    walk_at "ws"
    intro x dx hx hdx nx
    exact q _ _ (made_same hx hdx nx) ⟨x, dx, rfl, hM.cut hx upd_same (fun _ z => nomatch z)⟩
  | .week b, hv, hok, hn, hn3, q =>
    obtain ⟨a, us, rfl, ht, hus⟩ := hv.tup_inv
    cases hus with | cons a0 hus => ?_
    cases hus with | cons a1 hus => ?_
    cases hus
    obtain rfl := a0.str_inv
    obtain rfl := a1.int_inv
    refine ⟨a, _, 0, _, rfl, rfl, ht, atI_nat (j := 0) rfl, ?_⟩
    walk_at "ws"
    rw [if_neg (by decide +kernel)]
    refine ⟨a, _, 0, _, rfl, rfl, ht, atI_nat (j := 0) rfl, ?_⟩
    walk_at "ws"
    refine ⟨a, _, 1, _, rfl, rfl, ht, atI_nat (j := 1) rfl, ?_⟩
    walk_at "ws"
    intro x dx hx hdx nx
    refine ⟨x, dx, b, rfl, rfl, hok.1, hok.2, upd_same, fun H' sb g => ⟨rfl, ?_⟩⟩
    exact q _ _ (sameB_new hx (made_same hx hdx nx) sb) ⟨x, dx, rfl, hM.cut hx g (fun _ z => nomatch z)⟩
  | .each l ss, hv, hok, hn, hn3, q =>
    obtain ⟨a, us, rfl, ht, hus⟩ := hv.tup_inv
    cases hus with | cons a0 hus => ?_
    cases hus with | cons a1 hus => ?_
    cases hus with | cons a2 hus => ?_
    cases hus
    obtain rfl := a0.str_inv
    obtain rfl := a1.int_inv
    obtain ⟨la, lv, rfl, hla, hlv⟩ := a2.lst_inv
    rw [dpAll_ints_inv hlv] at hla
    refine ⟨a, _, 0, _, rfl, rfl, ht, atI_nat (j := 0) rfl, ?_⟩
    walk_at "ws"
    rw [if_neg (by decide +kernel)]
    refine ⟨a, _, 0, _, rfl, rfl, ht, atI_nat (j := 0) rfl, ?_⟩
    walk_at "ws"
    rw [if_neg (by decide +kernel)]
    refine ⟨a, _, 0, _, rfl, rfl, ht, atI_nat (j := 0) rfl, ?_⟩
    walk_at "ws"
    refine ⟨a, _, 1, _, rfl, rfl, ht, atI_nat (j := 1) rfl, ?_⟩
    walk_at "ws"
    refine ⟨a, _, 2, _, rfl, rfl, ht, atI_nat (j := 2) rfl, ?_⟩
    refine ⟨la, _, rfl, .inl hla, ?_⟩
    walk_at "al"
    rename_i p hp H1 e1 g1
    intro x dx hx hdx nx
    have m := made_same (o1 := .own x) (o2 := .ins (He.ga K "Each") dx []) hx hdx nx
    refine ⟨x, dx, l, p, ss, rfl, rfl, rfl, hok.1, hok.2.1, (cut_of hx m).seq (SqL.of g1), hok.2.2, upd_same, fun l2 H' hl2 sb g g2 => ⟨rfl, ?_⟩⟩
    exact q _ _ (e1.trans (sameB_new hx m sb)) ⟨x, dx, l2, rfl, (hM.up e1).cut hx g (fun _ z => nomatch z), SqL.of (((hM.up e1).up m).cut hl2 g2 (fun _ z => nomatch z))⟩
  | .span f l s, hv, hok, hn, hn3, q =>
    obtain ⟨a, us, rfl, ht, hus⟩ := hv.tup_inv
    cases hus with | cons a0 hus => ?_
    cases hus with | cons a1 hus => ?_
    cases hus with | cons a2 hus => ?_
    cases hus with | cons a3 hus => ?_
    cases hus
    obtain rfl := a0.str_inv
    obtain rfl := a1.int_inv
    obtain rfl := a2.int_inv
    refine ⟨a, _, 0, _, rfl, rfl, ht, atI_nat (j := 0) rfl, ?_⟩
    walk_at "ws"
    rw [if_neg (by decide +kernel)]
    refine ⟨a, _, 0, _, rfl, rfl, ht, atI_nat (j := 0) rfl, ?_⟩
    walk_at "ws"
    rw [if_neg (by decide +kernel)]
    refine ⟨a, _, 0, _, rfl, rfl, ht, atI_nat (j := 0) rfl, ?_⟩
    walk_at "ws"
    rw [if_neg (by decide +kernel)]
    refine ⟨a, _, 0, _, rfl, rfl, ht, atI_nat (j := 0) rfl, ?_⟩
    walk_at "ws"
    refine ⟨a, _, 1, _, rfl, rfl, ht, atI_nat (j := 1) rfl, ?_⟩
    walk_at "ws"
    refine ⟨a, _, 2, _, rfl, rfl, ht, atI_nat (j := 2) rfl, ?_⟩
    walk_at "ws"
    refine ⟨a, _, 3, _, rfl, rfl, ht, atI_nat (j := 3) rfl, ?_⟩
    walk_at "ws"
    have hs : s.h + 1 ≤ n + 1 := hn
    have hs3 : s.h + 1 ≤ 3 := hn3
    refine ⟨M, s, hM, a3, hok.2, by omega, by omega, fun u H1 e1 r1 => ?_⟩
    intro x dx hx hdx nx
    have m := made_same (o1 := .own x) (o2 := .ins (He.ga K "Span") dx []) hx hdx nx
    refine ⟨x, dx, f, l, s, rfl, rfl, rfl, hok.1.1, hok.1.2.1, hok.1.2.2, (r1.up cutM_same).up (cut_of hx m), by omega, upd_same, fun H' sb g => ⟨rfl, ?_⟩⟩
    exact q _ _ (e1.trans (sameB_new hx m sb)) ⟨x, dx, u, rfl, (hM.up e1).cut hx g (fun _ z => nomatch z), r1.up (cutM_up (sameB_new hx m sb))⟩
  | .but ds s, hv, hok, hn, hn3, q =>
    obtain ⟨a, us, rfl, ht, hus⟩ := hv.tup_inv
    cases hus with | cons a0 hus => ?_
    cases hus with | cons a1 hus => ?_
    cases hus with | cons a2 hus => ?_
    cases hus
    obtain rfl := a0.str_inv
    obtain ⟨la, lv, rfl, hla, hlv⟩ := a1.lst_inv
    rw [dpAll_ints_inv hlv] at hla
    refine ⟨a, _, 0, _, rfl, rfl, ht, atI_nat (j := 0) rfl, ?_⟩
    walk_at "ws"
    rw [if_neg (by decide +kernel)]
    refine ⟨a, _, 0, _, rfl, rfl, ht, atI_nat (j := 0) rfl, ?_⟩
    walk_at "ws"
    rw [if_neg (by decide +kernel)]
    refine ⟨a, _, 0, _, rfl, rfl, ht, atI_nat (j := 0) rfl, ?_⟩
    walk_at "ws"
    rw [if_neg (by decide +kernel)]
    refine ⟨a, _, 0, _, rfl, rfl, ht, atI_nat (j := 0) rfl, ?_⟩
    walk_at "ws"
    rw [if_neg (by decide +kernel)]
    refine ⟨a, _, 0, _, rfl, rfl, ht, atI_nat (j := 0) rfl, ?_⟩
    walk_at "ws"
    refine ⟨a, _, 1, _, rfl, rfl, ht, atI_nat (j := 1) rfl, ?_⟩
    refine ⟨la, _, rfl, .inl hla, ?_⟩
    walk_at "al"
    rename_i p hp H1 e1 g1
    refine ⟨a, _, 2, _, rfl, rfl, e1.sqT ht, atI_nat (j := 2) rfl, ?_⟩
    walk_at "ws"
    have hs : s.h + 1 ≤ n + 1 := hn
    have hs3 : s.h + 1 ≤ 3 := hn3
    refine ⟨M, s, hM.up e1, a2.up e1, hok.2, by omega, by omega, fun u H2 e2 r1 => ?_⟩
    intro x dx hx hdx nx
    have m := made_same (o1 := .own x) (o2 := .ins (He.ga K "But") dx []) hx hdx nx
    refine ⟨x, dx, p, ds, s, rfl, rfl, (cut_of hx m).seq (SqL.of (e2 _ _ g1)), hok.1, (r1.up cutM_same).up (cut_of hx m), by omega, upd_same, fun l2 H' hl2 sb g g2 => ⟨rfl, ?_⟩⟩
    exact q _ _ ((e1.trans e2).trans (sameB_new hx m sb)) ⟨x, dx, l2, u, rfl, (hM.up (e1.trans e2)).cut hx g (fun _ z => nomatch z), SqL.of (((hM.up (e1.trans e2)).up m).cut hl2 g2 (fun _ z => nomatch z)), r1.up (cutM_up (sameB_new hx m sb))⟩
  | .either x y, hv, hok, hn, hn3, q =>
    obtain ⟨a, us, rfl, ht, hus⟩ := hv.tup_inv
    cases hus with | cons a0 hus => ?_
    cases hus with | cons a1 hus => ?_
    cases hus with | cons a2 hus => ?_
    cases hus
    obtain rfl := a0.str_inv
    refine ⟨a, _, 0, _, rfl, rfl, ht, atI_nat (j := 0) rfl, ?_⟩
    walk_at "ws"
    rw [if_neg (by decide +kernel)]
    refine ⟨a, _, 0, _, rfl, rfl, ht, atI_nat (j := 0) rfl, ?_⟩
    walk_at "ws"
    rw [if_neg (by decide +kernel)]
    refine ⟨a, _, 0, _, rfl, rfl, ht, atI_nat (j := 0) rfl, ?_⟩
    walk_at "ws"
    rw [if_neg (by decide +kernel)]
    refine ⟨a, _, 0, _, rfl, rfl, ht, atI_nat (j := 0) rfl, ?_⟩
    walk_at "ws"
    rw [if_neg (by decide +kernel)]
    refine ⟨a, _, 0, _, rfl, rfl, ht, atI_nat (j := 0) rfl, ?_⟩
    walk_at "ws"
    rw [if_neg (by decide +kernel)]
    refine ⟨a, _, 0, _, rfl, rfl, ht, atI_nat (j := 0) rfl, ?_⟩
    walk_at "ws"
    refine ⟨a, _, 1, _, rfl, rfl, ht, atI_nat (j := 1) rfl, ?_⟩
    walk_at "ws"
    have hs : max x.h y.h + 1 ≤ n + 1 := hn
    have hs3 : max x.h y.h + 1 ≤ 3 := hn3
    refine ⟨M, x, hM, a1, hok.1, by omega, by omega, fun u H1 e1 r1 => ?_⟩
    refine ⟨a, _, 2, _, rfl, rfl, e1.sqT ht, atI_nat (j := 2) rfl, ?_⟩
    walk_at "ws"
    refine ⟨M, y, hM.up e1, a2.up e1, hok.2, by omega, by omega, fun z H2 e2 r2 => ?_⟩
    intro p dx hx hdx nx
    have m := made_same (o1 := .own p) (o2 := .ins (He.ga K "Either") dx []) hx hdx nx
    have s1 := ((r1.up cutM_same).up e2).up (cut_of hx m)
    have s2 := (r2.up cutM_same).up (cut_of hx m)
    have u1 := r1.up (cutM_up e2)
    refine ⟨p, dx, x, y, rfl, s1, s2, by omega, by omega, upd_same, fun H' sb g => ⟨rfl, ?_⟩⟩
    exact q _ _ ((e1.trans e2).trans (sameB_new hx m sb)) ⟨p, dx, u, z, rfl, (hM.up (e1.trans e2)).cut hx g (fun _ z => nomatch z), u1.up (cutM_up (sameB_new hx m sb)), r2.up (cutM_up (sameB_new hx m sb))⟩
  | .both x y, hv, hok, hn, hn3, q =>
    obtain ⟨a, us, rfl, ht, hus⟩ := hv.tup_inv
    cases hus with | cons a0 hus => ?_
    cases hus with | cons a1 hus => ?_
    cases hus with | cons a2 hus => ?_
    cases hus
    obtain rfl := a0.str_inv
    refine ⟨a, _, 0, _, rfl, rfl, ht, atI_nat (j := 0) rfl, ?_⟩
    walk_at "ws"
    rw [if_neg (by decide +kernel)]
    refine ⟨a, _, 0, _, rfl, rfl, ht, atI_nat (j := 0) rfl, ?_⟩
    walk_at "ws"
    rw [if_neg (by decide +kernel)]
    refine ⟨a, _, 0, _, rfl, rfl, ht, atI_nat (j := 0) rfl, ?_⟩
    walk_at "ws"
    rw [if_neg (by decide +kernel)]
    refine ⟨a, _, 0, _, rfl, rfl, ht, atI_nat (j := 0) rfl, ?_⟩
    walk_at "ws"
    rw [if_neg (by decide +kernel)]
    refine ⟨a, _, 0, _, rfl, rfl, ht, atI_nat (j := 0) rfl, ?_⟩
    walk_at "ws"
    rw [if_neg (by decide +kernel)]
    refine ⟨a, _, 0, _, rfl, rfl, ht, atI_nat (j := 0) rfl, ?_⟩
    walk_at "ws"
    rw [if_neg (by decide +kernel)]
    refine ⟨a, _, 1, _, rfl, rfl, ht, atI_nat (j := 1) rfl, ?_⟩
    walk_at "ws"
    have hs : max x.h y.h + 1 ≤ n + 1 := hn
    have hs3 : max x.h y.h + 1 ≤ 3 := hn3
    refine ⟨M, x, hM, a1, hok.1, by omega, by omega, fun u H1 e1 r1 => ?_⟩
    refine ⟨a, _, 2, _, rfl, rfl, e1.sqT ht, atI_nat (j := 2) rfl, ?_⟩
    walk_at "ws"
    refine ⟨M, y, hM.up e1, a2.up e1, hok.2, by omega, by omega, fun z H2 e2 r2 => ?_⟩
    intro p dx hx hdx nx
    have m := made_same (o1 := .own p) (o2 := .ins (He.ga K "Both") dx []) hx hdx nx
    have s1 := ((r1.up cutM_same).up e2).up (cut_of hx m)
    have s2 := (r2.up cutM_same).up (cut_of hx m)
    have u1 := r1.up (cutM_up e2)
    refine ⟨p, dx, x, y, rfl, s1, s2, by omega, by omega, upd_same, fun H' sb g => ⟨rfl, ?_⟩⟩
    exact q _ _ ((e1.trans e2).trans (sameB_new hx m sb)) ⟨p, dx, u, z, rfl, (hM.up (e1.trans e2)).cut hx g (fun _ z => nomatch z), u1.up (cutM_up (sameB_new hx m sb)), r2.up (cutM_up (sameB_new hx m sb))⟩
theorem ok_law_rule (T : Tx K mg) : ∀ n : Nat, Cal CX0 P w K mg base (n + 8) "_law_rule" (sp1 (p_law_rule K n))
  | 0 => cal_of T.d_law_rule T.g__law_rule (fun _ _ _ _ _ _ => bind1 fun _ => rfl) sc_law_rule len1 fun vs H Q E ⟨_, _, _, t, _, _, _, h, _⟩ => absurd h (no_h t)
  | n + 1 => law_rule_step T n (ok_law_rule T n)
end
end K06
set_option maxHeartbeats 4000000
namespace K06
open PySem L2
local macro_rules | `(tactic| walk_at "ws") => `(tactic| try simp only [w_var0, w_varS, w_c, w_ret, w_retN, w_next, w_seq, w_asg, w_gn, w_drop, w_if, w_and, w_or, w_not, ex_bl, ex_int, ex_two, w_B, w_test, w_andV, w_orV, w_notV, w_ife, w_op, w_un, w_chain, w_nil, w_cons, w_cb, w_ca, w_lst, w_tup, w_I0, w_I, w_U, w_eqI, w_neI, w_eqS, w_neS,
  w_isN0, w_notN0, w_fld, w_sfld, w_me, w_ma, w_dget, w_din, w_dnotin, w_dput, w_slice, w_part, w_nopart, w_bm, w_bm0, w_par, w_lc, w_for, w_iList, w_iTup, w_iStr, w_iRng1, w_iZip, w_iEnum, w_tM1, w_dnewK, w_meD, w_maxD, w_bare, w_gtup, w_glst, w_gcons, w_gnil, w_gsub, cx_K, cx_K',
  L2.start, endsOf, List.map_cons, List.map_nil, List.length_cons, List.length_nil, List.cons_append, List.nil_append, Nat.zero_add, Nat.reduceAdd, Nat.reduceSub, List.replicate_succ, List.replicate_zero, List.set_cons_zero, List.set_cons_succ, List.set_nil,
  sp0_eq, sp1_eq, sp2_eq, sp3_eq, sp4_eq, sp5_eq, if_true, Bool.false_eq_true, if_false, decide_eq_true_eq, Bool.not_eq_true', decide_eq_false_iff_not, Bool.not_true, Bool.not_false, Bool.not_eq_false', isD_int_none, isD_int_bool, isD_int_int, isD_int_str, isD_int_list, isD_int_tuple, isD_int_dict, isD_bool_none, isD_bool_bool, isD_bool_int, isD_bool_str, isD_bool_list, isD_bool_tuple, isD_bool_dict, isD_str_none, isD_str_bool, isD_str_int, isD_str_str, isD_str_list, isD_str_tuple, isD_str_dict, isD_list_none, isD_list_bool, isD_list_int, isD_list_str, isD_list_list, isD_list_tuple, isD_list_dict, isD_tuple_none, isD_tuple_bool, isD_tuple_int, isD_tuple_str, isD_tuple_list, isD_tuple_tuple, isD_tuple_dict])
local macro_rules | `(tactic| walk_at "al") => `(tactic| (intro p hp; generalize hH : upd _ _ _ = H2; obtain ⟨e2, g2⟩ := alloc1 hp hH.symm; clear hH))
/-! ### what days are drawn -/
def two (a b : Int) : List Int := if a < b then [a, b] else if b < a then [b, a] else [a]
theorem two_rising (a b : Int) : (two a b).Pairwise (· < ·) := by
  unfold two
  split
  · simp; omega
  · split
    · simp; omega
    · simp
theorem two_mem (a b k : Int) : k ∈ two a b ↔ k ∈ [a, b] := by
  unfold two
  split
  · rfl
  · split
    · simp [or_comm]
    · have : a = b := by omega
      simp [this]
theorem two_len (a b : Int) : 1 ≤ (two a b).length ∧ (two a b).length ≤ 2 := by
  unfold two
  split
  · simp
  · split <;> simp
theorem two_ok {a b m : Int} (ha : 0 ≤ a ∧ a ≤ m) (hb : 0 ≤ b ∧ b ≤ m) : Told.rising (two a b) m := by
  refine ⟨(two_len a b).1, Nat.le_trans (two_len a b).2 (by decide), two_rising a b, fun n hn => ?_⟩
  have := (two_mem a b n).mp hn
  simp at this
  rcases this with rfl | rfl <;> assumption
def leaf (more way : Int) : Told := if way = 0 then .always else if way = 1 then .week (more % 128) else .each (4 + more / 16 % 25) (two (more % 4) (more / 4 % 4))
def days : Nat → Int → Told
  | 0, num => leaf (num / 7) (if num % 3 = 0 then 0 else if num % 3 = 1 then 1 else 3)
  | n + 1, num => if num % 7 = 0 ∨ num % 7 = 1 ∨ num % 7 = 3 then leaf (num / 7) (num % 7) else
      if num % 7 = 2 then .span (num / 7 % 20) (num / 7 % 20 + num / 7 / 20 % 30) (days n (num / 7 * 48271 % 2147483647)) else
      if num % 7 = 4 then .but (two (num / 7 % 9) (num / 7 / 9 % 9)) (days n (num / 7 * 48271 % 2147483647)) else
      if num % 7 = 5 then .either (days n (num / 7 * 48271 % 2147483647)) (days n (num / 7 * 16807 % 2147483647)) else
      .both (days n (num / 7 * 48271 % 2147483647)) (days n (num / 7 * 16807 % 2147483647))
theorem leaf_ok (more way : Int) : (leaf more way).ok ∧ (leaf more way).h = 1 := by
  unfold leaf
  split
  · exact ⟨trivial, rfl⟩
  · split
    · exact ⟨by show 0 ≤ _ ∧ _ ≤ _; omega, rfl⟩
    · exact ⟨⟨by omega, by omega, two_ok (by omega) (by omega)⟩, rfl⟩
theorem days_ok : ∀ (n : Nat) (num : Int), (days n num).ok ∧ (days n num).h ≤ n + 1
  | 0, num => ⟨(leaf_ok _ _).1, Nat.le_of_eq (leaf_ok _ _).2⟩
  | n + 1, num => by
    have ih := days_ok n
    rw [days]
    split
    · exact ⟨(leaf_ok _ _).1, by rw [(leaf_ok _ _).2]; omega⟩
    · split
      · exact ⟨⟨⟨by omega, by omega, by omega⟩, (ih _).1⟩, Nat.succ_le_succ (ih _).2⟩
      · split
        · exact ⟨⟨two_ok (by omega) (by omega), (ih _).1⟩, Nat.succ_le_succ (ih _).2⟩
        · split
          · exact ⟨⟨(ih _).1, (ih _).1⟩, Nat.succ_le_succ (Nat.max_le.mpr ⟨(ih _).2, (ih _).2⟩)⟩
          · exact ⟨⟨(ih _).1, (ih _).1⟩, Nat.succ_le_succ (Nat.max_le.mpr ⟨(ih _).2, (ih _).2⟩)⟩
section
variable {P : Program} {w : World} {K : PySem.W.Frag} {mg : Str → Option Value} {base : Heap}
/-- sorted(set([a, b])) -/
theorem w_two {H : Hp} {a b : Int} {R : V → Hp → Prop} (q : ∀ l H', H l = none → Same H H' → H' l = some (.lst ((two a b).map V.int)) → R (.ref l) H') :
    (2 ≤ sizeLine ∧ ∀ p, H p = none → rSetL w K [.ref p] (upd H p (.lst [.int a, .int b])) fun v H1 => rSortedSet w [v] H1 R) := by
  refine ⟨by decide, ?_⟩
  walk_at "al"
  rename_i p hp H1 e1 g1
  refine ⟨p, [a, b], rfl, SqL.of g1, (by show 2 < 1000; decide), fun s c hs hc => ?_⟩
  have e2 : Same H1 (upd H1 s (SetO w s (fun j => decide (j ∈ [a, b])) c)) := Same.new hs
  refine ⟨s, _, c, rfl, upd_same, by simp at hc; omega, fun ns l hl hm hn hp2 => ?_⟩
  have en : ns = two a b := rising_same (two_rising a b) hl fun k => by rw [hm k, two_mem, decide_eq_true_eq]
  subst en
  exact q l _ (e1.free (e2.free hp2)) ((e1.trans e2).trans (Same.new hp2)) upd_same
section
variable {H : Hp} {Q : VK} {M : List Addr}
theorem e_always (hM : Live M H) (q : ∀ a H', Same H H' → Dp K (cutM M H') (.ref a) (Told.always).d → Q (.ref a) H') : 1 ≤ sizeLine ∧ ∀ p, H p = none → Q (.ref p) (upd H p (.tup [V.str "always"])) := by
  refine ⟨by decide, ?_⟩
  walk_at "al"
  rename_i p hp H1 e1 g1
  exact q p H1 e1 (Dp.newT (hM.cut hp g1 (fun _ z => nomatch z)) (.cons (.str _) .nil))
theorem e_week {b : Int} (hM : Live M H) (q : ∀ a H', Same H H' → Dp K (cutM M H') (.ref a) (Told.week b).d → Q (.ref a) H') : 2 ≤ sizeLine ∧ ∀ p, H p = none → Q (.ref p) (upd H p (.tup [V.str "week", .int b])) := by
  refine ⟨by decide, ?_⟩
  walk_at "al"
  rename_i p hp H1 e1 g1
  exact q p H1 e1 (Dp.newT (hM.cut hp g1 (fun _ z => nomatch z)) (.cons (.str _) (.cons (.int b) .nil)))
theorem e_each {l : Int} {ss : List Int} {a : Addr} (hM : Live M H) (h : cutM M H a = some (.lst (ss.map V.int))) (q : ∀ a H', Same H H' → Dp K (cutM M H') (.ref a) (Told.each l ss).d → Q (.ref a) H') : 3 ≤ sizeLine ∧ ∀ p, H p = none → Q (.ref p) (upd H p (.tup [V.str "each", .int l, .ref a])) := by
  refine ⟨by decide, ?_⟩
  walk_at "al"
  rename_i p hp H1 e1 g1
  exact q p H1 e1 (Dp.newT (hM.cut hp g1 (fun _ z => nomatch z)) (.cons (.str _) (.cons (.int l) (.cons (Dp.newL (cutM_up e1 _ _ h) (dpAll_ints ss)) .nil))))
theorem e_span {f l : Int} {t : Told} {v : V} (hM : Live M H) (h : Dp K (cutM M H) v t.d) (q : ∀ a H', Same H H' → Dp K (cutM M H') (.ref a) (Told.span f l t).d → Q (.ref a) H') : 4 ≤ sizeLine ∧ ∀ p, H p = none → Q (.ref p) (upd H p (.tup [V.str "span", .int f, .int l, v])) := by
  refine ⟨by decide, ?_⟩
  walk_at "al"
  rename_i p hp H1 e1 g1
  exact q p H1 e1 (Dp.newT (hM.cut hp g1 (fun _ z => nomatch z)) (.cons (.str _) (.cons (.int f) (.cons (.int l) (.cons (h.up (cutM_up e1)) .nil)))))
theorem e_but {ds : List Int} {t : Told} {a : Addr} {v : V} (hM : Live M H) (ha : cutM M H a = some (.lst (ds.map V.int))) (h : Dp K (cutM M H) v t.d) (q : ∀ a H', Same H H' → Dp K (cutM M H') (.ref a) (Told.but ds t).d → Q (.ref a) H') : 3 ≤ sizeLine ∧ ∀ p, H p = none → Q (.ref p) (upd H p (.tup [V.str "but", .ref a, v])) := by
  refine ⟨by decide, ?_⟩
  walk_at "al"
  rename_i p hp H1 e1 g1
  exact q p H1 e1 (Dp.newT (hM.cut hp g1 (fun _ z => nomatch z)) (.cons (.str _) (.cons (Dp.newL (cutM_up e1 _ _ ha) (dpAll_ints ds)) (.cons (h.up (cutM_up e1)) .nil))))
theorem e_either {x y : Told} {u v : V} (hM : Live M H) (hx : Dp K (cutM M H) u x.d) (h : Dp K (cutM M H) v y.d) (q : ∀ a H', Same H H' → Dp K (cutM M H') (.ref a) (Told.either x y).d → Q (.ref a) H') : 3 ≤ sizeLine ∧ ∀ p, H p = none → Q (.ref p) (upd H p (.tup [V.str "either", u, v])) := by
  refine ⟨by decide, ?_⟩
  walk_at "al"
  rename_i p hp H1 e1 g1
  exact q p H1 e1 (Dp.newT (hM.cut hp g1 (fun _ z => nomatch z)) (.cons (.str _) (.cons (hx.up (cutM_up e1)) (.cons (h.up (cutM_up e1)) .nil))))
theorem e_both {x y : Told} {u v : V} (hM : Live M H) (hx : Dp K (cutM M H) u x.d) (h : Dp K (cutM M H) v y.d) (q : ∀ a H', Same H H' → Dp K (cutM M H') (.ref a) (Told.both x y).d → Q (.ref a) H') : 3 ≤ sizeLine ∧ ∀ p, H p = none → Q (.ref p) (upd H p (.tup [V.str "both", u, v])) := by
  refine ⟨by decide, ?_⟩
  walk_at "al"
  rename_i p hp H1 e1 g1
  exact q p H1 e1 (Dp.newT (hM.cut hp g1 (fun _ z => nomatch z)) (.cons (.str _) (.cons (hx.up (cutM_up e1)) (.cons (h.up (cutM_up e1)) .nil))))
end
def p_law_days (K : PySem.W.Frag) (m : Nat) : P2 := fun v u H Q _ => ∃ (M : List Addr) (num : Int) (n : Nat), Live M H ∧ m = n + 1 ∧ v = .int num ∧ u = .int (n : Int) ∧ 0 ≤ num ∧ num < 2147483648 ∧ ∀ a H', Same H H' → Dp K (cutM M H') (.ref a) (days n num).d → Q (.ref a) H'
theorem law_days_step (T : Tx K mg) (n : Nat) (ih : Cal CX0 P w K mg base (n + 1) "_law_days" (sp2 (p_law_days K n))) : Cal CX0 P w K mg base (n + 2) "_law_days" (sp2 (p_law_days K (n + 1))) := by
  refine cal_of T.d_law_days T.g__law_days (fun _ _ _ _ _ _ => bind2 fun _ _ => rfl) sc_law_days len2 fun vs H Q E ⟨v, u, e, h⟩ cdv A outer s hr => ?_
  subst e
  have hu64 := hr.units
  refine ⟨_, PSs.nox (pss_cons (ps_set (i := 2) sc_law_days.nd rfl (Or.inl rfl) (pe_op op_fdiv (pv 0) pe_int))
    (pss_cons (ps_set (i := 3) sc_law_days.nd rfl (Or.inl rfl) (pe_ifExp (pt_cmpR op_gt (pv 1) pe_int (nomark _)) (pe_op op_mod (pv 0) pe_int) (pe_ix ix_list (pe_lst (pa_cons pe_int (pa_cons pe_int (pa_cons pe_int pa_nil)))) (pe_op op_mod (pv 0) pe_int) (fun _ _ => rfl))))
    (pss_cons (ps_if (pt_cmpR op_eq (pv 3) pe_int (nomark _)) (pss_one (ps_ret (pe_tup (pa_cons pe_str pa_nil)))) pss_nil)
    (pss_cons (ps_if (pt_cmpR op_eq (pv 3) pe_int (nomark _)) (pss_one (ps_ret (pe_tup (pa_cons pe_str (pa_cons (pe_op op_mod (pv 2) pe_int) pa_nil))))) pss_nil)
    (pss_cons (ps_if (pt_cmpR op_eq (pv 3) pe_int (nomark _)) (pss_cons (ps_set (i := 4) sc_law_days.nd rfl (Or.inl rfl) (pe_callB (cr_sortedSet rfl) rfl T.f_sorted (by decide +kernel) (pa_cons (pe_callTy (cr_setL rfl) rfl T.f_set (by decide +kernel) (pa_cons (pe_lst (pa_cons (pe_op op_mod (pv 2) pe_int) (pa_cons (pe_op op_mod (pe_op op_fdiv (pv 2) pe_int) pe_int) pa_nil))) pa_nil)) pa_nil)))
    (pss_one (ps_ret (pe_tup (pa_cons pe_str (pa_cons (pe_op op_add pe_int (pe_op op_mod (pe_op op_fdiv (pv 2) pe_int) pe_int)) (pa_cons (pv 4) pa_nil))))))) pss_nil)
    (pss_cons (ps_set (i := 5) sc_law_days.nd rfl (Or.inl rfl) (pe_ca ih hr (by omega) rfl pass0 (pa_cons (pe_op op_mod (pe_op op_mul (pv 2) pe_int) pe_int) (pa_cons (pe_op op_sub (pv 1) pe_int) pa_nil))))
    (pss_cons (ps_if (pt_cmpR op_eq (pv 3) pe_int (nomark _)) (pss_one (ps_ret (pe_tup (pa_cons pe_str (pa_cons (pe_op op_mod (pv 2) pe_int) (pa_cons (pe_op op_add (pe_op op_mod (pv 2) pe_int) (pe_op op_mod (pe_op op_fdiv (pv 2) pe_int) pe_int)) (pa_cons (pv 5) pa_nil))))))) pss_nil)
    (pss_cons (ps_if (pt_cmpR op_eq (pv 3) pe_int (nomark _)) (pss_one (ps_ret (pe_tup (pa_cons pe_str (pa_cons (pe_callB (cr_sortedSet rfl) rfl T.f_sorted (by decide +kernel) (pa_cons (pe_callTy (cr_setL rfl) rfl T.f_set (by decide +kernel) (pa_cons (pe_lst (pa_cons (pe_op op_mod (pv 2) pe_int) (pa_cons (pe_op op_mod (pe_op op_fdiv (pv 2) pe_int) pe_int) pa_nil))) pa_nil)) pa_nil)) (pa_cons (pv 5) pa_nil)))))) pss_nil)
    (pss_one (ps_ret (pe_tup (pa_cons (pe_ix ix_list (pe_lst (pa_cons pe_str (pa_cons pe_str pa_nil))) (pe_op op_sub (pv 3) pe_int) (fun _ _ => rfl)) (pa_cons (pv 5) (pa_cons (pe_ca ih hr (by omega) rfl pass0 (pa_cons (pe_op op_mod (pe_op op_mul (pv 2) pe_int) pe_int) (pa_cons (pe_op op_sub (pv 1) pe_int) pa_nil))) pa_nil)))))))))))))), ?_⟩
  obtain ⟨M, num, n', hM, en, rfl, rfl, h0, h1, q⟩ := h
  obtain rfl : n = n' := by omega
  walk_at "ws"
  refine ⟨⟨by decide, by decide⟩, ?_⟩
  cases n with
  | zero =>
    rw [if_neg (by omega)]
    walk_at "ws"
    refine ⟨by decide, ?_⟩
    walk_at "al"
    rename_i p hp H1 e1 g1
    refine ⟨by decide, ?_⟩
    have q : ∀ a H', Same H H' → Dp K (cutM M H') (.ref a) (leaf (num / 7) (if num % 3 = 0 then 0 else if num % 3 = 1 then 1 else 3)).d → Q (.ref a) H' := q
    have h3 : num % 3 = 0 ∨ num % 3 = 1 ∨ num % 3 = 2 := by omega
    rcases h3 with h3 | h3 | h3
    · rw [h3]
      rw [h3, if_pos rfl] at q
      refine ⟨p, _, 0, _, rfl, rfl, SqL.of g1, atI_nat (j := 0) rfl, ?_⟩
      walk_at "ws"
      exact e_always (hM.up e1) fun a H' e h => q a H' (e1.trans e) h
    · rw [h3]
      rw [h3, if_neg (by decide), if_pos rfl] at q
      refine ⟨p, _, 1, _, rfl, rfl, SqL.of g1, atI_nat (j := 1) rfl, ?_⟩
      walk_at "ws"
      refine ⟨by decide, ?_⟩
      exact e_week (hM.up e1) fun a H' e h => q a H' (e1.trans e) h
    · rw [h3]
      rw [h3, if_neg (by decide), if_neg (by decide)] at q
      refine ⟨p, _, 2, _, rfl, rfl, SqL.of g1, atI_nat (j := 2) rfl, ?_⟩
      walk_at "ws"
      refine ⟨by decide, ⟨by decide, by decide⟩, by decide, w_two fun l H2 hl e2 g2 => ?_⟩
      refine ⟨⟨by decide, by decide⟩, by decide, ?_⟩
      exact e_each (hM.up (e1.trans e2)) (hM.cut (e1.free hl) g2 (fun _ z => nomatch z)) fun a H' e h => q a H' ((e1.trans e2).trans e) h
  | succ n =>
    rw [if_pos (by omega)]
    walk_at "ws"
    refine ⟨by decide, ?_⟩
    have q : ∀ a H', Same H H' → Dp K (cutM M H') (.ref a) (if num % 7 = 0 ∨ num % 7 = 1 ∨ num % 7 = 3 then leaf (num / 7) (num % 7) else
      if num % 7 = 2 then .span (num / 7 % 20) (num / 7 % 20 + num / 7 / 20 % 30) (days n (num / 7 * 48271 % 2147483647)) else
      if num % 7 = 4 then .but (two (num / 7 % 9) (num / 7 / 9 % 9)) (days n (num / 7 * 48271 % 2147483647)) else
      if num % 7 = 5 then .either (days n (num / 7 * 48271 % 2147483647)) (days n (num / 7 * 16807 % 2147483647)) else
      .both (days n (num / 7 * 48271 % 2147483647)) (days n (num / 7 * 16807 % 2147483647)) : Told).d → Q (.ref a) H' := q
    refine ite2 (fun c0 => ?_) fun c0 => ?_
    · rw [if_pos (.inl c0), c0] at q
      exact e_always hM q
    refine ite2 (fun c1 => ?_) fun c1 => ?_
    · rw [if_pos (.inr (.inl c1)), c1] at q
      refine ⟨by decide, e_week hM q⟩
    refine ite2 (fun c3 => ?_) fun c3 => ?_
    · rw [if_pos (.inr (.inr c3)), c3] at q
      refine ⟨by decide, ⟨by decide, by decide⟩, by decide, w_two fun l H2 hl e2 g2 => ?_⟩
      refine ⟨⟨by decide, by decide⟩, by decide, ?_⟩
      exact e_each (hM.up e2) (hM.cut hl g2 (fun _ z => nomatch z)) fun a H' e h => q a H' (e2.trans e) h
    rw [if_neg (by omega)] at q
    refine ⟨.inl ⟨by omega, by omega⟩, by decide, ?_⟩
    refine ⟨M, _, n, hM, rfl, rfl, by congr 1; omega, by omega, by omega, fun a H1 e1 d1 => ?_⟩
    refine ite2 (fun c2 => ?_) fun c2 => ?_
    · rw [if_pos c2] at q
      refine ⟨by decide, by decide, ⟨by decide, by decide⟩, by decide, ?_⟩
      exact e_span (hM.up e1) d1 fun a H' e h => q a H' (e1.trans e) h
    rw [if_neg c2] at q
    refine ite2 (fun c4 => ?_) fun c4 => ?_
    · rw [if_pos c4] at q
      refine ⟨by decide, ⟨by decide, by decide⟩, by decide, w_two fun l H2 hl e2 g2 => ?_⟩
      exact e_but (hM.up (e1.trans e2)) (hM.cut (e1.free hl) g2 (fun _ z => nomatch z)) (d1.up (cutM_up e2)) fun a H' e h => q a H' ((e1.trans e2).trans e) h
    rw [if_neg c4] at q
    refine ⟨by decide, ?_⟩
    walk_at "al"
    rename_i p hp H2 e2 g2
    have e12 := e1.trans e2
    have c5 : num % 7 = 5 ∨ num % 7 = 6 := by omega
    rcases c5 with c5 | c5
    · rw [if_pos c5] at q
      rw [c5]
      refine ⟨p, _, 0, _, rfl, rfl, SqL.of g2, atI_nat (j := 0) rfl, ?_⟩
      refine ⟨.inl ⟨by omega, by omega⟩, by decide, ?_⟩
      refine ⟨M, _, n, hM.up e12, rfl, rfl, by congr 1; omega, by omega, by omega, fun b H3 e3 d3 => ?_⟩
      exact e_either (hM.up (e12.trans e3)) ((d1.up (cutM_up e2)).up (cutM_up e3)) d3 fun a H' e h => q a H' ((e12.trans e3).trans e) h
    · rw [if_neg (by omega)] at q
      rw [c5]
      refine ⟨p, _, 1, _, rfl, rfl, SqL.of g2, atI_nat (j := 1) rfl, ?_⟩
      refine ⟨.inl ⟨by omega, by omega⟩, by decide, ?_⟩
      refine ⟨M, _, n, hM.up e12, rfl, rfl, by congr 1; omega, by omega, by omega, fun b H3 e3 d3 => ?_⟩
      exact e_both (hM.up (e12.trans e3)) ((d1.up (cutM_up e2)).up (cutM_up e3)) d3 fun a H' e h => q a H' ((e12.trans e3).trans e) h
theorem ok_law_days (T : Tx K mg) : ∀ n : Nat, Cal CX0 P w K mg base (n + 1) "_law_days" (sp2 (p_law_days K n))
  | 0 => cal_of T.d_law_days T.g__law_days (fun _ _ _ _ _ _ => bind2 fun _ _ => rfl) sc_law_days len2 fun vs H Q E ⟨_, _, _, _, _, n, _, h, _⟩ => by omega
  | n + 1 => law_days_step T n (ok_law_days T n)
end
end K06
set_option maxHeartbeats 4000000
namespace K06
open PySem L2
local macro_rules | `(tactic| walk_at "ws") => `(tactic| try simp only [w_var0, w_varS, w_c, w_ret, w_retN, w_next, w_seq, w_asg, w_gn, w_drop, w_if, w_and, w_or, w_not, ex_bl, ex_int, ex_two, w_B, w_test, w_andV, w_orV, w_notV, w_ife, w_op, w_un, w_chain, w_nil, w_cons, w_cb, w_ca, w_lst, w_tup, w_I0, w_I, w_U, w_eqI, w_neI, w_eqS, w_neS,
  w_isN0, w_notN0, w_fld, w_sfld, w_me, w_ma, w_dget, w_din, w_dnotin, w_dput, w_slice, w_part, w_nopart, w_bm, w_bm0, w_par, w_lc, w_for, w_iList, w_iTup, w_iStr, w_iRng1, w_iZip, w_iEnum, w_tM1, w_dnewK, w_meD, w_maxD, w_bare, w_gtup, w_glst, w_gcons, w_gnil, w_gsub, cx_K, cx_K',
  L2.start, endsOf, List.map_cons, List.map_nil, List.length_cons, List.length_nil, List.cons_append, List.nil_append, Nat.zero_add, Nat.reduceAdd, Nat.reduceSub, List.replicate_succ, List.replicate_zero, List.set_cons_zero, List.set_cons_succ, List.set_nil,
  sp0_eq, sp1_eq, sp2_eq, sp3_eq, sp4_eq, sp5_eq, if_true, Bool.false_eq_true, if_false, decide_eq_true_eq, Bool.not_eq_true', decide_eq_false_iff_not, Bool.not_true, Bool.not_false, Bool.not_eq_false', isD_int_none, isD_int_bool, isD_int_int, isD_int_str, isD_int_list, isD_int_tuple, isD_int_dict, isD_bool_none, isD_bool_bool, isD_bool_int, isD_bool_str, isD_bool_list, isD_bool_tuple, isD_bool_dict, isD_str_none, isD_str_bool, isD_str_int, isD_str_str, isD_str_list, isD_str_tuple, isD_str_dict, isD_list_none, isD_list_bool, isD_list_int, isD_list_str, isD_list_list, isD_list_tuple, isD_list_dict, isD_tuple_none, isD_tuple_bool, isD_tuple_int, isD_tuple_str, isD_tuple_list, isD_tuple_tuple, isD_tuple_dict])
local macro_rules | `(tactic| walk_at "al") => `(tactic| (intro p hp; generalize hH : upd _ _ _ = H2; obtain ⟨e2, g2⟩ := alloc1 hp hH.symm; clear hH))
/-! ### names that are drawn -/
def letC (n : Int) : Nat := letL.getD (n % 26).toNat 0
theorem letL_len : letL.length = 26 := by decide +kernel
theorem letL_inj : ∀ i, i < 26 → ∀ j, j < 26 → letL.getD i 0 = letL.getD j 0 → i = j := by decide +kernel
theorem letC_at (n : Int) : letL[(n % 26).toNat]? = some (letC n) := by
  have h : (n % 26).toNat < letL.length := by rw [letL_len]; omega
  unfold letC
  rw [List.getD, List.getElem?_eq_getElem h]
  rfl
theorem letC_mem (n : Int) : letC n ∈ letL := List.mem_of_getElem? (letC_at n)
theorem letC_inj {a b : Int} (h : letC a = letC b) : a % 26 = b % 26 := by
  have := letL_inj (a % 26).toNat (by omega) (b % 26).toNat (by omega) h
  omega
def tailL (seed : Int) : List Nat := (List.range (seed % 7).toNat).map fun (j : Nat) => letC (mixed seed (20 + (j : Int)))
def atN (seed : Int) : Nat := (seed / 7 % (((tailL seed).length : Int) + 1)).toNat
def nameL (seed k : Int) : List Nat := (tailL seed).take (atN seed) ++ letC (seed / 56 + 3 * k) :: (tailL seed).drop (atN seed)
def nameS (seed k : Int) : Str := ⟨(nameL seed k).toArray⟩
theorem tail_len (seed : Int) : (tailL seed).length ≤ 6 := by
  unfold tailL
  rw [List.length_map, List.length_range]
  omega
theorem atN_le (seed : Int) : atN seed ≤ (tailL seed).length := by
  unfold atN
  have h1 := Int.emod_nonneg (seed / 7) (show ((tailL seed).length : Int) + 1 ≠ 0 by omega)
  have h2 := Int.emod_lt_of_pos (seed / 7) (show (0 : Int) < ((tailL seed).length : Int) + 1 by omega)
  omega
theorem name_valid (seed k : Int) : isNameS (nameS seed k) = true := by
  have h1 := tail_len seed
  have h2 := atN_le seed
  have hl : (nameS seed k).length = (tailL seed).length + 1 := by
    show (nameL seed k).toArray.size = _
    rw [List.size_toArray]
    unfold nameL
    rw [List.length_append, List.length_take, List.length_cons, List.length_drop]
    omega
  unfold isNameS
  rw [hl, decide_eq_true (by omega), decide_eq_true (by omega), Bool.true_and, Bool.true_and, List.all_eq_true]
  intro c hc
  have hc : c ∈ nameL seed k := hc
  have ht : ∀ c ∈ tailL seed, c ∈ letL := fun c hc => by
    obtain ⟨j, _, rfl⟩ := List.mem_map.mp hc
    exact letC_mem _
  unfold nameL at hc
  rcases List.mem_append.mp hc with h | h
  · exact decide_eq_true (ht c (List.mem_of_mem_take h))
  · rcases List.mem_cons.mp h with rfl | h
    · exact decide_eq_true (letC_mem _)
    · exact decide_eq_true (ht c (List.mem_of_mem_drop h))
theorem name_inj {seed : Int} {i j : Nat} (hi : i < 12) (hj : j < 12) (h : nameS seed i = nameS seed j) : i = j := by
  have h : nameL seed i = nameL seed j := by
    have := congrArg (fun s => s.cps.toList) h
    exact this
  unfold nameL at h
  have h2 := List.append_cancel_left h
  have h3 := letC_inj (List.cons.inj h2).1
  omega
theorem atI_int {α : Type} {xs : List α} {i : Int} {c : α} (h0 : 0 ≤ i) (h : xs[i.toNat]? = some c) : atI xs i = some c := by
  obtain ⟨k, rfl⟩ := Int.eq_ofNat_of_zero_le h0
  exact atI_nat h
theorem join_signs (cs : List Nat) : Txt.join "" (cs.map fun c => (⟨#[c]⟩ : Str)) = ⟨cs.toArray⟩ := by
  have go : ∀ (r : List Nat) (acc : Array Nat), (r.map fun c => (⟨#[c]⟩ : Str)).foldl (fun acc p => acc ++ (Str.ofString "").cps ++ p.cps) acc = acc ++ r.toArray := by
    intro r
    induction r with
    | nil => intro acc; simp
    | cons c r ih =>
      intro acc
      have e : (Str.ofString "").cps = #[] := by rfl
      rw [List.map_cons, List.foldl_cons, ih, e]
      simp
  cases cs with
  | nil => rfl
  | cons c r =>
    show (⟨((r.map fun c => (⟨#[c]⟩ : Str))).foldl _ #[c]⟩ : Str) = _
    rw [go]
    simp
theorem cut_lo (z : Str) (n : Nat) (h : n ≤ z.length) : (cutS z none (some (n : Int))) = ⟨(z.cps.toList.take n).toArray⟩ := by
  unfold cutS
  rw [HT.sIx_none, HT.sIx_nat, List.drop_zero, Nat.sub_zero, Nat.min_eq_left h]
theorem cut_hi (z : Str) (n : Nat) (h : n ≤ z.length) : (cutS z (some (n : Int)) none) = ⟨(z.cps.toList.drop n).toArray⟩ := by
  unfold cutS
  rw [HT.sIx_none, HT.sIx_nat, Nat.min_eq_left h, List.take_of_length_le]
  rw [List.length_drop]
  exact Nat.le_refl _
theorem len_arr (l : List Nat) : (⟨l.toArray⟩ : Str).length = l.length := by
  show l.toArray.size = _
  simp
theorem str_app (a b : List Nat) : ((⟨a.toArray⟩ : Str) ++ (⟨b.toArray⟩ : Str)) = ⟨(a ++ b).toArray⟩ := by
  show (⟨a.toArray ++ b.toArray⟩ : Str) = _
  simp
section
variable {P : Program} {w : World} {K : PySem.W.Frag} {mg : Str → Option Value} {base : Heap}
def p_law_name : P2 := fun v u H Q _ => ∃ seed k : Int, v = .int seed ∧ u = .int k ∧ 0 ≤ seed ∧ 0 ≤ k ∧ k ≤ 1000 ∧ ∀ H', Same H H' → Q (.str (nameS seed k)) H'
theorem ok_law_name (T : Tx K mg) : Cal CX0 P w K mg base 2 "_law_name" (sp2 p_law_name) := by
  refine cal_of T.d_law_name T.g__law_name (fun _ _ _ _ _ _ => bind2 fun _ _ => rfl) sc_law_name len2 fun vs H Q E ⟨v, u, e, h⟩ cdv A outer s hr => ?_
  subst e
  refine ⟨_, PSs.nox (pss_cons (ps_set (i := 2) sc_law_name.nd rfl (Or.inr rfl) pe_str)
    (pss_cons (ps_set (i := 3) sc_law_name.nd rfl (Or.inl rfl) (pe_join pe_str (pe_lc (own := [("_law_j", 5)]) rfl sc_law_name.nd (pi_range1 rfl T.f_range (pa_cons (pe_op op_mod (pv 0) pe_int) pa_nil)) (blkOk_by (own := [("_law_j", 5)]) (N := ["_law_seed", "_law_k", "_law_letters", "_law_tail", "_law_at", "_law_j"]) (sc := defScope s_law_name) (by decide +kernel)) (fun _ _ _ _ _ => pg_name (i := 5) sc_law_name.nd rfl (Or.inl rfl)) (fun _ _ _ _ _ => pts_nil) (fun _ _ _ _ _ => (pe_ix ix_str (pv 2) (pe_op op_mod (pe_ca (ok_law_mixed T) hr (by decide) rfl pass0 (pa_cons (pv 0) (pa_cons (pe_op op_add pe_int (pv 5)) pa_nil))) pe_int) (fun _ _ => rfl))))))
    (pss_cons (ps_set (i := 4) sc_law_name.nd rfl (Or.inl rfl) (pe_op op_mod (pe_op op_fdiv (pv 0) pe_int) (pe_op op_add (pe_callB call_len_str rfl T.f_len (by decide +kernel) (pa_cons (pv 3) pa_nil)) pe_int)))
    (pss_one (ps_ret (pe_op op_add_str (pe_op op_add_str (pe_slice sl_str (pv 3) po_none (po_some (pv 4))) (pe_ix ix_str (pv 2) (pe_op op_mod (pe_op op_add (pe_op op_fdiv (pv 0) pe_int) (pe_op op_mul pe_int (pv 1))) pe_int) (fun _ _ => rfl))) (pe_slice sl_str (pv 3) (po_some (pv 4)) po_none))))))), ?_⟩
  obtain ⟨seed, k, rfl, rfl, h0, k0, k1, q⟩ := h
  walk_at "ws"
  refine ⟨⟨_, rfl⟩, by decide, _, rfl, by omega, by omega, ?_⟩
  refine lcG (fun i y _ => y = .str ⟨#[letC (mixed seed (20 + (i : Int)))]⟩) (by omega) (fun _ => rfl) (fun _ _ _ _ _ h => h) (fun i D H3 acc e hi _ _ R r => ?_) fun D ys H1 hD e1 g1 hp => ?_
  · simp only [wipe]
    walk_at "ws"
    refine ⟨seed, 20 + (0 + (i : Int)), rfl, rfl, by omega, by omega, ?_⟩
    walk_at "ws"
    refine ⟨by decide, _, _, letC (mixed seed (20 + (i : Int))), rfl, rfl, by decide +kernel, atI_int (by omega) ?_, r _ H3 (Same.refl H3) rfl⟩
    rw [Int.zero_add]
    exact letC_at _
  · have ey := paired_map hp
    have ey2 : ys = ((tailL seed).map fun c => (⟨#[c]⟩ : Str)).map V.str := by
      rw [ey]
      unfold tailL
      rw [List.map_map, List.map_map]
      rfl
    have tl := tail_len seed
    have ta := atN_le seed
    refine ⟨_, D, (tailL seed).map fun c => (⟨#[c]⟩ : Str), rfl, rfl, .inl (SqL.of (by rw [g1, ey2])), ?_, ⟨by decide, by decide⟩, ?_⟩
    · have e0 : (Str.ofString "").length = 0 := by rfl
      rw [e0, List.map_map, List.length_map, Nat.mul_zero, Nat.add_zero]
      have : ∀ l : List Nat, (l.map ((fun (x : Str) => x.length) ∘ fun c => (⟨#[c]⟩ : Str))).sum = l.length := fun l => by
        induction l with
        | nil => rfl
        | cons a r ih => rw [List.map_cons, List.sum_cons, ih, List.length_cons]; show 1 + _ = _; omega
      rw [this]
      omega
    rw [join_signs]
    have zl : (⟨(tailL seed).toArray⟩ : Str).length = (tailL seed).length := by
      show (tailL seed).toArray.size = _
      simp
    have h7 : seed / 7 % (((tailL seed).length : Int) + 1) = ((atN seed : Nat) : Int) := by
      unfold atN
      have h1 := Int.emod_nonneg (seed / 7) (show ((tailL seed).length : Int) + 1 ≠ 0 by omega)
      omega
    refine ⟨_, rfl, by rw [zl]; exact Nat.le_trans tl (by decide), by omega, ?_⟩
    rw [zl, h7]
    refine ⟨_, rfl, by rw [zl]; exact Nat.le_trans tl (by decide), ?_⟩
    rw [cut_lo _ _ (by rw [zl]; exact ta)]
    refine ⟨⟨by decide, by decide⟩, .inl ⟨by decide, by decide⟩, by decide, ?_⟩
    refine ⟨_, _, letC (seed / 56 + 3 * k), rfl, rfl, by decide +kernel, atI_int (by omega) (letC_at _), ?_⟩
    refine ⟨_, _, rfl, rfl, ?_, ?_⟩
    · show (⟨((tailL seed).take (atN seed)).toArray⟩ : Str).length + 1 ≤ sizeLine
      rw [len_arr, List.length_take]
      exact Nat.le_trans (m := 7) (by omega) (by decide)
    refine ⟨_, rfl, by rw [zl]; exact Nat.le_trans tl (by decide), ?_⟩
    rw [cut_hi _ _ (by rw [zl]; exact ta)]
    refine ⟨_, _, rfl, rfl, ?_, ?_⟩
    · have e : ((⟨(tailL seed).toArray⟩ : Str).cps.toList).length = (tailL seed).length := by simp
      rw [Str.length_append, len_arr, len_arr, len_arr, List.length_take, List.length_drop, e]
      show _ + 1 + _ ≤ sizeLine
      exact Nat.le_trans (m := 13) (by omega) (by decide)
    have en : ((⟨((tailL seed).take (atN seed)).toArray⟩ : Str) ++ (⟨#[letC (seed / 56 + 3 * k)]⟩ : Str)) ++ (⟨((tailL seed).drop (atN seed)).toArray⟩ : Str) = nameS seed k := by
      show (⟨_⟩ : Str) ++ (⟨[letC (seed / 56 + 3 * k)].toArray⟩ : Str) ++ _ = _
      rw [str_app, str_app]
      unfold nameS nameL
      simp
    rw [en]
    exact q H1 e1
end
end K06
set_option maxHeartbeats 4000000
namespace K06
open PySem L2
theorem nn_str {x : Str} : (V.str x = V.non) = False := by simp
theorem nn_ref {a : Addr} : (V.ref a = V.non) = False := by simp
theorem nn_some {x : Str} : (wordV (some x) = V.non) = False := by simp [wordV]
theorem nn_none : (wordV none = V.non) = True := by simp [wordV]
theorem w_pairN {σ : St} {H : Hp} {Q : List (V × V) → Hp → Prop} : tPairs [] σ H Q = Q [] H := rfl
theorem w_pairC {tk tv : TE} {r : List (TE × TE)} {σ : St} {H : Hp} {Q : List (V × V) → Hp → Prop} : tPairs ((tk, tv) :: r) σ H Q = tk σ H fun x H1 => tv σ H1 fun y H2 => tPairs r σ H2 fun ps H3 => Q ((x, y) :: ps) H3 := rfl
theorem w_disp {trs : List (TE × TE)} {σ : St} {H : Hp} {Q : VK} : tDisp trs σ H Q = ∀ p, H p = none → tPairs trs σ (upd H p (.dK [])) fun ps H2 => H2 p = some (.dK []) ∧ ∃ kvs : List (Key × V), ps = kvs.map (fun kv => (kV kv.1, kv.2)) ∧ kvs.length ≤ 15 ∧ Q (.ref p) (upd H2 p (.dK (mergeK [] kvs))) := rfl
local macro_rules | `(tactic| walk_at "ws") => `(tactic| try simp only [w_var0, w_varS, w_c, w_ret, w_retN, w_next, w_seq, w_asg, w_gn, w_drop, w_if, w_and, w_or, w_not, ex_bl, ex_int, ex_two, w_B, w_test, w_andV, w_orV, w_notV, w_ife, w_op, w_un, w_chain, w_nil, w_cons, w_cb, w_ca, w_lst, w_tup, w_I0, w_I, w_U, w_eqI, w_neI, w_eqS, w_neS,
  w_isN0, w_notN0, w_fld, w_sfld, w_me, w_ma, w_dget, w_din, w_dnotin, w_dput, w_slice, w_part, w_nopart, w_bm, w_bm0, w_par, w_lc, w_for, w_iList, w_iTup, w_iStr, w_iRng1, w_iZip, w_iEnum, w_tM1, w_dnewK, nn_str, nn_some, nn_none, nn_ref, w_pairN, w_pairC, w_disp, w_meD, w_maxD, w_bare, w_gtup, w_glst, w_gcons, w_gnil, w_gsub, cx_K, cx_K',
  L2.start, endsOf, List.map_cons, List.map_nil, List.length_cons, List.length_nil, List.cons_append, List.nil_append, Nat.zero_add, Nat.reduceAdd, Nat.reduceSub, List.replicate_succ, List.replicate_zero, List.set_cons_zero, List.set_cons_succ, List.set_nil,
  sp0_eq, sp1_eq, sp2_eq, sp3_eq, sp4_eq, sp5_eq, if_true, Bool.false_eq_true, if_false, decide_eq_true_eq, Bool.not_eq_true', decide_eq_false_iff_not, Bool.not_true, Bool.not_false, Bool.not_eq_false', isD_int_none, isD_int_bool, isD_int_int, isD_int_str, isD_int_list, isD_int_tuple, isD_int_dict, isD_bool_none, isD_bool_bool, isD_bool_int, isD_bool_str, isD_bool_list, isD_bool_tuple, isD_bool_dict, isD_str_none, isD_str_bool, isD_str_int, isD_str_str, isD_str_list, isD_str_tuple, isD_str_dict, isD_list_none, isD_list_bool, isD_list_int, isD_list_str, isD_list_list, isD_list_tuple, isD_list_dict, isD_tuple_none, isD_tuple_bool, isD_tuple_int, isD_tuple_str, isD_tuple_list, isD_tuple_tuple, isD_tuple_dict])
local macro_rules | `(tactic| walk_at "al") => `(tactic| (intro p hp; generalize hH : upd _ _ _ = H2; obtain ⟨e2, g2⟩ := alloc1 hp hH.symm; clear hH))
/-! ### the law's own world -/
structure WA where
  s : Addr
  w : Addr
  r : Addr
  t : Addr
  p : Addr
def worldK (A : WA) : List (Key × V) := [(.inr "stops", .ref A.s), (.inr "walks", .ref A.w), (.inr "rules", .ref A.r), (.inr "tickets", .ref A.t), (.inr "trips", .ref A.p)]
def IsWorld (H : Hp) (W : Addr) (A : WA) : Prop := H W = some (.dK (worldK A))
theorem IsWorld.up {H H' : Hp} {W : Addr} {A : WA} (h : IsWorld H W A) (e : Same H H') : IsWorld H' W A := e _ _ h
section
variable {H : Hp} {W : Addr} {A : WA} {R : V → Prop}
theorem d_stops (h : IsWorld H W A) (r : R (.ref A.s)) : ∃ a v, V.ref W = .ref a ∧ DGet H a (.str "stops") (some v) ∧ R v := ⟨W, .ref A.s, rfl, DGet.k (k := Sum.inr ("stops" : Str)) h, r⟩
theorem d_walks (h : IsWorld H W A) (r : R (.ref A.w)) : ∃ a v, V.ref W = .ref a ∧ DGet H a (.str "walks") (some v) ∧ R v := ⟨W, .ref A.w, rfl, DGet.k (k := Sum.inr ("walks" : Str)) h, r⟩
theorem d_rules (h : IsWorld H W A) (r : R (.ref A.r)) : ∃ a v, V.ref W = .ref a ∧ DGet H a (.str "rules") (some v) ∧ R v := ⟨W, .ref A.r, rfl, DGet.k (k := Sum.inr ("rules" : Str)) h, r⟩
theorem d_tickets (h : IsWorld H W A) (r : R (.ref A.t)) : ∃ a v, V.ref W = .ref a ∧ DGet H a (.str "tickets") (some v) ∧ R v := ⟨W, .ref A.t, rfl, DGet.k (k := Sum.inr ("tickets" : Str)) h, r⟩
theorem d_trips (h : IsWorld H W A) (r : R (.ref A.p)) : ∃ a v, V.ref W = .ref a ∧ DGet H a (.str "trips") (some v) ∧ R v := ⟨W, .ref A.p, rfl, DGet.k (k := Sum.inr ("trips" : Str)) h, r⟩
end
section
variable {P : Program} {w : World} {K : PySem.W.Frag} {mg : Str → Option Value} {base : Heap}
def p_law_world (K : PySem.W.Frag) : Hp → VK → XK → Prop := fun H Q _ => ∀ W A H', Same H H' → H W = none → IsWorld H' W A → H' A.s = some (.dK []) → H' A.w = some (.lst []) → H' A.r = some (.dK []) → H' A.t = some (.dK []) → H' A.p = some (.dK []) →
  H A.s = none → H A.w = none → H A.r = none → H A.t = none → H A.p = none → [A.s, A.w, A.r, A.t, A.p].Nodup → Q (.ref W) H'
theorem ok_law_world (T : Tx K mg) : Cal CX0 P w K mg base 1 "_law_world" (sp0 (p_law_world K)) := by
  refine cal_of T.d_law_world T.g__law_world (fun _ _ _ _ _ _ => fun us hus => by cases us with | nil => rfl | cons _ _ => cases hus) sc_law_world len0 fun vs H Q E ⟨e, q⟩ cdv A outer s hr => ?_
  subst e
  refine ⟨_, PSs.nox (pss_one (ps_ret (pe_disp (pps_cons pe_str pe_dnewK (pps_cons pe_str (pe_lst pa_nil) (pps_cons pe_str pe_dnewK (pps_cons pe_str pe_dnewK (pps_cons pe_str pe_dnewK pps_nil))))) (by rfl) (by rfl) (fun z => by cases z) (by decide)))), ?_⟩
  walk_at "ws"
  intro W hW
  obtain ⟨e0, g0⟩ := alloc1 (o := .dK []) hW rfl
  generalize upd H W (.dK []) = H0 at *
  walk_at "al"
  rename_i a1 f1 H1 e1 g1
  refine ⟨by decide, ?_⟩
  walk_at "al"
  rename_i a2 f2 H2 e2 g2
  walk_at "al"
  rename_i a3 f3 H3 e3 g3
  walk_at "al"
  rename_i a4 f4 H4 e4 g4
  walk_at "al"
  rename_i a5 f5 H5 e5 g5
  have e15 := e1.trans (e2.trans (e3.trans (e4.trans e5)))
  refine ⟨e15 _ _ g0, worldK ⟨a1, a2, a3, a4, a5⟩, rfl, (by show 5 ≤ 15; decide), ?_⟩
  have hm : mergeK [] (worldK ⟨a1, a2, a3, a4, a5⟩) = worldK ⟨a1, a2, a3, a4, a5⟩ := by rfl
  rw [hm]
  have n1 := ne_of_none g0 f1
  have n2 := ne_of_none (e1 _ _ g0) f2
  have n3 := ne_of_none (e2 _ _ (e1 _ _ g0)) f3
  have n4 := ne_of_none (e3 _ _ (e2 _ _ (e1 _ _ g0))) f4
  have n5 := ne_of_none (e4 _ _ (e3 _ _ (e2 _ _ (e1 _ _ g0)))) f5
  have m12 := ne_of_none g1 f2
  have m13 := ne_of_none (e2 _ _ g1) f3
  have m14 := ne_of_none (e3 _ _ (e2 _ _ g1)) f4
  have m15 := ne_of_none (e4 _ _ (e3 _ _ (e2 _ _ g1))) f5
  have m23 := ne_of_none g2 f3
  have m24 := ne_of_none (e3 _ _ g2) f4
  have m25 := ne_of_none (e4 _ _ (e3 _ _ g2)) f5
  have m34 := ne_of_none g3 f4
  have m35 := ne_of_none (e4 _ _ g3) f5
  have m45 := ne_of_none g4 f5
  refine q W ⟨a1, a2, a3, a4, a5⟩ _ ((e0.trans e15).mut hW) hW upd_same ?_ ?_ ?_ ?_ ?_ (e0.free f1) ((e0.trans e1).free f2) ((e0.trans (e1.trans e2)).free f3) ((e0.trans (e1.trans (e2.trans e3))).free f4) ((e0.trans (e1.trans (e2.trans (e3.trans e4)))).free f5) ?_
  · rw [upd_ne n1.symm]; exact e5 _ _ (e4 _ _ (e3 _ _ (e2 _ _ g1)))
  · rw [upd_ne n2.symm]; exact e5 _ _ (e4 _ _ (e3 _ _ g2))
  · rw [upd_ne n3.symm]; exact e5 _ _ (e4 _ _ g3)
  · rw [upd_ne n4.symm]; exact e5 _ _ g4
  · rw [upd_ne n5.symm]; exact g5
  · simp [m12, m13, m14, m15, m23, m24, m25, m34, m35, m45]
/-! ### what the law thinks of a put -/
def lstopOut (d1 d2 d3 : PyData) (kvs : List (Key × V)) : Option Str := match lfreshD d1 kvs with
  | some e => some e
  | none => if amongD d2 1 6 = true then (if amongD d3 0 30 = true then (if kvs.length = 8 then some ("many" : Str) else none) else some ("number" : Str)) else some ("number" : Str)
theorem lfreshD_none {d : PyData} {kvs : List (Key × V)} (h : lfreshD d kvs = none) : ∃ x, d = .str x ∧ isNameS x = true ∧ valV kvs (.inr x) = none := by
  cases d <;> first | (exfalso; simp [lfreshD] at h; done) | skip
  rename_i x
  have h : lfreshS x kvs = none := h
  unfold lfreshS at h
  cases hx : isNameS x with
  | false => rw [hx] at h; cases h
  | true =>
    rw [hx, if_pos rfl] at h
    cases hv : valV kvs (.inr x) with
    | none => exact ⟨x, rfl, hx, hv⟩
    | some v => rw [hv] at h; cases h
def p_due_stop (K : PySem.W.Frag) : P2 := fun v g H Q _ => ∃ W A l v1 v2 v3 d1 d2 d3 kvs, v = .ref W ∧ IsWorld H W A ∧ g = .ref l ∧ SqL K H l [v1, v2, v3] ∧ Av K H v1 d1 ∧ Av K H v2 d2 ∧ Av K H v3 d3 ∧ H A.s = some (.dK kvs) ∧ kvs.length ≤ 8 ∧
  (∀ x, lstopOut d1 d2 d3 kvs = some x → ∀ H', Same H H' → Q (.str x) H') ∧
  (lstopOut d1 d2 d3 kvs = none → ∀ x z m t H', d1 = .str x → d2 = .int z → d3 = .int m → H t = none → SameB A.s H H' → H' A.s = some (.dK (putK kvs (.inr x) (.ref t))) → H' t = some (.tup [.int z, .int m]) → Q .non H')
theorem ok_law_due_stop (T : Tx K mg) : Cal CX0 P w K mg base 3 "_law_due_stop" (sp2 (p_due_stop K)) := by
  refine cal_of T.d_law_due_stop T.g__law_due_stop (fun _ _ _ _ _ _ => bind2 fun _ _ => rfl) sc_law_due_stop len2 fun vs H Q E ⟨v, g, e, h⟩ cdv A outer s hr => ?_
  subst e
  have hu := hu_of hr
  refine ⟨_, PSs.nox (pss_cons (ps_set (i := 2) sc_law_due_stop.nd rfl (Or.inl rfl) (pe_ca (ok_law_fresh T) hr (by decide) rfl pass0 (pa_cons (pe_ix ix_list (pv 1) pe_int (fun _ _ => rfl)) (pa_cons (pe_dget hu (pv 0) pe_str (fun _ _ => rfl)) pa_nil))))
    (pss_cons (ps_if (PW.pt (pw_and (pt_cmpR op_isN0 (pv 2) pe_non (nomark _)) (pw_and1 (pt_not (PW.pt (pw_and (pt_val (pe_ca (ok_law_among T) hr (by decide) rfl pass0 (pa_cons (pe_ix ix_list (pv 1) pe_int (fun _ _ => rfl)) (pa_cons pe_int (pa_cons pe_int pa_nil))))) (pw_and1 (pt_val (pe_ca (ok_law_among T) hr (by decide) rfl pass0 (pa_cons (pe_ix ix_list (pv 1) pe_int (fun _ _ => rfl)) (pa_cons pe_int (pa_cons pe_int pa_nil)))))))))))) (pss_one (ps_set (i := 2) sc_law_due_stop.nd rfl (Or.inl rfl) pe_str)) pss_nil)
    (pss_cons (ps_if (PW.pt (pw_and (pt_cmpR op_isN0 (pv 2) pe_non (nomark _)) (pw_and1 (pt_cmpR op_eq (pe_callB call_lenD rfl T.f_len (by decide +kernel) (pa_cons (pe_dget hu (pv 0) pe_str (fun _ _ => rfl)) pa_nil)) pe_int (nomark _))))) (pss_one (ps_set (i := 2) sc_law_due_stop.nd rfl (Or.inl rfl) pe_str)) pss_nil)
    (pss_cons (ps_if (pt_cmpR op_isN0 (pv 2) pe_non (nomark _)) (pss_one (ps_dput hu (pe_dget hu (pv 0) pe_str (fun _ _ => rfl)) (pe_ix ix_list (pv 1) pe_int (fun _ _ => rfl)) (pe_tup (pa_cons (pe_ix ix_list (pv 1) pe_int (fun _ _ => rfl)) (pa_cons (pe_ix ix_list (pv 1) pe_int (fun _ _ => rfl)) pa_nil))) rfl)) pss_nil)
    (pss_one (ps_ret (pv 2))))))), ?_⟩
  obtain ⟨W, A, l, v1, v2, v3, d1, d2, d3, kvs, rfl, hW, rfl, hl, h1, h2, h3, ha, hlen, q1, q2⟩ := h
  unfold lstopOut at q1 q2
  walk_at "ws"
  refine ⟨l, _, 0, _, rfl, rfl, hl, atI_nat (j := 0) rfl, ?_⟩
  refine d_stops hW ?_
  walk_at "ws"
  refine ⟨d1, A.s, kvs, h1, rfl, ha, fun H1 e1 => ?_⟩
  cases hf : lfreshD d1 kvs with
  | some x =>
    rw [hf] at q1
    walk_at "ws"
    exact q1 x rfl H1 e1
  | none =>
    rw [hf] at q1 q2
    obtain ⟨x, rfl, hxn, hxv⟩ := lfreshD_none hf
    walk_at "ws"
    refine ⟨l, _, 1, _, rfl, rfl, e1.seq hl, atI_nat (j := 1) rfl, ?_⟩
    refine ⟨d2, 1, 6, h2.up e1, rfl, rfl, ?_⟩
    walk_at "ws"
    cases hd2 : amongD d2 1 6 with
    | false =>
      rw [hd2] at q1
      exact q1 _ rfl H1 e1
    | true =>
      rw [hd2] at q1 q2
      rw [if_pos rfl]
      refine ⟨l, _, 2, _, rfl, rfl, e1.seq hl, atI_nat (j := 2) rfl, ?_⟩
      refine ⟨d3, 0, 30, h3.up e1, rfl, rfl, ?_⟩
      walk_at "ws"
      cases hd3 : amongD d3 0 30 with
      | false =>
        rw [hd3] at q1
        walk_at "ws"
        exact q1 _ rfl H1 e1
      | true =>
        rw [hd3] at q1 q2
        walk_at "ws"
        refine d_stops (hW.up e1) ?_
        refine ⟨A.s, kvs, rfl, e1 _ _ ha, ?_⟩
        refine ite2 (fun c => ?_) fun c => ?_
        · have c' : kvs.length = 8 := by omega
          exact q1 _ (show (if kvs.length = 8 then some ("many" : Str) else none) = _ from if_pos c') H1 e1
        · obtain ⟨z, rfl, _, _⟩ := among_int hd2
          obtain ⟨m, rfl, _, _⟩ := among_int hd3
          refine ⟨l, _, 1, _, rfl, rfl, e1.seq hl, atI_nat (j := 1) rfl, ?_⟩
          refine ⟨l, _, 2, _, rfl, rfl, e1.seq hl, atI_nat (j := 2) rfl, ?_⟩
          refine ⟨by decide, ?_⟩
          rw [Av_int h2, Av_int h3]
          walk_at "al"
          rename_i t ht H2 e2 g2
          refine d_stops ((hW.up e1).up e2) ?_
          refine ⟨l, _, 0, _, rfl, rfl, (e1.trans e2).seq hl, atI_nat (j := 0) rfl, ?_⟩
          rw [Av_str h1]
          refine ⟨A.s, _, rfl, DPut.k (k := Sum.inr x) (e2 _ _ (e1 _ _ ha)) (Nat.lt_of_le_of_lt hlen (by decide)), ?_⟩
          have nat : A.s ≠ t := ne_of_none (e1 _ _ ha) ht
          have c' : ¬ kvs.length = 8 := by omega
          exact q2 (show (if kvs.length = 8 then some ("many" : Str) else none) = _ from if_neg c') x z m t _ rfl rfl rfl (e1.free ht) (sameB_of (e1.trans e2)) upd_same (by rw [upd_ne nat.symm]; exact g2)
end
end K06
set_option maxHeartbeats 4000000
namespace K06
open PySem L2
local macro_rules | `(tactic| walk_at "ws") => `(tactic| try simp only [w_var0, w_varS, w_c, w_ret, w_retN, w_next, w_seq, w_asg, w_gn, w_drop, w_if, w_and, w_or, w_not, ex_bl, ex_int, ex_two, w_B, w_test, w_andV, w_orV, w_notV, w_ife, w_op, w_un, w_chain, w_nil, w_cons, w_cb, w_ca, w_lst, w_tup, w_I0, w_I, w_U, w_eqI, w_neI, w_eqS, w_neS,
  w_isN0, w_notN0, w_fld, w_sfld, w_me, w_ma, w_dget, w_din, w_dnotin, w_dput, w_slice, w_part, w_nopart, w_bm, w_bm0, w_par, w_lc, w_for, w_iList, w_iTup, w_iStr, w_iRng1, w_iZip, w_iEnum, w_tM1, w_dnewK, nn_str, nn_some, nn_none, nn_ref, w_pairN, w_pairC, w_disp, w_meD, w_maxD, w_bare, w_gtup, w_glst, w_gcons, w_gnil, w_gsub, cx_K, cx_K',
  L2.start, endsOf, List.map_cons, List.map_nil, List.length_cons, List.length_nil, List.cons_append, List.nil_append, Nat.zero_add, Nat.reduceAdd, Nat.reduceSub, List.replicate_succ, List.replicate_zero, List.set_cons_zero, List.set_cons_succ, List.set_nil,
  sp0_eq, sp1_eq, sp2_eq, sp3_eq, sp4_eq, sp5_eq, if_true, Bool.false_eq_true, if_false, decide_eq_true_eq, Bool.not_eq_true', decide_eq_false_iff_not, Bool.not_true, Bool.not_false, Bool.not_eq_false', isD_int_none, isD_int_bool, isD_int_int, isD_int_str, isD_int_list, isD_int_tuple, isD_int_dict, isD_bool_none, isD_bool_bool, isD_bool_int, isD_bool_str, isD_bool_list, isD_bool_tuple, isD_bool_dict, isD_str_none, isD_str_bool, isD_str_int, isD_str_str, isD_str_list, isD_str_tuple, isD_str_dict, isD_list_none, isD_list_bool, isD_list_int, isD_list_str, isD_list_list, isD_list_tuple, isD_list_dict, isD_tuple_none, isD_tuple_bool, isD_tuple_int, isD_tuple_str, isD_tuple_list, isD_tuple_tuple, isD_tuple_dict])
local macro_rules | `(tactic| walk_at "al") => `(tactic| (intro p hp; generalize hH : upd _ _ _ = H2; obtain ⟨e2, g2⟩ := alloc1 hp hH.symm; clear hH))
theorem lay_filter (p : PyData → Bool) : ∀ {ds : List PyData}, PyData.canLayAll0 ds = true → PyData.canLayAll0 (ds.filter p) = true
  | [], _ => by simp [PyData.canLayAll0]
  | d :: ds, h => by
    rw [PyData.canLayAll0, Bool.and_eq_true] at h
    rw [List.filter_cons]
    split
    · rw [PyData.canLayAll0, h.1, lay_filter p h.2]; rfl
    · exact lay_filter p h.2
theorem depth_filter (p : PyData → Bool) : ∀ {ds : List PyData}, PyData.depthAll (ds.filter p) ≤ PyData.depthAll ds
  | [] => Nat.le_refl _
  | d :: ds => by
    have ih := depth_filter p (ds := ds)
    rw [List.filter_cons]
    split
    · rw [PyData.depthAll, PyData.depthAll]; omega
    · rw [PyData.depthAll]; omega
theorem shaped_filter (p : PyData → Bool) {ds : List PyData} (h : SeqAt.shaped (.list ds) = true) : SeqAt.shaped (.list (ds.filter p)) = true := by
  obtain ⟨h1, h2⟩ := Bool.and_eq_true_iff.mp h
  have h1 : (PyData.list ds).canLay0 = true := h1
  have h2 : decide ((PyData.list ds).depth ≤ 64) = true := h2
  rw [PyData.canLay0] at h1
  have h2 := of_decide_eq_true h2
  rw [PyData.depth] at h2
  have h3 := depth_filter p (ds := ds)
  refine Bool.and_eq_true_iff.mpr ⟨by show (PyData.list (ds.filter p)).canLay0 = true; rw [PyData.canLay0]; exact lay_filter p h1, decide_eq_true ?_⟩
  show (PyData.list (ds.filter p)).depth ≤ 64
  rw [PyData.depth]
  omega
theorem filter_none (f : PyData → Bool) : ∀ ds : List PyData, (ds.filter fun d => !f d).isEmpty = ds.all f
  | [] => rfl
  | d :: ds => by
    rw [List.filter_cons, List.all_cons, ← filter_none f ds]
    cases h : f d <;> simp
theorem rises_iff : ∀ ns : List Int, risesI ns = true ↔ ns.Pairwise (· < ·)
  | [] => by simp [risesI]
  | [a] => by simp [risesI]
  | a :: b :: r => by
    have ih := rises_iff (b :: r)
    have e : risesI (a :: b :: r) = (decide (a < b) && risesI (b :: r)) := rfl
    rw [e, Bool.and_eq_true, ih, decide_eq_true_eq, List.pairwise_cons (l := b :: r)]
    refine ⟨fun ⟨h1, h2⟩ => ⟨fun x hx => ?_, h2⟩, fun ⟨h1, h2⟩ => ⟨h1 b List.mem_cons_self, h2⟩⟩
    rcases List.mem_cons.mp hx with rfl | hx
    · exact h1
    · have := (List.pairwise_cons.mp h2).1 x hx
      omega
theorem rises_sorted {ns ns' : List Int} (h : ns'.Pairwise (· < ·)) (hm : ∀ k, k ∈ ns' ↔ k ∈ ns) : decide (ns = ns') = risesI ns := by
  by_cases hr : risesI ns = true
  · rw [hr]
    exact decide_eq_true (rising_same ((rises_iff ns).mp hr) h hm).symm
  · rw [(Bool.not_eq_true _).mp hr]
    refine decide_eq_false fun e => hr ((rises_iff ns).mpr (e ▸ h))
section
variable {P : Program} {w : World} {K : PySem.W.Frag} {mg : Str → Option Value} {base : Heap}
theorem ok_law_are_zones (T : Tx K mg) : Cal CX0 P w K mg base 2 "_law_are_zones" (sp1 (p_are_zones K)) := by
  refine cal_of T.d_law_are_zones T.g__law_are_zones (fun _ _ _ _ _ _ => bind1 fun _ => rfl) sc_law_are_zones len1 fun vs H Q E ⟨v, e, h⟩ cdv A outer s hr => ?_
  subst e
  have hu64 := hr.units
  refine ⟨_, PSs.nox (pss_cons (ps_if (PW.pt (pw_or (pt_not (pt_val (pe_callB call_isi rfl T.f_isinstance (by decide +kernel) (pa_cons (pv 0) (pa_cons (pe_bltn (v := .ty "list") rfl T.f_list (by decide +kernel) rfl) pa_nil))))) (pw_or1 (pt_not (pt_chain op_le op_le pe_int (pe_callB call_len_seq rfl T.f_len (by decide +kernel) (pa_cons (pv 0) pa_nil)) pe_int))))) (pss_one (ps_ret pe_bl)) pss_nil)
    (pss_one (ps_ret (pe_and (pe_cmpR (op_eqD hu64) (pe_lc (own := [("_law_one_here", 1)]) rfl sc_law_are_zones.nd (pi_list (pv 0)) (blkOk_by (own := [("_law_one_here", 1)]) (N := ["_law_thing", "_law_one_here"]) (sc := defScope s_law_are_zones) (by decide +kernel)) (fun _ _ _ _ _ => pg_name (i := 1) sc_law_are_zones.nd rfl (Or.inl rfl)) (fun _ _ _ _ _ => pts_one (pt_not (pt_val (pe_ca (ok_law_among T) hr (by decide) rfl pass0 (pa_cons (pv 1) (pa_cons pe_int (pa_cons pe_int pa_nil))))))) (fun _ _ _ _ _ => (pv 1))) (pe_lst pa_nil) (nomark _)) (pe_one (pe_cmpR (op_eqD hu64) (pv 0) (pe_callB (cr_sortedSet rfl) rfl T.f_sorted (by decide +kernel) (pa_cons (pe_callTy (cr_setL rfl) rfl T.f_set (by decide +kernel) (pa_cons (pv 0) pa_nil)) pa_nil)) (nomark _))))))), ?_⟩
  obtain ⟨d, ⟨hv, hds⟩, q⟩ := h
  walk_at "ws"
  refine w_isi hv okL ?_
  cases d <;> walk_at "ws" <;> first | exact q _ (Same.refl H) | skip
  rename_i ds
  have hds := hds ds rfl
  cases hv with
  | dp hv ok =>
    obtain ⟨a, vs, rfl, ha, hvs⟩ := hv.lst_inv
    have hlen := hvs.length
    refine ⟨a, vs, rfl, .inl ha, ?_⟩
    refine ite2 (fun h1 => ?_) fun h1 => ?_
    · refine ite2 (fun h2 => ?_) fun h2 => ?_
      · have e2 : ¬ ds.length ≤ 6 := by omega
        simpa only [zonesD, decide_eq_false e2, Bool.and_false, Bool.false_and] using q H (Same.refl H)
      · have e1 : 1 ≤ ds.length := by omega
        have e2 : ds.length ≤ 6 := by omega
        simp only [zonesD, decide_eq_true e1, decide_eq_true e2, Bool.true_and] at q
        refine ⟨a, rfl, ⟨vs, ha⟩, ?_⟩
        refine lcD ds (fun d => !amongD d 1 6) (fun d y H => Dp K H y d) ha hvs (by omega) (fun _ => rfl) (fun d y H H' e h => h.up e) (fun d x H3 e hm hx R r => ?_) (fun d x D H3 acc e hm hx hp hD hacc R r => ?_) fun D ys H1 hD e1 g1 hp => ?_
        · simp only [wipe]
          walk_at "ws"
          exact ⟨d, 1, 6, .dp (hx.up e) (hds d hm), rfl, rfl, _, rfl, r H3 (Same.refl H3)⟩
        · simp only [wipe]
          walk_at "ws"
          exact r _ H3 (Same.refl H3) (hx.up (cut_of hD e))
        · have hp2 : DpAll K H1 ys (ds.filter fun d => !amongD d 1 6) := by
            have := paired_dp (f := fun d => d) (L2.Paired.mapP hp fun a y h => h.up cut_same)
            simpa using this
          refine ⟨by decide, ?_⟩
          walk_at "al"
          rename_i p hpn H2 e2 g2
          refine ⟨_, .list [], .lst (SqL.of (e2 _ _ g1)) (hp2.up e2), .lst (SqL.of g2) .nil, shaped_filter _ (okD_shaped ok), rfl, ?_⟩
          rw [eqv_nil, filter_none]
          walk_at "ws"
          cases hall : ds.all fun d => amongD d 1 6 with
          | false =>
            have q' := q H2 (e1.trans e2)
            rw [hall] at q'
            exact q'
          | true =>
            rw [if_pos rfl]
            have eds := all_among_ints hall
            rw [eds] at hvs
            have evs := dpAll_ints_inv hvs
            rw [hall] at q
            rw [evs] at ha
            have e12 := e1.trans e2
            have hnl : (ds.map intOf).length = ds.length := by simp
            refine ⟨a, ds.map intOf, rfl, e12.seq ha, by omega, fun s c hs hc => ?_⟩
            have e3 : Same H2 (upd H2 s (SetO w s (fun j => decide (j ∈ ds.map intOf)) c)) := Same.new hs
            refine ⟨s, _, c, rfl, upd_same, by omega, fun ns' l hl hm hn hlp => ?_⟩
            have e4 : Same (upd H2 s (SetO w s (fun j => decide (j ∈ ds.map intOf)) c)) (upd (upd H2 s (SetO w s (fun j => decide (j ∈ ds.map intOf)) c)) l (.lst (ns'.map V.int))) := Same.new hlp
            have e14 := (e12.trans e3).trans e4
            refine ⟨_, _, .lst (e14.seq ha) (dpAll_ints _), .lst (SqL.of upd_same) (dpAll_ints _), shaped_ints _, shaped_ints _, ?_⟩
            rw [eqv_ints, rises_sorted hl fun k => by rw [hm k, decide_eq_true_eq]]
            exact q _ e14
    · have e1 : ¬ 1 ≤ ds.length := by omega
      simpa only [zonesD, decide_eq_false e1, Bool.false_and] using q H (Same.refl H)
def lruleOut (d1 : PyData) (tp : Bool) (kvs : List (Key × V)) : Option Str := match lfreshD d1 kvs with
  | some e => some e
  | none => if tp = true then (if kvs.length = 6 then some ("many" : Str) else none) else some ("days" : Str)
theorem told_tup (t : Told) : ∃ ds, t.d = .tuple ds := by cases t <;> exact ⟨_, rfl⟩
def p_due_rule (K : PySem.W.Frag) : P3 := fun v a b H Q _ => ∃ W A d1 tp kvs, v = .ref W ∧ IsWorld H W A ∧ Av K H a d1 ∧ (tp = true → ∃ t : Told, Dp K H b t.d) ∧ (tp = false → ∃ d2, Av K H b d2 ∧ isD "tuple" d2 = false) ∧ H A.r = some (.dK kvs) ∧ kvs.length ≤ 6 ∧
  (∀ x, lruleOut d1 tp kvs = some x → ∀ H', Same H H' → Q (.str x) H') ∧
  (lruleOut d1 tp kvs = none → ∀ x H', d1 = .str x → tp = true → SameB A.r H H' → H' A.r = some (.dK (putK kvs (.inr x) b)) → Q .non H')
theorem ok_law_due_rule (T : Tx K mg) : Cal CX0 P w K mg base 3 "_law_due_rule" (sp3 (p_due_rule K)) := by
  refine cal_of T.d_law_due_rule T.g__law_due_rule (fun _ _ _ _ _ _ => bind3 fun _ _ _ => rfl) sc_law_due_rule len3 fun vs H Q E ⟨v, a, b, e, h⟩ cdv A outer s hr => ?_
  subst e
  have hu := hu_of hr
  refine ⟨_, PSs.nox (pss_cons (ps_set (i := 3) sc_law_due_rule.nd rfl (Or.inl rfl) (pe_ca (ok_law_fresh T) hr (by decide) rfl pass0 (pa_cons (pv 1) (pa_cons (pe_dget hu (pv 0) pe_str (fun _ _ => rfl)) pa_nil))))
    (pss_cons (ps_if (PW.pt (pw_and (pt_cmpR op_isN0 (pv 3) pe_non (nomark _)) (pw_and1 (pt_not (pt_val (pe_callB call_isi rfl T.f_isinstance (by decide +kernel) (pa_cons (pv 2) (pa_cons (pe_bltn (v := .ty "tuple") rfl T.f_tuple (by decide +kernel) rfl) pa_nil)))))))) (pss_one (ps_set (i := 3) sc_law_due_rule.nd rfl (Or.inl rfl) pe_str)) pss_nil)
    (pss_cons (ps_if (PW.pt (pw_and (pt_cmpR op_isN0 (pv 3) pe_non (nomark _)) (pw_and1 (pt_cmpR op_eq (pe_callB call_lenD rfl T.f_len (by decide +kernel) (pa_cons (pe_dget hu (pv 0) pe_str (fun _ _ => rfl)) pa_nil)) pe_int (nomark _))))) (pss_one (ps_set (i := 3) sc_law_due_rule.nd rfl (Or.inl rfl) pe_str)) pss_nil)
    (pss_cons (ps_if (pt_cmpR op_isN0 (pv 3) pe_non (nomark _)) (pss_one (ps_dput hu (pe_dget hu (pv 0) pe_str (fun _ _ => rfl)) (pv 1) (pv 2) rfl)) pss_nil)
    (pss_one (ps_ret (pv 3))))))), ?_⟩
  obtain ⟨W, A, d1, tp, kvs, rfl, hW, h1, hy, hno, ha, hlen, q1, q2⟩ := h
  unfold lruleOut at q1 q2
  walk_at "ws"
  refine d_rules hW ?_
  walk_at "ws"
  refine ⟨d1, A.r, kvs, h1, rfl, ha, fun H1 e1 => ?_⟩
  cases hf : lfreshD d1 kvs with
  | some x =>
    rw [hf] at q1
    walk_at "ws"
    exact q1 x rfl H1 e1
  | none =>
    rw [hf] at q1 q2
    obtain ⟨x, rfl, hxn, hxv⟩ := lfreshD_none hf
    walk_at "ws"
    cases tp with
    | false =>
      obtain ⟨d2, h2, ht⟩ := hno rfl
      refine w_isi (h2.up e1) okT ?_
      rw [ht]
      walk_at "ws"
      exact q1 _ rfl H1 e1
    | true =>
      obtain ⟨t, ht⟩ := hy rfl
      obtain ⟨ds, hd⟩ := told_tup t
      rw [hd] at ht
      obtain ⟨ta, ts, rfl, hta, _⟩ := ht.tup_inv
      refine w_isT (e1.sqT hta) ?_
      walk_at "ws"
      refine d_rules (hW.up e1) ?_
      refine ⟨A.r, kvs, rfl, e1 _ _ ha, ?_⟩
      refine ite2 (fun c => ?_) fun c => ?_
      · have c' : kvs.length = 6 := by omega
        exact q1 _ (show (if kvs.length = 6 then some ("many" : Str) else none) = _ from if_pos c') H1 e1
      · have c' : ¬ kvs.length = 6 := by omega
        refine d_rules (hW.up e1) ?_
        rw [Av_str h1]
        refine ⟨A.r, _, rfl, DPut.k (k := Sum.inr x) (e1 _ _ ha) (Nat.lt_of_le_of_lt hlen (by decide)), ?_⟩
        exact q2 (show (if kvs.length = 6 then some ("many" : Str) else none) = _ from if_neg c') x _ rfl rfl (sameB_of e1) upd_same
def lticketOut (d1 d2 d3 d4 : PyData) (kvs : List (Key × V)) : Option Str := match lfreshD d1 kvs with
  | some e => some e
  | none => if amongD d2 0 10000 = true then (if amongD d3 1 1440 = true then (if zonesD d4 = true then (if kvs.length = 3 then some ("many" : Str) else none) else some ("number" : Str)) else some ("number" : Str)) else some ("number" : Str)
def p_due_ticket (K : PySem.W.Frag) : P2 := fun v g H Q _ => ∃ W A l v1 v2 v3 v4 d1 d2 d3 d4 kvs, v = .ref W ∧ IsWorld H W A ∧ g = .ref l ∧ SqL K H l [v1, v2, v3, v4] ∧ Av K H v1 d1 ∧ Av K H v2 d2 ∧ Av K H v3 d3 ∧ AvL K H v4 d4 ∧ H A.t = some (.dK kvs) ∧ kvs.length ≤ 3 ∧
  (∀ x, lticketOut d1 d2 d3 d4 kvs = some x → ∀ H', Same H H' → Q (.str x) H') ∧
  (lticketOut d1 d2 d3 d4 kvs = none → ∀ x i j (ns : List Int) t u H', d1 = .str x → d2 = .int i → d3 = .int j → d4 = .list (ns.map PyData.int) → H t = none → H u = none → SameB A.t H H' → H' A.t = some (.dK (putK kvs (.inr x) (.ref t))) → H' t = some (.tup [.int i, .int j, .ref u]) →
    H' u = some (.lst (ns.map V.int)) → Q .non H')
theorem ok_law_due_ticket (T : Tx K mg) : Cal CX0 P w K mg base 3 "_law_due_ticket" (sp2 (p_due_ticket K)) := by
  refine cal_of T.d_law_due_ticket T.g__law_due_ticket (fun _ _ _ _ _ _ => bind2 fun _ _ => rfl) sc_law_due_ticket len2 fun vs H Q E ⟨v, g, e, h⟩ cdv A outer s hr => ?_
  subst e
  have hu := hu_of hr
  refine ⟨_, PSs.nox (pss_cons (ps_set (i := 2) sc_law_due_ticket.nd rfl (Or.inl rfl) (pe_ca (ok_law_fresh T) hr (by decide) rfl pass0 (pa_cons (pe_ix ix_list (pv 1) pe_int (fun _ _ => rfl)) (pa_cons (pe_dget hu (pv 0) pe_str (fun _ _ => rfl)) pa_nil))))
    (pss_cons (ps_set (i := 3) sc_law_due_ticket.nd rfl (Or.inl rfl) (pe_and (pe_ca (ok_law_among T) hr (by decide) rfl pass0 (pa_cons (pe_ix ix_list (pv 1) pe_int (fun _ _ => rfl)) (pa_cons pe_int (pa_cons pe_int pa_nil)))) (pe_one (pe_ca (ok_law_among T) hr (by decide) rfl pass0 (pa_cons (pe_ix ix_list (pv 1) pe_int (fun _ _ => rfl)) (pa_cons pe_int (pa_cons pe_int pa_nil)))))))
    (pss_cons (ps_if (PW.pt (pw_and (pt_cmpR op_isN0 (pv 2) pe_non (nomark _)) (pw_and1 (pt_not (PW.pt (pw_and (pt_val (pv 3)) (pw_and1 (pt_val (pe_ca (ok_law_are_zones T) hr (by decide) rfl pass0 (pa_cons (pe_ix ix_list (pv 1) pe_int (fun _ _ => rfl)) pa_nil)))))))))) (pss_one (ps_set (i := 2) sc_law_due_ticket.nd rfl (Or.inl rfl) pe_str)) pss_nil)
    (pss_cons (ps_if (PW.pt (pw_and (pt_cmpR op_isN0 (pv 2) pe_non (nomark _)) (pw_and1 (pt_cmpR op_eq (pe_callB call_lenD rfl T.f_len (by decide +kernel) (pa_cons (pe_dget hu (pv 0) pe_str (fun _ _ => rfl)) pa_nil)) pe_int (nomark _))))) (pss_one (ps_set (i := 2) sc_law_due_ticket.nd rfl (Or.inl rfl) pe_str)) pss_nil)
    (pss_cons (ps_if (pt_cmpR op_isN0 (pv 2) pe_non (nomark _)) (pss_one (ps_dput hu (pe_dget hu (pv 0) pe_str (fun _ _ => rfl)) (pe_ix ix_list (pv 1) pe_int (fun _ _ => rfl)) (pe_tup (pa_cons (pe_ix ix_list (pv 1) pe_int (fun _ _ => rfl)) (pa_cons (pe_ix ix_list (pv 1) pe_int (fun _ _ => rfl)) (pa_cons (pe_callTy call_list_of rfl T.f_list (by decide +kernel) (pa_cons (pe_ix ix_list (pv 1) pe_int (fun _ _ => rfl)) pa_nil)) pa_nil)))) rfl)) pss_nil)
    (pss_one (ps_ret (pv 2)))))))), ?_⟩
  obtain ⟨W, A, l, v1, v2, v3, v4, d1, d2, d3, d4, kvs, rfl, hW, rfl, hl, h1, h2, h3, h4, ha, hlen, q1, q2⟩ := h
  unfold lticketOut at q1 q2
  walk_at "ws"
  refine ⟨l, _, 0, _, rfl, rfl, hl, atI_nat (j := 0) rfl, ?_⟩
  refine d_tickets hW ?_
  walk_at "ws"
  refine ⟨d1, A.t, kvs, h1, rfl, ha, fun H1 e1 => ?_⟩
  walk_at "ws"
  refine ⟨l, _, 1, _, rfl, rfl, e1.seq hl, atI_nat (j := 1) rfl, ?_⟩
  refine ⟨d2, 0, 10000, h2.up e1, rfl, rfl, ?_⟩
  walk_at "ws"
  cases hf : lfreshD d1 kvs with
  | some x =>
    rw [hf] at q1
    walk_at "ws"
    refine ite2 (fun c => ?_) fun c => ?_
    · refine ⟨l, _, 2, _, rfl, rfl, e1.seq hl, atI_nat (j := 2) rfl, ?_⟩
      refine ⟨d3, 1, 1440, h3.up e1, rfl, rfl, ?_⟩
      exact q1 x rfl H1 e1
    · exact q1 x rfl H1 e1
  | none =>
    rw [hf] at q1 q2
    obtain ⟨x, rfl, hxn, hxv⟩ := lfreshD_none hf
    walk_at "ws"
    cases hd2 : amongD d2 0 10000 with
    | false =>
      rw [hd2] at q1
      walk_at "ws"
      exact q1 _ rfl H1 e1
    | true =>
      rw [hd2] at q1 q2
      walk_at "ws"
      refine ⟨l, _, 2, _, rfl, rfl, e1.seq hl, atI_nat (j := 2) rfl, ?_⟩
      refine ⟨d3, 1, 1440, h3.up e1, rfl, rfl, ?_⟩
      cases hd3 : amongD d3 1 1440 with
      | false =>
        rw [hd3] at q1
        walk_at "ws"
        exact q1 _ rfl H1 e1
      | true =>
        rw [hd3] at q1 q2
        walk_at "ws"
        refine ⟨l, _, 3, _, rfl, rfl, e1.seq hl, atI_nat (j := 3) rfl, ?_⟩
        refine ⟨d4, ⟨h4.1.up e1, h4.2⟩, fun H2 e2 => ?_⟩
        have e12 := e1.trans e2
        walk_at "ws"
        cases hd4 : zonesD d4 with
        | false =>
          rw [hd4] at q1
          walk_at "ws"
          exact q1 _ rfl H2 e12
        | true =>
          rw [hd4] at q1 q2
          walk_at "ws"
          obtain ⟨ns, rfl, hnl⟩ := zonesD_list hd4
          obtain ⟨i, rfl, _, _⟩ := among_int hd2
          obtain ⟨j, rfl, _, _⟩ := among_int hd3
          refine d_tickets (hW.up e12) ?_
          refine ⟨A.t, kvs, rfl, e12 _ _ ha, ?_⟩
          refine ite2 (fun c => ?_) fun c => ?_
          · have c' : kvs.length = 3 := by omega
            exact q1 _ (show (if kvs.length = 3 then some ("many" : Str) else none) = _ from if_pos c') H2 e12
          · have c' : ¬ kvs.length = 3 := by omega
            refine ⟨l, _, 1, _, rfl, rfl, e12.seq hl, atI_nat (j := 1) rfl, ?_⟩
            refine ⟨l, _, 2, _, rfl, rfl, e12.seq hl, atI_nat (j := 2) rfl, ?_⟩
            refine ⟨l, _, 3, _, rfl, rfl, e12.seq hl, atI_nat (j := 3) rfl, ?_⟩
            rw [Av_int h2, Av_int h3]
            cases h4.1 with
            | dp h4' _ =>
              obtain ⟨za, zs, rfl, hza, hzs⟩ := h4'.lst_inv
              rw [dpAll_ints_inv hzs] at hza
              refine ⟨za, _, rfl, .inl (e12.seq hza), ?_⟩
              walk_at "al"
              rename_i u hu2 H3 e3 g3
              refine ⟨by decide, ?_⟩
              walk_at "al"
              rename_i t ht H4 e4 g4
              have e14 := (e12.trans e3).trans e4
              refine d_tickets (hW.up e14) ?_
              refine ⟨l, _, 0, _, rfl, rfl, e14.seq hl, atI_nat (j := 0) rfl, ?_⟩
              rw [Av_str h1]
              refine ⟨A.t, _, rfl, DPut.k (k := Sum.inr x) (e14 _ _ ha) (Nat.lt_of_le_of_lt hlen (by decide)), ?_⟩
              have nt : A.t ≠ t := ne_of_none (e3 _ _ (e12 _ _ ha)) ht
              have nu : A.t ≠ u := ne_of_none (e12 _ _ ha) hu2
              exact q2 (show (if kvs.length = 3 then some ("many" : Str) else none) = _ from if_neg c') x i j ns t u _ rfl rfl rfl rfl ((e12.trans e3).free ht) (e12.free hu2) (sameB_of e14) upd_same (by rw [upd_ne nt.symm]; exact g4) (by rw [upd_ne nu.symm]; exact e4 _ _ g3)
def ltripOut (d1 d2 : PyData) (kvs kvr : List (Key × V)) : Option Str := match lfreshD d1 kvs with
  | some e => some e
  | none => if inD d2 kvr = true then (if kvs.length = 10 then some ("many" : Str) else none) else some ("rule" : Str)
def p_due_trip (K : PySem.W.Frag) : P2 := fun v g H Q _ => ∃ W A l v1 v2 c d1 d2 vs kvs kvr, v = .ref W ∧ IsWorld H W A ∧ g = .ref l ∧ SqL K H l [v1, v2, .ref c] ∧ Av K H v1 d1 ∧ Av K H v2 d2 ∧ SqL K H c vs ∧ H A.p = some (.dK kvs) ∧ H A.r = some (.dK kvr) ∧ kvs.length ≤ 10 ∧
  (∀ x, ltripOut d1 d2 kvs kvr = some x → ∀ H', Same H H' → Q (.str x) H') ∧
  (ltripOut d1 d2 kvs kvr = none → ∀ x y t u H', d1 = .str x → d2 = .str y → H t = none → H u = none → SameB A.p H H' → H' A.p = some (.dK (putK kvs (.inr x) (.ref t))) → H' t = some (.tup [.str y, .ref u]) → H' u = some (.lst vs) → Q .non H')
theorem ok_law_due_trip (T : Tx K mg) : Cal CX0 P w K mg base 3 "_law_due_trip" (sp2 (p_due_trip K)) := by
  refine cal_of T.d_law_due_trip T.g__law_due_trip (fun _ _ _ _ _ _ => bind2 fun _ _ => rfl) sc_law_due_trip len2 fun vs H Q E ⟨v, g, e, h⟩ cdv A outer s hr => ?_
  subst e
  have hu := hu_of hr
  refine ⟨_, PSs.nox (pss_cons (ps_set (i := 2) sc_law_due_trip.nd rfl (Or.inl rfl) (pe_ca (ok_law_fresh T) hr (by decide) rfl pass0 (pa_cons (pe_ix ix_list (pv 1) pe_int (fun _ _ => rfl)) (pa_cons (pe_dget hu (pv 0) pe_str (fun _ _ => rfl)) pa_nil))))
    (pss_cons (ps_if (PW.pt (pw_and (pt_cmpR op_isN0 (pv 2) pe_non (nomark _)) (pw_and1 (PW.pt (pw_or (pt_not (pt_val (pe_ca (ok_law_is_name T) hr (by decide) rfl pass0 (pa_cons (pe_ix ix_list (pv 1) pe_int (fun _ _ => rfl)) pa_nil)))) (pw_or1 (pt_cmp (pc_dnotin hu (pe_ix ix_list (pv 1) pe_int (fun _ _ => rfl)) (pe_dget hu (pv 0) pe_str (fun _ _ => rfl))) rfl))))))) (pss_one (ps_set (i := 2) sc_law_due_trip.nd rfl (Or.inl rfl) pe_str)) pss_nil)
    (pss_cons (ps_if (PW.pt (pw_and (pt_cmpR op_isN0 (pv 2) pe_non (nomark _)) (pw_and1 (pt_cmpR op_eq (pe_callB call_lenD rfl T.f_len (by decide +kernel) (pa_cons (pe_dget hu (pv 0) pe_str (fun _ _ => rfl)) pa_nil)) pe_int (nomark _))))) (pss_one (ps_set (i := 2) sc_law_due_trip.nd rfl (Or.inl rfl) pe_str)) pss_nil)
    (pss_cons (ps_if (pt_cmpR op_isN0 (pv 2) pe_non (nomark _)) (pss_one (ps_dput hu (pe_dget hu (pv 0) pe_str (fun _ _ => rfl)) (pe_ix ix_list (pv 1) pe_int (fun _ _ => rfl)) (pe_tup (pa_cons (pe_ix ix_list (pv 1) pe_int (fun _ _ => rfl)) (pa_cons (pe_callTy call_list_of rfl T.f_list (by decide +kernel) (pa_cons (pe_ix ix_list (pv 1) pe_int (fun _ _ => rfl)) pa_nil)) pa_nil))) rfl)) pss_nil)
    (pss_one (ps_ret (pv 2))))))), ?_⟩
  obtain ⟨W, A, l, v1, v2, c, d1, d2, vs, kvs, kvr, rfl, hW, rfl, hl, h1, h2, hc, ha, hr2, hlen, q1, q2⟩ := h
  unfold ltripOut at q1 q2
  walk_at "ws"
  refine ⟨l, _, 0, _, rfl, rfl, hl, atI_nat (j := 0) rfl, ?_⟩
  refine d_trips hW ?_
  walk_at "ws"
  refine ⟨d1, A.p, kvs, h1, rfl, ha, fun H1 e1 => ?_⟩
  walk_at "ws"
  cases hf : lfreshD d1 kvs with
  | some x =>
    rw [hf] at q1
    walk_at "ws"
    exact q1 x rfl H1 e1
  | none =>
    rw [hf] at q1 q2
    obtain ⟨x, rfl, hxn, hxv⟩ := lfreshD_none hf
    walk_at "ws"
    refine ⟨l, _, 1, _, rfl, rfl, e1.seq hl, atI_nat (j := 1) rfl, ?_⟩
    refine ⟨d2, h2.up e1, fun H2 e2 => ?_⟩
    have e12 := e1.trans e2
    walk_at "ws"
    cases hn2 : isNameD d2 with
    | false =>
      have hi : inD d2 kvr = false := inD_no hn2
      rw [hi] at q1
      walk_at "ws"
      exact q1 _ rfl H2 e12
    | true =>
      obtain ⟨y, rfl, hyn⟩ := isNameD_str hn2
      obtain rfl := Av_str h2
      have hi : inD (.str y) kvr = (valV kvr (.inr y)).isSome := by
        show (isNameS y && _) = _
        rw [show isNameS y = true from hyn]
        rfl
      rw [hi] at q1 q2
      walk_at "ws"
      refine ⟨l, _, 1, _, rfl, rfl, e12.seq hl, atI_nat (j := 1) rfl, ?_⟩
      refine d_rules (hW.up e12) ?_
      refine ⟨A.r, _, rfl, DGet.k (k := Sum.inr y) (e12 _ _ hr2), ?_⟩
      cases hs : (valV kvr (.inr y)).isSome with
      | false =>
        rw [hs] at q1
        walk_at "ws"
        exact q1 _ rfl H2 e12
      | true =>
        rw [hs] at q1 q2
        walk_at "ws"
        refine d_trips (hW.up e12) ?_
        refine ⟨A.p, kvs, rfl, e12 _ _ ha, ?_⟩
        refine ite2 (fun c => ?_) fun c => ?_
        · have c' : kvs.length = 10 := by omega
          exact q1 _ (show (if kvs.length = 10 then some ("many" : Str) else none) = _ from if_pos c') H2 e12
        · have c' : ¬ kvs.length = 10 := by omega
          refine ⟨l, _, 1, _, rfl, rfl, e12.seq hl, atI_nat (j := 1) rfl, ?_⟩
          refine ⟨l, _, 2, _, rfl, rfl, e12.seq hl, atI_nat (j := 2) rfl, ?_⟩
          refine ⟨_, _, rfl, .inl (e12.seq hc), ?_⟩
          walk_at "al"
          rename_i u hu2 H3 e3 g3
          refine ⟨by decide, ?_⟩
          walk_at "al"
          rename_i t ht H4 e4 g4
          have e14 := (e12.trans e3).trans e4
          refine d_trips (hW.up e14) ?_
          refine ⟨l, _, 0, _, rfl, rfl, e14.seq hl, atI_nat (j := 0) rfl, ?_⟩
          rw [Av_str h1]
          refine ⟨A.p, _, rfl, DPut.k (k := Sum.inr x) (e14 _ _ ha) (Nat.lt_of_le_of_lt hlen (by decide)), ?_⟩
          have nt : A.p ≠ t := ne_of_none (e3 _ _ (e12 _ _ ha)) ht
          have nu : A.p ≠ u := ne_of_none (e12 _ _ ha) hu2
          exact q2 (show (if kvs.length = 10 then some ("many" : Str) else none) = _ from if_neg c') x y t u _ rfl rfl ((e12.trans e3).free ht) (e12.free hu2) (sameB_of e14) upd_same (by rw [upd_ne nt.symm]; exact g4) (by rw [upd_ne nu.symm]; exact e4 _ _ g3)
end
end K06
set_option maxHeartbeats 4000000
namespace K06
open PySem L2 PySem.Spec PyProof.Rows
/-! ### sorted(t) of a tuple of texts -/
section
variable {prog : Program} {w : World} {A : Around} {E : Value → Shared → Prop} {s : Shared}
theorem collect_tup {l : Addr} {vs : List Value} {Q : List Value → Shared → Prop} (hl : s.heap.IsTuple l vs.toArray)
    (h : Q vs { s with heap := (s.heap.push (seqObj "list" #[] 0)).update s.heap.objs.size (Obj.mapSeq (· ++ vs.toArray)) }) (hsz : vs.length ≤ sizeLine) :
    wpAny (model prog w) A (collect (.ref l)) Q E s := by
  obtain ⟨o, ho, hc, n, hd⟩ := id hl
  unfold collect
  refine wpAny_bind (wpAny_runValue (codeAny_builtin entry_proto_collect' ?_))
  show wpAny _ _ (do again (.builtin "list.__iadd__" ⟨[← newList [], .ref l], []⟩)) _ _ s
  refine wpAny_bind (wpAny_newList (wpAny_pure ⟨Code.quiet_builtin _ (by decide +kernel), codeAny_builtin entry_list_iadd' ?_⟩))
  show wpAny _ _ (Builtin.List.listExtendWith (.ref s.heap.objs.size) (.ref l) (.ref s.heap.objs.size)) _ _ { s with heap := s.heap.push (seqObj "list" #[] 0) }
  unfold Builtin.List.listExtendWith
  have ho' : (s.heap.push (seqObj "list" #[] 0)).get? l = some o := Heap.get?_push_of_some _ ho
  refine wpAny_bind (wpAny_typeOf (T := "tuple") ⟨o, ho', hc⟩ ?_)
  have ht : (Value.type "tuple" == Value.type "tuple") = true := by rfl
  rw [if_pos (by rw [ht]; simp)]
  refine wpAny_bind (listItems_at ho' hd ?_)
  refine wpAny_bind (listItems_at (xs := #[]) (n := 0) (Heap.get?_push_size _ rfl) rfl ?_)
  rw [if_neg (by simp)]
  refine wpAny_bind (listUpdate_at (xs := #[]) (n := 0) (Heap.get?_push_size _ rfl) rfl ?_ (Nat.zero_le _) (by show (#[] ++ vs.toArray).size ≤ sizeLine + 1; simp only [Array.size_append, List.size_toArray, List.length_nil]; omega))
  refine wpAny_pure ?_
  show wpAny (model prog w) A (do
      let o ← load s.heap.objs.size
      match o.data with
      | .seq xs _ => pure xs.toList
      | _ => unsupported "internal:collect") Q E { s with heap := (s.heap.push (seqObj "list" #[] 0)).update s.heap.objs.size (Obj.mapSeq (· ++ vs.toArray)) }
  refine wpAny_bind (wpAny_load (get?_update_seq (Heap.get?_push_size _ rfl) _) ?_)
  show wpAny _ _ (pure ((#[] : Array Value) ++ vs.toArray).toList) Q E _
  rw [show ((#[] : Array Value) ++ vs.toArray).toList = vs by simp]
  exact wpAny_pure h
theorem sorted_tupS {l : Addr} {vs : List Value} {ss : List Str} {Q : Value → Shared → Prop} (hl : s.heap.IsTuple l vs.toArray) (hS : StrsAre vs ss) (h64 : vs.length < 64)
    (h : ∀ (out : Array Value) (ss' : List Str), StrsAre out.toList ss' → ss'.Perm ss → sortedS ss' = true → Q (.ref (s.heap.objs.size + 1)) { s with heap := sortedAll s.heap vs out }) :
    wpAny (model prog w) A (call (.builtin "sorted") [.ref l]) Q E s := by
  refine Calls.call_function_entry kind_sorted plain_sorted entry_sorted (args_sorted1 _) ?_
  unfold Builtin.«sorted»
  refine wpAny_bind (m := checkCount "sorted" 1 1 _) (wpAny_pure ?_)
  refine wpAny_bind (collect_tup hl ?_ (Nat.le_trans (Nat.le_of_lt h64) (by decide)))
  refine wpAny_bind (wpAny_newList ?_)
  have hsz : ((s.heap.push (seqObj "list" #[] 0)).update s.heap.objs.size (Obj.mapSeq (· ++ vs.toArray))).objs.size = s.heap.objs.size + 1 := by
    rw [Heap.size_update, size_push']
  have hoL : (((s.heap.push (seqObj "list" #[] 0)).update s.heap.objs.size (Obj.mapSeq (· ++ vs.toArray))).push (seqObj "list" vs.toArray 0)).get? (s.heap.objs.size + 1) = some (seqObj "list" vs.toArray 0) := by
    rw [← hsz]; exact Heap.get?_push_size _ rfl
  show wpAny _ _ _ _ _ { s with heap := ((s.heap.push (seqObj "list" #[] 0)).update s.heap.objs.size (Obj.mapSeq (· ++ vs.toArray))).push (seqObj "list" vs.toArray 0) }
  rw [hsz]
  refine wpAny_bind (wpAny_holding (wpAny_call_entry slot_list_sort ⟨_, hoL, rfl⟩ entry_list_sort (list_sort_treeK strKind_oneLt hoL hS.keysOf (fun v₁ v₂ rest e => keyKind_strs (by rw [← e]; exact hS)) h64 fun st' hp hs => ?_) (args_list_sort _)))
  obtain ⟨ss', h1, h2, h3⟩ := sorted_out_str hS hp hs
  exact ⟨_, rfl, wpAny_pure ⟨_, rfl, h _ ss' h1 h2 h3⟩⟩
end
section
variable {X : Cx}
def rSortedTS (K : PySem.W.Frag) : List V → Hp → VK → Prop := fun vs H Q => ∃ (a : Addr) (xs : List Str), vs = [V.ref a] ∧ SqT K H a (xs.map V.str) ∧ xs.length < 64 ∧
  ∀ (ys : List Str) (p : Addr), ys.Perm xs → sortedS ys = true → H p = none → Q (.ref p) (upd H p (.lst (ys.map V.str)))
theorem cr_sortedTS : CallR X (.builtin "sorted") (rSortedTS X.K) := by
  intro pins s σ H vs us Q I r h
  obtain ⟨a, xs, rfl, hs, h64, q⟩ := h
  obtain ⟨its, rv, hl, _⟩ := I.tuple hs
  rw [Vals.ref1 r]
  have hlen0 := rv.length
  rw [List.length_map] at hlen0
  refine sorted_tupS hl rv.strs (by rw [← hlen0]; exact h64) fun out ys h1 h2 h3 => ?_
  obtain ⟨ep, he'⟩ := PyProof.Rows.sortedAll_at s.heap its out
  have hlen : (ys.map V.str).length ≤ sizeLine := by rw [List.length_map, h2.length_eq]; exact small64 h64
  exact ⟨.ref _, upd H (s.heap.objs.size + 1) (.lst (ys.map V.str)), I.laid (t' := s.toks) (fun _ _ => PyProof.Rows.sortedAll_old) (Nat.le_succ _) ⟨hlen, out.toList, ep, vals_of_strs h1, he'⟩, rfl, q ys _ h2 h3 (I.hok.fresh (Nat.le_succ _))⟩
theorem sortedTK (K : PySem.W.Frag) (h : X.K = K := by rfl) : CallR X (.builtin "sorted") (rSortedTS K) := h ▸ cr_sortedTS
end
end K06
set_option maxHeartbeats 4000000
namespace K06
open PySem L2
local macro_rules | `(tactic| walk_at "ws") => `(tactic| try simp only [w_var0, w_varS, w_c, w_ret, w_retN, w_next, w_seq, w_asg, w_gn, w_drop, w_if, w_and, w_or, w_not, ex_bl, ex_int, ex_two, w_B, w_test, w_andV, w_orV, w_notV, w_ife, w_op, w_un, w_chain, w_nil, w_cons, w_cb, w_ca, w_lst, w_tup, w_I0, w_I, w_U, w_eqI, w_neI, w_eqS, w_neS,
  w_isN0, w_notN0, w_fld, w_sfld, w_me, w_ma, w_dget, w_din, w_dnotin, w_dput, w_slice, w_part, w_nopart, w_bm, w_bm0, w_par, w_lc, w_for, w_iList, w_iTup, w_iStr, w_iRng1, w_iZip, w_iEnum, w_tM1, w_dnewK, nn_str, nn_some, nn_none, nn_ref, w_pairN, w_pairC, w_disp, w_meD, w_maxD, w_bare, w_gtup, w_glst, w_gcons, w_gnil, w_gsub, cx_K, cx_K',
  L2.start, endsOf, List.map_cons, List.map_nil, List.length_cons, List.length_nil, List.cons_append, List.nil_append, Nat.zero_add, Nat.reduceAdd, Nat.reduceSub, List.replicate_succ, List.replicate_zero, List.set_cons_zero, List.set_cons_succ, List.set_nil,
  sp0_eq, sp1_eq, sp2_eq, sp3_eq, sp4_eq, sp5_eq, if_true, Bool.false_eq_true, if_false, decide_eq_true_eq, Bool.not_eq_true', decide_eq_false_iff_not, Bool.not_true, Bool.not_false, Bool.not_eq_false', isD_int_none, isD_int_bool, isD_int_int, isD_int_str, isD_int_list, isD_int_tuple, isD_int_dict, isD_bool_none, isD_bool_bool, isD_bool_int, isD_bool_str, isD_bool_list, isD_bool_tuple, isD_bool_dict, isD_str_none, isD_str_bool, isD_str_int, isD_str_str, isD_str_list, isD_str_tuple, isD_str_dict, isD_list_none, isD_list_bool, isD_list_int, isD_list_str, isD_list_list, isD_list_tuple, isD_list_dict, isD_tuple_none, isD_tuple_bool, isD_tuple_int, isD_tuple_str, isD_tuple_list, isD_tuple_tuple, isD_tuple_dict])
local macro_rules | `(tactic| walk_at "al") => `(tactic| (intro p hp; generalize hH : upd _ _ _ = H2; obtain ⟨e2, g2⟩ := alloc1 hp hH.symm; clear hH))
theorem lt_anti : ∀ {a b : List Nat}, Spec.ltCps a b = false → Spec.ltCps b a = false → a = b
  | [], [], _, _ => rfl
  | [], _ :: _, h, _ => by simp [Spec.ltCps] at h
  | _ :: _, [], _, h => by simp [Spec.ltCps] at h
  | a :: r, b :: t, h1, h2 => by
    rw [Spec.ltCps, Bool.or_eq_false_iff] at h1 h2
    have n1 : ¬ a < b := by simpa using h1.1
    have n2 : ¬ b < a := by simpa using h2.1
    have e : a = b := by omega
    subst e
    have g1 := h1.2
    have g2 := h2.2
    simp only [beq_self_eq_true, Bool.true_and] at g1 g2
    rw [lt_anti g1 g2]
theorem str_ext {a b : Str} (h : a.cps.toList = b.cps.toList) : a = b := by
  cases a
  cases b
  congr 1
  exact Array.toList_inj.mp h
def srt (a b : Str) : Str × Str := if PyProof.Rows.sortedS [a, b] = true then (a, b) else (b, a)
theorem srt_of {a b : Str} {ys : List Str} (hp : ys.Perm [a, b]) (hs : PyProof.Rows.sortedS ys = true) : ys = [(srt a b).1, (srt a b).2] := by
  have hl := hp.length_eq
  match ys, hl with
  | [x, y], _ =>
    have hx : x ∈ [a, b] := hp.mem_iff.mp (by simp)
    have cases2 : (x = a ∧ y = b) ∨ (x = b ∧ y = a) := by
      simp at hx
      rcases hx with rfl | rfl
      · exact .inl ⟨rfl, by simpa using List.Perm.cons_inv hp⟩
      · have h2 : [x, y].Perm [x, a] := hp.trans (List.Perm.swap x a [])
        exact .inr ⟨rfl, by simpa using List.Perm.cons_inv h2⟩
    unfold srt
    rcases cases2 with ⟨rfl, rfl⟩ | ⟨rfl, rfl⟩
    · rw [if_pos hs]
    · split
      · rename_i h2
        have g1 : Spec.ltCps y.cps.toList x.cps.toList = false := by simpa [PyProof.Rows.sortedS, PyProof.Rows.risingS] using hs
        have g2 : Spec.ltCps x.cps.toList y.cps.toList = false := by simpa [PyProof.Rows.sortedS, PyProof.Rows.risingS] using h2
        have := str_ext (lt_anti g2 g1)
        rw [this]
      · rfl
theorem srt_eq {a b c d : Str} : srt a b = srt c d ↔ (a = c ∧ b = d) ∨ (a = d ∧ b = c) := by
  have mem : ∀ a b : Str, srt a b = (a, b) ∨ srt a b = (b, a) := fun a b => by
    unfold srt
    split
    · exact .inl rfl
    · exact .inr rfl
  have comm : ∀ a b : Str, srt a b = srt b a := fun a b => by
    unfold srt
    by_cases h1 : PyProof.Rows.sortedS [a, b] = true <;> by_cases h2 : PyProof.Rows.sortedS [b, a] = true
    · rw [if_pos h1, if_pos h2]
      have g1 : Spec.ltCps b.cps.toList a.cps.toList = false := by simpa [PyProof.Rows.sortedS, PyProof.Rows.risingS] using h1
      have g2 : Spec.ltCps a.cps.toList b.cps.toList = false := by simpa [PyProof.Rows.sortedS, PyProof.Rows.risingS] using h2
      rw [str_ext (lt_anti g1 g2)]
    · rw [if_pos h1, if_neg h2]
    · rw [if_neg h1, if_pos h2]
    · exfalso
      have g1 : ¬ Spec.ltCps b.cps.toList a.cps.toList = false := fun h => h1 (by simpa [PyProof.Rows.sortedS, PyProof.Rows.risingS] using h)
      have g2 : ¬ Spec.ltCps a.cps.toList b.cps.toList = false := fun h => h2 (by simpa [PyProof.Rows.sortedS, PyProof.Rows.risingS] using h)
      have asym : ∀ {x y : List Nat}, Spec.ltCps x y = true → Spec.ltCps y x = true → False := by
        intro x
        induction x with
        | nil => intro y h1 h2; cases y <;> simp [Spec.ltCps] at h1 h2
        | cons p r ih =>
          intro y h1 h2
          cases y with
          | nil => simp [Spec.ltCps] at h1
          | cons q t =>
            simp only [Spec.ltCps, Bool.or_eq_true, decide_eq_true_eq, Bool.and_eq_true, beq_iff_eq] at h1 h2
            rcases h1 with h1 | ⟨e1, h1⟩ <;> rcases h2 with h2 | ⟨e2, h2⟩ <;> first | omega | exact ih h1 h2
      exact asym (by simpa using g1) (by simpa using g2)
  constructor
  · intro h
    rcases mem a b with e1 | e1 <;> rcases mem c d with e2 | e2 <;> (rw [e1, e2] at h; simp only [Prod.mk.injEq] at h; obtain ⟨h1, h2⟩ := h; subst h1; subst h2; simp)
  · rintro (⟨rfl, rfl⟩ | ⟨rfl, rfl⟩)
    · rfl
    · exact comm a b
def sortD (a b : Str) : PyData := .list [.str (srt a b).1, .str (srt a b).2]
theorem eqv_sort {a b c d : Str} : PyData.eqv (sortD a b) (sortD c d) = (decide (a = c) && decide (b = d) || (decide (a = d) && decide (b = c))) := by
  have e1 : PyData.eqv (sortD a b) (sortD c d) = decide (srt a b = srt c d) := by
    simp only [sortD, PyData.eqv, PyData.eqvAll, Bool.and_true]
    cases hx : srt a b
    cases hy : srt c d
    rename_i p q r s
    by_cases h1 : p = r <;> by_cases h2 : q = s <;> simp [h1, h2]
  rw [e1, Bool.eq_iff_iff]
  simp only [decide_eq_true_eq, Bool.or_eq_true, Bool.and_eq_true]
  exact srt_eq
theorem any_sort (ws : List Walk) (a b : Str) : ((ws.map fun w => sortD w.1 w.2.1).any fun z => PyData.eqv z (sortD a b)) = (hasPair ws a b || hasPair ws b a) := by
  unfold hasPair
  rw [List.any_map]
  induction ws with
  | nil => rfl
  | cons w r ih =>
    rw [List.any_cons, List.any_cons, List.any_cons, ih]
    show (PyData.eqv (sortD w.1 w.2.1) (sortD a b) || _) = _
    rw [eqv_sort]
    cases (decide (w.1 = a) && decide (w.2.1 = b)) <;> cases (decide (w.1 = b) && decide (w.2.1 = a)) <;> simp
theorem shaped_sort {a b : Str} (ha : isNameS a = true) (hb : isNameS b = true) : SeqAt.shaped (sortD a b) = true := shaped_list (n := 0) (fun d hd => by
    have h2 : isNameS (srt a b).1 = true ∧ isNameS (srt a b).2 = true := by
      unfold srt
      split
      · exact ⟨ha, hb⟩
      · exact ⟨hb, ha⟩
    simp at hd
    rcases hd with rfl | rfl
    · exact shaped_name h2.1
    · exact shaped_name h2.2) fun d hd => by
    simp at hd
    rcases hd with rfl | rfl <;> simp [PyData.depth]
theorem shaped_sorts {ws : List Walk} (h : ∀ w ∈ ws, isNameS w.1 = true ∧ isNameS w.2.1 = true) : SeqAt.shaped (.list (ws.map fun w => sortD w.1 w.2.1)) = true := shaped_list (n := 1) (fun d hd => by
    obtain ⟨w, hw, rfl⟩ := List.mem_map.mp hd
    exact shaped_sort (h w hw).1 (h w hw).2) fun d hd => by
    obtain ⟨w, hw, rfl⟩ := List.mem_map.mp hd
    simp [sortD, PyData.depth, PyData.depthAll]
section
variable {P : Program} {w : World} {K : PySem.W.Frag} {mg : Str → Option Value} {base : Heap}
def lwalkOut (d1 d2 d3 : PyData) (kvs : List (Key × V)) (ws : List Walk) : Option Str :=
  if inD d1 kvs = true then (if inD d2 kvs = true then (match d1, d2 with
    | .str a, .str b => if a = b ∨ hasPair ws a b = true ∨ hasPair ws b a = true then some ("twice" : Str) else if amongD d3 1 60 = true then (if ws.length = 12 then some ("many" : Str) else none) else some ("number" : Str)
    | _, _ => none) else some ("stop" : Str)) else some ("stop" : Str)
def p_due_walk (K : PySem.W.Frag) : P2 := fun v g H Q _ => ∃ W A l v1 v2 v3 d1 d2 d3 kvs vs ws, v = .ref W ∧ IsWorld H W A ∧ g = .ref l ∧ SqL K H l [v1, v2, v3] ∧ Av K H v1 d1 ∧ Av K H v2 d2 ∧ Av K H v3 d3 ∧ H A.s = some (.dK kvs) ∧ H A.w = some (.lst vs) ∧ DpAll K H vs ((ws : List Walk).map walkD) ∧ ws.length ≤ 12 ∧
  (∀ w ∈ ws, isNameS w.1 = true ∧ isNameS w.2.1 = true) ∧ (∀ x, lwalkOut d1 d2 d3 kvs ws = some x → ∀ H', Same H H' → Q (.str x) H') ∧
  (lwalkOut d1 d2 d3 kvs ws = none → ∀ x y m t H', d1 = .str x → d2 = .str y → d3 = .int m → isNameS x = true → isNameS y = true → H t = none → SameB A.w H H' → H' A.w = some (.lst (vs ++ [.ref t])) → H' t = some (.tup [.str x, .str y, .int m]) → Q .non H')
theorem ok_law_due_walk (T : Tx K mg) : Cal CX0 P w K mg base 3 "_law_due_walk" (sp2 (p_due_walk K)) := by
  refine cal_of T.d_law_due_walk T.g__law_due_walk (fun _ _ _ _ _ _ => bind2 fun _ _ => rfl) sc_law_due_walk len2 fun vs H Q E ⟨v, g, e, h⟩ cdv A outer s hr => ?_
  subst e
  have hu := hu_of hr
  have hu65 : (A.deeper (PyProof.Rows.envOfC "_law_due_walk" (defScope s_law_due_walk) s.heap.objs.size (He.fAd K ("_law_due_walk", none)) cdv)).units + 65 < cLine := by
    have := hr.un
    omega
  refine ⟨_, PSs.nox (pss_cons (ps_asg (pv 1) (pg_lst rfl (pgs_cons (pg_name (i := 2) sc_law_due_walk.nd rfl (Or.inl rfl)) (pgs_cons (pg_name (i := 3) sc_law_due_walk.nd rfl (Or.inl rfl)) (pgs_cons (pg_name (i := 4) sc_law_due_walk.nd rfl (Or.inl rfl)) pgs_nil)))))
    (pss_cons (ps_for PassesOwn.never rfl (pi_tup (pe_tup (pa_cons (pv 2) (pa_cons (pv 3) pa_nil)))) (pg_name (i := 5) sc_law_due_walk.nd rfl (Or.inl rfl))
    (pss_one (ps_if (PW.pt (pw_or (pt_not (pt_val (pe_ca (ok_law_is_name T) hr (by decide) rfl pass0 (pa_cons (pv 5) pa_nil)))) (pw_or1 (pt_cmp (pc_dnotin hu (pv 5) (pe_dget hu (pv 0) pe_str (fun _ _ => rfl))) rfl)))) (pss_one (ps_ret pe_str)) pss_nil)))
    (pss_cons (ps_setLc (i := 6) (own := [("_law_walk", 7)]) rfl sc_law_due_walk.nd rfl rfl (sw_true rfl rfl rfl (by decide +kernel)) (pi_list (pe_dget hu (pv 0) pe_str (fun _ _ => rfl))) (blkOk_by (own := [("_law_walk", 7)]) (N := ["_law_world_here", "_law_given_here", "_law_one_here", "_law_other", "_law_minutes", "_law_name_here", "_law_pairs", "_law_walk"]) (sc := defScope s_law_due_walk) (by decide +kernel)) (fun _ _ _ _ _ => pg_name (i := 7) sc_law_due_walk.nd rfl (Or.inl rfl)) (fun _ _ _ _ _ => pts_nil) (fun _ _ _ _ _ => (pe_callB (sortedTK K) rfl T.f_sorted (by decide +kernel) (pa_cons (pe_slice (slT K) (pv 7) po_none (po_some pe_int)) pa_nil))))
    (pss_cons (ps_if (PW.pt (pw_or (pt_cmpR op_eq (pv 2) (pv 3) (nomark _)) (pw_or1 (pt_cmpR (op_inD hu65) (pe_callB cr_sortedS rfl T.f_sorted (by decide +kernel) (pa_cons (pe_lst (pa_cons (pv 2) (pa_cons (pv 3) pa_nil))) pa_nil)) (pv 6) rfl)))) (pss_one (ps_ret pe_str)) pss_nil)
    (pss_cons (ps_if (pt_not (pt_val (pe_ca (ok_law_among T) hr (by decide) rfl pass0 (pa_cons (pv 4) (pa_cons pe_int (pa_cons pe_int pa_nil)))))) (pss_one (ps_ret pe_str)) pss_nil)
    (pss_cons (ps_if (pt_cmpR op_eq (pe_callB call_len_seq rfl T.f_len (by decide +kernel) (pa_cons (pe_dget hu (pv 0) pe_str (fun _ _ => rfl)) pa_nil)) pe_int (nomark _)) (pss_one (ps_ret pe_str)) pss_nil)
    (pss_cons (ps_expr (pe_bm PySem.F.plainAttrs_list PySem.F.slot_list_append PySem.F.type_list_append mt_append (pe_dget hu (pv 0) pe_str (fun _ _ => rfl)) (pa_cons (pe_tup (pa_cons (pv 2) (pa_cons (pv 3) (pa_cons (pv 4) pa_nil)))) pa_nil)))
    (pss_one (ps_ret pe_non))))))))), ?_⟩
  obtain ⟨W, A, l, v1, v2, v3, d1, d2, d3, kvs, vs, ws, rfl, hW, rfl, hl, h1, h2, h3, ha, hb, hvs, hlen, hws, q1, q2⟩ := h
  unfold lwalkOut at q1 q2
  walk_at "ws"
  refine ⟨l, _, rfl, hl, rfl, ?_⟩
  walk_at "ws"
  refine ⟨by decide, ?_⟩
  walk_at "al"
  rename_i tp htp H1 e1 g1
  refine ⟨tp, rfl, ⟨_, SqT.of g1⟩, ?_⟩
  have n1 : inD d1 kvs = false → ∀ H', Same H H' → Q (.str "stop") H' := fun hd => q1 _ (by rw [hd]; rfl)
  have n2 : inD d1 kvs = true → inD d2 kvs = false → ∀ H', Same H H' → Q (.str "stop") H' := fun hd hd2 => q1 _ (by rw [hd, hd2]; rfl)
  refine for_tup (xs := [v1, v2]) (fun i σ H' => Same H H' ∧ Same H1 H' ∧ (∃ x5, σ = [some (.ref W), some (.ref l), some v1, some v2, some v3, x5, none, none]) ∧ (0 < i → inD d1 kvs = true) ∧ (1 < i → inD d2 kvs = true))
    ⟨e1, Same.refl _, ⟨_, rfl⟩, fun h => absurd h (by decide), fun h => absurd h (by decide)⟩ (fun i σ H' _ h => h.2.1.sqT (SqT.of g1)) ?_ ?_
  · rintro i x σ H2 hi ⟨e, e12, ⟨x5, rfl⟩, k1, k2⟩
    have hlt : i < 2 := by
      have := (List.getElem?_eq_some_iff.mp hi).1
      simpa using this
    have step : ∀ (d : PyData), Av K H x d → (inD d kvs = false → ∀ H', Same H H' → Q (.str "stop") H') → (inD d kvs = true → ((0 < i + 1 → inD d1 kvs = true) ∧ (1 < i + 1 → inD d2 kvs = true))) →
        gName 5 x [some (.ref W), some (.ref l), some v1, some v2, some v3, x5, none, none] H2 fun σ2 H3 => tIfS
          (tOr (tNot (tB (tCa (sp1 (p_is_name K)) C8.E0 (tCons (tVar 5) tNil)))) (tB (tDNotIn (tVar 5) (tDGet (tVar 0) (tC (V.str "stops"))))))
          (tRet (tC (V.str "stop"))) tNext { nx := fun σ H' => Same H H' ∧ Same H1 H' ∧ (∃ x5, σ = [some (.ref W), some (.ref l), some v1, some v2, some v3, x5, none, none]) ∧ (0 < i + 1 → inD d1 kvs = true) ∧ (1 < i + 1 → inD d2 kvs = true), rt := Q } σ2 H3 := by
      intro d hd no yes
      walk_at "ws"
      refine ⟨d, hd.up e, fun H3 e3 => ?_⟩
      walk_at "ws"
      cases hn : isNameD d with
      | false =>
        walk_at "ws"
        exact no (inD_no hn) H3 (e.trans e3)
      | true =>
        obtain ⟨y, rfl, hy⟩ := isNameD_str hn
        have ei : inD (.str y) kvs = (valV kvs (.inr y)).isSome := by
          show (isNameS y && _) = _
          rw [show isNameS y = true from hy]
          rfl
        walk_at "ws"
        refine d_stops (hW.up (e.trans e3)) ?_
        rw [Av_str hd]
        refine ⟨A.s, _, rfl, DGet.k (k := Sum.inr y) ((e.trans e3) _ _ ha), ?_⟩
        rw [ei] at no yes
        cases hs : (valV kvs (.inr y)).isSome with
        | false =>
          walk_at "ws"
          exact no hs H3 (e.trans e3)
        | true =>
          walk_at "ws"
          exact ⟨e.trans e3, e12.trans e3, ⟨_, rfl⟩, (yes hs).1, (yes hs).2⟩
    have hc : i = 0 ∨ i = 1 := by omega
    rcases hc with rfl | rfl
    · obtain rfl : v1 = x := Option.some.inj hi
      exact step d1 h1 n1 fun h => ⟨fun _ => h, fun h => absurd h (by decide)⟩
    · obtain rfl : v2 = x := Option.some.inj hi
      exact step d2 h2 (n2 (k1 (by decide))) fun h => ⟨fun _ => k1 (by decide), fun _ => h⟩
  · rintro σ H2 ⟨e12, _, ⟨x5, rfl⟩, k1, k2⟩
    have hd1 := k1 (show 0 < 2 by decide)
    have hd2 := k2 (show 1 < 2 by decide)
    rw [hd1, hd2] at q1 q2
    obtain ⟨x, _, rfl, hxn, _⟩ := inD_yes hd1
    obtain ⟨y, _, rfl, hyn, _⟩ := inD_yes hd2
    walk_at "ws"
    refine d_walks (hW.up e12) ?_
    refine ⟨A.w, rfl, ⟨vs, SqL.of (e12 _ _ hb)⟩, ?_⟩
    refine lcD (ws.map walkD) (fun _ => true) (fun d y H => ∀ w, d = walkD w → Dp K H y (sortD w.1 w.2.1)) (SqL.of (e12 _ _ hb)) (hvs.up e12) (by simp; omega) (fun _ => rfl) (fun a y H H' e h w hw => (h w hw).up e) (fun d x H _ _ _ R r => r H (Same.refl H)) (fun d x0 D H3 acc e hm hx _ hD hacc R r => ?_) fun D ys H3 hD e3 hl3 hp => ?_
    · simp only [wipe]
      walk_at "ws"
      obtain ⟨w0, hw0, rfl⟩ := List.mem_map.mp hm
      obtain ⟨t, ts, rfl, ht, hts⟩ := (hx.up e).tup_inv
      have ets : ts = [V.str w0.1, V.str w0.2.1, V.int w0.2.2] := by
        cases hts with
        | cons a1 hts => cases hts with
          | cons a2 hts => cases hts with
            | cons a3 hts =>
              cases hts
              rw [a1.str_inv, a2.str_inv, a3.int_inv]
      subst ets
      refine ⟨t, _, rfl, ht, by show ¬ (HT.sIx 3 0 none = 0 ∧ HT.sIx 3 3 (some 2) = 3); decide, ?_⟩
      walk_at "al"
      rename_i q hq H4 e4 g4
      refine ⟨q, [w0.1, w0.2.1], rfl, SqT.of g4, (by show 2 < 64; decide), fun zs z hpm hso hz => ?_⟩
      have e5 : Same H4 (upd H4 z (.lst (zs.map V.str))) := Same.new hz
      refine r _ _ (e4.trans e5) fun w hw => ?_
      have ew : w0.1 = w.1 ∧ w0.2.1 = w.2.1 := by
        unfold walkD at hw
        simp at hw
        exact ⟨hw.1, hw.2.1⟩
      have nD : z ≠ D := (ne_of_none (e4 _ _ hacc) hz).symm
      rw [srt_of hpm hso, ew.1, ew.2]
      exact Dp.newL (cut_get nD upd_same) (dpAll_strs _)
    have hys : DpAll K H3 ys (ws.map fun w => sortD w.1 w.2.1) := by
      rw [List.filter_eq_self.mpr (fun _ _ => rfl)] at hp
      have hp2 : Paired (fun (w : Walk) y => Dp K H3 y (sortD w.1 w.2.1)) ws ys := paired_pull (L2.Paired.mapP hp fun d y h w hw => (h w hw).up cut_same)
      exact paired_dp hp2
    have e13 := e12.trans e3
    have lD : Dp K H3 (.ref D) (.list (ws.map fun w => sortD w.1 w.2.1)) := .lst (SqL.of hl3) hys
    have sP := shaped_sorts hws
    have tw : (x = y ∨ hasPair ws x y = true ∨ hasPair ws y x = true) → ∀ H', Same H H' → Q (.str "twice") H' := fun h => q1 _ (by rw [if_pos rfl, if_pos rfl]; exact if_pos h)
    walk_at "ws"
    rw [Av_str h1, Av_str h2]
    walk_at "ws"
    refine ite2 (fun c1 => tw (.inl c1) _ e13) fun c1 => ?_
    refine ⟨by decide, ?_⟩
    walk_at "al"
    rename_i t1 ht1 H4 e4 g4
    refine ⟨t1, [x, y], rfl, SqL.of g4, (by show 2 < 64; decide), fun zs z hpm hso hz => ?_⟩
    have e5 : Same H4 (upd H4 z (.lst (zs.map V.str))) := Same.new hz
    have e15 := (e13.trans e4).trans e5
    have zD : Dp K (upd H4 z (.lst (zs.map V.str))) (.ref z) (sortD x y) := by
      have := Dp.newL (K := K) (H := upd H4 z (.lst (zs.map V.str))) upd_same (dpAll_strs zs)
      rw [srt_of hpm hso] at this ⊢
      exact this
    refine ⟨_, _, zD, (lD.up e4).up e5, shaped_sort hxn hyn, sP, ?_⟩
    rw [any_sort]
    generalize upd H4 z _ = H5 at *
    walk_at "ws"
    refine ite2 (fun c2 => ?_) fun c2 => ?_
    · rcases Bool.or_eq_true_iff.mp c2 with c | c
      · exact tw (.inr (.inl c)) _ e15
      · exact tw (.inr (.inr c)) _ e15
    have cc : ¬ (x = y ∨ hasPair ws x y = true ∨ hasPair ws y x = true) := fun h => h.elim c1 fun h => c2 (Bool.or_eq_true_iff.mpr h)
    rw [if_pos rfl, if_pos rfl] at q2
    have q1' : ∀ z, (if amongD d3 1 60 = true then if ws.length = 12 then some ("many" : Str) else none else some ("number" : Str)) = some z → ∀ H', Same H H' → Q (.str z) H' := fun z hz => q1 z (by rw [if_pos rfl, if_pos rfl]; exact (if_neg cc).trans hz)
    have q2' := q2 ∘ (if_neg cc).trans
    clear q1 q2
    refine ⟨d3, 1, 60, h3.up e15, rfl, rfl, ?_⟩
    walk_at "ws"
    cases hd : amongD d3 1 60 with
    | false =>
      rw [hd] at q1'
      walk_at "ws"
      exact q1' _ rfl _ e15
    | true =>
      rw [hd, if_pos rfl] at q1' q2'
      obtain ⟨m, rfl, _, _⟩ := among_int hd
      walk_at "ws"
      refine d_walks (hW.up e15) ?_
      have hvl : vs.length = ws.length := by simpa using hvs.length
      refine ⟨A.w, vs, rfl, .inl (SqL.of (e15 _ _ hb)), ?_⟩
      refine ite2 (fun c => ?_) fun c => ?_
      · have c' : ws.length = 12 := by omega
        exact q1' _ (if_pos c') _ e15
      · have c' : ¬ ws.length = 12 := by omega
        refine d_walks (hW.up e15) ?_
        refine ⟨.inl ⟨rfl, vs, SqL.of (e15 _ _ hb)⟩, by decide, ?_⟩
        rw [Av_int h3]
        walk_at "al"
        rename_i t ht H6 e6 g6
        have e16 := e15.trans e6
        refine ⟨A.w, vs, _, rfl, rfl, e16 _ _ hb, Nat.lt_of_le_of_lt (show vs.length ≤ 12 by omega) (by decide), ?_⟩
        have nbt : A.w ≠ t := ne_of_none (e15 _ _ hb) ht
        exact q2' (if_neg c') x y m t _ rfl rfl rfl hxn hyn (e15.free ht) (sameB_of e16) upd_same (by rw [upd_ne nbt.symm]; exact g6)
end
end K06
set_option maxHeartbeats 4000000
namespace K06
open PySem L2
section
variable {C D M : List Addr} {H H1 H2 H' : Hp} {a : Addr} {o : HO}
theorem SameB.frm (e : SameB a H H') (h : a ∈ C) : FrM C H H' := fun b o hb hh _ => e b o (fun z => hb (z ▸ h)) hh
end
/-! ### dicts of known things by name -/
def Ent {α : Type} (R : V → α → Prop) : List (Str × α) → List (Key × V) → Prop
  | [], [] => True
  | xa :: l, kv :: r => kv.1 = .inr xa.1 ∧ R kv.2 xa.2 ∧ Ent R l r
  | _, _ => False
section
variable {α β : Type} {R R' : V → α → Prop} {R2 : V → β → Prop}
theorem Ent.mono (h : ∀ v a, R v a → R' v a) : ∀ {l : List (Str × α)} {kvs : List (Key × V)}, Ent R l kvs → Ent R' l kvs
  | [], [], _ => trivial
  | _ :: _, _ :: _, ⟨h1, h2, h3⟩ => ⟨h1, h _ _ h2, Ent.mono h h3⟩
theorem Ent.len : ∀ {l : List (Str × α)} {kvs : List (Key × V)}, Ent R l kvs → kvs.length = l.length
  | [], [], _ => rfl
  | _ :: _, _ :: _, ⟨_, _, h3⟩ => by rw [List.length_cons, List.length_cons, Ent.len h3]
theorem Ent.keys : ∀ {l : List (Str × α)} {kvs : List (Key × V)}, Ent R l kvs → kvs.map (·.1) = l.map fun x => Sum.inr x.1
  | [], [], _ => rfl
  | _ :: _, _ :: _, ⟨h1, _, h3⟩ => by rw [List.map_cons, List.map_cons, Ent.keys h3, h1]
theorem Ent.snoc {x : Str} {a : α} {v : V} (h2 : R v a) : ∀ {l : List (Str × α)} {kvs : List (Key × V)}, Ent R l kvs → Ent R (l ++ [(x, a)]) (kvs ++ [(.inr x, v)])
  | [], [], _ => ⟨rfl, h2, trivial⟩
  | _ :: _, _ :: _, ⟨h1, h, h3⟩ => ⟨h1, h, Ent.snoc h2 h3⟩
theorem Ent.get {x : Str} {v : V} : ∀ {l : List (Str × α)} {kvs : List (Key × V)}, Ent R l kvs → valV kvs (.inr x) = some v → ∃ a, (x, a) ∈ l ∧ R v a
  | [], [], _, h => by cases h
  | xa :: l, kv :: r, ⟨h1, h2, h3⟩, h => by
    by_cases e : kv.1 = Sum.inr x
    · rw [valV_pos e] at h
      have e2 : xa.1 = x := by
        rw [h1] at e
        exact Sum.inr.inj e
      cases h
      exact ⟨xa.2, by rw [← e2]; exact List.mem_cons_self, h2⟩
    · rw [valV_neg e] at h
      obtain ⟨a, g1, g2⟩ := Ent.get h3 h
      exact ⟨a, List.mem_cons_of_mem _ g1, g2⟩
/-- the same names in both: both tell, of the same thing -/
theorem Ent.both {x : Str} {R3 : V → α → Prop} : ∀ {l : List (Str × α)} {kvs kws : List (Key × V)}, Ent R l kvs → Ent R3 l kws → (valV kvs (.inr x) = none ∧ valV kws (.inr x) = none ∧ ∀ p ∈ l, p.1 ≠ x) ∨ ∃ v u a, valV kvs (.inr x) = some v ∧ valV kws (.inr x) = some u ∧ (x, a) ∈ l ∧ R v a ∧ R3 u a
  | [], [], [], _, _ => .inl ⟨rfl, rfl, fun p hp => nomatch hp⟩
  | xa :: l, kv :: r, kw :: t, ⟨h1, h2, h3⟩, ⟨g1, g2, g3⟩ => by
    by_cases e : xa.1 = x
    · refine .inr ⟨kv.2, kw.2, xa.2, valV_pos (by rw [h1, e]), valV_pos (by rw [g1, e]), by rw [← e]; exact List.mem_cons_self, h2, g2⟩
    · have e1 : ¬ kv.1 = Sum.inr x := fun z => e (Sum.inr.inj (h1.symm.trans z))
      have e2 : ¬ kw.1 = Sum.inr x := fun z => e (Sum.inr.inj (g1.symm.trans z))
      rcases Ent.both (x := x) h3 g3 with ⟨a, b, c⟩ | ⟨v, u, a, k1, k2, k3, k4, k5⟩
      · refine .inl ⟨by rw [valV_neg e1]; exact a, by rw [valV_neg e2]; exact b, fun p hp => ?_⟩
        rcases List.mem_cons.mp hp with rfl | hp
        · exact e
        · exact c p hp
      · exact .inr ⟨v, u, a, by rw [valV_neg e1]; exact k1, by rw [valV_neg e2]; exact k2, List.mem_cons_of_mem _ k3, k4, k5⟩
theorem Ent.none_of {x : Str} : ∀ {l : List (Str × α)} {kvs : List (Key × V)}, Ent R l kvs → valV kvs (.inr x) = none → ∀ p ∈ l, p.1 ≠ x
  | [], [], _, _ => fun p hp => nomatch hp
  | xa :: l, kv :: r, ⟨h1, h2, h3⟩, h => fun p hp z => by
    by_cases e : kv.1 = Sum.inr x
    · rw [valV_pos e] at h
      cases h
    · rcases List.mem_cons.mp hp with rfl | hp
      · exact e (by rw [h1, z])
      · rw [valV_neg e] at h
        exact Ent.none_of h3 h p hp z
theorem putK_new {kvs : List (Key × V)} {x : Str} {v : V} (h : valV kvs (.inr x) = none) : putK kvs (.inr x) v = kvs ++ [(.inr x, v)] := by
  unfold putK
  rw [if_neg]
  intro z
  rw [List.any_eq_true] at z
  obtain ⟨kv, hm, hk⟩ := z
  unfold valV at h
  rw [Option.map_eq_none_iff, List.find?_eq_none] at h
  exact h kv hm hk
theorem Ent.isSome {x : Str} {kvs kws : List (Key × V)} {l : List (Str × α)} {R3 : V → α → Prop} (h : Ent R l kvs) (g : Ent R3 l kws) : (valV kvs (.inr x)).isSome = (valV kws (.inr x)).isSome := by
  rcases Ent.both (x := x) h g with ⟨a, b, _⟩ | ⟨v, u, a, b, c, _⟩
  · rw [a, b]
  · rw [b, c]; rfl
end
/-! ### the state that a net and a world tell -/
structure Sta where
  stops : List (Str × (Int × Int))
  walks : List Walk
  rules : List (Str × Told)
  tickets : List (Str × (Int × Int × List Int))
  trips : List (Str × (Str × List Call))
structure Sta.Ok (S : Sta) : Prop where
  s8 : S.stops.length ≤ 8
  w12 : S.walks.length ≤ 12
  r6 : S.rules.length ≤ 6
  t3 : S.tickets.length ≤ 3
  p10 : S.trips.length ≤ 10
  sn : (S.stops.map (·.1)).Nodup
  rn : (S.rules.map (·.1)).Nodup
  sk : ∀ x ∈ S.stops, isNameS x.1 = true
  rk : ∀ x ∈ S.rules, isNameS x.1 = true
  tk : ∀ x ∈ S.tickets, isNameS x.1 = true
  pk : ∀ x ∈ S.trips, isNameS x.1 = true
  wn : ∀ x ∈ S.walks, isNameS x.1 = true ∧ isNameS x.2.1 = true
  ro : ∀ x ∈ S.rules, x.2.ok ∧ x.2.h ≤ 3
  tz : ∀ x ∈ S.tickets, x.2.2.2.length ≤ 6
  pc : ∀ x ∈ S.trips, isNameS x.2.1 = true ∧ x.2.2.length ≤ 6 ∧ ∀ c ∈ x.2.2, isNameS c.1 = true
section
variable (K : PySem.W.Frag) (L : Hp)
def rS (v : V) (a : Int × Int) : Prop := ∃ t, v = .ref t ∧ L t = some (.tup [.int a.1, .int a.2])
def rTn (v : V) (a : Int × Int × List Int) : Prop := ∃ t u, v = .ref t ∧ L t = some (.tup [.int a.1, .int a.2.1, .ref u]) ∧ L u = some (.tup (a.2.2.map V.int))
def rTw (v : V) (a : Int × Int × List Int) : Prop := ∃ t u, v = .ref t ∧ L t = some (.tup [.int a.1, .int a.2.1, .ref u]) ∧ L u = some (.lst (a.2.2.map V.int))
def rPn (v : V) (a : Str × List Call) : Prop := ∃ t u vs, v = .ref t ∧ L t = some (.tup [.str a.1, .ref u]) ∧ L u = some (.tup vs) ∧ DpAll K L vs (a.2.map callD)
def rPw (v : V) (a : Str × List Call) : Prop := ∃ t u vs, v = .ref t ∧ L t = some (.tup [.str a.1, .ref u]) ∧ L u = some (.lst vs) ∧ DpAll K L vs (a.2.map callD)
end
section
variable {K : PySem.W.Frag} {L L' : Hp} {v : V}
theorem rS.up {a : Int × Int} (e : Same L L') (h : rS L v a) : rS L' v a := by
  obtain ⟨t, h1, h2⟩ := h
  exact ⟨t, h1, e _ _ h2⟩
theorem rTn.up {a : Int × Int × List Int} (e : Same L L') (h : rTn L v a) : rTn L' v a := by
  obtain ⟨t, u, h1, h2, h3⟩ := h
  exact ⟨t, u, h1, e _ _ h2, e _ _ h3⟩
theorem rTw.up {a : Int × Int × List Int} (e : Same L L') (h : rTw L v a) : rTw L' v a := by
  obtain ⟨t, u, h1, h2, h3⟩ := h
  exact ⟨t, u, h1, e _ _ h2, e _ _ h3⟩
theorem rPn.up {a : Str × List Call} (e : Same L L') (h : rPn K L v a) : rPn K L' v a := by
  obtain ⟨t, u, vs, h1, h2, h3, h4⟩ := h
  exact ⟨t, u, vs, h1, e _ _ h2, e _ _ h3, h4.up e⟩
theorem rPw.up {a : Str × List Call} (e : Same L L') (h : rPw K L v a) : rPw K L' v a := by
  obtain ⟨t, u, vs, h1, h2, h3, h4⟩ := h
  exact ⟨t, u, vs, h1, e _ _ h2, e _ _ h3, h4.up e⟩
end
/-- a net's containers -/
def NA.l (N : NA) : List Addr := [N.a, N.b, N.c, N.d, N.e]
def WA.l (A : WA) : List Addr := [A.s, A.w, A.r, A.t, A.p]
structure NetK (K : PySem.W.Frag) (L : Hp) (S : Sta) (ka : List (Key × V)) (vb : List V) (kc kd ke : List (Key × V)) : Prop where
  a : Ent (rS L) S.stops ka
  b : DpAll K L vb (S.walks.map walkD)
  c : Ent (RuleAt K L) S.rules kc
  d : Ent (rTn L) S.tickets kd
  e : Ent (rPn K L) S.trips ke
structure WorldK (K : PySem.W.Frag) (L : Hp) (S : Sta) (ka : List (Key × V)) (vb : List V) (kc kd ke : List (Key × V)) : Prop where
  a : Ent (rS L) S.stops ka
  b : DpAll K L vb (S.walks.map walkD)
  c : Ent (fun v (t : Told) => Dp K L v t.d) S.rules kc
  d : Ent (rTw L) S.tickets kd
  e : Ent (rPw K L) S.trips ke
section
variable {K : PySem.W.Frag} {L L' : Hp} {S : Sta} {ka kc kd ke : List (Key × V)} {vb : List V}
theorem NetK.up (e : Same L L') (h : NetK K L S ka vb kc kd ke) : NetK K L' S ka vb kc kd ke :=
  ⟨h.a.mono fun _ _ => rS.up e, h.b.up e, h.c.mono fun _ _ h => h.up e, h.d.mono fun _ _ => rTn.up e, h.e.mono fun _ _ => rPn.up e⟩
theorem WorldK.up (e : Same L L') (h : WorldK K L S ka vb kc kd ke) : WorldK K L' S ka vb kc kd ke :=
  ⟨h.a.mono fun _ _ => rS.up e, h.b.up e, h.c.mono fun _ _ h => h.up e, h.d.mono fun _ _ => rTw.up e, h.e.mono fun _ _ => rPw.up e⟩
end
structure NetAt (K : PySem.W.Frag) (M : List Addr) (H : Hp) (p : Addr) (N : NA) (S : Sta) : Prop where
  n : IsNet K (cutM M H) p N
  ex : ∃ ka vb kc kd ke, H N.a = some (.dK ka) ∧ H N.b = some (.lst vb) ∧ H N.c = some (.dK kc) ∧ H N.d = some (.dK kd) ∧ H N.e = some (.dK ke) ∧ NetK K (cutM M H) S ka vb kc kd ke
structure WorldAt (K : PySem.W.Frag) (M : List Addr) (H : Hp) (W : Addr) (A : WA) (S : Sta) : Prop where
  n : IsWorld (cutM M H) W A
  ex : ∃ ka vb kc kd ke, H A.s = some (.dK ka) ∧ H A.w = some (.lst vb) ∧ H A.r = some (.dK kc) ∧ H A.t = some (.dK kd) ∧ H A.p = some (.dK ke) ∧ WorldK K (cutM M H) S ka vb kc kd ke
section
variable {K : PySem.W.Frag} {M C : List Addr} {H H' : Hp} {p W : Addr} {N : NA} {A : WA} {S : Sta}
theorem NetAt.fr (h : NetAt K M H p N S) (e : FrM C H H') (hC : ∀ b ∈ C, b ∈ M) (hN : ∀ b ∈ N.l, b ∉ C) : NetAt K M H' p N S := by
  obtain ⟨n, ka, vb, kc, kd, ke, h1, h2, h3, h4, h5, k⟩ := h
  have s := cutM_fr e hC
  refine ⟨n.up s, ka, vb, kc, kd, ke, e _ _ (hN _ (by simp [NA.l])) h1 (fun _ z => nomatch z), e _ _ (hN _ (by simp [NA.l])) h2 (fun _ z => nomatch z), e _ _ (hN _ (by simp [NA.l])) h3 (fun _ z => nomatch z), e _ _ (hN _ (by simp [NA.l])) h4 (fun _ z => nomatch z), e _ _ (hN _ (by simp [NA.l])) h5 (fun _ z => nomatch z), k.up s⟩
theorem WorldAt.fr (h : WorldAt K M H W A S) (e : FrM C H H') (hC : ∀ b ∈ C, b ∈ M) (hN : ∀ b ∈ A.l, b ∉ C) : WorldAt K M H' W A S := by
  obtain ⟨n, ka, vb, kc, kd, ke, h1, h2, h3, h4, h5, k⟩ := h
  have s := cutM_fr e hC
  refine ⟨n.up s, ka, vb, kc, kd, ke, e _ _ (hN _ (by simp [WA.l])) h1 (fun _ z => nomatch z), e _ _ (hN _ (by simp [WA.l])) h2 (fun _ z => nomatch z), e _ _ (hN _ (by simp [WA.l])) h3 (fun _ z => nomatch z), e _ _ (hN _ (by simp [WA.l])) h4 (fun _ z => nomatch z), e _ _ (hN _ (by simp [WA.l])) h5 (fun _ z => nomatch z), k.up s⟩
theorem NetAt.up (h : NetAt K M H p N S) (e : Same H H') : NetAt K M H' p N S := h.fr (C := []) e.frm (fun _ z => nomatch z) (fun _ _ z => nomatch z)
theorem WorldAt.up (h : WorldAt K M H W A S) (e : Same H H') : WorldAt K M H' W A S := h.fr (C := []) e.frm (fun _ z => nomatch z) (fun _ _ z => nomatch z)
end
end K06
set_option maxHeartbeats 4000000
namespace K06
open PySem L2
local macro_rules | `(tactic| walk_at "ws") => `(tactic| try simp only [w_var0, w_varS, w_c, w_ret, w_retN, w_next, w_seq, w_asg, w_gn, w_drop, w_if, w_and, w_or, w_not, ex_bl, ex_int, ex_two, w_B, w_test, w_andV, w_orV, w_notV, w_ife, w_op, w_un, w_chain, w_nil, w_cons, w_cb, w_ca, w_lst, w_tup, w_I0, w_I, w_U, w_eqI, w_neI, w_eqS, w_neS,
  w_isN0, w_notN0, w_fld, w_sfld, w_me, w_ma, w_dget, w_din, w_dnotin, w_dput, w_slice, w_part, w_nopart, w_bm, w_bm0, w_par, w_lc, w_for, w_iList, w_iTup, w_iStr, w_iRng1, w_iZip, w_iEnum, w_tM1, w_dnewK, nn_str, nn_some, nn_none, nn_ref, w_pairN, w_pairC, w_disp, w_meD, w_maxD, w_bare, w_gtup, w_glst, w_gcons, w_gnil, w_gsub, cx_K, cx_K',
  L2.start, endsOf, List.map_cons, List.map_nil, List.length_cons, List.length_nil, List.cons_append, List.nil_append, Nat.zero_add, Nat.reduceAdd, Nat.reduceSub, List.replicate_succ, List.replicate_zero, List.set_cons_zero, List.set_cons_succ, List.set_nil,
  sp0_eq, sp1_eq, sp2_eq, sp3_eq, sp4_eq, sp5_eq, if_true, Bool.false_eq_true, if_false, decide_eq_true_eq, Bool.not_eq_true', decide_eq_false_iff_not, Bool.not_true, Bool.not_false, Bool.not_eq_false', isD_int_none, isD_int_bool, isD_int_int, isD_int_str, isD_int_list, isD_int_tuple, isD_int_dict, isD_bool_none, isD_bool_bool, isD_bool_int, isD_bool_str, isD_bool_list, isD_bool_tuple, isD_bool_dict, isD_str_none, isD_str_bool, isD_str_int, isD_str_str, isD_str_list, isD_str_tuple, isD_str_dict, isD_list_none, isD_list_bool, isD_list_int, isD_list_str, isD_list_list, isD_list_tuple, isD_list_dict, isD_tuple_none, isD_tuple_bool, isD_tuple_int, isD_tuple_str, isD_tuple_list, isD_tuple_tuple, isD_tuple_dict])
local macro_rules | `(tactic| walk_at "al") => `(tactic| (intro p hp; generalize hH : upd _ _ _ = H2; obtain ⟨e2, g2⟩ := alloc1 hp hH.symm; clear hH))
/-! ### calls that are drawn -/
def goodC (S : List Str) : Option Call → List Call → Prop
  | _, [] => True
  | a, c :: r => c.1 ∈ S ∧ (0 ≤ c.2.1 ∧ c.2.1 ≤ 2879) ∧ (0 ≤ c.2.2 ∧ c.2.2 ≤ 2879) ∧ risesC a c = true ∧ goodC S (some c) r
def lastC : Option Call → List Call → Option Call
  | a, [] => a
  | _, c :: r => lastC (some c) r
theorem goodC_snoc {S : List Str} {c : Call} (h1 : c.1 ∈ S) (h2 : 0 ≤ c.2.1 ∧ c.2.1 ≤ 2879) (h3 : 0 ≤ c.2.2 ∧ c.2.2 ≤ 2879) : ∀ {a : Option Call} {cs : List Call}, goodC S a cs → risesC (lastC a cs) c = true → goodC S a (cs ++ [c])
  | a, [], _, h => ⟨h1, h2, h3, h, trivial⟩
  | a, b :: r, ⟨g1, g2, g3, g4, g5⟩, h => ⟨g1, g2, g3, g4, goodC_snoc h1 h2 h3 g5 h⟩
theorem lastC_snoc {c : Call} : ∀ {a : Option Call} {cs : List Call}, lastC a (cs ++ [c]) = some c
  | _, [] => rfl
  | _, _ :: r => lastC_snoc (cs := r)
def lastV : Option Call → V
  | none => .non
  | some c => .str c.1
theorem left_some {S : List Str} {o : Option Call} (hn : S.Nodup) (h2 : 2 ≤ S.length) : ∃ x ∈ S, V.str x ≠ lastV o := by
  match S, h2, hn with
  | a :: b :: r, _, hn =>
    cases o with
    | none => exact ⟨a, by simp, by simp [lastV]⟩
    | some c =>
      by_cases h : a = c.1
      · refine ⟨b, by simp, fun e => ?_⟩
        have e : b = c.1 := by simpa [lastV] using e
        have := (List.nodup_cons.mp hn).1
        exact this (by rw [h, ← e]; simp)
      · exact ⟨a, by simp, fun e => h (by simpa [lastV] using e)⟩
theorem rNe_last {x : Str} {o : Option Call} {H : Hp} {Q : VK} (q : Q (.bl (!decide (V.str x = lastV o))) H) : rNe (.str x) (lastV o) H Q := by
  cases o with
  | none => exact ⟨rfl, q⟩
  | some c => exact ⟨rfl, q⟩
section
variable {P : Program} {w : World} {K : PySem.W.Frag} {mg : Str → Option Value} {base : Heap}
def p_law_calls (K : PySem.W.Frag) : P3 := fun v u m H Q _ => ∃ (M : List Addr) (num : Int) (l : Addr) (S : List Str) (n : Nat), Live M H ∧ v = .int num ∧ u = .ref l ∧ m = .int (n : Int) ∧ SqL K H l (S.map V.str) ∧ S.Nodup ∧ 2 ≤ S.length ∧ S.length ≤ 8 ∧ n ≤ 6 ∧
  ∀ D vs cs H', Same H H' → H D = none → H' D = some (.lst vs) → DpAll K (cutM (D :: M) H') vs ((cs : List Call).map callD) → cs.length = n → goodC S none cs → Q (.ref D) H'
theorem ok_law_calls (T : Tx K mg) : Cal CX0 P w K mg base 2 "_law_calls" (sp3 (p_law_calls K)) := by
  refine cal_of T.d_law_calls T.g__law_calls (fun _ _ _ _ _ _ => bind3 fun _ _ _ => rfl) sc_law_calls len3 fun vs H Q E ⟨v, u, m, e, h⟩ cdv A outer s hr => ?_
  subst e
  refine ⟨_, PSs.nox (pss_cons (ps_set (i := 3) sc_law_calls.nd rfl (Or.inl rfl) (pe_lst pa_nil))
    (pss_cons (ps_set (i := 4) sc_law_calls.nd rfl (Or.inl rfl) (pe_op op_add (pe_ix ix_list (pe_lst (pa_cons pe_int (pa_cons pe_int (pa_cons pe_int (pa_cons pe_int pa_nil))))) (pe_op op_mod (pv 0) pe_int) (fun _ _ => rfl)) (pe_op op_mod (pe_op op_fdiv (pv 0) pe_int) pe_int)))
    (pss_cons (ps_set (i := 5) sc_law_calls.nd rfl (Or.inr rfl) pe_non)
    (pss_cons (ps_for PassesOwn.never rfl (pi_range1 rfl T.f_range (pa_cons (pv 2) pa_nil)) (pg_name (i := 6) sc_law_calls.nd rfl (Or.inl rfl))
    (pss_cons (ps_set (i := 7) sc_law_calls.nd rfl (Or.inl rfl) (pe_ca (ok_law_mixed T) hr (by decide) rfl pass0 (pa_cons (pv 0) (pa_cons (pe_op op_add pe_int (pv 6)) pa_nil))))
    (pss_cons (ps_setLc (i := 8) (own := [("_law_stop", 11)]) rfl sc_law_calls.nd rfl rfl (sw_true rfl rfl rfl (by decide +kernel)) (pi_list (pv 1)) (blkOk_by (own := [("_law_stop", 11)]) (N := ["_law_number", "_law_stops", "_law_many", "_law_found", "_law_time", "_law_last", "_law_k", "_law_mixed_here", "_law_left", "_law_arrive", "_law_leave", "_law_stop"]) (sc := defScope s_law_calls) (by decide +kernel)) (fun _ _ _ _ _ => pg_name (i := 11) sc_law_calls.nd rfl (Or.inl rfl)) (fun _ _ _ _ _ => pts_one (pt_cmpR op_ne (pv 11) (pv 5) (nomark _))) (fun _ _ _ _ _ => (pv 11)))
    (pss_cons (ps_set (i := 5) sc_law_calls.nd rfl (Or.inr rfl) (pe_ix ix_list (pv 8) (pe_op op_mod (pv 7) (pe_callB call_len_seq rfl T.f_len (by decide +kernel) (pa_cons (pv 8) pa_nil))) (fun _ _ => rfl)))
    (pss_cons (ps_set (i := 9) sc_law_calls.nd rfl (Or.inl rfl) (pe_op op_add (pe_op op_add (pv 4) pe_int) (pe_op op_mod (pe_op op_fdiv (pv 7) pe_int) pe_int)))
    (pss_cons (ps_set (i := 10) sc_law_calls.nd rfl (Or.inl rfl) (pe_op op_add (pv 9) (pe_op op_mod (pe_op op_fdiv (pv 7) pe_int) pe_int)))
    (pss_cons (ps_expr (pe_bm PySem.F.plainAttrs_list PySem.F.slot_list_append PySem.F.type_list_append mt_append (pv 3) (pa_cons (pe_tup (pa_cons (pv 5) (pa_cons (pv 9) (pa_cons (pv 10) pa_nil)))) pa_nil)))
    (pss_one (ps_set (i := 4) sc_law_calls.nd rfl (Or.inl rfl) (pv 10))))))))))
    (pss_one (ps_ret (pv 3))))))), ?_⟩
  obtain ⟨M, num, l, S, n, hM, rfl, rfl, rfl, hl, hnd, h2, h8, hn, q⟩ := h
  walk_at "ws"
  refine ⟨by decide, ?_⟩
  intro D hD
  obtain ⟨e1, g1⟩ := alloc1 (o := .lst []) hD rfl
  generalize upd H D (.lst []) = H1 at *
  refine ⟨by decide, ?_⟩
  walk_at "al"
  rename_i p hp H2 e2 g2
  refine ⟨by decide, ?_⟩
  have ht : ∃ (t0 : Int) (j : Nat), num % 4 = (j : Int) ∧ ([V.int 300, V.int 600, V.int 1380, V.int 2000] : List V)[j]? = some (.int t0) ∧ 0 ≤ t0 ∧ t0 ≤ 2000 := by
    have : num % 4 = 0 ∨ num % 4 = 1 ∨ num % 4 = 2 ∨ num % 4 = 3 := by omega
    rcases this with h | h | h | h
    · exact ⟨300, 0, h, rfl, by decide, by decide⟩
    · exact ⟨600, 1, h, rfl, by decide, by decide⟩
    · exact ⟨1380, 2, h, rfl, by decide, by decide⟩
    · exact ⟨2000, 3, h, rfl, by decide, by decide⟩
  obtain ⟨t0, j, hj, hjt, t00, t01⟩ := ht
  rw [hj]
  refine ⟨p, _, j, _, rfl, rfl, SqL.of g2, atI_nat hjt, ?_⟩
  walk_at "ws"
  refine ⟨⟨by decide, by decide⟩, by decide, ?_⟩
  refine ⟨_, rfl, by omega, by omega, ?_⟩
  have eN : ((n : Int)).toNat = n := by omega
  rw [eN]
  refine for_range (fun i σ H' => Same H H' ∧ ∃ cs vs t o6 o7 o8 o9 o10, (cs : List Call).length = i ∧ H' D = some (.lst vs) ∧ DpAll K (cutM (D :: M) H') vs (cs.map callD) ∧ goodC S none cs ∧ 0 ≤ t ∧ t ≤ 2059 + 44 * (i : Int) ∧ (∀ c, lastC none cs = some c → c.2.2 = t) ∧
    σ = [some (V.int num), some (.ref l), some (.int (n : Int)), some (.ref D), some (.int t), some (lastV (lastC none cs)), o6, o7, o8, o9, o10, none])
    ⟨e1.trans e2, [], [], t0 + num / 4 % 60, none, none, none, none, none, rfl, e2 _ _ g1, .nil, trivial, by omega, by omega, (fun c h => nomatch (show none = some c from h)), rfl⟩ ?_ ?_
  · rintro i σ H3 hi ⟨e, cs, vs, t, o6, o7, o8, o9, o10, hlen, g3, hvs, hgo, tl, tu, hla, rfl⟩
    walk_at "ws"
    refine ⟨num, 50 + (0 + (i : Int)), rfl, rfl, by omega, by omega, ?_⟩
    have m0 := mixed_nn num (50 + (0 + (i : Int)))
    generalize mixed num (50 + (0 + (i : Int))) = mx at m0 ⊢
    walk_at "ws"
    refine ⟨l, rfl, ⟨_, e.seq hl⟩, ?_⟩
    refine lcL (S.map V.str) (fun x => !decide (x = lastV (lastC none cs))) (fun x y _ => y = x) (e.seq hl) (by rw [List.length_map]; omega) (fun _ => rfl) (fun _ _ _ _ _ h => h) (fun k x H4 e4 hx R r => ?_) (fun k x D2 H4 acc e4 hx hpx hD2 hacc R r => ?_) fun L ys H4 hL e4 g4 hp4 => ?_
    · simp only [wipe]
      rw [List.getElem?_map] at hx
      obtain ⟨y, hy, rfl⟩ := Option.map_eq_some_iff.mp hx
      walk_at "ws"
      exact rNe_last ⟨_, rfl, r H4 (Same.refl H4)⟩
    · simp only [wipe]
      walk_at "ws"
      exact r _ H4 (Same.refl H4) rfl
    · have ey : ys = (S.map V.str).filter (fun x => !decide (x = lastV (lastC none cs))) := by
        have := paired_map (f := fun x => x) hp4
        simpa using this
      obtain ⟨x0, hx0, hne⟩ := left_some (o := lastC none cs) hnd h2
      have hpos : 0 < ys.length := by
        rw [ey]
        exact List.length_pos_of_mem (List.mem_filter.mpr ⟨List.mem_map.mpr ⟨x0, hx0, rfl⟩, by simpa using hne⟩)
      walk_at "ws"
      refine ⟨L, ys, rfl, .inl (SqL.of g4), by omega, ?_⟩
      have r0 := Int.emod_nonneg mx (show (ys.length : Int) ≠ 0 by omega)
      have r1 := Int.emod_lt_of_pos mx (show (0 : Int) < (ys.length : Int) by omega)
      have hlt : (mx % (ys.length : Int)).toNat < ys.length := by omega
      have hmem : ys[(mx % (ys.length : Int)).toNat] ∈ ys := List.getElem_mem hlt
      have hmem2 : ys[(mx % (ys.length : Int)).toNat] ∈ (S.map V.str).filter (fun x => !decide (x = lastV (lastC none cs))) := by
        rw [← ey]
        exact hmem
      obtain ⟨hm1, hm2⟩ := List.mem_filter.mp hmem2
      obtain ⟨x, hxS, hxe⟩ := List.mem_map.mp hm1
      refine ⟨L, ys, _, V.str x, rfl, rfl, SqL.of g4, atI_int r0 (by rw [List.getElem?_eq_getElem hlt, hxe]), ?_⟩
      have hne2 : V.str x ≠ lastV (lastC none cs) := by
        rw [← hxe] at hm2
        simpa using hm2
      walk_at "ws"
      refine ⟨⟨by decide, by decide⟩, by decide, ⟨by decide, by decide⟩, by decide, ?_⟩
      have e04 := e.trans e4
      refine ⟨.inl ⟨rfl, vs, SqL.of (e4 _ _ g3)⟩, by decide, ?_⟩
      walk_at "al"
      rename_i c hc H5 e5 g5
      refine ⟨D, vs, _, rfl, rfl, e5 _ _ (e4 _ _ g3), ?_, ?_⟩
      · have := hvs.length
        rw [List.length_map] at this
        rw [this]
        exact Nat.lt_of_lt_of_le (show cs.length < 7 by omega) (by decide)
      have nc : c ≠ D := (ne_of_none (e4 _ _ g3) hc).symm
      have a0 := Int.emod_nonneg (mx / 8) (show (40 : Int) ≠ 0 by decide)
      have a1 := Int.emod_lt_of_pos (mx / 8) (show (0 : Int) < 40 by decide)
      have b0 := Int.emod_nonneg (mx / 320) (show (5 : Int) ≠ 0 by decide)
      have b1 := Int.emod_lt_of_pos (mx / 320) (show (0 : Int) < 5 by decide)
      generalize mx / 8 % 40 = ar at a0 a1 g5 ⊢
      generalize mx / 320 % 5 = lv at b0 b1 g5 ⊢
      have e35 := e4.trans e5
      refine ⟨(e.trans e35).mut hD, cs ++ [(x, t + 1 + ar, t + 1 + ar + lv)], vs ++ [.ref c], t + 1 + ar + lv, _, _, _, _, _, by rw [List.length_append, hlen]; rfl, upd_same, ?_, ?_, by omega, by omega, ?_, by rw [lastC_snoc]; rfl⟩
      · rw [List.map_append]
        refine (hvs.up (cutM_fr (C := [D]) (FrM.trans e35.frm (SameB.frm sameB_upd (by simp))) (by simp))).app (.cons ?_ .nil)
        refine Dp.newT (p := c) (vs := [V.str x, .int (t + 1 + ar), .int (t + 1 + ar + lv)]) (cutM_get (by simp only [List.mem_cons, not_or]; exact ⟨nc, (hM.up e04).not hc⟩) (by rw [upd_ne nc]; exact g5) (fun _ z => nomatch z)) (.cons (.str _) (.cons (.int _) (.cons (.int _) .nil)))
      · refine goodC_snoc hxS ⟨by show 0 ≤ t + 1 + ar; omega, by show t + 1 + ar ≤ 2879; omega⟩ ⟨by show 0 ≤ t + 1 + ar + lv; omega, by show t + 1 + ar + lv ≤ 2879; omega⟩ hgo ?_
        unfold risesC
        refine Bool.and_eq_true_iff.mpr ⟨by simp only [Bool.not_eq_true', decide_eq_false_iff_not]; omega, ?_⟩
        cases hlc : lastC none cs with
        | none => rfl
        | some b =>
          have := hla b hlc
          rw [hlc] at hne2
          refine Bool.and_eq_true_iff.mpr ⟨?_, decide_eq_true (by show b.2.2 < t + 1 + ar; omega)⟩
          simp only [Bool.not_eq_true', decide_eq_false_iff_not]
          intro z
          exact hne2 (by show V.str x = V.str b.1; rw [z])
      · intro c' h
        rw [lastC_snoc] at h
        cases h
        rfl
  · rintro σ H3 ⟨e, cs, vs, t, o6, o7, o8, o9, o10, hlen, g3, hvs, hgo, tl, tu, hla, rfl⟩
    walk_at "ws"
    exact q D vs cs H3 e hD g3 hvs hlen hgo
end
end K06
set_option maxHeartbeats 4000000
namespace K06
open PySem L2
local macro_rules | `(tactic| walk_at "ws") => `(tactic| try simp only [w_var0, w_varS, w_c, w_ret, w_retN, w_next, w_seq, w_asg, w_gn, w_drop, w_if, w_and, w_or, w_not, ex_bl, ex_int, ex_two, w_B, w_test, w_andV, w_orV, w_notV, w_ife, w_op, w_un, w_chain, w_nil, w_cons, w_cb, w_ca, w_lst, w_tup, w_I0, w_I, w_U, w_eqI, w_neI, w_eqS, w_neS,
  w_isN0, w_notN0, w_fld, w_sfld, w_me, w_ma, w_dget, w_din, w_dnotin, w_dput, w_slice, w_part, w_nopart, w_bm, w_bm0, w_par, w_lc, w_for, w_iList, w_iTup, w_iStr, w_iRng1, w_iZip, w_iEnum, w_tM1, w_dnewK, nn_str, nn_some, nn_none, nn_ref, w_pairN, w_pairC, w_disp, w_meD, w_maxD, w_bare, w_gtup, w_glst, w_gcons, w_gnil, w_gsub, cx_K, cx_K',
  L2.start, endsOf, List.map_cons, List.map_nil, List.length_cons, List.length_nil, List.cons_append, List.nil_append, Nat.zero_add, Nat.reduceAdd, Nat.reduceSub, List.replicate_succ, List.replicate_zero, List.set_cons_zero, List.set_cons_succ, List.set_nil,
  sp0_eq, sp1_eq, sp2_eq, sp3_eq, sp4_eq, sp5_eq, if_true, Bool.false_eq_true, if_false, decide_eq_true_eq, Bool.not_eq_true', decide_eq_false_iff_not, Bool.not_true, Bool.not_false, Bool.not_eq_false', isD_int_none, isD_int_bool, isD_int_int, isD_int_str, isD_int_list, isD_int_tuple, isD_int_dict, isD_bool_none, isD_bool_bool, isD_bool_int, isD_bool_str, isD_bool_list, isD_bool_tuple, isD_bool_dict, isD_str_none, isD_str_bool, isD_str_int, isD_str_str, isD_str_list, isD_str_tuple, isD_str_dict, isD_list_none, isD_list_bool, isD_list_int, isD_list_str, isD_list_list, isD_list_tuple, isD_list_dict, isD_tuple_none, isD_tuple_bool, isD_tuple_int, isD_tuple_str, isD_tuple_list, isD_tuple_tuple, isD_tuple_dict])
local macro_rules | `(tactic| walk_at "al") => `(tactic| (intro p hp; generalize hH : upd _ _ _ = H2; obtain ⟨e2, g2⟩ := alloc1 hp hH.symm; clear hH))
/-! ### what is given -/
def lenD (d : PyData) : Nat := match d with
  | .list ds => ds.length
  | _ => 0
def GivOk (K : PySem.W.Frag) (H : Hp) (keys : List Str) (sort : Int) (g : Addr) : Prop :=
  ((sort = 0 ∨ sort = 1) ∧ ∃ v1 v2 v3 d1 d2 d3, H g = some (.lst [v1, v2, v3]) ∧ Av K H v1 d1 ∧ Av K H v2 d2 ∧ Av K H v3 d3) ∨
  (sort = 2 ∧ ∃ v1 v2 d1, H g = some (.lst [v1, v2]) ∧ Av K H v1 d1 ∧ ((∃ t : Told, Dp K H v2 t.d ∧ t.ok ∧ t.h ≤ 3) ∨ ∃ d2, Dp K H v2 d2 ∧ okD d2 = true ∧ (isD "tuple" d2 = true → d2 = .tuple []))) ∨
  (sort = 3 ∧ ∃ v1 v2 v3 v4 d1 d2 d3 d4, H g = some (.lst [v1, v2, v3, v4]) ∧ Av K H v1 d1 ∧ Av K H v2 d2 ∧ Av K H v3 d3 ∧ AvL K H v4 d4 ∧ lenD d4 ≤ 6) ∨
  (sort = 4 ∧ ∃ v1 v2 c d1 d2 vs cs, H g = some (.lst [v1, v2, .ref c]) ∧ Av K H v1 d1 ∧ Av K H v2 d2 ∧ H c = some (.lst vs) ∧ DpAll K H vs ((cs : List Call).map callD) ∧ 2 ≤ cs.length ∧ cs.length ≤ 6 ∧ goodC keys none cs)
theorem ix_map {α : Type} (L : List α) (f : α → V) {i : Int} (h0 : 0 ≤ i) (h1 : i < (L.length : Int)) : ∃ a ∈ L, atI (L.map f) i = some (f a) := by
  have hl : i.toNat < L.length := by omega
  exact ⟨L[i.toNat], List.getElem_mem hl, atI_int h0 (by rw [List.getElem?_map, List.getElem?_eq_getElem hl]; rfl)⟩
theorem ix_any (xs : List V) {i : Int} (h0 : 0 ≤ i) (h1 : i < (xs.length : Int)) : ∃ v ∈ xs, atI xs i = some v := by
  have hl : i.toNat < xs.length := by omega
  exact ⟨xs[i.toNat], List.getElem_mem hl, atI_int h0 (List.getElem?_eq_getElem hl)⟩
theorem ixN_nat {n i : Nat} (h : i < n) : ixN n (i : Int) = some i := by
  unfold ixN
  rw [if_pos (by omega), if_pos (by omega)]
  simp
theorem cutM_sub {M M2 : List Addr} {H H' : Hp} (e : FrM M2 H H') (h : ∀ b ∈ M, b ∈ M2) : Same (cutM M2 H) (cutM M H') := fun b u q => by
  obtain ⟨n, g, t⟩ := cutM_some q
  exact cutM_get (fun z => n (h b z)) (e b u n g t) t
theorem keysV {kvs : List (Key × V)} {S : List Str} (h : kvs.map (·.1) = S.map Sum.inr) : (kvs.map fun kv => kV kv.1) = S.map V.str := by
  have e : (kvs.map fun kv => kV kv.1) = (kvs.map (·.1)).map kV := by rw [List.map_map]; rfl
  rw [e, h, List.map_map]
  rfl
section
variable {P : Program} {w : World} {K : PySem.W.Frag} {mg : Str → Option Value} {base : Heap}
def p_law_given (K : PySem.W.Frag) : P3 := fun v u m H Q _ => ∃ M W A nl names num ks kr, v = .ref W ∧ IsWorld H W A ∧ u = .ref nl ∧ H nl = some (.lst ((names : List Str).map V.str)) ∧ names.length = 10 ∧ (∀ x ∈ names, isNameS x = true) ∧ m = .int num ∧ 0 ≤ num ∧ num < 90749487 ∧ Live M H ∧
  H A.s = some (.dK ks) ∧ H A.r = some (.dK kr) ∧ (∃ S : List Str, ks.map (·.1) = S.map Sum.inr ∧ S.Nodup ∧ S.length ≤ 8 ∧ (∀ x ∈ S, isNameS x = true) ∧
    ∃ R : List Str, kr.map (·.1) = R.map Sum.inr ∧ (∀ x ∈ R, isNameS x = true) ∧ R.length ≤ 6 ∧
    ∀ a g sort H', Same H H' → H' a = some (.tup [.int sort, .ref g]) → GivOk K (cutM M H') S sort g → Q (.ref a) H')
theorem ok_law_given (T : Tx K mg) : Cal CX0 P w K mg base 5 "_law_given" (sp3 (p_law_given K)) := by
  refine cal_of T.d_law_given T.g__law_given (fun _ _ _ _ _ _ => bind3 fun _ _ _ => rfl) sc_law_given len3 fun vs H Q E ⟨v, u, m, e, h⟩ cdv A outer s hr => ?_
  subst e
  have hu := hu_of hr
  refine ⟨_, PSs.nox (pss_cons (ps_set (i := 3) sc_law_given.nd rfl (Or.inl rfl) (pe_ix ix_list (pe_lst (pa_cons pe_int (pa_cons pe_int (pa_cons pe_int (pa_cons pe_int (pa_cons pe_int (pa_cons pe_int (pa_cons pe_int (pa_cons pe_int (pa_cons pe_int (pa_cons pe_int (pa_cons pe_int (pa_cons pe_int pa_nil))))))))))))) (pe_op op_mod (pv 2) pe_int) (fun _ _ => rfl)))
    (pss_cons (ps_set (i := 4) sc_law_given.nd rfl (Or.inl rfl) (pe_ix ix_list (pv 1) (pe_op op_mod (pe_op op_fdiv (pv 2) pe_int) pe_int) (fun _ _ => rfl)))
    (pss_cons (ps_set (i := 5) sc_law_given.nd rfl (Or.inl rfl) (pe_op op_fdiv (pv 2) pe_int))
    (pss_cons (ps_set (i := 6) sc_law_given.nd rfl (Or.inl rfl) (pe_ix ix_list (pe_lst (pa_cons pe_str (pa_cons pe_str (pa_cons pe_str (pa_cons pe_non (pa_cons pe_int (pa_cons (pe_lst (pa_cons pe_str pa_nil)) (pa_cons pe_str (pa_cons pe_str (pa_cons pe_bl (pa_cons pe_dnewK pa_nil))))))))))) (pe_op op_mod (pv 5) pe_int) (fun _ _ => rfl)))
    (pss_cons (ps_set (i := 7) sc_law_given.nd rfl (Or.inl rfl) (pe_ix ix_list (pe_lst (pa_cons pe_non (pa_cons pe_bl (pa_cons pe_str (pa_cons (pe_un un_neg pe_int) (pa_cons pe_int (pa_cons (pe_lst (pa_cons pe_int pa_nil)) (pa_cons pe_bl (pa_cons (pe_tup pa_nil) pa_nil))))))))) (pe_op op_mod (pe_op op_fdiv (pv 5) pe_int) pe_int) (fun _ _ => rfl)))
    (pss_cons (ps_set (i := 8) sc_law_given.nd rfl (Or.inl rfl) (pe_op op_mod (pe_op op_fdiv (pv 5) pe_int) pe_int))
    (pss_cons (ps_if (pt_cmpR op_eq (pv 3) pe_int (nomark _)) (pss_one (ps_set (i := 9) sc_law_given.nd rfl (Or.inl rfl) (pe_lst (pa_cons (pv 4) (pa_cons (pe_op op_add pe_int (pe_op op_mod (pv 5) pe_int)) (pa_cons (pe_op op_mod (pe_op op_fdiv (pv 5) pe_int) pe_int) pa_nil)))))) (pss_one (ps_if (pt_cmpR op_eq (pv 3) pe_int (nomark _)) (pss_one (ps_set (i := 9) sc_law_given.nd rfl (Or.inl rfl) (pe_lst (pa_cons (pv 4) (pa_cons (pe_ix ix_list (pv 1) (pe_op op_mod (pv 5) pe_int) (fun _ _ => rfl)) (pa_cons (pe_op op_add pe_int (pe_op op_mod (pe_op op_fdiv (pv 5) pe_int) pe_int)) pa_nil)))))) (pss_one (ps_if (pt_cmpR op_eq (pv 3) pe_int (nomark _)) (pss_one (ps_set (i := 9) sc_law_given.nd rfl (Or.inl rfl) (pe_lst (pa_cons (pv 4) (pa_cons (pe_ca (ok_law_days T 3) hr (by decide) rfl pass0 (pa_cons (pe_op op_fdiv (pv 5) pe_int) (pa_cons pe_int pa_nil))) pa_nil))))) (pss_one (ps_if (pt_cmpR op_eq (pv 3) pe_int (nomark _)) (pss_cons (ps_set (i := 10) sc_law_given.nd rfl (Or.inl rfl) (pe_lst (pa_cons (pe_lst (pa_cons pe_int pa_nil)) (pa_cons (pe_lst (pa_cons pe_int (pa_cons pe_int pa_nil))) (pa_cons (pe_lst (pa_cons pe_int (pa_cons pe_int (pa_cons pe_int pa_nil)))) (pa_cons (pe_lst (pa_cons pe_int (pa_cons pe_int (pa_cons pe_int (pa_cons pe_int (pa_cons pe_int (pa_cons pe_int pa_nil))))))) (pa_cons (pe_lst (pa_cons pe_int pa_nil)) (pa_cons (pe_lst pa_nil) (pa_cons (pe_lst (pa_cons pe_int (pa_cons pe_int pa_nil))) (pa_cons (pe_lst (pa_cons pe_int (pa_cons pe_int pa_nil))) (pa_cons (pe_lst (pa_cons pe_int pa_nil)) (pa_cons (pe_lst (pa_cons pe_int pa_nil)) (pa_cons (pe_tup (pa_cons pe_int (pa_cons pe_int pa_nil))) (pa_cons (pe_lst (pa_cons pe_bl pa_nil)) (pa_cons pe_non pa_nil)))))))))))))))
    (pss_one (ps_set (i := 9) sc_law_given.nd rfl (Or.inl rfl) (pe_lst (pa_cons (pv 4) (pa_cons (pe_op op_mod (pv 5) pe_int) (pa_cons (pe_op op_add pe_int (pe_op op_mod (pe_op op_fdiv (pv 5) pe_int) pe_int)) (pa_cons (pe_ix ix_list (pv 10) (pe_op op_mod (pe_op op_fdiv (pv 5) pe_int) pe_int) (fun _ _ => rfl)) pa_nil)))))))) (pss_cons (ps_set (i := 11) sc_law_given.nd rfl (Or.inl rfl) (pe_callTy (call_list_dK rfl) rfl T.f_list (by decide +kernel) (pa_cons (pe_dget hu (pv 0) pe_str (fun _ _ => rfl)) pa_nil)))
    (pss_cons (ps_set (i := 9) sc_law_given.nd rfl (Or.inl rfl) (pe_lst (pa_cons (pv 4) (pa_cons (pe_ix ix_list (pe_op op_cat (pe_callTy (call_list_dK rfl) rfl T.f_list (by decide +kernel) (pa_cons (pe_dget hu (pv 0) pe_str (fun _ _ => rfl)) pa_nil)) (pv 1)) (pe_op op_mod (pv 5) pe_int) (fun _ _ => rfl)) (pa_cons (pe_lst pa_nil) pa_nil)))))
    (pss_cons (ps_if (pt_cmpR op_lt (pe_callB call_len_seq rfl T.f_len (by decide +kernel) (pa_cons (pv 11) pa_nil)) pe_int (nomark _)) (pss_one (ps_ret (pe_tup (pa_cons pe_int (pa_cons (pe_lst (pa_cons (pv 4) (pa_cons (pe_op op_add pe_int (pe_op op_mod (pv 5) pe_int)) (pa_cons (pe_op op_mod (pe_op op_fdiv (pv 5) pe_int) pe_int) pa_nil)))) pa_nil))))) pss_nil)
    (pss_one (ps_asg (pe_ca (ok_law_calls T) hr (by decide) rfl pass0 (pa_cons (pv 5) (pa_cons (pv 11) (pa_cons (pe_op op_add pe_int (pe_op op_mod (pe_op op_fdiv (pv 5) pe_int) pe_int)) pa_nil)))) (pg_sub (pv 9) pe_int set_list)))))))))))))
    (pss_cons (ps_if (PW.pt (pw_and (pt_cmpR op_lt (pv 8) pe_int (nomark _)) (pw_and1 (pt_cmpR op_lt (pv 8) (pe_op op_sub (pe_callB call_len_seq rfl T.f_len (by decide +kernel) (pa_cons (pv 9) pa_nil)) (pe_callTy call_int1 rfl T.f_int (by decide +kernel) (pa_cons (pe_cmpR op_eq (pv 3) pe_int (nomark _)) pa_nil))) (nomark _))))) (pss_cons (ps_set (i := 12) sc_law_given.nd rfl (Or.inl rfl) (pe_or (pe_cmpR op_eq (pv 8) pe_int (nomark _)) (pe_one (pe_and (pe_cmpR op_eq (pv 8) pe_int (nomark _)) (pe_one (pe_cmpR op_in_seq (pv 3) (pe_tup (pa_cons pe_int (pa_cons pe_int pa_nil))) rfl))))))
    (pss_one (ps_asg (pe_ix ix_list (pe_lst (pa_cons (pv 7) (pa_cons (pv 6) pa_nil))) (pe_callTy call_int1 rfl T.f_int (by decide +kernel) (pa_cons (pv 12) pa_nil)) (fun _ _ => rfl)) (pg_sub (pv 9) (pv 8) set_list)))) pss_nil)
    (pss_one (ps_ret (pe_tup (pa_cons (pv 3) (pa_cons (pv 9) pa_nil))))))))))))), ?_⟩
  obtain ⟨M, W, A, nl, names, num, ks, kr, rfl, hW, rfl, hnl, hn10, hnv, rfl, h0, h1, hM, hks, hkr, S, eS, hSn, hS8, hSv, R, eR, hRv, hR6, q⟩ := h
  refine seq_hide fun U1 hU1 => ?_
  walk_at "ws"
  refine ⟨by decide, ?_⟩
  walk_at "al"
  rename_i p1 hp1 H1 e1 g1
  refine ⟨by decide, ?_⟩
  obtain ⟨k, hk, hat⟩ := ix_map [0, 0, 0, 0, 1, 1, 2, 2, 3, 4, 4, 2] V.int (i := num % 12) (by omega) (by show num % 12 < 12; omega)
  have hk4 : 0 ≤ k ∧ k ≤ 4 := (show ∀ x ∈ ([0, 0, 0, 0, 1, 1, 2, 2, 3, 4, 4, 2] : List Int), 0 ≤ x ∧ x ≤ 4 by decide) k hk
  refine ⟨p1, _, _, _, rfl, rfl, SqL.of g1, hat, ?_⟩
  subst hU1
  refine seq_hide fun U2 hU2 => ?_
  walk_at "ws"
  refine ⟨⟨by decide, by decide⟩, by decide, ?_⟩
  obtain ⟨nm, hnm, hat2⟩ := ix_map names V.str (i := num / 12 % 10) (by omega) (by rw [hn10]; omega)
  refine ⟨nl, _, _, _, rfl, rfl, SqL.of (e1 _ _ hnl), hat2, ?_⟩
  have hnmv := hnv nm hnm
  subst hU2
  refine seq_hide fun U3 hU3 => ?_
  walk_at "ws"
  refine ⟨⟨by decide, by decide⟩, ?_⟩
  have hmo : 0 ≤ num / 120 ∧ num / 120 < 756246 := by omega
  generalize num / 120 = mo at hmo ⊢
  subst hU3
  refine seq_hide fun U4 hU4 => ?_
  walk_at "ws"
  refine ⟨by decide, ?_⟩
  walk_at "al"
  rename_i a1 ha1 H2 e2 g2
  walk_at "al"
  rename_i a2 ha2 H3 e3 g3
  refine ⟨by decide, ?_⟩
  walk_at "al"
  rename_i p2 hp2 H4 e4 g4
  refine ⟨by decide, ?_⟩
  have e14 := e1.trans (e2.trans (e3.trans e4))
  have hM1 := hM.up e1
  have hM2 := hM1.up e2
  have o1 : Av K (cutM M H4) (.ref a1) (.list [.str "a"]) := .dp (Dp.newL (hM1.cut ha1 (e4 _ _ (e3 _ _ g2)) (fun _ z => nomatch z)) (.cons (.str _) .nil)) (by decide +kernel)
  have o2 : Av K (cutM M H4) (.ref a2) (.dict []) := .dic (hM2.cut ha2 (e4 _ _ g3) (fun _ z => nomatch z))
  obtain ⟨on, hon, hat4⟩ := ix_any [V.str "", .str "A", .str "abcdefghi", .non, .int 5, .ref a1, .str "a b", .str "a1", .bl true, .ref a2] (i := mo % 10) (by omega) (by show mo % 10 < 10; omega)
  refine ⟨p2, _, _, on, rfl, rfl, SqL.of g4, hat4, ?_⟩
  have hod : ∃ d, Av K (cutM M H4) on d := by
    simp only [List.mem_cons, List.not_mem_nil, or_false] at hon
    rcases hon with rfl | rfl | rfl | rfl | rfl | rfl | rfl | rfl | rfl | rfl
    · exact ⟨_, .dp (.str _) (by decide +kernel)⟩
    · exact ⟨_, .dp (.str _) (by decide +kernel)⟩
    · exact ⟨_, .dp (.str _) (by decide +kernel)⟩
    · exact ⟨_, .dp .non rfl⟩
    · exact ⟨_, .dp (.int _) rfl⟩
    · exact ⟨_, o1⟩
    · exact ⟨_, .dp (.str _) (by decide +kernel)⟩
    · exact ⟨_, .dp (.str _) (by decide +kernel)⟩
    · exact ⟨_, .dp (.bl _) rfl⟩
    · exact ⟨_, o2⟩
  obtain ⟨dn, hdn⟩ := hod
  clear hon hat4 o1 o2 hat hat2
  subst hU4
  refine seq_hide fun U5 hU5 => ?_
  walk_at "ws"
  refine ⟨by decide, ?_⟩
  walk_at "al"
  rename_i a3 ha3 H5 e5 g5
  refine ⟨by decide, ?_⟩
  walk_at "al"
  rename_i a4 ha4 H6 e6 g6
  refine ⟨by decide, ?_⟩
  walk_at "al"
  rename_i p3 hp3 H7 e7 g7
  refine ⟨⟨by decide, by decide⟩, by decide, ?_⟩
  have e47 := e5.trans (e6.trans e7)
  have e17 := e14.trans e47
  have hM4 := hM.up e14
  have hM5 := hM4.up e5
  have o3 : Dp K (cutM M H7) (.ref a3) (.list [.int 1]) := Dp.newL (hM4.cut ha3 (e7 _ _ (e6 _ _ g5)) (fun _ z => nomatch z)) (.cons (.int _) .nil)
  have o4 : Dp K (cutM M H7) (.ref a4) (.tuple []) := Dp.newT (hM5.cut ha4 (e7 _ _ g6) (fun _ z => nomatch z)) .nil
  obtain ⟨ov, hov, hat5⟩ := ix_any [V.non, .bl true, .str "5", .int (-1), .int 10001, .ref a3, .bl false, .ref a4] (i := mo / 10 % 8) (by omega) (by show mo / 10 % 8 < 8; omega)
  refine ⟨p3, _, _, ov, rfl, rfl, SqL.of g7, hat5, ?_⟩
  have hod : ∃ d, Dp K (cutM M H7) ov d ∧ okD d = true ∧ (isD "tuple" d = true → d = .tuple []) := by
    simp only [List.mem_cons, List.not_mem_nil, or_false] at hov
    rcases hov with rfl | rfl | rfl | rfl | rfl | rfl | rfl | rfl
    · exact ⟨_, .non, rfl, fun h => by rw [isD_tuple_none] at h; cases h⟩
    · exact ⟨_, .bl _, rfl, fun h => by rw [isD_tuple_bool] at h; cases h⟩
    · exact ⟨_, .str _, by decide +kernel, fun h => by rw [isD_tuple_str] at h; cases h⟩
    · exact ⟨_, .int _, rfl, fun h => by rw [isD_tuple_int] at h; cases h⟩
    · exact ⟨_, .int _, rfl, fun h => by rw [isD_tuple_int] at h; cases h⟩
    · exact ⟨_, o3, by decide +kernel, fun h => by rw [isD_tuple_list] at h; cases h⟩
    · exact ⟨_, .bl _, rfl, fun h => by rw [isD_tuple_bool] at h; cases h⟩
    · exact ⟨_, o4, by decide +kernel, fun _ => rfl⟩
  obtain ⟨dv, hdvd, hdvo, hdvt⟩ := hod
  have hdv : Av K (cutM M H7) ov dv := .dp hdvd hdvo
  have hdn := hdn.up (cutM_up e47)
  clear hov hat5 o3 o4
  subst hU5
  refine seq_hide fun U6 hU6 => ?_
  walk_at "ws"
  refine ⟨⟨by decide, by decide⟩, by decide, ?_⟩
  have hatb : 0 ≤ mo / 80 % 9 := by omega
  generalize mo / 80 % 9 = at_ at hatb ⊢
  subst hU6
  have hM7 := hM.up e17
  have nmA : ∀ L : Hp, Av K L (V.str nm) (.str nm) := fun L => .dp (.str nm) (okD_name hnmv)
  clear hM1 hM2 hM4 hM5 e2 e3 e4 e5 e6 e7 e14 e47 g1 g2 g3 g4 g5 g6 g7
  refine seq_hide fun U hU => ?_
  have tail : ∀ (k : Int) (g : Addr) (xs : List V) (o10 o11 : Option V) (H8 : Hp), 0 ≤ k → k ≤ 4 → H8 g = some (.lst xs) → xs.length ≤ 4 →
      (∀ a H', Same H8 H' → H' a = some (.tup [.int k, .ref g]) → Q (.ref a) H') →
      (∀ (i : Nat) (v : V), i < 3 → (i : Int) < (xs.length : Int) - (if k = 4 then 1 else 0) → v = (if i = 0 ∨ (i = 1 ∧ (k = 1 ∨ k = 4)) then on else ov) →
        ∀ a H', SameB g H8 H' → H' g = some (.lst (xs.set i v)) → H' a = some (.tup [.int k, .ref g]) → Q (.ref a) H') →
      U (endsOf Q) [some (.ref W), some (.ref nl), some (.int num), some (.int k), some (.str nm), some (.int mo), some on, some ov, some (.int at_), some (.ref g), o10, o11, none] H8 := by
    intro k g xs o10 o11 H8 k0 k4 hg hxl qa qb
    subst hU
    have ret : ∀ (H' : Hp), (∀ a H2, Same H' H2 → H2 a = some (.tup [.int k, .ref g]) → Q (.ref a) H2) → (2 ≤ sizeLine ∧ ∀ p, H' p = none → Q (.ref p) (upd H' p (.tup [.int k, .ref g]))) := by
      intro H' h
      refine ⟨by decide, ?_⟩
      walk_at "al"
      rename_i a ha H2 e2 g2
      exact h a H2 e2 g2
    refine seq_hide fun V1 hV1 => ?_
    walk_at "ws"
    refine ite2 (fun c3 => ?_) fun c3 => ?_
    · refine ⟨g, xs, rfl, .inl (SqL.of hg), ?_⟩
      refine .inr ⟨_, rfl, ?_⟩
      walk_at "ws"
      refine ite2 (fun cn => ?_) fun cn => ?_
      · have pick : ∀ (b : Bool) (H9 : Hp) (i : Nat), Same H8 H9 → at_ = (i : Int) → i < 3 → (i : Int) < (xs.length : Int) - (if k = 4 then 1 else 0) → (b = true ↔ (i = 0 ∨ (i = 1 ∧ (k = 1 ∨ k = 4)))) →
            2 ≤ sizeLine ∧ ∀ p, H9 p = none → rIxL K (.ref p) (.int (if b = true then 1 else 0)) (upd H9 p (.lst [ov, on])) fun x H1 => L2.rSetL (.ref g) (.int at_) x H1 fun H3 =>
              V1 { nx := fun x H' => Q V.non H', rt := Q } [some (.ref W), some (.ref nl), some (.int num), some (.int k), some (.str nm), some (.int mo), some on, some ov, some (.int at_), some (.ref g), o10, o11, some (.bl b)] H3 := by
          intro b H9 i e89 hi i3 il hb
          refine ⟨by decide, ?_⟩
          intro p hp
          obtain ⟨e9, g9⟩ := alloc1 (o := .lst [ov, on]) hp rfl
          generalize upd H9 p _ = H10 at *
          have il2 : i < xs.length := by
            split at il <;> omega
          have fin : ∀ v, v = (if i = 0 ∨ (i = 1 ∧ (k = 1 ∨ k = 4)) then on else ov) → L2.rSetL (.ref g) (.int at_) v H10 fun H3 =>
              V1 { nx := fun x H' => Q V.non H', rt := Q } [some (.ref W), some (.ref nl), some (.int num), some (.int k), some (.str nm), some (.int mo), some on, some ov, some (.int at_), some (.ref g), o10, o11, some (.bl b)] H3 := by
            intro v hv
            refine ⟨g, xs, at_, i, rfl, rfl, e9 _ _ (e89 _ _ hg), by rw [hi]; exact ixN_nat il2, ?_⟩
            subst hV1
            walk_at "ws"
            refine ret _ fun a H' e h => ?_
            exact qb i v i3 il hv a H' ((sameB_of (e89.trans e9)).trans fun b o _ h => e b o h) (e _ _ upd_same) h
          cases b with
          | true =>
            refine ⟨p, _, 1, on, rfl, rfl, SqL.of g9, atI_nat (j := 1) rfl, fin on ?_⟩
            rw [if_pos (hb.mp rfl)]
          | false =>
            refine ⟨p, _, 0, ov, rfl, rfl, SqL.of g9, atI_nat (j := 0) rfl, fin ov ?_⟩
            rw [if_neg fun z => Bool.noConfusion (hb.mpr z)]
        have cn' : ∀ i : Nat, at_ = (i : Int) → (i : Int) < (xs.length : Int) - (if k = 4 then 1 else 0) := by
          intro i hi
          rw [← hi]
          by_cases c4 : k = 4
          · rw [if_pos c4]
            simpa [c4] using cn
          · rw [if_neg c4]
            simpa [c4] using cn
        refine ite2 (fun c0 => ?_) fun c0 => ?_
        · obtain ⟨h1, h2⟩ := pick true H8 0 (Same.refl _) (by omega) (by decide) (cn' 0 (by omega)) (by simp)
          exact ⟨h1, fun p hp => .inr ⟨true, rfl, h2 p hp⟩⟩
        refine ite2 (fun c1 => ?_) fun c1 => ?_
        · refine ⟨by decide, ?_⟩
          walk_at "al"
          rename_i tp htp H9 e9 g9
          refine ⟨tp, _, rfl, .inr (SqT.of g9), rfl, rfl, ?_⟩
          have hin : inV (.int k) [.int 1, .int 4] = decide (k = 1 ∨ k = 4) := by
            have := inV_ints k [1, 4]
            simpa using this
          rw [hin]
          obtain ⟨h1, h2⟩ := pick (decide (k = 1 ∨ k = 4)) H9 1 e9 (by omega) (by decide) (cn' 1 (by omega)) (by simp)
          exact ⟨h1, fun p hp => .inr ⟨_, rfl, h2 p hp⟩⟩
        · obtain ⟨h1, h2⟩ := pick false H8 2 (Same.refl _) (by omega) (by decide) (cn' 2 (by omega)) (by simp)
          exact ⟨h1, fun p hp => .inr ⟨false, rfl, h2 p hp⟩⟩
      · subst hV1
        walk_at "ws"
        exact ret H8 qa
    · subst hV1
      walk_at "ws"
      exact ret H8 qa
  have gOk : ∀ {g : Addr} {H8 H' : Hp}, H7 g = none → Same H7 H8 → SameB g H8 H' → Same H H' ∧ Same (cutM M H7) (cutM M H') := fun hg e sb => by
    have e7 := sameB_new hg e sb
    exact ⟨e17.trans e7, cutM_up e7⟩
  have intA : ∀ (L : Hp) (i : Int), Av K L (V.int i) (.int i) := fun L i => .dp (.int i) rfl
  have noB : ∀ {g : Addr} {H8 H' : Hp}, Same H8 H' → SameB g H8 H' := fun e b o _ h => e b o h
  have hk : k = 0 ∨ k = 1 ∨ k = 2 ∨ k = 3 ∨ k = 4 := by omega
  rcases hk with rfl | rfl | rfl | rfl | rfl
  · walk_at "ws"
    refine ⟨by decide, ⟨by decide, by decide⟩, by decide, by decide, ?_⟩
    walk_at "al"
    rename_i g hg H8 e8 g8
    refine tail 0 g _ _ _ H8 (by decide) (by decide) g8 (by show 3 ≤ 4; decide) (fun a H' e h => ?_) (fun i v i3 il hv a H' sb hgl h => ?_)
    · obtain ⟨s1, s2⟩ := gOk hg e8 (noB e)
      exact q a g 0 H' s1 h (.inl ⟨.inl rfl, _, _, _, _, _, _, hM7.cut hg (e _ _ g8) (fun _ z => nomatch z), nmA _, intA _ _, intA _ _⟩)
    · obtain ⟨s1, s2⟩ := gOk hg e8 sb
      have hc := hM7.cut hg hgl (fun _ z => nomatch z)
      have hi : i = 0 ∨ i = 1 ∨ i = 2 := by omega
      rcases hi with rfl | rfl | rfl
      · rw [if_pos (.inl rfl)] at hv
        subst hv
        exact q a g 0 H' s1 h (.inl ⟨.inl rfl, _, _, _, _, _, _, hc, hdn.up s2, intA _ _, intA _ _⟩)
      · rw [if_neg (by decide)] at hv
        subst hv
        exact q a g 0 H' s1 h (.inl ⟨.inl rfl, _, _, _, _, _, _, hc, nmA _, hdv.up s2, intA _ _⟩)
      · rw [if_neg (by decide)] at hv
        subst hv
        exact q a g 0 H' s1 h (.inl ⟨.inl rfl, _, _, _, _, _, _, hc, nmA _, intA _ _, hdv.up s2⟩)
  · walk_at "ws"
    refine ⟨by decide, ?_⟩
    obtain ⟨n2, hn2, hat2⟩ := ix_map names V.str (i := mo % 10) (by omega) (by rw [hn10]; omega)
    refine ⟨nl, _, _, _, rfl, rfl, SqL.of (e17 _ _ hnl), hat2, ?_⟩
    have nmB : ∀ L : Hp, Av K L (V.str n2) (.str n2) := fun L => .dp (.str n2) (okD_name (hnv n2 hn2))
    walk_at "ws"
    refine ⟨⟨by decide, by decide⟩, by decide, by decide, ?_⟩
    walk_at "al"
    rename_i g hg H8 e8 g8
    refine tail 1 g _ _ _ H8 (by decide) (by decide) g8 (by show 3 ≤ 4; decide) (fun a H' e h => ?_) (fun i v i3 il hv a H' sb hgl h => ?_)
    · obtain ⟨s1, s2⟩ := gOk hg e8 (noB e)
      exact q a g 1 H' s1 h (.inl ⟨.inr rfl, _, _, _, _, _, _, hM7.cut hg (e _ _ g8) (fun _ z => nomatch z), nmA _, nmB _, intA _ _⟩)
    · obtain ⟨s1, s2⟩ := gOk hg e8 sb
      have hc := hM7.cut hg hgl (fun _ z => nomatch z)
      have hi : i = 0 ∨ i = 1 ∨ i = 2 := by omega
      rcases hi with rfl | rfl | rfl
      · rw [if_pos (.inl rfl)] at hv
        subst hv
        exact q a g 1 H' s1 h (.inl ⟨.inr rfl, _, _, _, _, _, _, hc, hdn.up s2, nmB _, intA _ _⟩)
      · rw [if_pos (by decide)] at hv
        subst hv
        exact q a g 1 H' s1 h (.inl ⟨.inr rfl, _, _, _, _, _, _, hc, nmA _, hdn.up s2, intA _ _⟩)
      · rw [if_neg (by decide)] at hv
        subst hv
        exact q a g 1 H' s1 h (.inl ⟨.inr rfl, _, _, _, _, _, _, hc, nmA _, nmB _, hdv.up s2⟩)
  · walk_at "ws"
    refine ⟨⟨by decide, by decide⟩, ?_⟩
    refine ⟨M, _, 2, hM7, rfl, rfl, rfl, by omega, by omega, fun t H8 e8 d8 => ?_⟩
    refine ⟨by decide, ?_⟩
    walk_at "al"
    rename_i g hg H9 e9 g9
    obtain ⟨dok, dh⟩ := days_ok 2 (mo / 3)
    refine tail 2 g _ _ _ H9 (by decide) (by decide) g9 (by show 2 ≤ 4; decide) (fun a H' e h => ?_) (fun i v i3 il hv a H' sb hgl h => ?_)
    · obtain ⟨s1, s2⟩ := gOk (e8.free hg) (e8.trans e9) (noB e)
      exact q a g 2 H' s1 h (.inr (.inl ⟨rfl, _, _, _, hM7.cut (e8.free hg) (e _ _ g9) (fun _ z => nomatch z), nmA _, .inl ⟨_, (d8.up (cutM_up e9)).up (cutM_up e), dok, dh⟩⟩))
    · obtain ⟨s1, s2⟩ := gOk (e8.free hg) (e8.trans e9) sb
      have hc := hM7.cut (e8.free hg) hgl (fun _ z => nomatch z)
      have il : i < 2 := by
        have : (i : Int) < 2 - 0 := il
        omega
      have hi : i = 0 ∨ i = 1 := by omega
      rcases hi with rfl | rfl
      · rw [if_pos (.inl rfl)] at hv
        subst hv
        exact q a g 2 H' s1 h (.inr (.inl ⟨rfl, _, _, _, hc, hdn.up s2, .inl ⟨_, d8.up (cutM_up (sameB_new hg e9 sb)), dok, dh⟩⟩))
      · rw [if_neg (by decide)] at hv
        subst hv
        exact q a g 2 H' s1 h (.inr (.inl ⟨rfl, _, _, _, hc, nmA _, .inr ⟨_, hdvd.up s2, hdvo, hdvt⟩⟩))
  · walk_at "ws"
    refine ⟨by decide, ?_⟩
    walk_at "al"
    rename_i b0 hb0 I0 f0 k0
    refine ⟨by decide, ?_⟩
    walk_at "al"
    rename_i b1 hb1 I1 f1 k1
    refine ⟨by decide, ?_⟩
    walk_at "al"
    rename_i b2 hb2 I2 f2 k2
    refine ⟨by decide, ?_⟩
    walk_at "al"
    rename_i b3 hb3 I3 f3 k3
    refine ⟨by decide, ?_⟩
    walk_at "al"
    rename_i b4 hb4 I4 f4 k4
    refine ⟨by decide, ?_⟩
    walk_at "al"
    rename_i b5 hb5 I5 f5 k5
    refine ⟨by decide, ?_⟩
    walk_at "al"
    rename_i b6 hb6 I6 f6 k6
    refine ⟨by decide, ?_⟩
    walk_at "al"
    rename_i b7 hb7 I7 f7 k7
    refine ⟨by decide, ?_⟩
    walk_at "al"
    rename_i b8 hb8 I8 f8 k8
    refine ⟨by decide, ?_⟩
    walk_at "al"
    rename_i b9 hb9 I9 f9 k9
    refine ⟨by decide, ?_⟩
    walk_at "al"
    rename_i b10 hb10 I10 f10 k10
    refine ⟨by decide, ?_⟩
    walk_at "al"
    rename_i b11 hb11 I11 f11 k11
    refine ⟨by decide, ?_⟩
    walk_at "al"
    rename_i sl hsl I12 f12 k12
    have hM0 := hM7
    have m0 := hM7.up f0
    have m1 := m0.up f1
    have m2 := m1.up f2
    have m3 := m2.up f3
    have m4 := m3.up f4
    have m5 := m4.up f5
    have m6 := m5.up f6
    have m7 := m6.up f7
    have m8 := m7.up f8
    have m9 := m8.up f9
    have m10 := m9.up f10
    have m11 := m10.up f11
    have t12 : Same I12 I12 := Same.refl _
    have t11 : Same I11 I12 := f12.trans t12
    have t10 : Same I10 I12 := f11.trans t11
    have t9 : Same I9 I12 := f10.trans t10
    have t8 : Same I8 I12 := f9.trans t9
    have t7 : Same I7 I12 := f8.trans t8
    have t6 : Same I6 I12 := f7.trans t7
    have t5 : Same I5 I12 := f6.trans t6
    have t4 : Same I4 I12 := f5.trans t5
    have t3 : Same I3 I12 := f4.trans t4
    have t2 : Same I2 I12 := f3.trans t3
    have t1 : Same I1 I12 := f2.trans t2
    have t0 : Same I0 I12 := f1.trans t1
    have tz : Same H7 I12 := f0.trans t0
    have w0 : AvL K (cutM M I12) (.ref b0) (.list [.int 1]) := ⟨.dp (Dp.newL (hM7.cut hb0 (t0 _ _ k0) (fun _ z => nomatch z)) (.cons (.int _) .nil)) (by decide +kernel), fun ds e d hd => by cases e; revert d; decide +kernel⟩
    have w1 : AvL K (cutM M I12) (.ref b1) (.list [.int 1, .int 2]) := ⟨.dp (Dp.newL (m0.cut hb1 (t1 _ _ k1) (fun _ z => nomatch z)) (.cons (.int _) (.cons (.int _) .nil))) (by decide +kernel), fun ds e d hd => by cases e; revert d; decide +kernel⟩
    have w2 : AvL K (cutM M I12) (.ref b2) (.list [.int 2, .int 5, .int 6]) := ⟨.dp (Dp.newL (m1.cut hb2 (t2 _ _ k2) (fun _ z => nomatch z)) (.cons (.int _) (.cons (.int _) (.cons (.int _) .nil)))) (by decide +kernel), fun ds e d hd => by cases e; revert d; decide +kernel⟩
    have w3 : AvL K (cutM M I12) (.ref b3) (.list [.int 1, .int 2, .int 3, .int 4, .int 5, .int 6]) := ⟨.dp (Dp.newL (m2.cut hb3 (t3 _ _ k3) (fun _ z => nomatch z)) (.cons (.int _) (.cons (.int _) (.cons (.int _) (.cons (.int _) (.cons (.int _) (.cons (.int _) .nil))))))) (by decide +kernel), fun ds e d hd => by cases e; revert d; decide +kernel⟩
    have w4 : AvL K (cutM M I12) (.ref b4) (.list [.int 3]) := ⟨.dp (Dp.newL (m3.cut hb4 (t4 _ _ k4) (fun _ z => nomatch z)) (.cons (.int _) .nil)) (by decide +kernel), fun ds e d hd => by cases e; revert d; decide +kernel⟩
    have w5 : AvL K (cutM M I12) (.ref b5) (.list []) := ⟨.dp (Dp.newL (m4.cut hb5 (t5 _ _ k5) (fun _ z => nomatch z)) .nil) (by decide +kernel), fun ds e d hd => by cases e; revert d; decide +kernel⟩
    have w6 : AvL K (cutM M I12) (.ref b6) (.list [.int 2, .int 1]) := ⟨.dp (Dp.newL (m5.cut hb6 (t6 _ _ k6) (fun _ z => nomatch z)) (.cons (.int _) (.cons (.int _) .nil))) (by decide +kernel), fun ds e d hd => by cases e; revert d; decide +kernel⟩
    have w7 : AvL K (cutM M I12) (.ref b7) (.list [.int 4, .int 4]) := ⟨.dp (Dp.newL (m6.cut hb7 (t7 _ _ k7) (fun _ z => nomatch z)) (.cons (.int _) (.cons (.int _) .nil))) (by decide +kernel), fun ds e d hd => by cases e; revert d; decide +kernel⟩
    have w8 : AvL K (cutM M I12) (.ref b8) (.list [.int 0]) := ⟨.dp (Dp.newL (m7.cut hb8 (t8 _ _ k8) (fun _ z => nomatch z)) (.cons (.int _) .nil)) (by decide +kernel), fun ds e d hd => by cases e; revert d; decide +kernel⟩
    have w9 : AvL K (cutM M I12) (.ref b9) (.list [.int 7]) := ⟨.dp (Dp.newL (m8.cut hb9 (t9 _ _ k9) (fun _ z => nomatch z)) (.cons (.int _) .nil)) (by decide +kernel), fun ds e d hd => by cases e; revert d; decide +kernel⟩
    have w10 : AvL K (cutM M I12) (.ref b10) (.tuple [.int 1, .int 2]) := ⟨.dp (Dp.newT (m9.cut hb10 (t10 _ _ k10) (fun _ z => nomatch z)) (.cons (.int _) (.cons (.int _) .nil))) (by decide +kernel), fun ds e => by cases e⟩
    have w11 : AvL K (cutM M I12) (.ref b11) (.list [.bool true]) := ⟨.dp (Dp.newL (m10.cut hb11 (t11 _ _ k11) (fun _ z => nomatch z)) (.cons (.bl _) .nil)) (by decide +kernel), fun ds e d hd => by cases e; revert d; decide +kernel⟩
    have w12 : AvL K (cutM M I12) .non .none := ⟨.dp .non rfl, fun ds e => by cases e⟩
    refine ⟨by decide, ⟨by decide, by decide⟩, by decide, ⟨by decide, by decide⟩, by decide, ?_⟩
    obtain ⟨sv, hsv, hat3⟩ := ix_any [V.ref b0, V.ref b1, V.ref b2, V.ref b3, V.ref b4, V.ref b5, V.ref b6, V.ref b7, V.ref b8, V.ref b9, V.ref b10, V.ref b11, V.non] (i := mo / 3 % 13) (by omega) (by show mo / 3 % 13 < 13; omega)
    refine ⟨sl, _, _, sv, rfl, rfl, SqL.of k12, hat3, ?_⟩
    have hsd : ∃ d, AvL K (cutM M I12) sv d ∧ lenD d ≤ 6 := by
      simp only [List.mem_cons, List.not_mem_nil, or_false] at hsv
      rcases hsv with rfl | rfl | rfl | rfl | rfl | rfl | rfl | rfl | rfl | rfl | rfl | rfl | rfl
      · exact ⟨_, w0, by decide⟩
      · exact ⟨_, w1, by decide⟩
      · exact ⟨_, w2, by decide⟩
      · exact ⟨_, w3, by decide⟩
      · exact ⟨_, w4, by decide⟩
      · exact ⟨_, w5, by decide⟩
      · exact ⟨_, w6, by decide⟩
      · exact ⟨_, w7, by decide⟩
      · exact ⟨_, w8, by decide⟩
      · exact ⟨_, w9, by decide⟩
      · exact ⟨_, w10, by decide⟩
      · exact ⟨_, w11, by decide⟩
      · exact ⟨_, w12, by decide⟩
    obtain ⟨ds, hds, hdl⟩ := hsd
    clear w0 w1 w2 w3 w4 w5 w6 w7 w8 w9 w10 w11 w12 hsv hat3
    refine ⟨by decide, ?_⟩
    walk_at "al"
    rename_i g hg H8 e8 g8
    have avl : ∀ {H' : Hp}, SameB g H8 H' → AvL K (cutM M H') sv ds := fun sb => ⟨hds.1.up (cutM_up (sameB_new hg e8 sb)), hds.2⟩
    refine tail 3 g _ _ _ H8 (by decide) (by decide) g8 (by show 4 ≤ 4; decide) (fun a H' e h => ?_) (fun i v i3 il hv a H' sb hgl h => ?_)
    · obtain ⟨s1, s2⟩ := gOk (tz.free hg) (tz.trans e8) (noB e)
      exact q a g 3 H' s1 h (.inr (.inr (.inl ⟨rfl, _, _, _, _, _, _, _, _, hM7.cut (tz.free hg) (e _ _ g8) (fun _ z => nomatch z), nmA _, intA _ _, intA _ _, avl (noB e), hdl⟩)))
    · obtain ⟨s1, s2⟩ := gOk (tz.free hg) (tz.trans e8) sb
      have hc := hM7.cut (tz.free hg) hgl (fun _ z => nomatch z)
      have hi : i = 0 ∨ i = 1 ∨ i = 2 := by omega
      rcases hi with rfl | rfl | rfl
      · rw [if_pos (.inl rfl)] at hv
        subst hv
        exact q a g 3 H' s1 h (.inr (.inr (.inl ⟨rfl, _, _, _, _, _, _, _, _, hc, hdn.up s2, intA _ _, intA _ _, avl sb, hdl⟩)))
      · rw [if_neg (by decide)] at hv
        subst hv
        exact q a g 3 H' s1 h (.inr (.inr (.inl ⟨rfl, _, _, _, _, _, _, _, _, hc, nmA _, hdv.up s2, intA _ _, avl sb, hdl⟩)))
      · rw [if_neg (by decide)] at hv
        subst hv
        exact q a g 3 H' s1 h (.inr (.inr (.inl ⟨rfl, _, _, _, _, _, _, _, _, hc, nmA _, intA _ _, hdv.up s2, avl sb, hdl⟩)))
  · walk_at "ws"
    refine d_stops (hW.up e17) ?_
    refine ⟨A.s, ks, rfl, e17 _ _ hks, ?_⟩
    walk_at "al"
    rename_i l1 hl1 I1 f1 k1
    rw [keysV eS] at k1
    refine d_rules (hW.up (e17.trans f1)) ?_
    refine ⟨A.r, kr, rfl, f1 _ _ (e17 _ _ hkr), ?_⟩
    walk_at "al"
    rename_i l2 hl2 I2 f2 k2
    rw [keysV eR] at k2
    refine ⟨l2, nl, _, _, rfl, rfl, k2, f2 _ _ (f1 _ _ (e17 _ _ hnl)), ?_, ?_⟩
    · rw [List.length_map, List.length_map]
      exact Nat.le_trans (m := 16) (by omega) (by decide)
    walk_at "al"
    rename_i l3 hl3 I3 f3 k3
    refine ⟨by decide, ?_⟩
    rw [← List.map_append] at k3
    obtain ⟨rn, hrn, hat3⟩ := ix_map (R ++ names) V.str (i := mo % 6) (by omega) (by rw [List.length_append]; omega)
    refine ⟨l3, _, _, _, rfl, rfl, SqL.of k3, hat3, ?_⟩
    have rnv : isNameS rn = true := by
      rcases List.mem_append.mp hrn with h | h
      · exact hRv rn h
      · exact hnv rn h
    have rnA : ∀ L : Hp, Av K L (V.str rn) (.str rn) := fun L => .dp (.str rn) (okD_name rnv)
    refine ⟨by decide, ?_⟩
    walk_at "al"
    rename_i l4 hl4 I4 f4 k4
    refine ⟨by decide, ?_⟩
    walk_at "al"
    rename_i g hg I5 f5 g5
    have e75 : Same H7 I5 := f1.trans (f2.trans (f3.trans (f4.trans f5)))
    have k1' : I5 l1 = some (.lst (S.map V.str)) := f5 _ _ (f4 _ _ (f3 _ _ (f2 _ _ k1)))
    have hg7 : H7 g = none := f1.free (f2.free (f3.free (f4.free hg)))
    have hM5 : Live M I5 := hM7.up e75
    refine ⟨l1, S.map V.str, rfl, .inl (SqL.of k1'), ?_⟩
    rw [List.length_map]
    refine ite2 (fun c2 => ?_) fun c2 => ?_
    · refine ⟨by decide, ⟨by decide, by decide⟩, by decide, by decide, ?_⟩
      walk_at "al"
      rename_i g2 hg2 I6 f6 g6
      refine ⟨by decide, ?_⟩
      walk_at "al"
      rename_i a ha I7 f7 g7
      have e77 := e75.trans (f6.trans f7)
      exact q a g2 0 I7 (e17.trans e77) g7 (.inl ⟨.inl rfl, _, _, _, _, _, _, hM5.cut hg2 (f7 _ _ g6) (fun _ z => nomatch z), nmA _, intA _ _, intA _ _⟩)
    · refine ⟨⟨by decide, by decide⟩, by decide, ?_⟩
      have hLg : Live (g :: M) I5 := fun b hb => by
        rcases List.mem_cons.mp hb with rfl | hb
        · exact ⟨_, g5, fun _ z => nomatch z⟩
        · exact hM5 b hb
      refine ⟨g :: M, mo, l1, S, (2 + mo / 5 % 3).toNat, hLg, rfl, rfl, congrArg V.int (by omega), SqL.of k1', hSn, by omega, hS8, by omega, fun D cv cs H8 f8 hD gD hcv hcl hgo => ?_⟩
      have hDg : D ≠ g := (ne_of_none g5 hD).symm
      refine ⟨g, _, 2, 2, rfl, rfl, f8 _ _ g5, ixN_nat (show 2 < 3 by decide), ?_⟩
      have fin : ∀ {H' : Hp}, SameB g H8 H' → Same H H' ∧ Same (cutM M H7) (cutM M H') ∧ cutM M H' D = some (.lst cv) ∧ DpAll K (cutM M H') cv (cs.map callD) := fun {H'} sb => by
        have s7 : SameB g H7 H' := fun b o hb h => sb b o hb (f8 _ _ (e75 _ _ h))
        have s7' : Same H7 H' := fun b o h => s7 b o (ne_of_none h hg7) h
        refine ⟨e17.trans s7', cutM_up s7', cutM_get ((hM5).not hD) (sb _ _ hDg gD) (fun _ z => nomatch z), ?_⟩
        refine hcv.up (cutM_sub (fun b o hb h _ => sb b o (fun z => hb ?_) h) fun b hb => by simp [hb])
        simp [z]
      refine tail 4 g _ _ _ _ (by decide) (by decide) upd_same (by show 3 ≤ 4; decide) (fun a H' e h => ?_) (fun i v i3 il hv a H' sb hgl h => ?_)
      · obtain ⟨s1, s2, s3, s4⟩ := fin (sameB_upd.trans (noB e))
        have hc := hM7.cut hg7 (e _ _ upd_same) (fun _ z => nomatch z)
        exact q a g 4 H' s1 h (.inr (.inr (.inr ⟨rfl, _, _, D, _, _, cv, cs, hc, nmA _, rnA _, s3, s4, by omega, by omega, hgo⟩)))
      · obtain ⟨s1, s2, s3, s4⟩ := fin (sameB_upd.trans sb)
        have hc := hM7.cut hg7 hgl (fun _ z => nomatch z)
        have il : i < 2 := by
          have : (i : Int) < 3 - 1 := il
          omega
        have hi : i = 0 ∨ i = 1 := by omega
        rcases hi with rfl | rfl
        · rw [if_pos (.inl rfl)] at hv
          subst hv
          exact q a g 4 H' s1 h (.inr (.inr (.inr ⟨rfl, _, _, D, _, _, cv, cs, hc, hdn.up s2, rnA _, s3, s4, by omega, by omega, hgo⟩)))
        · rw [if_pos (by decide)] at hv
          subst hv
          exact q a g 4 H' s1 h (.inr (.inr (.inr ⟨rfl, _, _, D, _, _, cv, cs, hc, nmA _, hdn.up s2, s3, s4, by omega, by omega, hgo⟩)))
end
end K06
set_option maxHeartbeats 4000000
namespace K06
open PySem L2
local macro_rules | `(tactic| walk_at "ws") => `(tactic| try simp only [w_var0, w_varS, w_c, w_ret, w_retN, w_next, w_seq, w_asg, w_gn, w_drop, w_if, w_and, w_or, w_not, ex_bl, ex_int, ex_two, w_B, w_test, w_andV, w_orV, w_notV, w_ife, w_op, w_un, w_chain, w_nil, w_cons, w_cb, w_ca, w_lst, w_tup, w_I0, w_I, w_U, w_eqI, w_neI, w_eqS, w_neS,
  w_isN0, w_notN0, w_fld, w_sfld, w_me, w_ma, w_dget, w_din, w_dnotin, w_dput, w_slice, w_part, w_nopart, w_bm, w_bm0, w_par, w_lc, w_for, w_iList, w_iTup, w_iStr, w_iRng1, w_iZip, w_iEnum, w_tM1, w_dnewK, nn_str, nn_some, nn_none, nn_ref, w_pairN, w_pairC, w_disp, w_meD, w_maxD, w_bare, w_gtup, w_glst, w_gcons, w_gnil, w_gsub, cx_K, cx_K',
  L2.start, endsOf, List.map_cons, List.map_nil, List.length_cons, List.length_nil, List.cons_append, List.nil_append, Nat.zero_add, Nat.reduceAdd, Nat.reduceSub, List.replicate_succ, List.replicate_zero, List.set_cons_zero, List.set_cons_succ, List.set_nil,
  sp0_eq, sp1_eq, sp2_eq, sp3_eq, sp4_eq, sp5_eq, if_true, Bool.false_eq_true, if_false, decide_eq_true_eq, Bool.not_eq_true', decide_eq_false_iff_not, Bool.not_true, Bool.not_false, Bool.not_eq_false', isD_int_none, isD_int_bool, isD_int_int, isD_int_str, isD_int_list, isD_int_tuple, isD_int_dict, isD_bool_none, isD_bool_bool, isD_bool_int, isD_bool_str, isD_bool_list, isD_bool_tuple, isD_bool_dict, isD_str_none, isD_str_bool, isD_str_int, isD_str_str, isD_str_list, isD_str_tuple, isD_str_dict, isD_list_none, isD_list_bool, isD_list_int, isD_list_str, isD_list_list, isD_list_tuple, isD_list_dict, isD_tuple_none, isD_tuple_bool, isD_tuple_int, isD_tuple_str, isD_tuple_list, isD_tuple_tuple, isD_tuple_dict])
local macro_rules | `(tactic| walk_at "al") => `(tactic| (intro p hp; generalize hH : upd _ _ _ = H2; obtain ⟨e2, g2⟩ := alloc1 hp hH.symm; clear hH))
/-! ### what is said of a call -/
def wordTab : List (Str × Str) := [("BadClock", "clock"), ("BadRule", "days"), ("TooMany", "many"), ("BadName", "name"), ("Twice", "twice"), ("NoStop", "stop"), ("NoRule", "rule"), ("NoTicket", "ticket"), ("NoTrip", "trip"), ("BadNumber", "number"), ("BadCalls", "calls"), ("BadRow", "row"), ("NoRun", "run"), ("NoPlan", "plan"), ("TooLate", "late"), ("BadLine", "line"), ("NoTraveller", "traveller")]
def occS (x : Str) (t : List (Str × Str)) : List Str := (t.filter fun p => decide (x = p.1)).map (·.2)
def occ (x : Str) (t : List (Str × Str)) : List V := (occS x t).map V.str
def word (x : Str) : Str := (occS x wordTab).headD "other"
theorem occ_app {x : Str} {a b : List (Str × Str)} : occ x (a ++ b) = occ x a ++ occ x b := by
  unfold occ occS
  rw [List.filter_append, List.map_append, List.map_append]
theorem occ_le {x : Str} {a : List (Str × Str)} : (occ x a).length ≤ a.length := by
  unfold occ occS
  rw [List.length_map, List.length_map]
  exact List.length_filter_le _ _
theorem occ_word {x : Str} (hx : x ∈ raisedNames) : occ x wordTab = [V.str (word x)] := by
  have h : ∀ x ∈ raisedNames, occS x wordTab = [word x] := by decide +kernel
  unfold occ
  rw [h x hx]
  rfl
theorem occ_one {x y w : Str} : occ x [(y, w)] = if decide (x = y) = true then [V.str w] else [] := by
  unfold occ occS
  by_cases h : x = y <;> simp [h]
section
variable {H : Hp} {R : VK}
theorem w_rep {b : Bool} {l : Addr} {x : Str} (hl : H l = some (.lst [.str x])) (q : ∀ p H', H p = none → Same H H' → H' p = some (.lst (if b = true then [V.str x] else [])) → R (.ref p) H') : rRep (.ref l) (.int (if b = true then 1 else 0)) H R := by
  refine ⟨l, _, _, rfl, rfl, hl, by split <;> decide, by split <;> decide, by cases b <;> (show 1 * _ ≤ sizeLine; decide), ?_⟩
  walk_at "al"
  rename_i p hp H2 e2 g2
  refine q p H2 hp e2 ?_
  rw [g2]
  cases b <;> rfl
theorem w_repO {x y w : Str} {l : Addr} (hl : H l = some (.lst [.str w])) (q : ∀ p H', H p = none → Same H H' → H' p = some (.lst (occ x [(y, w)])) → R (.ref p) H') : rRep (.ref l) (.int (if decide (x = y) = true then 1 else 0)) H R :=
  w_rep hl fun p H' hp e h => q p H' hp e (by rw [occ_one]; exact h)
theorem w_cat {l b : Addr} {xs zs : List V} (h1 : H l = some (.lst xs)) (h2 : H b = some (.lst zs)) (hz : xs.length + zs.length ≤ sizeLine) (q : ∀ p H', H p = none → Same H H' → H' p = some (.lst (xs ++ zs)) → R (.ref p) H') : rCat (.ref l) (.ref b) H R := by
  refine ⟨l, b, xs, zs, rfl, rfl, h1, h2, hz, ?_⟩
  walk_at "al"
  rename_i p hp H2 e2 g2
  exact q p H2 hp e2 g2
end
section
variable {P : Program} {w : World} {K : PySem.W.Frag} {mg : Str → Option Value} {base : Heap}
theorem excC_of (T : Tx K mg) {x : Str} (hx : x ∈ raisedNames) : ExcC K (He.ga K x) := by
  have h := (eb_parts T).2.2.2.2.1 x hx
  unfold excCB at h
  simp only [Bool.and_eq_true, decide_eq_true_eq] at h
  obtain ⟨⟨⟨⟨a, b⟩, c⟩, d⟩, e⟩ := h
  obtain ⟨i1, i2, i3, i4⟩ := ins_parts e
  exact ⟨a, b, c, d, i1, i2, i3, i4⟩
def saidSuite : List Stmt := match defBody s_law_said with
  | [.Try _ [.ExceptHandler _ _ b _] _ _ _] => b
  | _ => []
theorem suite_ok (T : Tx K mg) (g : Addr) (cdg : Value) (A : Around) (stack : List Env) (s : Shared) (H0 : Hp) : ∃ ts : Addr → Addr → TS,
    (∀ (a : Addr) (oe : Obj) (D : Addr) (pn : List (Addr × Obj)), Zc (.ref D) none oe → (∃ vs, oe.data = .fields vs) → ExcC K D → PSs ((cxOf CX0 P w K mg base n_law_said "_law_said" (defScope s_law_said) g cdg A stack s H0 C8.E0).nox.suite a ((a, oe) :: pn)) saidSuite (ts D a)) ∧
    ∀ x ∈ raisedNames, ∀ (a : Addr) (f0 o2 : Option V) (D : Ends) (H : Hp), (∀ H', Same H H' → D.rt (.str (word x)) H') → ts (He.ga K x) a D [f0, some (.ref a), o2] H := by
  refine ⟨fun D a => _, fun a oe D pn hz hf hC => (pss_cons (ps_set (i := 2) sc_law_said.nd rfl (Or.inl rfl) (pe_op op_cat (pe_op op_rep (pe_lst (pa_cons pe_str pa_nil)) (pe_callTy call_int1 rfl T.f_int (by decide +kernel) (pa_cons (pe_callB (call_isE hC hz hf) rfl T.f_isinstance (by decide +kernel) (pa_cons (pv 1) (pa_cons (C8.pe_gc (v := .ref (He.ga K "BadClock")) rfl ⟨_, T.g_BadClock, rfl⟩) pa_nil))) pa_nil))) (pe_op op_rep (pe_lst (pa_cons pe_str pa_nil)) (pe_callTy call_int1 rfl T.f_int (by decide +kernel) (pa_cons (pe_callB (call_isE hC hz hf) rfl T.f_isinstance (by decide +kernel) (pa_cons (pv 1) (pa_cons (C8.pe_gc (v := .ref (He.ga K "BadRule")) rfl ⟨_, T.g_BadRule, rfl⟩) pa_nil))) pa_nil)))))
    (pss_cons (ps_set (i := 2) sc_law_said.nd rfl (Or.inl rfl) (pe_op op_cat (pe_op op_cat (pv 2) (pe_op op_rep (pe_lst (pa_cons pe_str pa_nil)) (pe_callTy call_int1 rfl T.f_int (by decide +kernel) (pa_cons (pe_callB (call_isE hC hz hf) rfl T.f_isinstance (by decide +kernel) (pa_cons (pv 1) (pa_cons (C8.pe_gc (v := .ref (He.ga K "TooMany")) rfl ⟨_, T.g_TooMany, rfl⟩) pa_nil))) pa_nil)))) (pe_op op_rep (pe_lst (pa_cons pe_str pa_nil)) (pe_callTy call_int1 rfl T.f_int (by decide +kernel) (pa_cons (pe_callB (call_isE hC hz hf) rfl T.f_isinstance (by decide +kernel) (pa_cons (pv 1) (pa_cons (C8.pe_gc (v := .ref (He.ga K "BadName")) rfl ⟨_, T.g_BadName, rfl⟩) pa_nil))) pa_nil)))))
    (pss_cons (ps_set (i := 2) sc_law_said.nd rfl (Or.inl rfl) (pe_op op_cat (pe_op op_cat (pv 2) (pe_op op_rep (pe_lst (pa_cons pe_str pa_nil)) (pe_callTy call_int1 rfl T.f_int (by decide +kernel) (pa_cons (pe_callB (call_isE hC hz hf) rfl T.f_isinstance (by decide +kernel) (pa_cons (pv 1) (pa_cons (C8.pe_gc (v := .ref (He.ga K "Twice")) rfl ⟨_, T.g_Twice, rfl⟩) pa_nil))) pa_nil)))) (pe_op op_rep (pe_lst (pa_cons pe_str pa_nil)) (pe_callTy call_int1 rfl T.f_int (by decide +kernel) (pa_cons (pe_callB (call_isE hC hz hf) rfl T.f_isinstance (by decide +kernel) (pa_cons (pv 1) (pa_cons (C8.pe_gc (v := .ref (He.ga K "NoStop")) rfl ⟨_, T.g_NoStop, rfl⟩) pa_nil))) pa_nil)))))
    (pss_cons (ps_set (i := 2) sc_law_said.nd rfl (Or.inl rfl) (pe_op op_cat (pe_op op_cat (pv 2) (pe_op op_rep (pe_lst (pa_cons pe_str pa_nil)) (pe_callTy call_int1 rfl T.f_int (by decide +kernel) (pa_cons (pe_callB (call_isE hC hz hf) rfl T.f_isinstance (by decide +kernel) (pa_cons (pv 1) (pa_cons (C8.pe_gc (v := .ref (He.ga K "NoRule")) rfl ⟨_, T.g_NoRule, rfl⟩) pa_nil))) pa_nil)))) (pe_op op_rep (pe_lst (pa_cons pe_str pa_nil)) (pe_callTy call_int1 rfl T.f_int (by decide +kernel) (pa_cons (pe_callB (call_isE hC hz hf) rfl T.f_isinstance (by decide +kernel) (pa_cons (pv 1) (pa_cons (C8.pe_gc (v := .ref (He.ga K "NoTicket")) rfl ⟨_, T.g_NoTicket, rfl⟩) pa_nil))) pa_nil)))))
    (pss_cons (ps_set (i := 2) sc_law_said.nd rfl (Or.inl rfl) (pe_op op_cat (pe_op op_cat (pv 2) (pe_op op_rep (pe_lst (pa_cons pe_str pa_nil)) (pe_callTy call_int1 rfl T.f_int (by decide +kernel) (pa_cons (pe_callB (call_isE hC hz hf) rfl T.f_isinstance (by decide +kernel) (pa_cons (pv 1) (pa_cons (C8.pe_gc (v := .ref (He.ga K "NoTrip")) rfl ⟨_, T.g_NoTrip, rfl⟩) pa_nil))) pa_nil)))) (pe_op op_rep (pe_lst (pa_cons pe_str pa_nil)) (pe_callTy call_int1 rfl T.f_int (by decide +kernel) (pa_cons (pe_callB (call_isE hC hz hf) rfl T.f_isinstance (by decide +kernel) (pa_cons (pv 1) (pa_cons (C8.pe_gc (v := .ref (He.ga K "BadNumber")) rfl ⟨_, T.g_BadNumber, rfl⟩) pa_nil))) pa_nil)))))
    (pss_cons (ps_set (i := 2) sc_law_said.nd rfl (Or.inl rfl) (pe_op op_cat (pe_op op_cat (pv 2) (pe_op op_rep (pe_lst (pa_cons pe_str pa_nil)) (pe_callTy call_int1 rfl T.f_int (by decide +kernel) (pa_cons (pe_callB (call_isE hC hz hf) rfl T.f_isinstance (by decide +kernel) (pa_cons (pv 1) (pa_cons (C8.pe_gc (v := .ref (He.ga K "BadCalls")) rfl ⟨_, T.g_BadCalls, rfl⟩) pa_nil))) pa_nil)))) (pe_op op_rep (pe_lst (pa_cons pe_str pa_nil)) (pe_callTy call_int1 rfl T.f_int (by decide +kernel) (pa_cons (pe_callB (call_isE hC hz hf) rfl T.f_isinstance (by decide +kernel) (pa_cons (pv 1) (pa_cons (C8.pe_gc (v := .ref (He.ga K "BadRow")) rfl ⟨_, T.g_BadRow, rfl⟩) pa_nil))) pa_nil)))))
    (pss_cons (ps_set (i := 2) sc_law_said.nd rfl (Or.inl rfl) (pe_op op_cat (pe_op op_cat (pv 2) (pe_op op_rep (pe_lst (pa_cons pe_str pa_nil)) (pe_callTy call_int1 rfl T.f_int (by decide +kernel) (pa_cons (pe_callB (call_isE hC hz hf) rfl T.f_isinstance (by decide +kernel) (pa_cons (pv 1) (pa_cons (C8.pe_gc (v := .ref (He.ga K "NoRun")) rfl ⟨_, T.g_NoRun, rfl⟩) pa_nil))) pa_nil)))) (pe_op op_rep (pe_lst (pa_cons pe_str pa_nil)) (pe_callTy call_int1 rfl T.f_int (by decide +kernel) (pa_cons (pe_callB (call_isE hC hz hf) rfl T.f_isinstance (by decide +kernel) (pa_cons (pv 1) (pa_cons (C8.pe_gc (v := .ref (He.ga K "NoPlan")) rfl ⟨_, T.g_NoPlan, rfl⟩) pa_nil))) pa_nil)))))
    (pss_cons (ps_set (i := 2) sc_law_said.nd rfl (Or.inl rfl) (pe_op op_cat (pe_op op_cat (pv 2) (pe_op op_rep (pe_lst (pa_cons pe_str pa_nil)) (pe_callTy call_int1 rfl T.f_int (by decide +kernel) (pa_cons (pe_callB (call_isE hC hz hf) rfl T.f_isinstance (by decide +kernel) (pa_cons (pv 1) (pa_cons (C8.pe_gc (v := .ref (He.ga K "TooLate")) rfl ⟨_, T.g_TooLate, rfl⟩) pa_nil))) pa_nil)))) (pe_op op_rep (pe_lst (pa_cons pe_str pa_nil)) (pe_callTy call_int1 rfl T.f_int (by decide +kernel) (pa_cons (pe_callB (call_isE hC hz hf) rfl T.f_isinstance (by decide +kernel) (pa_cons (pv 1) (pa_cons (C8.pe_gc (v := .ref (He.ga K "BadLine")) rfl ⟨_, T.g_BadLine, rfl⟩) pa_nil))) pa_nil)))))
    (pss_cons (ps_set (i := 2) sc_law_said.nd rfl (Or.inl rfl) (pe_op op_cat (pe_op op_cat (pv 2) (pe_op op_rep (pe_lst (pa_cons pe_str pa_nil)) (pe_callTy call_int1 rfl T.f_int (by decide +kernel) (pa_cons (pe_callB (call_isE hC hz hf) rfl T.f_isinstance (by decide +kernel) (pa_cons (pv 1) (pa_cons (C8.pe_gc (v := .ref (He.ga K "NoTraveller")) rfl ⟨_, T.g_NoTraveller, rfl⟩) pa_nil))) pa_nil)))) (pe_op op_rep (pe_lst (pa_cons pe_str pa_nil)) (pe_callTy call_int1 rfl T.f_int (by decide +kernel) (pa_cons (pe_not (pe_callB (call_isE hC hz hf) rfl T.f_isinstance (by decide +kernel) (pa_cons (pv 1) (pa_cons (pe_bltn (v := .ty "ValueError") rfl T.f_ValueError (by decide +kernel) rfl) pa_nil)))) pa_nil)))))
    (pss_one (ps_ret (pe_ifExp (pt_cmpR op_eq (pe_callB (lenK K) rfl T.f_len (by decide +kernel) (pa_cons (pv 2) pa_nil)) pe_int (nomark _)) (pe_ix (ixL K) (pv 2) pe_int (fun _ _ => rfl)) pe_str)))))))))))), ?_⟩
  intro x hx a f0 o2 D H q
  have kx : ∀ y, y ∈ excNames → PySem.W.kitOne K (.ref (He.ga K x)) (.ref (He.ga K y)) = some (decide (x = y)) := fun y hy => of_decide_eq_true ((eb_parts T).2.2.2.2.2.1 x hx y hy)
  have kv := (eb_parts T).2.2.2.2.2.2.1 x hx
  -- statement 0
  refine seq_hide fun U0 hU0 => ?_
  walk_at "ws"
  refine ⟨by decide, ?_⟩
  walk_at "al"
  rename_i l0 hl0 A0 e0 g0
  refine ⟨_, .ref (He.ga K "BadClock"), _, rfl, fun u h => h, kx _ (by decide +kernel), .inr ⟨_, rfl, ?_⟩⟩
  refine w_repO g0 fun r0 B0 hr0 f0 k0 => ?_
  refine ⟨by decide, ?_⟩
  walk_at "al"
  rename_i l1 hl1 A1 e1 g1
  refine ⟨_, .ref (He.ga K "BadRule"), _, rfl, fun u h => h, kx _ (by decide +kernel), .inr ⟨_, rfl, ?_⟩⟩
  refine w_repO g1 fun r1 B1 hr1 f1 k1 => ?_
  refine w_cat (f1 _ _ (e1 _ _ k0)) k1 (by exact Nat.le_trans (Nat.add_le_add occ_le occ_le) (by decide)) fun c0 C0 hc0 h0 s0 => ?_
  rw [← occ_app] at s0
  have t0 : Same H C0 := e0.trans (f0.trans (e1.trans (f1.trans h0)))
  subst hU0
  -- statement 1
  refine seq_hide fun U1 hU1 => ?_
  walk_at "ws"
  refine ⟨by decide, ?_⟩
  walk_at "al"
  rename_i l2 hl2 A2 e2 g2
  refine ⟨_, .ref (He.ga K "TooMany"), _, rfl, fun u h => h, kx _ (by decide +kernel), .inr ⟨_, rfl, ?_⟩⟩
  refine w_repO g2 fun r2 B2 hr2 f2 k2 => ?_
  refine w_cat (f2 _ _ (e2 _ _ s0)) k2 (by exact Nat.le_trans (Nat.add_le_add occ_le occ_le) (by decide)) fun d1 D1 hd1 y1 z1 => ?_
  rw [← occ_app] at z1
  refine ⟨by decide, ?_⟩
  walk_at "al"
  rename_i l3 hl3 A3 e3 g3
  refine ⟨_, .ref (He.ga K "BadName"), _, rfl, fun u h => h, kx _ (by decide +kernel), .inr ⟨_, rfl, ?_⟩⟩
  refine w_repO g3 fun r3 B3 hr3 f3 k3 => ?_
  refine w_cat (f3 _ _ (e3 _ _ z1)) k3 (by exact Nat.le_trans (Nat.add_le_add occ_le occ_le) (by decide)) fun c1 C1 hc1 h1 s1 => ?_
  rw [← occ_app] at s1
  have t1 : Same H C1 := t0.trans (e2.trans (f2.trans (y1.trans (e3.trans (f3.trans h1)))))
  subst hU1
  -- statement 2
  refine seq_hide fun U2 hU2 => ?_
  walk_at "ws"
  refine ⟨by decide, ?_⟩
  walk_at "al"
  rename_i l4 hl4 A4 e4 g4
  refine ⟨_, .ref (He.ga K "Twice"), _, rfl, fun u h => h, kx _ (by decide +kernel), .inr ⟨_, rfl, ?_⟩⟩
  refine w_repO g4 fun r4 B4 hr4 f4 k4 => ?_
  refine w_cat (f4 _ _ (e4 _ _ s1)) k4 (by exact Nat.le_trans (Nat.add_le_add occ_le occ_le) (by decide)) fun d2 D2 hd2 y2 z2 => ?_
  rw [← occ_app] at z2
  refine ⟨by decide, ?_⟩
  walk_at "al"
  rename_i l5 hl5 A5 e5 g5
  refine ⟨_, .ref (He.ga K "NoStop"), _, rfl, fun u h => h, kx _ (by decide +kernel), .inr ⟨_, rfl, ?_⟩⟩
  refine w_repO g5 fun r5 B5 hr5 f5 k5 => ?_
  refine w_cat (f5 _ _ (e5 _ _ z2)) k5 (by exact Nat.le_trans (Nat.add_le_add occ_le occ_le) (by decide)) fun c2 C2 hc2 h2 s2 => ?_
  rw [← occ_app] at s2
  have t2 : Same H C2 := t1.trans (e4.trans (f4.trans (y2.trans (e5.trans (f5.trans h2)))))
  subst hU2
  -- statement 3
  refine seq_hide fun U3 hU3 => ?_
  walk_at "ws"
  refine ⟨by decide, ?_⟩
  walk_at "al"
  rename_i l6 hl6 A6 e6 g6
  refine ⟨_, .ref (He.ga K "NoRule"), _, rfl, fun u h => h, kx _ (by decide +kernel), .inr ⟨_, rfl, ?_⟩⟩
  refine w_repO g6 fun r6 B6 hr6 f6 k6 => ?_
  refine w_cat (f6 _ _ (e6 _ _ s2)) k6 (by exact Nat.le_trans (Nat.add_le_add occ_le occ_le) (by decide)) fun d3 D3 hd3 y3 z3 => ?_
  rw [← occ_app] at z3
  refine ⟨by decide, ?_⟩
  walk_at "al"
  rename_i l7 hl7 A7 e7 g7
  refine ⟨_, .ref (He.ga K "NoTicket"), _, rfl, fun u h => h, kx _ (by decide +kernel), .inr ⟨_, rfl, ?_⟩⟩
  refine w_repO g7 fun r7 B7 hr7 f7 k7 => ?_
  refine w_cat (f7 _ _ (e7 _ _ z3)) k7 (by exact Nat.le_trans (Nat.add_le_add occ_le occ_le) (by decide)) fun c3 C3 hc3 h3 s3 => ?_
  rw [← occ_app] at s3
  have t3 : Same H C3 := t2.trans (e6.trans (f6.trans (y3.trans (e7.trans (f7.trans h3)))))
  subst hU3
  -- statement 4
  refine seq_hide fun U4 hU4 => ?_
  walk_at "ws"
  refine ⟨by decide, ?_⟩
  walk_at "al"
  rename_i l8 hl8 A8 e8 g8
  refine ⟨_, .ref (He.ga K "NoTrip"), _, rfl, fun u h => h, kx _ (by decide +kernel), .inr ⟨_, rfl, ?_⟩⟩
  refine w_repO g8 fun r8 B8 hr8 f8 k8 => ?_
  refine w_cat (f8 _ _ (e8 _ _ s3)) k8 (by exact Nat.le_trans (Nat.add_le_add occ_le occ_le) (by decide)) fun d4 D4 hd4 y4 z4 => ?_
  rw [← occ_app] at z4
  refine ⟨by decide, ?_⟩
  walk_at "al"
  rename_i l9 hl9 A9 e9 g9
  refine ⟨_, .ref (He.ga K "BadNumber"), _, rfl, fun u h => h, kx _ (by decide +kernel), .inr ⟨_, rfl, ?_⟩⟩
  refine w_repO g9 fun r9 B9 hr9 f9 k9 => ?_
  refine w_cat (f9 _ _ (e9 _ _ z4)) k9 (by exact Nat.le_trans (Nat.add_le_add occ_le occ_le) (by decide)) fun c4 C4 hc4 h4 s4 => ?_
  rw [← occ_app] at s4
  have t4 : Same H C4 := t3.trans (e8.trans (f8.trans (y4.trans (e9.trans (f9.trans h4)))))
  subst hU4
  -- statement 5
  refine seq_hide fun U5 hU5 => ?_
  walk_at "ws"
  refine ⟨by decide, ?_⟩
  walk_at "al"
  rename_i l10 hl10 A10 e10 g10
  refine ⟨_, .ref (He.ga K "BadCalls"), _, rfl, fun u h => h, kx _ (by decide +kernel), .inr ⟨_, rfl, ?_⟩⟩
  refine w_repO g10 fun r10 B10 hr10 f10 k10 => ?_
  refine w_cat (f10 _ _ (e10 _ _ s4)) k10 (by exact Nat.le_trans (Nat.add_le_add occ_le occ_le) (by decide)) fun d5 D5 hd5 y5 z5 => ?_
  rw [← occ_app] at z5
  refine ⟨by decide, ?_⟩
  walk_at "al"
  rename_i l11 hl11 A11 e11 g11
  refine ⟨_, .ref (He.ga K "BadRow"), _, rfl, fun u h => h, kx _ (by decide +kernel), .inr ⟨_, rfl, ?_⟩⟩
  refine w_repO g11 fun r11 B11 hr11 f11 k11 => ?_
  refine w_cat (f11 _ _ (e11 _ _ z5)) k11 (by exact Nat.le_trans (Nat.add_le_add occ_le occ_le) (by decide)) fun c5 C5 hc5 h5 s5 => ?_
  rw [← occ_app] at s5
  have t5 : Same H C5 := t4.trans (e10.trans (f10.trans (y5.trans (e11.trans (f11.trans h5)))))
  subst hU5
  -- statement 6
  refine seq_hide fun U6 hU6 => ?_
  walk_at "ws"
  refine ⟨by decide, ?_⟩
  walk_at "al"
  rename_i l12 hl12 A12 e12 g12
  refine ⟨_, .ref (He.ga K "NoRun"), _, rfl, fun u h => h, kx _ (by decide +kernel), .inr ⟨_, rfl, ?_⟩⟩
  refine w_repO g12 fun r12 B12 hr12 f12 k12 => ?_
  refine w_cat (f12 _ _ (e12 _ _ s5)) k12 (by exact Nat.le_trans (Nat.add_le_add occ_le occ_le) (by decide)) fun d6 D6 hd6 y6 z6 => ?_
  rw [← occ_app] at z6
  refine ⟨by decide, ?_⟩
  walk_at "al"
  rename_i l13 hl13 A13 e13 g13
  refine ⟨_, .ref (He.ga K "NoPlan"), _, rfl, fun u h => h, kx _ (by decide +kernel), .inr ⟨_, rfl, ?_⟩⟩
  refine w_repO g13 fun r13 B13 hr13 f13 k13 => ?_
  refine w_cat (f13 _ _ (e13 _ _ z6)) k13 (by exact Nat.le_trans (Nat.add_le_add occ_le occ_le) (by decide)) fun c6 C6 hc6 h6 s6 => ?_
  rw [← occ_app] at s6
  have t6 : Same H C6 := t5.trans (e12.trans (f12.trans (y6.trans (e13.trans (f13.trans h6)))))
  subst hU6
  -- statement 7
  refine seq_hide fun U7 hU7 => ?_
  walk_at "ws"
  refine ⟨by decide, ?_⟩
  walk_at "al"
  rename_i l14 hl14 A14 e14 g14
  refine ⟨_, .ref (He.ga K "TooLate"), _, rfl, fun u h => h, kx _ (by decide +kernel), .inr ⟨_, rfl, ?_⟩⟩
  refine w_repO g14 fun r14 B14 hr14 f14 k14 => ?_
  refine w_cat (f14 _ _ (e14 _ _ s6)) k14 (by exact Nat.le_trans (Nat.add_le_add occ_le occ_le) (by decide)) fun d7 D7 hd7 y7 z7 => ?_
  rw [← occ_app] at z7
  refine ⟨by decide, ?_⟩
  walk_at "al"
  rename_i l15 hl15 A15 e15 g15
  refine ⟨_, .ref (He.ga K "BadLine"), _, rfl, fun u h => h, kx _ (by decide +kernel), .inr ⟨_, rfl, ?_⟩⟩
  refine w_repO g15 fun r15 B15 hr15 f15 k15 => ?_
  refine w_cat (f15 _ _ (e15 _ _ z7)) k15 (by exact Nat.le_trans (Nat.add_le_add occ_le occ_le) (by decide)) fun c7 C7 hc7 h7 s7 => ?_
  rw [← occ_app] at s7
  have t7 : Same H C7 := t6.trans (e14.trans (f14.trans (y7.trans (e15.trans (f15.trans h7)))))
  subst hU7
  refine seq_hide fun U8 hU8 => ?_
  walk_at "ws"
  refine ⟨by decide, ?_⟩
  walk_at "al"
  rename_i l16 hl16 A16 e16 g16
  refine ⟨_, .ref (He.ga K "NoTraveller"), _, rfl, fun u h => h, kx _ (by decide +kernel), .inr ⟨_, rfl, ?_⟩⟩
  refine w_repO g16 fun r16 B16 hr16 f16 k16 => ?_
  refine w_cat (f16 _ _ (e16 _ _ s7)) k16 (by exact Nat.le_trans (Nat.add_le_add occ_le occ_le) (by decide)) fun d8 D8 hd8 y8 z8 => ?_
  rw [← occ_app] at z8
  refine ⟨by decide, ?_⟩
  walk_at "al"
  rename_i l17 hl17 A17 e17 g17
  refine ⟨_, .type "ValueError", true, rfl, fun u h => h, kv, ?_⟩
  walk_at "ws"
  refine .inr ⟨_, rfl, ?_⟩
  refine w_rep (b := false) g17 fun r17 B17 hr17 f17 k17 => ?_
  refine w_cat (f17 _ _ (e17 _ _ z8)) k17 (by exact Nat.le_trans (Nat.add_le_add occ_le (Nat.zero_le 18)) (by decide)) fun c8 C8' hc8 h8 s8 => ?_
  have t8 : Same H C8' := t7.trans (e16.trans (f16.trans (y8.trans (e17.trans (f17.trans h8)))))
  subst hU8
  walk_at "ws"
  rw [show (if false = true then [V.str "bare"] else []) = ([] : List V) from rfl, List.append_nil] at s8
  have ew : occ x wordTab = [V.str (word x)] := occ_word hx
  have s8 : C8' c8 = some (.lst [V.str (word x)]) := by rw [← ew]; exact s8
  refine ⟨c8, _, rfl, .inl (SqL.of s8), ?_⟩
  walk_at "ws"
  refine ⟨c8, _, 0, _, rfl, rfl, SqL.of s8, atI_nat (j := 0) rfl, ?_⟩
  exact q C8' t8
end
end K06
set_option maxHeartbeats 4000000
namespace K06
open PySem L2
theorem takes_len {X : Cx} {W : WX} (t : Takes X W) : Takes X (fun cls d σ H => σ.length = X.N.length → W cls d σ H) := fun u s' ⟨a, B, sI, pins, σ, H, cls, d, e, I, nb, up, sky, na, os, ag, w⟩ =>
  t u s' ⟨a, B, sI, pins, σ, H, cls, d, e, I, nb, up, sky, na, os, ag, w I.len⟩
/-- what _law_said gives of a call: ('told', v), or the word of the class -/
def TTsaid (K : PySem.W.Frag) : (XK → Hp → VK → Prop) → Hp → VK → Prop := fun tl H Q =>
  tl (fun cls d H' => ∃ x ∈ raisedNames, cls = .ref (He.ga K x) ∧ d = none ∧ ∀ H'', Same H' H'' → Q (.str (word x)) H'') H (fun v H' => 2 ≤ sizeLine ∧ ∀ p, H' p = none → Q (.ref p) (upd H' p (.tup [.str "told", v])))
theorem exm_road {K : PySem.W.Frag} {mg : Str → Option Value} (T : Tx K mg) : ∀ x ∈ raisedNames, PySem.W.exmOne K (.ref (He.ga K x)) (.ref (He.ga K "RoadError")) = some true := by
  intro x hx
  simp only [raisedNames, List.mem_cons, List.not_mem_nil, or_false] at hx
  rcases hx with rfl | rfl | rfl | rfl | rfl | rfl | rfl | rfl | rfl | rfl
  · exact T.er_BadRule
  · exact T.er_TooMany
  · exact T.er_BadName
  · exact T.er_Twice
  · exact T.er_NoStop
  · exact T.er_NoRule
  · exact T.er_NoTicket
  · exact T.er_NoTrip
  · exact T.er_BadNumber
  · exact T.er_BadCalls
theorem said_gives {X : Cx} (T : Tx X.K X.mg) {g : Addr} {cdg : Value} {q : Str} : LamX.GivesTo X n_law_said "_law_said" (defScope s_law_said) g cdg (defBody s_law_said) "_law_call" q (TTsaid X.K) := by
  intro f c' s H Q tl act hc h
  obtain ⟨ts, hts, hw⟩ := suite_ok T (P := X.prog) (w := X.w) (base := X.base) g cdg X.A X.stack s H
  refine ⟨_, pss_one (ps_try_as (X := (cxOf C8.CX0 X.prog X.w X.K X.mg X.base n_law_said "_law_said" (defScope s_law_said) g cdg X.A X.stack s H C8.E0).nox) (x := "RoadError") (n := "e") (c := .ref (He.ga X.K "RoadError")) (i := 1) (Wout := fun _ _ _ _ => False)
      (ts := fun a cls d D σ H => ∃ x, x ∈ raisedNames ∧ cls = .ref (He.ga X.K x) ∧ d = none ∧ ts (He.ga X.K x) a D σ H)
      (tb := fun W D σ H => ∃ Ech : XK, (∀ cls d σ' H', Ech cls d H' → σ'.length = 3 → W cls d σ' H') ∧ σ[0]? = some (some (.ref f)) ∧ H c' = some (LamX.CodeO c' q) ∧
        tl Ech H fun v H1 => 2 ≤ sizeLine ∧ ∀ p, H1 p = none → D.rt (.ref p) (upd H1 p (.tup [.str "told", v])))
      rfl rfl sc_law_said.nd rfl rfl ⟨rfl, rfl, .inl T.g_RoadError⟩ LamX.takes0 (fun W pn xe tk _ => ?_) (fun a oe cls d pn hz hf => ?_)), ?_⟩
  · refine ⟨fun pins s' σ H' D I h' => ?_⟩
    obtain ⟨Ech, hW, h1, h2, h3⟩ := h'
    exact PSs.run (pss_one (ps_ret (pe_tup (pa_cons pe_str (pa_cons (act _ pn xe Ech _ _ (takes_len tk) (fun cls d σ' H' e => hW cls d σ' H' e)) pa_nil))))) pins s' σ H' D I ⟨h1, h2, h3⟩
  · exact ⟨fun pins s' σ H' D I ⟨x, hx, e1, e2, h'⟩ => by
      subst e1
      subst e2
      exact (hts a oe (He.ga X.K x) pn hz hf (excC_of T hx)).run pins s' σ H' D I h'⟩
  · refine ⟨fun cls d H' => ∃ x ∈ raisedNames, cls = .ref (He.ga X.K x) ∧ d = none ∧ ∀ H'', Same H' H'' → Q (.str (word x)) H'', fun cls d σ' H' ⟨x, hx, e1, e2, hq⟩ hl => ?_, rfl, hc, ?_⟩
    · subst e1
      subst e2
      match σ', hl with
      | [x0, x1, x2], _ => exact ⟨true, exm_road T x hx, fun _ a _ => ⟨x, hx, rfl, rfl, hw x hx a x0 x2 _ H' hq⟩, fun z => nomatch z⟩
    · exact h
end K06
set_option maxHeartbeats 4000000
namespace K06
open PySem L2
local macro_rules | `(tactic| walk_at "ws") => `(tactic| try simp only [w_var0, w_varS, w_c, w_ret, w_retN, w_next, w_seq, w_asg, w_gn, w_drop, w_if, w_and, w_or, w_not, ex_bl, ex_int, ex_two, w_B, w_test, w_andV, w_orV, w_notV, w_ife, w_op, w_un, w_chain, w_nil, w_cons, w_cb, w_ca, w_lst, w_tup, w_I0, w_I, w_U, w_eqI, w_neI, w_eqS, w_neS,
  w_isN0, w_notN0, w_fld, w_sfld, w_me, w_ma, w_dget, w_din, w_dnotin, w_dput, w_slice, w_part, w_nopart, w_bm, w_bm0, w_par, w_lc, w_for, w_iList, w_iTup, w_iStr, w_iRng1, w_iZip, w_iEnum, w_tM1, w_dnewK, nn_str, nn_some, nn_none, nn_ref, w_pairN, w_pairC, w_disp, w_meD, w_maxD, w_bare, w_gtup, w_glst, w_gcons, w_gnil, w_gsub, cx_K, cx_K',
  L2.start, endsOf, List.map_cons, List.map_nil, List.length_cons, List.length_nil, List.cons_append, List.nil_append, Nat.zero_add, Nat.reduceAdd, Nat.reduceSub, List.replicate_succ, List.replicate_zero, List.set_cons_zero, List.set_cons_succ, List.set_nil,
  sp0_eq, sp1_eq, sp2_eq, sp3_eq, sp4_eq, sp5_eq, if_true, Bool.false_eq_true, if_false, decide_eq_true_eq, Bool.not_eq_true', decide_eq_false_iff_not, Bool.not_true, Bool.not_false, Bool.not_eq_false', isD_int_none, isD_int_bool, isD_int_int, isD_int_str, isD_int_list, isD_int_tuple, isD_int_dict, isD_bool_none, isD_bool_bool, isD_bool_int, isD_bool_str, isD_bool_list, isD_bool_tuple, isD_bool_dict, isD_str_none, isD_str_bool, isD_str_int, isD_str_str, isD_str_list, isD_str_tuple, isD_str_dict, isD_list_none, isD_list_bool, isD_list_int, isD_list_str, isD_list_list, isD_list_tuple, isD_list_dict, isD_tuple_none, isD_tuple_bool, isD_tuple_int, isD_tuple_str, isD_tuple_list, isD_tuple_tuple, isD_tuple_dict])
local macro_rules | `(tactic| walk_at "al") => `(tactic| (intro p hp; generalize hH : upd _ _ _ = H2; obtain ⟨e2, g2⟩ := alloc1 hp hH.symm; clear hH))
/-! ### defs that make lambdas: the code object, its table -/
def lq (x : Str) : Str := (x ++ ".<locals>.") ++ "<lambda>"
def Tb (K : PySem.W.Frag) : List (Addr × Str) := [((He.cT K ("_law_put", none)).2, lq "_law_put"), ((He.cT K ("_law_not_there", none)).2, lq "_law_not_there")]
/-- what is known of the two tables, of any base heap -/
structure Tabd (K : PySem.W.Frag) (mg : Str → Option Value) (base : Heap) : Prop where
  put : LamX.TabB base mg (He.cT K ("_law_put", none)).1 (He.cT K ("_law_put", none)).2
  no : LamX.TabB base mg (He.cT K ("_law_not_there", none)).1 (He.cT K ("_law_not_there", none)).2
abbrev BodyOkC (CX : CXT) (P : Program) (w : World) (K : PySem.W.Frag) (mg : Str → Option Value) (base : Heap) (N : List Str) (qual : Str) (st : Stmt) (f : Addr) (cdv : Value) (k : Nat) (vs : List V) (H : Hp) (Q : VK) (E : XK) : Prop :=
  ∀ (A : Around) (outer : List Env) (s : Shared), Room k (A.deeper (PyProof.Rows.envOfC qual (defScope st) s.heap.objs.size f cdv)) →
    ∃ t, PSs (cxOf CX P w K mg base N qual (defScope st) f cdv A outer s H E) (defBody st) t ∧ t (endsOf Q) (start N vs) H
section
variable {CX : CXT} {P : Program} {w : World} {K : PySem.W.Frag} {mg : Str → Option Value} {base : Heap} {k : Nat} {x : Str} {st : Stmt} {N ps : List Str} {sp : Sp} {p : Str × Option Str}
theorem cal_ofC (F : FnE K x x st (He.fAd K p)) (hm : mg x = some (.ref (He.fAd K p))) (hb : BindN x x st ps) (S : FnScope N ps (defScope st)) (len : ∀ vs H Q E, sp vs H Q E → vs.length = ps.length)
    (body : ∀ vs H Q E, sp vs H Q E → BodyOkC CX P w K mg base N x st (He.fAd K p) (.ref (He.codeOf K p)) k vs H Q E) : Cal CX P w K mg base (k + 1) x sp := by
  obtain ⟨fd, F⟩ := F
  obtain ⟨oc, od, dV, kV, doc, pm, an, cdv, ct, osl, efd, lk, hcd, _, _⟩ := F.ex
  obtain ⟨c, rfl⟩ := He.codeIn_ref hcd
  have ec : He.codeOf K p = c := He.codeOf_eq lk (by rw [efd])
  subst ec
  refine ⟨He.fAd K p, fd, ps, ?_, hm, F.kp, F.bindsN hb⟩
  subst efd
  exact fn_of lk hcd S len fun A outer s H vs Q E hr h => body vs H Q E h A outer s hr
end
theorem tabs_upd {T0 : List (Addr × Str)} {H : Hp} {a : Addr} {o o2 : HO} (h : LamX.Tabs T0 H) (ha : H a = some o) (n1 : ∀ ps, o ≠ .tbl ps) (n2 : ∀ f, o ≠ .ext f) : LamX.Tabs T0 (upd H a o2) := fun q hq => by
  obtain ⟨ps, h1, h2, h3⟩ := h q hq
  have ne : q.1 ≠ a := fun z => by rw [z, ha] at h1; exact n1 ps (Option.some.inj h1)
  refine ⟨ps, by rw [upd_ne ne]; exact h1, h2, fun pos cv hc => ?_⟩
  obtain ⟨c, e1, e2⟩ := h3 pos cv hc
  have nc : c ≠ a := fun z => by rw [z, ha] at e2; exact n2 _ (Option.some.inj e2)
  exact ⟨c, e1, by rw [upd_ne nc]; exact e2⟩
theorem pe_said {X : Cx} (T : Tx X.K X.mg) {T0 : List (Addr × Str)} {c P : Addr} {k : Nat} {params : Arguments} {body : Expr} {scope : Scope} {t : XK → TE} {p lpos pos : Pos} (hg : Gl X "_law_said") (TB : LamX.TabB X.base X.mg c P) (hcode : X.env.code = .ref c)
    (hmT : (P, X.env.qual ++ "<lambda>") ∈ T0) (hu : ∀ p ∈ T0, p.1 = P → p.2 = X.env.qual ++ "<lambda>") (hr : Room (k + 2) X.A) (L : LamX.LamS X.env.scope scope) (hdef : defaultsOf params X.env = ([], []))
    (hbind : ∀ (q : Str) (cl : List (Str × Addr)) (pm cv ctv : Value), bindArgs (PySem.W.kla_fn "<lambda>" q params body scope cl pm cv ctv) ⟨[], []⟩ = pure [])
    (hbody : ∀ (A : Around) (outer : List Env) (s : Shared) (H : Hp) (E : XK) (f c' : Addr), Room k (A.deeper (LamX.lamEnv X scope s.heap.objs.size f c')) → PE (LamX.lamCx X A outer s H E scope f c') body (t E)) :
    PE X (.Call (.Name "_law_said" p) [.Lambda params body scope lpos] [] pos) (LamX.tLam T0 (TTsaid X.K) t) := by
  obtain ⟨fd, F⟩ := T.d_law_said
  obtain ⟨oc, od, dV, kV, doc, pm, an, cdv, ct, osl, efd, lk, hcd, _, _⟩ := F.ex
  have hb : L2.Binds X.K fd ["_law_call"] [] := F.bindsN (fun _ _ _ _ _ _ => bind1 fun _ => rfl)
  subst efd
  exact LamX.pe_lamcall (Ng := n_law_said) (a := "_law_call") hg T.g__law_said F.kp lk hcd hb sc_law_said rfl (.inl rfl) (said_gives T) TB hcode hmT hu hr L hdef hbind hbody
section
variable {T0 : List (Addr × Str)} {K : PySem.W.Frag} {t : XK → TE} {σ : St} {H : Hp} {Q : VK}
theorem w_lam : LamX.tLam T0 (TTsaid K) t σ H Q = (LamX.Tabs T0 H ∧ ∀ H1, LamX.ExtN H H1 → LamX.Tabs T0 H1 →
  t (fun cls d H' => ∃ x ∈ raisedNames, cls = .ref (He.ga K x) ∧ d = none ∧ ∀ H'', Same H' H'' → Q (.str (word x)) H'') σ H1 (fun v H' => 2 ≤ sizeLine ∧ ∀ p, H' p = none → Q (.ref p) (upd H' p (.tup [.str "told", v])))) := rfl
end
section
variable {P : Program} {w : World} {K : PySem.W.Frag} {mg : Str → Option Value} {base : Heap}
def p_not_there (K : PySem.W.Frag) : P3 := fun v u m H Q _ => ∃ p N ka kc kd ke mx, v = .ref p ∧ IsNet K H p N ∧ H N.a = some (.dK ka) ∧ H N.c = some (.dK kc) ∧ H N.d = some (.dK kd) ∧ H N.e = some (.dK ke) ∧ m = .int mx ∧ 0 ≤ mx ∧ LamX.Tabs (Tb K) H ∧
  ∀ H', LamX.ExtN H H' → LamX.Tabs (Tb K) H' → Q (.bl true) H'
theorem ok_law_not_there (T : Tx K mg) (B : Tabd K mg base) : Cal CX0 P w K mg base 6 "_law_not_there" (sp3 (p_not_there K)) := by
  refine cal_ofC T.d_law_not_there T.g__law_not_there (fun _ _ _ _ _ _ => bind3 fun _ _ _ => rfl) sc_law_not_there len3 fun vs H Q E ⟨v, u, m, e, h⟩ A outer s hr => ?_
  subst e
  have hu := hu_of hr
  have hu64 := hr.units
  have TB := B.no
  have hmT : ((He.cT K ("_law_not_there", none)).2, lq "_law_not_there") ∈ Tb K := by simp [Tb]
  have hu2 : ∀ p ∈ Tb K, p.1 = (He.cT K ("_law_not_there", none)).2 → p.2 = lq "_law_not_there" := by
    intro p hp e
    simp only [Tb, List.mem_cons, List.not_mem_nil, or_false] at hp
    rcases hp with rfl | rfl
    · exact absurd e (eb_parts T).2.2.2.2.2.2.2.2.2
    · rfl
  refine ⟨_, PSs.nox (pss_cons (ps_set (i := 3) sc_law_not_there.nd rfl (Or.inr rfl) (pe_ix ix_list (pe_lst (pa_cons pe_non (pa_cons pe_int (pa_cons (pe_lst (pa_cons pe_str pa_nil)) (pa_cons pe_str (pa_cons pe_dnewK (pa_cons pe_bl (pa_cons pe_str (pa_cons (pe_tup (pa_cons pe_str pa_nil)) pa_nil))))))))) (pe_op op_mod (pv 2) pe_int) (fun _ _ => rfl)))
    (pss_cons (ps_set (i := 4) sc_law_not_there.nd rfl (Or.inl rfl) (pe_lst (pa_cons (pe_said T rfl TB rfl hmT hu2 hr (LamX.lamS_by (sc := defScope s_law_not_there) (by decide +kernel)) rfl (fun _ _ _ _ _ => rfl) (fun A outer s H E f c' hr => (pe_me (ok_Net_zone T) hr (by decide) (passes_call (takes_of rfl rfl rfl rfl) (fun _ _ _ _ h => h)) (pv 0) (pa_cons (pv 3) pa_nil)))) pa_nil)))
    (pss_cons (ps_expr (pe_bm PySem.F.plainAttrs_list PySem.F.slot_list_append PySem.F.type_list_append mt_append (pv 4) (pa_cons (pe_said T rfl TB rfl hmT hu2 hr (LamX.lamS_by (sc := defScope s_law_not_there) (by decide +kernel)) rfl (fun _ _ _ _ _ => rfl) (fun A outer s H E f c' hr => (pe_me (ok_Net_change T) hr (by decide) (passes_call (takes_of rfl rfl rfl rfl) (fun _ _ _ _ h => h)) (pv 0) (pa_cons (pv 3) pa_nil)))) pa_nil)))
    (pss_cons (ps_expr (pe_bm PySem.F.plainAttrs_list PySem.F.slot_list_append PySem.F.type_list_append mt_append (pv 4) (pa_cons (pe_said T rfl TB rfl hmT hu2 hr (LamX.lamS_by (sc := defScope s_law_not_there) (by decide +kernel)) rfl (fun _ _ _ _ _ => rfl) (fun A outer s H E f c' hr => (pe_me (ok_Net_rule T) hr (by decide) (passes_call (takes_of rfl rfl rfl rfl) (fun _ _ _ _ h => h)) (pv 0) (pa_cons (pv 3) pa_nil)))) pa_nil)))
    (pss_cons (ps_expr (pe_bm PySem.F.plainAttrs_list PySem.F.slot_list_append PySem.F.type_list_append mt_append (pv 4) (pa_cons (pe_said T rfl TB rfl hmT hu2 hr (LamX.lamS_by (sc := defScope s_law_not_there) (by decide +kernel)) rfl (fun _ _ _ _ _ => rfl) (fun A outer s H E f c' hr => (pe_me (ok_Net_ticket T) hr (by decide) (passes_call (takes_of rfl rfl rfl rfl) (fun _ _ _ _ h => h)) (pv 0) (pa_cons (pv 3) pa_nil)))) pa_nil)))
    (pss_cons (ps_expr (pe_bm PySem.F.plainAttrs_list PySem.F.slot_list_append PySem.F.type_list_append mt_append (pv 4) (pa_cons (pe_said T rfl TB rfl hmT hu2 hr (LamX.lamS_by (sc := defScope s_law_not_there) (by decide +kernel)) rfl (fun _ _ _ _ _ => rfl) (fun A outer s H E f c' hr => (pe_me (ok_Net_calls T) hr (by decide) (passes_call (takes_of rfl rfl rfl rfl) (fun _ _ _ _ h => h)) (pv 0) (pa_cons (pv 3) pa_nil)))) pa_nil)))
    (pss_cons (ps_expr (pe_bm PySem.F.plainAttrs_list PySem.F.slot_list_append PySem.F.type_list_append mt_append (pv 4) (pa_cons (pe_said T rfl TB rfl hmT hu2 hr (LamX.lamS_by (sc := defScope s_law_not_there) (by decide +kernel)) rfl (fun _ _ _ _ _ => rfl) (fun A outer s H E f c' hr => (pe_me (ok_Net_rule_name T) hr (by decide) (passes_call (takes_of rfl rfl rfl rfl) (fun _ _ _ _ h => h)) (pv 0) (pa_cons (pv 3) pa_nil)))) pa_nil)))
    (pss_one (ps_ret (pe_cmpR (op_eqD hu64) (pv 4) (pe_lst (pa_cons pe_str (pa_cons pe_str (pa_cons pe_str (pa_cons pe_str (pa_cons pe_str (pa_cons pe_str pa_nil))))))) (nomark _))))))))))), ?_⟩
  obtain ⟨p, N, ka, kc, kd, ke, mx, rfl, hn, ha, hc, hd, he, rfl, h0, hT, q⟩ := h
  refine seq_hide fun U hU => ?_
  walk_at "ws"
  refine ⟨by decide, ?_⟩
  walk_at "al"
  rename_i a1 h1 H1 e1 g1
  walk_at "al"
  rename_i a2 h2 H2 e2 g2
  refine ⟨by decide, ?_⟩
  walk_at "al"
  rename_i a3 h3 H3 e3 g3
  refine ⟨by decide, ?_⟩
  walk_at "al"
  rename_i a4 h4 H4 e4 g4
  refine ⟨by decide, ?_⟩
  have e14 := e1.trans (e2.trans (e3.trans e4))
  obtain ⟨ov, hov, hat⟩ := ix_any [V.non, .int 5, .ref a1, .str "", .ref a2, .bl true, .str "zzzzzzzzz", .ref a3] (i := mx % 8) (by omega) (by show mx % 8 < 8; omega)
  refine ⟨a4, _, _, ov, rfl, rfl, SqL.of g4, hat, ?_⟩
  have o1 : Av K H4 (.ref a1) (.list [.str "a"]) := .dp (Dp.newL (e4 _ _ (e3 _ _ (e2 _ _ g1))) (.cons (.str _) .nil)) (by decide +kernel)
  have o2 : Av K H4 (.ref a2) (.dict []) := .dic (e4 _ _ (e3 _ _ g2))
  have o3 : Av K H4 (.ref a3) (.tuple [.str "a"]) := .dp (Dp.newT (e4 _ _ g3) (.cons (.str _) .nil)) (by decide +kernel)
  have hod : ∃ d, Av K (cutM [] H4) ov d ∧ isNameD d = false := by
    have c : ∀ {v d}, Av K H4 v d → isNameD d = false → True := fun _ _ => trivial
    simp only [List.mem_cons, List.not_mem_nil, or_false] at hov
    rcases hov with rfl | rfl | rfl | rfl | rfl | rfl | rfl | rfl
    · exact ⟨_, .dp .non rfl, rfl⟩
    · exact ⟨_, .dp (.int _) rfl, rfl⟩
    · exact ⟨.list [.str "a"], .dp (Dp.newL (cutM_get (by simp) (e4 _ _ (e3 _ _ (e2 _ _ g1))) (fun _ z => nomatch z)) (.cons (.str _) .nil)) (by decide +kernel), rfl⟩
    · exact ⟨_, .dp (.str _) (by decide +kernel), by decide +kernel⟩
    · exact ⟨.dict [], .dic (cutM_get (by simp) (e4 _ _ (e3 _ _ g2)) (fun _ z => nomatch z)), rfl⟩
    · exact ⟨_, .dp (.bl _) rfl, rfl⟩
    · exact ⟨_, .dp (.str _) (by decide +kernel), by decide +kernel⟩
    · exact ⟨.tuple [.str "a"], .dp (Dp.newT (cutM_get (by simp) (e4 _ _ g3) (fun _ z => nomatch z)) (.cons (.str _) .nil)) (by decide +kernel), rfl⟩
  obtain ⟨d, hd2, hdn⟩ := hod
  clear o1 o2 o3 hov hat
  -- what stays at each call
  have stay : ∀ {H' : Hp}, LamX.ExtN H4 H' → IsNet K H' p N ∧ H' N.a = some (.dK ka) ∧ H' N.c = some (.dK kc) ∧ H' N.d = some (.dK kd) ∧ H' N.e = some (.dK ke) ∧ Av K H' ov d := fun {H'} x => by
    obtain ⟨dx, hn⟩ := hn
    exact ⟨⟨dx, x _ _ (e14 _ _ hn) (fun _ z => nomatch z)⟩, x _ _ (e14 _ _ ha) (fun _ z => nomatch z), x _ _ (e14 _ _ hc) (fun _ z => nomatch z), x _ _ (e14 _ _ hd) (fun _ z => nomatch z), x _ _ (e14 _ _ he) (fun _ z => nomatch z),
      (hd2.up (cutM_fr (C := []) (extN_frm x) (by simp))).up cutM_same⟩
  have tab : ∀ {H1 H2 : Hp}, Same H1 H2 → LamX.Tabs (Tb K) H1 → LamX.Tabs (Tb K) H2 := fun e h q hq => (h q hq).ext e
  have T4 : LamX.Tabs (Tb K) H4 := tab e14 hT
  have xx : ∀ {H1 H2 : Hp}, LamX.ExtN H4 H1 → Same H1 H2 → LamX.ExtN H4 H2 := fun a b => a.trans (LamX.ExtN.of b)
  subst hU
  refine seq_hide fun U hU => ?_
  walk_at "ws"
  have bad : ∀ {x : Str} {A' : Prop}, d = .str x → isNameS x = true → A' := fun e hx => by
    subst e
    rw [show isNameD (.str _) = isNameS _ from rfl, hx] at hdn
    cases hdn
  rw [w_lam]
  refine ⟨T4, fun F0 x0 t0 => ?_⟩
  obtain ⟨s1, s2, s3, s4, s5, s6⟩ := stay (LamX.ExtN.trans (LamX.ExtN.refl _) x0)
  walk_at "ws"
  refine f_meth s1 (fun _ => by rfl) ?_
  walk_at "ws"
  refine ⟨p, N, d, ka, rfl, s1, s6, s2, fun J0 j0 => ⟨fun _ => ⟨"NoStop", by decide +kernel, rfl, rfl, fun I0 i0 => ?_⟩, fun x y ed hx _ => bad ed hx⟩⟩
  have ew : word "NoStop" = "stop" := by decide +kernel
  rw [ew]
  clear ew
  have z0 : LamX.ExtN H4 I0 := LamX.ExtN.trans (LamX.ExtN.refl _) (LamX.ExtN.trans x0 (LamX.ExtN.of (j0.trans i0)))
  have y0 : LamX.Tabs (Tb K) I0 := tab (j0.trans i0) t0
  refine ⟨by decide, ?_⟩
  walk_at "al"
  rename_i L hL G0 e0 L0
  have nb : ∀ b o, H4 b = some o → (∀ ps, o ≠ .tbl ps) → b ≠ L := fun b o e nt z => by
    subst z
    rw [z0 _ o e nt] at hL
    cases hL
  have X0 : LamX.ExtN H4 G0 := LamX.ExtN.trans z0 (LamX.ExtN.of e0)
  have Y0 : LamX.Tabs (Tb K) G0 := tab e0 y0
  subst hU
  refine seq_hide fun U hU => ?_
  walk_at "ws"
  refine ⟨.inl ⟨rfl, _, SqL.of L0⟩, ?_⟩
  rw [w_lam]
  refine ⟨Y0, fun F1 x1 t1 => ?_⟩
  obtain ⟨s1, s2, s3, s4, s5, s6⟩ := stay (LamX.ExtN.trans (X0) x1)
  walk_at "ws"
  refine f_meth s1 (fun _ => by rfl) ?_
  walk_at "ws"
  refine ⟨p, N, d, ka, rfl, s1, s6, s2, fun J1 j1 => ⟨fun _ => ⟨"NoStop", by decide +kernel, rfl, rfl, fun I1 i1 => ?_⟩, fun x y ed hx _ => bad ed hx⟩⟩
  have ew : word "NoStop" = "stop" := by decide +kernel
  rw [ew]
  clear ew
  have z1 : LamX.ExtN H4 I1 := LamX.ExtN.trans (X0) (LamX.ExtN.trans x1 (LamX.ExtN.of (j1.trans i1)))
  have y1 : LamX.Tabs (Tb K) I1 := tab (j1.trans i1) t1
  have l1 : I1 L = some (.lst [V.str "stop"]) := i1 _ _ (j1 _ _ (x1 _ _ L0 (fun _ z => nomatch z)))
  refine ⟨L, _, _, rfl, rfl, l1, by decide, ?_⟩
  obtain ⟨G1, hG1⟩ : ∃ G, G = upd I1 L (.lst ([V.str "stop"] ++ [V.str "stop"])) := ⟨_, rfl⟩
  rw [← hG1]
  have L1 : G1 L = some (.lst [V.str "stop", V.str "stop"]) := by rw [hG1]; exact upd_same
  have X1 : LamX.ExtN H4 G1 := fun b o e nt => by
    rw [hG1, upd_ne (nb b o e nt)]
    exact z1 b o e nt
  have Y1 : LamX.Tabs (Tb K) G1 := by rw [hG1]; exact tabs_upd y1 l1 (fun _ z => nomatch z) (fun _ z => nomatch z)
  subst hU
  refine seq_hide fun U hU => ?_
  walk_at "ws"
  refine ⟨.inl ⟨rfl, _, SqL.of L1⟩, ?_⟩
  rw [w_lam]
  refine ⟨Y1, fun F2 x2 t2 => ?_⟩
  obtain ⟨s1, s2, s3, s4, s5, s6⟩ := stay (LamX.ExtN.trans (X1) x2)
  walk_at "ws"
  refine f_meth s1 (fun _ => by rfl) ?_
  walk_at "ws"
  refine ⟨p, N, d, kc, rfl, s1, s6, s3, fun J2 j2 => ⟨fun _ => ⟨"NoRule", by decide +kernel, rfl, rfl, fun I2 i2 => ?_⟩, fun x y ed hx _ => bad ed hx⟩⟩
  have ew : word "NoRule" = "rule" := by decide +kernel
  rw [ew]
  clear ew
  have z2 : LamX.ExtN H4 I2 := LamX.ExtN.trans (X1) (LamX.ExtN.trans x2 (LamX.ExtN.of (j2.trans i2)))
  have y2 : LamX.Tabs (Tb K) I2 := tab (j2.trans i2) t2
  have l2 : I2 L = some (.lst [V.str "stop", V.str "stop"]) := i2 _ _ (j2 _ _ (x2 _ _ L1 (fun _ z => nomatch z)))
  refine ⟨L, _, _, rfl, rfl, l2, by decide, ?_⟩
  obtain ⟨G2, hG2⟩ : ∃ G, G = upd I2 L (.lst ([V.str "stop", V.str "stop"] ++ [V.str "rule"])) := ⟨_, rfl⟩
  rw [← hG2]
  have L2 : G2 L = some (.lst [V.str "stop", V.str "stop", V.str "rule"]) := by rw [hG2]; exact upd_same
  have X2 : LamX.ExtN H4 G2 := fun b o e nt => by
    rw [hG2, upd_ne (nb b o e nt)]
    exact z2 b o e nt
  have Y2 : LamX.Tabs (Tb K) G2 := by rw [hG2]; exact tabs_upd y2 l2 (fun _ z => nomatch z) (fun _ z => nomatch z)
  subst hU
  refine seq_hide fun U hU => ?_
  walk_at "ws"
  refine ⟨.inl ⟨rfl, _, SqL.of L2⟩, ?_⟩
  rw [w_lam]
  refine ⟨Y2, fun F3 x3 t3 => ?_⟩
  obtain ⟨s1, s2, s3, s4, s5, s6⟩ := stay (LamX.ExtN.trans (X2) x3)
  walk_at "ws"
  refine f_meth s1 (fun _ => by rfl) ?_
  walk_at "ws"
  refine ⟨p, N, d, kd, rfl, s1, s6, s4, fun J3 j3 => ⟨fun _ => ⟨"NoTicket", by decide +kernel, rfl, rfl, fun I3 i3 => ?_⟩, fun x y ed hx _ => bad ed hx⟩⟩
  have ew : word "NoTicket" = "ticket" := by decide +kernel
  rw [ew]
  clear ew
  have z3 : LamX.ExtN H4 I3 := LamX.ExtN.trans (X2) (LamX.ExtN.trans x3 (LamX.ExtN.of (j3.trans i3)))
  have y3 : LamX.Tabs (Tb K) I3 := tab (j3.trans i3) t3
  have l3 : I3 L = some (.lst [V.str "stop", V.str "stop", V.str "rule"]) := i3 _ _ (j3 _ _ (x3 _ _ L2 (fun _ z => nomatch z)))
  refine ⟨L, _, _, rfl, rfl, l3, by decide, ?_⟩
  obtain ⟨G3, hG3⟩ : ∃ G, G = upd I3 L (.lst ([V.str "stop", V.str "stop", V.str "rule"] ++ [V.str "ticket"])) := ⟨_, rfl⟩
  rw [← hG3]
  have L3 : G3 L = some (.lst [V.str "stop", V.str "stop", V.str "rule", V.str "ticket"]) := by rw [hG3]; exact upd_same
  have X3 : LamX.ExtN H4 G3 := fun b o e nt => by
    rw [hG3, upd_ne (nb b o e nt)]
    exact z3 b o e nt
  have Y3 : LamX.Tabs (Tb K) G3 := by rw [hG3]; exact tabs_upd y3 l3 (fun _ z => nomatch z) (fun _ z => nomatch z)
  subst hU
  refine seq_hide fun U hU => ?_
  walk_at "ws"
  refine ⟨.inl ⟨rfl, _, SqL.of L3⟩, ?_⟩
  rw [w_lam]
  refine ⟨Y3, fun F4 x4 t4 => ?_⟩
  obtain ⟨s1, s2, s3, s4, s5, s6⟩ := stay (LamX.ExtN.trans (X3) x4)
  walk_at "ws"
  refine f_meth s1 (fun _ => by rfl) ?_
  walk_at "ws"
  refine ⟨p, N, d, ke, rfl, s1, s6, s5, fun J4 j4 => ⟨fun _ => ⟨"NoTrip", by decide +kernel, rfl, rfl, fun I4 i4 => ?_⟩, fun x y ed hx _ => bad ed hx⟩⟩
  have ew : word "NoTrip" = "trip" := by decide +kernel
  rw [ew]
  clear ew
  have z4 : LamX.ExtN H4 I4 := LamX.ExtN.trans (X3) (LamX.ExtN.trans x4 (LamX.ExtN.of (j4.trans i4)))
  have y4 : LamX.Tabs (Tb K) I4 := tab (j4.trans i4) t4
  have l4 : I4 L = some (.lst [V.str "stop", V.str "stop", V.str "rule", V.str "ticket"]) := i4 _ _ (j4 _ _ (x4 _ _ L3 (fun _ z => nomatch z)))
  refine ⟨L, _, _, rfl, rfl, l4, by decide, ?_⟩
  obtain ⟨G4, hG4⟩ : ∃ G, G = upd I4 L (.lst ([V.str "stop", V.str "stop", V.str "rule", V.str "ticket"] ++ [V.str "trip"])) := ⟨_, rfl⟩
  rw [← hG4]
  have L4 : G4 L = some (.lst [V.str "stop", V.str "stop", V.str "rule", V.str "ticket", V.str "trip"]) := by rw [hG4]; exact upd_same
  have X4 : LamX.ExtN H4 G4 := fun b o e nt => by
    rw [hG4, upd_ne (nb b o e nt)]
    exact z4 b o e nt
  have Y4 : LamX.Tabs (Tb K) G4 := by rw [hG4]; exact tabs_upd y4 l4 (fun _ z => nomatch z) (fun _ z => nomatch z)
  subst hU
  refine seq_hide fun U hU => ?_
  walk_at "ws"
  refine ⟨.inl ⟨rfl, _, SqL.of L4⟩, ?_⟩
  rw [w_lam]
  refine ⟨Y4, fun F5 x5 t5 => ?_⟩
  obtain ⟨s1, s2, s3, s4, s5, s6⟩ := stay (LamX.ExtN.trans (X4) x5)
  walk_at "ws"
  refine f_meth s1 (fun _ => by rfl) ?_
  walk_at "ws"
  refine ⟨p, N, d, ke, rfl, s1, s6, s5, fun J5 j5 => ⟨fun _ => ⟨"NoTrip", by decide +kernel, rfl, rfl, fun I5 i5 => ?_⟩, fun x y ed hx _ => bad ed hx⟩⟩
  have ew : word "NoTrip" = "trip" := by decide +kernel
  rw [ew]
  clear ew
  have z5 : LamX.ExtN H4 I5 := LamX.ExtN.trans (X4) (LamX.ExtN.trans x5 (LamX.ExtN.of (j5.trans i5)))
  have y5 : LamX.Tabs (Tb K) I5 := tab (j5.trans i5) t5
  have l5 : I5 L = some (.lst [V.str "stop", V.str "stop", V.str "rule", V.str "ticket", V.str "trip"]) := i5 _ _ (j5 _ _ (x5 _ _ L4 (fun _ z => nomatch z)))
  refine ⟨L, _, _, rfl, rfl, l5, by decide, ?_⟩
  obtain ⟨G5, hG5⟩ : ∃ G, G = upd I5 L (.lst ([V.str "stop", V.str "stop", V.str "rule", V.str "ticket", V.str "trip"] ++ [V.str "trip"])) := ⟨_, rfl⟩
  rw [← hG5]
  have L5 : G5 L = some (.lst [V.str "stop", V.str "stop", V.str "rule", V.str "ticket", V.str "trip", V.str "trip"]) := by rw [hG5]; exact upd_same
  have X5 : LamX.ExtN H4 G5 := fun b o e nt => by
    rw [hG5, upd_ne (nb b o e nt)]
    exact z5 b o e nt
  have Y5 : LamX.Tabs (Tb K) G5 := by rw [hG5]; exact tabs_upd y5 l5 (fun _ z => nomatch z) (fun _ z => nomatch z)
  subst hU
  walk_at "ws"
  refine ⟨by decide, ?_⟩
  walk_at "al"
  rename_i r hr2 Z ez gz
  refine ⟨.list ((["stop", "stop", "rule", "ticket", "trip", "trip"] : List Str).map PyData.str), .list ((["stop", "stop", "rule", "ticket", "trip", "trip"] : List Str).map PyData.str), .lst (SqL.of (ez _ _ L5)) (dpAll_strs (["stop", "stop", "rule", "ticket", "trip", "trip"] : List Str)), .lst (SqL.of gz) (dpAll_strs (["stop", "stop", "rule", "ticket", "trip", "trip"] : List Str)), by decide +kernel, by decide +kernel, ?_⟩
  rw [show PyData.eqv (.list ((["stop", "stop", "rule", "ticket", "trip", "trip"] : List Str).map PyData.str)) (.list ((["stop", "stop", "rule", "ticket", "trip", "trip"] : List Str).map PyData.str)) = true by decide +kernel]
  exact q Z (LamX.ExtN.trans (LamX.ExtN.of e14) (LamX.ExtN.trans X5 (LamX.ExtN.of ez))) (tab ez Y5)
end
end K06
set_option maxHeartbeats 4000000
namespace K06
open PySem L2
/-! ### the program's answer and the law's: the same word -/
theorem w_BadName : word "BadName" = "name" := by decide +kernel
theorem w_Twice : word "Twice" = "twice" := by decide +kernel
theorem w_NoStop : word "NoStop" = "stop" := by decide +kernel
theorem w_NoRule : word "NoRule" = "rule" := by decide +kernel
theorem w_BadNumber : word "BadNumber" = "number" := by decide +kernel
theorem w_TooMany : word "TooMany" = "many" := by decide +kernel
theorem w_BadRule : word "BadRule" = "days" := by decide +kernel
theorem m_BadName : ("BadName" : Str) ∈ raisedNames := by decide +kernel
theorem m_Twice : ("Twice" : Str) ∈ raisedNames := by decide +kernel
theorem m_NoStop : ("NoStop" : Str) ∈ raisedNames := by decide +kernel
theorem m_NoRule : ("NoRule" : Str) ∈ raisedNames := by decide +kernel
theorem m_BadNumber : ("BadNumber" : Str) ∈ raisedNames := by decide +kernel
theorem m_TooMany : ("TooMany" : Str) ∈ raisedNames := by decide +kernel
theorem m_BadRule : ("BadRule" : Str) ∈ raisedNames := by decide +kernel
/-- two dicts with the same names -/
def SameK (ka kw : List (Key × V)) : Prop := (∀ x : Str, (valV ka (.inr x)).isSome = (valV kw (.inr x)).isSome) ∧ ka.length = kw.length
theorem Ent.sameK {α : Type} {R R' : V → α → Prop} {l : List (Str × α)} {ka kw : List (Key × V)} (h : Ent R l ka) (g : Ent R' l kw) : SameK ka kw := ⟨fun x => Ent.isSome h g, by rw [h.len, g.len]⟩
section
variable {ka kw kc kr : List (Key × V)} {d d1 d2 d3 d4 : PyData} {x : Str}
theorem fresh_map (h : SameK ka kw) : lfreshD d kw = (freshD d ka).map word := by
  cases d <;> first | (show some ("name" : Str) = some (word "BadName"); rw [w_BadName]; done) | skip
  rename_i x
  show lfreshS x kw = (freshS x ka).map word
  unfold lfreshS freshS
  split
  · rw [h.1 x]
    split
    · rw [Option.map_some, w_Twice]
    · rfl
  · rw [Option.map_some, w_BadName]
theorem fresh_mem (h : freshD d ka = some x) : x ∈ raisedNames := by
  cases d <;> first | (cases (show some ("BadName" : Str) = some x from h); exact m_BadName) | skip
  rename_i y
  have h : freshS y ka = some x := h
  unfold freshS at h
  split at h
  · split at h
    · cases h; exact m_Twice
    · cases h
  · cases h; exact m_BadName
theorem inD_eq (h : SameK ka kw) : inD d ka = inD d kw := by
  cases d <;> first | rfl | skip
  rename_i x
  show (isNameS x && (valV ka (.inr x)).isSome) = (isNameS x && (valV kw (.inr x)).isSome)
  rw [h.1 x]
theorem stop_map (h : SameK ka kw) (hl : ka.length ≤ 8) : lstopOut d1 d2 d3 kw = (stopOut d1 d2 d3 ka).map word := by
  unfold lstopOut stopOut
  rw [fresh_map (d := d1) h]
  cases hf : freshD d1 ka with
  | some e => rfl
  | none =>
    simp only [Option.map_none]
    cases amongD d2 1 6 <;> cases amongD d3 0 30 <;> first | (simp only [if_true, Bool.false_eq_true, if_false, Option.map_some, w_BadNumber]; done) | skip
    simp only [if_true]
    have e : kw.length = 8 ↔ 8 ≤ ka.length := by rw [← h.2]; omega
    by_cases c : 8 ≤ ka.length
    · rw [if_pos c, if_pos (e.mpr c), Option.map_some, w_TooMany]
    · rw [if_neg c, if_neg fun z => c (e.mp z), Option.map_none]
theorem stop_mem (h : stopOut d1 d2 d3 ka = some x) : x ∈ raisedNames := by
  unfold stopOut at h
  split at h
  · rename_i e he
    cases h
    exact fresh_mem he
  · split at h
    · split at h
      · split at h
        · cases h; exact m_TooMany
        · cases h
      · cases h; exact m_BadNumber
    · cases h; exact m_BadNumber
theorem walk_map {ws : List Walk} (h : SameK ka kw) (hl : ws.length ≤ 12) : lwalkOut d1 d2 d3 kw ws = (walkOut d1 d2 d3 ka ws).map word := by
  unfold lwalkOut walkOut
  rw [← inD_eq (d := d1) h, ← inD_eq (d := d2) h]
  cases i1 : inD d1 ka with
  | false => simp only [Bool.false_eq_true, if_false, Option.map_some, w_NoStop]
  | true =>
    cases i2 : inD d2 ka with
    | false => simp only [Bool.false_eq_true, if_false, if_true, Option.map_some, w_NoStop]
    | true =>
      obtain ⟨a, _, rfl, _, _⟩ := inD_yes i1
      obtain ⟨b, _, rfl, _, _⟩ := inD_yes i2
      simp only [if_true]
      by_cases c : a = b ∨ hasPair ws a b = true ∨ hasPair ws b a = true
      · rw [if_pos c, if_pos c, Option.map_some, w_Twice]
      · rw [if_neg c, if_neg c]
        cases amongD d3 1 60 with
        | false => simp only [Bool.false_eq_true, if_false, Option.map_some, w_BadNumber]
        | true =>
          simp only [if_true]
          have e : ws.length = 12 ↔ 12 ≤ ws.length := by omega
          by_cases c : 12 ≤ ws.length
          · rw [if_pos c, if_pos (e.mpr c), Option.map_some, w_TooMany]
          · rw [if_neg c, if_neg fun z => c (e.mp z), Option.map_none]
theorem walk_mem {ws : List Walk} (h : walkOut d1 d2 d3 ka ws = some x) : x ∈ raisedNames := by
  unfold walkOut at h
  cases i1 : inD d1 ka with
  | false =>
    rw [i1] at h
    cases h
    exact m_NoStop
  | true =>
    cases i2 : inD d2 ka with
    | false =>
      rw [i1, i2] at h
      cases h
      exact m_NoStop
    | true =>
      obtain ⟨a, _, rfl, _, _⟩ := inD_yes i1
      obtain ⟨b, _, rfl, _, _⟩ := inD_yes i2
      rw [i1, i2, if_pos rfl, if_pos rfl] at h
      dsimp only at h
      split at h
      · cases h; exact m_Twice
      · split at h
        · split at h
          · cases h; exact m_TooMany
          · cases h
        · cases h; exact m_BadNumber
theorem rule_map {b : Bool} (h : SameK kc kr) (hl : kc.length ≤ 6) : lruleOut d1 b kr = (ruleOut d1 b kc).map word := by
  unfold lruleOut ruleOut
  rw [fresh_map (d := d1) h]
  cases hf : freshD d1 kc with
  | some e => rfl
  | none =>
    simp only [Option.map_none]
    cases b with
    | false => simp only [Bool.false_eq_true, if_false, Option.map_some, w_BadRule]
    | true =>
      simp only [if_true]
      have e : kr.length = 6 ↔ 6 ≤ kc.length := by rw [← h.2]; omega
      by_cases c : 6 ≤ kc.length
      · rw [if_pos c, if_pos (e.mpr c), Option.map_some, w_TooMany]
      · rw [if_neg c, if_neg fun z => c (e.mp z), Option.map_none]
theorem rule_mem {b : Bool} (h : ruleOut d1 b kc = some x) : x ∈ raisedNames := by
  unfold ruleOut at h
  split at h
  · rename_i e he
    cases h
    exact fresh_mem he
  · split at h
    · split at h
      · cases h; exact m_TooMany
      · cases h
    · cases h; exact m_BadRule
theorem ticket_map (h : SameK ka kw) (hl : ka.length ≤ 3) : lticketOut d1 d2 d3 d4 kw = (ticketOut d1 d2 d3 d4 ka).map word := by
  unfold lticketOut ticketOut
  rw [fresh_map (d := d1) h]
  cases hf : freshD d1 ka with
  | some e => rfl
  | none =>
    simp only [Option.map_none]
    cases amongD d2 0 10000 <;> cases amongD d3 1 1440 <;> cases zonesD d4 <;> first | (simp only [if_true, Bool.false_eq_true, if_false, Option.map_some, w_BadNumber]; done) | skip
    simp only [if_true]
    have e : kw.length = 3 ↔ 3 ≤ ka.length := by rw [← h.2]; omega
    by_cases c : 3 ≤ ka.length
    · rw [if_pos c, if_pos (e.mpr c), Option.map_some, w_TooMany]
    · rw [if_neg c, if_neg fun z => c (e.mp z), Option.map_none]
theorem ticket_mem (h : ticketOut d1 d2 d3 d4 ka = some x) : x ∈ raisedNames := by
  unfold ticketOut at h
  split at h
  · rename_i e he
    cases h
    exact fresh_mem he
  · split at h
    · split at h
      · split at h
        · split at h
          · cases h; exact m_TooMany
          · cases h
        · cases h; exact m_BadNumber
      · cases h; exact m_BadNumber
    · cases h; exact m_BadNumber
theorem trip_map (h : SameK ka kw) (g : SameK kc kr) (hl : ka.length ≤ 10) : ltripOut d1 d2 kw kr = (tripOut d1 d2 ka kc).map word := by
  unfold ltripOut tripOut
  rw [fresh_map (d := d1) h, ← inD_eq (d := d2) g]
  cases hf : freshD d1 ka with
  | some e => rfl
  | none =>
    simp only [Option.map_none]
    cases inD d2 kc with
    | false => simp only [Bool.false_eq_true, if_false, Option.map_some, w_NoRule]
    | true =>
      simp only [if_true]
      have e : kw.length = 10 ↔ 10 ≤ ka.length := by rw [← h.2]; omega
      by_cases c : 10 ≤ ka.length
      · rw [if_pos c, if_pos (e.mpr c), Option.map_some, w_TooMany]
      · rw [if_neg c, if_neg fun z => c (e.mp z), Option.map_none]
theorem trip_mem (h : tripOut d1 d2 ka kc = some x) : x ∈ raisedNames := by
  unfold tripOut at h
  split at h
  · rename_i e he
    cases h
    exact fresh_mem he
  · split at h
    · split at h
      · cases h; exact m_TooMany
      · cases h
    · cases h; exact m_NoRule
end
theorem shaped_word : ∀ x ∈ raisedNames, SeqAt.shaped (.str (word x)) = true := by decide +kernel
end K06
set_option maxHeartbeats 4000000
namespace K06
open PySem L2
/-! ### a net's, a world's containers grow -/
theorem Live.fr {M C : List Addr} {H H' : Hp} (h : Live M H) (e : FrM C H H') (hC : ∀ b ∈ C, ∃ o, H' b = some o ∧ ∀ ps, o ≠ .tbl ps) : Live M H' := fun b hb => by
  by_cases hc : b ∈ C
  · exact hC b hc
  · obtain ⟨o, h1, h2⟩ := h b hb
    exact ⟨o, e b o hc h1 h2, h2⟩
theorem tabs_sameB {T0 : List (Addr × Str)} {H H' : Hp} {a : Addr} {o : HO} (h : LamX.Tabs T0 H) (e : SameB a H H') (ha : H a = some o) (n1 : ∀ ps, o ≠ .tbl ps) (n2 : ∀ f, o ≠ .ext f) : LamX.Tabs T0 H' := fun q hq => by
  obtain ⟨ps, h1, h2, h3⟩ := h q hq
  have ne : q.1 ≠ a := fun z => by rw [z, ha] at h1; exact n1 ps (Option.some.inj h1)
  refine ⟨ps, e _ _ ne h1, h2, fun pos cv hc => ?_⟩
  obtain ⟨c, e1, e2⟩ := h3 pos cv hc
  have nc : c ≠ a := fun z => by rw [z, ha] at e2; exact n2 _ (Option.some.inj e2)
  exact ⟨c, e1, e _ _ nc e2⟩
theorem tabs_same {T0 : List (Addr × Str)} {H H' : Hp} (h : LamX.Tabs T0 H) (e : Same H H') : LamX.Tabs T0 H' := fun q hq => (h q hq).ext e
section
variable {K : PySem.W.Frag} {M C : List Addr} {H H' : Hp} {p W : Addr} {N : NA} {A : WA} {S : Sta}
theorem NetAt.put_stops {x : Str} {a : (Int × Int)} {v : V} {kvs : List (Key × V)} (h : NetAt K M H p N S) (e : FrM C H H') (hC : ∀ b ∈ C, b ∈ M) (o0 : N.b ∉ C) (o1 : N.c ∉ C) (o2 : N.d ∉ C) (o3 : N.e ∉ C) (h0 : H N.a = some (.dK kvs)) (h1 : H' N.a = some (.dK (kvs ++ [(.inr x, v)]))) (r : rS (cutM M H') v a) : NetAt K M H' p N { S with stops := S.stops ++ [(x, a)] } := by
  obtain ⟨n, ka, vb, kc, kd, ke, g1, g2, g3, g4, g5, k⟩ := h
  have s := cutM_fr e hC
  have k2 := k.up s
  obtain rfl : ka = kvs := by rw [g1] at h0; cases h0; rfl
  exact ⟨n.up s, _, _, _, _, _, h1, e _ _ o0 g2 (fun _ z => nomatch z), e _ _ o1 g3 (fun _ z => nomatch z), e _ _ o2 g4 (fun _ z => nomatch z), e _ _ o3 g5 (fun _ z => nomatch z), ⟨k2.a.snoc r, k2.b, k2.c, k2.d, k2.e⟩⟩
theorem NetAt.put_walks {a : Walk} {v : V} {vs : List V} (h : NetAt K M H p N S) (e : FrM C H H') (hC : ∀ b ∈ C, b ∈ M) (o0 : N.a ∉ C) (o1 : N.c ∉ C) (o2 : N.d ∉ C) (o3 : N.e ∉ C) (h0 : H N.b = some (.lst vs)) (h1 : H' N.b = some (.lst (vs ++ [v]))) (r : Dp K (cutM M H') v (walkD a)) : NetAt K M H' p N { S with walks := S.walks ++ [a] } := by
  obtain ⟨n, ka, vb, kc, kd, ke, g1, g2, g3, g4, g5, k⟩ := h
  have s := cutM_fr e hC
  have k2 := k.up s
  obtain rfl : vb = vs := by rw [g2] at h0; cases h0; rfl
  exact ⟨n.up s, _, _, _, _, _, e _ _ o0 g1 (fun _ z => nomatch z), h1, e _ _ o1 g3 (fun _ z => nomatch z), e _ _ o2 g4 (fun _ z => nomatch z), e _ _ o3 g5 (fun _ z => nomatch z), ⟨k2.a, by rw [List.map_append]; exact k2.b.app (.cons r .nil), k2.c, k2.d, k2.e⟩⟩
theorem NetAt.put_rules {x : Str} {a : Told} {v : V} {kvs : List (Key × V)} (h : NetAt K M H p N S) (e : FrM C H H') (hC : ∀ b ∈ C, b ∈ M) (o0 : N.a ∉ C) (o1 : N.b ∉ C) (o2 : N.d ∉ C) (o3 : N.e ∉ C) (h0 : H N.c = some (.dK kvs)) (h1 : H' N.c = some (.dK (kvs ++ [(.inr x, v)]))) (r : RuleAt K (cutM M H') v a) : NetAt K M H' p N { S with rules := S.rules ++ [(x, a)] } := by
  obtain ⟨n, ka, vb, kc, kd, ke, g1, g2, g3, g4, g5, k⟩ := h
  have s := cutM_fr e hC
  have k2 := k.up s
  obtain rfl : kc = kvs := by rw [g3] at h0; cases h0; rfl
  exact ⟨n.up s, _, _, _, _, _, e _ _ o0 g1 (fun _ z => nomatch z), e _ _ o1 g2 (fun _ z => nomatch z), h1, e _ _ o2 g4 (fun _ z => nomatch z), e _ _ o3 g5 (fun _ z => nomatch z), ⟨k2.a, k2.b, k2.c.snoc r, k2.d, k2.e⟩⟩
theorem NetAt.put_tickets {x : Str} {a : (Int × Int × List Int)} {v : V} {kvs : List (Key × V)} (h : NetAt K M H p N S) (e : FrM C H H') (hC : ∀ b ∈ C, b ∈ M) (o0 : N.a ∉ C) (o1 : N.b ∉ C) (o2 : N.c ∉ C) (o3 : N.e ∉ C) (h0 : H N.d = some (.dK kvs)) (h1 : H' N.d = some (.dK (kvs ++ [(.inr x, v)]))) (r : rTn (cutM M H') v a) : NetAt K M H' p N { S with tickets := S.tickets ++ [(x, a)] } := by
  obtain ⟨n, ka, vb, kc, kd, ke, g1, g2, g3, g4, g5, k⟩ := h
  have s := cutM_fr e hC
  have k2 := k.up s
  obtain rfl : kd = kvs := by rw [g4] at h0; cases h0; rfl
  exact ⟨n.up s, _, _, _, _, _, e _ _ o0 g1 (fun _ z => nomatch z), e _ _ o1 g2 (fun _ z => nomatch z), e _ _ o2 g3 (fun _ z => nomatch z), h1, e _ _ o3 g5 (fun _ z => nomatch z), ⟨k2.a, k2.b, k2.c, k2.d.snoc r, k2.e⟩⟩
theorem NetAt.put_trips {x : Str} {a : (Str × List Call)} {v : V} {kvs : List (Key × V)} (h : NetAt K M H p N S) (e : FrM C H H') (hC : ∀ b ∈ C, b ∈ M) (o0 : N.a ∉ C) (o1 : N.b ∉ C) (o2 : N.c ∉ C) (o3 : N.d ∉ C) (h0 : H N.e = some (.dK kvs)) (h1 : H' N.e = some (.dK (kvs ++ [(.inr x, v)]))) (r : rPn K (cutM M H') v a) : NetAt K M H' p N { S with trips := S.trips ++ [(x, a)] } := by
  obtain ⟨n, ka, vb, kc, kd, ke, g1, g2, g3, g4, g5, k⟩ := h
  have s := cutM_fr e hC
  have k2 := k.up s
  obtain rfl : ke = kvs := by rw [g5] at h0; cases h0; rfl
  exact ⟨n.up s, _, _, _, _, _, e _ _ o0 g1 (fun _ z => nomatch z), e _ _ o1 g2 (fun _ z => nomatch z), e _ _ o2 g3 (fun _ z => nomatch z), e _ _ o3 g4 (fun _ z => nomatch z), h1, ⟨k2.a, k2.b, k2.c, k2.d, k2.e.snoc r⟩⟩
theorem WorldAt.put_stops {x : Str} {a : (Int × Int)} {v : V} {kvs : List (Key × V)} (h : WorldAt K M H W A S) (e : FrM C H H') (hC : ∀ b ∈ C, b ∈ M) (o0 : A.w ∉ C) (o1 : A.r ∉ C) (o2 : A.t ∉ C) (o3 : A.p ∉ C) (h0 : H A.s = some (.dK kvs)) (h1 : H' A.s = some (.dK (kvs ++ [(.inr x, v)]))) (r : rS (cutM M H') v a) : WorldAt K M H' W A { S with stops := S.stops ++ [(x, a)] } := by
  obtain ⟨n, ka, vb, kc, kd, ke, g1, g2, g3, g4, g5, k⟩ := h
  have s := cutM_fr e hC
  have k2 := k.up s
  obtain rfl : ka = kvs := by rw [g1] at h0; cases h0; rfl
  exact ⟨n.up s, _, _, _, _, _, h1, e _ _ o0 g2 (fun _ z => nomatch z), e _ _ o1 g3 (fun _ z => nomatch z), e _ _ o2 g4 (fun _ z => nomatch z), e _ _ o3 g5 (fun _ z => nomatch z), ⟨k2.a.snoc r, k2.b, k2.c, k2.d, k2.e⟩⟩
theorem WorldAt.put_walks {a : Walk} {v : V} {vs : List V} (h : WorldAt K M H W A S) (e : FrM C H H') (hC : ∀ b ∈ C, b ∈ M) (o0 : A.s ∉ C) (o1 : A.r ∉ C) (o2 : A.t ∉ C) (o3 : A.p ∉ C) (h0 : H A.w = some (.lst vs)) (h1 : H' A.w = some (.lst (vs ++ [v]))) (r : Dp K (cutM M H') v (walkD a)) : WorldAt K M H' W A { S with walks := S.walks ++ [a] } := by
  obtain ⟨n, ka, vb, kc, kd, ke, g1, g2, g3, g4, g5, k⟩ := h
  have s := cutM_fr e hC
  have k2 := k.up s
  obtain rfl : vb = vs := by rw [g2] at h0; cases h0; rfl
  exact ⟨n.up s, _, _, _, _, _, e _ _ o0 g1 (fun _ z => nomatch z), h1, e _ _ o1 g3 (fun _ z => nomatch z), e _ _ o2 g4 (fun _ z => nomatch z), e _ _ o3 g5 (fun _ z => nomatch z), ⟨k2.a, by rw [List.map_append]; exact k2.b.app (.cons r .nil), k2.c, k2.d, k2.e⟩⟩
theorem WorldAt.put_rules {x : Str} {a : Told} {v : V} {kvs : List (Key × V)} (h : WorldAt K M H W A S) (e : FrM C H H') (hC : ∀ b ∈ C, b ∈ M) (o0 : A.s ∉ C) (o1 : A.w ∉ C) (o2 : A.t ∉ C) (o3 : A.p ∉ C) (h0 : H A.r = some (.dK kvs)) (h1 : H' A.r = some (.dK (kvs ++ [(.inr x, v)]))) (r : Dp K (cutM M H') v (Told.d a)) : WorldAt K M H' W A { S with rules := S.rules ++ [(x, a)] } := by
  obtain ⟨n, ka, vb, kc, kd, ke, g1, g2, g3, g4, g5, k⟩ := h
  have s := cutM_fr e hC
  have k2 := k.up s
  obtain rfl : kc = kvs := by rw [g3] at h0; cases h0; rfl
  exact ⟨n.up s, _, _, _, _, _, e _ _ o0 g1 (fun _ z => nomatch z), e _ _ o1 g2 (fun _ z => nomatch z), h1, e _ _ o2 g4 (fun _ z => nomatch z), e _ _ o3 g5 (fun _ z => nomatch z), ⟨k2.a, k2.b, Ent.snoc (R := fun v (t : Told) => Dp K (cutM M H') v t.d) r k2.c, k2.d, k2.e⟩⟩
theorem WorldAt.put_tickets {x : Str} {a : (Int × Int × List Int)} {v : V} {kvs : List (Key × V)} (h : WorldAt K M H W A S) (e : FrM C H H') (hC : ∀ b ∈ C, b ∈ M) (o0 : A.s ∉ C) (o1 : A.w ∉ C) (o2 : A.r ∉ C) (o3 : A.p ∉ C) (h0 : H A.t = some (.dK kvs)) (h1 : H' A.t = some (.dK (kvs ++ [(.inr x, v)]))) (r : rTw (cutM M H') v a) : WorldAt K M H' W A { S with tickets := S.tickets ++ [(x, a)] } := by
  obtain ⟨n, ka, vb, kc, kd, ke, g1, g2, g3, g4, g5, k⟩ := h
  have s := cutM_fr e hC
  have k2 := k.up s
  obtain rfl : kd = kvs := by rw [g4] at h0; cases h0; rfl
  exact ⟨n.up s, _, _, _, _, _, e _ _ o0 g1 (fun _ z => nomatch z), e _ _ o1 g2 (fun _ z => nomatch z), e _ _ o2 g3 (fun _ z => nomatch z), h1, e _ _ o3 g5 (fun _ z => nomatch z), ⟨k2.a, k2.b, k2.c, k2.d.snoc r, k2.e⟩⟩
theorem WorldAt.put_trips {x : Str} {a : (Str × List Call)} {v : V} {kvs : List (Key × V)} (h : WorldAt K M H W A S) (e : FrM C H H') (hC : ∀ b ∈ C, b ∈ M) (o0 : A.s ∉ C) (o1 : A.w ∉ C) (o2 : A.r ∉ C) (o3 : A.t ∉ C) (h0 : H A.p = some (.dK kvs)) (h1 : H' A.p = some (.dK (kvs ++ [(.inr x, v)]))) (r : rPw K (cutM M H') v a) : WorldAt K M H' W A { S with trips := S.trips ++ [(x, a)] } := by
  obtain ⟨n, ka, vb, kc, kd, ke, g1, g2, g3, g4, g5, k⟩ := h
  have s := cutM_fr e hC
  have k2 := k.up s
  obtain rfl : ke = kvs := by rw [g5] at h0; cases h0; rfl
  exact ⟨n.up s, _, _, _, _, _, e _ _ o0 g1 (fun _ z => nomatch z), e _ _ o1 g2 (fun _ z => nomatch z), e _ _ o2 g3 (fun _ z => nomatch z), e _ _ o3 g4 (fun _ z => nomatch z), h1, ⟨k2.a, k2.b, k2.c, k2.d, k2.e.snoc r⟩⟩
end
/-- a net and a world that tell the same -/
structure Two (K : PySem.W.Frag) (M : List Addr) (H : Hp) (p : Addr) (N : NA) (W : Addr) (A : WA) (S : Sta) : Prop where
  net : NetAt K M H p N S
  wor : WorldAt K M H W A S
  ok : S.Ok
  live : Live M H
  tab : LamX.Tabs (Tb K) H
structure Grow (tl : Bool) (H : Hp) (sort : Int) (g : Addr) (S S' : Sta) : Prop where
  s : ∃ l, S'.stops = S.stops ++ l
  r : ∃ l, S'.rules = S.rules ++ l
  ns : ∀ x z m, sort = 0 → H g = some (.lst [.str x, .int z, .int m]) → isNameS x = true → 1 ≤ z → z ≤ 6 → 0 ≤ m → m ≤ 30 → x ∈ S'.stops.map (·.1) ∨ S'.stops.length = 8
  nr : ∀ x v, tl = true → sort = 2 → H g = some (.lst [.str x, v]) → isNameS x = true → x ∈ S'.rules.map (·.1) ∨ S'.rules.length = 6
theorem Ent.mem_of_some {α : Type} {R : V → α → Prop} {l : List (Str × α)} {kvs : List (Key × V)} {x : Str} (h : Ent R l kvs) (hs : (valV kvs (.inr x)).isSome = true) : x ∈ l.map (·.1) := by
  cases e : valV kvs (.inr x) with
  | none => rw [e] at hs; cases hs
  | some v =>
    obtain ⟨a, ha, _⟩ := h.get e
    exact List.mem_map.mpr ⟨_, ha, rfl⟩
end K06
set_option maxHeartbeats 4000000
namespace K06
open PySem L2
local macro_rules | `(tactic| walk_at "ws") => `(tactic| try simp only [w_var0, w_varS, w_c, w_ret, w_retN, w_next, w_seq, w_asg, w_gn, w_drop, w_if, w_and, w_or, w_not, ex_bl, ex_int, ex_two, w_B, w_test, w_andV, w_orV, w_notV, w_ife, w_op, w_un, w_chain, w_nil, w_cons, w_cb, w_ca, w_lst, w_tup, w_I0, w_I, w_U, w_eqI, w_neI, w_eqS, w_neS,
  w_isN0, w_notN0, w_fld, w_sfld, w_me, w_ma, w_dget, w_din, w_dnotin, w_dput, w_slice, w_part, w_nopart, w_bm, w_bm0, w_par, w_lc, w_for, w_iList, w_iTup, w_iStr, w_iRng1, w_iZip, w_iEnum, w_tM1, w_dnewK, nn_str, nn_some, nn_none, nn_ref, w_pairN, w_pairC, w_disp, w_meD, w_maxD, w_bare, w_gtup, w_glst, w_gcons, w_gnil, w_gsub, cx_K, cx_K',
  L2.start, endsOf, List.map_cons, List.map_nil, List.length_cons, List.length_nil, List.cons_append, List.nil_append, Nat.zero_add, Nat.reduceAdd, Nat.reduceSub, List.replicate_succ, List.replicate_zero, List.set_cons_zero, List.set_cons_succ, List.set_nil,
  sp0_eq, sp1_eq, sp2_eq, sp3_eq, sp4_eq, sp5_eq, if_true, Bool.false_eq_true, if_false, decide_eq_true_eq, Bool.not_eq_true', decide_eq_false_iff_not, Bool.not_true, Bool.not_false, Bool.not_eq_false', isD_int_none, isD_int_bool, isD_int_int, isD_int_str, isD_int_list, isD_int_tuple, isD_int_dict, isD_bool_none, isD_bool_bool, isD_bool_int, isD_bool_str, isD_bool_list, isD_bool_tuple, isD_bool_dict, isD_str_none, isD_str_bool, isD_str_int, isD_str_str, isD_str_list, isD_str_tuple, isD_str_dict, isD_list_none, isD_list_bool, isD_list_int, isD_list_str, isD_list_list, isD_list_tuple, isD_list_dict, isD_tuple_none, isD_tuple_bool, isD_tuple_int, isD_tuple_str, isD_tuple_list, isD_tuple_tuple, isD_tuple_dict])
local macro_rules | `(tactic| walk_at "al") => `(tactic| (intro p hp; generalize hH : upd _ _ _ = H2; obtain ⟨e2, g2⟩ := alloc1 hp hH.symm; clear hH))
theorem Av_strV {K : PySem.W.Frag} {H : Hp} {x : Str} {d : PyData} (h : Av K H (.str x) d) : d = .str x := by
  cases h with
  | dp h _ => cases h; rfl
theorem Av_intV {K : PySem.W.Frag} {H : Hp} {x : Int} {d : PyData} (h : Av K H (.int x) d) : d = .int x := by
  cases h with
  | dp h _ => cases h; rfl
theorem valV_of_fresh {x : Str} {kvs : List (Key × V)} (h : freshD (.str x) kvs = none) : valV kvs (.inr x) = none := by
  obtain ⟨y, e, _, h2⟩ := freshD_none h
  cases e
  exact h2
theorem fresh_grow {α : Type} {R : V → α → Prop} {l : List (Str × α)} {kvs : List (Key × V)} {x e : Str} (h : Ent R l kvs) (hx : isNameS x = true) (hf : freshD (.str x) kvs = some e) : x ∈ l.map (·.1) := by
  have hf : freshS x kvs = some e := hf
  unfold freshS at hf
  rw [if_pos hx] at hf
  split at hf
  · rename_i c
    exact h.mem_of_some c
  · cases hf
theorem stop_fresh {d1 d2 d3 : PyData} {kvs : List (Key × V)} (h : stopOut d1 d2 d3 kvs = none) : freshD d1 kvs = none ∧ kvs.length < 8 := by
  unfold stopOut at h
  split at h
  · cases h
  · rename_i hf
    refine ⟨hf, ?_⟩
    split at h
    · split at h
      · split at h
        · cases h
        · omega
      · cases h
    · cases h
theorem stop_grow {R : V → (Int × Int) → Prop} {l : List (Str × (Int × Int))} {kvs : List (Key × V)} {x e : Str} {z m : Int} (h : Ent R l kvs) (hx : isNameS x = true) (hz : 1 ≤ z ∧ z ≤ 6) (hm : 0 ≤ m ∧ m ≤ 30) (hl : l.length ≤ 8) (ho : stopOut (.str x) (.int z) (.int m) kvs = some e) : x ∈ l.map (·.1) ∨ l.length = 8 := by
  unfold stopOut at ho
  split at ho
  · rename_i f hf
    exact .inl (fresh_grow h hx hf)
  · rw [show amongD (.int z) 1 6 = true from Bool.and_eq_true_iff.mpr ⟨decide_eq_true hz.1, decide_eq_true hz.2⟩, show amongD (.int m) 0 30 = true from Bool.and_eq_true_iff.mpr ⟨decide_eq_true hm.1, decide_eq_true hm.2⟩, if_pos rfl, if_pos rfl] at ho
    split at ho
    · rename_i c
      rw [h.len] at c
      exact .inr (by omega)
    · cases ho
theorem rule_fresh {d1 : PyData} {b : Bool} {kvs : List (Key × V)} (h : ruleOut d1 b kvs = none) : freshD d1 kvs = none ∧ b = true ∧ kvs.length < 6 := by
  unfold ruleOut at h
  split at h
  · cases h
  · rename_i hf
    split at h
    · rename_i c
      refine ⟨hf, c, ?_⟩
      split at h
      · cases h
      · omega
    · cases h
theorem rule_grow {R : V → Told → Prop} {l : List (Str × Told)} {kvs : List (Key × V)} {x e : Str} (h : Ent R l kvs) (hx : isNameS x = true) (hl : l.length ≤ 6) (ho : ruleOut (.str x) true kvs = some e) : x ∈ l.map (·.1) ∨ l.length = 6 := by
  unfold ruleOut at ho
  split at ho
  · rename_i f hf
    exact .inl (fresh_grow h hx hf)
  · rw [if_pos rfl] at ho
    split at ho
    · rename_i c
      rw [h.len] at c
      exact .inr (by omega)
    · cases ho
theorem ticket_fresh {d1 d2 d3 d4 : PyData} {kvs : List (Key × V)} (h : ticketOut d1 d2 d3 d4 kvs = none) : freshD d1 kvs = none ∧ kvs.length < 3 ∧ zonesD d4 = true := by
  unfold ticketOut at h
  split at h
  · cases h
  · rename_i hf
    split at h
    · split at h
      · split at h
        · rename_i c
          refine ⟨hf, ?_, c⟩
          split at h
          · cases h
          · omega
        · cases h
      · cases h
    · cases h
theorem trip_fresh {d1 d2 : PyData} {kvs kvc : List (Key × V)} (h : tripOut d1 d2 kvs kvc = none) : freshD d1 kvs = none ∧ kvs.length < 10 ∧ inD d2 kvc = true := by
  unfold tripOut at h
  split at h
  · cases h
  · rename_i hf
    split at h
    · rename_i c
      refine ⟨hf, ?_, c⟩
      split at h
      · cases h
      · omega
    · cases h
theorem walk_few {d1 d2 d3 : PyData} {kvs : List (Key × V)} {ws : List Walk} (h : walkOut d1 d2 d3 kvs ws = none) : ws.length < 12 := by
  cases i1 : inD d1 kvs with
  | false => unfold walkOut at h; rw [i1] at h; cases h
  | true =>
    cases i2 : inD d2 kvs with
    | false => unfold walkOut at h; rw [i1, i2] at h; cases h
    | true =>
      obtain ⟨a, _, rfl, _, _⟩ := inD_yes i1
      obtain ⟨b, _, rfl, _, _⟩ := inD_yes i2
      unfold walkOut at h
      rw [i1, i2, if_pos rfl, if_pos rfl] at h
      dsimp only at h
      split at h
      · cases h
      · split at h
        · split at h
          · cases h
          · omega
        · cases h
theorem nodup_snoc {α : Type} {l : List (Str × α)} {x : Str} {a : α} (h : (l.map (·.1)).Nodup) (hx : ∀ p ∈ l, p.1 ≠ x) : ((l ++ [(x, a)]).map (·.1)).Nodup := by
  rw [List.map_append, List.nodup_append]
  refine ⟨h, by simp, fun y hy z hz => ?_⟩
  obtain ⟨p, hp, rfl⟩ := List.mem_map.mp hy
  simp at hz
  subst hz
  exact hx p hp
theorem told_shape : ∀ t : Told, t.d.canLay0 = true ∧ t.d.depth ≤ t.h + 1
  | .always => ⟨by decide +kernel, by decide +kernel⟩
  | .week b => ⟨by simp [Told.d, PyData.canLay0, PyData.canLayAll0]; decide +kernel, by simp [Told.d, PyData.depth, PyData.depthAll, Told.h]⟩
  | .each l ss => by
    have h1 := SeqAt.canLay_of_shaped (shaped_ints ss)
    have h2 : (PyData.list (ss.map .int)).depth ≤ 1 := by
      rw [PyData.depth]
      have : PyData.depthAll (ss.map PyData.int) ≤ 0 := depth_all fun d hd => by
        obtain ⟨c, hc, rfl⟩ := List.mem_map.mp hd
        simp [PyData.depth]
      omega
    refine ⟨?_, ?_⟩
    · simp only [Told.d, PyData.canLay0, PyData.canLayAll0, Bool.and_true, Bool.true_and] at h1 ⊢
      rw [h1]
      decide +kernel
    · simp only [Told.d, PyData.depth, PyData.depthAll, Told.h] at h2 ⊢
      omega
  | .span f l t => by
    have ih := told_shape t
    refine ⟨?_, ?_⟩
    · simp only [Told.d, PyData.canLay0, PyData.canLayAll0, Bool.and_true, Bool.true_and]
      rw [ih.1]
      decide +kernel
    · simp only [Told.d, PyData.depth, PyData.depthAll, Told.h]
      omega
  | .but ds t => by
    have ih := told_shape t
    have h1 := SeqAt.canLay_of_shaped (shaped_ints ds)
    have h2 : (PyData.list (ds.map .int)).depth ≤ 1 := by
      rw [PyData.depth]
      have : PyData.depthAll (ds.map PyData.int) ≤ 0 := depth_all fun d hd => by
        obtain ⟨c, hc, rfl⟩ := List.mem_map.mp hd
        simp [PyData.depth]
      omega
    have hp := t.h_pos
    refine ⟨?_, ?_⟩
    · simp only [Told.d, PyData.canLay0, PyData.canLayAll0, Bool.and_true, Bool.true_and] at h1 ⊢
      rw [ih.1, h1]
      decide +kernel
    · simp only [Told.d, PyData.depth, PyData.depthAll, Told.h] at h2 ⊢
      omega
  | .either a b => by
    have i1 := told_shape a
    have i2 := told_shape b
    refine ⟨?_, ?_⟩
    · simp only [Told.d, PyData.canLay0, PyData.canLayAll0, Bool.and_true, Bool.true_and]
      rw [i1.1, i2.1]
      decide +kernel
    · simp only [Told.d, PyData.depth, PyData.depthAll, Told.h]
      omega
  | .both a b => by
    have i1 := told_shape a
    have i2 := told_shape b
    refine ⟨?_, ?_⟩
    · simp only [Told.d, PyData.canLay0, PyData.canLayAll0, Bool.and_true, Bool.true_and]
      rw [i1.1, i2.1]
      decide +kernel
    · simp only [Told.d, PyData.depth, PyData.depthAll, Told.h]
      omega
theorem shaped_told {t : Told} (h : t.h ≤ 3) : SeqAt.shaped t.d = true := by
  obtain ⟨h1, h2⟩ := told_shape t
  exact Bool.and_eq_true_iff.mpr ⟨h1, decide_eq_true (by omega)⟩
theorem told_ne (t : Told) : PyData.eqv t.d (.tuple []) = false := by
  cases t <;> simp [Told.d, PyData.eqv, PyData.eqvAll]
theorem eqv_tnil {d : PyData} (h : isD "tuple" d = true → d = .tuple []) : PyData.eqv d (.tuple []) = isD "tuple" d := by
  cases d with
  | tuple ds =>
    have e := h isD_tuple_tuple
    rw [e, isD_tuple_tuple]
    simp [PyData.eqv, PyData.eqvAll]
  | none => rw [isD_tuple_none]; simp [PyData.eqv]
  | bool b => rw [isD_tuple_bool]; simp [PyData.eqv]
  | int i => rw [isD_tuple_int]; simp [PyData.eqv]
  | str s => rw [isD_tuple_str]; simp [PyData.eqv]
  | list l => rw [isD_tuple_list]; simp [PyData.eqv]
  | dict l => rw [isD_tuple_dict]; simp [PyData.eqv]
theorem Ent.some_of_mem {α : Type} {R : V → α → Prop} {x : Str} : ∀ {l : List (Str × α)} {kvs : List (Key × V)}, Ent R l kvs → x ∈ l.map (·.1) → (valV kvs (.inr x)).isSome = true
  | [], [], _, h => by simp at h
  | xa :: l, kv :: r, ⟨h1, h2, h3⟩, h => by
    by_cases e : kv.1 = Sum.inr x
    · rw [valV_pos e]; rfl
    · rw [valV_neg e]
      refine Ent.some_of_mem h3 ?_
      rw [List.map_cons] at h
      rcases List.mem_cons.mp h with z | z
      · exact absurd (by rw [h1, z]) e
      · exact z
theorem good_calls {names : List Str} {kvs : List (Key × V)} (hk : ∀ x ∈ names, isNameS x = true ∧ (valV kvs (.inr x)).isSome = true) : ∀ {a : Option Call} {cs : List Call}, goodC names a cs → callsGood kvs a cs = true
  | _, [], _ => rfl
  | a, c :: r, ⟨h1, h2, h3, h4, h5⟩ => by
    obtain ⟨k1, k2⟩ := hk _ h1
    rw [callsGood, good_calls hk h5, h4]
    have e1 : inD (.str c.1) kvs = true := Bool.and_eq_true_iff.mpr ⟨k1, k2⟩
    rw [e1, okD_name k1, show amongD (.int c.2.1) 0 2879 = true from Bool.and_eq_true_iff.mpr ⟨decide_eq_true h2.1, decide_eq_true h2.2⟩, show amongD (.int c.2.2) 0 2879 = true from Bool.and_eq_true_iff.mpr ⟨decide_eq_true h3.1, decide_eq_true h3.2⟩]
    rfl
theorem good_names {names : List Str} (hk : ∀ x ∈ names, isNameS x = true) : ∀ {a : Option Call} {cs : List Call}, goodC names a cs → ∀ c ∈ cs, isNameS c.1 = true
  | _, [], _ => fun c hc => nomatch hc
  | a, c :: r, ⟨h1, _, _, _, h5⟩ => fun z hz => by
    rcases List.mem_cons.mp hz with rfl | hz
    · exact hk _ h1
    · exact good_names hk h5 z hz
section
variable {P : Program} {w : World} {K : PySem.W.Frag} {mg : Str → Option Value} {base : Heap}
def p_law_put (K : PySem.W.Frag) : P4 := fun v u m g H Q _ => ∃ M p N W A S sort gl tl, v = .ref p ∧ u = .ref W ∧ m = .int sort ∧ g = .ref gl ∧ Two K M H p N W A S ∧ (∀ b ∈ N.l ++ A.l, b ∈ M) ∧ (N.l ++ A.l).Nodup ∧ GivOk K (cutM M H) (S.stops.map (·.1)) sort gl ∧ (tl = true → sort = 2 → ∃ v1 v2 d1 t, cutM M H gl = some (.lst [v1, v2]) ∧ Av K (cutM M H) v1 d1 ∧ Dp K (cutM M H) v2 (Told.d t) ∧ t.ok ∧ t.h ≤ 3) ∧
  ∀ H' S', FrM (N.l ++ A.l) H H' → Two K M H' p N W A S' → Grow tl H sort gl S S' → Q (.bl true) H'
/-- the end of a put: the word or ('told', None), told the same -/
def Said (K : PySem.W.Frag) (H : Hp) (v : V) (o : Option Str) : Prop := match o with
  | none => Dp K H v (.tuple [.str "told", .none])
  | some y => v = .str y ∧ SeqAt.shaped (.str y) = true
theorem ok_law_put (T : Tx K mg) (B : Tabd K mg base) : Cal CX0 P w K mg base 12 "_law_put" (sp4 (p_law_put K)) := by
  refine cal_ofC T.d_law_put T.g__law_put (fun _ _ _ _ _ _ => bind4 fun _ _ _ _ => rfl) sc_law_put len4 fun vs H Q E ⟨v, u, m, g, e, h⟩ A0 outer s hr => ?_
  subst e
  have hu := hu_of hr
  have hu64 := hr.units
  have TB := B.put
  have hmT : ((He.cT K ("_law_put", none)).2, lq "_law_put") ∈ Tb K := by simp [Tb]
  have hu2 : ∀ p ∈ Tb K, p.1 = (He.cT K ("_law_put", none)).2 → p.2 = lq "_law_put" := by
    intro p hp e
    simp only [Tb, List.mem_cons, List.not_mem_nil, or_false] at hp
    rcases hp with rfl | rfl
    · rfl
    · exact absurd e.symm (eb_parts T).2.2.2.2.2.2.2.2.2
  refine ⟨_, PSs.nox (pss_cons (ps_if (pt_cmpR op_eq (pv 2) pe_int (nomark _)) (pss_cons (ps_set (i := 4) sc_law_put.nd rfl (Or.inl rfl) (pe_said T rfl TB rfl hmT hu2 hr (LamX.lamS_by (sc := defScope s_law_put) (by decide +kernel)) rfl (fun _ _ _ _ _ => rfl) (fun A outer s H E f c' hr => (pe_me (ok_Net_add_stop T) hr (by decide) (passes_call (takes_of rfl rfl rfl rfl) (fun _ _ _ _ h => h)) (pv 0) (pa_cons (pe_ix (ixL K) (pv 3) pe_int (fun _ _ => rfl)) (pa_cons (pe_ix (ixL K) (pv 3) pe_int (fun _ _ => rfl)) (pa_cons (pe_ix (ixL K) (pv 3) pe_int (fun _ _ => rfl)) pa_nil)))))))
    (pss_one (ps_set (i := 5) sc_law_put.nd rfl (Or.inl rfl) (pe_ca (ok_law_due_stop T) hr (by decide) rfl pass0 (pa_cons (pv 1) (pa_cons (pv 3) pa_nil)))))) (pss_one (ps_if (pt_cmpR op_eq (pv 2) pe_int (nomark _)) (pss_cons (ps_set (i := 4) sc_law_put.nd rfl (Or.inl rfl) (pe_said T rfl TB rfl hmT hu2 hr (LamX.lamS_by (sc := defScope s_law_put) (by decide +kernel)) rfl (fun _ _ _ _ _ => rfl) (fun A outer s H E f c' hr => (pe_me (ok_Net_add_walk T) hr (by decide) (passes_call (takes_of rfl rfl rfl rfl) (fun _ _ _ _ h => h)) (pv 0) (pa_cons (pe_ix (ixL K) (pv 3) pe_int (fun _ _ => rfl)) (pa_cons (pe_ix (ixL K) (pv 3) pe_int (fun _ _ => rfl)) (pa_cons (pe_ix (ixL K) (pv 3) pe_int (fun _ _ => rfl)) pa_nil)))))))
    (pss_one (ps_set (i := 5) sc_law_put.nd rfl (Or.inl rfl) (pe_ca (ok_law_due_walk T) hr (by decide) rfl pass0 (pa_cons (pv 1) (pa_cons (pv 3) pa_nil)))))) (pss_one (ps_if (pt_cmpR op_eq (pv 2) pe_int (nomark _)) (pss_cons (ps_set (i := 6) sc_law_put.nd rfl (Or.inr rfl) (pe_ifExp (PW.pt (pw_and (pt_val (pe_callB call_isi rfl T.f_isinstance (by decide +kernel) (pa_cons (pe_ix ix_list (pv 3) pe_int (fun _ _ => rfl)) (pa_cons (pe_bltn (v := .ty "tuple") rfl T.f_tuple (by decide +kernel) rfl) pa_nil)))) (pw_and1 (pt_cmpR (op_neD hu64) (pe_ix ix_list (pv 3) pe_int (fun _ _ => rfl)) (pe_tup pa_nil) (nomark _))))) (pe_ca (ok_law_rule T 3) hr (by decide) rfl pass0 (pa_cons (pe_ix ix_list (pv 3) pe_int (fun _ _ => rfl)) pa_nil)) (pe_ix ix_list (pv 3) pe_int (fun _ _ => rfl))))
    (pss_cons (ps_set (i := 4) sc_law_put.nd rfl (Or.inl rfl) (pe_said T rfl TB rfl hmT hu2 hr (LamX.lamS_by (sc := defScope s_law_put) (by decide +kernel)) rfl (fun _ _ _ _ _ => rfl) (fun A outer s H E f c' hr => (pe_me (ok_Net_add_rule T) hr (by decide) (passes_call (takes_of rfl rfl rfl rfl) (fun _ _ _ _ h => h)) (pv 0) (pa_cons (pe_ix (ixL K) (pv 3) pe_int (fun _ _ => rfl)) (pa_cons (pv 6) pa_nil))))))
    (pss_one (ps_set (i := 5) sc_law_put.nd rfl (Or.inl rfl) (pe_ca (ok_law_due_rule T) hr (by decide) rfl pass0 (pa_cons (pv 1) (pa_cons (pe_ix ix_list (pv 3) pe_int (fun _ _ => rfl)) (pa_cons (pe_ifExp (pt_cmpR (op_neD hu64) (pe_ix ix_list (pv 3) pe_int (fun _ _ => rfl)) (pe_tup pa_nil) (nomark _)) (pe_ix ix_list (pv 3) pe_int (fun _ _ => rfl)) pe_non) pa_nil)))))))) (pss_one (ps_if (pt_cmpR op_eq (pv 2) pe_int (nomark _)) (pss_cons (ps_set (i := 7) sc_law_put.nd rfl (Or.inr rfl) (pe_ifExp (pt_val (pe_callB call_isi rfl T.f_isinstance (by decide +kernel) (pa_cons (pe_ix ix_list (pv 3) pe_int (fun _ _ => rfl)) (pa_cons (pe_bltn (v := .ty "list") rfl T.f_list (by decide +kernel) rfl) pa_nil)))) (pe_callTy call_list_of rfl T.f_list (by decide +kernel) (pa_cons (pe_ix ix_list (pv 3) pe_int (fun _ _ => rfl)) pa_nil)) (pe_ix ix_list (pv 3) pe_int (fun _ _ => rfl))))
    (pss_cons (ps_set (i := 4) sc_law_put.nd rfl (Or.inl rfl) (pe_said T rfl TB rfl hmT hu2 hr (LamX.lamS_by (sc := defScope s_law_put) (by decide +kernel)) rfl (fun _ _ _ _ _ => rfl) (fun A outer s H E f c' hr => (pe_me (ok_Net_add_ticket T) hr (by decide) (passes_call (takes_of rfl rfl rfl rfl) (fun _ _ _ _ h => h)) (pv 0) (pa_cons (pe_ix (ixL K) (pv 3) pe_int (fun _ _ => rfl)) (pa_cons (pe_ix (ixL K) (pv 3) pe_int (fun _ _ => rfl)) (pa_cons (pe_ix (ixL K) (pv 3) pe_int (fun _ _ => rfl)) (pa_cons (pv 7) pa_nil))))))))
    (pss_cons (ps_set (i := 5) sc_law_put.nd rfl (Or.inl rfl) (pe_ca (ok_law_due_ticket T) hr (by decide) rfl pass0 (pa_cons (pv 1) (pa_cons (pv 3) pa_nil))))
    (pss_one (ps_if (pt_val (pe_callB call_isi rfl T.f_isinstance (by decide +kernel) (pa_cons (pv 7) (pa_cons (pe_bltn (v := .ty "list") rfl T.f_list (by decide +kernel) rfl) pa_nil)))) (pss_one (ps_expr (pe_bm PySem.F.plainAttrs_list PySem.F.slot_list_append PySem.F.type_list_append mt_append (pv 7) (pa_cons pe_int pa_nil)))) pss_nil))))) (pss_cons (ps_set (i := 8) sc_law_put.nd rfl (Or.inr rfl) (pe_callTy call_list_of rfl T.f_list (by decide +kernel) (pa_cons (pe_ix ix_list (pv 3) pe_int (fun _ _ => rfl)) pa_nil)))
    (pss_cons (ps_set (i := 4) sc_law_put.nd rfl (Or.inl rfl) (pe_said T rfl TB rfl hmT hu2 hr (LamX.lamS_by (sc := defScope s_law_put) (by decide +kernel)) rfl (fun _ _ _ _ _ => rfl) (fun A outer s H E f c' hr => (pe_me (ok_Net_add_trip T) hr (by decide) (passes_call (takes_of rfl rfl rfl rfl) (fun _ _ _ _ h => h)) (pv 0) (pa_cons (pe_ix (ixL K) (pv 3) pe_int (fun _ _ => rfl)) (pa_cons (pe_ix (ixL K) (pv 3) pe_int (fun _ _ => rfl)) (pa_cons (pv 8) pa_nil)))))))
    (pss_cons (ps_set (i := 5) sc_law_put.nd rfl (Or.inl rfl) (pe_ca (ok_law_due_trip T) hr (by decide) rfl pass0 (pa_cons (pv 1) (pa_cons (pv 3) pa_nil))))
    (pss_one (ps_expr (pe_bm0 PySem.F.plainAttrs_list PySem.F.slot_list_clear PySem.F.type_list_clear mt_clear (pv 8))))))))))))))
    (pss_one (ps_ret (pe_cmpR (op_eqD hu64) (pv 4) (pe_ifExp (pt_cmpR op_isN0 (pv 5) pe_non (nomark _)) (pe_tup (pa_cons pe_str (pa_cons pe_non pa_nil))) (pv 5)) (nomark _))))), ?_⟩
  obtain ⟨M, p, N, W, A, S, sort, gl, tl, rfl, rfl, rfl, rfl, tw, hCM, hnd, hg, htl, q⟩ := h
  have net := tw.net
  have wor := tw.wor
  obtain ⟨ka, vb, kc, kd, ke, na, nb, nc, nd, ne, nk⟩ := net.ex
  obtain ⟨la, wb, lc, ld, le, wa, wb', wc, wd, we, wk⟩ := wor.ex
  have ok := tw.ok
  have sa := nk.a.sameK wk.a
  have sc := nk.c.sameK wk.c
  have sd := nk.d.sameK wk.d
  have se := nk.e.sameK wk.e
  have la8 : ka.length ≤ 8 := by rw [nk.a.len]; exact ok.s8
  have lc6 : kc.length ≤ 6 := by rw [nk.c.len]; exact ok.r6
  have ld3 : kd.length ≤ 3 := by rw [nk.d.len]; exact ok.t3
  have le10 : ke.length ≤ 10 := by rw [nk.e.len]; exact ok.p10
  have wla8 : la.length ≤ 8 := by rw [wk.a.len]; exact ok.s8
  have wlc6 : lc.length ≤ 6 := by rw [wk.c.len]; exact ok.r6
  have wld3 : ld.length ≤ 3 := by rw [wk.d.len]; exact ok.t3
  have wle10 : le.length ≤ 10 := by rw [wk.e.len]; exact ok.p10
  -- what stays behind the making of the lambda
  have fr1 : ∀ {H1 : Hp}, LamX.ExtN H H1 → Same (cutM M H) (cutM M H1) := fun x => cutM_fr (C := []) (extN_frm x) (by simp)
  have toH : ∀ {H1 : Hp} {a : Addr} {o : HO}, LamX.ExtN H H1 → cutM M H a = some o → H1 a = some o := fun x e => cutM_same _ _ (fr1 x _ _ e)
  have nin : ∀ {a b : Addr}, a ∈ N.l → b ∈ A.l → a ≠ b := fun ha hb z => (List.nodup_append.mp hnd).2.2 _ ha _ hb z
  have nNl := (List.nodup_append.mp hnd).1
  have nAl := (List.nodup_append.mp hnd).2.1
  simp only [NA.l, WA.l, List.nodup_cons, List.mem_cons, List.not_mem_nil, or_false, not_or, not_false_eq_true, List.nodup_nil, and_true] at nNl nAl
  obtain ⟨⟨nab, nac, nad, nae⟩, ⟨nbc, nbd, nbe⟩, ⟨ncd, nce⟩, nde⟩ := nNl
  obtain ⟨⟨wsw, wsr, wst, wsp⟩, ⟨wwr, wwt, wwp⟩, ⟨wrt, wrp⟩, wtp⟩ := nAl
  -- nothing changed
  have stay : ∀ {H' : Hp}, FrM [] H H' → LamX.Tabs (Tb K) H' → Two K M H' p N W A S := fun {H'} f t =>
    ⟨net.fr f (by simp) (by simp), wor.fr f (by simp) (by simp), ok, tw.live.fr f (by simp), t⟩
  refine seq_hide fun U hU => ?_
  have tail : ∀ (o6 o7 o8 : Option V) (vf vd : V) (o : Option Str) (H8 : Hp), Said K H8 vf o → vd = wordV o → (∀ H', Same H8 H' → Q (.bl true) H') →
      U (endsOf Q) [some (.ref p), some (.ref W), some (.int sort), some (.ref gl), some vf, some vd, o6, o7, o8] H8 := by
    intro o6 o7 o8 vf vd o H8 hf hd q8
    subst hU
    subst hd
    walk_at "ws"
    cases o with
    | none =>
      walk_at "ws"
      refine ⟨by decide, ?_⟩
      walk_at "al"
      rename_i t ht H9 e9 g9
      refine ⟨_, _, L2.Dp.up hf e9, Dp.newT g9 (.cons (.str _) (.cons .non .nil)), by decide +kernel, by decide +kernel, ?_⟩
      rw [show PyData.eqv (.tuple [.str "told", .none]) (.tuple [.str "told", .none]) = true by decide +kernel]
      exact q8 H9 e9
    | some y =>
      obtain ⟨rfl, hs⟩ := hf
      walk_at "ws"
      refine ⟨.str y, .str y, .str _, .str _, hs, hs, ?_⟩
      rw [show PyData.eqv (.str y) (.str y) = true by simp [PyData.eqv]]
      exact q8 H8 (Same.refl _)
  have grow0 : (sort = 0 → ∀ x z m, H gl = some (.lst [.str x, .int z, .int m]) → isNameS x = true → 1 ≤ z → z ≤ 6 → 0 ≤ m → m ≤ 30 → x ∈ S.stops.map (·.1) ∨ S.stops.length = 8) →
      (tl = true → sort = 2 → ∀ x v, H gl = some (.lst [.str x, v]) → isNameS x = true → x ∈ S.rules.map (·.1) ∨ S.rules.length = 6) → Grow tl H sort gl S S := fun h1 h2 =>
    ⟨⟨[], by simp⟩, ⟨[], by simp⟩, fun x z m e => h1 e x z m, fun x v tt e => h2 tt e x v⟩
  clear hU
  rcases hg with ⟨hs, v1, v2, v3, d1, d2, d3, hgl, a1, a2, a3⟩ | ⟨rfl, v1, v2, d1, hgl, a1, a2⟩ | ⟨rfl, v1, v2, v3, v4, d1, d2, d3, d4, hgl, a1, a2, a3, a4, hl4⟩ | ⟨rfl, v1, v2, c, d1, d2, cv, cs, hgl, a1, a2, hc, hcv, hc2, hc6, hgo⟩
  · rcases hs with rfl | rfl
    · walk_at "ws"
      rw [w_lam]
      refine ⟨tw.tab, fun H1 x1 t1 => ?_⟩
      have hg1 := toH x1 hgl
      have n1 := (net.n.up (fr1 x1)).up cutM_same
      have w1 := (wor.n.up (fr1 x1)).up cutM_same
      have b1 := (a1.up (fr1 x1)).up cutM_same
      have b2 := (a2.up (fr1 x1)).up cutM_same
      have b3 := (a3.up (fr1 x1)).up cutM_same
      walk_at "ws"
      refine f_meth n1 (fun _ => by rfl) ?_
      refine ⟨gl, _, 0, _, rfl, rfl, SqL.of hg1, atI_nat (j := 0) rfl, ?_⟩
      refine ⟨gl, _, 1, _, rfl, rfl, SqL.of hg1, atI_nat (j := 1) rfl, ?_⟩
      refine ⟨gl, _, 2, _, rfl, rfl, SqL.of hg1, atI_nat (j := 2) rfl, ?_⟩
      walk_at "ws"
      refine ⟨p, N, d1, d2, d3, ka, rfl, n1, b1, b2, b3, x1 _ _ na (fun _ z => nomatch z), la8, fun x hx H2 e2 => ⟨x, stop_mem hx, rfl, rfl, fun H3 e3 => ?_⟩, fun hx x z m t H2 ed1 ed2 ed3 ht sb ha2 ht2 => ?_⟩
      · have e13 := e2.trans e3
        have f13 : FrM [] H H3 := FrM.trans (extN_frm x1) e13.frm
        have ho : lstopOut d1 d2 d3 la = some (word x) := by rw [stop_map sa la8, hx]; rfl
        refine ⟨W, A, gl, v1, v2, v3, d1, d2, d3, la, rfl, w1.up e13, rfl, SqL.of (e13 _ _ hg1), b1.up e13, b2.up e13, b3.up e13, e13 _ _ (x1 _ _ wa (fun _ z => nomatch z)), wla8, fun y hy H4 e4 => ?_, fun hn => by rw [ho] at hn; cases hn⟩
        obtain rfl : word x = y := by rw [ho] at hy; exact Option.some.inj hy
        refine tail _ _ _ _ _ (some (word x)) H4 ⟨rfl, shaped_word x (stop_mem hx)⟩ rfl fun H5 e5 => ?_
        have f15 : FrM [] H H5 := FrM.trans f13 (e4.trans e5).frm
        refine q H5 S (f15.mono (by simp)) (stay f15 (tabs_same t1 (e13.trans (e4.trans e5)))) (grow0 (fun _ y z m hh hyn z1 z2 m1 m2 => ?_) fun _ z => by omega)
        have hh2 := cutM_same _ _ hgl
        rw [hh] at hh2
        cases hh2
        obtain rfl := Av_strV b1
        obtain rfl := Av_intV b2
        obtain rfl := Av_intV b3
        exact stop_grow nk.a hyn ⟨z1, z2⟩ ⟨m1, m2⟩ ok.s8 hx
      · subst ed1
        subst ed2
        subst ed3
        obtain rfl := Av_str b1
        obtain rfl := Av_int b2
        obtain rfl := Av_int b3
        obtain ⟨hfr, hlt⟩ := stop_fresh hx
        have hxv := valV_of_fresh hfr
        obtain ⟨_, ey, hxn, _⟩ := freshD_none hfr
        cases ey
        refine ⟨by decide, ?_⟩
        walk_at "al"
        rename_i r hr3 H3 e3 g3
        have ho : lstopOut (.str x) (.int z) (.int m) la = none := by rw [stop_map sa la8, hx]; rfl
        have mA : N.a ∈ N.l := by simp [NA.l]
        have mS : A.s ∈ A.l := by simp [WA.l]
        have nas := nin mA mS
        have f12 : FrM [N.a] H H2 := FrM.trans (extN_frm x1) (sb.frm (by simp))
        have f13 : FrM [N.a] H H3 := f12.trans e3.frm
        have sub1 : ∀ b ∈ [N.a], b ∈ M := fun b hb => by
          simp at hb
          subst hb
          exact hCM _ (List.mem_append_left _ mA)
        have l13 := cutM_fr f13 sub1
        have w3 := (wor.n.up l13).up cutM_same
        have wa3 : H3 A.s = some (.dK la) := f13 _ _ (by simp; exact nas.symm) wa (fun _ z => nomatch z)
        have T3 := tabs_same (tabs_sameB t1 sb (x1 _ _ na (fun _ z => nomatch z)) (fun _ z => nomatch z) (fun _ z => nomatch z)) e3
        have live3 : Live M H3 := tw.live.fr f13 fun b hb => by
          simp at hb
          subst hb
          exact ⟨_, e3 _ _ ha2, fun _ z => nomatch z⟩
        refine ⟨W, A, gl, .str x, .int z, .int m, .str x, .int z, .int m, la, rfl, w3, rfl, SqL.of (cutM_same _ _ (l13 _ _ hgl)), (a1.up l13).up cutM_same, (a2.up l13).up cutM_same, (a3.up l13).up cutM_same, wa3, wla8, (fun y hy => by rw [ho] at hy; cases hy), fun _ x' z' m' t' H4 q1 q2 q3 ht' sb' wa' ht2' => ?_⟩
        cases q1
        cases q2
        cases q3
        have ras : r ≠ A.s := (ne_of_none (f12 _ _ (by simp; exact nas.symm) wa (fun _ z => nomatch z)) hr3).symm
        have T4 := tabs_sameB T3 sb' wa3 (fun _ z => nomatch z) (fun _ z => nomatch z)
        refine tail _ _ _ _ _ none H4 (Dp.newT (sb' _ _ ras g3) (.cons (.str _) (.cons .non .nil))) rfl fun H5 e5 => ?_
        have f15 : FrM [N.a, A.s] H H5 := ((f13.mono (by simp)).trans (sb'.frm (by simp))).trans e5.frm
        have sub2 : ∀ b ∈ [N.a, A.s], b ∈ M := fun b hb => by
          simp at hb
          rcases hb with rfl | rfl
          · exact hCM _ (List.mem_append_left _ mA)
          · exact hCM _ (List.mem_append_right _ mS)
        have hna : H5 N.a = some (.dK (ka ++ [(.inr x, .ref t)])) := by
          rw [← putK_new hxv]
          exact e5 _ _ (sb' _ _ nas (e3 _ _ ha2))
        have hwa : H5 A.s = some (.dK (la ++ [(.inr x, .ref t')])) := by
          have hxv2 : valV la (.inr x) = none := by
            have := sa.1 x
            rw [hxv] at this
            cases e : valV la (.inr x) with
            | none => rfl
            | some v => rw [e] at this; cases this
          rw [← putK_new hxv2]
          exact e5 _ _ wa'
        have live1 : Live M H1 := tw.live.fr (C := []) (extN_frm x1) (by simp)
        have rt : rS (cutM M H5) (.ref t) (z, m) := ⟨t, rfl, cutM_get (live1.not ht) (e5 _ _ (sb' _ _ (ne_of_none (x1 _ _ wa (fun _ z => nomatch z)) ht).symm (e3 _ _ ht2))) (fun _ z => nomatch z)⟩
        have rt' : rS (cutM M H5) (.ref t') (z, m) := ⟨t', rfl, cutM_get (live3.not ht') (e5 _ _ ht2') (fun _ z => nomatch z)⟩
        have nN : ∀ {b : Addr}, b ∈ N.l → b ≠ N.a → b ∉ [N.a, A.s] := fun hb h z => by
          simp at z
          rcases z with rfl | rfl
          · exact h rfl
          · exact nin hb mS rfl
        have nA : ∀ {b : Addr}, b ∈ A.l → b ≠ A.s → b ∉ [N.a, A.s] := fun hb h z => by
          simp at z
          rcases z with rfl | rfl
          · exact nin mA hb rfl
          · exact h rfl
        have net' := net.put_stops f15 sub2 (nN (by simp [NA.l]) (Ne.symm nab)) (nN (by simp [NA.l]) (Ne.symm nac)) (nN (by simp [NA.l]) (Ne.symm nad)) (nN (by simp [NA.l]) (Ne.symm nae)) na hna rt
        have wor' := wor.put_stops f15 sub2 (nA (by simp [WA.l]) (Ne.symm wsw)) (nA (by simp [WA.l]) (Ne.symm wsr)) (nA (by simp [WA.l]) (Ne.symm wst)) (nA (by simp [WA.l]) (Ne.symm wsp)) wa hwa rt'
        have hnew := nk.a.none_of hxv
        have slen : S.stops.length < 8 := by rw [← nk.a.len]; exact hlt
        refine q H5 _ (f15.mono fun b hb => by simp at hb; rcases hb with rfl | rfl; exact List.mem_append_left _ mA; exact List.mem_append_right _ mS) ⟨net', wor', ?_, ?_, tabs_same T4 e5⟩ ⟨⟨_, rfl⟩, ⟨[], by simp⟩, fun y z' m' _ hh _ _ _ _ _ => ?_, fun _ _ _ z => by omega⟩
        · exact { ok with
            s8 := by show (S.stops ++ _).length ≤ 8; rw [List.length_append]; simp; omega
            sn := nodup_snoc ok.sn hnew
            sk := fun y hy => by
              rcases List.mem_append.mp hy with hy | hy
              · exact ok.sk y hy
              · simp at hy; subst hy; exact hxn }
        · exact tw.live.fr f15 fun b hb => by
            simp at hb
            rcases hb with rfl | rfl
            · exact ⟨_, hna, fun _ z => nomatch z⟩
            · exact ⟨_, hwa, fun _ z => nomatch z⟩
        · have hh2 := cutM_same _ _ hgl
          rw [hh] at hh2
          cases hh2
          exact .inl (by simp)
    · walk_at "ws"
      rw [w_lam]
      refine ⟨tw.tab, fun H1 x1 t1 => ?_⟩
      have hg1 := toH x1 hgl
      have n1 := (net.n.up (fr1 x1)).up cutM_same
      have w1 := (wor.n.up (fr1 x1)).up cutM_same
      have b1 := (a1.up (fr1 x1)).up cutM_same
      have b2 := (a2.up (fr1 x1)).up cutM_same
      have b3 := (a3.up (fr1 x1)).up cutM_same
      have k1 := (nk.b.up (fr1 x1)).up cutM_same
      have k2 := (wk.b.up (fr1 x1)).up cutM_same
      walk_at "ws"
      refine f_meth n1 (fun _ => by rfl) ?_
      refine ⟨gl, _, 0, _, rfl, rfl, SqL.of hg1, atI_nat (j := 0) rfl, ?_⟩
      refine ⟨gl, _, 1, _, rfl, rfl, SqL.of hg1, atI_nat (j := 1) rfl, ?_⟩
      refine ⟨gl, _, 2, _, rfl, rfl, SqL.of hg1, atI_nat (j := 2) rfl, ?_⟩
      walk_at "ws"
      refine ⟨p, N, d1, d2, d3, ka, vb, S.walks, rfl, n1, b1, b2, b3, x1 _ _ na (fun _ z => nomatch z), x1 _ _ nb (fun _ z => nomatch z), k1, ok.w12, ok.wn, fun x hx H2 e2 => ⟨x, walk_mem hx, rfl, rfl, fun H3 e3 => ?_⟩, fun hx x y m t H2 ed1 ed2 ed3 hxn hyn ht sb ha2 ht2 => ?_⟩
      · have e13 := e2.trans e3
        have f13 : FrM [] H H3 := FrM.trans (extN_frm x1) e13.frm
        have ho : lwalkOut d1 d2 d3 la S.walks = some (word x) := by rw [walk_map sa ok.w12, hx]; rfl
        refine ⟨W, A, gl, v1, v2, v3, d1, d2, d3, la, wb, S.walks, rfl, w1.up e13, rfl, SqL.of (e13 _ _ hg1), b1.up e13, b2.up e13, b3.up e13, e13 _ _ (x1 _ _ wa (fun _ z => nomatch z)), e13 _ _ (x1 _ _ wb' (fun _ z => nomatch z)), k2.up e13, ok.w12, ok.wn, fun y hy H4 e4 => ?_, fun hn => by rw [ho] at hn; cases hn⟩
        obtain rfl : word x = y := by rw [ho] at hy; exact Option.some.inj hy
        refine tail _ _ _ _ _ (some (word x)) H4 ⟨rfl, shaped_word x (walk_mem hx)⟩ rfl fun H5 e5 => ?_
        have f15 : FrM [] H H5 := FrM.trans f13 (e4.trans e5).frm
        refine q H5 S (f15.mono (by simp)) (stay f15 (tabs_same t1 (e13.trans (e4.trans e5)))) (grow0 (fun z => by omega) fun _ z => by omega)
      · subst ed1
        subst ed2
        subst ed3
        obtain rfl := Av_str b1
        obtain rfl := Av_str b2
        obtain rfl := Av_int b3
        have hlt := walk_few hx
        refine ⟨by decide, ?_⟩
        walk_at "al"
        rename_i r hr3 H3 e3 g3
        have ho : lwalkOut (.str x) (.str y) (.int m) la S.walks = none := by rw [walk_map sa ok.w12, hx]; rfl
        have mA : N.b ∈ N.l := by simp [NA.l]
        have mS : A.w ∈ A.l := by simp [WA.l]
        have nas := nin mA mS
        have f12 : FrM [N.b] H H2 := FrM.trans (extN_frm x1) (sb.frm (by simp))
        have f13 : FrM [N.b] H H3 := f12.trans e3.frm
        have sub1 : ∀ b ∈ [N.b], b ∈ M := fun b hb => by
          simp at hb
          subst hb
          exact hCM _ (List.mem_append_left _ mA)
        have l13 := cutM_fr f13 sub1
        have w3 := (wor.n.up l13).up cutM_same
        have wa3 : H3 A.w = some (.lst wb) := f13 _ _ (by simp; exact nas.symm) wb' (fun _ z => nomatch z)
        have T3 := tabs_same (tabs_sameB t1 sb (x1 _ _ nb (fun _ z => nomatch z)) (fun _ z => nomatch z) (fun _ z => nomatch z)) e3
        have live3 : Live M H3 := tw.live.fr f13 fun b hb => by
          simp at hb
          subst hb
          exact ⟨_, e3 _ _ ha2, fun _ z => nomatch z⟩
        have wla3 : H3 A.s = some (.dK la) := f13 _ _ (by simp; exact (nin mA (by simp [WA.l])).symm) wa (fun _ z => nomatch z)
        refine ⟨W, A, gl, .str x, .str y, .int m, .str x, .str y, .int m, la, wb, S.walks, rfl, w3, rfl, SqL.of (cutM_same _ _ (l13 _ _ hgl)), (a1.up l13).up cutM_same, (a2.up l13).up cutM_same, (a3.up l13).up cutM_same, wla3, wa3, (wk.b.up l13).up cutM_same, ok.w12, ok.wn, (fun y hy => by rw [ho] at hy; cases hy), fun _ x' y' m' t' H4 q1 q2 q3 _ _ ht' sb' wa' ht2' => ?_⟩
        cases q1
        cases q2
        cases q3
        have ras : r ≠ A.w := (ne_of_none (f12 _ _ (by simp; exact nas.symm) wb' (fun _ z => nomatch z)) hr3).symm
        have T4 := tabs_sameB T3 sb' wa3 (fun _ z => nomatch z) (fun _ z => nomatch z)
        refine tail _ _ _ _ _ none H4 (Dp.newT (sb' _ _ ras g3) (.cons (.str _) (.cons .non .nil))) rfl fun H5 e5 => ?_
        have f15 : FrM [N.b, A.w] H H5 := ((f13.mono (by simp)).trans (sb'.frm (by simp))).trans e5.frm
        have sub2 : ∀ b ∈ [N.b, A.w], b ∈ M := fun b hb => by
          simp at hb
          rcases hb with rfl | rfl
          · exact hCM _ (List.mem_append_left _ mA)
          · exact hCM _ (List.mem_append_right _ mS)
        have live1 : Live M H1 := tw.live.fr (C := []) (extN_frm x1) (by simp)
        have nN : ∀ {b : Addr}, b ∈ N.l → b ≠ N.b → b ∉ [N.b, A.w] := fun hb h z => by
          simp at z
          rcases z with rfl | rfl
          · exact h rfl
          · exact nin hb mS rfl
        have nA : ∀ {b : Addr}, b ∈ A.l → b ≠ A.w → b ∉ [N.b, A.w] := fun hb h z => by
          simp at z
          rcases z with rfl | rfl
          · exact nin mA hb rfl
          · exact h rfl
        have sub3 : ∀ b ∈ [N.b, A.w], b ∈ N.l ++ A.l := fun b hb => by
          simp at hb
          rcases hb with rfl | rfl
          · exact List.mem_append_left _ mA
          · exact List.mem_append_right _ mS
        have hna : H5 N.b = some (.lst (vb ++ [.ref t])) := e5 _ _ (sb' _ _ nas (e3 _ _ ha2))
        have hwa : H5 A.w = some (.lst (wb ++ [.ref t'])) := e5 _ _ wa'
        have rt : Dp K (cutM M H5) (.ref t) (walkD (x, y, m)) := Dp.newT (cutM_get (live1.not ht) (e5 _ _ (sb' _ _ (ne_of_none (x1 _ _ wb' (fun _ z => nomatch z)) ht).symm (e3 _ _ ht2))) (fun _ z => nomatch z)) (.cons (.str _) (.cons (.str _) (.cons (.int _) .nil)))
        have rt' : Dp K (cutM M H5) (.ref t') (walkD (x, y, m)) := Dp.newT (cutM_get (live3.not ht') (e5 _ _ ht2') (fun _ z => nomatch z)) (.cons (.str _) (.cons (.str _) (.cons (.int _) .nil)))
        have net' := net.put_walks f15 sub2 (nN (by simp [NA.l]) nab) (nN (by simp [NA.l]) (Ne.symm nbc)) (nN (by simp [NA.l]) (Ne.symm nbd)) (nN (by simp [NA.l]) (Ne.symm nbe)) nb hna rt
        have wor' := wor.put_walks f15 sub2 (nA (by simp [WA.l]) wsw) (nA (by simp [WA.l]) (Ne.symm wwr)) (nA (by simp [WA.l]) (Ne.symm wwt)) (nA (by simp [WA.l]) (Ne.symm wwp)) wb' hwa rt'
        refine q H5 _ (f15.mono sub3) ⟨net', wor', ?_, ?_, tabs_same T4 e5⟩ ⟨⟨[], by simp⟩, ⟨[], by simp⟩, fun _ _ _ z => by omega, fun _ _ _ z => by omega⟩
        · exact { ok with
            w12 := by show (S.walks ++ _).length ≤ 12; rw [List.length_append]; simp; omega
            wn := fun z hz => by
              rcases List.mem_append.mp hz with hz | hz
              · exact ok.wn z hz
              · simp at hz; subst hz; exact ⟨hxn, hyn⟩ }
        · exact tw.live.fr f15 fun b hb => by
            simp at hb
            rcases hb with rfl | rfl
            · exact ⟨_, hna, fun _ z => nomatch z⟩
            · exact ⟨_, hwa, fun _ z => nomatch z⟩
  · have hg0 := cutM_same _ _ hgl
    have aa : ∃ isr : Bool, (tl = true → isr = true) ∧ (isr = true → ∃ t : Told, Dp K (cutM M H) v2 t.d ∧ t.ok ∧ t.h ≤ 3) ∧ (isr = false → ∃ d2, Dp K (cutM M H) v2 d2 ∧ okD d2 = true ∧ (isD "tuple" d2 = true → d2 = .tuple [])) := by
      cases tl with
      | true =>
        obtain ⟨u1, u2, d1', t, e1, _, e3, e4, e5⟩ := htl rfl rfl
        rw [hgl] at e1
        cases e1
        exact ⟨true, (fun _ => rfl), (fun _ => ⟨t, e3, e4, e5⟩), (fun z => nomatch z)⟩
      | false =>
        rcases a2 with h | h
        · exact ⟨true, (fun z => nomatch z), (fun _ => h), (fun z => nomatch z)⟩
        · exact ⟨false, (fun z => nomatch z), (fun z => nomatch z), (fun _ => h)⟩
    clear a2
    obtain ⟨isr, htr, hyes, hnon⟩ := aa
    -- the law's own reading of the given thing
    have duep : ∀ (H3 : Hp) (R : VK), Same (cutM M H) (cutM M H3) → (∀ u H4, Same H3 H4 → (isr = true → u = v2) → (isr = true → ∃ t : Told, Dp K H4 u t.d) → (isr = false → ∃ d2, Av K H4 u d2 ∧ isD "tuple" d2 = false) → p_due_rule K (.ref W) v1 u H4 R C8.E0) →
        (rIxL K (.ref gl) (.int 0) H3 fun x_2 H1 => rIxL K (.ref gl) (.int 1) H1 fun x_3 H1 => 0 ≤ sizeLine ∧ ∀ p_1, H1 p_1 = none → rNeD K x_3 (.ref p_1) (upd H1 p_1 (.tup [])) fun x_4 H1 => ∃ k, x_4 = .bl k ∧
          if k = true then rIxL K (.ref gl) (.int 1) H1 fun x_5 H1 => p_due_rule K (.ref W) x_2 x_5 H1 R C8.E0 else p_due_rule K (.ref W) x_2 V.non H1 R C8.E0) := by
      intro H3 R l13 hR
      have hg3 := cutM_same _ _ (l13 _ _ hgl)
      refine ⟨gl, _, 0, _, rfl, rfl, SqL.of hg3, atI_nat (j := 0) rfl, ?_⟩
      refine ⟨gl, _, 1, _, rfl, rfl, SqL.of hg3, atI_nat (j := 1) rfl, ?_⟩
      refine ⟨by decide, ?_⟩
      walk_at "al"
      rename_i e0 he0 H4 f4 k4
      have hn : Dp K H4 (.ref e0) (.tuple []) := Dp.newT k4 .nil
      cases isr with
      | true =>
        obtain ⟨t, ht, hok, hh⟩ := hyes rfl
        have ht4 := ((ht.up l13).up cutM_same).up f4
        refine ⟨_, _, ht4, hn, shaped_told hh, by decide +kernel, ?_⟩
        rw [told_ne]
        refine ⟨true, rfl, ?_⟩
        rw [if_pos rfl]
        refine ⟨gl, _, 1, _, rfl, rfl, SqL.of (f4 _ _ hg3), atI_nat (j := 1) rfl, ?_⟩
        exact hR v2 H4 f4 (fun _ => rfl) (fun _ => ⟨t, ht4⟩) (fun z => nomatch z)
      | false =>
        obtain ⟨d2, hd2, ho2, htt⟩ := hnon rfl
        have hd4 := ((hd2.up l13).up cutM_same).up f4
        refine ⟨_, _, hd4, hn, okD_shaped ho2, by decide +kernel, ?_⟩
        rw [eqv_tnil htt]
        refine ⟨_, rfl, ?_⟩
        cases hi : isD "tuple" d2 with
        | true => exact hR V.non H4 f4 (fun z => nomatch z) (fun z => nomatch z) (fun _ => ⟨.none, .dp .non rfl, isD_tuple_none⟩)
        | false =>
          refine ⟨gl, _, 1, _, rfl, rfl, SqL.of (f4 _ _ hg3), atI_nat (j := 1) rfl, ?_⟩
          exact hR v2 H4 f4 (fun z => nomatch z) (fun z => nomatch z) (fun _ => ⟨d2, .dp hd4 ho2, hi⟩)
    have core : ∀ (ru : V) (Hs : Hp), Same H Hs → (isr = true → ∃ t : Told, RuleAt K (cutM M Hs) ru t ∧ Dp K (cutM M H) v2 t.d ∧ t.ok ∧ t.h ≤ 3) → (isr = false → ∃ d2, Av K (cutM M Hs) ru d2) →
        LamX.tLam (Tb K) (TTsaid K) (fun E => tMe (He.ga K "Net") "add_rule" (sp3 (p_Net_add_rule K)) E (tVar 0) (tCons (tOp (rIxL K) (tVar 3) (tC (.int 0))) (tCons (tVar 6) tNil))) [some (.ref p), some (.ref W), some (.int 2), some (.ref gl), none, none, some ru, none, none] Hs fun x_1 H1 =>
          rIxL K (.ref gl) (.int 0) H1 fun x_2 H1 => rIxL K (.ref gl) (.int 1) H1 fun x_3 H1 => 0 ≤ sizeLine ∧ ∀ p_1, H1 p_1 = none → rNeD K x_3 (.ref p_1) (upd H1 p_1 (.tup [])) fun x_4 H1 => ∃ k, x_4 = .bl k ∧
          if k = true then rIxL K (.ref gl) (.int 1) H1 fun x_5 H1 => p_due_rule K (.ref W) x_2 x_5 H1 (fun x_6 H1 => U { nx := fun x H' => Q V.non H', rt := Q } [some (.ref p), some (.ref W), some (.int 2), some (.ref gl), some x_1, some x_6, some ru, none, none] H1) C8.E0
          else p_due_rule K (.ref W) x_2 V.non H1 (fun x_6 H1 => U { nx := fun x H' => Q V.non H', rt := Q } [some (.ref p), some (.ref W), some (.int 2), some (.ref gl), some x_1, some x_6, some ru, none, none] H1) C8.E0 := by
      intro ru Hs eS cyes cno
      rw [w_lam]
      refine ⟨tabs_same tw.tab eS, fun H1 xs t1 => ?_⟩
      have x1 : LamX.ExtN H H1 := LamX.ExtN.trans (LamX.ExtN.of eS) xs
      have ls : Same (cutM M Hs) (cutM M H1) := cutM_fr (C := []) (extN_frm xs) (by simp)
      have hg1 := toH x1 hgl
      have n1 := (net.n.up (fr1 x1)).up cutM_same
      have w1 := (wor.n.up (fr1 x1)).up cutM_same
      have b1 := (a1.up (fr1 x1)).up cutM_same
      walk_at "ws"
      refine f_meth n1 (fun _ => by rfl) ?_
      refine ⟨gl, _, 0, _, rfl, rfl, SqL.of hg1, atI_nat (j := 0) rfl, ?_⟩
      walk_at "ws"
      refine ⟨p, N, d1, isr, kc, rfl, n1, b1, fun h => ?_, fun h => ?_, x1 _ _ nc (fun _ z => nomatch z), lc6, fun x hx H2 e2 => ⟨x, rule_mem hx, rfl, rfl, fun H3 e3 => ?_⟩, fun hx x H2 ed1 hisr sb ha2 => ?_⟩
      · obtain ⟨t, hr0, _⟩ := cyes h
        exact ((hr0.up ls).up cutM_same).isRule
      · obtain ⟨d2, h2⟩ := cno h
        exact ⟨d2, (h2.up ls).up cutM_same⟩
      · have e13 := e2.trans e3
        have f13 : FrM [] H H3 := FrM.trans (extN_frm x1) e13.frm
        have ho : lruleOut d1 isr lc = some (word x) := by rw [rule_map sc lc6, hx]; rfl
        refine duep H3 _ (cutM_fr f13 (by simp)) fun u H4 e4 _ u1 u2 => ?_
        have e14 := e13.trans e4
        refine ⟨W, A, d1, isr, lc, rfl, w1.up e14, b1.up e14, u1, u2, e14 _ _ (x1 _ _ wc (fun _ z => nomatch z)), wlc6, fun y hy H5 e5 => ?_, fun hn => by rw [ho] at hn; cases hn⟩
        obtain rfl : word x = y := by rw [ho] at hy; exact Option.some.inj hy
        refine tail _ _ _ _ _ (some (word x)) H5 ⟨rfl, shaped_word x (rule_mem hx)⟩ rfl fun H6 e6 => ?_
        have f15 : FrM [] H H6 := FrM.trans f13 (e4.trans (e5.trans e6)).frm
        refine q H6 S (f15.mono (by simp)) (stay f15 (tabs_same t1 (e14.trans (e5.trans e6)))) (grow0 (fun z => by omega) fun htt _ y v hh hyn => ?_)
        have hh2 := cutM_same _ _ hgl
        rw [hh] at hh2
        cases hh2
        obtain rfl := Av_strV b1
        rw [htr htt] at hx
        exact rule_grow nk.c hyn ok.r6 hx
      · subst ed1
        obtain rfl := Av_str b1
        obtain ⟨t, hr0, ht0, htok, hth⟩ := cyes hisr
        obtain ⟨hfr, _, hlt⟩ := rule_fresh hx
        have hxv := valV_of_fresh hfr
        obtain ⟨_, ey, hxn, _⟩ := freshD_none hfr
        cases ey
        refine ⟨by decide, ?_⟩
        walk_at "al"
        rename_i r hr3 H3 e3 g3
        have ho : lruleOut (.str x) isr lc = none := by rw [rule_map sc lc6, hx]; rfl
        have mA : N.c ∈ N.l := by simp [NA.l]
        have mS : A.r ∈ A.l := by simp [WA.l]
        have nas := nin mA mS
        have f12 : FrM [N.c] H H2 := FrM.trans (extN_frm x1) (sb.frm (by simp))
        have f13 : FrM [N.c] H H3 := f12.trans e3.frm
        have sub1 : ∀ b ∈ [N.c], b ∈ M := fun b hb => by
          simp at hb
          subst hb
          exact hCM _ (List.mem_append_left _ mA)
        have l13 := cutM_fr f13 sub1
        have w3 := (wor.n.up l13).up cutM_same
        have wa3 : H3 A.r = some (.dK lc) := f13 _ _ (by simp; exact nas.symm) wc (fun _ z => nomatch z)
        have T3 := tabs_same (tabs_sameB t1 sb (x1 _ _ nc (fun _ z => nomatch z)) (fun _ z => nomatch z) (fun _ z => nomatch z)) e3
        have live3 : Live M H3 := tw.live.fr f13 fun b hb => by
          simp at hb
          subst hb
          exact ⟨_, e3 _ _ ha2, fun _ z => nomatch z⟩
        refine duep H3 _ l13 fun u H3' e3' uv u1 u2 => ?_
        obtain rfl := uv hisr
        have wa3' := e3' _ _ wa3
        have T3' := tabs_same T3 e3'
        refine ⟨W, A, .str x, isr, lc, rfl, w3.up e3', ((a1.up l13).up cutM_same).up e3', u1, u2, wa3', wlc6, (fun y hy => by rw [ho] at hy; cases hy), fun _ x' H4 q1 _ sb' wa' => ?_⟩
        cases q1
        have ras : r ≠ A.r := (ne_of_none (f12 _ _ (by simp; exact nas.symm) wc (fun _ z => nomatch z)) hr3).symm
        have T4 := tabs_sameB T3' sb' wa3' (fun _ z => nomatch z) (fun _ z => nomatch z)
        refine tail _ _ _ _ _ none H4 (Dp.newT (sb' _ _ ras (e3' _ _ g3)) (.cons (.str _) (.cons .non .nil))) rfl fun H5 e5 => ?_
        have f15 : FrM [N.c, A.r] H H5 := (((f13.mono (by simp)).trans e3'.frm).trans (sb'.frm (by simp))).trans e5.frm
        have sub2 : ∀ b ∈ [N.c, A.r], b ∈ M := fun b hb => by
          simp at hb
          rcases hb with rfl | rfl
          · exact hCM _ (List.mem_append_left _ mA)
          · exact hCM _ (List.mem_append_right _ mS)
        have live1 : Live M H1 := tw.live.fr (C := []) (extN_frm x1) (by simp)
        have nN : ∀ {b : Addr}, b ∈ N.l → b ≠ N.c → b ∉ [N.c, A.r] := fun hb h z => by
          simp at z
          rcases z with rfl | rfl
          · exact h rfl
          · exact nin hb mS rfl
        have nA : ∀ {b : Addr}, b ∈ A.l → b ≠ A.r → b ∉ [N.c, A.r] := fun hb h z => by
          simp at z
          rcases z with rfl | rfl
          · exact nin mA hb rfl
          · exact h rfl
        have sub3 : ∀ b ∈ [N.c, A.r], b ∈ N.l ++ A.l := fun b hb => by
          simp at hb
          rcases hb with rfl | rfl
          · exact List.mem_append_left _ mA
          · exact List.mem_append_right _ mS
        have hna : H5 N.c = some (.dK (kc ++ [(.inr x, ru)])) := by
          rw [← putK_new hxv]
          exact e5 _ _ (sb' _ _ nas (e3' _ _ (e3 _ _ ha2)))
        have hwa : H5 A.r = some (.dK (lc ++ [(.inr x, u)])) := by
          have hxv2 : valV lc (.inr x) = none := by
            have := sc.1 x
            rw [hxv] at this
            cases e : valV lc (.inr x) with
            | none => rfl
            | some v => rw [e] at this; cases this
          rw [← putK_new hxv2]
          exact e5 _ _ wa'
        have f1s : FrM [N.c, A.r] H1 H5 := ((((sb.frm (C := [N.c, A.r]) (by simp)).trans e3.frm).trans e3'.frm).trans (sb'.frm (by simp))).trans e5.frm
        have rt : RuleAt K (cutM M H5) ru t := (hr0.up ls).up (cutM_fr f1s sub2)
        have rt' : Dp K (cutM M H5) u (Told.d t) := ht0.up (cutM_fr f15 sub2)
        have net' := net.put_rules f15 sub2 (nN (by simp [NA.l]) nac) (nN (by simp [NA.l]) nbc) (nN (by simp [NA.l]) (Ne.symm ncd)) (nN (by simp [NA.l]) (Ne.symm nce)) nc hna rt
        have wor' := wor.put_rules f15 sub2 (nA (by simp [WA.l]) wsr) (nA (by simp [WA.l]) wwr) (nA (by simp [WA.l]) (Ne.symm wrt)) (nA (by simp [WA.l]) (Ne.symm wrp)) wc hwa rt'
        have hnew := nk.c.none_of hxv
        have slen : S.rules.length < 6 := by rw [← nk.c.len]; exact hlt
        refine q H5 _ (f15.mono sub3) ⟨net', wor', ?_, ?_, tabs_same T4 e5⟩ ⟨⟨[], by simp⟩, ⟨_, rfl⟩, fun _ _ _ z => by omega, fun y v _ _ hh _ => ?_⟩
        · exact { ok with
            r6 := by show (S.rules ++ _).length ≤ 6; rw [List.length_append]; simp; omega
            rn := nodup_snoc ok.rn hnew
            rk := fun y hy => by
              rcases List.mem_append.mp hy with hy | hy
              · exact ok.rk y hy
              · simp at hy; subst hy; exact hxn
            ro := fun y hy => by
              rcases List.mem_append.mp hy with hy | hy
              · exact ok.ro y hy
              · simp at hy; subst hy; exact ⟨htok, hth⟩ }
        · exact tw.live.fr f15 fun b hb => by
            simp at hb
            rcases hb with rfl | rfl
            · exact ⟨_, hna, fun _ z => nomatch z⟩
            · exact ⟨_, hwa, fun _ z => nomatch z⟩
        · have hh2 := cutM_same _ _ hgl
          rw [hh] at hh2
          cases hh2
          exact .inl (by simp)
    walk_at "ws"
    refine ⟨gl, _, 1, _, rfl, rfl, SqL.of hg0, atI_nat (j := 1) rfl, ?_⟩
    cases isr with
    | true =>
      obtain ⟨t, ht, hok, hh⟩ := hyes rfl
      obtain ⟨ds, hds⟩ := told_tup t
      have ht0 := ht.up cutM_same
      have ht1 := ht0
      rw [hds] at ht1
      obtain ⟨ta, ts, rfl, hta, _⟩ := ht1.tup_inv
      refine w_isT hta ?_
      walk_at "ws"
      refine ⟨gl, _, 1, _, rfl, rfl, SqL.of hg0, atI_nat (j := 1) rfl, ?_⟩
      refine ⟨by decide, ?_⟩
      walk_at "al"
      rename_i e0 he0 H0 f0 k0
      refine ⟨_, _, ht0.up f0, Dp.newT k0 .nil, shaped_told hh, by decide +kernel, ?_⟩
      rw [told_ne]
      refine ⟨true, rfl, ?_⟩
      rw [if_pos rfl]
      refine ⟨gl, _, 1, _, rfl, rfl, SqL.of (f0 _ _ hg0), atI_nat (j := 1) rfl, ?_⟩
      refine ⟨M, t, tw.live.up f0, ht0.up f0, hok, hh, hh, fun ru Hs es hru => ?_⟩
      exact core ru Hs (f0.trans es) (fun _ => ⟨t, hru, ht, hok, hh⟩) (fun z => nomatch z)
    | false =>
      obtain ⟨d2, hd2, ho2, htt⟩ := hnon rfl
      have hd0 := hd2.up cutM_same
      refine w_isi (.dp hd0 ho2) okT ?_
      walk_at "ws"
      refine ite2 (fun ci => ?_) fun ci => ?_
      · refine ⟨gl, _, 1, _, rfl, rfl, SqL.of hg0, atI_nat (j := 1) rfl, ?_⟩
        refine ⟨by decide, ?_⟩
        walk_at "al"
        rename_i e0 he0 H0 f0 k0
        refine ⟨_, _, hd0.up f0, Dp.newT k0 .nil, okD_shaped ho2, by decide +kernel, ?_⟩
        rw [eqv_tnil htt, ci]
        refine ⟨false, rfl, ?_⟩
        rw [if_neg (by decide)]
        refine ⟨gl, _, 1, _, rfl, rfl, SqL.of (f0 _ _ hg0), atI_nat (j := 1) rfl, ?_⟩
        exact core v2 H0 f0 (fun z => nomatch z) (fun _ => ⟨d2, .dp (hd2.up (cutM_up f0)) ho2⟩)
      · refine ⟨gl, _, 1, _, rfl, rfl, SqL.of hg0, atI_nat (j := 1) rfl, ?_⟩
        exact core v2 H (Same.refl _) (fun z => nomatch z) (fun _ => ⟨d2, .dp hd2 ho2⟩)
  · have hg0 := cutM_same _ _ hgl
    have core : ∀ (isl : Bool) (zv : V) (Hs : Hp), Same H Hs → AvL K (cutM M Hs) zv d4 → (isl = true → ∃ z zs, zv = .ref z ∧ H z = none ∧ Hs z = some (.lst zs) ∧ zs.length ≤ 6) → (isl = false → isD "list" d4 = false) →
        LamX.tLam (Tb K) (TTsaid K) (fun E => tMe (He.ga K "Net") "add_ticket" (sp5 (p_Net_add_ticket K)) E (tVar 0) (tCons (tOp (rIxL K) (tVar 3) (tC (.int 0))) (tCons (tOp (rIxL K) (tVar 3) (tC (.int 1))) (tCons (tOp (rIxL K) (tVar 3) (tC (.int 2))) (tCons (tVar 7) tNil))))) [some (.ref p), some (.ref W), some (.int 3), some (.ref gl), none, none, none, some zv, none] Hs fun x_1 H1 =>
          p_due_ticket K (.ref W) (.ref gl) H1 (fun x_6 H1 => rIsi K [zv, .ty "list"] H1 fun x H2 => ∃ k, x = .bl k ∧ if k = true then
            tyV K "list" zv H2 ∧ rAppend zv [.int 6] H2 fun _ H3 => U { nx := fun x H' => Q V.non H', rt := Q } [some (.ref p), some (.ref W), some (.int 3), some (.ref gl), some x_1, some x_6, none, some zv, none] H3
            else U { nx := fun x H' => Q V.non H', rt := Q } [some (.ref p), some (.ref W), some (.int 3), some (.ref gl), some x_1, some x_6, none, some zv, none] H2) C8.E0 := by
      intro isl zv Hs eS hav hl hno
      rw [w_lam]
      refine ⟨tabs_same tw.tab eS, fun H1 xs t1 => ?_⟩
      have x1 : LamX.ExtN H H1 := LamX.ExtN.trans (LamX.ExtN.of eS) xs
      have ls : Same (cutM M Hs) (cutM M H1) := cutM_fr (C := []) (extN_frm xs) (by simp)
      have hg1 := toH x1 hgl
      have n1 := (net.n.up (fr1 x1)).up cutM_same
      have w1 := (wor.n.up (fr1 x1)).up cutM_same
      have b1 := (a1.up (fr1 x1)).up cutM_same
      have b2 := (a2.up (fr1 x1)).up cutM_same
      have b3 := (a3.up (fr1 x1)).up cutM_same
      have b4 : AvL K H1 v4 d4 := ⟨(a4.1.up (fr1 x1)).up cutM_same, a4.2⟩
      have bz : AvL K H1 zv d4 := ⟨(hav.1.up ls).up cutM_same, hav.2⟩
      -- the list of the zones is grown, last
      have fin : ∀ (vf vd : V) (o : Option Str) (H8 : Hp), Same (cutM M H1) (cutM M H8) → (∀ z zs, Hs z = some (.lst zs) → H z = none → H8 z = some (.lst zs)) → Said K H8 vf o → (∀ z zs, H z = none → Hs z = some (.lst zs) → Said K (cut z H8) vf o) → vd = wordV o →
          (∀ H9, (H9 = H8 ∨ ∃ z zs, H z = none ∧ Hs z = some (.lst zs) ∧ H9 = upd H8 z (.lst (zs ++ [.int 6]))) → ∀ H', Same H9 H' → Q (.bl true) H') →
          rIsi K [zv, .ty "list"] H8 fun x H2 => ∃ k, x = .bl k ∧ if k = true then
            tyV K "list" zv H2 ∧ rAppend zv [.int 6] H2 fun _ H3 => U { nx := fun x H' => Q V.non H', rt := Q } [some (.ref p), some (.ref W), some (.int 3), some (.ref gl), some vf, some vd, none, some zv, none] H3
            else U { nx := fun x H' => Q V.non H', rt := Q } [some (.ref p), some (.ref W), some (.int 3), some (.ref gl), some vf, some vd, none, some zv, none] H2 := by
        intro vf vd o H8 s8 hz hs hs2 hd hq
        cases isl with
        | true =>
          obtain ⟨z, zs, rfl, hzn, hzs, hzl⟩ := hl rfl
          have h8 := hz z zs hzs hzn
          refine w_isL (SqL.of h8) ⟨true, rfl, ?_⟩
          rw [if_pos rfl]
          refine ⟨.inl ⟨rfl, zs, SqL.of h8⟩, z, zs, _, rfl, rfl, h8, Nat.lt_of_le_of_lt hzl (by decide), ?_⟩
          refine tail _ _ _ _ _ o _ ?_ hd (hq _ (.inr ⟨z, zs, hzn, hzs, rfl⟩))
          have h := hs2 z zs hzn hzs
          cases o with
          | none => exact L2.Dp.up (show Dp K _ _ _ from h) (cut_upd.trans cut_same)
          | some y => exact h
        | false =>
          refine w_isi ((hav.1.up (ls.trans s8)).up cutM_same) okL ?_
          rw [hno rfl]
          refine ⟨false, rfl, ?_⟩
          rw [if_neg (by decide)]
          exact tail _ _ _ _ _ o _ hs hd (hq _ (.inl rfl))
      have hz1 : ∀ z zs, Hs z = some (.lst zs) → H1 z = some (.lst zs) := fun z zs h => xs _ _ h (fun _ q => nomatch q)
      walk_at "ws"
      refine f_meth n1 (fun _ => by rfl) ?_
      refine ⟨gl, _, 0, _, rfl, rfl, SqL.of hg1, atI_nat (j := 0) rfl, ?_⟩
      refine ⟨gl, _, 1, _, rfl, rfl, SqL.of hg1, atI_nat (j := 1) rfl, ?_⟩
      refine ⟨gl, _, 2, _, rfl, rfl, SqL.of hg1, atI_nat (j := 2) rfl, ?_⟩
      walk_at "ws"
      refine ⟨p, N, d1, d2, d3, d4, kd, rfl, n1, b1, b2, b3, bz, x1 _ _ nd (fun _ z => nomatch z), ld3, fun x hx H2 e2 => ⟨x, ticket_mem hx, rfl, rfl, fun H3 e3 => ?_⟩, fun hx x i j ns t u H2 ed1 ed2 ed3 ed4 ht hut sb ha2 ht2 hu2' => ?_⟩
      · have e13 := e2.trans e3
        have f13 : FrM [] H H3 := FrM.trans (extN_frm x1) e13.frm
        have ho : lticketOut d1 d2 d3 d4 ld = some (word x) := by rw [ticket_map sd ld3, hx]; rfl
        refine ⟨W, A, gl, v1, v2, v3, v4, d1, d2, d3, d4, ld, rfl, w1.up e13, rfl, SqL.of (e13 _ _ hg1), b1.up e13, b2.up e13, b3.up e13, ⟨b4.1.up e13, b4.2⟩, e13 _ _ (x1 _ _ wd (fun _ z => nomatch z)), wld3, fun y hy H4 e4 => ?_, fun hn => by rw [ho] at hn; cases hn⟩
        obtain rfl : word x = y := by rw [ho] at hy; exact Option.some.inj hy
        have e14 := e13.trans e4
        have f14 : FrM [] H H4 := f13.trans e4.frm
        refine fin _ _ (some (word x)) H4 (cutM_up e14) (fun z zs h _ => e14 _ _ (hz1 z zs h)) ⟨rfl, shaped_word x (ticket_mem hx)⟩ (fun z _ _ _ => ⟨rfl, shaped_word x (ticket_mem hx)⟩) rfl fun H9 h9 H5 e5 => ?_
        have f19 : FrM [] H H9 ∧ LamX.Tabs (Tb K) H9 := by
          have T4 := tabs_same t1 e14
          rcases h9 with rfl | ⟨z, zs, hz0, hzs, rfl⟩
          · exact ⟨f14, T4⟩
          · refine ⟨fun b o hb hh nt => ?_, tabs_upd T4 (e14 _ _ (hz1 z zs hzs)) (fun _ q => nomatch q) (fun _ q => nomatch q)⟩
            rw [upd_ne (ne_of_none hh hz0)]
            exact f14 b o hb hh nt
        have f15 : FrM [] H H5 := f19.1.trans e5.frm
        exact q H5 S (f15.mono (by simp)) (stay f15 (tabs_same f19.2 e5)) (grow0 (fun z => by omega) fun _ z => by omega)
      · subst ed1
        subst ed2
        subst ed3
        subst ed4
        obtain rfl := Av_str b1
        obtain rfl := Av_int b2
        obtain rfl := Av_int b3
        obtain ⟨hfr, hlt, hzd⟩ := ticket_fresh hx
        have hxv := valV_of_fresh hfr
        obtain ⟨_, ey, hxn, _⟩ := freshD_none hfr
        cases ey
        refine ⟨by decide, ?_⟩
        walk_at "al"
        rename_i r hr3 H3 e3 g3
        have ho : lticketOut (.str x) (.int i) (.int j) (.list (ns.map PyData.int)) ld = none := by rw [ticket_map sd ld3, hx]; rfl
        have mA : N.d ∈ N.l := by simp [NA.l]
        have mS : A.t ∈ A.l := by simp [WA.l]
        have nas := nin mA mS
        have f12 : FrM [N.d] H H2 := FrM.trans (extN_frm x1) (sb.frm (by simp))
        have f13 : FrM [N.d] H H3 := f12.trans e3.frm
        have sub1 : ∀ b ∈ [N.d], b ∈ M := fun b hb => by
          simp at hb
          subst hb
          exact hCM _ (List.mem_append_left _ mA)
        have l13 := cutM_fr f13 sub1
        have w3 := (wor.n.up l13).up cutM_same
        have wa3 : H3 A.t = some (.dK ld) := f13 _ _ (by simp; exact nas.symm) wd (fun _ z => nomatch z)
        have T3 := tabs_same (tabs_sameB t1 sb (x1 _ _ nd (fun _ z => nomatch z)) (fun _ z => nomatch z) (fun _ z => nomatch z)) e3
        have live3 : Live M H3 := tw.live.fr f13 fun b hb => by
          simp at hb
          subst hb
          exact ⟨_, e3 _ _ ha2, fun _ z => nomatch z⟩
        refine ⟨W, A, gl, .str x, .int i, .int j, v4, .str x, .int i, .int j, .list (ns.map PyData.int), ld, rfl, w3, rfl, SqL.of (cutM_same _ _ (l13 _ _ hgl)), (a1.up l13).up cutM_same, (a2.up l13).up cutM_same, (a3.up l13).up cutM_same, ⟨(a4.1.up l13).up cutM_same, a4.2⟩, wa3, wld3, (fun y hy => by rw [ho] at hy; cases hy), fun _ x' i' j' ns' t' u' H4 q1 q2 q3 q4 ht' hut' sb' wa' ht2' hu3' => ?_⟩
        cases q1
        cases q2
        cases q3
        have ens : ns' = ns := by
          have h1 : (ns.map PyData.int).map intOf = (ns'.map PyData.int).map intOf := by
            injection q4 with q5
            rw [q5]
          rw [List.map_map, List.map_map] at h1
          have id1 : ∀ l : List Int, l.map (intOf ∘ PyData.int) = l := fun l => by
            induction l with
            | nil => rfl
            | cons a r ih => rw [List.map_cons, ih]; rfl
          rw [id1, id1] at h1
          exact h1.symm
        subst ens
        have T4 := tabs_sameB T3 sb' wa3 (fun _ z => nomatch z) (fun _ z => nomatch z)
        have na1 := x1 _ _ nd (fun _ z => nomatch z)
        have wa1 := x1 _ _ wd (fun _ z => nomatch z)
        have zN : ∀ z zs, Hs z = some (.lst zs) → z ≠ N.d ∧ z ≠ A.t := fun z zs h => ⟨(fun e => by rw [e] at h; rw [hz1 _ _ h] at na1; cases na1), (fun e => by rw [e] at h; rw [hz1 _ _ h] at wa1; cases wa1)⟩
        have z4 : ∀ z zs, Hs z = some (.lst zs) → H4 z = some (.lst zs) ∧ H2 z = some (.lst zs) := fun z zs h => by
          have h2 := sb _ _ (zN z zs h).1 (hz1 z zs h)
          exact ⟨sb' _ _ (zN z zs h).2 (e3 _ _ h2), h2⟩
        have ras : r ≠ A.t := (ne_of_none (f12 _ _ (by simp; exact nas.symm) wd (fun _ z => nomatch z)) hr3).symm
        have f14' : FrM [N.d, A.t] H1 H4 := ((sb.frm (by simp)).trans e3.frm).trans (sb'.frm (by simp))
        have sub2' : ∀ b ∈ [N.d, A.t], b ∈ M := fun b hb => by
          simp at hb
          rcases hb with rfl | rfl
          · exact hCM _ (List.mem_append_left _ mA)
          · exact hCM _ (List.mem_append_right _ mS)
        have g4 := sb' _ _ ras g3
        refine fin _ _ none H4 (cutM_fr f14' sub2') (fun z zs h _ => (z4 z zs h).1) (Dp.newT g4 (.cons (.str _) (.cons .non .nil))) (fun z zs _ h => Dp.newT (cut_get ?_ g4) (.cons (.str _) (.cons .non .nil))) rfl fun H9 h9 H5 e5 => ?_
        · exact (ne_of_none (z4 z zs h).2 hr3).symm
        have at9 : ∀ b o, H4 b = some o → (∀ z zs, H z = none → Hs z = some (.lst zs) → b ≠ z) → H9 b = some o := fun b o h hb => by
          rcases h9 with rfl | ⟨z, zs, q1, q2, rfl⟩
          · exact h
          · rw [upd_ne (hb z zs q1 q2)]
            exact h
        have T9 : LamX.Tabs (Tb K) H9 := by
          rcases h9 with rfl | ⟨z, zs, q1, q2, rfl⟩
          · exact T4
          · exact tabs_upd T4 (z4 z zs q2).1 (fun _ q => nomatch q) (fun _ q => nomatch q)
        have f19 : FrM [N.d, A.t] H H9 := fun b o hb hh nt => at9 b o (f14' b o hb (x1 b o hh nt) nt) fun z zs q1 _ => ne_of_none hh q1
        have f15 : FrM [N.d, A.t] H H5 := f19.trans e5.frm
        have sub2 : ∀ b ∈ [N.d, A.t], b ∈ M := fun b hb => by
          simp at hb
          rcases hb with rfl | rfl
          · exact hCM _ (List.mem_append_left _ mA)
          · exact hCM _ (List.mem_append_right _ mS)
        have live1 : Live M H1 := tw.live.fr (C := []) (extN_frm x1) (by simp)
        have nN : ∀ {b : Addr}, b ∈ N.l → b ≠ N.d → b ∉ [N.d, A.t] := fun hb h z => by
          simp at z
          rcases z with rfl | rfl
          · exact h rfl
          · exact nin hb mS rfl
        have nA : ∀ {b : Addr}, b ∈ A.l → b ≠ A.t → b ∉ [N.d, A.t] := fun hb h z => by
          simp at z
          rcases z with rfl | rfl
          · exact nin mA hb rfl
          · exact h rfl
        have sub3 : ∀ b ∈ [N.d, A.t], b ∈ N.l ++ A.l := fun b hb => by
          simp at hb
          rcases hb with rfl | rfl
          · exact List.mem_append_left _ mA
          · exact List.mem_append_right _ mS
        have hna : H5 N.d = some (.dK (kd ++ [(.inr x, .ref t)])) := by
          rw [← putK_new hxv]
          exact e5 _ _ (at9 _ _ (sb' _ _ nas (e3 _ _ ha2)) fun z zs q1 _ => ne_of_none nd q1)
        have hwa : H5 A.t = some (.dK (ld ++ [(.inr x, .ref t')])) := by
          have hxv2 : valV ld (.inr x) = none := by
            have := sd.1 x
            rw [hxv] at this
            cases e : valV ld (.inr x) with
            | none => rfl
            | some v => rw [e] at this; cases this
          rw [← putK_new hxv2]
          exact e5 _ _ (at9 _ _ wa' fun z zs q1 _ => ne_of_none wd q1)
        have new1 : ∀ {b : Addr} {o : HO}, H1 b = none → H2 b = some o → (∀ ps, o ≠ .tbl ps) → cutM M H5 b = some o := fun {b o} hb h2 nt => cutM_get (live1.not hb) (e5 _ _ (at9 _ _ (sb' _ _ (ne_of_none wa1 hb).symm (e3 _ _ h2)) fun z zs _ q2 => (ne_of_none (hz1 z zs q2) hb).symm)) nt
        have new3 : ∀ {b : Addr} {o : HO}, H3 b = none → H4 b = some o → (∀ ps, o ≠ .tbl ps) → cutM M H5 b = some o := fun {b o} hb h4 nt => cutM_get (live3.not hb) (e5 _ _ (at9 _ _ h4 fun z zs _ q2 => (ne_of_none (e3 _ _ (z4 z zs q2).2) hb).symm)) nt
        have rt : rTn (cutM M H5) (.ref t) (i, j, ns') := ⟨t, u, rfl, new1 ht ht2 (fun _ z => nomatch z), new1 hut hu2' (fun _ z => nomatch z)⟩
        have rt' : rTw (cutM M H5) (.ref t') (i, j, ns') := ⟨t', u', rfl, new3 ht' ht2' (fun _ z => nomatch z), new3 hut' hu3' (fun _ z => nomatch z)⟩
        have net' := net.put_tickets f15 sub2 (nN (by simp [NA.l]) nad) (nN (by simp [NA.l]) nbd) (nN (by simp [NA.l]) ncd) (nN (by simp [NA.l]) (Ne.symm nde)) nd hna rt
        have wor' := wor.put_tickets f15 sub2 (nA (by simp [WA.l]) wst) (nA (by simp [WA.l]) wwt) (nA (by simp [WA.l]) wrt) (nA (by simp [WA.l]) (Ne.symm wtp)) wd hwa rt'
        have slen : S.tickets.length < 3 := by rw [← nk.d.len]; exact hlt
        refine q H5 _ (f15.mono sub3) ⟨net', wor', ?_, ?_, tabs_same T9 e5⟩ ⟨⟨[], by simp⟩, ⟨[], by simp⟩, fun _ _ _ z => by omega, fun _ _ _ z => by omega⟩
        · exact { ok with
            t3 := by show (S.tickets ++ _).length ≤ 3; rw [List.length_append]; simp; omega
            tk := fun y hy => by
              rcases List.mem_append.mp hy with hy | hy
              · exact ok.tk y hy
              · simp at hy; subst hy; exact hxn
            tz := fun y hy => by
              rcases List.mem_append.mp hy with hy | hy
              · exact ok.tz y hy
              · simp at hy
                subst hy
                have : (ns'.map PyData.int).length ≤ 6 := hl4
                simpa using this }
        · exact tw.live.fr f15 fun b hb => by
            simp at hb
            rcases hb with rfl | rfl
            · exact ⟨_, hna, fun _ z => nomatch z⟩
            · exact ⟨_, hwa, fun _ z => nomatch z⟩
    walk_at "ws"
    refine ⟨gl, _, 3, _, rfl, rfl, SqL.of hg0, atI_nat (j := 3) rfl, ?_⟩
    refine w_isi (a4.1.up cutM_same) okL ?_
    refine ⟨_, rfl, ?_⟩
    refine ite2 (fun ci => ?_) fun ci => ?_
    · refine ⟨gl, _, 3, _, rfl, rfl, SqL.of hg0, atI_nat (j := 3) rfl, ?_⟩
      have hds : ∃ ds, d4 = .list ds := by
        cases d4 <;> first | exact ⟨_, rfl⟩ | (exfalso; revert ci; simp [isD, tyN]; done)
      obtain ⟨ds, rfl⟩ := hds
      cases h4 : a4.1 with
      | dp h5 ok5 =>
        obtain ⟨la0, lv, rfl, hla, hlv⟩ := h5.lst_inv
        refine ⟨la0, lv, rfl, .inl (cutM_same.seq hla), ?_⟩
        walk_at "al"
        rename_i z hz Hs es gs
        have lz : lv.length ≤ 6 := by
          have := hlv.length
          have h6 : ds.length ≤ 6 := hl4
          omega
        refine core true (.ref z) Hs es ⟨.dp (Dp.newL (tw.live.cut hz gs (fun _ q => nomatch q)) (hlv.up (cutM_up es))) ok5, a4.2⟩ (fun _ => ⟨z, lv, rfl, hz, gs, lz⟩) (fun q => nomatch q)
    · refine ⟨gl, _, 3, _, rfl, rfl, SqL.of hg0, atI_nat (j := 3) rfl, ?_⟩
      exact core false v4 H (Same.refl _) a4 (fun q => nomatch q) (fun _ => by simpa using ci)
  · have hg0 := cutM_same _ _ hgl
    have hc0 := cutM_same _ _ hc
    walk_at "ws"
    refine ⟨gl, _, 2, _, rfl, rfl, SqL.of hg0, atI_nat (j := 2) rfl, ?_⟩
    refine ⟨c, cv, rfl, .inl (SqL.of hc0), ?_⟩
    walk_at "al"
    rename_i z hz Hs es gs
    rw [w_lam]
    refine ⟨tabs_same tw.tab es, fun H1 xs t1 => ?_⟩
    have x1 : LamX.ExtN H H1 := LamX.ExtN.trans (LamX.ExtN.of es) xs
    have hg1 := toH x1 hgl
    have hc1 := toH x1 hc
    have n1 := (net.n.up (fr1 x1)).up cutM_same
    have w1 := (wor.n.up (fr1 x1)).up cutM_same
    have b1 := (a1.up (fr1 x1)).up cutM_same
    have b2 := (a2.up (fr1 x1)).up cutM_same
    have bc := (hcv.up (fr1 x1)).up cutM_same
    have z1 : H1 z = some (.lst cv) := xs _ _ gs (fun _ q => nomatch q)
    have stops : ∀ x ∈ S.stops.map (·.1), isNameS x = true := fun x hx => by
      obtain ⟨y, hy, rfl⟩ := List.mem_map.mp hx
      exact ok.sk y hy
    have cg : callsGood ka none cs = true := good_calls (fun x hx => ⟨stops x hx, nk.a.some_of_mem hx⟩) hgo
    walk_at "ws"
    refine f_meth n1 (fun _ => by rfl) ?_
    refine ⟨gl, _, 0, _, rfl, rfl, SqL.of hg1, atI_nat (j := 0) rfl, ?_⟩
    refine ⟨gl, _, 1, _, rfl, rfl, SqL.of hg1, atI_nat (j := 1) rfl, ?_⟩
    walk_at "ws"
    have fin : ∀ (vf vd : V) (o : Option Str) (H8 : Hp), H8 z = some (.lst cv) → Said K (cut z H8) vf o → vd = wordV o → (∀ H', Same (upd H8 z (.lst [])) H' → Q (.bl true) H') →
        tyV K "list" (.ref z) H8 ∧ rClear (.ref z) [] H8 fun _ H3 => U { nx := fun x H' => Q V.non H', rt := Q } [some (.ref p), some (.ref W), some (.int 4), some (.ref gl), some vf, some vd, none, none, some (.ref z)] H3 := by
      intro vf vd o H8 h8 hs hd hq
      refine ⟨.inl ⟨rfl, cv, SqL.of h8⟩, z, cv, rfl, rfl, h8, ?_⟩
      refine tail _ _ _ _ _ o _ ?_ hd hq
      cases o with
      | none => exact L2.Dp.up (show Dp K _ _ _ from hs) (cut_upd.trans cut_same)
      | some y => exact hs
    refine ⟨p, N, d1, d2, ke, kc, ka, z, cv, cs, rfl, n1, b1, b2, x1 _ _ ne (fun _ z => nomatch z), x1 _ _ nc (fun _ z => nomatch z), x1 _ _ na (fun _ z => nomatch z), le10, rfl, SqL.of z1, bc, hc2, hc6, cg, fun x hx H2 e2 => ⟨x, trip_mem hx, rfl, rfl, fun H3 e3 => ?_⟩, fun hx x y t u H2 ed1 ed2 ht hut sb ha2 ht2 hu2' => ?_⟩
    · have e13 := e2.trans e3
      have f13 : FrM [] H H3 := FrM.trans (extN_frm x1) e13.frm
      have ho : ltripOut d1 d2 le lc = some (word x) := by rw [trip_map se sc le10, hx]; rfl
      refine ⟨W, A, gl, v1, v2, c, d1, d2, cv, le, lc, rfl, w1.up e13, rfl, SqL.of (e13 _ _ hg1), b1.up e13, b2.up e13, SqL.of (e13 _ _ hc1), e13 _ _ (x1 _ _ we (fun _ z => nomatch z)), e13 _ _ (x1 _ _ wc (fun _ z => nomatch z)), wle10, fun y hy H4 e4 => ?_, fun hn => by rw [ho] at hn; cases hn⟩
      obtain rfl : word x = y := by rw [ho] at hy; exact Option.some.inj hy
      have e14 := e13.trans e4
      have f14 : FrM [] H H4 := f13.trans e4.frm
      refine fin _ _ (some (word x)) H4 (e14 _ _ z1) ⟨rfl, shaped_word x (trip_mem hx)⟩ rfl fun H5 e5 => ?_
      have f15 : FrM [] H H5 := fun b o hb hh nt => e5 _ _ (by rw [upd_ne (ne_of_none hh hz)]; exact f14 b o hb hh nt)
      have T5 := tabs_same (tabs_upd (o2 := .lst []) (tabs_same t1 e14) (e14 _ _ z1) (fun _ q => nomatch q) (fun _ q => nomatch q)) e5
      exact q H5 S (f15.mono (by simp)) (stay f15 T5) (grow0 (fun z => by omega) fun _ z => by omega)
    · subst ed1
      subst ed2
      obtain rfl := Av_str b1
      obtain rfl := Av_str b2
      obtain ⟨hfr, hlt, hin⟩ := trip_fresh hx
      have hxv := valV_of_fresh hfr
      obtain ⟨_, ey, hxn, _⟩ := freshD_none hfr
      cases ey
      have hyn : isNameS y = true := (Bool.and_eq_true_iff.mp (show (isNameS y && (valV kc (.inr y)).isSome) = true from hin)).1
      refine ⟨by decide, ?_⟩
      walk_at "al"
      rename_i r hr3 H3 e3 g3
      have ho : ltripOut (.str x) (.str y) le lc = none := by rw [trip_map se sc le10, hx]; rfl
      have mA : N.e ∈ N.l := by simp [NA.l]
      have mS : A.p ∈ A.l := by simp [WA.l]
      have nas := nin mA mS
      have f12 : FrM [N.e] H H2 := FrM.trans (extN_frm x1) (sb.frm (by simp))
      have f13 : FrM [N.e] H H3 := f12.trans e3.frm
      have sub1 : ∀ b ∈ [N.e], b ∈ M := fun b hb => by
        simp at hb
        subst hb
        exact hCM _ (List.mem_append_left _ mA)
      have l13 := cutM_fr f13 sub1
      have w3 := (wor.n.up l13).up cutM_same
      have wa3 : H3 A.p = some (.dK le) := f13 _ _ (by simp; exact nas.symm) we (fun _ z => nomatch z)
      have T3 := tabs_same (tabs_sameB t1 sb (x1 _ _ ne (fun _ z => nomatch z)) (fun _ z => nomatch z) (fun _ z => nomatch z)) e3
      have live3 : Live M H3 := tw.live.fr f13 fun b hb => by
        simp at hb
        subst hb
        exact ⟨_, e3 _ _ ha2, fun _ z => nomatch z⟩
      have wlc3 : H3 A.r = some (.dK lc) := f13 _ _ (by simp; exact (nin mA (by simp [WA.l])).symm) wc (fun _ z => nomatch z)
      refine ⟨W, A, gl, .str x, .str y, c, .str x, .str y, cv, le, lc, rfl, w3, rfl, SqL.of (cutM_same _ _ (l13 _ _ hgl)), (a1.up l13).up cutM_same, (a2.up l13).up cutM_same, SqL.of (cutM_same _ _ (l13 _ _ hc)), wa3, wlc3, wle10, (fun y hy => by rw [ho] at hy; cases hy), fun _ x' y' t' u' H4 q1 q2 ht' hut' sb' wa' ht2' hu3' => ?_⟩
      cases q1
      cases q2
      have T4 := tabs_sameB T3 sb' wa3 (fun _ z => nomatch z) (fun _ z => nomatch z)
      have na1 := x1 _ _ ne (fun _ z => nomatch z)
      have wa1 := x1 _ _ we (fun _ z => nomatch z)
      have zne : z ≠ N.e := fun e => by
        rw [e] at z1
        rw [z1] at na1
        cases na1
      have znp : z ≠ A.p := fun e => by
        rw [e] at z1
        rw [z1] at wa1
        cases wa1
      have z2 := sb _ _ zne z1
      have z4 := sb' _ _ znp (e3 _ _ z2)
      have ras : r ≠ A.p := (ne_of_none (f12 _ _ (by simp; exact nas.symm) we (fun _ z => nomatch z)) hr3).symm
      have g4 := sb' _ _ ras g3
      have f14' : FrM [N.e, A.p] H1 H4 := ((sb.frm (by simp)).trans e3.frm).trans (sb'.frm (by simp))
      refine fin _ _ none H4 z4 (Dp.newT (cut_get (ne_of_none z2 hr3).symm g4) (.cons (.str _) (.cons .non .nil))) rfl fun H5 e5 => ?_
      have at9 : ∀ b o, H4 b = some o → b ≠ z → H5 b = some o := fun b o h hb => e5 _ _ (by rw [upd_ne hb]; exact h)
      have f19 : FrM [N.e, A.p] H H5 := fun b o hb hh nt => at9 b o (f14' b o hb (x1 b o hh nt) nt) (ne_of_none hh hz)
      have T5 := tabs_same (tabs_upd (o2 := .lst []) T4 z4 (fun _ q => nomatch q) (fun _ q => nomatch q)) e5
      have f15 : FrM [N.e, A.p] H H5 := f19
      have sub2 : ∀ b ∈ [N.e, A.p], b ∈ M := fun b hb => by
        simp at hb
        rcases hb with rfl | rfl
        · exact hCM _ (List.mem_append_left _ mA)
        · exact hCM _ (List.mem_append_right _ mS)
      have live1 : Live M H1 := tw.live.fr (C := []) (extN_frm x1) (by simp)
      have nN : ∀ {b : Addr}, b ∈ N.l → b ≠ N.e → b ∉ [N.e, A.p] := fun hb h z => by
        simp at z
        rcases z with rfl | rfl
        · exact h rfl
        · exact nin hb mS rfl
      have nA : ∀ {b : Addr}, b ∈ A.l → b ≠ A.p → b ∉ [N.e, A.p] := fun hb h z => by
        simp at z
        rcases z with rfl | rfl
        · exact nin mA hb rfl
        · exact h rfl
      have sub3 : ∀ b ∈ [N.e, A.p], b ∈ N.l ++ A.l := fun b hb => by
        simp at hb
        rcases hb with rfl | rfl
        · exact List.mem_append_left _ mA
        · exact List.mem_append_right _ mS
      have hna : H5 N.e = some (.dK (ke ++ [(.inr x, .ref t)])) := by
        rw [← putK_new hxv]
        exact at9 _ _ (sb' _ _ nas (e3 _ _ ha2)) (ne_of_none ne hz)
      have hwa : H5 A.p = some (.dK (le ++ [(.inr x, .ref t')])) := by
        have hxv2 : valV le (.inr x) = none := by
          have := se.1 x
          rw [hxv] at this
          cases e : valV le (.inr x) with
          | none => rfl
          | some v => rw [e] at this; cases this
        rw [← putK_new hxv2]
        exact at9 _ _ wa' (ne_of_none we hz)
      have new1 : ∀ {b : Addr} {o : HO}, H1 b = none → H2 b = some o → (∀ ps, o ≠ .tbl ps) → cutM M H5 b = some o := fun {b o} hb h2 nt => cutM_get (live1.not hb) (at9 _ _ (sb' _ _ (ne_of_none wa1 hb).symm (e3 _ _ h2)) (ne_of_none z1 hb).symm) nt
      have new3 : ∀ {b : Addr} {o : HO}, H3 b = none → H4 b = some o → (∀ ps, o ≠ .tbl ps) → cutM M H5 b = some o := fun {b o} hb h4 nt => cutM_get (live3.not hb) (at9 _ _ h4 (ne_of_none (e3 _ _ z2) hb).symm) nt
      have dc := hcv.up (cutM_fr f15 sub2)
      have rt : rPn K (cutM M H5) (.ref t) (y, cs) := ⟨t, u, cv, rfl, new1 ht ht2 (fun _ z => nomatch z), new1 hut hu2' (fun _ z => nomatch z), dc⟩
      have rt' : rPw K (cutM M H5) (.ref t') (y, cs) := ⟨t', u', cv, rfl, new3 ht' ht2' (fun _ z => nomatch z), new3 hut' hu3' (fun _ z => nomatch z), dc⟩
      have net' := net.put_trips f15 sub2 (nN (by simp [NA.l]) nae) (nN (by simp [NA.l]) nbe) (nN (by simp [NA.l]) nce) (nN (by simp [NA.l]) nde) ne hna rt
      have wor' := wor.put_trips f15 sub2 (nA (by simp [WA.l]) wsp) (nA (by simp [WA.l]) wwp) (nA (by simp [WA.l]) wrp) (nA (by simp [WA.l]) wtp) we hwa rt'
      have slen : S.trips.length < 10 := by rw [← nk.e.len]; exact hlt
      refine q H5 _ (f15.mono sub3) ⟨net', wor', ?_, ?_, T5⟩ ⟨⟨[], by simp⟩, ⟨[], by simp⟩, fun _ _ _ z => by omega, fun _ _ _ z => by omega⟩
      · exact { ok with
          p10 := by show (S.trips ++ _).length ≤ 10; rw [List.length_append]; simp; omega
          pk := fun y hy => by
            rcases List.mem_append.mp hy with hy | hy
            · exact ok.pk y hy
            · simp at hy; subst hy; exact hxn
          pc := fun w hw => by
            rcases List.mem_append.mp hw with hw | hw
            · exact ok.pc w hw
            · simp at hw
              subst hw
              exact ⟨hyn, hc6, good_names stops hgo⟩ }
      · exact tw.live.fr f15 fun b hb => by
          simp at hb
          rcases hb with rfl | rfl
          · exact ⟨_, hna, fun _ z => nomatch z⟩
          · exact ⟨_, hwa, fun _ z => nomatch z⟩
end
end K06
set_option maxHeartbeats 4000000
namespace K06
open PySem L2 PySem.Spec PyProof.Rows
/-! ### list(d.values()) -/
def tListVals (te : TE) : TE := fun σ H Q => te σ H fun x H1 => ∃ a kvs, x = .ref a ∧ H1 a = some (.dK kvs) ∧ ∀ q, H1 q = none → Q (.ref q) (upd H1 q (.lst (kvs.map (·.2))))
theorem KV_at {κ : Type} {kvs : List (κ × V)} {vs : List (κ × Value)} (r : KV kvs vs) : ∀ {i : Nat} {k : κ} {v : Value}, vs[i]? = some (k, v) → ∃ x, kvs[i]? = some (k, x) ∧ RelV x v := by
  unfold KV at r
  induction r with
  | nil =>
    intro i k v e
    simp at e
  | cons r t ih =>
    intro i k v e
    cases i with
    | zero =>
      have e' := Option.some.inj (show some _ = some (k, v) from e)
      rw [e'] at r
      exact ⟨_, (show some _ = some (k, _) from congrArg some (Prod.ext r.1 rfl)), r.2⟩
    | succ i =>
      obtain ⟨x, h1, h2⟩ := ih (i := i) (k := k) (v := v) (by simpa using e)
      exact ⟨x, by simpa using h1, h2⟩
section
variable {X : Cx} {e : Expr} {te : TE} {p apos cpos pos : Pos}
theorem pe_listVals (hc : X.calm = true) (he : PE X e te) (hg : Gl X "list") (hm : X.mg "list" = none) (hv : bootBuiltins "list" = some (.type "list")) (hbase : attributeBase e "values" X.env (eval e X.env) = eval e X.env := by rfl) (hline : (apos.endLine == cpos.line) = true := by rfl)
    (hs : starEach [.Call (.Attribute e "values" apos) [] [] cpos] X.env = (false, eval (.Call (.Attribute e "values" apos) [] [] cpos) X.env) :: starEach [] X.env := by rfl) :
    PE X (.Call (.Name "list" p) [.Call (.Attribute e "values" apos) [] [] cpos] [] pos) (tListVals te) := by
  refine ⟨fun pins s σ H Q I hq => ?_⟩
  refine wpAny_Call_Name_kw (ld_blt I hg hm hv ?_)
  refine PyProof.Rows.callWith_type1 ?_ hs rfl
  rw [hs]
  show wpAny _ _ (spliced ((false, eval (.Call (.Attribute e "values" apos) [] [] cpos) X.env) :: backTo pos (starEach [] X.env))) _ _ s
  refine Calls.spliced_cons ?_
  refine wpAny_Call_method (T := "dict") (id := "dict.values") hbase rfl hline F.plainAttrs_dict F.slot_dict_values F.type_dict_values (thn (he.run pins s σ H _ I hq) fun u s1 ⟨x, H1, I1, rx, d, kvs, ex, hd, q⟩ => ?_)
  subst ex
  obtain rfl : u = Value.ref d := rx
  obtain ⟨hz, hs0, vs, kv, hdo⟩ := I1.hok d _ hd
  obtain ⟨ep, hat⟩ := hdo.dictAt
  have lk : kvs.length = vs.length := Paired.length kv
  have I2 : Inv X pins σ H1 { s1 with heap := s1.heap.push { cls := .type "dict_values", data := .fields #[.ref d] } } := I1.kept (t' := s1.toks) fun b ob q => Heap.get?_push_of_some _ q
  refine ⟨hdo.typeIs, hdo.mapOf.noDict, ?_⟩
  show wpAny _ _ (callWith cpos (.builtin "dict.values") [.ref d] [] []) _ X.xe s1
  refine method_meetsIn F.slot_dict_values F.entry_dict_values rfl (PySem.evalArgs_none ⟨rfl, hdo.typeIs, F.args_dict_values_1 _, _, meets_dict_values (mixKind X.prog X.w) d hs0, ⟨vs, hdo⟩, ?_⟩)
  refine Calls.spliced_nil ?_
  refine PySem.W.kdl_call (PySem.W.kdl_values (knd := mixKind X.prog X.w) (kvs := vs) (ep := ep)) (I1.ok.hd hc) ⟨⟨_, Heap.get?_push_size _ rfl, rfl, rfl⟩, hat.push _⟩ (by rw [← lk]; exact hz) fun h' tk acc' c' hkeep hS hacc => ?_
  refine ⟨.ref _, upd H1 _ (.lst (kvs.map (·.2))), I2.laid hkeep (Nat.le_refl _) (show ObjOk X.prog X.w _ _ _ (.lst (kvs.map (·.2))) from ⟨?_, acc'.toList, c', ?_, ?_⟩), rfl, q _ (I2.hok.fresh (Nat.le_refl _))⟩
  · rw [List.length_map]; exact hz
  · have el : acc'.toList.length = acc'.size := by simp
    refine vals_of_at (by rw [List.length_map, el, hacc.1, lk]) fun j x w h1 h2 => ?_
    obtain ⟨k, hk⟩ := hacc.2 j w (by rw [← Array.getElem?_toList]; exact h2)
    obtain ⟨y, hy1, hy2⟩ := KV_at kv hk
    rw [List.getElem?_map, hy1] at h1
    cases h1
    exact hy2
  · rw [Array.toArray_toList]; exact hS
end
theorem w_lvals {te : TE} {σ : L2.St} {H : Hp} {Q : VK} : tListVals te σ H Q = te σ H fun x H1 => ∃ a kvs, x = .ref a ∧ H1 a = some (.dK kvs) ∧ ∀ q, H1 q = none → Q (.ref q) (upd H1 q (.lst (kvs.map (·.2)))) := rfl
end K06
set_option maxHeartbeats 4000000
namespace K06
open PySem L2
local macro_rules | `(tactic| walk_at "ws") => `(tactic| try simp only [w_var0, w_varS, w_c, w_ret, w_retN, w_next, w_seq, w_asg, w_gn, w_drop, w_if, w_and, w_or, w_not, ex_bl, ex_int, ex_two, w_B, w_test, w_andV, w_orV, w_notV, w_ife, w_op, w_un, w_chain, w_nil, w_cons, w_cb, w_ca, w_lst, w_tup, w_I0, w_I, w_U, w_eqI, w_neI, w_eqS, w_neS,
  w_isN0, w_notN0, w_fld, w_sfld, w_me, w_ma, w_dget, w_din, w_dnotin, w_dput, w_slice, w_part, w_nopart, w_bm, w_bm0, w_par, w_lc, w_for, w_iList, w_iTup, w_iStr, w_iRng1, w_iZip, w_iEnum, w_tM1, w_dnewK, nn_str, nn_some, nn_none, nn_ref, w_pairN, w_pairC, w_disp, w_meD, w_maxD, w_bare, w_gtup, w_glst, w_gcons, w_gnil, w_gsub, cx_K, cx_K',
  L2.start, endsOf, List.map_cons, List.map_nil, List.length_cons, List.length_nil, List.cons_append, List.nil_append, Nat.zero_add, Nat.reduceAdd, Nat.reduceSub, List.replicate_succ, List.replicate_zero, List.set_cons_zero, List.set_cons_succ, List.set_nil,
  sp0_eq, sp1_eq, sp2_eq, sp3_eq, sp4_eq, sp5_eq, if_true, Bool.false_eq_true, if_false, decide_eq_true_eq, Bool.not_eq_true', decide_eq_false_iff_not, Bool.not_true, Bool.not_false, Bool.not_eq_false', isD_int_none, isD_int_bool, isD_int_int, isD_int_str, isD_int_list, isD_int_tuple, isD_int_dict, isD_bool_none, isD_bool_bool, isD_bool_int, isD_bool_str, isD_bool_list, isD_bool_tuple, isD_bool_dict, isD_str_none, isD_str_bool, isD_str_int, isD_str_str, isD_str_list, isD_str_tuple, isD_str_dict, isD_list_none, isD_list_bool, isD_list_int, isD_list_str, isD_list_list, isD_list_tuple, isD_list_dict, isD_tuple_none, isD_tuple_bool, isD_tuple_int, isD_tuple_str, isD_tuple_list, isD_tuple_tuple, isD_tuple_dict])
local macro_rules | `(tactic| walk_at "al") => `(tactic| (intro p hp; generalize hH : upd _ _ _ = H2; obtain ⟨e2, g2⟩ := alloc1 hp hH.symm; clear hH))
/-- the olds: pairs of two lists that tell the same -/
def OldsAt (K : PySem.W.Frag) (L : Hp) (os : List V) : Prop := ∀ v ∈ os, ∃ t a b d, v = .ref t ∧ L t = some (.tup [.ref a, .ref b]) ∧ Dp K L (.ref a) d ∧ Dp K L (.ref b) d ∧ SeqAt.shaped d = true ∧ PyData.eqv d d = true
theorem OldsAt.up {K : PySem.W.Frag} {L L' : Hp} {os : List V} (h : OldsAt K L os) (e : Same L L') : OldsAt K L' os := fun v hv => by
  obtain ⟨t, a, b, d, h1, h2, h3, h4, h5⟩ := h v hv
  exact ⟨t, a, b, d, h1, e _ _ h2, h3.up e, h4.up e, h5⟩
theorem FrM.updF {C : List Addr} {H H8 : Hp} {a : Addr} {o : HO} (e : FrM C H H8) (ha : H a = none) : FrM C H (upd H8 a o) := fun b u hb h n => by
  rw [upd_ne (fun z => by rw [z, ha] at h; cases h)]
  exact e b u hb h n
theorem FrM.updC {C : List Addr} {H H8 : Hp} {a : Addr} {o : HO} (e : FrM C H H8) (ha : a ∈ C) : FrM C H (upd H8 a o) := fun b u hb h n => by
  rw [upd_ne (fun z => hb (by rw [z]; exact ha))]
  exact e b u hb h n
/-- a comprehension with no test over a list of values that a plain list gives -/
theorem lcA {α : Type} {j : Nat} {te : TE} {vs : List Nat} {σ : L2.St} {H1 : Hp} {Q : VK} {K : PySem.W.Frag} {a : Addr} (xs : List α) (f : α → V) (P : α → V → Hp → Prop) (hx : SqL K H1 a (xs.map f)) (hz : xs.length < 100000) (hw : ∀ x, wipe ((wipe σ vs).set j (some x)) vs = wipe σ vs) (hP : ∀ a y H H', Same H H' → P a y H → P a y H')
    (he : ∀ (c : α) (D : Addr) (H3 : Hp) (acc : List V), Same H1 H3 → c ∈ xs → H1 D = none → H3 D = some (.lst acc) →
      ∀ R : VK, (∀ y H4, Same H3 H4 → P c y (cut D H4) → R y H4) → te ((wipe σ vs).set j (some (f c))) H3 R)
    (k : ∀ D ys H, H1 D = none → Same H1 H → H D = some (.lst ys) → Paired (fun a y => P a y (cut D H)) xs ys → Q (.ref D) H) : LcR (Itl K a) (gName j) tYes te vs σ H1 Q := by
  refine lc_core' xs (fun c x _ => x = f c) (fun _ => true) P (fun i H e hi => ⟨xs.map f, (xs.map f)[i]'(by simpa using hi), e.seq hx, by simp [hi]⟩) (fun H e => ⟨xs.map f, e.seq hx, by simp⟩) (fun i H x H' e hi y => ?_) hz hw hP
    (fun i d x H e hb hx R r => r H (Same.refl _)) (fun i d x D H H3 acc e hb hx hp e3 hD h3 R r => by subst hx; exact he d D H3 acc (e.trans e3) (List.mem_of_getElem? hb) hD h3 R r) (fun D ys H hD e hy hp => k D ys H hD e hy (by rwa [List.filter_eq_self.mpr (fun _ _ => rfl)] at hp))
  have z := y.2 _ (e.seq hx)
  rw [List.getElem?_map] at z
  cases h : xs[i]? with
  | none => rw [h] at z; cases z
  | some c => rw [h] at z; cases z; exact ⟨y.1, c, rfl, rfl⟩
theorem eqv_shaped {d : PyData} (h : SeqAt.shaped d = true) : PyData.eqv d d = true := SeqAt.eqv_refl d (Bool.and_eq_true_iff.mp h).1
theorem inD_of {x : Str} {v : V} {kvs : List (Key × V)} (hx : isNameS x = true) (h : valV kvs (.inr x) = some v) : inD (.str x) kvs = true := by
  show (isNameS x && (valV kvs (.inr x)).isSome) = true
  rw [hx, h]; rfl
theorem ents_vals {α : Type} {R : V → α → Prop} : ∀ {l : List (Str × α)} {kvs : List (Key × V)}, Ent R l kvs → Paired (fun (x : Str × α) v => R v x.2) l (kvs.map (·.2))
  | [], [], _ => .nil
  | _ :: _, _ :: _, ⟨_, h2, h3⟩ => .cons h2 (ents_vals h3)
theorem dp_strs {α : Type} {K : PySem.W.Frag} {H : Hp} (l : List (Str × α)) : DpAll K H (l.map fun x => V.str x.1) (l.map fun x => PyData.str x.1) := by
  have := dpAll_strs (K := K) (H := H) (l.map (·.1))
  rwa [List.map_map, List.map_map] at this
theorem good_strs {α : Type} {l : List (Str × α)} (h : ∀ x ∈ l, isNameS x.1 = true) : ∀ d ∈ l.map fun x => PyData.str x.1, SeqAt.shaped d = true ∧ d.depth ≤ 3 := fun d hd => by
  obtain ⟨x, hx, rfl⟩ := List.mem_map.mp hd
  exact ⟨shaped_name (h x hx), by simp [PyData.depth]⟩
theorem nodup_fst {α : Type} {x : Str} {a b : α} : ∀ {l : List (Str × α)}, (l.map (·.1)).Nodup → (x, a) ∈ l → (x, b) ∈ l → a = b
  | [], _, h, _ => nomatch h
  | (y, c) :: l, n, h1, h2 => by
    rw [List.map_cons, List.nodup_cons] at n
    rcases List.mem_cons.mp h1 with e1 | m1
    · rcases List.mem_cons.mp h2 with e2 | m2
      · cases e1; cases e2; rfl
      · cases e1; exact (n.1 (List.mem_map.mpr ⟨_, m2, rfl⟩)).elim
    · rcases List.mem_cons.mp h2 with e2 | m2
      · cases e2; exact (n.1 (List.mem_map.mpr ⟨_, m1, rfl⟩)).elim
      · exact nodup_fst n.2 m1 m2
theorem Ent.at {α : Type} {R : V → α → Prop} {x : Str} {a : α} {l : List (Str × α)} {kvs : List (Key × V)} (h : Ent R l kvs) (nd : (l.map (·.1)).Nodup) (m : (x, a) ∈ l) : ∃ v, valV kvs (.inr x) = some v ∧ R v a := by
  cases e : valV kvs (.inr x) with
  | none => exact absurd rfl (h.none_of e _ m)
  | some v =>
    obtain ⟨b, hb, r⟩ := h.get e
    rw [nodup_fst nd m hb]
    exact ⟨v, rfl, r⟩
theorem sh_int (i : Int) : SeqAt.shaped (.int i) = true := rfl
theorem sh_bl (b : Bool) : SeqAt.shaped (.bool b) = true := rfl
/-- what stands at a name -/
def lkT {α : Type} [Inhabited α] (l : List (Str × α)) (x : Str) : α := (l.lookup x).getD default
theorem lkT_eq {α : Type} [Inhabited α] {l : List (Str × α)} {x : Str} {a : α} (h : l.lookup x = some a) : lkT l x = a := by
  unfold lkT
  rw [h]
  rfl
theorem Ent.look {α : Type} {R : V → α → Prop} : ∀ {l : List (Str × α)} {kvs : List (Key × V)} {c : Str × α}, Ent R l kvs → c ∈ l → ∃ v b, valV kvs (.inr c.1) = some v ∧ l.lookup c.1 = some b ∧ (c.1, b) ∈ l ∧ R v b
  | [], [], _, _, h => nomatch h
  | xa :: l, kv :: r, c, ⟨h1, h2, h3⟩, hm => by
    by_cases e : xa.1 = c.1
    · refine ⟨kv.2, xa.2, valV_pos (by rw [h1, e]), ?_, by rw [← e]; exact List.mem_cons_self, h2⟩
      have hb : (c.1 == xa.1) = true := beq_iff_eq.mpr e.symm
      rw [List.lookup, hb]
    · have e1 : ¬ kv.1 = Sum.inr c.1 := fun z => e (Sum.inr.inj (h1.symm.trans z))
      have hm2 : c ∈ l := by
        rcases List.mem_cons.mp hm with z | z
        · exact absurd (by rw [z]) e
        · exact z
      obtain ⟨v, b, g1, g2, g3, g4⟩ := Ent.look h3 hm2
      refine ⟨v, b, by rw [valV_neg e1]; exact g1, ?_, List.mem_cons_of_mem _ g3, g4⟩
      have hb : (c.1 == xa.1) = false := beq_eq_false_iff_ne.mpr fun z => e z.symm
      rw [List.lookup, hb]
      exact g2
theorem depth_list {ds : List PyData} {n : Nat} (h : ∀ d ∈ ds, d.depth ≤ n) : (PyData.list ds).depth ≤ n + 1 := by
  have := depth_all h
  rw [PyData.depth]
  omega
theorem depth_tup {ds : List PyData} {n : Nat} (h : ∀ d ∈ ds, d.depth ≤ n) : (PyData.tuple ds).depth ≤ n + 1 := by
  have := depth_all h
  rw [PyData.depth]
  omega
def ticketD (a : Int × Int × List Int) : PyData := .tuple [.int a.1, .int a.2.1, .list (a.2.2.map PyData.int)]
def tripD (a : Str × List Call) : PyData := .tuple [.str a.1, .list (a.2.map callD)]
theorem shaped_tickets (l : List (Str × (Int × Int × List Int))) : SeqAt.shaped (.list (l.map fun x => ticketD (lkT l x.1))) = true := shaped_list (n := 2) (fun d hd => by
    obtain ⟨x, _, rfl⟩ := List.mem_map.mp hd
    refine shaped_tup (n := 1) (fun d hd => ?_) fun d hd => ?_
    · simp only [List.mem_cons, List.not_mem_nil, or_false] at hd
      rcases hd with rfl | rfl | rfl
      · exact sh_int _
      · exact sh_int _
      · exact shaped_ints _
    · simp only [List.mem_cons, List.not_mem_nil, or_false] at hd
      rcases hd with rfl | rfl | rfl
      · simp [PyData.depth]
      · simp [PyData.depth]
      · exact depth_list fun d hd => by
          obtain ⟨i, _, rfl⟩ := List.mem_map.mp hd
          simp [PyData.depth]) fun d hd => by
    obtain ⟨x, _, rfl⟩ := List.mem_map.mp hd
    refine depth_tup fun d hd => ?_
    simp only [List.mem_cons, List.not_mem_nil, or_false] at hd
    rcases hd with rfl | rfl | rfl
    · simp [PyData.depth]
    · simp [PyData.depth]
    · exact depth_list fun d hd => by
        obtain ⟨i, _, rfl⟩ := List.mem_map.mp hd
        simp [PyData.depth]
theorem shaped_trips (l : List (Str × (Str × List Call))) (h : ∀ x ∈ l, isNameS (lkT l x.1).1 = true ∧ ∀ c ∈ (lkT l x.1).2, isNameS c.1 = true) : SeqAt.shaped (.list (l.map fun x => tripD (lkT l x.1))) = true := by
  have hc : ∀ c : Call, isNameS c.1 = true → SeqAt.shaped (callD c) = true ∧ (callD c).depth ≤ 1 := fun c hc => ⟨shaped_tup (n := 0) (fun d hd => by
      simp only [List.mem_cons, List.not_mem_nil, or_false] at hd
      rcases hd with rfl | rfl | rfl
      · exact shaped_name hc
      · exact sh_int _
      · exact sh_int _) (fun d hd => by
      simp only [List.mem_cons, List.not_mem_nil, or_false] at hd
      rcases hd with rfl | rfl | rfl <;> simp [PyData.depth]), depth_tup fun d hd => by
      simp only [List.mem_cons, List.not_mem_nil, or_false] at hd
      rcases hd with rfl | rfl | rfl <;> simp [PyData.depth]⟩
  have hcs : ∀ cs : List Call, (∀ c ∈ cs, isNameS c.1 = true) → SeqAt.shaped (.list (cs.map callD)) = true ∧ (PyData.list (cs.map callD)).depth ≤ 2 := fun cs h => ⟨shaped_list (n := 1) (fun d hd => by
      obtain ⟨c, hm, rfl⟩ := List.mem_map.mp hd
      exact (hc c (h c hm)).1) (fun d hd => by
      obtain ⟨c, hm, rfl⟩ := List.mem_map.mp hd
      exact (hc c (h c hm)).2), depth_list fun d hd => by
      obtain ⟨c, hm, rfl⟩ := List.mem_map.mp hd
      exact (hc c (h c hm)).2⟩
  refine shaped_list (n := 3) (fun d hd => ?_) fun d hd => ?_
  · obtain ⟨x, hx, rfl⟩ := List.mem_map.mp hd
    obtain ⟨h1, h2⟩ := h x hx
    refine shaped_tup (n := 2) (fun d hd => ?_) fun d hd => ?_
    · simp only [List.mem_cons, List.not_mem_nil, or_false] at hd
      rcases hd with rfl | rfl
      · exact shaped_name h1
      · exact (hcs _ h2).1
    · simp only [List.mem_cons, List.not_mem_nil, or_false] at hd
      rcases hd with rfl | rfl
      · simp [PyData.depth]
      · exact (hcs _ h2).2
  · obtain ⟨x, hx, rfl⟩ := List.mem_map.mp hd
    obtain ⟨h1, h2⟩ := h x hx
    refine depth_tup fun d hd => ?_
    simp only [List.mem_cons, List.not_mem_nil, or_false] at hd
    rcases hd with rfl | rfl
    · simp [PyData.depth]
    · exact (hcs _ h2).2
theorem paired_mem {α : Type} {R : α → V → Prop} : ∀ {l : List α} {ys : List V}, Paired R l ys → ∀ y ∈ ys, ∃ a ∈ l, R a y
  | [], _, .nil, _, h => nomatch h
  | a :: l, _, .cons r t, y, h => by
    rcases List.mem_cons.mp h with rfl | h
    · exact ⟨a, List.mem_cons_self, r⟩
    · obtain ⟨b, hb, hr⟩ := paired_mem t y h
      exact ⟨b, List.mem_cons_of_mem _ hb, hr⟩
theorem cut_ne {D u : Addr} {H : Hp} {o : HO} (h : cut D H u = some o) : u ≠ D := fun z => by
  rw [z] at h
  unfold cut at h
  rw [if_pos rfl] at h
  cases h
theorem keysK {α : Type} {R : V → α → Prop} {l : List (Str × α)} {kvs : List (Key × V)} (h : Ent R l kvs) : (kvs.map fun kv => kV kv.1) = l.map fun x => V.str x.1 := by
  rw [keysV (S := l.map (·.1)) (by rw [h.keys, List.map_map]; rfl), List.map_map]
  rfl
section
variable {P : Program} {w : World} {K : PySem.W.Frag} {mg : Str → Option Value} {base : Heap}
def p_law_one (K : PySem.W.Frag) : P4 := fun v u m g H Q _ => ∃ M p N W A S way O os, v = .ref p ∧ u = .ref W ∧ m = .int way ∧ g = .ref O ∧ Two K M H p N W A S ∧ (∀ b ∈ N.l ++ A.l, b ∈ M) ∧ (N.l ++ A.l).Nodup ∧ O ∈ M ∧ O ∉ N.l ++ A.l ∧ H O = some (.lst os) ∧ OldsAt K (cutM M H) os ∧ os.length < 1000 ∧ 0 ≤ way ∧ way ≤ 4 ∧
  ∀ H' os', FrM [O] H H' → Two K M H' p N W A S → H' O = some (.lst os') → OldsAt K (cutM M H') os' → os'.length = os.length + 1 → Q (.bl true) H'
theorem ok_law_one (T : Tx K mg) : Cal CX0 P w K mg base 12 "_law_one" (sp4 (p_law_one K)) := by
  refine cal_ofC T.d_law_one T.g__law_one (fun _ _ _ _ _ _ => bind4 fun _ _ _ _ => rfl) sc_law_one len4 fun vs H Q E ⟨v, u, m, g, e, h⟩ A0 outer s hr => ?_
  subst e
  have hu := hu_of hr
  have hu64 := hr.units
  refine ⟨_, PSs.nox (pss_cons (ps_if (pt_cmpR op_eq (pv 2) pe_int (nomark _)) (pss_cons (ps_par (i := 4) (j := 5) rfl sc_law_one.nd rfl rfl (by decide) rfl rfl (pa_cons (pe_me0 (ok_Net_stops T) hr (by decide) pass0 (pv 0)) (pa_cons (pe_callTy (call_list_dK rfl) rfl T.f_list (by decide +kernel) (pa_cons (pe_dget hu (pv 1) pe_str (fun _ _ => rfl)) pa_nil)) pa_nil)) (by rfl))
    (pss_cons (ps_set (i := 6) sc_law_one.nd rfl (Or.inr rfl) (pe_lc (own := [("_law_stop", 12)]) rfl sc_law_one.nd (pi_list (pv 4)) (blkOk_by (own := [("_law_stop", 12)]) (N := ["_law_net", "_law_world_here", "_law_way", "_law_olds", "_law_found", "_law_due", "_law_told", "_law_good", "_law_name_here", "_law_days_here", "_law_ticket", "_law_trip", "_law_stop", "_law_walk", "_law_day"]) (sc := defScope s_law_one) (by decide +kernel)) (fun _ _ _ _ _ => pg_name (i := 12) sc_law_one.nd rfl (Or.inl rfl)) (fun _ _ _ _ _ => pts_nil) (fun _ _ _ _ _ => (pe_tup (pa_cons (pe_me (ok_Net_zone T) hr (by decide) passL (pv 0) (pa_cons (pv 12) pa_nil)) (pa_cons (pe_me (ok_Net_change T) hr (by decide) passL (pv 0) (pa_cons (pv 12) pa_nil)) pa_nil))))))
    (pss_one (ps_set (i := 7) sc_law_one.nd rfl (Or.inl rfl) (pe_cmpR (op_eqD hu64) (pv 6) (pe_listVals rfl (pe_dget hu (pv 1) pe_str (fun _ _ => rfl)) rfl T.f_list (by decide +kernel)) (nomark _)))))) (pss_one (ps_if (pt_cmpR op_eq (pv 2) pe_int (nomark _)) (pss_cons (ps_par (i := 4) (j := 5) rfl sc_law_one.nd rfl rfl (by decide) rfl rfl (pa_cons (pe_me0 (ok_Net_walks T) hr (by decide) pass0 (pv 0)) (pa_cons (pe_dget hu (pv 1) pe_str (fun _ _ => rfl)) pa_nil)) (by rfl))
    (pss_one (ps_set (i := 7) sc_law_one.nd rfl (Or.inl rfl) (pe_cmpR (op_eqD hu64) (pe_lc (own := [("_law_walk", 13)]) rfl sc_law_one.nd (pi_list (pv 4)) (blkOk_by (own := [("_law_walk", 13)]) (N := ["_law_net", "_law_world_here", "_law_way", "_law_olds", "_law_found", "_law_due", "_law_told", "_law_good", "_law_name_here", "_law_days_here", "_law_ticket", "_law_trip", "_law_stop", "_law_walk", "_law_day"]) (sc := defScope s_law_one) (by decide +kernel)) (fun _ _ _ _ _ => pg_name (i := 13) sc_law_one.nd rfl (Or.inl rfl)) (fun _ _ _ _ _ => pts_one (pt_not (pt_val (pe_callB (isiK K) rfl T.f_isinstance (by decide +kernel) (pa_cons (pv 13) (pa_cons (pe_bltn (v := .ty "tuple") rfl T.f_tuple (by decide +kernel) rfl) pa_nil)))))) (fun _ _ _ _ _ => (pv 13))) (pe_lst pa_nil) (nomark _))))) (pss_one (ps_if (pt_cmpR op_eq (pv 2) pe_int (nomark _)) (pss_cons (ps_par (i := 4) (j := 5) rfl sc_law_one.nd rfl rfl (by decide) rfl rfl (pa_cons (pe_me0 (ok_Net_rules T) hr (by decide) pass0 (pv 0)) (pa_cons (pe_callTy (call_list_dK rfl) rfl T.f_list (by decide +kernel) (pa_cons (pe_dget hu (pv 1) pe_str (fun _ _ => rfl)) pa_nil)) pa_nil)) (by rfl))
    (pss_cons (ps_set (i := 7) sc_law_one.nd rfl (Or.inl rfl) pe_bl)
    (pss_one (ps_for PassesOwn.never rfl (pi_list (pv 5)) (pg_name (i := 8) sc_law_one.nd rfl (Or.inr rfl))
    (pss_cons (ps_setLc (i := 9) (own := [("_law_day", 14)]) rfl sc_law_one.nd rfl rfl (sw_true rfl rfl rfl (by decide +kernel)) (pi_range1 rfl T.f_range (pa_cons pe_int pa_nil)) (blkOk_by (own := [("_law_day", 14)]) (N := ["_law_net", "_law_world_here", "_law_way", "_law_olds", "_law_found", "_law_due", "_law_told", "_law_good", "_law_name_here", "_law_days_here", "_law_ticket", "_law_trip", "_law_stop", "_law_walk", "_law_day"]) (sc := defScope s_law_one) (by decide +kernel)) (fun _ _ _ _ _ => pg_name (i := 14) sc_law_one.nd rfl (Or.inl rfl)) (fun _ _ _ _ _ => pts_nil) (fun _ _ _ _ _ => (pe_meD (D := fun x => x ∈ ruleNames) (C := He.ga K) (fun i hi => ok_runs T 3 i hi) hr (by decide) pass0 (pe_me (ok_Net_rule T) hr (by decide) passL (pv 0) (pa_cons (pv 8) pa_nil)) (pa_cons (pv 14) pa_nil))))
    (pss_cons (ps_set (i := 6) sc_law_one.nd rfl (Or.inr rfl) (pe_dget hu (pe_dget hu (pv 1) pe_str (fun _ _ => rfl)) (pv 8) (fun _ _ => rfl)))
    (pss_one (ps_set (i := 7) sc_law_one.nd rfl (Or.inl rfl) (pe_and (pv 7) (pe_one (pe_cmpR (op_eqD hu64) (pv 9) (pe_lc (own := [("_law_day", 14)]) rfl sc_law_one.nd (pi_range1 rfl T.f_range (pa_cons pe_int pa_nil)) (blkOk_by (own := [("_law_day", 14)]) (N := ["_law_net", "_law_world_here", "_law_way", "_law_olds", "_law_found", "_law_due", "_law_told", "_law_good", "_law_name_here", "_law_days_here", "_law_ticket", "_law_trip", "_law_stop", "_law_walk", "_law_day"]) (sc := defScope s_law_one) (by decide +kernel)) (fun _ _ _ _ _ => pg_name (i := 14) sc_law_one.nd rfl (Or.inl rfl)) (fun _ _ _ _ _ => pts_nil) (fun _ _ _ _ _ => (pe_ca (ok_law_runs T 3) hr (by decide) rfl pass0 (pa_cons (pv 6) (pa_cons (pv 14) pa_nil))))) (nomark _)))))))))))) (pss_one (ps_if (pt_cmpR op_eq (pv 2) pe_int (nomark _)) (pss_cons (ps_par (i := 4) (j := 5) rfl sc_law_one.nd rfl rfl (by decide) rfl rfl (pa_cons (pe_me0 (ok_Net_tickets T) hr (by decide) pass0 (pv 0)) (pa_cons (pe_callTy (call_list_dK rfl) rfl T.f_list (by decide +kernel) (pa_cons (pe_dget hu (pv 1) pe_str (fun _ _ => rfl)) pa_nil)) pa_nil)) (by rfl))
    (pss_cons (ps_set (i := 6) sc_law_one.nd rfl (Or.inr rfl) (pe_lc (own := [("_law_name_here", 8)]) rfl sc_law_one.nd (pi_list (pv 5)) (blkOk_by (own := [("_law_name_here", 8)]) (N := ["_law_net", "_law_world_here", "_law_way", "_law_olds", "_law_found", "_law_due", "_law_told", "_law_good", "_law_name_here", "_law_days_here", "_law_ticket", "_law_trip", "_law_stop", "_law_walk", "_law_day"]) (sc := defScope s_law_one) (by decide +kernel)) (fun _ _ _ _ _ => pg_name (i := 8) sc_law_one.nd rfl (Or.inl rfl)) (fun _ _ _ _ _ => pts_nil) (fun _ _ _ _ _ => (pe_me (ok_Net_ticket T) hr (by decide) passL (pv 0) (pa_cons (pv 8) pa_nil)))))
    (pss_cons (ps_set (i := 7) sc_law_one.nd rfl (Or.inl rfl) (pe_cmpR (op_eqD hu64) (pv 6) (pe_lc (own := [("_law_name_here", 8)]) rfl sc_law_one.nd (pi_list (pv 5)) (blkOk_by (own := [("_law_name_here", 8)]) (N := ["_law_net", "_law_world_here", "_law_way", "_law_olds", "_law_found", "_law_due", "_law_told", "_law_good", "_law_name_here", "_law_days_here", "_law_ticket", "_law_trip", "_law_stop", "_law_walk", "_law_day"]) (sc := defScope s_law_one) (by decide +kernel)) (fun _ _ _ _ _ => pg_name (i := 8) sc_law_one.nd rfl (Or.inl rfl)) (fun _ _ _ _ _ => pts_nil) (fun _ _ _ _ _ => (pe_dget hu (pe_dget hu (pv 1) pe_str (fun _ _ => rfl)) (pv 8) (fun _ _ => rfl)))) (nomark _)))
    (pss_one (ps_for PassesOwn.never rfl (pi_list (pv 6)) (pg_name (i := 10) sc_law_one.nd rfl (Or.inl rfl))
    (pss_one (ps_expr (pe_bm PySem.F.plainAttrs_list PySem.F.slot_list_append PySem.F.type_list_append mt_append (pe_ix ix_tup (pv 10) pe_int (fun _ _ => rfl)) (pa_cons pe_int pa_nil))))))))) (pss_cons (ps_par (i := 4) (j := 5) rfl sc_law_one.nd rfl rfl (by decide) rfl rfl (pa_cons (pe_me0 (ok_Net_trips T) hr (by decide) pass0 (pv 0)) (pa_cons (pe_callTy (call_list_dK rfl) rfl T.f_list (by decide +kernel) (pa_cons (pe_dget hu (pv 1) pe_str (fun _ _ => rfl)) pa_nil)) pa_nil)) (by rfl))
    (pss_cons (ps_set (i := 6) sc_law_one.nd rfl (Or.inr rfl) (pe_lc (own := [("_law_trip", 11)]) rfl sc_law_one.nd (pi_list (pv 5)) (blkOk_by (own := [("_law_trip", 11)]) (N := ["_law_net", "_law_world_here", "_law_way", "_law_olds", "_law_found", "_law_due", "_law_told", "_law_good", "_law_name_here", "_law_days_here", "_law_ticket", "_law_trip", "_law_stop", "_law_walk", "_law_day"]) (sc := defScope s_law_one) (by decide +kernel)) (fun _ _ _ _ _ => pg_name (i := 11) sc_law_one.nd rfl (Or.inl rfl)) (fun _ _ _ _ _ => pts_nil) (fun _ _ _ _ _ => (pe_tup (pa_cons (pe_me (ok_Net_rule_name T) hr (by decide) passL (pv 0) (pa_cons (pv 11) pa_nil)) (pa_cons (pe_me (ok_Net_calls T) hr (by decide) passL (pv 0) (pa_cons (pv 11) pa_nil)) pa_nil))))))
    (pss_cons (ps_set (i := 7) sc_law_one.nd rfl (Or.inl rfl) (pe_cmpR (op_eqD hu64) (pv 6) (pe_lc (own := [("_law_trip", 11)]) rfl sc_law_one.nd (pi_list (pv 5)) (blkOk_by (own := [("_law_trip", 11)]) (N := ["_law_net", "_law_world_here", "_law_way", "_law_olds", "_law_found", "_law_due", "_law_told", "_law_good", "_law_name_here", "_law_days_here", "_law_ticket", "_law_trip", "_law_stop", "_law_walk", "_law_day"]) (sc := defScope s_law_one) (by decide +kernel)) (fun _ _ _ _ _ => pg_name (i := 11) sc_law_one.nd rfl (Or.inl rfl)) (fun _ _ _ _ _ => pts_nil) (fun _ _ _ _ _ => (pe_dget hu (pe_dget hu (pv 1) pe_str (fun _ _ => rfl)) (pv 11) (fun _ _ => rfl)))) (nomark _)))
    (pss_one (ps_for PassesOwn.never rfl (pi_list (pv 6)) (pg_name (i := 11) sc_law_one.nd rfl (Or.inl rfl))
    (pss_one (ps_expr (pe_bm0 PySem.F.plainAttrs_list PySem.F.slot_list_clear PySem.F.type_list_clear mt_clear (pe_ix ix_tup (pv 11) pe_int (fun _ _ => rfl)))))))))))))))))
    (pss_cons (ps_if (PW.pt (pw_or (pt_not (pt_val (pe_callB call_isi rfl T.f_isinstance (by decide +kernel) (pa_cons (pv 4) (pa_cons (pe_bltn (v := .ty "list") rfl T.f_list (by decide +kernel) rfl) pa_nil))))) (pw_or (pt_cmpR (op_neD hu64) (pv 4) (pv 5) (nomark _)) (pw_or1 (pt_not (pt_val (pv 7))))))) (pss_one (ps_ret pe_bl)) pss_nil)
    (pss_cons (ps_expr (pe_bm PySem.F.plainAttrs_list PySem.F.slot_list_append PySem.F.type_list_append mt_append (pv 4) (pa_cons pe_str pa_nil)))
    (pss_cons (ps_expr (pe_bm PySem.F.plainAttrs_list PySem.F.slot_list_append PySem.F.type_list_append mt_append (pv 3) (pa_cons (pe_tup (pa_cons (pv 4) (pa_cons (pe_callTy call_list_of rfl T.f_list (by decide +kernel) (pa_cons (pv 4) pa_nil)) pa_nil))) pa_nil)))
    (pss_one (ps_ret pe_bl)))))), ?_⟩
  obtain ⟨M, p, N, W, A, S, way, O, os, rfl, rfl, rfl, rfl, tw, hCM, hnd, hOM, hON, hO, hos, ho1, hw0, hw4, q⟩ := h
  have net := tw.net
  have wor := tw.wor
  refine seq_hide fun U hU => ?_
  have tail : ∀ (o6 o8 o9 o10 o11 o12 o13 o14 : Option V) (a b : Addr) (xs : List V) (ds : List PyData) (H8 : Hp), H a = none → FrM [] H H8 → H8 a = some (.lst xs) → DpAll K (cutM M H) xs ds → Dp K H8 (.ref b) (.list ds) → (∀ d ∈ ds, SeqAt.shaped d = true ∧ d.depth ≤ 3) → xs.length < 1000 → Two K M H8 p N W A S →
      U (endsOf Q) [some (.ref p), some (.ref W), some (.int way), some (.ref O), some (.ref a), some (.ref b), o6, some (.bl true), o8, o9, o10, o11, o12, o13, o14] H8 := by
    intro o6 o8 o9 o10 o11 o12 o13 o14 a b xs ds H8 ha f8 h8 hd hb hg hx t8
    have hs : SeqAt.shaped (.list ds) = true := shaped_list (n := 3) (fun d h => (hg d h).1) (fun d h => (hg d h).2)
    have hg2 : ∀ d ∈ ds ++ [.str "more"], SeqAt.shaped d = true ∧ d.depth ≤ 3 := fun d h => by
      rcases List.mem_append.mp h with h | h
      · exact hg d h
      · rw [List.mem_singleton] at h
        rw [h]
        exact ⟨by decide +kernel, by decide +kernel⟩
    have hs2 : SeqAt.shaped (.list (ds ++ [.str "more"])) = true := shaped_list (n := 3) (fun d h => (hg2 d h).1) (fun d h => (hg2 d h).2)
    have he := eqv_shaped hs
    have he2 := eqv_shaped hs2
    subst hU
    walk_at "ws"
    refine w_isL (SqL.of h8) ?_
    walk_at "ws"
    have s8 : Same (cutM M H) (cutM M H8) := cutM_fr f8 (by simp)
    refine ⟨_, _, Dp.newL h8 (hd.up (s8.trans cutM_same)), hb, hs, hs, ?_⟩
    rw [he]
    walk_at "ws"
    refine ⟨Or.inl ⟨rfl, _, SqL.of h8⟩, a, xs, _, rfl, rfl, h8, Nat.lt_trans hx (by decide), ?_⟩
    walk_at "ws"
    have hOa : O ≠ a := fun z => by rw [z, ha] at hO; cases hO
    have aM : a ∉ M := fun z => by
      obtain ⟨o, e, _⟩ := tw.live a z
      rw [ha] at e; cases e
    have hO8 : H8 O = some (.lst os) := f8 _ _ (by simp) hO (fun _ z => nomatch z)
    have hO9 : upd H8 a (.lst (xs ++ [.str "more"])) O = some (.lst os) := by rw [upd_ne hOa]; exact hO8
    have f9 : FrM [] H (upd H8 a (.lst (xs ++ [.str "more"]))) := f8.updF ha
    have t9 : LamX.Tabs (Tb K) (upd H8 a (.lst (xs ++ [.str "more"]))) := tabs_upd t8.tab h8 (fun _ z => nomatch z) (fun _ z => nomatch z)
    have g9 : upd H8 a (.lst (xs ++ [.str "more"])) a = some (.lst (xs ++ [.str "more"])) := upd_same
    generalize upd H8 a (.lst (xs ++ [.str "more"])) = H9 at *
    refine ⟨Or.inl ⟨rfl, os, SqL.of hO9⟩, a, _, rfl, Or.inl (SqL.of g9), fun l hl => ⟨by decide, fun t ht => ⟨O, os, _, rfl, rfl, ?_, Nat.lt_trans ho1 (by decide), ?_⟩⟩⟩
    · exact Same.new ht _ _ (Same.new hl _ _ hO9)
    have a10 := alloc1 (o := .lst (xs ++ [.str "more"])) hl rfl
    have a11 := alloc1 (o := .tup [.ref a, .ref l]) ht rfl
    obtain ⟨e10, g10⟩ := a10
    obtain ⟨e11, g11⟩ := a11
    have nM : ∀ {x : Addr} {H' : Hp}, FrM [] H H' → H' x = none → x ∉ M := fun {x H'} f hx z => by
      obtain ⟨o, e, n⟩ := tw.live x z
      rw [f x o (by simp) e n] at hx
      cases hx
    have lM : l ∉ M := nM f9 hl
    have f10 : FrM [] H _ := f9.trans e10.frm
    have tM : t ∉ M := nM f10 ht
    have tO : t ≠ O := fun z => tM (by rw [z]; exact hOM)
    have lO : l ≠ O := fun z => lM (by rw [z]; exact hOM)
    have hO11 := e11 _ _ (e10 _ _ hO9)
    have g11a := e11 _ _ (e10 _ _ g9)
    have g11l := e11 _ _ g10
    have f11 : FrM [] H _ := f10.trans e11.frm
    have t11 := tabs_same (tabs_same t9 e10) e11
    have f12 : FrM [O] H _ := FrM.updC (a := O) (o := .lst (os ++ [.ref t])) (f11.mono (by simp)) (by simp)
    have hC1 : ∀ b ∈ [O], b ∈ M := fun b hb => by
      rw [List.mem_singleton] at hb
      rw [hb]
      exact hOM
    have s12 := cutM_fr f12 hC1
    have oN : ∀ b ∈ N.l ++ A.l, b ∉ [O] := fun b hb z => by
      rw [List.mem_singleton] at z
      exact hON (z ▸ hb)
    refine q _ _ f12 ⟨net.fr f12 hC1 (fun b hb => oN b (List.mem_append_left _ hb)), wor.fr f12 hC1 (fun b hb => oN b (List.mem_append_right _ hb)), tw.ok, tw.live.fr f12 (fun b hb => ?_), tabs_upd t11 hO11 (fun _ z => nomatch z) (fun _ z => nomatch z)⟩ upd_same (fun v hv => ?_) (by simp)
    · rw [List.mem_singleton] at hb
      rw [hb]
      exact ⟨_, upd_same, fun _ z => nomatch z⟩
    · rcases List.mem_append.mp hv with hv | hv
      · exact hos.up s12 v hv
      · rw [List.mem_singleton] at hv
        have hall := (hd.up s12).app (.cons (.str "more") .nil)
        refine ⟨t, a, l, _, hv, cutM_get tM (by rw [upd_ne tO]; exact g11) (fun _ z => nomatch z), Dp.newL (cutM_get aM (by rw [upd_ne hOa.symm]; exact g11a) (fun _ z => nomatch z)) hall, Dp.newL (cutM_get lM (by rw [upd_ne lO]; exact g11l) (fun _ z => nomatch z)) hall, hs2, he2⟩
  clear hU
  have hways : way = 0 ∨ way = 1 ∨ way = 2 ∨ way = 3 ∨ way = 4 := by omega
  obtain ⟨ka, vb, kc, kd, ke, na, nb, nc, nd, ne, nk⟩ := net.ex
  obtain ⟨la, wb, lc, ld, le, wa, wb', wc, wd, we, wk⟩ := wor.ex
  have nn := net.n.up cutM_same
  have wn := wor.n.up cutM_same
  have ok := tw.ok
  have kna := keysK nk.a
  have kwa := keysK wk.a
  have knc := keysK nk.c
  have kwc := keysK wk.c
  have knd := keysK nk.d
  have kwd := keysK wk.d
  have kne := keysK nk.e
  have kwe := keysK wk.e
  rcases hways with rfl | rfl | rfl | rfl | rfl
  · walk_at "ws"
    refine f_meth nn (fun _ => by rfl) ?_
    refine ⟨p, N, ka, rfl, nn, na, fun l H1 hl e1 g1 => ?_⟩
    rw [kna] at g1
    refine d_stops (wn.up e1) ?_
    refine ⟨A.s, la, rfl, e1 _ _ wa, fun b hb => ?_⟩
    rw [kwa]
    have a2 := alloc1 (o := .lst (S.stops.map fun x => V.str x.1)) hb rfl
    generalize upd H1 b _ = H2 at *
    obtain ⟨e2, g2⟩ := a2
    have e02 := e1.trans e2
    refine ⟨l, rfl, ⟨_, SqL.of (e2 _ _ g1)⟩, lcA S.stops (fun x => V.str x.1) (fun x y H => Dp K H y (.tuple [.int x.2.1, .int x.2.2])) (SqL.of (e2 _ _ g1)) (Nat.lt_of_le_of_lt ok.s8 (by decide)) (fun _ => rfl) (fun x y H H' e h => h.up e) (fun c D H3 acc e3 hc hD hacc R r => ?_) (fun D ys H3 hD e3 g3 hp => ?_)⟩
    · simp only [wipe]
      walk_at "ws"
      have e03 := e02.trans e3
      obtain ⟨v, hv, hr⟩ := nk.a.at ok.sn (x := c.1) (a := c.2) hc
      have hk := ok.sk c hc
      have hin := inD_of hk hv
      obtain ⟨t, rfl, ht⟩ := hr
      have ht3 : ∀ H', Same H3 H' → H' t = some (.tup [.int c.2.1, .int c.2.2]) := fun H' e => e _ _ (e03 _ _ (cutM_same _ _ ht))
      refine f_meth (nn.up e03) (fun _ => by rfl) ?_
      refine ⟨p, N, .str c.1, ka, rfl, nn.up e03, .dp (.str _) (okD_name hk), e03 _ _ na, fun H4 e4 => ⟨(fun hx => by rw [hin] at hx; cases hx), fun x y hd hxn hy => ?_⟩⟩
      cases hd
      obtain rfl := Option.some.inj (hv.symm.trans hy)
      refine ⟨t, _, _, rfl, ht3 _ e4, rfl, ?_⟩
      have e04 := e03.trans e4
      refine f_meth (nn.up e04) (fun _ => by rfl) ?_
      refine ⟨p, N, .str c.1, ka, rfl, nn.up e04, .dp (.str _) (okD_name hk), e04 _ _ na, fun H5 e5 => ⟨(fun hx => by rw [hin] at hx; cases hx), fun x y hd hxn hy => ?_⟩⟩
      cases hd
      obtain rfl := Option.some.inj (hv.symm.trans hy)
      refine ⟨t, _, _, rfl, ht3 _ (e4.trans e5), rfl, by decide, fun q hq => ?_⟩
      have a6 := alloc1 (o := .tup [.int c.2.1, .int c.2.2]) hq rfl
      generalize upd H5 q _ = H6 at *
      obtain ⟨e6, g6⟩ := a6
      have nD : q ≠ D := fun z => by
        have := e5 _ _ (e4 _ _ hacc)
        rw [← z, hq] at this
        cases this
      refine r _ _ ((e4.trans e5).trans e6) (Dp.newT (cut_get nD g6) (.cons (.int _) (.cons (.int _) .nil)))
    · have hda := paired_dp (f := fun x : Str × (Int × Int) => PyData.tuple [.int x.2.1, .int x.2.2]) hp
      have e03 := e02.trans e3
      rw [w_lvals]
      walk_at "ws"
      refine d_stops (wn.up e03) ?_
      refine ⟨A.s, la, rfl, e03 _ _ wa, fun q hq => ?_⟩
      have a4 := alloc1 (o := .lst (la.map fun x => x.2)) hq rfl
      generalize upd H3 q _ = H4 at *
      obtain ⟨e4, g4⟩ := a4
      have hd2 : DpAll K H4 (la.map fun x => x.2) (S.stops.map fun x => PyData.tuple [.int x.2.1, .int x.2.2]) := paired_dp (L2.Paired.mapP (ents_vals wk.a) fun x v ⟨t, h1, h2⟩ => by
        rw [h1]
        exact Dp.newT (e4 _ _ (e03 _ _ (cutM_same _ _ h2))) (.cons (.int _) (.cons (.int _) .nil)))
      have sh : SeqAt.shaped (.list (S.stops.map fun x => PyData.tuple [.int x.2.1, .int x.2.2])) = true := shaped_list (n := 1) (fun d hd => by
        obtain ⟨x, hx, rfl⟩ := List.mem_map.mp hd
        exact shaped_tup (n := 0) (fun d hd => by
          simp at hd
          rcases hd with rfl | rfl <;> exact sh_int _) (fun d hd => by
          simp at hd
          rcases hd with rfl | rfl <;> simp [PyData.depth])) (fun d hd => by
        obtain ⟨x, hx, rfl⟩ := List.mem_map.mp hd
        simp [PyData.depth, PyData.depthAll])
      refine ⟨_, _, Dp.newL (e4 _ _ g3) ((hda.up cut_same).up e4), Dp.newL g4 hd2, sh, sh, ?_⟩
      rw [eqv_shaped sh]
      refine tail _ _ _ _ _ _ _ _ l b _ (S.stops.map fun x => PyData.str x.1) H4 hl (e03.trans e4).frm (e4 _ _ (e3 _ _ (e2 _ _ g1))) (dp_strs _) (Dp.newL (e4 _ _ (e3 _ _ g2)) (dp_strs _)) (good_strs ok.sk) (by rw [List.length_map]; exact Nat.lt_of_le_of_lt ok.s8 (by decide)) ⟨net.up (e03.trans e4), wor.up (e03.trans e4), ok, tw.live.up (e03.trans e4), tabs_same tw.tab (e03.trans e4)⟩
  · walk_at "ws"
    refine f_meth nn (fun _ => by rfl) ?_
    refine ⟨p, N, vb, rfl, nn, nb, fun l H1 hl e1 g1 => ?_⟩
    refine d_walks (wn.up e1) ?_
    walk_at "ws"
    have hwl : S.walks.length ≤ 12 := ok.w12
    have nbd : DpAll K H1 vb (S.walks.map walkD) := (nk.b.up cutM_same).up e1
    refine ⟨l, rfl, ⟨_, SqL.of g1⟩, lcD (S.walks.map walkD) (fun _ => false) (fun _ _ _ => True) (SqL.of g1) nbd (by rw [List.length_map]; omega) (fun _ => rfl) (fun _ _ _ _ _ h => h) (fun d x H3 e3 hd hx R r => ?_) (fun _ _ _ _ _ _ _ _ hp => by cases hp) (fun D ys H3 hD e3 g3 hp => ?_)⟩
    · simp only [wipe]
      walk_at "ws"
      obtain ⟨w0, hw0, rfl⟩ := List.mem_map.mp hd
      obtain ⟨t, ts, rfl, ht, _⟩ := (hx.up e3).tup_inv
      refine w_isT ht ?_
      walk_at "ws"
      exact r _ (Same.refl _)
    · have ey : ys = [] := by
        have ef : List.filter (fun _ : PyData => false) (S.walks.map walkD) = [] := by simp
        rw [ef] at hp
        cases hp
        rfl
      subst ey
      refine ⟨by decide, ?_⟩
      walk_at "al"
      rename_i q hq H4 e4 g4
      refine ⟨_, _, Dp.newL (e4 _ _ g3) .nil, Dp.newL g4 .nil, rfl, rfl, ?_⟩
      have e14 := (e1.trans e3).trans e4
      refine tail _ _ _ _ _ _ _ _ l A.w _ (S.walks.map walkD) H4 hl e14.frm (e4 _ _ (e3 _ _ g1)) nk.b (Dp.newL (e14 _ _ wb') ((wk.b.up cutM_same).up e14)) (fun d hd => ?_) (by rw [nk.b.length, List.length_map]; omega) ⟨net.up e14, wor.up e14, ok, tw.live.up e14, tabs_same tw.tab e14⟩
      obtain ⟨w0, hw0, rfl⟩ := List.mem_map.mp hd
      have hwn := ok.wn w0 hw0
      refine ⟨shaped_tup (n := 0) (fun d hd => ?_) (fun d hd => ?_), by simp [walkD, PyData.depth, PyData.depthAll]⟩
      · simp at hd
        rcases hd with rfl | rfl | rfl
        · exact shaped_name hwn.1
        · exact shaped_name hwn.2
        · exact sh_int _
      · simp at hd
        rcases hd with rfl | rfl | rfl <;> simp [PyData.depth]
  · walk_at "ws"
    refine f_meth nn (fun _ => by rfl) ?_
    refine ⟨p, N, kc, rfl, nn, nc, fun l H1 hl e1 g1 => ?_⟩
    rw [knc] at g1
    refine d_rules (wn.up e1) ?_
    refine ⟨A.r, lc, rfl, e1 _ _ wc, fun b hb => ?_⟩
    rw [kwc]
    have a2 := alloc1 (o := .lst (S.rules.map fun x => V.str x.1)) hb rfl
    generalize upd H1 b _ = H2 at *
    obtain ⟨e2, g2⟩ := a2
    have e02 := e1.trans e2
    have hrl : S.rules.length ≤ 6 := ok.r6
    refine ⟨b, rfl, ⟨_, SqL.of g2⟩, ?_⟩
    refine for_list (xs := S.rules.map fun x => V.str x.1) (fun i σ H' => Same H2 H' ∧ ∃ o6 o8 o9 o14, σ = [some (.ref p), some (.ref W), some (.int 2), some (.ref O), some (.ref l), some (.ref b), o6, some (.bl true), o8, o9, none, none, none, none, o14])
      ⟨Same.refl _, _, _, _, _, rfl⟩ (fun i σ H' _ h => SqL.of (h.1 _ _ g2)) ?_ ?_
    · rintro i c σ H3 hi ⟨e3, o6, o8, o9, o14, rfl⟩
      rw [List.getElem?_map] at hi
      obtain ⟨x, hx, rfl⟩ := Option.map_eq_some_iff.mp hi
      have hxm := List.mem_of_getElem? hx
      have e03 := e02.trans e3
      obtain ⟨v, hv, hr⟩ := nk.c.at ok.rn (x := x.1) (a := x.2) hxm
      obtain ⟨v2, hv2, hr2⟩ := wk.c.at ok.rn (x := x.1) (a := x.2) hxm
      have hk := ok.rk x hxm
      have hin := inD_of hk hv
      have hro := ok.ro x hxm
      walk_at "ws"
      have shb : SeqAt.shaped (.list ((List.range 9).map fun i : Nat => PyData.bool (x.2.on (i : Int)))) = true := shaped_list (n := 0) (fun d hd => by
        obtain ⟨_, _, rfl⟩ := List.mem_map.mp hd
        exact sh_bl _) (fun d hd => by
        obtain ⟨_, _, rfl⟩ := List.mem_map.mp hd
        simp [PyData.depth])
      refine ⟨9, rfl, by decide, by decide, lcG (fun i y _ => y = V.bl (x.2.on (i : Int))) (by decide) (fun _ => rfl) (fun _ _ _ _ _ h => h) (fun i D H4 acc e4 hi9 _ _ R r => ?_) (fun D ys H4 hD e4 g4 hp => ?_)⟩
      · simp only [wipe]
        walk_at "ws"
        have e04 := e03.trans e4
        refine f_meth (nn.up e04) (fun _ => by rfl) ?_
        refine ⟨p, N, .str x.1, kc, rfl, nn.up e04, .dp (.str _) (okD_name hk), e04 _ _ nc, fun H5 e5 => ⟨(fun hx => by rw [hin] at hx; cases hx), fun x' y hd hxn hy => ?_⟩⟩
        cases hd
        obtain rfl := Option.some.inj (hv.symm.trans hy)
        have hr5 := (hr.up cutM_same).up (e04.trans e5)
        refine r_meth no_runs hr5 ?_
        walk_at "ws"
        have hi9 : i < 9 := hi9
        exact ⟨x.2, 0 + (i : Int), rfl, hr5, hro.1, hro.2, rfl, by omega, by omega, r _ _ e5 (by rw [Int.zero_add])⟩
      · have e04 := e03.trans e4
        have hda : DpAll K H4 ys ((List.range 9).map fun i : Nat => PyData.bool (x.2.on (i : Int))) := paired_dp (L2.Paired.mapP hp fun i y h => by
          rw [h]
          exact .bl _)
        refine d_rules (wn.up e04) ?_
        refine ⟨A.r, _, rfl, by have z := DGet.k (k := Sum.inr x.1) (e04 _ _ wc); rwa [hv2] at z, ?_⟩
        refine ⟨9, rfl, by decide, by decide, lcG (fun i y _ => y = V.bl (x.2.on (i : Int))) (by decide) (fun _ => rfl) (fun _ _ _ _ _ h => h) (fun i D H5 acc e5 hi9 _ _ R r => ?_) (fun D' ys' H5 hD' e5 g5 hp' => ?_)⟩
        · simp only [wipe]
          walk_at "ws"
          have hi9 : i < 9 := hi9
          exact ⟨x.2, 0 + (i : Int), (hr2.up cutM_same).up (e04.trans e5), hro.1, hro.2, rfl, by omega, by omega, r _ _ (Same.refl _) (by rw [Int.zero_add])⟩
        · have hdb : DpAll K H5 ys' ((List.range 9).map fun i : Nat => PyData.bool (x.2.on (i : Int))) := paired_dp (L2.Paired.mapP hp' fun i y h => by
            rw [h]
            exact .bl _)
          refine ⟨_, _, Dp.newL (e5 _ _ g4) (hda.up e5), Dp.newL g5 hdb, shb, shb, ?_⟩
          rw [eqv_shaped shb]
          exact ⟨e3.trans (e4.trans e5), _, _, _, _, rfl⟩
    · rintro σ H3 ⟨e3, o6, o8, o9, o14, rfl⟩
      have e13 := e2.trans e3
      have e03 := e02.trans e3
      refine tail _ _ _ _ _ _ _ _ l b _ (S.rules.map fun x => PyData.str x.1) H3 hl e03.frm (e13 _ _ g1) (dp_strs _) (Dp.newL (e3 _ _ g2) (dp_strs _)) (good_strs ok.rk) (by rw [List.length_map]; omega) ⟨net.up e03, wor.up e03, ok, tw.live.up e03, tabs_same tw.tab e03⟩
  · walk_at "ws"
    refine f_meth nn (fun _ => by rfl) ?_
    refine ⟨p, N, kd, rfl, nn, nd, fun l H1 hl e1 g1 => ?_⟩
    rw [knd] at g1
    refine d_tickets (wn.up e1) ?_
    refine ⟨A.t, ld, rfl, e1 _ _ wd, fun b hb => ?_⟩
    rw [kwd]
    have a2 := alloc1 (o := .lst (S.tickets.map fun x => V.str x.1)) hb rfl
    generalize upd H1 b _ = H2 at *
    obtain ⟨e2, g2⟩ := a2
    have e02 := e1.trans e2
    have htl : S.tickets.length ≤ 3 := ok.t3
    refine ⟨b, rfl, ⟨_, SqL.of g2⟩, lcA S.tickets (fun x => V.str x.1) (fun x y H => ∃ t u, y = .ref t ∧ H2 u = none ∧ H t = some (.tup [.int (lkT S.tickets x.1).1, .int (lkT S.tickets x.1).2.1, .ref u]) ∧ H u = some (.lst ((lkT S.tickets x.1).2.2.map V.int))) (SqL.of g2) (by omega) (fun _ => rfl) (fun x y H H' e ⟨t, u, h1, h2, h4, h5⟩ => ⟨t, u, h1, h2, e _ _ h4, e _ _ h5⟩) (fun c D H3 acc e3 hc hD hacc R r => ?_) (fun D ys H3 hD e3 g3 hp => ?_)⟩
    · simp only [wipe]
      walk_at "ws"
      have e03 := e02.trans e3
      obtain ⟨v, _, hv, hl, _, hr⟩ := nk.d.look hc
      rw [← lkT_eq hl] at hr
      have hk := ok.tk c hc
      have hin := inD_of hk hv
      obtain ⟨t, u, rfl, ht, hu'⟩ := hr
      refine f_meth (nn.up e03) (fun _ => by rfl) ?_
      refine ⟨p, N, .str c.1, kd, rfl, nn.up e03, .dp (.str _) (okD_name hk), e03 _ _ nd, fun H4 e4 => ⟨(fun hx => by rw [hin] at hx; cases hx), fun x y hd hxn hy => ?_⟩⟩
      cases hd
      obtain rfl := Option.some.inj (hv.symm.trans hy)
      have e04 := e03.trans e4
      refine ⟨t, _, _, u, _, rfl, e04 _ _ (cutM_same _ _ ht), SqT.of (e04 _ _ (cutM_same _ _ hu')), fun q l5 H5 hq hl5 hql e5 g5 g6 => ?_⟩
      have nDq : q ≠ D := fun z => by
        have := e4 _ _ hacc
        rw [← z, hq] at this
        cases this
      have nDl : l5 ≠ D := fun z => by
        have := e4 _ _ hacc
        rw [← z, hl5] at this
        cases this
      exact r _ _ (e4.trans e5) ⟨q, l5, rfl, (e3.trans e4).free hl5, cut_get nDq g6, cut_get nDl g5⟩
    · have e03 := e02.trans e3
      have sh := shaped_tickets S.tickets
      walk_at "ws"
      refine ⟨b, rfl, ⟨_, SqL.of (e3 _ _ g2)⟩, lcA S.tickets (fun x => V.str x.1) (fun x y H => Dp K H y (ticketD (lkT S.tickets x.1))) (SqL.of (e3 _ _ g2)) (by omega) (fun _ => rfl) (fun x y H H' e h => h.up e) (fun c D' H4 acc e4 hc hD' hacc R r => ?_) (fun D' ys' H4 hD' e4 g4 hp' => ?_)⟩
      · simp only [wipe]
        walk_at "ws"
        have e04 := e03.trans e4
        obtain ⟨v, _, hv, hl, _, hr⟩ := wk.d.look hc
        rw [← lkT_eq hl] at hr
        obtain ⟨t, u, rfl, ht, hu'⟩ := hr
        refine d_tickets (wn.up e04) ?_
        refine ⟨A.t, _, rfl, by have z := DGet.k (k := Sum.inr c.1) (e04 _ _ wd); rwa [hv] at z, ?_⟩
        have nD : ∀ {a : Addr} {o : HO}, H a = some o → a ≠ D' := fun h z => by
          have := e03 _ _ h
          rw [z, hD'] at this
          cases this
        have ht0 := cutM_same _ _ ht
        have hu0 := cutM_same _ _ hu'
        exact r _ _ (Same.refl _) (Dp.newT (cut_get (nD ht0) (e04 _ _ ht0)) (.cons (.int _) (.cons (.int _) (.cons (Dp.newL (cut_get (nD hu0) (e04 _ _ hu0)) (dpAll_ints _)) .nil))))
      · have hda := paired_dp (K := K) (f := fun x : Str × (Int × Int × List Int) => ticketD (lkT S.tickets x.1)) (L2.Paired.mapP hp fun x y ⟨t, u, h1, h2, h4, h5⟩ => by
          rw [h1]
          exact Dp.newT h4 (.cons (.int _) (.cons (.int _) (.cons (Dp.newL h5 (dpAll_ints _)) .nil))))
        have hdb := paired_dp (f := fun x : Str × (Int × Int × List Int) => ticketD (lkT S.tickets x.1)) hp'
        refine ⟨_, _, Dp.newL (e4 _ _ g3) ((hda.up cut_same).up e4), Dp.newL g4 (hdb.up cut_same), sh, sh, ?_⟩
        rw [eqv_shaped sh]
        walk_at "ws"
        have e24 := e3.trans e4
        have hD4 := e4 _ _ g3
        have hall : ∀ y ∈ ys, ∃ t u zs x1 x2, y = .ref t ∧ H2 u = none ∧ u ≠ D ∧ H4 t = some (.tup [x1, x2, .ref u]) ∧ H4 u = some (.lst zs) ∧ zs.length ≤ 100 := fun y hy => by
          obtain ⟨x, hx, t, u, h1, h2, h4, h5⟩ := paired_mem hp y hy
          obtain ⟨_, _, _, hl', hm, _⟩ := nk.d.look hx
          rw [← lkT_eq hl'] at hm
          have hz := ok.tz _ hm
          exact ⟨t, u, _, _, _, h1, h2, cut_ne h5, e4 _ _ (cut_same _ _ h4), e4 _ _ (cut_same _ _ h5), by rw [List.length_map]; exact Nat.le_trans hz (by decide)⟩
        refine ⟨D, rfl, ⟨_, SqL.of hD4⟩, ?_⟩
        have hyl : ys.length ≤ 3 := by rw [← hp.length]; exact htl
        refine for_list (xs := ys) (fun i σ H' => Same H2 H' ∧ H' D = some (.lst ys) ∧ (∀ y ∈ ys, ∃ t u zs x1 x2, y = .ref t ∧ H2 u = none ∧ u ≠ D ∧ H' t = some (.tup [x1, x2, .ref u]) ∧ H' u = some (.lst zs) ∧ zs.length ≤ 100 + i) ∧ ∃ o8 o9 o10 o11, σ = [some (.ref p), some (.ref W), some (.int 3), some (.ref O), some (.ref l), some (.ref b), some (.ref D), some (.bl true), o8, o9, o10, o11, none, none, none])
          ⟨e24, hD4, hall, _, _, _, _, rfl⟩ (fun i σ H' _ h => SqL.of h.2.1) ?_ ?_
        · rintro i y σ H5 hi ⟨e5, hD5, hall5, o8, o9, o10, o11, rfl⟩
          walk_at "ws"
          obtain ⟨t, u, zs, x1, x2, rfl, hu0, hnD, ht, hu5, hzl⟩ := hall5 _ (List.mem_of_getElem? hi)
          have hi3 : i < 3 := by
            have := (List.getElem?_eq_some_iff.mp hi).1
            omega
          refine ⟨t, _, 2, _, rfl, rfl, SqT.of ht, atI_nat (j := 2) rfl, ?_⟩
          refine ⟨Or.inl ⟨rfl, _, SqL.of hu5⟩, u, zs, _, rfl, rfl, hu5, Nat.lt_of_le_of_lt (Nat.le_trans hzl (show 100 + i ≤ 1000 by omega)) (by decide), ?_⟩
          refine ⟨e5.mut hu0, by rw [upd_ne hnD.symm]; exact hD5, fun y hy => ?_, _, _, _, _, rfl⟩
          obtain ⟨t', u', zs', y1, y2, h1, h2, h3, h4, h5, h6⟩ := hall5 y hy
          have ntu : t' ≠ u := fun z => by rw [z, hu5] at h4; cases h4
          by_cases hc : u' = u
          · subst hc
            rw [hu5] at h5; cases h5
            exact ⟨t', u', _, y1, y2, h1, h2, h3, by rw [upd_ne ntu]; exact h4, upd_same, by simp; omega⟩
          · exact ⟨t', u', zs', y1, y2, h1, h2, h3, by rw [upd_ne ntu]; exact h4, by rw [upd_ne hc]; exact h5, by omega⟩
        · rintro σ H5 ⟨e5, hD5, hall5, o8, o9, o10, o11, rfl⟩
          have e05 := e02.trans e5
          refine tail _ _ _ _ _ _ _ _ l b _ (S.tickets.map fun x => PyData.str x.1) H5 hl e05.frm ((e2.trans e5) _ _ g1) (dp_strs _) (Dp.newL (e5 _ _ g2) (dp_strs _)) (good_strs ok.tk) (by rw [List.length_map]; omega) ⟨net.up e05, wor.up e05, ok, tw.live.up e05, tabs_same tw.tab e05⟩
  · walk_at "ws"
    refine f_meth nn (fun _ => by rfl) ?_
    refine ⟨p, N, ke, rfl, nn, ne, fun l H1 hl e1 g1 => ?_⟩
    rw [kne] at g1
    refine d_trips (wn.up e1) ?_
    refine ⟨A.p, le, rfl, e1 _ _ we, fun b hb => ?_⟩
    rw [kwe]
    have a2 := alloc1 (o := .lst (S.trips.map fun x => V.str x.1)) hb rfl
    generalize upd H1 b _ = H2 at *
    obtain ⟨e2, g2⟩ := a2
    have e02 := e1.trans e2
    have htl : S.trips.length ≤ 10 := ok.p10
    have lkP : ∀ x ∈ S.trips, isNameS (lkT S.trips x.1).1 = true ∧ (lkT S.trips x.1).2.length ≤ 6 ∧ ∀ c ∈ (lkT S.trips x.1).2, isNameS c.1 = true := fun x hx => by
      obtain ⟨_, _, _, hl', hm, _⟩ := nk.e.look hx
      rw [← lkT_eq hl'] at hm
      exact ok.pc _ hm
    refine ⟨b, rfl, ⟨_, SqL.of g2⟩, lcA S.trips (fun x => V.str x.1) (fun x y H => ∃ t u vs, y = .ref t ∧ H2 u = none ∧ H t = some (.tup [.str (lkT S.trips x.1).1, .ref u]) ∧ H u = some (.lst vs) ∧ DpAll K H vs ((lkT S.trips x.1).2.map callD)) (SqL.of g2) (by omega) (fun _ => rfl) (fun x y H H' e ⟨t, u, vs, h1, h2, h4, h5, h6⟩ => ⟨t, u, vs, h1, h2, e _ _ h4, e _ _ h5, h6.up e⟩) (fun c D H3 acc e3 hc hD hacc R r => ?_) (fun D ys H3 hD e3 g3 hp => ?_)⟩
    · simp only [wipe]
      walk_at "ws"
      have e03 := e02.trans e3
      obtain ⟨v, _, hv, hl, _, hr⟩ := nk.e.look hc
      rw [← lkT_eq hl] at hr
      have hk := ok.pk c hc
      have hin := inD_of hk hv
      obtain ⟨t, u, cs, rfl, ht, hu', hcs⟩ := hr
      have ht0 := cutM_same _ _ ht
      have hu0 := cutM_same _ _ hu'
      refine f_meth (nn.up e03) (fun _ => by rfl) ?_
      refine ⟨p, N, .str c.1, ke, rfl, nn.up e03, .dp (.str _) (okD_name hk), e03 _ _ ne, fun H4 e4 => ⟨(fun hx => by rw [hin] at hx; cases hx), fun x y hd hxn hy => ?_⟩⟩
      cases hd
      obtain rfl := Option.some.inj (hv.symm.trans hy)
      have e04 := e03.trans e4
      refine ⟨t, _, _, rfl, e04 _ _ ht0, rfl, ?_⟩
      refine f_meth (nn.up e04) (fun _ => by rfl) ?_
      refine ⟨p, N, .str c.1, ke, rfl, nn.up e04, .dp (.str _) (okD_name hk), e04 _ _ ne, fun H5 e5 => ⟨(fun hx => by rw [hin] at hx; cases hx), fun x y hd hxn hy => ?_⟩⟩
      cases hd
      obtain rfl := Option.some.inj (hv.symm.trans hy)
      have e05 := e04.trans e5
      refine ⟨t, _, u, _, rfl, e05 _ _ ht0, rfl, SqT.of (e05 _ _ hu0), fun l5 H6 hl5 e6 g6 => ?_⟩
      refine ⟨by decide, ?_⟩
      walk_at "al"
      rename_i q hq H7 e7 g7
      have e35 := e4.trans e5
      have e37 := e35.trans (e6.trans e7)
      have e07 := e03.trans e37
      have h35 := e35 _ _ hacc
      have h36 := e6 _ _ h35
      have nDq : q ≠ D := fun z => by rw [← z, hq] at h36; cases h36
      have nDl : l5 ≠ D := fun z => by rw [← z, hl5] at h35; cases h35
      have sD : Same (cutM M H) (cut D H7) := fun b o hb => by
        have hb0 := cutM_same _ _ hb
        exact cut_get (fun z => by have := e02 _ _ hb0; rw [z, hD] at this; cases this) (e07 _ _ hb0)
      exact r _ _ e37 ⟨q, l5, cs, rfl, (e3.trans e35).free hl5, cut_get nDq g7, cut_get nDl (e7 _ _ g6), hcs.up sD⟩
    · have e03 := e02.trans e3
      have sh := shaped_trips S.trips (fun x hx => ⟨(lkP x hx).1, (lkP x hx).2.2⟩)
      walk_at "ws"
      refine ⟨b, rfl, ⟨_, SqL.of (e3 _ _ g2)⟩, lcA S.trips (fun x => V.str x.1) (fun x y H => Dp K H y (tripD (lkT S.trips x.1))) (SqL.of (e3 _ _ g2)) (by omega) (fun _ => rfl) (fun x y H H' e h => h.up e) (fun c D' H4 acc e4 hc hD' hacc R r => ?_) (fun D' ys' H4 hD' e4 g4 hp' => ?_)⟩
      · simp only [wipe]
        walk_at "ws"
        have e04 := e03.trans e4
        obtain ⟨v, _, hv, hl, _, hr⟩ := wk.e.look hc
        rw [← lkT_eq hl] at hr
        obtain ⟨t, u, cs, rfl, ht, hu', hcs⟩ := hr
        refine d_trips (wn.up e04) ?_
        refine ⟨A.p, _, rfl, by have z := DGet.k (k := Sum.inr c.1) (e04 _ _ we); rwa [hv] at z, ?_⟩
        have sD : Same (cutM M H) (cut D' H4) := fun b o hb => by
          have hb0 := cutM_same _ _ hb
          exact cut_get (fun z => by have := e03 _ _ hb0; rw [z, hD'] at this; cases this) (e04 _ _ hb0)
        exact r _ _ (Same.refl _) (Dp.newT (sD _ _ ht) (.cons (.str _) (.cons (Dp.newL (sD _ _ hu') (hcs.up sD)) .nil)))
      · have hda := paired_dp (K := K) (f := fun x : Str × (Str × List Call) => tripD (lkT S.trips x.1)) (L2.Paired.mapP hp fun x y ⟨t, u, vs, h1, h2, h4, h5, h6⟩ => by
          rw [h1]
          exact Dp.newT h4 (.cons (.str _) (.cons (Dp.newL h5 h6) .nil)))
        have hdb := paired_dp (f := fun x : Str × (Str × List Call) => tripD (lkT S.trips x.1)) hp'
        refine ⟨_, _, Dp.newL (e4 _ _ g3) ((hda.up cut_same).up e4), Dp.newL g4 (hdb.up cut_same), sh, sh, ?_⟩
        rw [eqv_shaped sh]
        walk_at "ws"
        have e24 := e3.trans e4
        have hD4 := e4 _ _ g3
        have hall : ∀ y ∈ ys, ∃ t u zs x1, y = .ref t ∧ H2 u = none ∧ u ≠ D ∧ H4 t = some (.tup [x1, .ref u]) ∧ H4 u = some (.lst zs) := fun y hy => by
          obtain ⟨x, hx, t, u, vs, h1, h2, h4, h5, h6⟩ := paired_mem hp y hy
          exact ⟨t, u, _, _, h1, h2, cut_ne h5, e4 _ _ (cut_same _ _ h4), e4 _ _ (cut_same _ _ h5)⟩
        refine ⟨D, rfl, ⟨_, SqL.of hD4⟩, ?_⟩
        refine for_list (xs := ys) (fun i σ H' => Same H2 H' ∧ H' D = some (.lst ys) ∧ (∀ y ∈ ys, ∃ t u zs x1, y = .ref t ∧ H2 u = none ∧ u ≠ D ∧ H' t = some (.tup [x1, .ref u]) ∧ H' u = some (.lst zs)) ∧ ∃ o8 o9 o10 o11, σ = [some (.ref p), some (.ref W), some (.int 4), some (.ref O), some (.ref l), some (.ref b), some (.ref D), some (.bl true), o8, o9, o10, o11, none, none, none])
          ⟨e24, hD4, hall, _, _, _, _, rfl⟩ (fun i σ H' _ h => SqL.of h.2.1) ?_ ?_
        · rintro i y σ H5 hi ⟨e5, hD5, hall5, o8, o9, o10, o11, rfl⟩
          walk_at "ws"
          obtain ⟨t, u, zs, x1, rfl, hu0, hnD, ht, hu5⟩ := hall5 _ (List.mem_of_getElem? hi)
          refine ⟨t, _, 1, _, rfl, rfl, SqT.of ht, atI_nat (j := 1) rfl, ?_⟩
          refine ⟨Or.inl ⟨rfl, _, SqL.of hu5⟩, u, zs, rfl, rfl, hu5, ?_⟩
          refine ⟨e5.mut hu0, by rw [upd_ne hnD.symm]; exact hD5, fun y hy => ?_, _, _, _, _, rfl⟩
          obtain ⟨t', u', zs', y1, h1, h2, h3, h4, h5⟩ := hall5 y hy
          have ntu : t' ≠ u := fun z => by rw [z, hu5] at h4; cases h4
          by_cases hc : u' = u
          · subst hc
            exact ⟨t', u', _, y1, h1, h2, h3, by rw [upd_ne ntu]; exact h4, upd_same⟩
          · exact ⟨t', u', zs', y1, h1, h2, h3, by rw [upd_ne ntu]; exact h4, by rw [upd_ne hc]; exact h5⟩
        · rintro σ H5 ⟨e5, hD5, hall5, o8, o9, o10, o11, rfl⟩
          have e05 := e02.trans e5
          refine tail _ _ _ _ _ _ _ _ l b _ (S.trips.map fun x => PyData.str x.1) H5 hl e05.frm ((e2.trans e5) _ _ g1) (dp_strs _) (Dp.newL (e5 _ _ g2) (dp_strs _)) (good_strs ok.pk) (by rw [List.length_map]; omega) ⟨net.up e05, wor.up e05, ok, tw.live.up e05, tabs_same tw.tab e05⟩
end
end K06
set_option maxHeartbeats 4000000
namespace K06
open PySem L2
local macro_rules | `(tactic| walk_at "ws") => `(tactic| try simp only [w_var0, w_varS, w_c, w_ret, w_retN, w_next, w_seq, w_asg, w_gn, w_drop, w_if, w_and, w_or, w_not, ex_bl, ex_int, ex_two, w_B, w_test, w_andV, w_orV, w_notV, w_ife, w_op, w_un, w_chain, w_nil, w_cons, w_cb, w_ca, w_lst, w_tup, w_I0, w_I, w_U, w_eqI, w_neI, w_eqS, w_neS,
  w_isN0, w_notN0, w_fld, w_sfld, w_me, w_ma, w_dget, w_din, w_dnotin, w_dput, w_slice, w_part, w_nopart, w_bm, w_bm0, w_par, w_lc, w_for, w_iList, w_iTup, w_iStr, w_iRng1, w_iZip, w_iEnum, w_tM1, w_dnewK, nn_str, nn_some, nn_none, nn_ref, w_pairN, w_pairC, w_disp, w_meD, w_maxD, w_bare, w_gtup, w_glst, w_gcons, w_gnil, w_gsub, cx_K, cx_K',
  L2.start, endsOf, List.map_cons, List.map_nil, List.length_cons, List.length_nil, List.cons_append, List.nil_append, Nat.zero_add, Nat.reduceAdd, Nat.reduceSub, List.replicate_succ, List.replicate_zero, List.set_cons_zero, List.set_cons_succ, List.set_nil,
  sp0_eq, sp1_eq, sp2_eq, sp3_eq, sp4_eq, sp5_eq, if_true, Bool.false_eq_true, if_false, decide_eq_true_eq, Bool.not_eq_true', decide_eq_false_iff_not, Bool.not_true, Bool.not_false, Bool.not_eq_false', isD_int_none, isD_int_bool, isD_int_int, isD_int_str, isD_int_list, isD_int_tuple, isD_int_dict, isD_bool_none, isD_bool_bool, isD_bool_int, isD_bool_str, isD_bool_list, isD_bool_tuple, isD_bool_dict, isD_str_none, isD_str_bool, isD_str_int, isD_str_str, isD_str_list, isD_str_tuple, isD_str_dict, isD_list_none, isD_list_bool, isD_list_int, isD_list_str, isD_list_list, isD_list_tuple, isD_list_dict, isD_tuple_none, isD_tuple_bool, isD_tuple_int, isD_tuple_str, isD_tuple_list, isD_tuple_tuple, isD_tuple_dict])
local macro_rules | `(tactic| walk_at "al") => `(tactic| (intro p hp; generalize hH : upd _ _ _ = H2; obtain ⟨e2, g2⟩ := alloc1 hp hH.symm; clear hH))
/-! ### a comprehension whose turns change what is known -/
theorem lcM {j : Nat} {te : TE} {vs : List Nat} {σ : St} {H1 : Hp} {Q : VK} {K : PySem.W.Frag} {a : Addr} (xs : List V) (Pv : Addr → Nat → List V → Hp → Prop) (hz : xs.length < 100000)
    (hw : ∀ x, wipe ((wipe σ vs).set j (some x)) vs = wipe σ vs)
    (hl : ∀ D i ys H, H1 D = none → i ≤ xs.length → Pv D i ys H → SqL K H a xs ∧ ys.length = i)
    (h0 : ∀ D, H1 D = none → Pv D 0 [] (upd H1 D (.lst [])))
    (he : ∀ D i x ys H, H1 D = none → xs[i]? = some x → Pv D i ys H → ∀ R : VK, (∀ y H4, H4 D = some (.lst ys) → Pv D (i + 1) (ys ++ [y]) (upd H4 D (.lst (ys ++ [y]))) → R y H4) → te ((wipe σ vs).set j (some x)) H R)
    (k : ∀ D ys H, H1 D = none → Pv D xs.length ys H → Q (.ref D) H) : LcR (Itl K a) (gName j) tYes te vs σ H1 Q := by
  intro D hD
  refine ⟨fun i m H => m = xs.length - i ∧ i ≤ xs.length ∧ ∃ ys, Pv D i ys H, ⟨_, rfl, Nat.zero_le _, [], h0 D hD⟩, ?_⟩
  rintro i m H ⟨rfl, hi, ys, hp⟩
  obtain ⟨hs, hlen⟩ := hl D i ys H hD hi hp
  by_cases hlt : i < xs.length
  · refine .inr ⟨⟨xs, xs[i], hs, by simp [hlt]⟩, fun H' => i + 1 ≤ xs.length ∧ ∃ ys, Pv D (i + 1) ys H', fun H' q => ⟨_, by omega, rfl, q⟩, fun x H' y => ?_⟩
    obtain ⟨rfl, y2⟩ := y
    have hx := y2 xs hs
    refine ⟨hw x, ?_⟩
    show te _ _ _
    refine he D i x ys _ hD hx hp _ fun y H4 h4 hp4 => ?_
    exact ⟨ys, h4, by rw [hlen]; exact Nat.lt_of_lt_of_le (Nat.lt_trans hlt hz) (by decide), hlt, _, hp4⟩
  · have ei : i = xs.length := by omega
    subst ei
    exact .inl ⟨⟨xs, hs, Nat.le_refl _⟩, k D ys H hD hp⟩
theorem w_revL {K : PySem.W.Frag} {te : TE} {σ : St} {H : Hp} {Q : VK} : tRevL K te σ H Q = te σ H fun x H1 => ∃ a xs, x = .ref a ∧ SqL K H1 a xs ∧ ∀ p, H1 p = none → Q (.ref p) (upd H1 p (.lst xs.reverse)) := rfl
theorem cutM_new {M : List Addr} {H : Hp} {D : Addr} (hD : H D = none) : Same (cutM M H) (cutM (D :: M) H) := fun b u q => by
  obtain ⟨n, g, t⟩ := cutM_some q
  refine cutM_get (fun z => ?_) g t
  rcases List.mem_cons.mp z with z | z
  · rw [z, hD] at g; cases g
  · exact n z
theorem cutM_less {M : List Addr} {H : Hp} {D : Addr} : Same (cutM (D :: M) H) (cutM M H) := fun b u q => by
  obtain ⟨n, g, t⟩ := cutM_some q
  exact cutM_get (fun z => n (List.mem_cons_of_mem _ z)) g t
section
variable {K : PySem.W.Frag} {M : List Addr} {H : Hp} {p W D : Addr} {N : NA} {A : WA} {S : Sta}
theorem NetAt.more (h : NetAt K M H p N S) (hD : H D = none) : NetAt K (D :: M) H p N S := by
  obtain ⟨n, ka, vb, kc, kd, ke, h1, h2, h3, h4, h5, k⟩ := h
  exact ⟨n.up (cutM_new hD), ka, vb, kc, kd, ke, h1, h2, h3, h4, h5, k.up (cutM_new hD)⟩
theorem NetAt.less (h : NetAt K (D :: M) H p N S) : NetAt K M H p N S := by
  obtain ⟨n, ka, vb, kc, kd, ke, h1, h2, h3, h4, h5, k⟩ := h
  exact ⟨n.up cutM_less, ka, vb, kc, kd, ke, h1, h2, h3, h4, h5, k.up cutM_less⟩
theorem WorldAt.more (h : WorldAt K M H W A S) (hD : H D = none) : WorldAt K (D :: M) H W A S := by
  obtain ⟨n, ka, vb, kc, kd, ke, h1, h2, h3, h4, h5, k⟩ := h
  exact ⟨n.up (cutM_new hD), ka, vb, kc, kd, ke, h1, h2, h3, h4, h5, k.up (cutM_new hD)⟩
theorem WorldAt.less (h : WorldAt K (D :: M) H W A S) : WorldAt K M H W A S := by
  obtain ⟨n, ka, vb, kc, kd, ke, h1, h2, h3, h4, h5, k⟩ := h
  exact ⟨n.up cutM_less, ka, vb, kc, kd, ke, h1, h2, h3, h4, h5, k.up cutM_less⟩
theorem Two.up {H' : Hp} (h : Two K M H p N W A S) (e : Same H H') : Two K M H' p N W A S := ⟨h.net.up e, h.wor.up e, h.ok, h.live.up e, tabs_same h.tab e⟩
theorem Two.fr {H' : Hp} {C : List Addr} (h : Two K M H p N W A S) (e : FrM C H H') (hC : ∀ b ∈ C, b ∈ M) (hN : ∀ b ∈ N.l ++ A.l, b ∉ C) (hl : Live M H') (ht : LamX.Tabs (Tb K) H') : Two K M H' p N W A S :=
  ⟨h.net.fr e hC (fun b hb => hN b (List.mem_append_left _ hb)), h.wor.fr e hC (fun b hb => hN b (List.mem_append_right _ hb)), h.ok, hl, ht⟩
/-- one more object that may change -/
theorem Two.more {o : HO} (h : Two K M H p N W A S) (hD : H D = none) (ho : ∀ ps, o ≠ .tbl ps) (hM : ∀ b ∈ N.l ++ A.l, b ∈ M) : Two K (D :: M) (upd H D o) p N W A S := by
  have e : Same H (upd H D o) := Same.new hD
  refine ⟨(h.net.more hD).up e, (h.wor.more hD).up e, h.ok, fun b hb => ?_, tabs_same h.tab e⟩
  rcases List.mem_cons.mp hb with rfl | hb
  · exact ⟨o, upd_same, ho⟩
  · exact h.live.up e b hb
theorem Two.less (h : Two K (D :: M) H p N W A S) : Two K M H p N W A S := ⟨h.net.less, h.wor.less, h.ok, fun b hb => h.live b (List.mem_cons_of_mem _ hb), h.tab⟩
/-- an object of M changes -/
theorem Two.set {o o1 : HO} (h : Two K M H p N W A S) (hD : D ∈ M) (hN : D ∉ N.l ++ A.l) (h1 : H D = some o1) (n1 : ∀ ps, o1 ≠ .tbl ps) (n2 : ∀ f, o1 ≠ .ext f) (ho : ∀ ps, o ≠ .tbl ps) : Two K M (upd H D o) p N W A S := by
  have e : FrM [D] H (upd H D o) := FrM.updC FrM.refl (by simp)
  have hC : ∀ b ∈ [D], b ∈ M := fun b hb => by
    rw [List.mem_singleton] at hb
    rw [hb]; exact hD
  refine h.fr e hC (fun b hb z => ?_) (h.live.fr e fun b hb => ?_) (tabs_upd h.tab h1 n1 n2)
  · rw [List.mem_singleton] at z
    exact hN (z ▸ hb)
  · rw [List.mem_singleton] at hb
    rw [hb]; exact ⟨o, upd_same, ho⟩
end
theorem FrM.updN {C : List Addr} {H H8 : Hp} {a : Addr} {o : HO} (e : FrM C H H8) (ha : H a = none) : FrM C H (upd H8 a o) := e.updF ha
section
variable {P : Program} {w : World} {K : PySem.W.Frag} {mg : Str → Option Value} {base : Heap}
def p_law_stands (K : PySem.W.Frag) : P4 := fun v u m g H Q _ => ∃ M p N W A S turn O os, v = .ref p ∧ u = .ref W ∧ m = .int turn ∧ g = .ref O ∧ Two K M H p N W A S ∧ (∀ b ∈ N.l ++ A.l, b ∈ M) ∧ (N.l ++ A.l).Nodup ∧ O ∈ M ∧ O ∉ N.l ++ A.l ∧ H O = some (.lst os) ∧ OldsAt K (cutM M H) os ∧ os.length < 900 ∧ 0 ≤ turn ∧
  ∀ H' os', FrM [O] H H' → Two K M H' p N W A S → H' O = some (.lst os') → OldsAt K (cutM M H') os' → os'.length = os.length + 5 → Q (.bl true) H'
theorem ok_law_stands (T : Tx K mg) : Cal CX0 P w K mg base 13 "_law_stands" (sp4 (p_law_stands K)) := by
  refine cal_ofC T.d_law_stands T.g__law_stands (fun _ _ _ _ _ _ => bind4 fun _ _ _ _ => rfl) sc_law_stands len4 fun vs H Q E ⟨v, u, m, g, e, h⟩ A0 outer s hr => ?_
  subst e
  have hu := hu_of hr
  refine ⟨_, PSs.nox (pss_cons (ps_set (i := 4) sc_law_stands.nd rfl (Or.inl rfl) (pe_op op_cat (pe_slice sl_list (pe_lst (pa_cons pe_int (pa_cons pe_int (pa_cons pe_int (pa_cons pe_int (pa_cons pe_int pa_nil)))))) (po_some (pe_op op_mod (pv 2) pe_int)) po_none) (pe_slice sl_list (pe_lst (pa_cons pe_int (pa_cons pe_int (pa_cons pe_int (pa_cons pe_int (pa_cons pe_int pa_nil)))))) po_none (po_some (pe_op op_mod (pv 2) pe_int)))))
    (pss_cons (ps_if (pt_cmpR op_eq (pe_op op_mod (pe_op op_fdiv (pv 2) pe_int) pe_int) pe_int (nomark _)) (pss_one (ps_set (i := 4) sc_law_stands.nd rfl (Or.inl rfl) (pe_revL (pv 4)))) pss_nil)
    (pss_one (ps_ret (pe_callB (cr_all rfl) rfl T.f_all (by decide +kernel) (pa_cons (pe_lc (own := [("_law_way", 5)]) rfl sc_law_stands.nd (pi_list (pv 4)) (blkOk_by (own := [("_law_way", 5)]) (N := ["_law_net", "_law_world_here", "_law_turn", "_law_olds", "_law_order", "_law_way"]) (sc := defScope s_law_stands) (by decide +kernel)) (fun _ _ _ _ _ => pg_name (i := 5) sc_law_stands.nd rfl (Or.inl rfl)) (fun _ _ _ _ _ => pts_nil) (fun _ _ _ _ _ => (pe_ca (ok_law_one T) hr (by decide) rfl pass0 (pa_cons (pv 0) (pa_cons (pv 1) (pa_cons (pv 5) (pa_cons (pv 3) pa_nil))))))) pa_nil)))))), ?_⟩
  obtain ⟨M, p, N, W, A, S, turn, O, os, rfl, rfl, rfl, rfl, tw, hCM, hnd, hOM, hON, hO, hos, ho1, ht0, q⟩ := h
  refine seq_hide fun U1 hU1 => ?_
  walk_at "ws"
  refine ⟨by decide, ?_⟩
  walk_at "al"
  rename_i p1 hp1 H1 e1 g1
  refine ⟨by decide, ?_⟩
  refine ⟨p1, _, rfl, SqL.of g1, ?_⟩
  walk_at "al"
  rename_i p2 hp2 H2 e2 g2
  refine ⟨by decide, ?_⟩
  walk_at "al"
  rename_i p3 hp3 H3 e3 g3
  refine ⟨by decide, ?_⟩
  refine ⟨p3, _, rfl, SqL.of g3, ?_⟩
  walk_at "al"
  rename_i p4 hp4 H4 e4 g4
  have ord : ∃ ns : List Int, cutV [V.int 0, V.int 1, V.int 2, V.int 3, V.int 4] (some (turn % 5)) none ++ cutV [V.int 0, V.int 1, V.int 2, V.int 3, V.int 4] none (some (turn % 5)) = ns.map V.int ∧ ns.length = 5 ∧ ∀ i ∈ ns, 0 ≤ i ∧ i ≤ 4 := by
    have h5 : turn % 5 = 0 ∨ turn % 5 = 1 ∨ turn % 5 = 2 ∨ turn % 5 = 3 ∨ turn % 5 = 4 := by omega
    rcases h5 with h | h | h | h | h <;> rw [h]
    · exact ⟨[0, 1, 2, 3, 4], by rfl, rfl, by decide⟩
    · exact ⟨[1, 2, 3, 4, 0], by rfl, rfl, by decide⟩
    · exact ⟨[2, 3, 4, 0, 1], by rfl, rfl, by decide⟩
    · exact ⟨[3, 4, 0, 1, 2], by rfl, rfl, by decide⟩
    · exact ⟨[4, 0, 1, 2, 3], by rfl, rfl, by decide⟩
  obtain ⟨ns, ens, hn5, hns⟩ := ord
  have hlen : (cutV [V.int 0, V.int 1, V.int 2, V.int 3, V.int 4] (some (turn % 5)) none).length + (cutV [V.int 0, V.int 1, V.int 2, V.int 3, V.int 4] none (some (turn % 5))).length = 5 := by
    rw [← List.length_append, ens, List.length_map, hn5]
  refine ⟨p2, p4, _, _, rfl, rfl, e4 _ _ (e3 _ _ g2), g4, by rw [hlen]; decide, ?_⟩
  rw [ens]
  walk_at "al"
  rename_i l hl5 H5 e5 g5
  have e45 := e1.trans (e2.trans (e3.trans e4))
  have hl : H l = none := e45.free hl5
  have e05 := e45.trans e5
  clear g1 g2 g3 g4 hlen ens
  subst hU1
  refine seq_hide fun U2 hU2 => ?_
  have tail : ∀ (ns : List Int) (l : Addr) (H1 : Hp), ns.length = 5 → (∀ i ∈ ns, 0 ≤ i ∧ i ≤ 4) → Same H H1 → H1 l = some (.lst (ns.map V.int)) → H l = none →
      U2 (endsOf Q) [some (.ref p), some (.ref W), some (.int turn), some (.ref O), some (.ref l), none] H1 := by
    intro ns l H1 hn hns e1 g1 hl
    subst hU2
    walk_at "ws"
    have Ol : O ≠ l := fun z => by rw [z, hl] at hO; cases hO
    have tw1 := tw.up e1
    refine ⟨l, rfl, ⟨_, SqL.of g1⟩, lcM (ns.map V.int) (fun D i ys H' => ys = List.replicate i (V.bl true) ∧ H' D = some (.lst ys) ∧ H' l = some (.lst (ns.map V.int)) ∧ FrM [O] H1 H' ∧ Two K (D :: M) H' p N W A S ∧ ∃ os', H' O = some (.lst os') ∧ OldsAt K (cutM (D :: M) H') os' ∧ os'.length = os.length + i) (by rw [List.length_map, hn]; decide) (fun _ => rfl) (fun D i ys H' hD hi h => ⟨SqL.of h.2.2.1, by rw [h.1, List.length_replicate]⟩) (fun D hD => ?_) (fun D i x ys H' hD hx h R r => ?_) (fun D ys H' hD h => ?_)⟩
    · have nO : O ≠ D := fun z => by have := e1 _ _ hO; rw [z, hD] at this; cases this
      have nl : l ≠ D := fun z => by rw [z, hD] at g1; cases g1
      refine ⟨rfl, upd_same, by rw [upd_ne nl]; exact g1, FrM.refl.updF hD, tw1.more hD (fun _ z => nomatch z) hCM, os, by rw [upd_ne nO]; exact e1 _ _ hO, ?_, rfl⟩
      exact (hos.up ((cutM_up e1).trans (cutM_new hD))).up (cutM_up (Same.new hD))
    · obtain ⟨rfl, hD', hl', f, tw', os', hO', hos', hol⟩ := h
      simp only [wipe]
      walk_at "ws"
      rw [List.getElem?_map] at hx
      obtain ⟨w, hw, rfl⟩ := Option.map_eq_some_iff.mp hx
      have hi5 : i < 5 := by
        have := (List.getElem?_eq_some_iff.mp hw).1
        omega
      have nO : D ≠ O := fun z => by have := e1 _ _ hO; rw [← z, hD] at this; cases this
      have nl : l ≠ D := fun z => by rw [z, hD] at g1; cases g1
      have nM : D ∉ M := tw1.live.not hD
      have nN : D ∉ N.l ++ A.l := fun z => nM (hCM _ z)
      have hw4 := hns w (List.mem_of_getElem? hw)
      refine ⟨D :: M, p, N, W, A, S, w, O, os', rfl, rfl, rfl, rfl, tw', fun b hb => List.mem_cons_of_mem _ (hCM b hb), hnd, List.mem_cons_of_mem _ hOM, hON, hO', hos', by omega, hw4.1, hw4.2, fun H4 os4 f4 tw4 hO4 hos4 hol4 => ?_⟩
      have d4 := f4 D _ (fun z => nO (List.mem_singleton.mp z)) hD' (fun _ z => nomatch z)
      refine r _ _ d4 ⟨?_, upd_same, ?_, (f.trans f4).updF hD, tw4.set (by simp) nN d4 (fun _ z => nomatch z) (fun _ z => nomatch z) (fun _ z => nomatch z), os4, by rw [upd_ne nO.symm]; exact hO4, ?_, by omega⟩
      · rw [List.replicate_succ']
      · rw [upd_ne nl]
        exact f4 l _ (fun z => Ol (List.mem_singleton.mp z).symm) hl' (fun _ z => nomatch z)
      · exact hos4.up (cutM_fr (FrM.updC (a := D) FrM.refl (by simp) : FrM [D] _ _) fun b hb => by
          rw [List.mem_singleton] at hb
          rw [hb]; simp)
    · obtain ⟨rfl, hD', hl', f, tw', os', hO', hos', hol⟩ := h
      rw [List.length_map, hn] at hol hD'
      refine ⟨D, List.replicate 5 true, rfl, SqL.of hD', ?_⟩
      exact q H' os' (e1.frm.trans f) tw'.less hO' (hos'.up cutM_less) hol
  walk_at "ws"
  refine ⟨⟨by decide, by decide⟩, by decide, ?_⟩
  refine ite2 (fun c => ?_) fun c => ?_
  · rw [w_revL]
    walk_at "ws"
    refine ⟨l, _, rfl, SqL.of g5, ?_⟩
    rw [← List.map_reverse]
    walk_at "al"
    rename_i l2 hl2 H6 e6 g6
    exact tail ns.reverse l2 H6 (by rw [List.length_reverse, hn5]) (fun i hi => hns i (List.mem_reverse.mp hi)) (e05.trans e6) g6 (e05.free hl2)
  · exact tail ns l H5 hn5 hns e05 g5 hl
end
end K06
set_option maxHeartbeats 4000000
namespace K06
open PySem L2
local macro_rules | `(tactic| walk_at "ws") => `(tactic| try simp only [w_var0, w_varS, w_c, w_ret, w_retN, w_next, w_seq, w_asg, w_gn, w_drop, w_if, w_and, w_or, w_not, ex_bl, ex_int, ex_two, w_B, w_test, w_andV, w_orV, w_notV, w_ife, w_op, w_un, w_chain, w_nil, w_cons, w_cb, w_ca, w_lst, w_tup, w_I0, w_I, w_U, w_eqI, w_neI, w_eqS, w_neS,
  w_isN0, w_notN0, w_fld, w_sfld, w_me, w_ma, w_dget, w_din, w_dnotin, w_dput, w_slice, w_part, w_nopart, w_bm, w_bm0, w_par, w_lc, w_for, w_iList, w_iTup, w_iStr, w_iRng1, w_iZip, w_iEnum, w_tM1, w_dnewK, nn_str, nn_some, nn_none, nn_ref, w_pairN, w_pairC, w_disp, w_meD, w_maxD, w_bare, w_gtup, w_glst, w_gcons, w_gnil, w_gsub, cx_K, cx_K',
  L2.start, endsOf, List.map_cons, List.map_nil, List.length_cons, List.length_nil, List.cons_append, List.nil_append, Nat.zero_add, Nat.reduceAdd, Nat.reduceSub, List.replicate_succ, List.replicate_zero, List.set_cons_zero, List.set_cons_succ, List.set_nil,
  sp0_eq, sp1_eq, sp2_eq, sp3_eq, sp4_eq, sp5_eq, if_true, Bool.false_eq_true, if_false, decide_eq_true_eq, Bool.not_eq_true', decide_eq_false_iff_not, Bool.not_true, Bool.not_false, Bool.not_eq_false', isD_int_none, isD_int_bool, isD_int_int, isD_int_str, isD_int_list, isD_int_tuple, isD_int_dict, isD_bool_none, isD_bool_bool, isD_bool_int, isD_bool_str, isD_bool_list, isD_bool_tuple, isD_bool_dict, isD_str_none, isD_str_bool, isD_str_int, isD_str_str, isD_str_list, isD_str_tuple, isD_str_dict, isD_list_none, isD_list_bool, isD_list_int, isD_list_str, isD_list_list, isD_list_tuple, isD_list_dict, isD_tuple_none, isD_tuple_bool, isD_tuple_int, isD_tuple_str, isD_tuple_list, isD_tuple_tuple, isD_tuple_dict])
local macro_rules | `(tactic| walk_at "al") => `(tactic| (intro p hp; generalize hH : upd _ _ _ = H2; obtain ⟨e2, g2⟩ := alloc1 hp hH.symm; clear hH))
theorem len_sub {α : Type} [DecidableEq α] : ∀ {l m : List α}, l.Nodup → (∀ a ∈ l, a ∈ m) → l.length ≤ m.length
  | [], _, _, _ => Nat.zero_le _
  | a :: l, m, n, h => by
    rw [List.nodup_cons] at n
    have ha := h a List.mem_cons_self
    have := len_sub (l := l) (m := m.erase a) n.2 fun b hb => (List.mem_erase_of_ne (fun z => n.1 (by rw [← z]; exact hb))).mpr (h b (List.mem_cons_of_mem _ hb))
    rw [List.length_erase_of_mem ha] at this
    have hp : 0 < m.length := List.length_pos_of_mem ha
    rw [List.length_cons]
    omega
theorem names_nodup (seed : Int) {n : Nat} (hn : n ≤ 12) : ((List.range n).map fun i => nameS seed (i : Nat)).Nodup := by
  refine List.pairwise_map.mpr (List.Pairwise.imp_of_mem (fun {i j} hi hj ne e => ?_) (List.nodup_range (n := n)))
  rw [List.mem_range] at hi hj
  exact ne (name_inj (by omega) (by omega) e)
theorem names_full {α : Type} {seed : Int} {n : Nat} {l : List (Str × α)} (hn : n ≤ 12) (h : ∀ j < n, nameS seed (j : Nat) ∈ l.map (·.1)) : n ≤ l.length := by
  have z := len_sub (names_nodup seed hn) (m := l.map (·.1)) fun a ha => by
    obtain ⟨j, hj, rfl⟩ := List.mem_map.mp ha
    exact h j (List.mem_range.mp hj)
  rwa [List.length_map, List.length_map, List.length_range] at z
theorem same_of_len {α : Type} {l l' : List α} {n : Nat} (h : ∃ m, l' = l ++ m) (h1 : l.length = n) (h2 : l'.length ≤ n) : l' = l := by
  obtain ⟨m, rfl⟩ := h
  rw [List.length_append] at h2
  have : m.length = 0 := by omega
  rw [List.eq_nil_of_length_eq_zero this, List.append_nil]
theorem fill_step {α : Type} {seed : Int} {i n : Nat} {l l' : List (Str × α)} (h : l.length = n ∨ ∀ j < i, nameS seed (j : Nat) ∈ l.map (·.1)) (e : ∃ m, l' = l ++ m) (hn : l'.length ≤ n) (h1 : nameS seed (i : Nat) ∈ l'.map (·.1) ∨ l'.length = n) : l'.length = n ∨ ∀ j < i + 1, nameS seed (j : Nat) ∈ l'.map (·.1) := by
  rcases h1 with h1 | h1
  · rcases h with h | h
    · rw [same_of_len e h hn]
      exact .inl h
    · refine .inr fun j hj => ?_
      by_cases hji : j = i
      · rw [hji]; exact h1
      · obtain ⟨m, rfl⟩ := e
        rw [List.map_append]
        exact List.mem_append_left _ (h j (by omega))
  · exact .inl h1
theorem fill_end {α : Type} {seed : Int} {i n : Nat} {l : List (Str × α)} (hi : i ≤ 12) (h : l.length = n ∨ ∀ j < i, nameS seed (j : Nat) ∈ l.map (·.1)) (hl : l.length ≤ n) (hin : n < i) : l.length = n := by
  rcases h with h | h
  · exact h
  · have := names_full hi h
    omega
section
variable {P : Program} {w : World} {K : PySem.W.Frag} {mg : Str → Option Value} {base : Heap}
def p_law_filled (K : PySem.W.Frag) : P3 := fun v u m H Q _ => ∃ M p N W A S seed, v = .ref p ∧ u = .ref W ∧ m = .int seed ∧ 0 ≤ seed ∧ Two K M H p N W A S ∧ (∀ b ∈ N.l ++ A.l, b ∈ M) ∧ (N.l ++ A.l).Nodup ∧
  ∀ H' S', FrM (N.l ++ A.l) H H' → Two K M H' p N W A S' → Q (.bl true) H'
theorem ok_law_filled (T : Tx K mg) (B : Tabd K mg base) : Cal CX0 P w K mg base 13 "_law_filled" (sp3 (p_law_filled K)) := by
  refine cal_ofC T.d_law_filled T.g__law_filled (fun _ _ _ _ _ _ => bind3 fun _ _ _ => rfl) sc_law_filled len3 fun vs H Q E ⟨v, u, m, e, h⟩ A0 outer s hr => ?_
  subst e
  have hu := hu_of hr
  refine ⟨_, PSs.nox (pss_cons (ps_setLc (i := 3) (own := [("_law_k", 4)]) rfl sc_law_filled.nd rfl rfl (sw_true rfl rfl rfl (by decide +kernel)) (pi_range1 rfl T.f_range (pa_cons pe_int pa_nil)) (blkOk_by (own := [("_law_k", 4)]) (N := ["_law_net", "_law_world_here", "_law_seed", "_law_names", "_law_k", "_law_stops", "_law_rules", "_law_calls_here"]) (sc := defScope s_law_filled) (by decide +kernel)) (fun _ _ _ _ _ => pg_name (i := 4) sc_law_filled.nd rfl (Or.inl rfl)) (fun _ _ _ _ _ => pts_nil) (fun _ _ _ _ _ => (pe_ca (ok_law_name T) hr (by decide) rfl pass0 (pa_cons (pv 2) (pa_cons (pv 4) pa_nil)))))
    (pss_cons (ps_for PassesOwn.never rfl (pi_range1 rfl T.f_range (pa_cons pe_int pa_nil)) (pg_name (i := 4) sc_law_filled.nd rfl (Or.inl rfl))
    (pss_one (ps_if (pt_not (pt_val (pe_ca (ok_law_put T B) hr (by decide) rfl pass0 (pa_cons (pv 0) (pa_cons (pv 1) (pa_cons pe_int (pa_cons (pe_lst (pa_cons (pe_ix ix_list (pv 3) (pv 4) (fun _ _ => rfl)) (pa_cons (pe_op op_add pe_int (pe_op op_mod (pv 4) pe_int)) (pa_cons (pe_ix ix_list (pe_lst (pa_cons (pv 4) (pa_cons pe_int pa_nil))) (pe_op op_mod (pv 4) pe_int) (fun _ _ => rfl)) pa_nil)))) pa_nil))))))) (pss_one (ps_ret pe_bl)) pss_nil)))
    (pss_cons (ps_set (i := 5) sc_law_filled.nd rfl (Or.inl rfl) (pe_callTy (call_list_dK rfl) rfl T.f_list (by decide +kernel) (pa_cons (pe_dget hu (pv 1) pe_str (fun _ _ => rfl)) pa_nil)))
    (pss_cons (ps_for PassesOwn.never rfl (pi_range1 rfl T.f_range (pa_cons pe_int pa_nil)) (pg_name (i := 4) sc_law_filled.nd rfl (Or.inl rfl))
    (pss_one (ps_if (pt_not (pt_val (pe_ca (ok_law_put T B) hr (by decide) rfl pass0 (pa_cons (pv 0) (pa_cons (pv 1) (pa_cons pe_int (pa_cons (pe_lst (pa_cons (pe_ix ix_list (pv 5) (pe_op op_mod (pv 4) pe_int) (fun _ _ => rfl)) (pa_cons (pe_ix ix_list (pv 5) (pe_op op_mod (pe_op op_add (pe_op op_add (pe_op op_mod (pv 4) pe_int) pe_int) (pe_op op_fdiv (pv 4) pe_int)) pe_int) (fun _ _ => rfl)) (pa_cons (pe_ix ix_list (pe_lst (pa_cons pe_int (pa_cons pe_int (pa_cons (pe_op op_add pe_int (pv 4)) pa_nil)))) (pe_op op_mod (pv 4) pe_int) (fun _ _ => rfl)) pa_nil)))) pa_nil))))))) (pss_one (ps_ret pe_bl)) pss_nil)))
    (pss_cons (ps_if (pt_not (pt_val (pe_ca (ok_law_put T B) hr (by decide) rfl pass0 (pa_cons (pv 0) (pa_cons (pv 1) (pa_cons pe_int (pa_cons (pe_lst (pa_cons (pe_ix ix_list (pv 5) pe_int (fun _ _ => rfl)) (pa_cons (pe_ix ix_list (pv 5) pe_int (fun _ _ => rfl)) (pa_cons pe_int pa_nil)))) pa_nil))))))) (pss_one (ps_ret pe_bl)) pss_nil)
    (pss_cons (ps_for PassesOwn.never rfl (pi_range1 rfl T.f_range (pa_cons pe_int pa_nil)) (pg_name (i := 4) sc_law_filled.nd rfl (Or.inl rfl))
    (pss_one (ps_if (pt_not (pt_val (pe_ca (ok_law_put T B) hr (by decide) rfl pass0 (pa_cons (pv 0) (pa_cons (pv 1) (pa_cons pe_int (pa_cons (pe_lst (pa_cons (pe_ix ix_list (pv 3) (pv 4) (fun _ _ => rfl)) (pa_cons (pe_tup (pa_cons pe_str (pa_cons (pv 4) pa_nil))) pa_nil))) pa_nil))))))) (pss_one (ps_ret pe_bl)) pss_nil)))
    (pss_cons (ps_for PassesOwn.never rfl (pi_range1 rfl T.f_range (pa_cons pe_int pa_nil)) (pg_name (i := 4) sc_law_filled.nd rfl (Or.inl rfl))
    (pss_one (ps_if (pt_not (pt_val (pe_ca (ok_law_put T B) hr (by decide) rfl pass0 (pa_cons (pv 0) (pa_cons (pv 1) (pa_cons pe_int (pa_cons (pe_lst (pa_cons (pe_ix ix_list (pv 3) (pv 4) (fun _ _ => rfl)) (pa_cons (pe_ix ix_list (pe_lst (pa_cons pe_int (pa_cons pe_int pa_nil))) (pe_op op_mod (pv 4) pe_int) (fun _ _ => rfl)) (pa_cons (pe_ix ix_list (pe_lst (pa_cons pe_int (pa_cons pe_int pa_nil))) (pe_op op_fdiv (pv 4) pe_int) (fun _ _ => rfl)) (pa_cons (pe_lst (pa_cons (pe_op op_add pe_int (pv 4)) (pa_cons pe_int pa_nil))) pa_nil))))) pa_nil))))))) (pss_one (ps_ret pe_bl)) pss_nil)))
    (pss_cons (ps_set (i := 6) sc_law_filled.nd rfl (Or.inl rfl) (pe_callTy (call_list_dK rfl) rfl T.f_list (by decide +kernel) (pa_cons (pe_dget hu (pv 1) pe_str (fun _ _ => rfl)) pa_nil)))
    (pss_cons (ps_for PassesOwn.never rfl (pi_range1 rfl T.f_range (pa_cons pe_int pa_nil)) (pg_name (i := 4) sc_law_filled.nd rfl (Or.inl rfl))
    (pss_cons (ps_set (i := 7) sc_law_filled.nd rfl (Or.inl rfl) (pe_ca (ok_law_calls T) hr (by decide) rfl pass0 (pa_cons (pe_op op_add (pv 2) (pv 4)) (pa_cons (pv 5) (pa_cons (pe_op op_add pe_int (pe_op op_mod (pv 4) pe_int)) pa_nil)))))
    (pss_one (ps_if (pt_not (pt_val (pe_ca (ok_law_put T B) hr (by decide) rfl pass0 (pa_cons (pv 0) (pa_cons (pv 1) (pa_cons pe_int (pa_cons (pe_lst (pa_cons (pe_ix ix_list (pv 3) (pv 4) (fun _ _ => rfl)) (pa_cons (pe_ix ix_list (pv 6) (pe_op op_mod (pv 4) pe_int) (fun _ _ => rfl)) (pa_cons (pv 7) pa_nil)))) pa_nil))))))) (pss_one (ps_ret pe_bl)) pss_nil))))
    (pss_one (ps_ret (pe_and (pe_ca (ok_law_put T B) hr (by decide) rfl pass0 (pa_cons (pv 0) (pa_cons (pv 1) (pa_cons pe_int (pa_cons (pe_lst (pa_cons pe_str (pa_cons pe_int (pa_cons pe_int pa_nil)))) pa_nil))))) (pe_one (pe_ca (ok_law_put T B) hr (by decide) rfl pass0 (pa_cons (pv 0) (pa_cons (pv 1) (pa_cons pe_int (pa_cons (pe_lst (pa_cons (pe_ix ix_list (pv 5) pe_int (fun _ _ => rfl)) (pa_cons pe_int (pa_cons pe_int pa_nil)))) pa_nil)))))))))))))))))), ?_⟩
  obtain ⟨M, p, N, W, A, S, seed, rfl, rfl, rfl, hs0, tw, hCM, hnd, q⟩ := h
  refine seq_hide fun U1 hU1 => ?_
  walk_at "ws"
  refine ⟨12, rfl, by decide, by decide, lcG (fun i y _ => y = V.str (nameS seed (i : Int))) (by decide) (fun _ => rfl) (fun _ _ _ _ _ h => h) (fun i D H4 acc e4 hi9 _ _ R r => ?_) (fun nm ys H1 hnm e1 g1 hp => ?_)⟩
  · simp only [wipe]
    walk_at "ws"
    have hi9 : i < 12 := hi9
    exact ⟨seed, 0 + (i : Int), rfl, rfl, hs0, by omega, by omega, fun H' e' => r _ _ e' (by rw [Int.zero_add])⟩
  have ey : ys = (List.range 12).map fun i : Nat => V.str (nameS seed (i : Int)) := paired_map hp
  subst ey
  have tw1 := tw.up e1
  have nmM : nm ∉ M := tw.live.not hnm
  have nmC : nm ∉ N.l ++ A.l := fun z => nmM (hCM _ z)
  have nameAt : ∀ i : Nat, i < 12 → atI ((List.range 12).map fun i : Nat => V.str (nameS seed (i : Int))) (i : Int) = some (V.str (nameS seed (i : Int))) := fun i hi => atI_nat (by rw [List.getElem?_map, List.getElem?_range hi]; rfl)
  have nameA : ∀ (L : Hp) (i : Nat), Av K L (V.str (nameS seed (i : Int))) (.str (nameS seed (i : Int))) := fun L i => .dp (.str _) (okD_name (name_valid seed i))
  have intA : ∀ (L : Hp) (i : Int), Av K L (V.int i) (.int i) := fun L i => .dp (.int i) rfl
  subst hU1
  refine seq_hide fun U2 hU2 => ?_
  walk_at "ws"
  refine ⟨9, rfl, by decide, by decide, ?_⟩
  refine for_range (lo := 0) (n := 9) (fun i σ H' => ∃ S', FrM (N.l ++ A.l) H1 H' ∧ Two K M H' p N W A S' ∧ (S'.stops.length = 8 ∨ ∀ j < i, nameS seed (j : Nat) ∈ S'.stops.map (·.1)) ∧ ∃ o4, σ = [some (.ref p), some (.ref W), some (.int seed), some (.ref nm), o4, none, none, none])
    ⟨S, FrM.refl, tw1, .inr (fun j hj => absurd hj (Nat.not_lt_zero _)), _, rfl⟩ ?_ ?_
  · rintro i σ H2 hi ⟨S2, f2, tw2, h8, o4, rfl⟩
    simp only [Int.zero_add]
    walk_at "ws"
    refine ⟨nm, _, _, _, rfl, rfl, SqL.of (f2 _ _ nmC g1 (fun _ z => nomatch z)), nameAt i (by omega), ?_⟩
    walk_at "ws"
    refine ⟨by decide, by decide, ?_⟩
    walk_at "al"
    rename_i q1 hq1 H3 e3 g3
    refine ⟨by decide, ?_⟩
    obtain ⟨z, hz, hat⟩ := ix_map [(i : Int), 30] V.int (i := (i : Int) % 2) (by omega) (by show (i : Int) % 2 < 2; omega)
    have hz2 : 0 ≤ z ∧ z ≤ 30 := by
      simp only [List.mem_cons, List.not_mem_nil, or_false] at hz
      omega
    refine ⟨q1, _, _, _, rfl, rfl, SqL.of g3, hat, ?_⟩
    refine ⟨by decide, ?_⟩
    walk_at "al"
    rename_i g hg H4 e4 g4
    have e24 := e3.trans e4
    have tw4 := tw2.up e24
    refine ⟨M, p, N, W, A, S2, 0, g, false, rfl, rfl, rfl, rfl, tw4, hCM, hnd, .inl ⟨.inl rfl, _, _, _, _, _, _, (tw2.live.up e3).cut hg g4 (fun _ z => nomatch z), nameA _ i, intA _ _, intA _ _⟩, (fun h => nomatch h), fun H5 S5 f5 tw5 gr => ?_⟩
    refine ⟨true, rfl, ?_⟩
    exact ⟨S5, (f2.trans e24.frm).trans f5, tw5, fill_step h8 gr.s tw5.ok.s8 (gr.ns _ _ _ rfl g4 (name_valid seed i) (by omega) (by omega) hz2.1 hz2.2), _, rfl⟩
  rintro σ H2 ⟨S2, f2, tw2, h8, o4, rfl⟩
  have h8 := fill_end (by decide) h8 tw2.ok.s8 (by decide)
  clear tw1
  dsimp only
  subst hU2
  refine seq_hide fun U3 hU3 => ?_
  walk_at "ws"
  obtain ⟨la, wb, lc, ld, le, wa, wb', wc, wd, we, wk⟩ := tw2.wor.ex
  refine d_stops (tw2.wor.n.up cutM_same) ?_
  refine ⟨A.s, la, rfl, wa, fun st hst => ?_⟩
  rw [keysK wk.a]
  have eL : (S2.stops.map fun x => V.str x.1) = (S2.stops.map (·.1)).map V.str := by rw [List.map_map]; rfl
  rw [eL]
  have LL : (S2.stops.map (·.1)).length = 8 := by rw [List.length_map, h8]
  have LN : ∀ x ∈ S2.stops.map (·.1), isNameS x = true := fun x hx => by
    obtain ⟨y, hy, rfl⟩ := List.mem_map.mp hx
    exact tw2.ok.sk y hy
  have Lnd := tw2.ok.sn
  have a3 := alloc1 (o := .lst ((S2.stops.map (·.1)).map V.str)) hst rfl
  generalize upd H2 st _ = H3 at *
  obtain ⟨e3, g3⟩ := a3
  have tw3 := tw2.up e3
  have stC : st ∉ N.l ++ A.l := fun z => tw2.live.not hst (hCM _ z)
  have hnm3 := e3 _ _ (f2 _ _ nmC g1 (fun _ z => nomatch z))
  have f3 := (e1.frm.trans f2).trans e3.frm
  have nameL : ∀ (L : Hp) (x : Str), x ∈ S2.stops.map (·.1) → Av K L (V.str x) (.str x) := fun L x hx => .dp (.str _) (okD_name (LN x hx))
  clear la wb lc ld le wa wb' wc wd we wk eL e1 g1
  subst hU3
  refine seq_hide fun U4 hU4 => ?_
  walk_at "ws"
  refine ⟨13, rfl, by decide, by decide, ?_⟩
  refine for_range (lo := 0) (n := 13) (fun i σ H' => ∃ S', FrM (N.l ++ A.l) H3 H' ∧ Two K M H' p N W A S' ∧ S'.stops = S2.stops ∧ ∃ o4, σ = [some (.ref p), some (.ref W), some (.int seed), some (.ref nm), o4, some (.ref st), none, none])
    ⟨S2, FrM.refl, tw3, rfl, _, rfl⟩ ?_ ?_
  · rintro i σ H4 hi ⟨S4, f4, tw4, eS4, o4, rfl⟩
    have hst4 := f4 _ _ stC g3 (fun _ z => nomatch z)
    simp only [Int.zero_add]
    walk_at "ws"
    refine ⟨by decide, ?_⟩
    obtain ⟨x, hx, hatx⟩ := ix_map (S2.stops.map (·.1)) V.str (i := (i : Int) % 8) (by omega) (by rw [LL]; omega)
    refine ⟨st, _, _, _, rfl, rfl, SqL.of hst4, hatx, ?_⟩
    obtain ⟨y, hy, haty⟩ := ix_map (S2.stops.map (·.1)) V.str (i := ((i : Int) % 8 + 1 + (i : Int) / 8) % 8) (by omega) (by rw [LL]; omega)
    walk_at "ws"
    refine ⟨by decide, ⟨by decide, by decide⟩, by decide, ?_⟩
    refine ⟨st, _, _, _, rfl, rfl, SqL.of hst4, haty, ?_⟩
    refine ⟨by decide, ?_⟩
    walk_at "al"
    rename_i q1 hq1 H5 e5 g5
    refine ⟨by decide, ?_⟩
    obtain ⟨z, hz, hat⟩ := ix_map [1, 60, 1 + (i : Int)] V.int (i := (i : Int) % 3) (by omega) (by show (i : Int) % 3 < 3; omega)
    refine ⟨q1, _, _, _, rfl, rfl, SqL.of g5, hat, ?_⟩
    refine ⟨by decide, ?_⟩
    walk_at "al"
    rename_i g hg H6 e6 g6
    have e46 := e5.trans e6
    have tw6 := tw4.up e46
    refine ⟨M, p, N, W, A, S4, 1, g, false, rfl, rfl, rfl, rfl, tw6, hCM, hnd, .inl ⟨.inr rfl, _, _, _, _, _, _, (tw4.live.up e5).cut hg g6 (fun _ z => nomatch z), nameL _ x hx, nameL _ y hy, intA _ _⟩, (fun h => nomatch h), fun H7 S7 f7 tw7 gr => ?_⟩
    refine ⟨true, rfl, ?_⟩
    exact ⟨S7, (f4.trans e46.frm).trans f7, tw7, by rw [← eS4]; exact same_of_len gr.s (by rw [eS4]; exact h8) tw7.ok.s8, _, rfl⟩
  rintro σ H4 ⟨S4, f4, tw4, eS4, o4, rfl⟩
  have hst4 := f4 _ _ stC g3 (fun _ z => nomatch z)
  dsimp only
  subst hU4
  refine seq_hide fun U5 hU5 => ?_
  walk_at "ws"
  obtain ⟨x1, hx1, hat1⟩ := ix_map (S2.stops.map (·.1)) V.str (i := 1) (by decide) (by rw [LL]; decide)
  obtain ⟨x0, hx0, hat0⟩ := ix_map (S2.stops.map (·.1)) V.str (i := 0) (by decide) (by rw [LL]; decide)
  refine ⟨st, _, _, _, rfl, rfl, SqL.of hst4, hat1, ?_⟩
  refine ⟨st, _, _, _, rfl, rfl, SqL.of hst4, hat0, ?_⟩
  refine ⟨by decide, ?_⟩
  walk_at "al"
  rename_i g hg H5 e5 g5
  refine ⟨M, p, N, W, A, S4, 1, g, false, rfl, rfl, rfl, rfl, tw4.up e5, hCM, hnd, .inl ⟨.inr rfl, _, _, _, _, _, _, tw4.live.cut hg g5 (fun _ z => nomatch z), nameL _ x1 hx1, nameL _ x0 hx0, intA _ _⟩, (fun h => nomatch h), fun H6 S6 f6 tw6 gr => ?_⟩
  have eS6 : S6.stops = S2.stops := by
    rw [← eS4]
    exact same_of_len gr.s (by rw [eS4]; exact h8) tw6.ok.s8
  have f36 := (f4.trans e5.frm).trans f6
  refine ⟨true, rfl, ?_⟩
  show U5 _ _ _
  clear gr tw4 eS4 f4 hst4 f6 e5 g5
  subst hU5
  refine seq_hide fun U6 hU6 => ?_
  walk_at "ws"
  refine ⟨7, rfl, by decide, by decide, ?_⟩
  refine for_range (lo := 0) (n := 7) (fun i σ H' => ∃ S', FrM (N.l ++ A.l) H3 H' ∧ Two K M H' p N W A S' ∧ S'.stops = S2.stops ∧ (S'.rules.length = 6 ∨ ∀ j < i, nameS seed (j : Nat) ∈ S'.rules.map (·.1)) ∧ ∃ o4, σ = [some (.ref p), some (.ref W), some (.int seed), some (.ref nm), o4, some (.ref st), none, none])
    ⟨S6, f36, tw6, eS6, .inr (fun j hj => absurd hj (Nat.not_lt_zero _)), _, rfl⟩ ?_ ?_
  · rintro i σ H4 hi ⟨S4, f4, tw4, eS4, h6, o4, rfl⟩
    simp only [Int.zero_add]
    walk_at "ws"
    refine ⟨nm, _, _, _, rfl, rfl, SqL.of (f4 _ _ nmC hnm3 (fun _ z => nomatch z)), nameAt i (by omega), ?_⟩
    refine ⟨by decide, ?_⟩
    walk_at "al"
    rename_i t ht H5 e5 g5
    refine ⟨by decide, ?_⟩
    walk_at "al"
    rename_i g hg H6 e6 g6
    have e46 := e5.trans e6
    have tw6 := tw4.up e46
    have cg := (tw4.live.up e5).cut hg g6 (fun _ z => nomatch z)
    have ct := tw4.live.cut ht (e6 _ _ g5) (fun _ z => nomatch z)
    have hd : Dp K (cutM M H6) (.ref t) (Told.d (.week (i : Int))) := Dp.newT ct (.cons (.str _) (.cons (.int _) .nil))
    have hok : (Told.week (i : Int)).ok := ⟨by omega, by omega⟩
    refine ⟨M, p, N, W, A, S4, 2, g, true, rfl, rfl, rfl, rfl, tw6, hCM, hnd, .inr (.inl ⟨rfl, _, _, _, cg, nameA _ i, .inl ⟨.week (i : Int), hd, hok, (by show 1 ≤ 3; decide)⟩⟩), (fun _ _ => ⟨_, _, _, _, cg, nameA _ i, hd, hok, (by show 1 ≤ 3; decide)⟩), fun H7 S7 f7 tw7 gr => ?_⟩
    refine ⟨true, rfl, ?_⟩
    exact ⟨S7, (f4.trans e46.frm).trans f7, tw7, by rw [← eS4]; exact same_of_len gr.s (by rw [eS4]; exact h8) tw7.ok.s8, fill_step h6 gr.r tw7.ok.r6 (gr.nr _ _ rfl rfl g6 (name_valid seed i)), _, rfl⟩
  rintro σ H7 ⟨S7, f7, tw7, eS7, h6, o4, rfl⟩
  have h6 := fill_end (by decide) h6 tw7.ok.r6 (by decide)
  dsimp only
  clear f36 tw6 eS6
  subst hU6
  refine seq_hide fun U7 hU7 => ?_
  walk_at "ws"
  refine ⟨4, rfl, by decide, by decide, ?_⟩
  refine for_range (lo := 0) (n := 4) (fun i σ H' => ∃ S', FrM (N.l ++ A.l) H3 H' ∧ Two K M H' p N W A S' ∧ S'.stops = S2.stops ∧ S'.rules.length = 6 ∧ ∃ o4, σ = [some (.ref p), some (.ref W), some (.int seed), some (.ref nm), o4, some (.ref st), none, none])
    ⟨S7, f7, tw7, eS7, h6, _, rfl⟩ ?_ ?_
  · rintro i σ H4 hi ⟨S4, f4, tw4, eS4, h6, o4, rfl⟩
    simp only [Int.zero_add]
    walk_at "ws"
    refine ⟨nm, _, _, _, rfl, rfl, SqL.of (f4 _ _ nmC hnm3 (fun _ z => nomatch z)), nameAt i (by omega), ?_⟩
    refine ⟨by decide, ?_⟩
    walk_at "al"
    rename_i q1 hq1 H5 e5 g5
    refine ⟨by decide, ?_⟩
    obtain ⟨z1, _, hat1⟩ := ix_map [0, 10000] V.int (i := (i : Int) % 2) (by omega) (by show (i : Int) % 2 < 2; omega)
    refine ⟨q1, _, _, _, rfl, rfl, SqL.of g5, hat1, ?_⟩
    refine ⟨by decide, ?_⟩
    walk_at "al"
    rename_i q2 hq2 H6 e6 g6
    refine ⟨⟨by decide, by decide⟩, ?_⟩
    obtain ⟨z2, _, hat2⟩ := ix_map [1, 1440] V.int (i := (i : Int) / 2) (by omega) (by show (i : Int) / 2 < 2; omega)
    refine ⟨q2, _, _, _, rfl, rfl, SqL.of g6, hat2, ?_⟩
    refine ⟨by decide, ?_⟩
    walk_at "al"
    rename_i zs hzs H8 e8 g8
    refine ⟨by decide, ?_⟩
    walk_at "al"
    rename_i g hg H9 e9 g9
    have e46 := e5.trans e6
    have e48 := e46.trans e8
    have e49 := e48.trans e9
    have tw9 := tw4.up e49
    have cg := (tw4.live.up e48).cut hg g9 (fun _ z => nomatch z)
    have cz := (tw4.live.up e46).cut hzs (e9 _ _ g8) (fun _ z => nomatch z)
    have hz : AvL K (cutM M H9) (.ref zs) (.list [.int (1 + (i : Int)), .int 6]) := ⟨.dp (Dp.newL cz (.cons (.int _) (.cons (.int _) .nil))) rfl, fun ds h d hd => by
      cases h
      simp only [List.mem_cons, List.not_mem_nil, or_false] at hd
      rcases hd with rfl | rfl <;> rfl⟩
    refine ⟨M, p, N, W, A, S4, 3, g, false, rfl, rfl, rfl, rfl, tw9, hCM, hnd, .inr (.inr (.inl ⟨rfl, _, _, _, _, _, _, _, _, cg, nameA _ i, intA _ _, intA _ _, hz, (by show 2 ≤ 6; decide)⟩)), (fun h => nomatch h), fun H10 S10 f10 tw10 gr => ?_⟩
    refine ⟨true, rfl, ?_⟩
    exact ⟨S10, (f4.trans e49.frm).trans f10, tw10, by rw [← eS4]; exact same_of_len gr.s (by rw [eS4]; exact h8) tw10.ok.s8, by rw [same_of_len gr.r h6 tw10.ok.r6]; exact h6, _, rfl⟩
  clear f7 tw7 eS7 h6
  rintro σ H7 ⟨S7, f7, tw7, eS7, h6, o4, rfl⟩
  dsimp only
  subst hU7
  refine seq_hide fun U8 hU8 => ?_
  walk_at "ws"
  obtain ⟨la, wb, lc, ld, le, wa, wb', wc, wd, we, wk⟩ := tw7.wor.ex
  refine d_rules (tw7.wor.n.up cutM_same) ?_
  refine ⟨A.r, lc, rfl, wc, fun rl hrl => ?_⟩
  rw [keysK wk.c]
  have eR : (S7.rules.map fun x => V.str x.1) = (S7.rules.map (·.1)).map V.str := by rw [List.map_map]; rfl
  rw [eR]
  have RL : (S7.rules.map (·.1)).length = 6 := by rw [List.length_map, h6]
  have RN : ∀ x ∈ S7.rules.map (·.1), isNameS x = true := fun x hx => by
    obtain ⟨y, hy, rfl⟩ := List.mem_map.mp hx
    exact tw7.ok.rk y hy
  have a8 := alloc1 (o := .lst ((S7.rules.map (·.1)).map V.str)) hrl rfl
  generalize upd H7 rl _ = H8 at *
  obtain ⟨e8, g8⟩ := a8
  have tw8 := tw7.up e8
  have rlC : rl ∉ N.l ++ A.l := fun z => tw7.live.not hrl (hCM _ z)
  have hnm8 := e8 _ _ (f7 _ _ nmC hnm3 (fun _ z => nomatch z))
  have hst8 := e8 _ _ (f7 _ _ stC g3 (fun _ z => nomatch z))
  have f8 := (f3.trans f7).trans e8.frm
  clear la wb lc ld le wa wb' wc wd we wk eR
  subst hU8
  refine seq_hide fun U9 hU9 => ?_
  walk_at "ws"
  refine ⟨11, rfl, by decide, by decide, ?_⟩
  refine for_range (lo := 0) (n := 11) (fun i σ H' => ∃ S', FrM (N.l ++ A.l) H8 H' ∧ Two K M H' p N W A S' ∧ S'.stops = S2.stops ∧ ∃ o4 o7, σ = [some (.ref p), some (.ref W), some (.int seed), some (.ref nm), o4, some (.ref st), some (.ref rl), o7])
    ⟨S7, FrM.refl, tw8, eS7, _, _, rfl⟩ ?_ ?_
  · rintro i σ H4 hi ⟨S4, f4, tw4, eS4, o4, o7, rfl⟩
    simp only [Int.zero_add]
    have hst4 := f4 _ _ stC hst8 (fun _ z => nomatch z)
    walk_at "ws"
    refine ⟨by decide, ?_⟩
    refine ⟨M, seed + (i : Int), st, S2.stops.map (·.1), 2 + i % 5, tw4.live, rfl, rfl, (by show V.int _ = V.int _; congr 1), SqL.of hst4, Lnd, by omega, by omega, by omega, fun D vs cs H5 e5 hD g5 hcs hcl hgc => ?_⟩
    have f45 := f4.trans e5.frm
    refine ⟨nm, _, _, _, rfl, rfl, SqL.of (f45 _ _ nmC hnm8 (fun _ z => nomatch z)), nameAt i (by omega), ?_⟩
    refine ⟨by decide, ?_⟩
    obtain ⟨x, hx, hatx⟩ := ix_map (S7.rules.map (·.1)) V.str (i := (i : Int) % 6) (by omega) (by rw [RL]; omega)
    refine ⟨rl, _, _, _, rfl, rfl, SqL.of (f45 _ _ rlC g8 (fun _ z => nomatch z)), hatx, ?_⟩
    refine ⟨by decide, ?_⟩
    walk_at "al"
    rename_i g hg H6 e6 g6
    have tw6 := (tw4.up e5).up e6
    have cg := (tw4.live.up e5).cut hg g6 (fun _ z => nomatch z)
    have cD := tw4.live.cut hD (e6 _ _ g5) (fun _ z => nomatch z)
    refine ⟨M, p, N, W, A, S4, 4, g, false, rfl, rfl, rfl, rfl, tw6, hCM, hnd, .inr (.inr (.inr ⟨rfl, _, _, D, _, _, vs, cs, cg, nameA _ i, .dp (.str x) (okD_name (RN x hx)), cD, hcs.up (cutM_less.trans (cutM_up e6)), by omega, by omega, by rw [eS4]; exact hgc⟩)), (fun h => nomatch h), fun H7 S7 f7 tw7 gr => ?_⟩
    refine ⟨true, rfl, ?_⟩
    exact ⟨S7, (f45.trans e6.frm).trans f7, tw7, by rw [← eS4]; exact same_of_len gr.s (by rw [eS4]; exact h8) tw7.ok.s8, _, _, rfl⟩
  rintro σ H4 ⟨S4, f4, tw4, eS4, o4, o7, rfl⟩
  dsimp only
  subst hU9
  walk_at "ws"
  refine ⟨by decide, ?_⟩
  walk_at "al"
  rename_i g hg H5 e5 g5
  refine ⟨M, p, N, W, A, S4, 0, g, false, rfl, rfl, rfl, rfl, tw4.up e5, hCM, hnd, .inl ⟨.inl rfl, _, _, _, _, _, _, tw4.live.cut hg g5 (fun _ z => nomatch z), .dp (.str _) (by decide +kernel), intA _ _, intA _ _⟩, (fun h => nomatch h), fun H6 S6 f6 tw6 _ => ?_⟩
  refine ⟨true, rfl, ?_⟩
  rw [if_pos rfl]
  have f46 := (f4.trans e5.frm).trans f6
  refine ⟨st, _, _, _, rfl, rfl, SqL.of (f46 _ _ stC hst8 (fun _ z => nomatch z)), hat0, ?_⟩
  refine ⟨by decide, ?_⟩
  walk_at "al"
  rename_i g2 hg2 H7 e7 g7
  refine ⟨M, p, N, W, A, S6, 0, g2, false, rfl, rfl, rfl, rfl, tw6.up e7, hCM, hnd, .inl ⟨.inl rfl, _, _, _, _, _, _, tw6.live.cut hg2 g7 (fun _ z => nomatch z), nameL _ x0 hx0, intA _ _, intA _ _⟩, (fun h => nomatch h), fun H8 S8 f8' tw8 _ => ?_⟩
  exact q H8 S8 (f8.trans ((f46.trans e7.frm).trans f8')) tw8
end
end K06
set_option maxHeartbeats 4000000
namespace K06
open PySem L2
local macro_rules | `(tactic| walk_at "ws") => `(tactic| try simp only [w_var0, w_varS, w_c, w_ret, w_retN, w_next, w_seq, w_asg, w_gn, w_drop, w_if, w_and, w_or, w_not, ex_bl, ex_int, ex_two, w_B, w_test, w_andV, w_orV, w_notV, w_ife, w_op, w_un, w_chain, w_nil, w_cons, w_cb, w_ca, w_lst, w_tup, w_I0, w_I, w_U, w_eqI, w_neI, w_eqS, w_neS,
  w_isN0, w_notN0, w_fld, w_sfld, w_me, w_ma, w_dget, w_din, w_dnotin, w_dput, w_slice, w_part, w_nopart, w_bm, w_bm0, w_par, w_lc, w_for, w_iList, w_iTup, w_iStr, w_iRng1, w_iZip, w_iEnum, w_tM1, w_dnewK, nn_str, nn_some, nn_none, nn_ref, w_pairN, w_pairC, w_disp, w_meD, w_maxD, w_bare, w_gtup, w_glst, w_gcons, w_gnil, w_gsub, cx_K, cx_K',
  L2.start, endsOf, List.map_cons, List.map_nil, List.length_cons, List.length_nil, List.cons_append, List.nil_append, Nat.zero_add, Nat.reduceAdd, Nat.reduceSub, List.replicate_succ, List.replicate_zero, List.set_cons_zero, List.set_cons_succ, List.set_nil,
  sp0_eq, sp1_eq, sp2_eq, sp3_eq, sp4_eq, sp5_eq, if_true, Bool.false_eq_true, if_false, decide_eq_true_eq, Bool.not_eq_true', decide_eq_false_iff_not, Bool.not_true, Bool.not_false, Bool.not_eq_false', isD_int_none, isD_int_bool, isD_int_int, isD_int_str, isD_int_list, isD_int_tuple, isD_int_dict, isD_bool_none, isD_bool_bool, isD_bool_int, isD_bool_str, isD_bool_list, isD_bool_tuple, isD_bool_dict, isD_str_none, isD_str_bool, isD_str_int, isD_str_str, isD_str_list, isD_str_tuple, isD_str_dict, isD_list_none, isD_list_bool, isD_list_int, isD_list_str, isD_list_list, isD_list_tuple, isD_list_dict, isD_tuple_none, isD_tuple_bool, isD_tuple_int, isD_tuple_str, isD_tuple_list, isD_tuple_tuple, isD_tuple_dict])
local macro_rules | `(tactic| walk_at "al") => `(tactic| (intro p hp; generalize hH : upd _ _ _ = H2; obtain ⟨e2, g2⟩ := alloc1 hp hH.symm; clear hH))
def S0 : Sta := ⟨[], [], [], [], []⟩
theorem S0_ok : S0.Ok where
  s8 := by decide
  w12 := by decide
  r6 := by decide
  t3 := by decide
  p10 := by decide
  sn := List.nodup_nil
  rn := List.nodup_nil
  sk := fun _ h => nomatch h
  rk := fun _ h => nomatch h
  tk := fun _ h => nomatch h
  pk := fun _ h => nomatch h
  wn := fun _ h => nomatch h
  ro := fun _ h => nomatch h
  tz := fun _ h => nomatch h
  pc := fun _ h => nomatch h
/-- there, not there -/
def AllS (H : Hp) (l : List Addr) : Prop := ∀ x ∈ l, ∃ o, H x = some o ∧ ∀ ps, o ≠ .tbl ps
def AllN (H : Hp) (l : List Addr) : Prop := ∀ x ∈ l, H x = none
theorem AllS.up {H H' : Hp} {l : List Addr} (h : AllS H l) (e : Same H H') : AllS H' l := fun x hx => by
  obtain ⟨o, h1, h2⟩ := h x hx
  exact ⟨o, e _ _ h1, h2⟩
theorem AllS.disj {H H' : Hp} {l m : List Addr} (h : AllS H l) (e : Same H H') (n : AllN H' m) : ∀ x ∈ l, x ∉ m := fun x hx hm => by
  obtain ⟨o, h1, _⟩ := h x hx
  have := e _ _ h1
  rw [n x hm] at this
  cases this
theorem AllN.not {H H' : Hp} {l : List Addr} {a : Addr} (n : AllN H' l) (e : Same H H') {o : HO} (h : H a = some o) : a ∉ l := fun z => by
  have := e _ _ h
  rw [n a z] at this
  cases this
structure NetNew (K : PySem.W.Frag) (H H' : Hp) (p : Addr) (N : NA) : Prop where
  e : Same H H'
  n : IsNet K H' p N
  ha : H' N.a = some (.dK [])
  hb : H' N.b = some (.lst [])
  hc : H' N.c = some (.dK [])
  hd : H' N.d = some (.dK [])
  he : H' N.e = some (.dK [])
  no : AllN H N.l
  nd : N.l.Nodup
structure WorldNew (H H' : Hp) (W : Addr) (A : WA) : Prop where
  e : Same H H'
  n : IsWorld H' W A
  ha : H' A.s = some (.dK [])
  hb : H' A.w = some (.lst [])
  hc : H' A.r = some (.dK [])
  hd : H' A.t = some (.dK [])
  he : H' A.p = some (.dK [])
  no : AllN H A.l
  nd : A.l.Nodup
theorem NetNew.yes {K : PySem.W.Frag} {H H' : Hp} {p : Addr} {N : NA} (h : NetNew K H H' p N) : AllS H' N.l := fun x hx => by
  simp only [NA.l, List.mem_cons, List.not_mem_nil, or_false] at hx
  rcases hx with rfl | rfl | rfl | rfl | rfl
  · exact ⟨_, h.ha, fun _ z => nomatch z⟩
  · exact ⟨_, h.hb, fun _ z => nomatch z⟩
  · exact ⟨_, h.hc, fun _ z => nomatch z⟩
  · exact ⟨_, h.hd, fun _ z => nomatch z⟩
  · exact ⟨_, h.he, fun _ z => nomatch z⟩
theorem WorldNew.yes {H H' : Hp} {W : Addr} {A : WA} (h : WorldNew H H' W A) : AllS H' A.l := fun x hx => by
  simp only [WA.l, List.mem_cons, List.not_mem_nil, or_false] at hx
  rcases hx with rfl | rfl | rfl | rfl | rfl
  · exact ⟨_, h.ha, fun _ z => nomatch z⟩
  · exact ⟨_, h.hb, fun _ z => nomatch z⟩
  · exact ⟨_, h.hc, fun _ z => nomatch z⟩
  · exact ⟨_, h.hd, fun _ z => nomatch z⟩
  · exact ⟨_, h.he, fun _ z => nomatch z⟩
theorem NetNew.self {K : PySem.W.Frag} {H H' : Hp} {p : Addr} {N : NA} (h : NetNew K H H' p N) : p ∉ N.l := fun hx => by
  obtain ⟨dx, hp⟩ := h.n
  simp only [NA.l, List.mem_cons, List.not_mem_nil, or_false] at hx
  rcases hx with z | z | z | z | z <;> rw [z] at hp
  · rw [h.ha] at hp; cases hp
  · rw [h.hb] at hp; cases hp
  · rw [h.hc] at hp; cases hp
  · rw [h.hd] at hp; cases hp
  · rw [h.he] at hp; cases hp
theorem WorldNew.self {H H' : Hp} {W : Addr} {A : WA} (h : WorldNew H H' W A) : W ∉ A.l := fun hx => by
  have hp : H' W = some (.dK (worldK A)) := h.n
  simp only [WA.l, List.mem_cons, List.not_mem_nil, or_false] at hx
  rcases hx with z | z | z | z | z <;> rw [z] at hp
  · rw [h.ha] at hp; cases hp
  · rw [h.hb] at hp; cases hp
  · rw [h.hc] at hp; cases hp
  · rw [h.hd] at hp; cases hp
  · rw [h.he] at hp; cases hp
theorem NetNew.at {K : PySem.W.Frag} {H H' H2 : Hp} {p : Addr} {N : NA} {M : List Addr} (h : NetNew K H H' p N) (e : Same H' H2) (hp : p ∉ M) : NetAt K M H2 p N S0 := by
  obtain ⟨dx, hn⟩ := h.n
  exact ⟨⟨dx, cutM_get hp (e _ _ hn) (fun _ z => nomatch z)⟩, [], [], [], [], [], e _ _ h.ha, e _ _ h.hb, e _ _ h.hc, e _ _ h.hd, e _ _ h.he, ⟨trivial, .nil, trivial, trivial, trivial⟩⟩
theorem WorldNew.at {K : PySem.W.Frag} {H H' H2 : Hp} {W : Addr} {A : WA} {M : List Addr} (h : WorldNew H H' W A) (e : Same H' H2) (hp : W ∉ M) : WorldAt K M H2 W A S0 := by
  have hn : H' W = some (.dK (worldK A)) := h.n
  exact ⟨cutM_get hp (e _ _ hn) (fun _ z => nomatch z), [], [], [], [], [], e _ _ h.ha, e _ _ h.hb, e _ _ h.hc, e _ _ h.hd, e _ _ h.he, ⟨trivial, .nil, trivial, trivial, trivial⟩⟩
theorem netNew {K : PySem.W.Frag} {H H' : Hp} {x dx : Addr} {N : NA} (hx : H x = none) (hdx : H dx = none) (hn : dx ≠ x) (hp : H' x = some (.ins (He.ga K "Net") dx (netF N))) (ha : H' N.a = some (.dK [])) (hb : H' N.b = some (.lst [])) (hc : H' N.c = some (.dK [])) (hd : H' N.d = some (.dK [])) (he : H' N.e = some (.dK []))
    (na : upd (upd H dx (.own x)) x (.ins (He.ga K "Net") dx []) N.a = none) (nb : upd (upd H dx (.own x)) x (.ins (He.ga K "Net") dx []) N.b = none) (nc : upd (upd H dx (.own x)) x (.ins (He.ga K "Net") dx []) N.c = none) (nd : upd (upd H dx (.own x)) x (.ins (He.ga K "Net") dx []) N.d = none) (ne : upd (upd H dx (.own x)) x (.ins (He.ga K "Net") dx []) N.e = none)
    (h5 : [N.a, N.b, N.c, N.d, N.e].Nodup) (k : ∀ b o, b ≠ x → upd (upd H dx (.own x)) x (.ins (He.ga K "Net") dx []) b = some o → H' b = some o) : NetNew K H H' x N := by
  have e : Same H (upd (upd H dx (.own x)) x (.ins (He.ga K "Net") dx [])) := fun b o h => by
    rw [upd_ne (fun z => by rw [z, hx] at h; cases h), upd_ne (fun z => by rw [z, hdx] at h; cases h)]
    exact h
  refine ⟨fun b o h => k b o (fun z => by rw [z, hx] at h; cases h) (e b o h), ⟨dx, hp⟩, ha, hb, hc, hd, he, fun b hb => ?_, h5⟩
  simp only [NA.l, List.mem_cons, List.not_mem_nil, or_false] at hb
  rcases hb with rfl | rfl | rfl | rfl | rfl
  · exact e.free na
  · exact e.free nb
  · exact e.free nc
  · exact e.free nd
  · exact e.free ne
theorem AllS.not {H : Hp} {l : List Addr} {a : Addr} (h : AllS H l) (n : H a = none) : a ∉ l := fun z => by
  obtain ⟨o, h1, _⟩ := h a z
  rw [n] at h1
  cases h1
/-- the objects that change, and whose they are -/
structure Own2 (M : List Addr) (O : Addr) (N : Bool → NA) (A : Bool → WA) : Prop where
  sub : ∀ c, ∀ b ∈ (N c).l ++ (A c).l, b ∈ M
  nd : ∀ c, ((N c).l ++ (A c).l).Nodup
  oM : O ∈ M
  no : ∀ c, O ∉ (N c).l ++ (A c).l
  dj : ∀ c, ∀ b ∈ (N c).l ++ (A c).l, b ∉ (N (!c)).l ++ (A (!c)).l
structure LawInv (K : PySem.W.Frag) (M : List Addr) (O : Addr) (p : Bool → Addr) (N : Bool → NA) (W : Bool → Addr) (A : Bool → WA) (H : Hp) (S : Bool → Sta) (os : List V) : Prop where
  two : ∀ c, Two K M H (p c) (N c) (W c) (A c) (S c)
  o : H O = some (.lst os)
  os : OldsAt K (cutM M H) os
theorem law_start {K : PySem.W.Frag} {H1 H2 H3 H4 H5 H6 H7 H8 : Hp} {p1 p2 nl W1 W2 wl O nm : Addr} {N1 N2 : NA} {A1 A2 : WA} {o : HO} (w1 : NetNew K H1 H2 p1 N1) (w2 : NetNew K H2 H3 p2 N2) (e4 : Same H3 H4) (v1 : WorldNew H4 H5 W1 A1) (v2 : WorldNew H5 H6 W2 A2) (e7 : Same H6 H7) (e8 : Same H7 H8)
    (hp2 : H2 p2 = none) (hnl : H3 nl = none) (g4 : H4 nl = some (.lst [.ref p1, .ref p2])) (hW1 : H4 W1 = none) (hW2 : H5 W2 = none) (hwl : H6 wl = none) (g7 : H7 wl = some (.lst [.ref W1, .ref W2])) (hO : H7 O = none) (g8 : H8 O = some (.lst [])) (g1 : H1 nm = some o) (ht : LamX.Tabs (Tb K) H8) :
    ∃ M p N W A, Own2 M O N A ∧ LawInv K M O p N W A H8 (fun _ => S0) [] ∧ nm ∉ M ∧ nl ∉ M ∧ wl ∉ M ∧ H8 nl = some (.lst [.ref (p false), .ref (p true)]) ∧ H8 wl = some (.lst [.ref (W false), .ref (W true)]) := by
  have e12 := w1.e
  have e23 := w2.e
  have e24 := e23.trans e4
  have e45 := v1.e
  have e25 := e24.trans e45
  have e56 := v2.e
  have e57 := e56.trans e7
  have e27 := e25.trans e57
  have e47 := e45.trans e57
  have e34 := e4
  have e35 := e34.trans e45
  have e37 := e34.trans e47
  have e28 := e27.trans e8
  have e38 := e37.trans e8
  have e48 := e47.trans e8
  have e58 := e57.trans e8
  have e68 := e7.trans e8
  have sN1 := w1.yes
  have sN2 := w2.yes
  have sA1 := v1.yes
  have sA2 := v2.yes
  have oN : AllN H7 [O] := fun x hx => by
    rw [List.mem_singleton] at hx
    rw [hx]; exact hO
  have N1N2 := sN1.disj (Same.refl _) w2.no
  have N1A1 := sN1.disj e24 v1.no
  have N1A2 := sN1.disj e25 v2.no
  have N1O := sN1.disj e27 oN
  have N2A1 := sN2.disj e34 v1.no
  have N2A2 := sN2.disj e35 v2.no
  have N2O := sN2.disj e37 oN
  have A1A2 := sA1.disj (Same.refl _) v2.no
  have A1O := sA1.disj e57 oN
  have A2O := sA2.disj e7 oN
  have notM : ∀ x, x ∉ N1.l → x ∉ N2.l → x ∉ A1.l → x ∉ A2.l → x ∉ [O] → x ∉ N1.l ++ (N2.l ++ (A1.l ++ (A2.l ++ [O]))) := fun x h1 h2 h3 h4 h5 z => by
    rcases List.mem_append.mp z with z | z
    · exact h1 z
    rcases List.mem_append.mp z with z | z
    · exact h2 z
    rcases List.mem_append.mp z with z | z
    · exact h3 z
    rcases List.mem_append.mp z with z | z
    · exact h4 z
    · exact h5 z
  obtain ⟨x1, n1⟩ := w1.n
  obtain ⟨x2, n2⟩ := w2.n
  have m1 : H5 W1 = some (.dK (worldK A1)) := v1.n
  have m2 : H6 W2 = some (.dK (worldK A2)) := v2.n
  have p1M := notM p1 w1.self (w2.no.not (Same.refl _) n1) (v1.no.not e24 n1) (v2.no.not e25 n1) (oN.not e27 n1)
  have p2M := notM p2 (sN1.not hp2) w2.self (v1.no.not e34 n2) (v2.no.not e35 n2) (oN.not e37 n2)
  have W1M := notM W1 ((sN1.up e24).not hW1) ((sN2.up e34).not hW1) v1.self (v2.no.not (Same.refl _) m1) (oN.not e57 m1)
  have W2M := notM W2 ((sN1.up e25).not hW2) ((sN2.up e35).not hW2) (sA1.not hW2) v2.self (oN.not e7 m2)
  have nmM := notM nm (w1.no.not (Same.refl _) g1) (w2.no.not e12 g1) (v1.no.not (e12.trans e24) g1) (v2.no.not (e12.trans e25) g1) (oN.not (e12.trans e27) g1)
  have nlM := notM nl ((sN1.up e23).not hnl) (sN2.not hnl) (v1.no.not (Same.refl _) g4) (v2.no.not e45 g4) (oN.not e47 g4)
  have wlM := notM wl ((sN1.up (e25.trans e56)).not hwl) ((sN2.up (e35.trans e56)).not hwl) ((sA1.up e56).not hwl) (sA2.not hwl) (oN.not (Same.refl _) g7)
  have live : Live (N1.l ++ (N2.l ++ (A1.l ++ (A2.l ++ [O])))) H8 := fun x z => by
    rcases List.mem_append.mp z with z | z
    · exact sN1.up e28 x z
    rcases List.mem_append.mp z with z | z
    · exact sN2.up e38 x z
    rcases List.mem_append.mp z with z | z
    · exact sA1.up e58 x z
    rcases List.mem_append.mp z with z | z
    · exact sA2.up e68 x z
    · rw [List.mem_singleton] at z
      rw [z]
      exact ⟨_, g8, fun _ z => nomatch z⟩
  refine ⟨N1.l ++ (N2.l ++ (A1.l ++ (A2.l ++ [O]))), fun c => bif c then p2 else p1, fun c => bif c then N2 else N1, fun c => bif c then W2 else W1, fun c => bif c then A2 else A1, ⟨?_, ?_, by simp, ?_, ?_⟩, ⟨?_, g8, fun v hv => nomatch hv⟩, nmM, nlM, wlM, e48 _ _ g4, e8 _ _ g7⟩
  · intro c b hb
    cases c
    · rcases List.mem_append.mp hb with hb | hb
      · exact List.mem_append_left _ hb
      · exact List.mem_append_right _ (List.mem_append_right _ (List.mem_append_left _ hb))
    · rcases List.mem_append.mp hb with hb | hb
      · exact List.mem_append_right _ (List.mem_append_left _ hb)
      · exact List.mem_append_right _ (List.mem_append_right _ (List.mem_append_right _ (List.mem_append_left _ hb)))
  · intro c
    cases c
    · exact List.nodup_append.mpr ⟨w1.nd, v1.nd, fun a ha b hb z => N1A1 a ha (z ▸ hb)⟩
    · exact List.nodup_append.mpr ⟨w2.nd, v2.nd, fun a ha b hb z => N2A2 a ha (z ▸ hb)⟩
  · intro c z
    cases c
    · rcases List.mem_append.mp z with z | z
      · exact N1O _ z (by simp)
      · exact A1O _ z (by simp)
    · rcases List.mem_append.mp z with z | z
      · exact N2O _ z (by simp)
      · exact A2O _ z (by simp)
  · intro c b hb z
    cases c
    · rcases List.mem_append.mp hb with hb | hb <;> rcases List.mem_append.mp z with z | z
      · exact N1N2 b hb z
      · exact N1A2 b hb z
      · exact N2A1 b z hb
      · exact A1A2 b hb z
    · rcases List.mem_append.mp hb with hb | hb <;> rcases List.mem_append.mp z with z | z
      · exact N1N2 b z hb
      · exact N2A1 b hb z
      · exact N1A2 b z hb
      · exact A1A2 b z hb
  · intro c
    cases c
    · exact ⟨w1.at e28 p1M, v1.at e58 W1M, S0_ok, live, ht⟩
    · exact ⟨w2.at e38 p2M, v2.at e68 W2M, S0_ok, live, ht⟩
section
variable {K : PySem.W.Frag} {M : List Addr} {O : Addr} {p W : Bool → Addr} {N : Bool → NA} {A : Bool → WA} {H H' : Hp} {S : Bool → Sta} {os os' : List V} {c : Bool}
theorem LawInv.up (h : LawInv K M O p N W A H S os) (e : Same H H') : LawInv K M O p N W A H' S os := ⟨fun c => (h.two c).up e, e _ _ h.o, h.os.up (cutM_up e)⟩
theorem LawInv.put {S' : Sta} (own : Own2 M O N A) (h : LawInv K M O p N W A H S os) (f : FrM ((N c).l ++ (A c).l) H H') (t : Two K M H' (p c) (N c) (W c) (A c) S') : ∃ S2, LawInv K M O p N W A H' S2 os := by
  refine ⟨fun d => bif d == c then S' else S d, fun d => ?_, f O _ (own.no c) h.o (fun _ z => nomatch z), h.os.up (cutM_fr f (own.sub c))⟩
  by_cases hd : d = c
  · subst hd
    rw [show (d == d) = true from beq_self_eq_true d]
    exact t
  · rw [show (d == c) = false from beq_eq_false_iff_ne.mpr hd]
    have ec : (!d) = c := by cases d <;> cases c <;> first | rfl | exact absurd rfl hd
    exact (h.two d).fr f (own.sub c) (fun b hb => by have := own.dj d b hb; rwa [ec] at this) t.live t.tab
theorem LawInv.old {S' : Sta} (own : Own2 M O N A) (h : LawInv K M O p N W A H S os) (f : FrM [O] H H') (t : Two K M H' (p c) (N c) (W c) (A c) S') (ho : H' O = some (.lst os')) (hos : OldsAt K (cutM M H') os') : LawInv K M O p N W A H' S os' := by
  refine ⟨fun d => (h.two d).fr f (fun b hb => ?_) (fun b hb z => ?_) t.live t.tab, ho, hos⟩
  · rw [List.mem_singleton] at hb
    rw [hb]; exact own.oM
  · rw [List.mem_singleton] at z
    exact own.no d (z ▸ hb)
theorem LawInv.tabs (h : LawInv K M O p N W A H S os) (f : FrM [] H H') (ht : LamX.Tabs (Tb K) H') : LawInv K M O p N W A H' S os := by
  have hl : Live M H' := (h.two true).live.fr f fun b hb => nomatch hb
  exact ⟨fun d => (h.two d).fr f (fun b hb => nomatch hb) (fun b hb z => nomatch z) hl ht, f O _ (fun z => nomatch z) h.o (fun _ z => nomatch z), h.os.up (cutM_fr f fun b hb => nomatch hb)⟩
end
theorem cut_ints (ns : List Int) : ∃ ms : List Int, cutV (ns.map V.int) (some 1) (some 21) = ms.map V.int ∧ ms.length ≤ 20 := by
  have e1 : HT.sIx (ns.map V.int).length 0 (some 1) = min 1 (ns.map V.int).length := HT.sIx_nat _ _ 1
  have e2 : HT.sIx (ns.map V.int).length (ns.map V.int).length (some 21) = min 21 (ns.map V.int).length := HT.sIx_nat _ _ 21
  unfold cutV
  rw [e1, e2]
  refine ⟨(ns.drop _).take _, by rw [List.map_take, List.map_drop], ?_⟩
  refine Nat.le_trans (List.length_take_le _ _) ?_
  omega
section
variable {P : Program} {w : World} {K : PySem.W.Frag} {mg : Str → Option Value} {base : Heap}
def p_law (K : PySem.W.Frag) : P1 := fun v H Q _ => ∃ (a : Addr) (ns : List Int), v = .ref a ∧ SqL K H a (ns.map V.int) ∧ ns.length ≤ 63 ∧ LamX.Tabs (Tb K) H ∧ ∀ H', Q (.bl true) H'
theorem fn_ofC {CX : CXT} {k : Nat} {x q : Str} {st : Stmt} {Nm ps : List Str} {sp : Sp} {p : Str × Option Str} {fd : FuncData} (F : FunD K x q (defArgs st) (defBody st) (defScope st) [] [] (He.fAd K p) fd) (S : FnScope Nm ps (defScope st)) (len : ∀ vs H Q E, sp vs H Q E → vs.length = ps.length)
    (body : ∀ vs H Q E, sp vs H Q E → BodyOkC CX P w K mg base Nm q st (He.fAd K p) (.ref (He.codeOf K p)) k vs H Q E) : FnOk P w K mg base CX (k + 1) (He.fAd K p) fd ps sp := by
  obtain ⟨oc, od, dV, kV, doc, pm, an, cdv, ct, osl, efd, lk, hcd, _, _⟩ := F.ex
  obtain ⟨c, rfl⟩ := He.codeIn_ref hcd
  have ec : He.codeOf K p = c := He.codeOf_eq lk (by rw [efd])
  subst ec
  subst efd
  exact fn_of lk hcd S len fun A outer s H vs Q E hr h => body vs H Q E h A outer s hr
theorem ok_law (T : Tx K mg) (B : Tabd K mg base) {fd : FuncData} (F : FunD K "law" "law" (defArgs s_law) (defBody s_law) (defScope s_law) [] [] (He.fAd K ("law", none)) fd) : FnOk P w K mg base CX0 14 (He.fAd K ("law", none)) fd ["_law_script"] (sp1 (p_law K)) := by
  refine fn_ofC F sc_law len1 fun vs H Q E ⟨v, e, h⟩ A0 outer s hr => ?_
  subst e
  have hu := hu_of hr
  have hu64 := hr.units
  refine ⟨_, PSs.nox (pss_cons (ps_set (i := 1) sc_law.nd rfl (Or.inr rfl) (pe_ca (ok_law_mixed T) hr (by decide) rfl pass0 (pa_cons (pe_ca (ok_law_cell_at T) hr (by decide) rfl pass0 (pa_cons (pv 0) (pa_cons pe_int pa_nil))) (pa_cons pe_int pa_nil))))
    (pss_cons (ps_setLc (i := 2) (own := [("_law_k", 6)]) rfl sc_law.nd rfl rfl (sw_true rfl rfl rfl (by decide +kernel)) (pi_range1 rfl T.f_range (pa_cons pe_int pa_nil)) (blkOk_by (own := [("_law_k", 6)]) (N := ["_law_script", "_law_seed", "_law_names", "_law_nets", "_law_worlds", "_law_olds", "_law_k", "_law_cell", "_law_mixed_here", "_law_at", "_law_sort", "_law_given_here", "_law_turn", "_law_pair"]) (sc := defScope s_law) (by decide +kernel)) (fun _ _ _ _ _ => pg_name (i := 6) sc_law.nd rfl (Or.inl rfl)) (fun _ _ _ _ _ => pts_nil) (fun _ _ _ _ _ => (pe_ca (ok_law_name T) hr (by decide) rfl pass0 (pa_cons (pv 1) (pa_cons (pv 6) pa_nil)))))
    (pss_cons (ps_set (i := 3) sc_law.nd rfl (Or.inl rfl) (pe_lst (pa_cons (pe_ma0 (ok_Net_init T) hr (by decide) rfl pass0) (pa_cons (pe_ma0 (ok_Net_init T) hr (by decide) rfl pass0) pa_nil))))
    (pss_cons (ps_set (i := 4) sc_law.nd rfl (Or.inl rfl) (pe_lst (pa_cons (pe_ca0 (ok_law_world T) hr (by decide) rfl pass0) (pa_cons (pe_ca0 (ok_law_world T) hr (by decide) rfl pass0) pa_nil))))
    (pss_cons (ps_set (i := 5) sc_law.nd rfl (Or.inl rfl) (pe_lst pa_nil))
    (pss_cons (ps_for PassesOwn.never rfl (pi_enum rfl T.f_enumerate (pa_cons (pe_slice sl_list (pv 0) (po_some pe_int) (po_some pe_int)) pa_nil)) (pg_tup rfl (pgs_cons (pg_name (i := 6) sc_law.nd rfl (Or.inl rfl)) (pgs_cons (pg_name (i := 7) sc_law.nd rfl (Or.inl rfl)) pgs_nil)))
    (pss_cons (ps_set (i := 8) sc_law.nd rfl (Or.inl rfl) (pe_ca (ok_law_mixed T) hr (by decide) rfl pass0 (pa_cons (pv 7) (pa_cons (pe_op op_add pe_int (pv 6)) pa_nil))))
    (pss_cons (ps_set (i := 9) sc_law.nd rfl (Or.inl rfl) (pe_op op_fdiv (pe_op op_mod (pv 8) pe_int) pe_int))
    (pss_cons (ps_asg (pe_ca (ok_law_given T) hr (by decide) rfl pass0 (pa_cons (pe_ix ix_list (pv 4) (pv 9) (fun _ _ => rfl)) (pa_cons (pv 2) (pa_cons (pe_op op_fdiv (pv 8) pe_int) pa_nil)))) (pg_tup rfl (pgs_cons (pg_name (i := 10) sc_law.nd rfl (Or.inl rfl)) (pgs_cons (pg_name (i := 11) sc_law.nd rfl (Or.inl rfl)) pgs_nil))))
    (pss_cons (ps_if (pt_not (pt_val (pe_ca (ok_law_put T B) hr (by decide) rfl pass0 (pa_cons (pe_ix ix_list (pv 3) (pv 9) (fun _ _ => rfl)) (pa_cons (pe_ix ix_list (pv 4) (pv 9) (fun _ _ => rfl)) (pa_cons (pv 10) (pa_cons (pv 11) pa_nil))))))) (pss_one (ps_ret pe_bl)) pss_nil)
    (pss_cons (ps_set (i := 12) sc_law.nd rfl (Or.inl rfl) (pe_ca (ok_law_mixed T) hr (by decide) rfl pass0 (pa_cons (pv 7) (pa_cons (pe_op op_add pe_int (pv 6)) pa_nil))))
    (pss_one (ps_if (PW.pt (pw_or (pt_not (pt_val (pe_ca (ok_law_stands T) hr (by decide) rfl pass0 (pa_cons (pe_ix ix_list (pv 3) (pv 9) (fun _ _ => rfl)) (pa_cons (pe_ix ix_list (pv 4) (pv 9) (fun _ _ => rfl)) (pa_cons (pv 12) (pa_cons (pv 5) pa_nil))))))) (pw_or1 (pt_not (pt_val (pe_ca (ok_law_not_there T B) hr (by decide) rfl pass0 (pa_cons (pe_ix ix_list (pv 3) (pv 9) (fun _ _ => rfl)) (pa_cons (pv 2) (pa_cons (pv 12) pa_nil))))))))) (pss_one (ps_ret pe_bl)) pss_nil))))))))
    (pss_cons (ps_if (PW.pt (pw_and (pt_cmpR op_eq (pe_op op_mod (pe_op op_fdiv (pv 1) pe_int) pe_int) pe_int (nomark _)) (pw_and1 (pt_not (pt_val (pe_ca (ok_law_filled T B) hr (by decide) rfl pass0 (pa_cons (pe_ix ix_list (pv 3) pe_int (fun _ _ => rfl)) (pa_cons (pe_ix ix_list (pv 4) pe_int (fun _ _ => rfl)) (pa_cons (pv 1) pa_nil))))))))) (pss_one (ps_ret pe_bl)) pss_nil)
    (pss_cons (ps_for PassesOwn.never rfl (pi_tup (pe_tup (pa_cons pe_int (pa_cons pe_int pa_nil)))) (pg_name (i := 9) sc_law.nd rfl (Or.inl rfl))
    (pss_one (ps_if (pt_not (pt_val (pe_ca (ok_law_stands T) hr (by decide) rfl pass0 (pa_cons (pe_ix ix_list (pv 3) (pv 9) (fun _ _ => rfl)) (pa_cons (pe_ix ix_list (pv 4) (pv 9) (fun _ _ => rfl)) (pa_cons (pv 9) (pa_cons (pv 5) pa_nil))))))) (pss_one (ps_ret pe_bl)) pss_nil)))
    (pss_one (ps_ret (pe_cmpR (op_eqD hu64) (pe_lc (own := [("_law_pair", 13)]) rfl sc_law.nd (pi_list (pv 5)) (blkOk_by (own := [("_law_pair", 13)]) (N := ["_law_script", "_law_seed", "_law_names", "_law_nets", "_law_worlds", "_law_olds", "_law_k", "_law_cell", "_law_mixed_here", "_law_at", "_law_sort", "_law_given_here", "_law_turn", "_law_pair"]) (sc := defScope s_law) (by decide +kernel)) (fun _ _ _ _ _ => pg_name (i := 13) sc_law.nd rfl (Or.inl rfl)) (fun _ _ _ _ _ => pts_one (pt_cmpR (neDK K hu64) (pe_ix (ixT K) (pv 13) pe_int (fun _ _ => rfl)) (pe_ix (ixT K) (pv 13) pe_int (fun _ _ => rfl)) (nomark _))) (fun _ _ _ _ _ => (pv 13))) (pe_lst pa_nil) (nomark _)))))))))))), ?_⟩
  obtain ⟨a, ns, rfl, hS, h63, ht, q⟩ := h
  refine seq_hide fun U1 hU1 => ?_
  walk_at "ws"
  refine ⟨a, ns, 0, rfl, rfl, hS, ?_⟩
  refine ⟨cellAt ns 0, 0, rfl, rfl, by decide, by decide, ?_⟩
  have hs0 := mixed_nn (cellAt ns 0) 0
  generalize mixed (cellAt ns 0) 0 = seed at hs0 ⊢
  subst hU1
  refine seq_hide fun U2 hU2 => ?_
  walk_at "ws"
  refine ⟨10, rfl, by decide, by decide, lcG (fun i y _ => y = V.str (nameS seed (i : Int))) (by decide) (fun _ => rfl) (fun _ _ _ _ _ h => h) (fun i D H4 acc e4 hi9 _ _ R r => ?_) (fun nm ys H1 hnm e1 g1 hp => ?_)⟩
  · simp only [wipe]
    walk_at "ws"
    have hi9 : i < 10 := hi9
    exact ⟨seed, 0 + (i : Int), rfl, rfl, hs0, by omega, by omega, fun H' e' => r _ _ e' (by rw [Int.zero_add])⟩
  have ey : ys = (List.range 10).map fun i : Nat => V.str (nameS seed (i : Int)) := paired_map hp
  have ey : ys = ((List.range 10).map fun i : Nat => nameS seed (i : Int)).map V.str := by rw [ey, List.map_map]; rfl
  subst ey
  clear hp
  have nmN : ∀ x ∈ (List.range 10).map fun i : Nat => nameS seed (i : Int), isNameS x = true := fun x hx => by
    obtain ⟨i, _, rfl⟩ := List.mem_map.mp hx
    exact name_valid seed i
  have nmL : ((List.range 10).map fun i : Nat => nameS seed (i : Int)).length = 10 := by rw [List.length_map, List.length_range]
  generalize ((List.range 10).map fun i : Nat => nameS seed (i : Int)) = names at *
  subst hU2
  refine seq_hide fun U3 hU3 => ?_
  walk_at "ws"
  intro p1 d1 hp1 hd1 hpd1
  refine ⟨p1, d1, rfl, upd_same, fun N1 H2 x1 x2 x3 x4 x5 x6 x7 x8 x9 x10 x11 x12 x13 => ⟨rfl, ?_⟩⟩
  have w1 := netNew hp1 hd1 hpd1 x1 x2 x3 x4 x5 x6 x7 x8 x9 x10 x11 x12 x13
  clear x1 x2 x3 x4 x5 x6 x7 x8 x9 x10 x11 x12 x13 hd1 hpd1
  intro p2 d2 hp2 hd2 hpd2
  refine ⟨p2, d2, rfl, upd_same, fun N2 H3 x1 x2 x3 x4 x5 x6 x7 x8 x9 x10 x11 x12 x13 => ⟨rfl, ?_⟩⟩
  have w2 := netNew hp2 hd2 hpd2 x1 x2 x3 x4 x5 x6 x7 x8 x9 x10 x11 x12 x13
  clear x1 x2 x3 x4 x5 x6 x7 x8 x9 x10 x11 x12 x13 hd2 hpd2
  refine ⟨by decide, ?_⟩
  walk_at "al"
  rename_i nl hnl H4 e4 g4
  subst hU3
  refine seq_hide fun U4 hU4 => ?_
  walk_at "ws"
  intro W1 A1 H5 y0 hW1 y1 y2 y3 y4 y5 y6 y7 y8 y9 y10 y11 y12
  have v1 : WorldNew H4 H5 W1 A1 := ⟨y0, y1, y2, y3, y4, y5, y6, fun b hb => by
    simp only [WA.l, List.mem_cons, List.not_mem_nil, or_false] at hb
    rcases hb with rfl | rfl | rfl | rfl | rfl
    · exact y7
    · exact y8
    · exact y9
    · exact y10
    · exact y11, y12⟩
  clear y0 y1 y2 y3 y4 y5 y6 y7 y8 y9 y10 y11 y12
  intro W2 A2 H6 y0 hW2 y1 y2 y3 y4 y5 y6 y7 y8 y9 y10 y11 y12
  have v2 : WorldNew H5 H6 W2 A2 := ⟨y0, y1, y2, y3, y4, y5, y6, fun b hb => by
    simp only [WA.l, List.mem_cons, List.not_mem_nil, or_false] at hb
    rcases hb with rfl | rfl | rfl | rfl | rfl
    · exact y7
    · exact y8
    · exact y9
    · exact y10
    · exact y11, y12⟩
  clear y0 y1 y2 y3 y4 y5 y6 y7 y8 y9 y10 y11 y12
  refine ⟨by decide, ?_⟩
  walk_at "al"
  rename_i wl hwl H7 e7 g7
  subst hU4
  refine seq_hide fun U5 hU5 => ?_
  walk_at "ws"
  refine ⟨by decide, ?_⟩
  walk_at "al"
  rename_i O hO H8 e8 g8
  have e01 := e1.trans w1.e
  have e03 := e01.trans (w2.e.trans e4)
  have e08 := e03.trans (v1.e.trans (v2.e.trans (e7.trans e8)))
  have hS8 := e08.seq hS
  have hnm8 := (w1.e.trans (w2.e.trans (e4.trans (v1.e.trans (v2.e.trans (e7.trans e8)))))) _ _ g1
  obtain ⟨M, p, N, W, A, own, inv, nmM, nlM, wlM, gnl, gwl⟩ := law_start w1 w2 e4 v1 v2 e7 e8 hp2 hnl g4 hW1 hW2 hwl g7 hO g8 g1 (tabs_same ht e08)
  clear w1 w2 v1 v2 e4 e7 e8 hp1 hp2 hnl g4 hW1 hW2 hwl g7 hO g8 g1 e01 e03 e08 hS ht e1 hnm
  clear N1 N2 A1 A2 W1 W2 p1 p2
  subst hU5
  refine seq_hide fun U6 hU6 => ?_
  walk_at "ws"
  refine ⟨a, _, rfl, hS8, ?_⟩
  walk_at "al"
  rename_i sl hsl H9 e9 g9
  obtain ⟨ms, ems, hms⟩ := cut_ints ns
  rw [ems] at g9
  have slM : sl ∉ M := (inv.two true).live.not hsl
  have inv := inv.up e9
  have hnm := e9 _ _ hnm8
  have gnl := e9 _ _ gnl
  have gwl := e9 _ _ gwl
  clear e9 hsl ems hS8 h63 hnm8
  refine ⟨sl, _, rfl, SqL.of g9, ?_⟩
  refine for_it walk_enum (fun i σ H' => ∃ S os, FrM M H9 H' ∧ LawInv K M O p N W A H' S os ∧ os.length ≤ 5 * i ∧ ∃ o6 o7 o8 o9 o10 o11 o12, σ = [some (.ref a), some (.int seed), some (.ref nm), some (.ref nl), some (.ref wl), some (.ref O), o6, o7, o8, o9, o10, o11, o12, none])
    ⟨_, _, FrM.refl, inv, Nat.le_refl _, _, _, _, _, _, _, _, rfl⟩ (fun i σ H' _ ⟨_, _, f, _⟩ => SqL.of (f _ _ slM g9 (fun _ z => nomatch z))) ?_ ?_
  · rintro i x σ H10 H11 hi ⟨S, os, f10, inv10, ho, o6, o7, o8, o9, o10, o11, o12, rfl⟩ ⟨Tp, k, v, rfl, hTp, rfl, hk, hv⟩
    have hk : some (V.int (i : Int)) = some k := hk
    cases hk
    have hv : (ms.map V.int)[i]? = some v := hv
    rw [List.getElem?_map] at hv
    obtain ⟨ci, hci, rfl⟩ := Option.map_eq_some_iff.mp hv
    rw [List.length_map] at hi
    have a11 := alloc1 (o := .tup [.int (i : Int), .int ci]) hTp rfl
    generalize upd H10 Tp _ = H11 at *
    obtain ⟨e11, g11⟩ := a11
    refine ⟨Tp, _, rfl, SqT.of g11, rfl, ?_⟩
    simp only [w_gcons, w_gn, w_gnil, List.set_cons_succ, List.set_cons_zero]
    have inv11 := inv10.up e11
    have f11 := f10.trans e11.frm
    refine seq_hide fun V1 hV1 => ?_
    walk_at "ws"
    refine ⟨ci, 1 + (i : Int), rfl, rfl, by omega, by omega, ?_⟩
    have hm0 := mixed_nn ci (1 + (i : Int))
    have hm1 := mixed_lt ci (1 + (i : Int))
    generalize mixed ci (1 + (i : Int)) = mx at hm0 hm1 ⊢
    subst hV1
    refine seq_hide fun V2 hV2 => ?_
    walk_at "ws"
    refine ⟨by decide, ⟨by decide, by decide⟩, ?_⟩
    obtain ⟨b, hb⟩ : ∃ b : Bool, mx % 4 / 3 = bif b then 1 else 0 := by
      have h : mx % 4 / 3 = 0 ∨ mx % 4 / 3 = 1 := by omega
      rcases h with h | h
      · exact ⟨false, h⟩
      · exact ⟨true, h⟩
    rw [hb]
    have atN : atI [V.ref (p false), V.ref (p true)] (bif b then 1 else 0) = some (V.ref (p b)) := by cases b <;> rfl
    have atW : atI [V.ref (W false), V.ref (W true)] (bif b then 1 else 0) = some (V.ref (W b)) := by cases b <;> rfl
    generalize (bif b then (1 : Int) else 0) = at_ at *
    have hwl11 := f11 _ _ wlM gwl (fun _ z => nomatch z)
    have hnm11 := f11 _ _ nmM hnm (fun _ z => nomatch z)
    subst hV2
    refine seq_hide fun V3 hV3 => ?_
    walk_at "ws"
    refine ⟨wl, _, _, _, rfl, rfl, SqL.of hwl11, atW, ?_⟩
    walk_at "ws"
    refine ⟨⟨by decide, by decide⟩, ?_⟩
    have twb := inv11.two b
    obtain ⟨la, wb, lc, ld, le, wa, wb', wc, wd, we, wk⟩ := twb.wor.ex
    refine ⟨M, W b, A b, nm, names, mx / 4, la, lc, rfl, twb.wor.n.up cutM_same, rfl, hnm11, nmL, nmN, rfl, by omega, by omega, twb.live, wa, wc, (S b).stops.map (·.1), ?_, twb.ok.sn, by rw [List.length_map]; exact twb.ok.s8, fun x hx => ?_, (S b).rules.map (·.1), ?_, fun x hx => ?_, by rw [List.length_map]; exact twb.ok.r6, fun ga g sort H12 e12 hga giv => ?_⟩
    · rw [wk.a.keys, List.map_map]; rfl
    · obtain ⟨y, hy, rfl⟩ := List.mem_map.mp hx
      exact twb.ok.sk y hy
    · rw [wk.c.keys, List.map_map]; rfl
    · obtain ⟨y, hy, rfl⟩ := List.mem_map.mp hx
      exact twb.ok.rk y hy
    clear la wb lc ld le wa wb' wc wd we wk
    refine ⟨ga, _, rfl, SqT.of hga, rfl, ?_⟩
    walk_at "ws"
    have inv12 := inv11.up e12
    have f12 := f11.trans e12.frm
    subst hV3
    refine seq_hide fun V4 hV4 => ?_
    walk_at "ws"
    refine ⟨nl, _, _, _, rfl, rfl, SqL.of (f12 _ _ nlM gnl (fun _ z => nomatch z)), atN, ?_⟩
    refine ⟨wl, _, _, _, rfl, rfl, SqL.of (f12 _ _ wlM gwl (fun _ z => nomatch z)), atW, ?_⟩
    refine ⟨M, p b, N b, W b, A b, S b, sort, g, false, rfl, rfl, rfl, rfl, inv12.two b, own.sub b, own.nd b, giv, (fun h => nomatch h), fun H13 S13 f13 tw13 _ => ?_⟩
    refine ⟨true, rfl, ?_⟩
    show V4 _ _ _
    obtain ⟨S13', inv13⟩ := inv12.put own f13 tw13
    have f913 := f12.trans (f13.mono (own.sub b))
    subst hV4
    refine seq_hide fun V5 hV5 => ?_
    walk_at "ws"
    refine ⟨ci, 40 + (i : Int), rfl, rfl, by omega, by omega, ?_⟩
    have tn0 := mixed_nn ci (40 + (i : Int))
    generalize mixed ci (40 + (i : Int)) = turn at tn0 ⊢
    subst hV5
    walk_at "ws"
    refine ⟨nl, _, _, _, rfl, rfl, SqL.of (f913 _ _ nlM gnl (fun _ z => nomatch z)), atN, ?_⟩
    refine ⟨wl, _, _, _, rfl, rfl, SqL.of (f913 _ _ wlM gwl (fun _ z => nomatch z)), atW, ?_⟩
    refine ⟨M, p b, N b, W b, A b, S13' b, turn, O, os, rfl, rfl, rfl, rfl, inv13.two b, own.sub b, own.nd b, own.oM, own.no b, inv13.o, inv13.os, by omega, tn0, fun H14 os14 f14 tw14 hO14 hos14 hl14 => ?_⟩
    refine ⟨true, rfl, ?_⟩
    rw [if_neg (by decide)]
    have inv14 := inv13.old own f14 tw14 hO14 hos14
    have f914 := f913.trans (f14.mono (D := M) fun b hb => by
      rw [List.mem_singleton] at hb
      rw [hb]; exact own.oM)
    refine ⟨nl, _, _, _, rfl, rfl, SqL.of (f914 _ _ nlM gnl (fun _ z => nomatch z)), atN, ?_⟩
    obtain ⟨ka, vb, kc, kd, ke, na, nb, nc, nd, ne, nk⟩ := (inv14.two b).net.ex
    refine ⟨p b, N b, ka, kc, kd, ke, turn, rfl, (inv14.two b).net.n.up cutM_same, na, nc, nd, ne, rfl, tn0, (inv14.two b).tab, fun H15 e15 t15 => ?_⟩
    refine ⟨true, rfl, ?_⟩
    exact ⟨_, os14, f914.trans (extN_frm e15), inv14.tabs (extN_frm e15) t15, by omega, _, _, _, _, _, _, _, rfl⟩
  · rintro σ H10 ⟨S, os, f10, inv10, ho, o6, o7, o8, o9, o10, o11, o12, rfl⟩
    dsimp only
    rw [List.length_map] at ho
    have ho : os.length ≤ 100 := by omega
    subst hU6
    refine seq_hide fun U7 hU7 => ?_
    have rest : ∀ (S : Bool → Sta) (H11 : Hp), FrM M H9 H11 → LawInv K M O p N W A H11 S os → U7 (endsOf Q) [some (.ref a), some (.int seed), some (.ref nm), some (.ref nl), some (.ref wl), some (.ref O), o6, o7, o8, o9, o10, o11, o12, none] H11 := by
      intro S H11 f11 inv11
      subst hU7
      refine seq_hide fun U8 hU8 => ?_
      walk_at "ws"
      refine ⟨by decide, ?_⟩
      walk_at "al"
      rename_i tp htp H12 e12 g12
      have tpM : tp ∉ M := (inv11.two true).live.not htp
      have inv12 := inv11.up e12
      have f12 := f11.trans e12.frm
      refine ⟨tp, rfl, ⟨_, SqT.of g12⟩, ?_⟩
      refine for_tup (xs := [V.int 0, V.int 1]) (fun i σ H' => ∃ os', FrM M H9 H' ∧ FrM M H12 H' ∧ LawInv K M O p N W A H' S os' ∧ os'.length ≤ os.length + 5 * i ∧ ∃ o9, σ = [some (.ref a), some (.int seed), some (.ref nm), some (.ref nl), some (.ref wl), some (.ref O), o6, o7, o8, o9, o10, o11, o12, none])
        ⟨os, f12, FrM.refl, inv12, Nat.le_refl _, _, rfl⟩ (fun i σ H' _ ⟨_, _, f, _⟩ => SqT.of (f _ _ tpM g12 (fun _ z => nomatch z))) ?_ ?_
      · rintro i x σ H13 hi ⟨os', f13, f1213, inv13, ho', o9, rfl⟩
        have hi2 : i < 2 := (List.getElem?_eq_some_iff.mp hi).1
        obtain ⟨b, hb⟩ : ∃ b : Bool, x = V.int (bif b then 1 else 0) := by
          have h : i = 0 ∨ i = 1 := by omega
          rcases h with rfl | rfl
          · exact ⟨false, (Option.some.inj hi).symm⟩
          · exact ⟨true, (Option.some.inj hi).symm⟩
        subst hb
        have atN : atI [V.ref (p false), V.ref (p true)] (bif b then 1 else 0) = some (V.ref (p b)) := by cases b <;> rfl
        have atW : atI [V.ref (W false), V.ref (W true)] (bif b then 1 else 0) = some (V.ref (W b)) := by cases b <;> rfl
        have at0 : (0 : Int) ≤ bif b then 1 else 0 := by cases b <;> decide
        generalize (bif b then (1 : Int) else 0) = at_ at *
        walk_at "ws"
        refine ⟨nl, _, _, _, rfl, rfl, SqL.of (f13 _ _ nlM gnl (fun _ z => nomatch z)), atN, ?_⟩
        refine ⟨wl, _, _, _, rfl, rfl, SqL.of (f13 _ _ wlM gwl (fun _ z => nomatch z)), atW, ?_⟩
        refine ⟨M, p b, N b, W b, A b, S b, at_, O, os', rfl, rfl, rfl, rfl, inv13.two b, own.sub b, own.nd b, own.oM, own.no b, inv13.o, inv13.os, by omega, at0, fun H14 os14 f14 tw14 hO14 hos14 hl14 => ?_⟩
        refine ⟨true, rfl, ?_⟩
        have fO := f14.mono (D := M) fun b hb => by
          rw [List.mem_singleton] at hb
          rw [hb]; exact own.oM
        exact ⟨os14, f13.trans fO, f1213.trans fO, inv13.old own f14 tw14 hO14 hos14, by omega, _, rfl⟩
      · rintro σ H13 ⟨os', f13, f1213, inv13, ho', o9, rfl⟩
        dsimp only
        have ho' : os'.length ≤ 110 := by
          have : os'.length ≤ os.length + 10 := ho'
          omega
        subst hU8
        walk_at "ws"
        refine ⟨O, rfl, ⟨_, SqL.of inv13.o⟩, lcL os' (fun _ => false) (fun _ _ _ => True) (SqL.of inv13.o) (by omega) (fun _ => rfl) (fun _ _ _ _ _ h => h) (fun i x H14 e14 hx R r => ?_) (fun _ _ _ _ _ _ _ hp => by cases hp) (fun D ys H14 hD e14 g14 hp => ?_)⟩
        · simp only [wipe]
          walk_at "ws"
          obtain ⟨t, a1, b1, d, rfl, h1, h2, h3, h4, h5⟩ := inv13.os x (List.mem_of_getElem? hx)
          have s14 : Same (cutM M H13) H14 := cutM_same.trans e14
          refine ⟨t, _, 0, _, rfl, rfl, SqT.of (s14 _ _ h1), atI_nat (j := 0) rfl, ?_⟩
          refine ⟨t, _, 1, _, rfl, rfl, SqT.of (s14 _ _ h1), atI_nat (j := 1) rfl, ?_⟩
          refine ⟨d, d, h2.up s14, h3.up s14, h4, h4, ?_⟩
          rw [h5]
          exact ⟨false, rfl, r _ (Same.refl _)⟩
        · have ey : ys = [] := by
            have ef : List.filter (fun _ : V => false) os' = [] := by simp
            rw [ef] at hp
            cases hp
            rfl
          subst ey
          refine ⟨by decide, ?_⟩
          walk_at "al"
          rename_i z hz H15 e15 g15
          refine ⟨_, _, Dp.newL (e15 _ _ g14) .nil, Dp.newL g15 .nil, rfl, rfl, ?_⟩
          exact q H15
    walk_at "ws"
    refine ⟨⟨by decide, by decide⟩, by decide, ?_⟩
    refine ite2 (fun c => ?_) fun c => ?_
    · refine ⟨nl, _, 1, _, rfl, rfl, SqL.of (f10 _ _ nlM gnl (fun _ z => nomatch z)), rfl, ?_⟩
      refine ⟨wl, _, 1, _, rfl, rfl, SqL.of (f10 _ _ wlM gwl (fun _ z => nomatch z)), rfl, ?_⟩
      refine ⟨M, p true, N true, W true, A true, S true, seed, rfl, rfl, rfl, hs0, inv10.two true, own.sub true, own.nd true, fun H11 S11 f11 tw11 => ?_⟩
      refine ⟨true, rfl, ?_⟩
      obtain ⟨S2, inv11⟩ := inv10.put own f11 tw11
      exact rest S2 H11 (f10.trans (f11.mono (own.sub true))) inv11
    · exact rest S H10 f10 inv10
end
end K06
set_option maxHeartbeats 0
namespace K06
open PySem L2
theorem law_at {w : World} {mg : Str → Option Value} {fa : Addr} {h : Heap} (Y : K06H.hk.says w h) (G : h.Ns mainGlobals mg) (hm : mg ("law" : Str) = some (.ref fa)) : ∃ K : PySem.W.Frag, K.In h ∧ LamX.LawAtS PySem.Challenge.rw_roadbook_k06_nets_put_together w K CX0 14 63 "_law_script" mg fa h := by
  obtain ⟨K, KX, c⟩ := Y
  have T : Tx K mg := ⟨⟨h, KX, G⟩, c.t.d, c.more⟩
  obtain ⟨fd, F⟩ := T.d_law
  have e := hm.symm.trans T.g_law
  cases e
  have b := FunD.bindsA (ps := ["_law_script"]) F (fun _ _ _ _ _ _ => bind1 fun _ => rfl)
  have mem : ∀ p ∈ [He.cT K ("_law_put", none), He.cT K ("_law_not_there", none)], ∃ q ∈ K06H.tf, p = He.cT K q := fun p hp => by
    simp only [List.mem_cons, List.not_mem_nil, or_false] at hp
    rcases hp with rfl | rfl
    · exact ⟨("_law_put", none), by simp [K06H.tf], rfl⟩
    · exact ⟨("_law_not_there", none), by simp [K06H.tf], rfl⟩
  refine ⟨K, KX, fd, [He.cT K ("_law_put", none), He.cT K ("_law_not_there", none)], sp1 (p_law K), fun p hp => ?_, fun p hp => ?_, fun p hp => ?_, fun s v => b s [v] rfl, fun H a ns hlen _ hH hS => ⟨_, rfl, a, ns, rfl, hS, hlen, ?_, fun _ => rfl⟩, fun base _ _ hTB => ?_⟩
  · obtain ⟨q, hq, rfl⟩ := mem p hp
    exact c.empty q hq
  · obtain ⟨q, hq, rfl⟩ := mem p hp
    exact c.out q hq
  · obtain ⟨q, hq, rfl⟩ := mem p hp
    exact PySem.W.codeHd_of_K KX (c.hd q hq)
  · intro p hp
    simp only [Tb, List.mem_cons, List.not_mem_nil, or_false] at hp
    rcases hp with rfl | rfl
    · exact LamX.TabS.nil (hH _ (by simp))
    · exact LamX.TabS.nil (hH (He.cT K ("_law_not_there", none)) (by simp))
  · exact ok_law T ⟨hTB (He.cT K ("_law_put", none)) (by simp), hTB (He.cT K ("_law_not_there", none)) (by simp)⟩ F
end K06
open PySem PySem.W PySem.Calls PyProof.Rows
theorem PySem.Challenge.cw_roadbook_k06_nets_put_together_holds : PySem.Challenge.rw_roadbook_k06_nets_put_together.Holds := by
  w_on; o_law
  refine HandSHeadRun.head_any (r := K06H.R) (q := K06H.qv) (H := K06H.hk) (ob := K06H.ob) (M := 20000) (loose := K06H.names) (d := HandSHeadRun.topDef K06H.R.prog 82) (kwd := []) K06H.ob_eq
    (by kernel_rfl) (fun s => by kernel_rfl) K06H.run (by kernel_rfl) (by kernel_rfl) (by kernel_rfl) (by rfl) (by first | assumption | decide +kernel) (by decide +kernel) ⟨rfl, rfl, rfl, rfl, rfl, by decide +kernel⟩ ?hw ?hc
  case hw => w_witness2
  case hc =>
    refine LamX.walk_ofTsE (l := PySem.Challenge.rw_roadbook_k06_nets_put_together) (n := 63) (k := 14) (x := "_law_script") (CX := fun _ => L2.CX0) rfl (by decide) (by kernel_rfl) ⟨rfl, by decide, by decide⟩ ?F (fun _ _ _ _ _ z => z)
    intro w mg fa h Y G hmg0
    have hmg : mg ("law" : PySem.Str) = some (.ref fa) := by
      have e : (HandSHeadRun.topDef K06H.R.prog 82).name = ("law" : PySem.Str) := by kernel_rfl
      rw [← e]
      exact hmg0
    exact K06.law_at Y G hmg
