import PyProof.Rows.All
import Wide.All
import OpenK.AllK
import Wide.FinOn
import HandS.ForMost
import HandS.ForExc
import HandS.Evl
import HandS.ExcCtx
import HandS.HotCalls
import HandS.ExcInit
import HandS.ExcIs
import HandS.ExcField
import HandS.IsInst
import HandS.Style
import HandS.Wide
import HandS.Flt
import HandS.More
import HandS.SetKeys
import HandS.Star
import HandS.Walk
import HandS.Defaults
import KE.KExcIs
import KE.GoesMore
import KE.KSortedM
import KE.KEqSeq
import KE.DataEq
import PySem.Challenge.RW_howeverled_k01_whole_quotients_and_joini
set_option Elab.async false
set_option linter.all false
set_option maxRecDepth 100000
set_option maxHeartbeats 4000000
namespace K1
open PySem PySem.Spec PyProof.Rows L2 Evl
/-! ### the text: each def by its place, its slots -/
def topS (i : Nat) : Stmt := PySem.Challenge.pw_howeverled_k01_whole_quotients_and_joini.main.body.getD i (.Pass ⟨0, 0, 0, 0⟩)
abbrev s_init : Stmt := inClass (topS 4) 0
abbrev n_init : List Str := ["self", "word", "at"]
theorem sc_init : FnScope n_init ["self", "word", "at"] (defScope s_init) := ⟨rfl, rfl, rfl, by decide +kernel, rfl, by decide +kernel, by decide +kernel⟩
-- class LedError at 1
-- class PaperError at 2
-- class WebError at 3
-- class NotUsable at 4
abbrev s_is_integer : Stmt := topS 6
abbrev n_is_integer : List Str := ["thing"]
theorem sc_is_integer : FnScope n_is_integer ["thing"] (defScope s_is_integer) := ⟨rfl, rfl, rfl, by decide +kernel, rfl, by decide +kernel, by decide +kernel⟩
abbrev s_is_number : Stmt := topS 7
abbrev n_is_number : List Str := ["thing"]
theorem sc_is_number : FnScope n_is_number ["thing"] (defScope s_is_number) := ⟨rfl, rfl, rfl, by decide +kernel, rfl, by decide +kernel, by decide +kernel⟩
abbrev s_common_divisor : Stmt := topS 8
abbrev n_common_divisor : List Str := ["one", "other"]
theorem sc_common_divisor : FnScope n_common_divisor ["one", "other"] (defScope s_common_divisor) := ⟨rfl, rfl, rfl, by decide +kernel, rfl, by decide +kernel, by decide +kernel⟩
abbrev s_is_quotient : Stmt := topS 9
abbrev n_is_quotient : List Str := ["thing", "top", "bottom"]
theorem sc_is_quotient : FnScope n_is_quotient ["thing"] (defScope s_is_quotient) := ⟨rfl, rfl, rfl, by decide +kernel, rfl, by decide +kernel, by decide +kernel⟩
abbrev s_is_lot : Stmt := topS 10
abbrev n_is_lot : List Str := ["size", "thing", "last", "house"]
theorem sc_is_lot : FnScope n_is_lot ["size", "thing"] (defScope s_is_lot) := ⟨rfl, rfl, rfl, by decide +kernel, rfl, by decide +kernel, by decide +kernel⟩
abbrev s_is_joining : Stmt := topS 11
abbrev n_is_joining : List Str := ["many", "thing", "place", "least"]
theorem sc_is_joining : FnScope n_is_joining ["many", "thing"] (defScope s_is_joining) := ⟨rfl, rfl, rfl, by decide +kernel, rfl, by decide +kernel, by decide +kernel⟩
abbrev s_need : Stmt := topS 13
abbrev n_need : List Str := ["holds", "name"]
theorem sc_need : FnScope n_need ["holds", "name"] (defScope s_need) := ⟨rfl, rfl, rfl, by decide +kernel, rfl, by decide +kernel, by decide +kernel⟩
abbrev s_lowest : Stmt := topS 15
abbrev n_lowest : List Str := ["top", "bottom", "shared"]
theorem sc_lowest : FnScope n_lowest ["top", "bottom"] (defScope s_lowest) := ⟨rfl, rfl, rfl, by decide +kernel, rfl, by decide +kernel, by decide +kernel⟩
abbrev s_need_two : Stmt := topS 16
abbrev n_need_two : List Str := ["one", "other"]
theorem sc_need_two : FnScope n_need_two ["one", "other"] (defScope s_need_two) := ⟨rfl, rfl, rfl, by decide +kernel, rfl, by decide +kernel, by decide +kernel⟩
abbrev s_quotient_of : Stmt := topS 17
abbrev n_quotient_of : List Str := ["top", "bottom"]
theorem sc_quotient_of : FnScope n_quotient_of ["top", "bottom"] (defScope s_quotient_of) := ⟨rfl, rfl, rfl, by decide +kernel, rfl, by decide +kernel, by decide +kernel⟩
abbrev s_plus : Stmt := topS 18
abbrev n_plus : List Str := ["one", "other"]
theorem sc_plus : FnScope n_plus ["one", "other"] (defScope s_plus) := ⟨rfl, rfl, rfl, by decide +kernel, rfl, by decide +kernel, by decide +kernel⟩
abbrev s_minus : Stmt := topS 19
abbrev n_minus : List Str := ["one", "other"]
theorem sc_minus : FnScope n_minus ["one", "other"] (defScope s_minus) := ⟨rfl, rfl, rfl, by decide +kernel, rfl, by decide +kernel, by decide +kernel⟩
abbrev s_times : Stmt := topS 20
abbrev n_times : List Str := ["one", "other"]
theorem sc_times : FnScope n_times ["one", "other"] (defScope s_times) := ⟨rfl, rfl, rfl, by decide +kernel, rfl, by decide +kernel, by decide +kernel⟩
abbrev s_over : Stmt := topS 21
abbrev n_over : List Str := ["one", "other"]
theorem sc_over : FnScope n_over ["one", "other"] (defScope s_over) := ⟨rfl, rfl, rfl, by decide +kernel, rfl, by decide +kernel, by decide +kernel⟩
abbrev s_less : Stmt := topS 22
abbrev n_less : List Str := ["one", "other"]
theorem sc_less : FnScope n_less ["one", "other"] (defScope s_less) := ⟨rfl, rfl, rfl, by decide +kernel, rfl, by decide +kernel, by decide +kernel⟩
abbrev s_joinings_of : Stmt := topS 24
abbrev n_joinings_of : List Str := ["many", "found", "place", "longer", "begun", "least"]
theorem sc_joinings_of : FnScope n_joinings_of ["many"] (defScope s_joinings_of) := ⟨rfl, rfl, rfl, by decide +kernel, rfl, by decide +kernel, by decide +kernel⟩
abbrev s_blocks_of : Stmt := topS 25
abbrev n_blocks_of : List Str := ["many", "joining", "blocks", "place", "least"]
theorem sc_blocks_of : FnScope n_blocks_of ["many", "joining"] (defScope s_blocks_of) := ⟨rfl, rfl, rfl, by decide +kernel, rfl, by decide +kernel, by decide +kernel⟩
abbrev s_are_blocks : Stmt := topS 26
abbrev n_are_blocks : List Str := ["many", "lots", "seen", "lot", "place"]
theorem sc_are_blocks : FnScope n_are_blocks ["many", "lots"] (defScope s_are_blocks) := ⟨rfl, rfl, rfl, by decide +kernel, rfl, by decide +kernel, by decide +kernel⟩
abbrev s_joining_of : Stmt := topS 27
abbrev n_joining_of : List Str := ["many", "lots", "joining", "lot", "place"]
theorem sc_joining_of : FnScope n_joining_of ["many", "lots"] (defScope s_joining_of) := ⟨rfl, rfl, rfl, by decide +kernel, rfl, by decide +kernel, by decide +kernel⟩
abbrev s_joined_with : Stmt := topS 28
abbrev n_joined_with : List Str := ["many", "joining", "other", "labels", "place", "one", "two", "low", "high", "label"]
theorem sc_joined_with : FnScope n_joined_with ["many", "joining", "other"] (defScope s_joined_with) := ⟨rfl, rfl, rfl, by decide +kernel, rfl, by decide +kernel, by decide +kernel⟩
abbrev s_law_pool : Stmt := topS 30
abbrev n_law_pool : List Str := ["_law_script", "_law_pool_here", "_law_state", "_law_cell", "_law_left", "_law_k"]
theorem sc_law_pool : FnScope n_law_pool ["_law_script"] (defScope s_law_pool) := ⟨rfl, rfl, rfl, by decide +kernel, rfl, by decide +kernel, by decide +kernel⟩
abbrev s_law_take : Stmt := topS 31
abbrev n_law_take : List Str := ["_law_pool_here", "_law_bound"]
theorem sc_law_take : FnScope n_law_take ["_law_pool_here", "_law_bound"] (defScope s_law_take) := ⟨rfl, rfl, rfl, by decide +kernel, rfl, by decide +kernel, by decide +kernel⟩
abbrev s_law_great : Stmt := topS 32
abbrev n_law_great : List Str := ["_law_pool_here", "_law_value", "_law_k"]
theorem sc_law_great : FnScope n_law_great ["_law_pool_here"] (defScope s_law_great) := ⟨rfl, rfl, rfl, by decide +kernel, rfl, by decide +kernel, by decide +kernel⟩
abbrev s_law_int : Stmt := topS 33
abbrev n_law_int : List Str := ["_law_value"]
theorem sc_law_int : FnScope n_law_int ["_law_value"] (defScope s_law_int) := ⟨rfl, rfl, rfl, by decide +kernel, rfl, by decide +kernel, by decide +kernel⟩
abbrev s_law_common : Stmt := topS 34
abbrev n_law_common : List Str := ["_law_first", "_law_second", "_law_k", "_law_rest"]
theorem sc_law_common : FnScope n_law_common ["_law_first", "_law_second"] (defScope s_law_common) := ⟨rfl, rfl, rfl, by decide +kernel, rfl, by decide +kernel, by decide +kernel⟩
abbrev s_law_share : Stmt := topS 35
abbrev n_law_share : List Str := ["_law_pool_here", "_law_high", "_law_low", "_law_choice", "_law_part"]
theorem sc_law_share : FnScope n_law_share ["_law_pool_here"] (defScope s_law_share) := ⟨rfl, rfl, rfl, by decide +kernel, rfl, by decide +kernel, by decide +kernel⟩
abbrev s_law_stands : Stmt := topS 36
abbrev n_law_stands : List Str := ["_law_got", "_law_high", "_law_low"]
theorem sc_law_stands : FnScope n_law_stands ["_law_got", "_law_high", "_law_low"] (defScope s_law_stands) := ⟨rfl, rfl, rfl, by decide +kernel, rfl, by decide +kernel, by decide +kernel⟩
abbrev s_law_deed : Stmt := topS 37
abbrev n_law_deed : List Str := ["_law_deed_here", "_law_row_here"]
theorem sc_law_deed : FnScope n_law_deed ["_law_deed_here", "_law_row_here"] (defScope s_law_deed) := ⟨rfl, rfl, rfl, by decide +kernel, rfl, by decide +kernel, by decide +kernel⟩
abbrev s_law_refused : Stmt := topS 38
abbrev n_law_refused : List Str := ["_law_deed_here", "_law_row_here", "_law_due", "e", "_law_kin"]
theorem sc_law_refused : FnScope n_law_refused ["_law_deed_here", "_law_row_here", "_law_due"] (defScope s_law_refused) := ⟨rfl, rfl, rfl, by decide +kernel, rfl, by decide +kernel, by decide +kernel⟩
abbrev s_law_number : Stmt := topS 39
abbrev n_law_number : List Str := ["_law_deed_here", "_law_a", "_law_b"]
theorem sc_law_number : FnScope n_law_number ["_law_deed_here", "_law_a", "_law_b"] (defScope s_law_number) := ⟨rfl, rfl, rfl, by decide +kernel, rfl, by decide +kernel, by decide +kernel⟩
abbrev s_law_pair : Stmt := topS 40
abbrev n_law_pair : List Str := ["_law_a", "_law_b", "_law_deed_here", "_law_high", "_law_low", "_law_below"]
theorem sc_law_pair : FnScope n_law_pair ["_law_a", "_law_b"] (defScope s_law_pair) := ⟨rfl, rfl, rfl, by decide +kernel, rfl, by decide +kernel, by decide +kernel⟩
abbrev s_law_chain : Stmt := topS 41
abbrev n_law_chain : List Str := ["_law_pool_here", "_law_a", "_law_k", "_law_b", "_law_part", "_law_deed_here", "_law_high", "_law_low"]
theorem sc_law_chain : FnScope n_law_chain ["_law_pool_here", "_law_a"] (defScope s_law_chain) := ⟨rfl, rfl, rfl, by decide +kernel, rfl, by decide +kernel, by decide +kernel⟩
abbrev s_law_joined : Stmt := topS 42
abbrev n_law_joined : List Str := ["_law_pool_here", "_law_m", "_law_row_here", "_law_k"]
theorem sc_law_joined : FnScope n_law_joined ["_law_pool_here", "_law_m"] (defScope s_law_joined) := ⟨rfl, rfl, rfl, by decide +kernel, rfl, by decide +kernel, by decide +kernel⟩
abbrev s_law_row : Stmt := topS 43
abbrev n_law_row : List Str := ["_law_got", "_law_due", "_law_x"]
theorem sc_law_row : FnScope n_law_row ["_law_got", "_law_due"] (defScope s_law_row) := ⟨rfl, rfl, rfl, by decide +kernel, rfl, by decide +kernel, by decide +kernel⟩
abbrev s_law_listed : Stmt := topS 44
abbrev n_law_listed : List Str := ["_law_m", "_law_got", "_law_k", "_law_row_here", "_law_p", "_law_x"]
theorem sc_law_listed : FnScope n_law_listed ["_law_m"] (defScope s_law_listed) := ⟨rfl, rfl, rfl, by decide +kernel, rfl, by decide +kernel, by decide +kernel⟩
abbrev s_law_blocks : Stmt := topS 45
abbrev n_law_blocks : List Str := ["_law_pool_here", "_law_m", "_law_row_here", "_law_got", "_law_leasts", "_law_k", "_law_lots_now", "_law_p", "_law_kept", "_law_block"]
theorem sc_law_blocks : FnScope n_law_blocks ["_law_pool_here", "_law_m", "_law_row_here"] (defScope s_law_blocks) := ⟨rfl, rfl, rfl, by decide +kernel, rfl, by decide +kernel, by decide +kernel⟩
abbrev s_law_both : Stmt := topS 46
abbrev n_law_both : List Str := ["_law_m", "_law_first", "_law_second", "_law_due", "_law_lap", "_law_p", "_law_low", "_law_got"]
theorem sc_law_both : FnScope n_law_both ["_law_m", "_law_first", "_law_second"] (defScope s_law_both) := ⟨rfl, rfl, rfl, by decide +kernel, rfl, by decide +kernel, by decide +kernel⟩
abbrev s_law_refusals : Stmt := topS 47
abbrev n_law_refusals : List Str := ["_law_bad", "_law_value", "_law_deed_here"]
theorem sc_law_refusals : FnScope n_law_refusals [] (defScope s_law_refusals) := ⟨rfl, rfl, rfl, by decide +kernel, rfl, by decide +kernel, by decide +kernel⟩
abbrev s_law : Stmt := topS 48
abbrev n_law : List Str := ["_law_script", "_law_pool_here", "_law_shares", "_law_near", "_law_scale", "_law_high", "_law_low", "_law_a", "_law_b", "_law_m", "_law_first", "_law_second", "_law_k"]
theorem sc_law : FnScope n_law ["_law_script"] (defScope s_law) := ⟨rfl, rfl, rfl, by decide +kernel, rfl, by decide +kernel, by decide +kernel⟩
/-! ### defs, calls -/
/-- a def of the text as the top has left it -/
structure Dfn (K : PySem.W.Frag) (mg : Str → Option Value) (x : Str) (st : Stmt) : Prop where
  ex : ∃ (f : Addr) (fd : FuncData), Fun K x x st f fd ∧ mg x = some (.ref f)
/-- a def that keeps its promise, ready to be called by its name -/
structure Cal (P : Program) (w : World) (K : PySem.W.Frag) (mg : Str → Option Value) (base : Heap) (CX : CXT) (k : Nat) (x : Str) (ps : List Str) (sp : Sp) : Prop where
  ex : ∃ (f : Addr) (fd : FuncData), FnOk P w K mg base CX k f fd ps sp ∧ Binds K fd ps [] ∧ mg x = some (.ref f) ∧ PySem.W.keepIn K (.ref f) = true
theorem mkCal {P : Program} {w : World} {K : PySem.W.Frag} {mg : Str → Option Value} {base : Heap} {CX : CXT} {k : Nat} {x : Str} {st : Stmt} {ps : List Str} {sp : Sp} (D : Dfn K mg x st)
    (hb : ∀ (kV doc pm : Value) (an : Option Addr) (cdv ct : Value) (us : List Value), us.length = ps.length → bindArgs (PySem.W.fnOf x x (defArgs st) (defBody st) (defScope st) .none kV doc pm an cdv ct) ⟨us, []⟩ = pure (ps.zip us))
    (h : ∀ (f : Addr) (fd : FuncData), Fun K x x st f fd → FnOk P w K mg base CX k f fd ps sp) : Cal P w K mg base CX k x ps sp := by
  obtain ⟨f, fd, F, m⟩ := D.ex
  exact ⟨f, fd, h f fd F, F.binds hb, m, F.kp⟩
theorem Cal.imp {P : Program} {w : World} {K : PySem.W.Frag} {mg : Str → Option Value} {base : Heap} {CX : CXT} {k : Nat} {x : Str} {ps : List Str} {sp sp' : Sp} (G : Cal P w K mg base CX k x ps sp) (h : ∀ vs H Q E, sp' vs H Q E → sp vs H Q E) : Cal P w K mg base CX k x ps sp' := by
  obtain ⟨f, fd, F, b, m, kp⟩ := G.ex
  exact ⟨f, fd, F.imp h, b, m, kp⟩
section
variable {X : Cx} {CX : CXT} {k j : Nat} {x : Str} {ps : List Str} {sp : Sp} {E : XK} {p pos : Pos} {e : Expr} {es : List Expr} {t : TA}
theorem pcal (G : Cal X.prog X.w X.K X.mg X.base CX k x ps sp) (hr : Room j X.A) (hx : Passes CX X E) (ha : PA X (e :: es) t) (hkj : k ≤ j := by decide) (hg : Gl X x := by rfl) (hdb : (x == ("__debug__" : Str)) = false := by decide)
    (he : starEach (e :: es) X.env = (false, eval e X.env) :: starEach es X.env := by rfl) (hpl : (backTo pos (starEach es X.env)).any (·.1) = false := by rfl) :
    PE X (.Call (.Name x p) (e :: es) [] pos) (tCall sp [] E t) := by
  obtain ⟨f, fd, F, b, m, kp⟩ := G.ex
  exact pe_call F (hr.mono hkj) hg m kp b .nil hx ha hdb he hpl
theorem pcal0 (G : Cal X.prog X.w X.K X.mg X.base CX k x ps sp) (hr : Room j X.A) (hx : Passes CX X E) (hkj : k ≤ j := by decide) (hg : Gl X x := by rfl) (hdb : (x == ("__debug__" : Str)) = false := by decide) :
    PE X (.Call (.Name x p) [] [] pos) (tCall sp [] E tNil) := by
  obtain ⟨f, fd, F, b, m, kp⟩ := G.ex
  exact pe_call0 F (hr.mono hkj) hg m kp b .nil hx hdb
/-- what is raised is wished for at the slots -/
theorem pcalS {ES : L2.St → XK} (G : Cal X.prog X.w X.K X.mg X.base CX k x ps sp) (hr : Room j X.A) (hx : ∀ σ, PassesAt CX X σ (ES σ)) (ha : PA X (e :: es) t) (hkj : k ≤ j := by decide) (hg : Gl X x := by rfl) (hdb : (x == ("__debug__" : Str)) = false := by decide)
    (he : starEach (e :: es) X.env = (false, eval e X.env) :: starEach es X.env := by rfl) (hpl : (backTo pos (starEach es X.env)).any (·.1) = false := by rfl) :
    PE X (.Call (.Name x p) (e :: es) [] pos) (tCallS sp ES t) := by
  obtain ⟨f, fd, F, b, m, kp⟩ := G.ex
  exact pe_callS F (hr.mono hkj) hg m kp b hx ha hdb he hpl
/-- a def that lets exceptions out (their context None) does not let any out here -/
theorem passN : Passes (L2N.CX X.prog X.w) X E0 := fun _ _ _ _ _ _ _ h => by
  obtain ⟨_, _, _, _, _, _, _, _, _, _, _, _, z⟩ := h
  exact z.elim
theorem takesN0 : L2N.Takes X (fun _ _ _ _ => False) := fun _ _ h => by
  obtain ⟨_, _, _, _, _, _, _, _, _, _, _, _, _, _, _, _, z⟩ := h
  exact z.elim
end
section
variable {P : Program} {w : World} {K : PySem.W.Frag} {mg : Str → Option Value} {base : Heap}
/-- a def that may raise where nothing is handled -/
theorem okN {x : Str} {st : Stmt} {f : Addr} {fd : FuncData} {N ps : List Str} {k : Nat} {sp : Sp} (F : Fun K x x st f fd) (S : FnScope N ps (defScope st)) (len : ∀ vs H Q E, sp vs H Q E → vs.length = ps.length)
    (hbody : ∀ (cdv : Value) (A : Around) (outer : List Env) (s : Shared) (H : Hp) (vs : List V) (Q : VK) (E : XK), Room k (A.deeper (envOfC x (defScope st) s.heap.objs.size f cdv)) → sp vs H Q E →
      ∃ t, PSs (cxOf (L2N.CX P w) P w K mg base N x (defScope st) f cdv A outer s H E) (defBody st) t ∧ t { nx := fun _ H' => Q .non H', rt := Q } (start N vs) H) : FnOk P w K mg base (L2N.CX P w) (k + 1) f fd ps sp := by
  obtain ⟨oc, od, kV, doc, pm, an, cdv, ct, osl, rfl, lk, hcd⟩ := F.ex
  exact fn_of lk hcd S len fun A outer s H vs Q E hr hsp => hbody cdv A outer s H vs Q E hr hsp
end
/-! ### keywords alone -/
/-- the values in the keywords' sequence, turned round: our calls name the parameters from the last to the first -/
structure KwR (K : PySem.W.Frag) (fd : FuncData) (ps ks : List Str) : Prop where
  to : ∀ (s : Shared) (ws : List Value), ws.length = ks.length → BindsTo s fd ⟨[], ks.zip ws⟩ (ps.zip ws.reverse)
theorem vals_rev {zs : List V} {ws : List Value} (r : Vals zs ws) : Vals zs.reverse ws.reverse := by
  induction r with
  | nil => exact .nil
  | cons r1 r2 ih =>
    rw [List.reverse_cons, List.reverse_cons]
    exact ih.append (.cons r1 .nil)
structure CalK (P : Program) (w : World) (K : PySem.W.Frag) (mg : Str → Option Value) (base : Heap) (CX : CXT) (k : Nat) (x : Str) (ps ks : List Str) (sp : Sp) : Prop where
  ex : ∃ (f : Addr) (fd : FuncData), FnOk P w K mg base CX k f fd ps sp ∧ KwR K fd ps ks ∧ mg x = some (.ref f) ∧ PySem.W.keepIn K (.ref f) = true
def tCallR (n : Nat) (sp : Sp) (E : XK) (tk : TA) : TE := fun σ H Q => tk σ H fun zs H2 => zs.length = n ∧ sp zs.reverse H2 Q E
section
variable {X : Cx} {CX : CXT} {k j : Nat} {x : Str} {ps ks : List Str} {sp : Sp} {E : XK} {p pos : Pos} {kws : List Keyword} {tk : TA}
theorem pcalR (G : CalK X.prog X.w X.K X.mg X.base CX k x ps ks sp) (hr : Room j X.A) (hx : Passes CX X E) (hkw : PK X kws tk) (hkj : k ≤ j := by decide) (hg : Gl X x := by rfl)
    (hall : (backToKw pos (keywordEach kws X.env)).all (·.1.isSome) = true := by rfl) (hks : (backToKw pos (keywordEach kws X.env)).filterMap (·.1) = ks := by rfl) (hdb : (x == ("__debug__" : Str)) = false := by decide)
    (hpl : ((backTo pos (starEach [] X.env)).any (·.1) || (backToKw pos (keywordEach kws X.env)).any (·.1.isNone)) = false := by rfl) :
    PE X (.Call (.Name x p) [] kws pos) (tCallR ks.length sp E tk) := by
  obtain ⟨f, fd, F, b, m, kp⟩ := G.ex
  refine ⟨fun pins s σ H Q I h => ?_⟩
  refine wpAny_Call_Name_kw (ld_glob I hg m ?_ hdb)
  refine PySem.W.callWith_KW0 (h₀ := X.base) I.ok.mod.kin kp hall ?_ hpl
  refine thn (hkw.run pos pins s σ H _ I h) fun ws s2 ⟨zs, H2, I2, rz, l2, q2⟩ => ⟨I2.kIn, ?_⟩
  rw [hks]
  have r2 : Vals zs.reverse ws.reverse := vals_rev rz
  refine wpAny_call (codeAny_mono (F.run X.A X.stack s2 H2 ⟨[], ks.zip ws⟩ ws.reverse zs.reverse Q E (hr.mono hkj) I2.env0 (b.to s2 ws (rz.length.symm.trans l2)) r2 q2) fun r s' hq => ?_)
  cases r with
  | error e => exact hx pins σ H2 s2 e s' I2 hq
  | ok fl =>
    cases fl with
    | ret u => exact I2.after hq
    | next => exact False.elim hq
    | brk => exact False.elim hq
    | cont => exact False.elim hq
end
theorem mkCalK {P : Program} {w : World} {K : PySem.W.Frag} {mg : Str → Option Value} {base : Heap} {CX : CXT} {k : Nat} {x : Str} {st : Stmt} {ps ks : List Str} {sp : Sp} (D : Dfn K mg x st)
    (hb : ∀ (kV doc pm : Value) (an : Option Addr) (cdv ct : Value) (ws : List Value), ws.length = ks.length → bindArgs (PySem.W.fnOf x x (defArgs st) (defBody st) (defScope st) .none kV doc pm an cdv ct) ⟨[], ks.zip ws⟩ = pure (ps.zip ws.reverse))
    (h : ∀ (f : Addr) (fd : FuncData), Fun K x x st f fd → FnOk P w K mg base CX k f fd ps sp) : CalK P w K mg base CX k x ps ks sp := by
  obtain ⟨f, fd, F, m⟩ := D.ex
  have F' := h f fd F
  have kp := F.kp
  obtain ⟨oc, od, kV, doc, pm, an, cdv, ct, osl, rfl, lk, hcd⟩ := F.ex
  exact ⟨f, _, F', ⟨fun s ws hl => BindsTo.of_eq (hb kV doc pm an cdv ct ws hl)⟩, m, kp⟩
end K1
namespace K1
open PySem PySem.Spec PyProof.Rows L2 Evl
/-! ### built-ins -/
structure Blt (mg : Str → Option Value) : Prop where
  b_len : mg "len" = none
  b_isinstance : mg "isinstance" = none
  b_abs : mg "abs" = none
  b_int : mg "int" = none
  b_bool : mg "bool" = none
  b_str : mg "str" = none
  b_list : mg "list" = none
  b_tuple : mg "tuple" = none
  b_min : mg "min" = none
  b_max : mg "max" = none
  b_sorted : mg "sorted" = none
  b_range : mg "range" = none
  b_enumerate : mg "enumerate" = none
  b_ValueError : mg "ValueError" = none
theorem bt_len : bootBuiltins "len" = some (.builtin "len") := by decide +kernel
theorem bt_isinstance : bootBuiltins "isinstance" = some (.builtin "isinstance") := by decide +kernel
theorem bt_abs : bootBuiltins "abs" = some (.builtin "abs") := by decide +kernel
theorem bt_int : bootBuiltins "int" = some (.type "int") := by decide +kernel
theorem bt_bool : bootBuiltins "bool" = some (.type "bool") := by decide +kernel
theorem bt_str : bootBuiltins "str" = some (.type "str") := by decide +kernel
theorem bt_list : bootBuiltins "list" = some (.type "list") := by decide +kernel
theorem bt_tuple : bootBuiltins "tuple" = some (.type "tuple") := by decide +kernel
theorem bt_min : bootBuiltins "min" = some (.builtin "min") := by decide +kernel
theorem bt_max : bootBuiltins "max" = some (.builtin "max") := by decide +kernel
theorem bt_sorted : bootBuiltins "sorted" = some (.builtin "sorted") := by decide +kernel
theorem bt_ValueError : bootBuiltins "ValueError" = some (.type "ValueError") := by decide +kernel
/-! ### data in the heap -/
section
variable {K : PySem.W.Frag} {H H' : Hp}
mutual
theorem dp_mono (e : Ex H H') : ∀ (d : PyData) (v : V), Dp K H v d → Dp K H' v d
  | .none, _, h => by cases h; exact .non
  | .bool b, _, h => by cases h; exact .bl b
  | .int i, _, h => by cases h; exact .int i
  | .str x, _, h => by cases h; exact .str x
  | .list ds, _, h => by
    cases h with
    | lst hs ha => exact .lst (ex_l e hs) (dpAll_mono e ds _ ha)
  | .tuple ds, _, h => by
    cases h with
    | tup hs ha => exact .tup (ex_t e hs) (dpAll_mono e ds _ ha)
  | .dict _, _, h => by cases h
theorem dpAll_mono (e : Ex H H') : ∀ (ds : List PyData) (vs : List V), DpAll K H vs ds → DpAll K H' vs ds
  | [], _, h => by cases h; exact .nil
  | d :: ds, _, h => by
    cases h with
    | cons h1 h2 => exact .cons (dp_mono e d _ h1) (dpAll_mono e ds _ h2)
end
theorem dpAll_len : ∀ {ds : List PyData} {vs : List V}, DpAll K H vs ds → vs.length = ds.length
  | [], _, h => by cases h; rfl
  | d :: ds, _, h => by
    cases h with
    | cons h1 h2 => exact congrArg Nat.succ (dpAll_len h2)
theorem dpAll_get : ∀ {ds : List PyData} {vs : List V} {i : Nat} {v : V}, DpAll K H vs ds → vs[i]? = some v → ∃ d, ds[i]? = some d ∧ Dp K H v d
  | [], _, i, v, h, e => by cases h; simp at e
  | d :: ds, _, i, v, h, e => by
    cases h with
    | cons h1 h2 =>
      cases i with
      | zero =>
        have e' := Option.some.inj e
        subst e'
        exact ⟨d, rfl, h1⟩
      | succ i => exact dpAll_get (i := i) h2 e
theorem dpAll_ints : ∀ (ns : List Int), DpAll K H (ns.map V.int) (ns.map PyData.int)
  | [] => .nil
  | n :: ns => .cons (.int n) (dpAll_ints ns)
theorem dp_int_inv {v : V} {i : Int} (h : Dp K H v (.int i)) : v = .int i := by cases h; rfl
theorem dpAll_int_inv : ∀ {ns : List Int} {vs : List V}, DpAll K H vs (ns.map PyData.int) → vs = ns.map V.int
  | [], _, h => by cases h; rfl
  | n :: ns, _, h => by
    cases h with
    | cons h1 h2 =>
      rw [dp_int_inv h1, dpAll_int_inv h2]
      rfl
/-- a datum's class -/
def tyD : PyData → String
  | .none => "NoneType"
  | .bool _ => "bool"
  | .int _ => "int"
  | .str _ => "str"
  | .list _ => "list"
  | .tuple _ => "tuple"
  | .dict _ => "dict"
theorem dp_ty {v : V} {d : PyData} (h : Dp K H v d) : TyX K H v (.type (tyD d)) := by
  cases h with
  | non => exact .base .non
  | bl b => exact .base (.bl b)
  | int i => exact .base (.int i)
  | str x => exact .base (.str x)
  | lst hs ha =>
    rcases hs with (h | ⟨o, h⟩) | ⟨o, its, n, hk, hc, _⟩
    · exact .base (.lst h)
    · exact .base (.frz h)
    · exact .kList hk hc
  | tup hs ha =>
    rcases hs with (h | ⟨o, h⟩) | ⟨o, its, n, hk, hc, _⟩
    · exact .base (.tup h)
    · exact .fTuple h
    · exact .kTuple hk hc
end
/-- isinstance(x, int) of a datum -/
def is_int : PyData → Bool
  | .bool _ => true
  | .int _ => true
  | _ => false
theorem kit_int : ∀ d : PyData, kitB (tyD d) "int" = some (is_int d)
  | .none => by
    show kitB "NoneType" "int" = some false
    decide +kernel
  | .bool _ => by
    show kitB "bool" "int" = some true
    decide +kernel
  | .int _ => by
    show kitB "int" "int" = some true
    decide +kernel
  | .str _ => by
    show kitB "str" "int" = some false
    decide +kernel
  | .list _ => by
    show kitB "list" "int" = some false
    decide +kernel
  | .tuple _ => by
    show kitB "tuple" "int" = some false
    decide +kernel
  | .dict _ => by
    show kitB "dict" "int" = some false
    decide +kernel
/-- isinstance(x, bool) of a datum -/
def is_bool : PyData → Bool
  | .bool _ => true
  | _ => false
theorem kit_bool : ∀ d : PyData, kitB (tyD d) "bool" = some (is_bool d)
  | .none => by
    show kitB "NoneType" "bool" = some false
    decide +kernel
  | .bool _ => by
    show kitB "bool" "bool" = some true
    decide +kernel
  | .int _ => by
    show kitB "int" "bool" = some false
    decide +kernel
  | .str _ => by
    show kitB "str" "bool" = some false
    decide +kernel
  | .list _ => by
    show kitB "list" "bool" = some false
    decide +kernel
  | .tuple _ => by
    show kitB "tuple" "bool" = some false
    decide +kernel
  | .dict _ => by
    show kitB "dict" "bool" = some false
    decide +kernel
/-- isinstance(x, str) of a datum -/
def is_str : PyData → Bool
  | .str _ => true
  | _ => false
theorem kit_str : ∀ d : PyData, kitB (tyD d) "str" = some (is_str d)
  | .none => by
    show kitB "NoneType" "str" = some false
    decide +kernel
  | .bool _ => by
    show kitB "bool" "str" = some false
    decide +kernel
  | .int _ => by
    show kitB "int" "str" = some false
    decide +kernel
  | .str _ => by
    show kitB "str" "str" = some true
    decide +kernel
  | .list _ => by
    show kitB "list" "str" = some false
    decide +kernel
  | .tuple _ => by
    show kitB "tuple" "str" = some false
    decide +kernel
  | .dict _ => by
    show kitB "dict" "str" = some false
    decide +kernel
/-- isinstance(x, tuple) of a datum -/
def is_tuple : PyData → Bool
  | .tuple _ => true
  | _ => false
theorem kit_tuple : ∀ d : PyData, kitB (tyD d) "tuple" = some (is_tuple d)
  | .none => by
    show kitB "NoneType" "tuple" = some false
    decide +kernel
  | .bool _ => by
    show kitB "bool" "tuple" = some false
    decide +kernel
  | .int _ => by
    show kitB "int" "tuple" = some false
    decide +kernel
  | .str _ => by
    show kitB "str" "tuple" = some false
    decide +kernel
  | .list _ => by
    show kitB "list" "tuple" = some false
    decide +kernel
  | .tuple _ => by
    show kitB "tuple" "tuple" = some true
    decide +kernel
  | .dict _ => by
    show kitB "dict" "tuple" = some false
    decide +kernel
section
variable {K : PySem.W.Frag} {σ : L2.St} {H H' : Hp} {ta tb te : TE} {x y z v : V} {D : Ends}
theorem ev_isi {d : PyData} {T : String} (ha : Ev ta σ H v) (hd : Dp K H v d) {b : Bool} (hk : kitB (tyD d) T = some b) : Ev (tCB (rIsi K) (tCons ta (tCons (tC (.ty T)) tNil))) σ H (.bl b) := by
  refine ev_cb (ea_cons ha (ea_cons ev_c ea_nil)) fun H1 e1 Q q => ?_
  exact ⟨v, .ty T, .type (tyD d), .type T, _, rfl, .ty T, dp_ty (dp_mono e1 _ _ hd), kit_ty hk, q _ (Ex.refl _)⟩
/-- len of a tuple -/
theorem ev_lenT {p : Addr} {xs : List V} (ha : Ev ta σ H (.ref p)) (h : SqT K H p xs) : Ev (tCB (rLenS K) (tCons ta tNil)) σ H (.int (xs.length : Int)) :=
  ev_cb (ea_cons ha ea_nil) fun H1 e1 Q q => ⟨p, xs, rfl, .inr (ex_t e1 h), q _ (Ex.refl _)⟩
def rAbs : List V → Hp → VK → Prop := fun xs H Q => ∃ i, xs = [.int i] ∧ Q (.int (if i < 0 then -i else i)) H
theorem ev_abs {i : Int} (ha : Ev ta σ H (.int i)) : Ev (tCB rAbs (tCons ta tNil)) σ H (.int (i.natAbs : Int)) := by
  refine ev_cb (ea_cons ha ea_nil) fun H1 e1 Q q => ⟨i, rfl, ?_⟩
  have e : (if i < 0 then -i else i) = (i.natAbs : Int) := by
    split <;> omega
  rw [e]
  exact q _ (Ex.refl _)
/-- a new tuple, whatever is behind -/
def RetU (xs : List V) (H : Hp) (Q : VK) : Prop := ∀ p H2, H p = none → Ex H H2 → H2 p = some (.tup xs) → Q (.ref p) H2
theorem RetU.go {xs : List V} {Q : VK} (k : RetU xs H Q) (e : Ex H H') {p : Addr} {H2 : Hp} (hp : H' p = none) (e2 : Ex H' H2) (h : H2 p = some (.tup xs)) : Q (.ref p) H2 := k p H2 (fresh_back e hp) (e.trans e2) h
theorem RetU.mono {xs : List V} {Q : VK} (k : RetU xs H Q) (e : Ex H H') : RetU xs H' Q := fun p H2 hp e2 h => k.go e hp e2 h
theorem RetV.mono {Q : VK} (k : RetV v H Q) (e : Ex H H') : RetV v H' Q := fun H2 e2 => k H2 (e.trans e2)
/-- f(..) that gives a new tuple -/
def SpU (sp : Sp) (vs : List V) (H : Hp) (xs : List V) : Prop := ∀ H1, Ex H H1 → ∀ Q : VK, RetU xs H1 Q → ∀ E : XK, sp vs H1 Q E
theorem eu_call {sp : Sp} {dvs vs xs : List V} {E : XK} {ta : TA} (h : EvA ta σ H vs) (hs : SpU sp (vs ++ dvs) H xs) : EvU (tCall sp dvs E ta) σ H xs := by
  intro H1 e1 Q q
  refine h H1 e1 _ fun H2 e2 => ?_
  refine hs H2 (e1.trans e2) _ (fun p H3 hp e3 hx => ?_) E
  exact q p H3 (fresh_back e2 hp) (e2.trans e3) hx
/-- the first argument is a new tuple -/
def EvA1 (ta : TA) (σ : L2.St) (H : Hp) (P : List V → Hp → Prop) : Prop := ∀ H1, Ex H H1 → ∀ Q : List V → Hp → Prop, (∀ vs H2, Ex H1 H2 → P vs H2 → Q vs H2) → ta σ H1 Q
/-- an if that leads to one way -/
theorem s_ifT {t : TT} {tu tw : TS} (h : EvT t σ H true) (h1 : ∀ H1, Ex H H1 → tu D σ H1) : tIfS t tu tw D σ H :=
  s_if h (fun _ => h1) (fun z => Bool.noConfusion z)
theorem s_ifF {t : TT} {tu tw : TS} (h : EvT t σ H false) (h2 : ∀ H1, Ex H H1 → tw D σ H1) : tIfS t tu tw D σ H :=
  s_if h (fun z => Bool.noConfusion z) (fun _ => h2)
theorem q_ifF {t : TT} {tu tz : TS} (h : EvT t σ H false) (h2 : ∀ H1, Ex H H1 → tz D σ H1) : tSeq (tIfS t tu tNext) tz D σ H :=
  q_when h (fun z => Bool.noConfusion z) (fun _ => h2)
/-- two names from a tuple of two -/
theorem q_unp {tz : TS} {i j : Nat} {p : Addr} {a b : V} (h : Ev te σ H (.ref p)) (hp : SqT K H p [a, b]) (k : ∀ H1, Ex H H1 → tz D ((σ.set i (some a)).set j (some b)) H1) :
    tSeq (tAsg te (gTup K 2 (gCons (gName i) (gCons (gName j) gNil)))) tz D σ H := by
  refine h H (Ex.refl _) _ fun H1 e1 => ?_
  exact ⟨p, [a, b], rfl, ex_t e1 hp, rfl, a, [b], rfl, b, [], rfl, rfl, k H1 e1⟩
/-- .. from a new tuple -/
theorem q_unpU {tz : TS} {i j : Nat} {a b : V} (h : EvU te σ H [a, b]) (k : ∀ H1, Ex H H1 → tz D ((σ.set i (some a)).set j (some b)) H1) :
    tSeq (tAsg te (gTup K 2 (gCons (gName i) (gCons (gName j) gNil)))) tz D σ H := by
  refine h H (Ex.refl _) _ fun p H1 _ e1 hp => ?_
  exact ⟨p, [a, b], rfl, st_of hp, rfl, a, [b], rfl, b, [], rfl, rfl, k H1 e1⟩
end
end K1
namespace K1
open PySem PySem.Spec PyProof.Rows L2 Evl
/-! ### NotUsable -/
/-- what the written part says of NotUsable (at C, its __init__ at fI) and of the classes above and beside it -/
structure NuC (K : PySem.W.Frag) (mg : Str → Option Value) (C fI cW cL cP : Addr) : Prop where
  oex : OexC K C
  iC : PySem.W.findIn K (.ref C) "__init__" = some (some (.ref fI))
  tI : PySem.W.typeIn K (.ref fI) = some (.type "function")
  no_word : PySem.W.findIn K (.ref C) "word" = some none
  no_at : PySem.W.findIn K (.ref C) "at" = some none
  xf : XfC K C
  ha : PySem.W.findIn K (.ref C) "__class__" = some (some (.builtin "object.__class__"))
  hn : PySem.W.specialIn K (.builtin "object.__class__") "__get__" = some (some (.builtin "getset_descriptor.__get__"))
  ht : PySem.W.takesIn K (.builtin "object.__class__") = some true
  hm : PySem.W.mroIn K C (.type "object") = some true
  te : PySem.W.exmOne K (.ref C) (.ref C) = some true
  gNotUsable : mg "NotUsable" = some (.ref C)
  gWebError : mg "WebError" = some (.ref cW)
  gLedError : mg "LedError" = some (.ref cL)
  gPaperError : mg "PaperError" = some (.ref cP)
  kW : PySem.W.kitOne K (.ref C) (.ref cW) = some true
  kL : PySem.W.kitOne K (.ref C) (.ref cL) = some true
  kV : PySem.W.kitOne K (.ref C) (.type "ValueError") = some true
  kP : PySem.W.kitOne K (.ref C) (.ref cP) = some false
def nuF (w n : V) : List (Str × V) := [("at", n), ("word", w)]
/-- a NotUsable of this word leaves, what was tracked stands -/
def NU (C : Addr) (word : Str) (H : Hp) (E : XK) : Prop := ∀ d H2, Ex H H2 → H2 d = some (.xd (nuF (.str word) (.int (-1)))) → E (.ref C) (some d) H2
theorem NU.mono {C : Addr} {word : Str} {H H' : Hp} {E : XK} (h : NU C word H E) (e : Ex H H') : NU C word H' E := fun d H2 e2 hd => h d H2 (e.trans e2) hd
/-! ### C(e, ..): the exception that is made has no context -/
section
variable {X : Cx} {e : Expr} {es : List Expr} {ta : TA} {p pos : Pos}
theorem ctxN_new {C d t0 : Addr} : PXN.CtxN ({ cls := .ref C, dict := some d, data := .fields #[.ref t0, .none, .none, .none, .bool false, .none] } : Obj) := fun vs h => by
  have e := (Data.fields.inj h).symm
  subst e
  rfl
theorem pmkN {CX : CXT} {x : Str} {C fI : Addr} {k : Nat} {fd : FuncData} {ps : List Str} {sp : Sp} (T : OexC X.K C) (iC : PySem.W.findIn X.K (.ref C) "__init__" = some (some (.ref fI))) (tI : PySem.W.typeIn X.K (.ref fI) = some (.type "function"))
    (F1 : FnOk X.prog X.w X.K X.mg X.base CX k fI fd ps sp) (hr : Room (k + 1) X.A) (hb : Binds X.K fd ps []) (hx : Passes CX X (fun _ _ _ => False)) (hg : Gl X x) (hm : X.mg x = some (.ref C)) (ha : PA X (e :: es) ta)
    (hdb : (x == ("__debug__" : Str)) = false := by decide) (he : starEach (e :: es) X.env = (false, eval e X.env) :: starEach es X.env := by rfl) (hpl : (backTo pos (starEach es X.env)).any (·.1) = false := by rfl) :
    L2N.PMk X (.Call (.Name x p) (e :: es) [] pos) (tMkO C sp [] ta) := by
  intro pins s σ H Q I h
  obtain ⟨nm, q, N, bs, bm, sn, sub, ab, col, dd, k0, k1, k2, k3, k5, hC, hbm⟩ := T.cls
  refine wpAny_Call_Name_kw (ld_glob I hg hm ?_ hdb)
  refine PySem.W.callWith_K (h₀ := X.base) I.ok.mod.kin T.kC (thn (ha.run pos pins s σ H _ I h) fun us s1 hh => ?_) he hpl
  obtain ⟨vs, H1, I1, r1, hz, q1⟩ := hh
  refine ⟨I1.kIn, ?_⟩
  show wpAny _ _ (call (.ref C) us) _ _ _
  obtain ⟨hp, g, dr, tk, os⟩ := s1
  have hsz : hp.objs.size ≤ hp.objs.size + 1 := Nat.le_succ _
  have hfree : H1 (hp.objs.size + 1) = none := I1.hok.fresh hsz
  have hq := q1 (hp.objs.size + 1) hfree
  have keeps : ∀ b o, hp.get? b = some o → ((hp.push (PySem.W.kdv_tup us)).push (PySem.HandSPX.excO C hp.objs.size)).get? b = some o := fun b o e => Heap.get?_push_of_some _ (Heap.get?_push_of_some _ e)
  have there : ((hp.push (PySem.W.kdv_tup us)).push (PySem.HandSPX.excO C hp.objs.size)).get? (hp.objs.size + 1) = some (PySem.HandSPX.excO C hp.objs.size) := by heap_get
  have I2 : Inv X pins σ (upd H1 (hp.objs.size + 1) (exo (hp.objs.size + 1) C none)) ⟨(hp.push (PySem.W.kdv_tup us)).push (PySem.HandSPX.excO C hp.objs.size), g, dr, tk, os⟩ :=
    I1.laid (t' := tk) (a := hp.objs.size + 1) (o := exo (hp.objs.size + 1) C none) (h' := (hp.push (PySem.W.kdv_tup us)).push (PySem.HandSPX.excO C hp.objs.size)) keeps hsz (exo_ok there)
  have r2 : Vals (V.ref (hp.objs.size + 1) :: (vs ++ [])) (Value.ref (hp.objs.size + 1) :: (us ++ [])) := .cons rfl (r1.append .nil)
  have hl : (Value.ref (hp.objs.size + 1) :: us ++ []).length = ps.length := by
    have e := r2.length
    rw [F1.len _ _ _ _ hq] at e
    exact e.symm
  have hus : us.length ≤ sizeLine := by
    rw [← Paired.length r1, sizeLine_eq]
    omega
  have hbb := hb _ (Value.ref (hp.objs.size + 1) :: us) I2.kIn hl
  rw [List.cons_append] at hbb
  refine wpAny_call (PySem.HandSPX.call_own F.excBase_ValueError (fun Y => PySem.HandSPX.refsVE_contains Y bm hbm) (I1.kIn _ _ hC) (PySem.W.looks_findIn I1.kIn iC) (fun self => PySem.W.bind_fn I1.kIn self tI) hus
    (codeAny_mono (F1.run _ X.stack _ _ ⟨Value.ref (hp.objs.size + 1) :: us, []⟩ (Value.ref (hp.objs.size + 1) :: (us ++ [])) _ _ (fun _ _ _ => False) (hr.make C us []) (I2.env0.make C us []) hbb r2 hq) fun r s' hq' => ?_))
  cases r with
  | error er => exact hx pins σ _ _ er s' I2 hq'
  | ok fl =>
    cases fl with
    | ret u =>
      obtain ⟨v, H2, os2, bare2, un2, hok2, rv, ev, d, fs, ea, ed, hd1, q2⟩ := hq'
      subst ev
      obtain ⟨h2, g2, d2, t2, os'⟩ := s'
      obtain ⟨t0, G0, J, kG, ge, hoe, na⟩ := mk_end0 (d2 := d2) (t2 := t2) I1 hsz keeps un2 hok2 os2 bare2 ea ed hd1
      exact ⟨rv, hp.objs.size + 1, _, _, ⟨G0, g2, d2, t2, os'⟩, _, .ref C, some d, rfl, J, kG, ge, hoe, ⟨rfl, rfl, ctxN_new⟩, rfl, rfl, na, rfl, bare2, raises_own T.exC T.tyC, q2⟩
    | next => exact False.elim hq'
    | brk => exact False.elim hq'
    | cont => exact False.elim hq'
end
/-! ### __init__ -/
section
variable {P : Program} {w : World} {K : PySem.W.Frag} {mg : Str → Option Value} {base : Heap} {C fI cW cL cP : Addr}
/-- what __init__ leaves: the two fields, the elder last -/
def spInit (C : Addr) : Sp := fun vs H Q _ => ∃ (a : Addr) (x n : V), vs = [.ref a, x, n] ∧ H a = some (exo a C none) ∧
  ∀ dx, H dx = none → dx ≠ a → Q .non (upd (upd (upd H dx (exd dx [("word", x)])) a (exo a C (some dx))) dx (exd dx (nuF x n)))
theorem ok_init {fd : FuncData} (N : NuC K mg C fI cW cL cP) (F : Fun K "__init__" "NotUsable.__init__" s_init fI fd) : FnOk P w K mg base CX0 1 fI fd ["self", "word", "at"] (spInit C) := by
  refine F.ok sc_init (fun vs H Q E h => ?_) (fun cdv A outer s H vs Q E hr h => ?_)
  · obtain ⟨a, x, n, rfl, _⟩ := h
    rfl
  · obtain ⟨a, x, n, rfl, ha, q⟩ := h
    refine ⟨_, pss_cons (ps_ost (pv 0) (pv 1)) (pss_one (ps_ost (pv 0) (pv 2))), ?_⟩
    refine ⟨_, rfl, _, rfl, a, C, rfl, N.oex, N.no_word, .inl ⟨ha, fun dx hdx hne => ?_⟩⟩
    refine ⟨_, rfl, _, rfl, a, C, rfl, N.oex, N.no_at, .inr ⟨dx, [("word", x)], upd_same, ?_, (by show 1 ≤ 900; decide), q dx hdx hne⟩⟩
    rw [upd_ne hne, upd_same]
end
end K1
namespace K1
open PySem PySem.Spec PyProof.Rows L2 Evl
section
variable {P : Program} {w : World} {K : PySem.W.Frag} {mg : Str → Option Value} {base : Heap} {C fI cW cL cP : Addr}
/-! ### need -/
def spNeed (C : Addr) : Sp := fun vs H Q E => ∃ (b : Bool) (name : Str), vs = [.bl b, .str name] ∧ (b = true → RetV .non H Q) ∧ (b = false → NU C name H E)
theorem ok_need {fdI : FuncData} (D : Dfn K mg "need" s_need) (N : NuC K mg C fI cW cL cP) (FI : Fun K "__init__" "NotUsable.__init__" s_init fI fdI) : Cal P w K mg base (L2N.CX P w) 3 "need" ["holds", "name"] (spNeed C) := by
  have bI : Binds K fdI ["self", "word", "at"] [] := FI.binds fun _ _ _ _ _ _ us hl => match us, hl with | [_, _, _], _ => rfl
  refine mkCal D (fun _ _ _ _ _ _ us hl => match us, hl with | [_, _], _ => rfl) fun f fd F => ?_
  refine okN F sc_need (fun vs H Q E h => ?_) (fun cdv A outer s H vs Q E hr h => ?_)
  · obtain ⟨b, name, rfl, _⟩ := h
    rfl
  · obtain ⟨b, name, rfl, h1, h2⟩ := h
    refine ⟨_, pss_one (ps_if (pt_not (pt_val (pv 0))) (pss_one (L2N.ps_raise rfl (L2N.takes_of rfl rfl rfl rfl) (pmkN N.oex N.iC N.tI (ok_init N FI) hr bI pass0 (by rfl) N.gNotUsable (pa_cons (pv 1) (pa_cons (pe_un un_neg pe_int) pa_nil))))) pss_nil), ?_⟩
    refine ⟨_, rfl, b, rfl, ?_⟩
    cases b with
    | true => exact iteF (h1 rfl H (Ex.refl H))
    | false =>
      refine iteT ⟨_, rfl, 1, rfl, by show 2 ≤ 1000; decide, fun a ha => ?_⟩
      refine ⟨a, .str name, .int (-1), rfl, upd_same, fun dx hdx hne => ?_⟩
      have hd0 : H dx = none := by rw [upd_ne hne] at hdx; exact hdx
      refine ⟨rfl, dx, nuF (.str name) (.int (-1)), ?_, upd_same, hd0, ?_⟩
      · rw [upd_ne (Ne.symm hne), upd_same]
      · refine h2 rfl dx _ (fun b o hb => ?_) upd_same
        have n1 : b ≠ dx := ne_of_none hb hd0
        have n2 : b ≠ a := ne_of_none hb ha
        rw [upd_ne n1, del_ne n2, upd_ne n1, upd_ne n2, upd_ne n1, upd_ne n2]
        exact hb
/-! ### is_integer, is_number, common_divisor -/
def spIsInteger (K : PySem.W.Frag) : Sp := fun vs H Q _ => ∃ (v : V) (d : PyData), vs = [v] ∧ Dp K H v d ∧ RetV (.bl (is_int d && !is_bool d)) H Q
theorem ev_isint {σ : L2.St} {H : Hp} {te : TE} {v : V} {d : PyData} (h : Ev te σ H v) (hd : Dp K H v d) :
    Ev (tAndV (tCB (rIsi K) (tCons te (tCons (tC (.ty "int")) tNil))) (tNotV (tCB (rIsi K) (tCons te (tCons (tC (.ty "bool")) tNil))))) σ H (.bl (is_int d && !is_bool d)) :=
  ev_andV (ev_isi h hd (kit_int d)) fun _ => ev_notV (ev_isi h hd (kit_bool d))
theorem ok_is_integer (B : Blt mg) (D : Dfn K mg "is_integer" s_is_integer) : Cal P w K mg base CX0 1 "is_integer" ["thing"] (spIsInteger K) := by
  refine mkCal D (fun _ _ _ _ _ _ us hl => match us, hl with | [_], _ => rfl) fun f fd F => ?_
  refine F.ok sc_is_integer (fun vs H Q E h => ?_) (fun cdv A outer s H vs Q E hr h => ?_)
  · obtain ⟨v, d, rfl, _⟩ := h
    rfl
  · obtain ⟨v, d, rfl, hd, q⟩ := h
    refine ⟨_, (pss_one (ps_ret (pe_and (pe_callB call_isi (by rfl) B.b_isinstance bt_isinstance (pa_cons (pv 0) (pa_cons (pe_bltn (v := .ty "int") (by rfl) B.b_int bt_int rfl) pa_nil))) (pe_one (pe_not (pe_callB call_isi (by rfl) B.b_isinstance bt_isinstance (pa_cons (pv 0) (pa_cons (pe_bltn (v := .ty "bool") (by rfl) B.b_bool bt_bool rfl) pa_nil)))))))), ?_⟩
    exact s_ret (ev_isint (ev_var rfl) hd) q
theorem ev_isint2 {σ : L2.St} {H : Hp} {te : TE} {v : V} {d : PyData} {E : XK} (h : Ev te σ H v) (hd : Dp K H v d) : Ev (tCall (spIsInteger K) [] E (tCons te tNil)) σ H (.bl (is_int d && !is_bool d)) :=
  ev_call (ea_cons h ea_nil) fun H1 e1 Q q E' => ⟨v, d, rfl, dp_mono e1 _ _ hd, q⟩
/-- a number -/
def geZ : PyData → Bool
  | .int i => decide (0 ≤ i)
  | _ => false
/-- above nought -/
def geZ1 : PyData → Bool
  | .int i => decide (1 ≤ i)
  | _ => false
def isNum (d : PyData) : Bool := (is_int d && !is_bool d) && geZ d
theorem isInt_cases : ∀ {d : PyData}, (is_int d && !is_bool d) = true → ∃ i, d = .int i
  | .int i, _ => ⟨i, rfl⟩
  | .bool _, h => by cases h
  | .none, h => by cases h
  | .str _, h => by cases h
  | .list _, h => by cases h
  | .tuple _, h => by cases h
  | .dict _, h => by cases h
def spIsNumber (K : PySem.W.Frag) : Sp := fun vs H Q _ => ∃ (v : V) (d : PyData), vs = [v] ∧ Dp K H v d ∧ RetV (.bl (isNum d)) H Q
theorem ok_is_number (D : Dfn K mg "is_number" s_is_number) (G_is_integer : Cal P w K mg base CX0 1 "is_integer" ["thing"] (spIsInteger K)) : Cal P w K mg base CX0 2 "is_number" ["thing"] (spIsNumber K) := by
  refine mkCal D (fun _ _ _ _ _ _ us hl => match us, hl with | [_], _ => rfl) fun f fd F => ?_
  refine F.ok sc_is_number (fun vs H Q E h => ?_) (fun cdv A outer s H vs Q E hr h => ?_)
  · obtain ⟨v, d, rfl, _⟩ := h
    rfl
  · obtain ⟨v, d, rfl, hd, q⟩ := h
    refine ⟨_, (pss_one (ps_ret (pe_and (pcal G_is_integer hr pass0 (pa_cons (pv 0) pa_nil)) (pe_one (pe_cmpR op_ge (pv 0) pe_int (nomark _)))))), ?_⟩
    refine s_ret (ev_andV (b := geZ d) (ev_isint2 (ev_var rfl) hd) fun z => ?_) q
    obtain ⟨i, rfl⟩ := isInt_cases z
    cases hd
    exact ev_op (ev_var rfl) ev_c rv_I0
theorem ev_isnum {σ : L2.St} {H : Hp} {te : TE} {v : V} {d : PyData} {E : XK} (h : Ev te σ H v) (hd : Dp K H v d) : Ev (tCall (spIsNumber K) [] E (tCons te tNil)) σ H (.bl (isNum d)) :=
  ev_call (ea_cons h ea_nil) fun H1 e1 Q q E' => ⟨v, d, rfl, dp_mono e1 _ _ hd, q⟩
/-! ### common_divisor -/
theorem s_par {σ : L2.St} {H : Hp} {D : Ends} {ta : TA} {i j : Nat} {v x : V} (h : EvA ta σ H [v, x]) (k : ∀ H1, Ex H H1 → D.nx ((σ.set i (some v)).set j (some x)) H1) : tPar i j ta D σ H :=
  h H (Ex.refl H) _ fun H1 e1 => ⟨v, x, rfl, k H1 e1⟩
def spGcd : Sp := fun vs H Q _ => ∃ (a b : Nat), vs = [.int (a : Int), .int (b : Int)] ∧ RetV (.int (Nat.gcd a b : Nat)) H Q
theorem ok_common_divisor (D : Dfn K mg "common_divisor" s_common_divisor) : Cal P w K mg base CX0 1 "common_divisor" ["one", "other"] spGcd := by
  refine mkCal D (fun _ _ _ _ _ _ us hl => match us, hl with | [_, _], _ => rfl) fun f fd F => ?_
  refine F.ok sc_common_divisor (fun vs H Q E h => ?_) (fun cdv A outer s H vs Q E hr h => ?_)
  · obtain ⟨a, b, rfl, _⟩ := h
    rfl
  · obtain ⟨a, b, rfl, q⟩ := h
    refine ⟨_, (pss_cons (ps_while PassesOwn.never (pt_cmpR op_gt (pv 1) pe_int (nomark _)) (pss_one (ps_par (i := 0) (j := 1) rfl sc_common_divisor.nd rfl rfl (by decide) rfl rfl (pa_cons (pv 1) (pa_cons (pe_op op_mod (pv 0) (pv 1)) pa_nil)) (by rfl))))
      (pss_one (ps_ret (pv 0)))), ?_⟩
    refine q_while (fun m σ' H' => ∃ x : Nat, σ' = [some (.int (x : Int)), some (.int (m : Int))] ∧ Nat.gcd x m = Nat.gcd a b ∧ Ex H H') b ⟨a, rfl, rfl, Ex.refl H⟩ fun m σ' H' hW => ?_
    obtain ⟨x, rfl, hg, e⟩ := hW
    refine ⟨decide ((0 : Int) < (m : Int)), et_test (ev_op (ev_var rfl) ev_c rv_I0), fun hb H1 e1 => ?_, fun hb H1 e1 => ?_⟩
    · have hm : 0 < m := by have := of_decide_eq_true hb; omega
      refine ⟨fun σ2 H2 => σ2 = [some (.int (m : Int)), some (.int ((x % m : Nat) : Int))] ∧ Ex H H2, fun σ2 H2 h2 => ?_, ?_⟩
      · obtain ⟨rfl, e2⟩ := h2
        refine ⟨x % m, Nat.mod_lt _ hm, m, rfl, ?_, e2⟩
        rw [← hg, Nat.gcd_comm x m, Nat.gcd_rec m x, Nat.gcd_comm]
      · refine s_par (ea_cons (ev_var rfl) (ea_cons (ev_op (ev_var rfl) (ev_var rfl) (rv_I (by omega))) ea_nil)) fun H2 e2 => ⟨?_, e.trans (e1.trans e2)⟩
        rw [Int.natCast_emod]
        rfl
    · have hm : m = 0 := by
        have z := of_decide_eq_false hb
        omega
      subst hm
      rw [Nat.gcd_zero_right] at hg
      subst hg
      exact s_ret (ev_var rfl) fun H2 e2 => q H2 (e.trans (e1.trans e2))
theorem ev_gcd {σ : L2.St} {H : Hp} {ta tb : TE} {a b : Nat} {E : XK} (ha : Ev ta σ H (.int (a : Int))) (hb : Ev tb σ H (.int (b : Int))) : Ev (tCall spGcd [] E (tCons ta (tCons tb tNil))) σ H (.int (Nat.gcd a b : Nat)) :=
  ev_call (ea_cons ha (ea_cons hb ea_nil)) fun H1 e1 Q q E' => ⟨a, b, rfl, q⟩
/-! ### is_quotient -/
/-- a quotient -/
def isQ : PyData → Bool
  | .tuple [.int a, .int b] => decide (1 ≤ b) && decide (Nat.gcd a.natAbs b.natAbs = 1)
  | _ => false
theorem isQ_cases : ∀ {d : PyData}, isQ d = true → ∃ a b : Int, d = .tuple [.int a, .int b] ∧ 1 ≤ b ∧ Nat.gcd a.natAbs b.natAbs = 1 := by
  intro d h
  unfold isQ at h
  split at h
  · rename_i a b
    obtain ⟨h1, h2⟩ := Bool.and_eq_true_iff.mp h
    exact ⟨a, b, rfl, of_decide_eq_true h1, of_decide_eq_true h2⟩
  · cases h
theorem isQ_of {a b : Int} (h1 : 1 ≤ b) (h2 : Nat.gcd a.natAbs b.natAbs = 1) : isQ (.tuple [.int a, .int b]) = true := by
  show (decide (1 ≤ b) && decide (Nat.gcd a.natAbs b.natAbs = 1)) = true
  rw [decide_eq_true h1, decide_eq_true h2]
  rfl
theorem dp_tup_inv {H : Hp} {v : V} {ds : List PyData} (h : Dp K H v (.tuple ds)) : ∃ (p : Addr) (xs : List V), v = .ref p ∧ SqT K H p xs ∧ DpAll K H xs ds := by
  cases h with
  | tup hs ha => exact ⟨_, _, rfl, hs, ha⟩
theorem is_tuple_cases : ∀ {d : PyData}, is_tuple d = true → ∃ ds, d = .tuple ds
  | .tuple ds, _ => ⟨ds, rfl⟩
  | .int _, h => by cases h
  | .bool _, h => by cases h
  | .none, h => by cases h
  | .str _, h => by cases h
  | .list _, h => by cases h
  | .dict _, h => by cases h
/-- not isinstance(x, tuple) or .. -/
theorem et_noTup {σ : L2.St} {H : Hp} {te : TE} {v : V} {d : PyData} {u : TT} (h : Ev te σ H v) (hd : Dp K H v d) (hn : is_tuple d = false) :
    EvT (tOr (tNot (tB (tCB (rIsi K) (tCons te (tCons (tC (.ty "tuple")) tNil))))) u) σ H true := by
  refine et_is (et_or (b := true) (et_not (et_B (ev_isi h hd (kit_tuple d)))) fun z => ?_) (by rw [hn]; rfl)
  rw [hn] at z
  cases z
theorem et_isTup {σ : L2.St} {H : Hp} {te : TE} {v : V} {ds : List PyData} {u : TT} {b : Bool} (h : Ev te σ H v) (hd : Dp K H v (.tuple ds)) (hu : EvT u σ H b) :
    EvT (tOr (tNot (tB (tCB (rIsi K) (tCons te (tCons (tC (.ty "tuple")) tNil))))) u) σ H b :=
  et_is (et_or (et_not (et_B (ev_isi h hd (kit_tuple _)))) fun _ => hu) (by cases b <;> rfl)
def spIsQ (K : PySem.W.Frag) : Sp := fun vs H Q _ => ∃ (v : V) (d : PyData), vs = [v] ∧ Dp K H v d ∧ RetV (.bl (isQ d)) H Q
theorem ok_is_quotient (B : Blt mg) (D : Dfn K mg "is_quotient" s_is_quotient) (G_is_integer : Cal P w K mg base CX0 1 "is_integer" ["thing"] (spIsInteger K)) (G_common_divisor : Cal P w K mg base CX0 1 "common_divisor" ["one", "other"] spGcd) :
    Cal P w K mg base CX0 2 "is_quotient" ["thing"] (spIsQ K) := by
  refine mkCal D (fun _ _ _ _ _ _ us hl => match us, hl with | [_], _ => rfl) fun f fd F => ?_
  refine F.ok sc_is_quotient (fun vs H Q E h => ?_) (fun cdv A outer s H vs Q E hr h => ?_)
  · obtain ⟨v, d, rfl, _⟩ := h
    rfl
  · obtain ⟨v, d, rfl, hd, q⟩ := h
    refine ⟨_, ((pss_cons (ps_if (PW.pt (pw_or (pt_not (pt_val (pe_callB call_isi (by rfl) B.b_isinstance bt_isinstance (pa_cons (pv 0) (pa_cons (pe_bltn (v := .ty "tuple") (by rfl) B.b_tuple bt_tuple rfl) pa_nil))))) (pw_or1 (pt_cmpR op_ne (pe_callB call_len_seq (by rfl) B.b_len bt_len (pa_cons (pv 0) pa_nil)) pe_int (nomark _))))) (pss_one (ps_ret pe_bl)) pss_nil)
      (pss_cons (ps_asg (pv 0) (pg_tup rfl (pgs_cons (pg_name (i := 1) sc_is_quotient.nd rfl (.inl rfl)) (pgs_cons (pg_name (i := 2) sc_is_quotient.nd rfl (.inl rfl)) pgs_nil))))
      (pss_cons (ps_if (PW.pt (pw_or (pt_not (pt_val (pcal G_is_integer hr pass0 (pa_cons (pv 1) pa_nil)))) (pw_or (pt_not (pt_val (pcal G_is_integer hr pass0 (pa_cons (pv 2) pa_nil)))) (pw_or1 (pt_cmpR op_lt (pv 2) pe_int (nomark _)))))) (pss_one (ps_ret pe_bl)) pss_nil)
      (pss_one (ps_ret (pe_cmpR op_eq (pcal G_common_divisor hr pass0 (pa_cons (pe_callB call_abs (by rfl) B.b_abs bt_abs (pa_cons (pv 1) pa_nil)) (pa_cons (pv 2) pa_nil))) pe_int (nomark _)))))))), ?_⟩
    cases ht : is_tuple d with
    | false =>
      have hf : isQ d = false := by
        cases hq : isQ d with
        | false => rfl
        | true =>
          obtain ⟨a, b, rfl, _⟩ := isQ_cases hq
          cases ht
      rw [hf] at q
      exact q_when (et_noTup (ev_var rfl) hd ht) (fun _ H1 e1 => s_ret ev_c fun H2 e2 => q H2 (e1.trans e2)) fun z => by cases z
    | true =>
      obtain ⟨ds, rfl⟩ := is_tuple_cases ht
      obtain ⟨p, xs, rfl, hs, ha⟩ := dp_tup_inv hd
      have hl := dpAll_len ha
      refine q_when (et_isTup (ev_var rfl) hd (et_test (ev_op (ev_lenT (ev_var rfl) hs) ev_c (rv_ne rfl)))) (fun z H1 e1 => ?_) fun z H1 e1 => ?_
      · refine s_ret ev_c fun H2 e2 => ?_
        have hf : isQ (.tuple ds) = false := by
          cases hq : isQ (.tuple ds) with
          | false => rfl
          | true =>
            obtain ⟨a, b, e, _⟩ := isQ_cases hq
            injection e with e
            subst e
            rw [hl] at z
            cases z
        rw [hf] at q
        exact q H2 (e1.trans e2)
      · have hl2 : ds.length = 2 := by
          have z3 : decide (V.int (xs.length : Int) = V.int 2) = true := by
            cases hdec : decide (V.int (xs.length : Int) = V.int 2) with
            | true => rfl
            | false =>
              rw [hdec] at z
              cases z
          have z4 := V.int.inj (of_decide_eq_true z3)
          omega
        obtain ⟨d1, d2, rfl⟩ : ∃ d1 d2, ds = [d1, d2] := by
          match ds, hl2 with
          | [d1, d2], _ => exact ⟨d1, d2, rfl⟩
        cases ha with
        | cons h1 ha =>
          rename_i x xs'
          cases ha with
          | cons h2 ha =>
            rename_i y ys'
            cases ha
            refine q_unp (ev_var rfl) (ex_t e1 hs) fun H2 e2 => ?_
            have e12 := e1.trans e2
            have h1' := dp_mono e12 _ _ h1
            have h2' := dp_mono e12 _ _ h2
            refine q_when (et_or (et_not (et_B (ev_isint2 (ev_var rfl) h1'))) fun z1 => et_or (b := !(geZ1 d2)) (et_not (et_B (ev_isint2 (ev_var rfl) h2'))) fun z2 => ?_) (fun z H3 e3 => ?_) fun z H3 e3 => ?_
            · have z3 : (is_int d2 && !is_bool d2) = true := by
                cases hz : (is_int d2 && !is_bool d2) with
                | true => rfl
                | false =>
                  rw [hz] at z2
                  cases z2
              obtain ⟨b, rfl⟩ := isInt_cases z3
              cases h2
              refine et_is (et_test (ev_op (ev_var rfl) ev_c rv_I0)) ?_
              show decide (b < 1) = !decide (1 ≤ b)
              by_cases hb : 1 ≤ b
              · rw [decide_eq_true hb, decide_eq_false (by omega)]
                rfl
              · rw [decide_eq_false hb, decide_eq_true (by omega)]
                rfl
            · refine s_ret ev_c fun H4 e4 => ?_
              have hf : isQ (.tuple [d1, d2]) = false := by
                cases hq : isQ (.tuple [d1, d2]) with
                | false => rfl
                | true =>
                  obtain ⟨a, b, e, hb, _⟩ := isQ_cases hq
                  injection e with e
                  injection e with ea e
                  injection e with eb _
                  subst ea
                  subst eb
                  have z' : (!(true && !false) || (!(true && !false) || !(decide (1 ≤ b)))) = true := z
                  rw [decide_eq_true hb] at z'
                  cases z'
              rw [hf] at q
              exact q H4 (e12.trans (e3.trans e4))
            · obtain ⟨z1, z2⟩ := Bool.or_eq_false_iff.mp z
              obtain ⟨z2, z3⟩ := Bool.or_eq_false_iff.mp z2
              obtain ⟨a, rfl⟩ := isInt_cases (show (is_int d1 && !is_bool d1) = true by simpa using z1)
              obtain ⟨b, rfl⟩ := isInt_cases (show (is_int d2 && !is_bool d2) = true by simpa using z2)
              cases h1
              cases h2
              have hb : 1 ≤ b := of_decide_eq_true (show decide (1 ≤ b) = true by simpa [geZ1] using z3)
              obtain ⟨n, rfl⟩ : ∃ n : Nat, b = (n : Int) := ⟨b.toNat, by omega⟩
              refine s_ret (ev_is (ev_op (ev_gcd (ev_abs (ev_var rfl)) (ev_var rfl)) ev_c (rv_eq rfl)) ?_) fun H4 e4 => q H4 (e12.trans (e3.trans e4))
              show V.bl (decide (V.int ((Nat.gcd a.natAbs n : Nat) : Int) = V.int 1)) = V.bl (decide (1 ≤ (n : Int)) && decide (Nat.gcd a.natAbs n = 1))
              rw [decide_eq_true hb, Bool.true_and]
              congr 1
              by_cases hg : Nat.gcd a.natAbs n = 1
              · exact (decide_eq_true (by rw [hg]; rfl)).trans (decide_eq_true hg).symm
              · exact (decide_eq_false fun e => hg (by have := V.int.inj e; omega)).trans (decide_eq_false hg).symm
theorem ev_isQ {σ : L2.St} {H : Hp} {te : TE} {v : V} {d : PyData} {E : XK} (h : Ev te σ H v) (hd : Dp K H v d) : Ev (tCall (spIsQ K) [] E (tCons te tNil)) σ H (.bl (isQ d)) :=
  ev_call (ea_cons h ea_nil) fun H1 e1 Q q E' => ⟨v, d, rfl, dp_mono e1 _ _ hd, q⟩
end
end K1
namespace K1
open PySem PySem.Spec PyProof.Rows L2 Evl
/-! ### enumerate(tuple) -/
section
theorem meets_enumT (l : Addr) (items : Array Value) (n : Nat) (dct : Option Addr) (sl : Array (Option Value)) :
    Meets (Builtin.«enumerate.__new__» ⟨[.type "enumerate", .ref l], []⟩) (fun _ R s => s.heap.get? l = some { cls := .type "tuple", dict := dct, data := .seq items n, slots := sl } ∧
      R (.ok (.ret (.ref (s.heap.push { cls := .type "tuple_iterator", data := .fields #[.ref l, .int 0 0] }).objs.size)))
        { s with heap := (s.heap.push { cls := .type "tuple_iterator", data := .fields #[.ref l, .int 0 0] }).push { cls := .type "enumerate", data := .fields #[.none, .bool false, .ref s.heap.objs.size, rawInt 0, .none, .none] } }) :=
  .of_wp fun prog w A R s h => by
    obtain ⟨hp, g, d, tk, os⟩ := s
    obtain ⟨hl, h⟩ := h
    have hsub := sub_enumerate
    have hT : Heap.IsTuple (Shared.heap ⟨hp, g, d, tk, os⟩) l items := ⟨_, hl, rfl, n, rfl⟩
    have q1 : ∀ {A' : Around} {E : Value → Shared → Prop} {Q : Value → Shared → Prop}, Q (.ref hp.objs.size) ⟨hp.push { cls := .type "tuple_iterator", data := .fields #[.ref l, .int 0 0] }, g, d, tk, os⟩ → wpAny (model prog w) A' (pyIter (.ref l)) Q E ⟨hp, g, d, tk, os⟩ :=
      fun q => wpAny_pyIter_tuple hT q
    wp_walk using AutoSeq1.wpAny_loadPart' hl, q1
    refine wpAny_stack_any fun st => wpAny_pure ?_
    split
    · rename_i c _ _ _ _ _
      cases (c == Value.type "enumerate")
      · wp_walk using AutoSeq1.wpAny_loadPart' hl, q1
        exact ⟨_, rfl, h⟩
      · wp_walk using AutoSeq1.wpAny_loadPart' hl, q1
        exact ⟨_, rfl, h⟩
    · wp_walk using AutoSeq1.wpAny_loadPart' hl, q1
      exact ⟨_, rfl, h⟩
theorem call_enumT {prog : Program} {w : World} {A : Around} {E : Value → Shared → Prop} {s : Shared} {l : Addr} {items : Array Value} {Q : Value → Shared → Prop} (hL : s.heap.IsTuple l items)
    (h : ∀ h', IsEnum h' (s.heap.objs.size + 1) s.heap.objs.size 0 .none → h'.IsTupleIter s.heap.objs.size l 0 → (∀ b o, s.heap.get? b = some o → h'.get? b = some o) → Q (.ref (s.heap.objs.size + 1)) { s with heap := h' }) :
    wpAny (model prog w) A (call (.type "enumerate") [.ref l]) Q E s := by
  obtain ⟨⟨c, dct, dt, sl⟩, hl, hc, n, hd⟩ := hL
  replace hc : c = .type "tuple" := hc
  replace hd : dt = .seq items n := hd
  subst hc hd
  refine callType_new F.called_enumerate (by decide) (F.typeCall_enumerate_1 _) (F.newCall_enumerate_1 _) (fun obj => F.args_object_init_2 obj _) F.entry_enumerate_new (meets_enumT l items n dct sl) ⟨hl, ?_⟩
  have hz : (s.heap.push { cls := .type "tuple_iterator", data := .fields #[.ref l, .int 0 0] }).objs.size = s.heap.objs.size + 1 := Heap.size_push ..
  show _ ∧ _
  rw [hz]
  have he : IsEnum ((s.heap.push { cls := .type "tuple_iterator", data := .fields #[.ref l, .int 0 0] }).push { cls := .type "enumerate", data := .fields #[.none, .bool false, .ref s.heap.objs.size, rawInt 0, .none, .none] }) (s.heap.objs.size + 1) s.heap.objs.size 0 .none := by
    have z := Heap.get?_push_size (s.heap.push { cls := .type "tuple_iterator", data := .fields #[.ref l, .int 0 0] }) (o := { cls := .type "enumerate", data := .fields #[.none, .bool false, .ref s.heap.objs.size, rawInt 0, .none, .none] }) rfl
    rw [hz] at z
    exact z
  exact ⟨⟨_, he, rfl⟩, h _ he ⟨_, Heap.get?_push_of_some _ (Heap.get?_push_size _ rfl), rfl, rfl⟩ fun b o x => Heap.get?_push_of_some _ (Heap.get?_push_of_some _ x)⟩
/-- the tuple at a, each item in a new pair behind its place -/
def IteT (K : PySem.W.Frag) (a : Addr) : It :=
  ⟨fun i H => ∃ (xs : List V) (x : V), SqT K H a xs ∧ xs[i]? = some x, fun i H v H' => ∃ T x, v = .ref T ∧ H T = none ∧ H' = upd H T (.tup [.int (i : Nat), x]) ∧ ∀ xs, SqT K H a xs → xs[i]? = some x, fun i H => ∃ xs : List V, SqT K H a xs ∧ xs.length = i⟩
theorem turn_enumT {P : Program} {w : World} {K : PySem.W.Frag} {elts : List Expr} {kk : Nat} {tpos : Pos} (a e it : Addr) :
    Turn P w K (.Tuple elts kk tpos) (IteT K a) [e, it] e (fun i h => (∃ old, IsEnum h e it ((i : Nat) : Int) old) ∧ h.IsTupleIter it a i ∧ e ≠ it ∧ a ≠ it ∧ a ≠ e) where
  mem := by simp
  obj := fun i h st b hb => by
    obtain ⟨⟨old, he⟩, ⟨o, ho, hc, hd⟩, _⟩ := st
    rcases List.mem_cons.mp hb with z | z
    · rw [z]
      exact ⟨_, he, fun v q => nomatch q⟩
    · rw [List.mem_singleton.mp z]
      exact ⟨o, ho, fun v q => by rw [hd] at q; cases q⟩
  keep := fun i h h' st k => by
    obtain ⟨⟨old, he⟩, hi, hne⟩ := st
    exact ⟨⟨old, k e (by simp) _ he⟩, hi.at fun o q => k it (by simp) o q, hne⟩
  item := by
    intro X hP hw hK hc i pins s σ H E I hf st hg
    subst hP hw hK
    obtain ⟨⟨old, he⟩, hit, hne, hai, hae⟩ := st
    obtain ⟨xs, x, hq, hx⟩ := hg
    obtain ⟨its, rv, p, hz⟩ := I.tuple hq
    obtain ⟨u, hu, ru⟩ := rv.get hx
    have hel : e < s.heap.objs.size := Heap.lt_size he
    have hil : it < s.heap.objs.size := by
      obtain ⟨_, q, _⟩ := hit
      exact Heap.lt_size q
    have hlt : i < its.toArray.size := by
      obtain ⟨z, _⟩ := List.getElem?_eq_some_iff.mp hu
      simpa using z
    have hnf : e ∉ [it, a] := fun z => by
      rcases List.mem_cons.mp z with z | z
      · exact hne z
      · exact hae (List.mem_singleton.mp z).symm
    refine wpAny_pyNext_enum_itemD (Draws.tuple (A := X.A.in1) (I.ok.hd hc) it a hai its.toArray) he ⟨hit, p⟩ hlt hne hnf fun x' h' tk hx' ho hit' hT hsz hk => ?_
    have ex : x' = u := by
      have z : its.toArray[i]? = some u := by simpa using hu
      exact Option.some.inj (hx'.symm.trans z)
    subst ex
    refine ⟨_, rfl, wpAny_letOwnedTupleGo_enum (s := { s with heap := h', toks := tk + 1 }) ho fun h'' he' sb => ?_⟩
    have hT2 : h''.get? s.heap.objs.size = some { cls := .type "tuple", data := .seq #[.int i tk, x'] } := (sb.2 _ (Nat.ne_of_gt hel)).trans hT
    have new : ObjOk X.prog X.w (upd H s.heap.objs.size (.tup [.int (i : Nat), x])) h'' s.heap.objs.size (.tup [.int (i : Nat), x]) :=
      ⟨by show 2 ≤ sizeLine; decide, [.int i tk, x'], .cons ⟨_, rfl⟩ (.cons ru .nil), ⟨_, hT2, rfl, _, rfl⟩⟩
    have I1 : Inv X pins σ (upd H s.heap.objs.size (.tup [.int (i : Nat), x])) { s with heap := h'', toks := tk + 1 } :=
      I.turnedNew (ch := [e, it]) (fun b ob hb q => (sb.2 b (fun z => hb (by simp [z]))).trans (hk b ob (fun z => hb (by simp [z])) (fun z => hb (by simp [z])) q)) hf (Nat.le_refl _) new
    refine ⟨.ref s.heap.objs.size, _, I1, rfl, ⟨_, x, rfl, I.hok.fresh (Nat.le_refl _), rfl, fun ys hy => by rw [I.tuple_inj hy hq]; exact hx⟩, ⟨⟨x', ?_⟩, hit'.1.at fun o q => (sb.2 it (Ne.symm hne)).trans q, hne, hai, hae⟩, fun b hb => ?_⟩
    · have e1 : ((i + 1 : Nat) : Int) = (i : Int) + 1 := by omega
      rw [e1]
      exact he'
    · have hb' : b < s.heap.objs.size := by
        rcases List.mem_cons.mp hb with z | z
        · rw [z]
          exact hel
        · rw [List.mem_singleton.mp z]
          exact hil
      rw [upd_ne (Nat.ne_of_lt hb')]
      exact (hf b hb).1
  done := by
    intro X hP hw hK hc i pins s σ H E I hf st hg
    subst hP hw hK
    obtain ⟨⟨old, he⟩, hit, hne, hai, hae⟩ := st
    obtain ⟨xs, hq, hx⟩ := hg
    obtain ⟨its, rv, p, hz⟩ := I.tuple hq
    obtain ⟨f0, f1, f2, f3, f4, f5⟩ := hf it (by simp)
    have hl := rv.length
    have hi : its.toArray.size = i := by
      rw [List.size_toArray, ← hl]
      exact hx
    exact wpAny_pyNext_enum_endD (Draws.tuple (A := X.A.in1) (I.ok.hd hc) it a hai its.toArray) he ⟨by rw [hi]; exact hit, p⟩ fun h' eb => ⟨rfl, I.turned (t' := s.toks) (fun b o hb q => eb b o hb q) f0 f1 f3 f4 f5⟩
  self := fun A i s Q E st h => by
    obtain ⟨⟨_, he⟩, _⟩ := st
    exact wpAny_pyIter_enum he h
def iEnumT (K : PySem.W.Frag) (ta : TA) : TI := fun σ H R => ta σ H fun vs H1 => ∃ a xs, vs = [.ref a] ∧ SqT K H1 a xs ∧ R (IteT K a) H1
theorem bt_enumerate : bootBuiltins "enumerate" = some (.type "enumerate") := by decide +kernel
theorem pi_enumT {X : Cx} {e : Expr} {ta : TA} {p pos tpos : Pos} {elts : List Expr} {kk : Nat} (hg : Gl X "enumerate") (hm : X.mg "enumerate" = none) (ha : PA X [e] ta) (hs : starEach [e] X.env = [(false, eval e X.env)] := by rfl) :
    PI X (.Tuple elts kk tpos) (.Call (.Name "enumerate" p) [e] [] pos) (iEnumT X.K ta) := by
  refine ⟨fun pins s σ H R I h => ?_⟩
  refine Call_ (ld_blt I hg hm bt_enumerate (PyProof.Rows.callWith_type1 (thn (ha.run pos pins s σ H _ I h) fun us s1 hh => ?_) hs rfl))
  obtain ⟨vs, H1, I1, r1, a, xs, rfl, hq, q⟩ := hh
  cases r1 with
  | cons r rr =>
    cases rr
    cases r
    obtain ⟨its, rv, p', hz⟩ := I1.tuple hq
    have hal : a < s1.heap.objs.size := by
      obtain ⟨o, ho, _⟩ := p'
      exact Heap.lt_size ho
    refine call_enumT p' fun h' he hit hk => wpAny_pyIter_enum he ?_
    have I2 : Inv X pins σ H1 { s1 with heap := h' } := I1.kept (t' := s1.toks) hk
    refine ⟨s1.heap.objs.size + 1, [s1.heap.objs.size + 1, s1.heap.objs.size], _, _, H1, rfl, I2, turn_enumT a (s1.heap.objs.size + 1) s1.heap.objs.size, ⟨⟨.none, he⟩, hit, Nat.succ_ne_self _, Nat.ne_of_lt hal, Nat.ne_of_lt (Nat.lt_succ_of_lt hal)⟩, fun b hb => ?_, q⟩
    have hle : s1.heap.objs.size ≤ b := by
      rcases List.mem_cons.mp hb with z | z
      · rw [z]
        exact Nat.le_succ _
      · rw [List.mem_singleton.mp z]
        exact Nat.le_refl _
    exact I1.fpOk hle (I1.hok.fresh hle)
end
/-! ### loops in short -/
section
variable {K : PySem.W.Frag} {σ : L2.St} {H H' : Hp} {tl : TE} {tu tz : TS} {D : Ends}
theorem q_forTn {a : Addr} {xs : List V} {j : Nat} (h : Ev tl σ H (.ref a)) (hx : SqT K H a xs) (Pv : Nat → L2.St → Hp → Prop) (h0 : ∀ H1, Ex H H1 → Pv 0 σ H1) (hl : ∀ i σ' H', i ≤ xs.length → Pv i σ' H' → SqT K H' a xs)
    (hs : ∀ i x σ' H', xs[i]? = some x → Pv i σ' H' → tu { D with nx := Pv (i + 1), ct := Pv (i + 1), bk := tz D } (σ'.set j (some x)) H') (hd : ∀ σ' H', Pv xs.length σ' H' → tz D σ' H') : tSeq (tFor (iTup K tl) (gName j) tu) tz D σ H :=
  q_forT h hx Pv h0 hl hs hd
/-- for i, x in enumerate(tuple) -/
theorem q_forE {a : Addr} {xs : List V} {j l : Nat} (h : Ev tl σ H (.ref a)) (hx : SqT K H a xs) (Pv : Nat → L2.St → Hp → Prop) (h0 : ∀ H1, Ex H H1 → Pv 0 σ H1) (hl : ∀ i σ' H', i ≤ xs.length → Pv i σ' H' → SqT K H' a xs)
    (hs : ∀ i x σ' H' H2, xs[i]? = some x → Pv i σ' H' → Ex H' H2 → tu { D with nx := Pv (i + 1), ct := Pv (i + 1), bk := tz D } ((σ'.set j (some (.int (i : Nat)))).set l (some x)) H2) (hd : ∀ σ' H', Pv xs.length σ' H' → tz D σ' H') :
    tSeq (tFor (iEnumT K (tCons tl tNil)) (gTup K 2 (gCons (gName j) (gCons (gName l) gNil))) tu) tz D σ H := by
  refine h H (Ex.refl H) _ fun H1 e1 => ⟨a, xs, rfl, ex_t e1 hx, ?_⟩
  refine ⟨fun i m σ' H' => Pv i σ' H' ∧ i + m = xs.length, ⟨xs.length, h0 H1 e1, Nat.zero_add _⟩, fun i m σ' H' hW => ?_⟩
  obtain ⟨hp, hm⟩ := hW
  have hq := hl i σ' H' (by omega) hp
  by_cases hi : i < xs.length
  · refine .inr ⟨⟨xs, xs[i], hq, List.getElem?_eq_getElem hi⟩, fun σ2 H2 => Pv (i + 1) σ2 H2, fun σ2 H2 h2 => ⟨m - 1, by omega, h2, by omega⟩, fun v H2 hy => ?_⟩
    obtain ⟨T, x, rfl, nT, rfl, hxx⟩ := hy
    have hxi := hxx xs hq
    exact ⟨T, _, rfl, st_of upd_same, rfl, .int (i : Nat), [x], rfl, x, [], rfl, rfl, hs i x σ' H' _ hxi hp (Ex.new nT)⟩
  · have ei : i = xs.length := by omega
    subst ei
    exact .inl ⟨⟨xs, hq, rfl⟩, hd σ' H' hp⟩
end
end K1
namespace K1
open PySem PySem.Spec PyProof.Rows L2 Evl
section
variable {P : Program} {w : World} {K : PySem.W.Frag} {mg : Str → Option Value} {base : Heap} {C fI cW cL cP : Addr}
theorem drop_at {α : Type} : ∀ {l : List α} {i : Nat} {x : α}, l[i]? = some x → l.drop i = x :: l.drop (i + 1)
  | [], i, x, h => by simp at h
  | a :: l, 0, x, h => by
    have e := Option.some.inj h
    subst e
    rfl
  | a :: l, i + 1, x, h => drop_at (l := l) (i := i) h
theorem get_lt {α : Type} {l : List α} {i : Nat} {x : α} (h : l[i]? = some x) : i < l.length := by
  obtain ⟨z, _⟩ := List.getElem?_eq_some_iff.mp h
  exact z
theorem ite_not_false {b : Bool} (h : (!b) = false) : b = true := by cases b <;> first | rfl | cases h
theorem ite_not_true {b : Bool} (h : (!b) = true) : b = false := by cases b <;> first | rfl | cases h
/-! ### is_lot -/
def lotFrom (size : Int) : Int → List PyData → Bool
  | _, [] => true
  | last, .int h :: ds => decide (last < h) && (decide (h < size) && lotFrom size h ds)
  | _, _ :: _ => false
def isLot (size : Int) : PyData → Bool
  | .tuple ds => lotFrom size (-1) ds
  | _ => false
def spIsLot (K : PySem.W.Frag) : Sp := fun vs H Q _ => ∃ (size : Int) (v : V) (d : PyData), vs = [.int size, v] ∧ Dp K H v d ∧ RetV (.bl (isLot size d)) H Q
/-- the loop's test at an item -/
def lotBad (size last : Int) : PyData → Bool
  | .int h => !(decide (last < h) && decide (h < size))
  | _ => true
theorem lotFrom_cons {size last : Int} {d : PyData} {ds : List PyData} : lotFrom size last (d :: ds) = true → lotBad size last d = false := by
  intro h
  cases d with
  | int i =>
    obtain ⟨h1, h2⟩ := Bool.and_eq_true_iff.mp (show (decide (last < i) && (decide (i < size) && lotFrom size i ds)) = true from h)
    obtain ⟨h2, _⟩ := Bool.and_eq_true_iff.mp h2
    show (!(decide (last < i) && decide (i < size))) = false
    rw [h1, h2]
    rfl
  | _ => cases h
theorem lotFrom_next {size last : Int} {d : PyData} {ds : List PyData} (h : lotBad size last d = false) : ∃ i, d = .int i ∧ lotFrom size last (d :: ds) = lotFrom size i ds := by
  cases d with
  | int i =>
    have h' := ite_not_false (show (!(decide (last < i) && decide (i < size))) = false from h)
    obtain ⟨h1, h2⟩ := Bool.and_eq_true_iff.mp h'
    refine ⟨i, rfl, ?_⟩
    show (decide (last < i) && (decide (i < size) && lotFrom size i ds)) = _
    rw [h1, h2]
    rfl
  | _ => cases h
theorem et_lot {σ : L2.St} {H : Hp} {v : V} {d : PyData} {size last : Int} {t1 t2 t3 : TE} (h1 : Ev t1 σ H v) (hd : Dp K H v d) (h2 : Ev t2 σ H (.int last)) (h3 : Ev t3 σ H (.int size)) {E : XK} :
    EvT (tOr (tNot (tB (tCall (spIsInteger K) [] E (tCons t1 tNil)))) (tOr (tTest (tOp (rI0 fun i j => .bl (decide (i ≤ j))) t1 t2)) (tTest (tOp (rI0 fun i j => .bl (decide (j ≤ i))) t1 t3)))) σ H (lotBad size last d) := by
  cases hi : (is_int d && !is_bool d) with
  | false =>
    refine et_is (et_or (b := true) (et_not (et_B (ev_isint2 h1 hd))) fun z => ?_) ?_
    · rw [hi] at z
      cases z
    · rw [hi]
      cases d <;> first | rfl | cases hi
  | true =>
    obtain ⟨i, rfl⟩ := isInt_cases hi
    cases hd
    refine et_is (et_or (et_not (et_B (ev_isint2 h1 (.int i)))) fun _ => et_or (et_test (ev_op h1 h2 rv_I0)) fun _ => et_test (ev_op h1 h3 rv_I0)) ?_
    show (!(true && !false) || (decide (i ≤ last) || decide (size ≤ i))) = !(decide (last < i) && decide (i < size))
    by_cases a : last < i
    · rw [decide_eq_true a, decide_eq_false (by omega)]
      by_cases b : i < size
      · rw [decide_eq_true b, decide_eq_false (by omega)]
        rfl
      · rw [decide_eq_false b, decide_eq_true (by omega)]
        rfl
    · rw [decide_eq_false a, decide_eq_true (show i ≤ last by omega)]
      rfl
theorem ok_is_lot (B : Blt mg) (D : Dfn K mg "is_lot" s_is_lot) (G_is_integer : Cal P w K mg base CX0 1 "is_integer" ["thing"] (spIsInteger K)) :
    Cal P w K mg base CX0 2 "is_lot" ["size", "thing"] (spIsLot K) := by
  refine mkCal D (fun _ _ _ _ _ _ us hl => match us, hl with | [_, _], _ => rfl) fun f fd F => ?_
  refine F.ok sc_is_lot (fun vs H Q E h => ?_) (fun cdv A outer s H vs Q E hr h => ?_)
  · obtain ⟨size, v, d, rfl, _⟩ := h
    rfl
  · obtain ⟨size, v, d, rfl, hd, q⟩ := h
    refine ⟨_, ((pss_cons (ps_if (pt_not (pt_val (pe_callB call_isi (by rfl) B.b_isinstance bt_isinstance (pa_cons (pv 1) (pa_cons (pe_bltn (v := .ty "tuple") (by rfl) B.b_tuple bt_tuple rfl) pa_nil))))) (pss_one (ps_ret pe_bl)) pss_nil)
      (pss_cons (ps_set (i := 2) sc_is_lot.nd rfl (.inl rfl) (pe_un un_neg pe_int))
      (pss_cons (ps_for PassesOwn.never rfl (pi_tup (pv 1)) (pg_name (i := 3) sc_is_lot.nd rfl (.inl rfl)) (pss_cons (ps_if (PW.pt (pw_or (pt_not (pt_val (pcal G_is_integer hr pass0 (pa_cons (pv 3) pa_nil)))) (pw_or (pt_cmpR op_le (pv 3) (pv 2) (nomark _)) (pw_or1 (pt_cmpR op_ge (pv 3) (pv 0) (nomark _)))))) (pss_one (ps_ret pe_bl)) pss_nil)
      (pss_one (ps_set (i := 2) sc_is_lot.nd rfl (.inl rfl) (pv 3)))))
      (pss_one (ps_ret pe_bl)))))), ?_⟩
    cases ht : is_tuple d with
    | false =>
      have hf : isLot size d = false := by cases d <;> first | rfl | cases ht
      rw [hf] at q
      exact q_when (b := true) (et_is (et_not (et_B (ev_isi (ev_var rfl) hd (kit_tuple d)))) (by rw [ht]; rfl)) (fun _ H1 e1 => s_ret ev_c fun H2 e2 => q H2 (e1.trans e2)) fun z => by cases z
    | true =>
      obtain ⟨ds, rfl⟩ := is_tuple_cases ht
      obtain ⟨p, xs, rfl, hs, ha⟩ := dp_tup_inv hd
      have hl := dpAll_len ha
      refine q_ifF (et_is (et_not (et_B (ev_isi (ev_var rfl) hd (kit_tuple _)))) rfl) fun H1 e1 => ?_
      refine q_asg (ev_un ev_c ru_neg) fun H2 e2 => ?_
      have e12 := e1.trans e2
      refine q_forTn (ev_var rfl) (ex_t e12 hs) (fun i σ' H' => ∃ (last : Int) (y : Option V), σ' = [some (.int size), some (.ref p), some (.int last), y] ∧ Ex H H' ∧ lotFrom size last (ds.drop i) = lotFrom size (-1) ds)
        (fun H3 e3 => ⟨-1, none, rfl, e12.trans e3, rfl⟩) (fun i σ' H' _ hP => ?_) (fun i x σ' H' hx hP => ?_) (fun σ' H' hP => ?_)
      · obtain ⟨_, _, _, e, _⟩ := hP
        exact ex_t e hs
      · obtain ⟨last, y, rfl, e, hlot⟩ := hP
        obtain ⟨d, hd1, hd2⟩ := dpAll_get ha hx
        rw [drop_at hd1] at hlot
        refine q_when (et_lot (ev_var rfl) (dp_mono e _ _ hd2) (ev_var rfl) (ev_var rfl)) (fun z H3 e3 => ?_) fun z H3 e3 => ?_
        · have hf : isLot size (.tuple ds) = false := by
            show lotFrom size (-1) ds = false
            rw [← hlot]
            cases hb : lotFrom size last (d :: ds.drop (i + 1)) with
            | false => rfl
            | true =>
              rw [lotFrom_cons hb] at z
              cases z
          rw [hf] at q
          exact s_ret ev_c fun H4 e4 => q H4 (e.trans (e3.trans e4))
        · obtain ⟨h, rfl, hn⟩ := lotFrom_next (ds := ds.drop (i + 1)) z
          cases hd2
          exact s_asg (ev_var rfl) fun H4 e4 => ⟨h, _, rfl, e.trans (e3.trans e4), by rw [← hn, hlot]⟩
      · obtain ⟨last, y, rfl, e, hlot⟩ := hP
        rw [hl, List.drop_length] at hlot
        have ht : isLot size (.tuple ds) = true := hlot.symm
        rw [ht] at q
        exact s_ret ev_c fun H4 e4 => q H4 (e.trans e4)
theorem ev_isLot {σ : L2.St} {H : Hp} {t1 t2 : TE} {v : V} {d : PyData} {size : Int} {E : XK} (h1 : Ev t1 σ H (.int size)) (h : Ev t2 σ H v) (hd : Dp K H v d) : Ev (tCall (spIsLot K) [] E (tCons t1 (tCons t2 tNil))) σ H (.bl (isLot size d)) :=
  ev_call (ea_cons h1 (ea_cons h ea_nil)) fun H1 e1 Q q E' => ⟨size, v, d, rfl, dp_mono e1 _ _ hd, q⟩
/-! ### is_joining -/
/-- at place i stands the least place that is joined with it -/
def jAt (ds : List PyData) (i : Nat) : Bool :=
  match ds[i]? with
  | some (.int n) => decide (0 ≤ n) && (decide (n ≤ (i : Int)) && (match ds[n.toNat]? with | some (.int k) => decide (k = n) | _ => false))
  | _ => false
def isJ (many : Int) : PyData → Bool
  | .tuple ds => decide ((ds.length : Int) = many) && (List.range ds.length).all (jAt ds)
  | _ => false
theorem jAt_int {ds : List PyData} {i : Nat} (h : jAt ds i = true) : ∃ n : Nat, ds[i]? = some (.int (n : Int)) ∧ n ≤ i ∧ ds[n]? = some (.int (n : Int)) := by
  unfold jAt at h
  split at h
  · rename_i n hn
    obtain ⟨h1, h2⟩ := Bool.and_eq_true_iff.mp h
    obtain ⟨h2, h3⟩ := Bool.and_eq_true_iff.mp h2
    have g1 := of_decide_eq_true h1
    have g2 := of_decide_eq_true h2
    split at h3
    · rename_i k hk
      have g3 := of_decide_eq_true h3
      subst g3
      have e : k = (k.toNat : Int) := by omega
      refine ⟨k.toNat, by rw [← e]; exact hn, by omega, by rw [← e]; exact hk⟩
    · cases h3
  · cases h
theorem jAt_of {ds : List PyData} {i n : Nat} (h1 : ds[i]? = some (.int (n : Int))) (h2 : n ≤ i) (h3 : ds[n]? = some (.int (n : Int))) : jAt ds i = true := by
  unfold jAt
  rw [h1]
  show (decide ((0 : Int) ≤ n) && (decide ((n : Int) ≤ i) && (match ds[((n : Nat) : Int).toNat]? with | some (.int k) => decide (k = ((n : Nat) : Int)) | _ => false))) = true
  rw [Int.toNat_natCast, h3, decide_eq_true (by omega), decide_eq_true (by omega)]
  show (true && (true && decide (((n : Nat) : Int) = n))) = true
  rw [decide_eq_true rfl]
  rfl
def spIsJ (K : PySem.W.Frag) : Sp := fun vs H Q _ => ∃ (many : Int) (v : V) (d : PyData), vs = [.int many, v] ∧ Dp K H v d ∧ RetV (.bl (isJ many d)) H Q
theorem et_joinAt {σ : L2.St} {H : Hp} {p : Addr} {xs : List V} {ds : List PyData} {i : Nat} {x : V} {tt tp tx : TE} {E : XK} (hs : SqT K H p xs) (ha : DpAll K H xs ds) (hx : xs[i]? = some x) (old : ∀ j < i, jAt ds j = true)
    (h1 : Ev tx σ H x) (h2 : Ev tp σ H (.int (i : Int))) (h3 : Ev tt σ H (.ref p)) :
    EvT (tOr (tNot (tB (tCall (spIsNumber K) [] E (tCons tx tNil)))) (tOr (tTest (tOp (rI0 fun i j => .bl (decide (j < i))) tx tp)) (tTest (tOp rNe (tOp (rIxT K) tt tx) tx)))) σ H (!jAt ds i) := by
  obtain ⟨d, hd1, hd2⟩ := dpAll_get ha hx
  cases hn : isNum d with
  | false =>
    refine et_is (et_or (b := true) (et_not (et_B (ev_isnum h1 hd2))) fun z => ?_) ?_
    · rw [hn] at z
      cases z
    · rw [hn]
      cases hj : jAt ds i with
      | false => rfl
      | true =>
        obtain ⟨n, e, _⟩ := jAt_int hj
        rw [hd1] at e
        cases e
        have z : decide ((0 : Int) ≤ n) = false := hn
        rw [decide_eq_true (by omega)] at z
        cases z
  | true =>
    obtain ⟨z1, z2⟩ := Bool.and_eq_true_iff.mp hn
    obtain ⟨m, rfl⟩ := isInt_cases z1
    have hm : 0 ≤ m := of_decide_eq_true z2
    obtain ⟨n, rfl⟩ : ∃ n : Nat, m = (n : Int) := ⟨m.toNat, by omega⟩
    have ex := dp_int_inv hd2
    subst ex
    have first : EvT (tNot (tB (tCall (spIsNumber K) [] E (tCons tx tNil)))) σ H false := et_is (et_not (et_B (ev_isnum h1 hd2))) (by rw [hn]; rfl)
    by_cases hle : n ≤ i
    · -- the item at n is an int
      have hk : ∃ k : Nat, ds[n]? = some (.int (k : Int)) := by
        by_cases he : n = i
        · rw [he]
          exact ⟨n, hd1⟩
        · obtain ⟨k, hk, _⟩ := jAt_int (old n (by omega))
          exact ⟨k, hk⟩
      obtain ⟨k, hk⟩ := hk
      have hlt : n < xs.length := by
        rw [dpAll_len ha]
        exact get_lt hk
      obtain ⟨d', hd', hd''⟩ := dpAll_get ha (List.getElem?_eq_getElem hlt)
      rw [hk] at hd'
      cases hd'
      have exn := dp_int_inv hd''
      have hxn : xs[n]? = some (.int (k : Int)) := by rw [List.getElem?_eq_getElem hlt, exn]
      refine et_is (et_or first fun _ => et_or (a := false) (et_is (et_test (ev_op h1 h2 rv_I0)) (decide_eq_false (by omega))) fun _ => et_test (ev_op (ev_op h3 h1 (rv_ixT hs (atI_nat hxn))) h1 (rv_ne rfl))) ?_
      show (false || (false || !decide (V.int (k : Int) = V.int (n : Int)))) = !jAt ds i
      by_cases hkn : k = n
      · subst hkn
        rw [jAt_of hd1 hle hk, decide_eq_true rfl]
        rfl
      · rw [decide_eq_false (fun z => hkn (by have := V.int.inj z; omega))]
        cases hj : jAt ds i with
        | false => rfl
        | true =>
          obtain ⟨n', e1, _, e3⟩ := jAt_int hj
          rw [hd1] at e1
          have en : n' = n := by
            have := PyData.int.inj (Option.some.inj e1)
            omega
          subst en
          rw [hk] at e3
          have := PyData.int.inj (Option.some.inj e3)
          exact absurd (by omega) hkn
    · refine et_is (et_or first fun _ => et_or (a := true) (b := true) (et_is (et_test (ev_op h1 h2 rv_I0)) (decide_eq_true (by omega))) fun z => by cases z) ?_
      cases hj : jAt ds i with
      | false => rfl
      | true =>
        obtain ⟨n', e1, e2, _⟩ := jAt_int hj
        rw [hd1] at e1
        have := PyData.int.inj (Option.some.inj e1)
        exact absurd (by omega) hle
theorem all_range {f : Nat → Bool} {n : Nat} : (List.range n).all f = true ↔ ∀ i < n, f i = true := by
  rw [List.all_eq_true]
  exact ⟨fun h i hi => h i (List.mem_range.mpr hi), fun h i hi => h i (List.mem_range.mp hi)⟩
theorem isJ_tuple {many : Int} {ds : List PyData} : isJ many (.tuple ds) = true ↔ (ds.length : Int) = many ∧ ∀ i < ds.length, jAt ds i = true := by
  show (decide ((ds.length : Int) = many) && (List.range ds.length).all (jAt ds)) = true ↔ _
  rw [Bool.and_eq_true_iff, decide_eq_true_iff, all_range]
theorem isJ_not {many : Int} {d : PyData} (h : ¬ isJ many d = true) : isJ many d = false := by
  cases hj : isJ many d with
  | false => rfl
  | true => exact absurd hj h
theorem ok_is_joining (B : Blt mg) (D : Dfn K mg "is_joining" s_is_joining) (G_is_number : Cal P w K mg base CX0 2 "is_number" ["thing"] (spIsNumber K)) :
    Cal P w K mg base CX0 3 "is_joining" ["many", "thing"] (spIsJ K) := by
  refine mkCal D (fun _ _ _ _ _ _ us hl => match us, hl with | [_, _], _ => rfl) fun f fd F => ?_
  refine F.ok sc_is_joining (fun vs H Q E h => ?_) (fun cdv A outer s H vs Q E hr h => ?_)
  · obtain ⟨size, v, d, rfl, _⟩ := h
    rfl
  · obtain ⟨many, v, d, rfl, hd, q⟩ := h
    refine ⟨_, ((pss_cons (ps_if (PW.pt (pw_or (pt_not (pt_val (pe_callB call_isi (by rfl) B.b_isinstance bt_isinstance (pa_cons (pv 1) (pa_cons (pe_bltn (v := .ty "tuple") (by rfl) B.b_tuple bt_tuple rfl) pa_nil))))) (pw_or1 (pt_cmpR op_ne (pe_callB call_len_seq (by rfl) B.b_len bt_len (pa_cons (pv 1) pa_nil)) (pv 0) (nomark _))))) (pss_one (ps_ret pe_bl)) pss_nil)
      (pss_cons (ps_for PassesOwn.never rfl (pi_enumT (by rfl) B.b_enumerate (pa_cons (pv 1) pa_nil)) (pg_tup rfl (pgs_cons (pg_name (i := 2) sc_is_joining.nd rfl (.inl rfl)) (pgs_cons (pg_name (i := 3) sc_is_joining.nd rfl (.inl rfl)) pgs_nil))) (pss_one (ps_if (PW.pt (pw_or (pt_not (pt_val (pcal G_is_number hr pass0 (pa_cons (pv 3) pa_nil)))) (pw_or (pt_cmpR op_gt (pv 3) (pv 2) (nomark _)) (pw_or1 (pt_cmpR op_ne (pe_ix ix_tup (pv 1) (pv 3) (fun _ _ => rfl)) (pv 3) (nomark _)))))) (pss_one (ps_ret pe_bl)) pss_nil)))
      (pss_one (ps_ret pe_bl))))), ?_⟩
    cases ht : is_tuple d with
    | false =>
      have hf : isJ many d = false := by cases d <;> first | rfl | cases ht
      rw [hf] at q
      exact q_when (et_noTup (ev_var rfl) hd ht) (fun _ H1 e1 => s_ret ev_c fun H2 e2 => q H2 (e1.trans e2)) fun z => by cases z
    | true =>
      obtain ⟨ds, rfl⟩ := is_tuple_cases ht
      obtain ⟨p, xs, rfl, hs, ha⟩ := dp_tup_inv hd
      have hl := dpAll_len ha
      refine q_when (et_isTup (ev_var rfl) hd (et_test (ev_op (ev_lenT (ev_var rfl) hs) (ev_var rfl) (rv_ne rfl)))) (fun z H1 e1 => ?_) fun z H1 e1 => ?_
      · have hf : isJ many (.tuple ds) = false := isJ_not fun hj => by
          obtain ⟨h1, _⟩ := isJ_tuple.mp hj
          rw [hl, h1, decide_eq_true rfl] at z
          cases z
        rw [hf] at q
        exact s_ret ev_c fun H2 e2 => q H2 (e1.trans e2)
      · have hlen : (ds.length : Int) = many := by
          have z1 := ite_not_false z
          have z2 := V.int.inj (of_decide_eq_true z1)
          rw [hl] at z2
          exact z2
        refine q_forE (ev_var rfl) (ex_t e1 hs) (fun i σ' H' => ∃ (y2 y3 : Option V), σ' = [some (.int many), some (.ref p), y2, y3] ∧ Ex H H' ∧ ∀ j < i, jAt ds j = true)
          (fun H3 e3 => ⟨none, none, rfl, e1.trans e3, fun j hj => absurd hj (Nat.not_lt_zero _)⟩) (fun i σ' H' _ hP => ?_) (fun i x σ' H' H2 hx hP e2 => ?_) (fun σ' H' hP => ?_)
        · obtain ⟨_, _, _, e, _⟩ := hP
          exact ex_t e hs
        · obtain ⟨y2, y3, rfl, e, old⟩ := hP
          have e' := e.trans e2
          refine s_when (et_joinAt (ex_t e' hs) (dpAll_mono e' _ _ ha) hx old (ev_var rfl) (ev_var rfl) (ev_var rfl)) (fun z H3 e3 => ?_) fun z H3 e3 => ?_
          · have hf : isJ many (.tuple ds) = false := isJ_not fun hj => by
              obtain ⟨_, h2⟩ := isJ_tuple.mp hj
              rw [h2 i (by rw [← hl]; exact get_lt hx)] at z
              cases z
            rw [hf] at q
            exact s_ret ev_c fun H4 e4 => q H4 (e'.trans (e3.trans e4))
          · refine ⟨_, _, rfl, e'.trans e3, fun j hj => ?_⟩
            by_cases hji : j = i
            · rw [hji]
              exact ite_not_false z
            · exact old j (by omega)
        · obtain ⟨y2, y3, rfl, e, old⟩ := hP
          have htr : isJ many (.tuple ds) = true := isJ_tuple.mpr ⟨hlen, fun i hi => old i (by rw [hl]; exact hi)⟩
          rw [htr] at q
          exact s_ret ev_c fun H4 e4 => q H4 (e.trans e4)
theorem ev_isJ {σ : L2.St} {H : Hp} {t1 t2 : TE} {v : V} {d : PyData} {many : Int} {E : XK} (h1 : Ev t1 σ H (.int many)) (h : Ev t2 σ H v) (hd : Dp K H v d) : Ev (tCall (spIsJ K) [] E (tCons t1 (tCons t2 tNil))) σ H (.bl (isJ many d)) :=
  ev_call (ea_cons h1 (ea_cons h ea_nil)) fun H1 e1 Q q E' => ⟨many, v, d, rfl, dp_mono e1 _ _ hd, q⟩
end
end K1
namespace K1
open PySem PySem.Spec PyProof.Rows L2 Evl
/-! ### quotients, the mathematics -/
/-- in lowest terms -/
def low (t b : Int) : Int × Int :=
  if b < 0 then (-t / (Nat.gcd t.natAbs b.natAbs : Nat), -b / (Nat.gcd t.natAbs b.natAbs : Nat)) else (t / (Nat.gcd t.natAbs b.natAbs : Nat), b / (Nat.gcd t.natAbs b.natAbs : Nat))
theorem low_pos {t b : Int} (hb : 0 < b) : ∃ n m : Int, low t b = (n, m) ∧ 1 ≤ m ∧ Nat.gcd n.natAbs m.natAbs = 1 ∧ n * b = t * m ∧ n.natAbs ≤ t.natAbs ∧ m.natAbs ≤ b.natAbs := by
  have hg : 0 < Nat.gcd t.natAbs b.natAbs := Nat.gcd_pos_of_pos_right _ (by omega)
  obtain ⟨x, hx⟩ : ∃ x : Int, t = (Nat.gcd t.natAbs b.natAbs : Nat) * x := Int.ofNat_dvd_left.mpr (Nat.gcd_dvd_left _ _)
  obtain ⟨y, hy⟩ : ∃ y : Int, b = (Nat.gcd t.natAbs b.natAbs : Nat) * y := Int.ofNat_dvd_left.mpr (Nat.gcd_dvd_right _ _)
  generalize hgg : Nat.gcd t.natAbs b.natAbs = g at *
  have hgz : ((g : Nat) : Int) ≠ 0 := by omega
  have ex : t / (g : Int) = x := by rw [hx]; exact Int.mul_ediv_cancel_left _ hgz
  have ey : b / (g : Int) = y := by rw [hy]; exact Int.mul_ediv_cancel_left _ hgz
  have hlow : low t b = (x, y) := by
    unfold low
    rw [if_neg (by omega), hgg, ex, ey]
  have hy0 : 0 < y := by
    rcases Int.lt_or_le 0 y with h | h
    · exact h
    · have : (g : Int) * y ≤ 0 := Int.mul_nonpos_of_nonneg_of_nonpos (by omega) h
      omega
  have nx : t.natAbs = g * x.natAbs := by rw [hx, Int.natAbs_mul, Int.natAbs_natCast]
  have ny : b.natAbs = g * y.natAbs := by rw [hy, Int.natAbs_mul, Int.natAbs_natCast]
  refine ⟨x, y, hlow, by omega, ?_, ?_, ?_, ?_⟩
  · have z : Nat.gcd (g * x.natAbs) (g * y.natAbs) = g := by rw [← nx, ← ny]; exact hgg
    rw [Nat.gcd_mul_left] at z
    have z2 : g * Nat.gcd x.natAbs y.natAbs = g * 1 := by rw [Nat.mul_one]; exact z
    exact Nat.eq_of_mul_eq_mul_left hg z2
  · rw [hx, hy, ← Int.mul_assoc, Int.mul_comm x]
  · rw [nx]
    exact Nat.le_mul_of_pos_left _ hg
  · rw [ny]
    exact Nat.le_mul_of_pos_left _ hg
theorem low_neg {t b : Int} (hb : b < 0) : low t b = low (-t) (-b) := by
  unfold low
  rw [if_pos hb, if_neg (by omega), Int.natAbs_neg, Int.natAbs_neg]
theorem low_spec {t b : Int} (hb : b ≠ 0) : ∃ n m : Int, low t b = (n, m) ∧ 1 ≤ m ∧ Nat.gcd n.natAbs m.natAbs = 1 ∧ n * b = t * m ∧ n.natAbs ≤ t.natAbs ∧ m.natAbs ≤ b.natAbs := by
  rcases Int.lt_or_le 0 b with h | h
  · exact low_pos h
  · obtain ⟨n, m, h1, h2, h3, h4, h5, h6⟩ := low_pos (t := -t) (b := -b) (by omega)
    refine ⟨n, m, (low_neg (by omega)).trans h1, h2, h3, ?_, by rw [Int.natAbs_neg] at h5; exact h5, by rw [Int.natAbs_neg] at h6; exact h6⟩
    rw [Int.mul_neg, Int.neg_mul] at h4
    omega
/-- below 2 ^ 64 -/
def Sm (i : Int) : Prop := i.natAbs < 2 ^ 64
theorem sm_mul {i j : Int} (hi : Sm i) (hj : Sm j) : CMulW i j := wide_mul hi hj (by decide) (by decide) (by decide)
theorem sm_prod {i j : Int} (hi : Sm i) (hj : Sm j) : (i * j).natAbs < 2 ^ 128 := wide_lt hi hj
section
variable {P : Program} {w : World} {K : PySem.W.Frag} {mg : Str → Option Value} {base : Heap} {C fI cW cL cP : Addr}
/-! ### lowest -/
def spLowest : Sp := fun vs H Q _ => ∃ (t b : Int), vs = [.int t, .int b] ∧ b ≠ 0 ∧ b.natAbs < 2 ^ 130 ∧ RetU [.int (low t b).1, .int (low t b).2] H Q
theorem ok_lowest (B : Blt mg) (D : Dfn K mg "lowest" s_lowest) (G_common_divisor : Cal P w K mg base CX0 1 "common_divisor" ["one", "other"] spGcd) :
    Cal P w K mg base CX0 2 "lowest" ["top", "bottom"] spLowest := by
  refine mkCal D (fun _ _ _ _ _ _ us hl => match us, hl with | [_, _], _ => rfl) fun f fd F => ?_
  refine F.ok sc_lowest (fun vs H Q E h => ?_) (fun cdv A outer s H vs Q E hr h => ?_)
  · obtain ⟨t, b, rfl, _⟩ := h
    rfl
  · obtain ⟨t, b, rfl, hb, hs, q⟩ := h
    refine ⟨_, ((pss_cons (ps_set (i := 2) sc_lowest.nd rfl (.inl rfl) (pcal G_common_divisor hr pass0 (pa_cons (pe_callB call_abs (by rfl) B.b_abs bt_abs (pa_cons (pv 0) pa_nil)) (pa_cons (pe_callB call_abs (by rfl) B.b_abs bt_abs (pa_cons (pv 1) pa_nil)) pa_nil))))
      (pss_cons (ps_if (pt_cmpR op_lt (pv 1) pe_int (nomark _)) (pss_one (ps_ret (pe_tup (pa_cons (pe_op op_fdivW (pe_un un_neg (pv 0)) (pv 2)) (pa_cons (pe_op op_fdivW (pe_un un_neg (pv 1)) (pv 2)) pa_nil))))) pss_nil)
      (pss_one (ps_ret (pe_tup (pa_cons (pe_op op_fdivW (pv 0) (pv 2)) (pa_cons (pe_op op_fdivW (pv 1) (pv 2)) pa_nil)))))))), ?_⟩
    have hg : 0 < Nat.gcd t.natAbs b.natAbs := Nat.gcd_pos_of_pos_right _ (by omega)
    have hgb : Nat.gcd t.natAbs b.natAbs ≤ b.natAbs := Nat.le_of_dvd (by omega) (Nat.gcd_dvd_right _ _)
    have hdv : CDivW t ((Nat.gcd t.natAbs b.natAbs : Nat) : Int) := wide_div (b := 130) (by omega) (by omega) (by decide) (by decide)
    refine q_asg (ev_gcd (ev_abs (ev_var rfl)) (ev_abs (ev_var rfl))) fun H1 e1 => ?_
    refine q_when (et_test (ev_op (ev_var rfl) ev_c rv_I0)) (fun z H2 e2 => ?_) fun z H2 e2 => ?_
    · have hn : b < 0 := of_decide_eq_true z
      refine s_retU (eu_tup (ea_cons (ev_op (ev_un (ev_var rfl) ru_neg) (ev_var rfl) (rv_I hdv)) (ea_cons (ev_op (ev_un (ev_var rfl) ru_neg) (ev_var rfl) (rv_I hdv)) ea_nil)) (by show 2 ≤ 100000; decide)) fun p H3 hp e3 hx => ?_
      refine (q.mono (e1.trans e2)) p H3 hp e3 ?_
      rw [hx]
      unfold low
      rw [if_pos hn]
    · have hn : ¬ b < 0 := of_decide_eq_false z
      refine s_retU (eu_tup (ea_cons (ev_op (ev_var rfl) (ev_var rfl) (rv_I hdv)) (ea_cons (ev_op (ev_var rfl) (ev_var rfl) (rv_I hdv)) ea_nil)) (by show 2 ≤ 100000; decide)) fun p H3 hp e3 hx => ?_
      refine (q.mono (e1.trans e2)) p H3 hp e3 ?_
      rw [hx]
      unfold low
      rw [if_neg hn]
theorem eu_lowest {σ : L2.St} {H : Hp} {t1 t2 : TE} {t b : Int} {E : XK} (h1 : Ev t1 σ H (.int t)) (h2 : Ev t2 σ H (.int b)) (hb : b ≠ 0) (hs : b.natAbs < 2 ^ 130) :
    EvU (tCall spLowest [] E (tCons t1 (tCons t2 tNil))) σ H [.int (low t b).1, .int (low t b).2] :=
  eu_call (ea_cons h1 (ea_cons h2 ea_nil)) fun H1 e1 Q q E' => ⟨t, b, rfl, hb, hs, q⟩
/-! ### need_two -/
theorem st_need {σ : L2.St} {H : Hp} {D : Ends} {te : TE} {b : Bool} {name : Str} {E : XK} (h : Ev te σ H (.bl b)) (h1 : b = true → ∀ H1, Ex H H1 → D.nx σ H1) (h2 : b = false → NU C name H E) :
    tDrop (tCall (spNeed C) [] E (tCons te (tCons (tC (.str name)) tNil))) D σ H := by
  refine h H (Ex.refl H) _ fun H1 e1 => ?_
  exact ⟨b, name, rfl, fun z H2 e2 => h1 z H2 (e1.trans e2), fun z => (h2 z).mono e1⟩
theorem q_need {σ : L2.St} {H : Hp} {D : Ends} {te : TE} {b : Bool} {name : Str} {E : XK} {tz : TS} (h : Ev te σ H (.bl b)) (h1 : b = true → ∀ H1, Ex H H1 → tz D σ H1) (h2 : b = false → NU C name H E) :
    tSeq (tDrop (tCall (spNeed C) [] E (tCons te (tCons (tC (.str name)) tNil)))) tz D σ H :=
  st_need (D := { D with nx := tz D }) h h1 h2
def spNeedTwo (K : PySem.W.Frag) (C : Addr) : Sp := fun vs H Q E => ∃ (v1 v2 : V) (d1 d2 : PyData), vs = [v1, v2] ∧ Dp K H v1 d1 ∧ Dp K H v2 d2 ∧
  (isQ d1 = false → NU C "one" H E) ∧ (isQ d1 = true → isQ d2 = false → NU C "other" H E) ∧ (isQ d1 = true → isQ d2 = true → RetV .non H Q)
theorem ok_need_two (D : Dfn K mg "need_two" s_need_two) (G_need : Cal P w K mg base (L2N.CX P w) 3 "need" ["holds", "name"] (spNeed C)) (G_is_quotient : Cal P w K mg base CX0 2 "is_quotient" ["thing"] (spIsQ K)) :
    Cal P w K mg base (L2N.CX P w) 4 "need_two" ["one", "other"] (spNeedTwo K C) := by
  refine mkCal D (fun _ _ _ _ _ _ us hl => match us, hl with | [_, _], _ => rfl) fun f fd F => ?_
  refine okN F sc_need_two (fun vs H Q E h => ?_) (fun cdv A outer s H vs Q E hr h => ?_)
  · obtain ⟨v1, v2, d1, d2, rfl, _⟩ := h
    rfl
  · obtain ⟨v1, v2, d1, d2, rfl, hd1, hd2, n1, n2, q⟩ := h
    refine ⟨_, ((pss_cons (ps_expr (pcal G_need hr (L2N.passes_call (L2N.takes_of rfl rfl rfl rfl) fun _ _ _ _ z => z) (pa_cons (pcal G_is_quotient hr pass0 (pa_cons (pv 0) pa_nil)) (pa_cons pe_str pa_nil))))
      (pss_one (ps_expr (pcal G_need hr (L2N.passes_call (L2N.takes_of rfl rfl rfl rfl) fun _ _ _ _ z => z) (pa_cons (pcal G_is_quotient hr pass0 (pa_cons (pv 1) pa_nil)) (pa_cons pe_str pa_nil))))))), ?_⟩
    refine q_need (ev_isQ (ev_var rfl) hd1) (fun z1 H1 e1 => ?_) n1
    refine st_need (ev_isQ (ev_var rfl) (dp_mono e1 _ _ hd2)) (fun z2 H2 e2 => q z1 z2 H2 (e1.trans e2)) fun z2 => (n2 z1 z2).mono e1
/-! ### quotient_of -/
def isInteger (d : PyData) : Bool := is_int d && !is_bool d
/-- an integer that is not nought -/
def nzD : PyData → Bool
  | .int i => !decide (i = 0)
  | _ => false
def isIntN (d : PyData) : Bool := isInteger d && nzD d
def spQuotientOf (K : PySem.W.Frag) (C : Addr) : Sp := fun vs H Q E => ∃ (v1 v2 : V) (d1 d2 : PyData), vs = [v1, v2] ∧ Dp K H v1 d1 ∧ Dp K H v2 d2 ∧
  (isInteger d1 = false → NU C "top" H E) ∧ (isInteger d1 = true → isIntN d2 = false → NU C "bottom" H E) ∧
  (isInteger d1 = true → isIntN d2 = true → ∃ t b : Int, d1 = .int t ∧ d2 = .int b ∧ b.natAbs < 2 ^ 130 ∧ RetU [.int (low t b).1, .int (low t b).2] H Q)
theorem fn_quotient_of {f : Addr} {fd : FuncData} (F : Fun K "quotient_of" "quotient_of" s_quotient_of f fd) (G_need : Cal P w K mg base (L2N.CX P w) 3 "need" ["holds", "name"] (spNeed C)) (G_is_integer : Cal P w K mg base CX0 1 "is_integer" ["thing"] (spIsInteger K))
    (G_lowest : Cal P w K mg base CX0 2 "lowest" ["top", "bottom"] spLowest) : FnOk P w K mg base (L2N.CX P w) 4 f fd ["top", "bottom"] (spQuotientOf K C) := by
  refine okN F sc_quotient_of (fun vs H Q E h => ?_) (fun cdv A outer s H vs Q E hr h => ?_)
  · obtain ⟨v1, v2, d1, d2, rfl, _⟩ := h
    rfl
  · obtain ⟨v1, v2, d1, d2, rfl, hd1, hd2, n1, n2, q⟩ := h
    refine ⟨_, ((pss_cons (ps_expr (pcal G_need hr (L2N.passes_call (L2N.takes_of rfl rfl rfl rfl) fun _ _ _ _ z => z) (pa_cons (pcal G_is_integer hr pass0 (pa_cons (pv 0) pa_nil)) (pa_cons pe_str pa_nil))))
      (pss_cons (ps_expr (pcal G_need hr (L2N.passes_call (L2N.takes_of rfl rfl rfl rfl) fun _ _ _ _ z => z) (pa_cons (pe_and (pcal G_is_integer hr pass0 (pa_cons (pv 1) pa_nil)) (pe_one (pe_cmpR op_ne (pv 1) pe_int (nomark _)))) (pa_cons pe_str pa_nil))))
      (pss_one (ps_ret (pcal G_lowest hr pass0 (pa_cons (pv 0) (pa_cons (pv 1) pa_nil)))))))), ?_⟩
    refine q_need (ev_isint2 (ev_var rfl) hd1) (fun z1 H1 e1 => ?_) n1
    have hd2' := dp_mono e1 _ _ hd2
    refine q_need (b := isIntN d2) (ev_andV (b := nzD d2) (ev_isint2 (ev_var rfl) hd2') fun z => ?_) (fun z2 H2 e2 => ?_) fun z2 => (n2 z1 z2).mono e1
    · obtain ⟨i, rfl⟩ := isInt_cases z
      cases hd2
      refine ev_is (ev_op (ev_var rfl) ev_c (rv_ne rfl)) ?_
      show V.bl (!decide (V.int i = V.int 0)) = V.bl (!decide (i = 0))
      by_cases hi : i = 0
      · rw [hi, decide_eq_true rfl, decide_eq_true rfl]
      · rw [decide_eq_false hi, decide_eq_false (fun z => hi (V.int.inj z))]
    · obtain ⟨t, b, rfl, rfl, hb, hq⟩ := q z1 z2
      cases hd1
      cases hd2
      have hb0 : b ≠ 0 := fun z => by
        subst z
        cases z2
      exact s_retU (eu_lowest (ev_var rfl) (ev_var rfl) hb0 hb) fun p H3 hp e3 hx => hq.go (e1.trans e2) hp e3 hx
/-! ### plus, minus, times, over, less -/
theorem dp_pair {H : Hp} {v : V} {a b : Int} (h : Dp K H v (.tuple [.int a, .int b])) : ∃ p, v = .ref p ∧ SqT K H p [.int a, .int b] := by
  obtain ⟨p, xs, rfl, hs, ha⟩ := dp_tup_inv h
  have e := dpAll_int_inv (ns := [a, b]) ha
  subst e
  exact ⟨p, rfl, hs⟩
theorem pair_dp {H : Hp} {p : Addr} {a b : Int} (h : SqT K H p [.int a, .int b]) : Dp K H (.ref p) (.tuple [.int a, .int b]) := .tup h (dpAll_ints [a, b])
/-- what plus, minus, times, over promise: f tells the number by cross-multiplying -/
def spQ2 (K : PySem.W.Frag) (C : Addr) (bad : Int → Bool) (f : Int → Int → Int → Int → Int × Int) : Sp := fun vs H Q E => ∃ (v1 v2 : V) (d1 d2 : PyData), vs = [v1, v2] ∧ Dp K H v1 d1 ∧ Dp K H v2 d2 ∧
  (isQ d1 = false → NU C "one" H E) ∧ (isQ d1 = true → isQ d2 = false → NU C "other" H E) ∧
  (isQ d1 = true → isQ d2 = true → ∃ a b c e : Int, d1 = .tuple [.int a, .int b] ∧ d2 = .tuple [.int c, .int e] ∧ ((bad c = true ∧ NU C "other" H E) ∨
    (bad c = false ∧ Sm a ∧ Sm b ∧ Sm c ∧ Sm e ∧ RetU [.int (low (f a b c e).1 (f a b c e).2).1, .int (low (f a b c e).1 (f a b c e).2).2] H Q)))
def fPlus (a b c e : Int) : Int × Int := (a * e + c * b, b * e)
def fMinus (a b c e : Int) : Int × Int := (a * e - c * b, b * e)
def fTimes (a b c e : Int) : Int × Int := (a * c, b * e)
def fOver (a b c e : Int) : Int × Int := (a * e, b * c)
def never (_ : Int) : Bool := false
def nought (c : Int) : Bool := decide (c = 0)
theorem q_needTwo {σ : L2.St} {H : Hp} {D : Ends} {v1 v2 : V} {d1 d2 : PyData} {t1 t2 : TE} {E : XK} {tz : TS} (h1 : Ev t1 σ H v1) (h2 : Ev t2 σ H v2) (hd1 : Dp K H v1 d1) (hd2 : Dp K H v2 d2)
    (n1 : isQ d1 = false → NU C "one" H E) (n2 : isQ d1 = true → isQ d2 = false → NU C "other" H E) (k : isQ d1 = true → isQ d2 = true → ∀ H1, Ex H H1 → tz D σ H1) :
    tSeq (tDrop (tCall (spNeedTwo K C) [] E (tCons t1 (tCons t2 tNil)))) tz D σ H := by
  show tCons t1 (tCons t2 tNil) σ H (fun vs H1 => spNeedTwo K C (vs ++ []) H1 (fun _ H2 => tz D σ H2) E)
  refine (ea_cons h1 (ea_cons h2 ea_nil)) H (Ex.refl H) _ fun H1 e1 => ?_
  exact ⟨v1, v2, d1, d2, rfl, dp_mono e1 _ _ hd1, dp_mono e1 _ _ hd2, fun z => (n1 z).mono e1, fun z z' => (n2 z z').mono e1, fun z z' H2 e2 => k z z' H2 (e1.trans e2)⟩
theorem ev_i0 {σ : L2.St} {H : Hp} {te : TE} {p : Addr} {a b : V} (h : Ev te σ H (.ref p)) (hs : SqT K H p [a, b]) : Ev (tOp (rIxT K) te (tC (.int 0))) σ H a := ev_op h ev_c (rv_ixT hs rfl)
theorem ev_i1 {σ : L2.St} {H : Hp} {te : TE} {p : Addr} {a b : V} (h : Ev te σ H (.ref p)) (hs : SqT K H p [a, b]) : Ev (tOp (rIxT K) te (tC (.int 1))) σ H b := ev_op h ev_c (rv_ixT hs rfl)
theorem fn_plus {f : Addr} {fd : FuncData} (F : Fun K "plus" "plus" s_plus f fd) (G_need_two : Cal P w K mg base (L2N.CX P w) 4 "need_two" ["one", "other"] (spNeedTwo K C)) (G_lowest : Cal P w K mg base CX0 2 "lowest" ["top", "bottom"] spLowest) :
    FnOk P w K mg base (L2N.CX P w) 5 f fd ["one", "other"] (spQ2 K C never fPlus) := by
  refine okN F sc_plus (fun vs H Q E h => ?_) (fun cdv A outer s H vs Q E hr h => ?_)
  · obtain ⟨v1, v2, d1, d2, rfl, _⟩ := h
    rfl
  · obtain ⟨v1, v2, d1, d2, rfl, hd1, hd2, n1, n2, q⟩ := h
    refine ⟨_, ((pss_cons (ps_expr (pcal G_need_two hr (L2N.passes_call (L2N.takes_of rfl rfl rfl rfl) fun _ _ _ _ z => z) (pa_cons (pv 0) (pa_cons (pv 1) pa_nil))))
      (pss_one (ps_ret (pcal G_lowest hr pass0 (pa_cons (pe_op op_add (pe_op op_mulW (pe_ix ix_tup (pv 0) pe_int (fun _ _ => rfl)) (pe_ix ix_tup (pv 1) pe_int (fun _ _ => rfl))) (pe_op op_mulW (pe_ix ix_tup (pv 1) pe_int (fun _ _ => rfl)) (pe_ix ix_tup (pv 0) pe_int (fun _ _ => rfl)))) (pa_cons (pe_op op_mulW (pe_ix ix_tup (pv 0) pe_int (fun _ _ => rfl)) (pe_ix ix_tup (pv 1) pe_int (fun _ _ => rfl))) pa_nil))))))), ?_⟩
    refine q_needTwo (ev_var rfl) (ev_var rfl) hd1 hd2 n1 n2 fun z1 z2 H1 e1 => ?_
    obtain ⟨a, b, c, e, rfl, rfl, h⟩ := q z1 z2
    rcases h with ⟨h, _⟩ | ⟨_, sa, sb, sc, se, q⟩
    · cases h
    obtain ⟨a', b', ee, hb, _⟩ := isQ_cases z1
    cases ee
    obtain ⟨c', e', ee, he, _⟩ := isQ_cases z2
    cases ee
    obtain ⟨p1, rfl, s1⟩ := dp_pair (dp_mono e1 _ _ hd1)
    obtain ⟨p2, rfl, s2⟩ := dp_pair (dp_mono e1 _ _ hd2)
    have hpos : 0 < b * e := Int.mul_pos (by omega) (by omega)
    have hsm := sm_prod sb se
    refine s_retU (eu_lowest (ev_op (ev_op (ev_i0 (ev_var rfl) s1) (ev_i1 (ev_var rfl) s2) (rv_I (sm_mul sa se))) (ev_op (ev_i0 (ev_var rfl) s2) (ev_i1 (ev_var rfl) s1) (rv_I (sm_mul sc sb))) rv_I0)
      (ev_op (ev_i1 (ev_var rfl) s1) (ev_i1 (ev_var rfl) s2) (rv_I (sm_mul sb se))) (by omega) (by omega)) fun p H3 hp e3 hx => q.go e1 hp e3 hx
theorem fn_minus {f : Addr} {fd : FuncData} (F : Fun K "minus" "minus" s_minus f fd) (G_need_two : Cal P w K mg base (L2N.CX P w) 4 "need_two" ["one", "other"] (spNeedTwo K C)) (G_lowest : Cal P w K mg base CX0 2 "lowest" ["top", "bottom"] spLowest) :
    FnOk P w K mg base (L2N.CX P w) 5 f fd ["one", "other"] (spQ2 K C never fMinus) := by
  refine okN F sc_minus (fun vs H Q E h => ?_) (fun cdv A outer s H vs Q E hr h => ?_)
  · obtain ⟨v1, v2, d1, d2, rfl, _⟩ := h
    rfl
  · obtain ⟨v1, v2, d1, d2, rfl, hd1, hd2, n1, n2, q⟩ := h
    refine ⟨_, ((pss_cons (ps_expr (pcal G_need_two hr (L2N.passes_call (L2N.takes_of rfl rfl rfl rfl) fun _ _ _ _ z => z) (pa_cons (pv 0) (pa_cons (pv 1) pa_nil))))
      (pss_one (ps_ret (pcal G_lowest hr pass0 (pa_cons (pe_op op_sub (pe_op op_mulW (pe_ix ix_tup (pv 0) pe_int (fun _ _ => rfl)) (pe_ix ix_tup (pv 1) pe_int (fun _ _ => rfl))) (pe_op op_mulW (pe_ix ix_tup (pv 1) pe_int (fun _ _ => rfl)) (pe_ix ix_tup (pv 0) pe_int (fun _ _ => rfl)))) (pa_cons (pe_op op_mulW (pe_ix ix_tup (pv 0) pe_int (fun _ _ => rfl)) (pe_ix ix_tup (pv 1) pe_int (fun _ _ => rfl))) pa_nil))))))), ?_⟩
    refine q_needTwo (ev_var rfl) (ev_var rfl) hd1 hd2 n1 n2 fun z1 z2 H1 e1 => ?_
    obtain ⟨a, b, c, e, rfl, rfl, h⟩ := q z1 z2
    rcases h with ⟨h, _⟩ | ⟨_, sa, sb, sc, se, q⟩
    · cases h
    obtain ⟨a', b', ee, hb, _⟩ := isQ_cases z1
    cases ee
    obtain ⟨c', e', ee, he, _⟩ := isQ_cases z2
    cases ee
    obtain ⟨p1, rfl, s1⟩ := dp_pair (dp_mono e1 _ _ hd1)
    obtain ⟨p2, rfl, s2⟩ := dp_pair (dp_mono e1 _ _ hd2)
    have hpos : 0 < b * e := Int.mul_pos (by omega) (by omega)
    have hsm := sm_prod sb se
    refine s_retU (eu_lowest (ev_op (ev_op (ev_i0 (ev_var rfl) s1) (ev_i1 (ev_var rfl) s2) (rv_I (sm_mul sa se))) (ev_op (ev_i0 (ev_var rfl) s2) (ev_i1 (ev_var rfl) s1) (rv_I (sm_mul sc sb))) rv_I0)
      (ev_op (ev_i1 (ev_var rfl) s1) (ev_i1 (ev_var rfl) s2) (rv_I (sm_mul sb se))) (by omega) (by omega)) fun p H3 hp e3 hx => q.go e1 hp e3 hx
theorem fn_times {f : Addr} {fd : FuncData} (F : Fun K "times" "times" s_times f fd) (G_need_two : Cal P w K mg base (L2N.CX P w) 4 "need_two" ["one", "other"] (spNeedTwo K C)) (G_lowest : Cal P w K mg base CX0 2 "lowest" ["top", "bottom"] spLowest) :
    FnOk P w K mg base (L2N.CX P w) 5 f fd ["one", "other"] (spQ2 K C never fTimes) := by
  refine okN F sc_times (fun vs H Q E h => ?_) (fun cdv A outer s H vs Q E hr h => ?_)
  · obtain ⟨v1, v2, d1, d2, rfl, _⟩ := h
    rfl
  · obtain ⟨v1, v2, d1, d2, rfl, hd1, hd2, n1, n2, q⟩ := h
    refine ⟨_, ((pss_cons (ps_expr (pcal G_need_two hr (L2N.passes_call (L2N.takes_of rfl rfl rfl rfl) fun _ _ _ _ z => z) (pa_cons (pv 0) (pa_cons (pv 1) pa_nil))))
      (pss_one (ps_ret (pcal G_lowest hr pass0 (pa_cons (pe_op op_mulW (pe_ix ix_tup (pv 0) pe_int (fun _ _ => rfl)) (pe_ix ix_tup (pv 1) pe_int (fun _ _ => rfl))) (pa_cons (pe_op op_mulW (pe_ix ix_tup (pv 0) pe_int (fun _ _ => rfl)) (pe_ix ix_tup (pv 1) pe_int (fun _ _ => rfl))) pa_nil))))))), ?_⟩
    refine q_needTwo (ev_var rfl) (ev_var rfl) hd1 hd2 n1 n2 fun z1 z2 H1 e1 => ?_
    obtain ⟨a, b, c, e, rfl, rfl, h⟩ := q z1 z2
    rcases h with ⟨h, _⟩ | ⟨_, sa, sb, sc, se, q⟩
    · cases h
    obtain ⟨a', b', ee, hb, _⟩ := isQ_cases z1
    cases ee
    obtain ⟨c', e', ee, he, _⟩ := isQ_cases z2
    cases ee
    obtain ⟨p1, rfl, s1⟩ := dp_pair (dp_mono e1 _ _ hd1)
    obtain ⟨p2, rfl, s2⟩ := dp_pair (dp_mono e1 _ _ hd2)
    have hpos : 0 < b * e := Int.mul_pos (by omega) (by omega)
    have hsm := sm_prod sb se
    refine s_retU (eu_lowest (ev_op (ev_i0 (ev_var rfl) s1) (ev_i0 (ev_var rfl) s2) (rv_I (sm_mul sa sc)))
      (ev_op (ev_i1 (ev_var rfl) s1) (ev_i1 (ev_var rfl) s2) (rv_I (sm_mul sb se))) (by omega) (by omega)) fun p H3 hp e3 hx => q.go e1 hp e3 hx
theorem fn_over {f : Addr} {fd : FuncData} (F : Fun K "over" "over" s_over f fd) (G_need : Cal P w K mg base (L2N.CX P w) 3 "need" ["holds", "name"] (spNeed C)) (G_need_two : Cal P w K mg base (L2N.CX P w) 4 "need_two" ["one", "other"] (spNeedTwo K C)) (G_lowest : Cal P w K mg base CX0 2 "lowest" ["top", "bottom"] spLowest) :
    FnOk P w K mg base (L2N.CX P w) 5 f fd ["one", "other"] (spQ2 K C nought fOver) := by
  refine okN F sc_over (fun vs H Q E h => ?_) (fun cdv A outer s H vs Q E hr h => ?_)
  · obtain ⟨v1, v2, d1, d2, rfl, _⟩ := h
    rfl
  · obtain ⟨v1, v2, d1, d2, rfl, hd1, hd2, n1, n2, q⟩ := h
    refine ⟨_, ((pss_cons (ps_expr (pcal G_need_two hr (L2N.passes_call (L2N.takes_of rfl rfl rfl rfl) fun _ _ _ _ z => z) (pa_cons (pv 0) (pa_cons (pv 1) pa_nil))))
      (pss_cons (ps_expr (pcal G_need hr (L2N.passes_call (L2N.takes_of rfl rfl rfl rfl) fun _ _ _ _ z => z) (pa_cons (pe_cmpR op_ne (pe_ix ix_tup (pv 1) pe_int (fun _ _ => rfl)) pe_int (nomark _)) (pa_cons pe_str pa_nil))))
      (pss_one (ps_ret (pcal G_lowest hr pass0 (pa_cons (pe_op op_mulW (pe_ix ix_tup (pv 0) pe_int (fun _ _ => rfl)) (pe_ix ix_tup (pv 1) pe_int (fun _ _ => rfl))) (pa_cons (pe_op op_mulW (pe_ix ix_tup (pv 0) pe_int (fun _ _ => rfl)) (pe_ix ix_tup (pv 1) pe_int (fun _ _ => rfl))) pa_nil)))))))), ?_⟩
    refine q_needTwo (ev_var rfl) (ev_var rfl) hd1 hd2 n1 n2 fun z1 z2 H1 e1 => ?_
    obtain ⟨a, b, c, e, rfl, rfl, h⟩ := q z1 z2
    obtain ⟨a', b', ee, hb, _⟩ := isQ_cases z1
    cases ee
    obtain ⟨c', e', ee, he, _⟩ := isQ_cases z2
    cases ee
    obtain ⟨p1, rfl, s1⟩ := dp_pair (dp_mono e1 _ _ hd1)
    obtain ⟨p2, rfl, s2⟩ := dp_pair (dp_mono e1 _ _ hd2)
    refine q_need (ev_op (ev_i0 (ev_var rfl) s2) ev_c (rv_ne rfl)) (fun z H2 e2 => ?_) fun z => ?_
    · have hc : c ≠ 0 := fun hc => by
        subst hc
        rw [decide_eq_true rfl] at z
        cases z
      rcases h with ⟨h, _⟩ | ⟨_, sa, sb, sc, se, q⟩
      · exact absurd (of_decide_eq_true h) hc
      have hne : b * c ≠ 0 := Int.mul_ne_zero (by omega) hc
      have hsm := sm_prod sb sc
      refine s_retU (eu_lowest (ev_op (ev_i0 (ev_var rfl) (ex_t e2 s1)) (ev_i1 (ev_var rfl) (ex_t e2 s2)) (rv_I (sm_mul sa se)))
        (ev_op (ev_i1 (ev_var rfl) (ex_t e2 s1)) (ev_i0 (ev_var rfl) (ex_t e2 s2)) (rv_I (sm_mul sb sc))) hne (by omega)) fun p H3 hp e3 hx => q.go (e1.trans e2) hp e3 hx
    · have hc : c = 0 := V.int.inj (of_decide_eq_true (ite_not_false z))
      rcases h with ⟨_, h⟩ | ⟨h, _⟩
      · exact h.mono e1
      · exact absurd hc (of_decide_eq_false h)
def spLess (K : PySem.W.Frag) (C : Addr) : Sp := fun vs H Q E => ∃ (v1 v2 : V) (d1 d2 : PyData), vs = [v1, v2] ∧ Dp K H v1 d1 ∧ Dp K H v2 d2 ∧
  (isQ d1 = false → NU C "one" H E) ∧ (isQ d1 = true → isQ d2 = false → NU C "other" H E) ∧
  (isQ d1 = true → isQ d2 = true → ∃ a b c e : Int, d1 = .tuple [.int a, .int b] ∧ d2 = .tuple [.int c, .int e] ∧ Sm a ∧ Sm b ∧ Sm c ∧ Sm e ∧ RetV (.bl (decide (a * e < c * b))) H Q)
theorem fn_less {f : Addr} {fd : FuncData} (F : Fun K "less" "less" s_less f fd) (G_need_two : Cal P w K mg base (L2N.CX P w) 4 "need_two" ["one", "other"] (spNeedTwo K C)) :
    FnOk P w K mg base (L2N.CX P w) 5 f fd ["one", "other"] (spLess K C) := by
  refine okN F sc_less (fun vs H Q E h => ?_) (fun cdv A outer s H vs Q E hr h => ?_)
  · obtain ⟨v1, v2, d1, d2, rfl, _⟩ := h
    rfl
  · obtain ⟨v1, v2, d1, d2, rfl, hd1, hd2, n1, n2, q⟩ := h
    refine ⟨_, ((pss_cons (ps_expr (pcal G_need_two hr (L2N.passes_call (L2N.takes_of rfl rfl rfl rfl) fun _ _ _ _ z => z) (pa_cons (pv 0) (pa_cons (pv 1) pa_nil))))
      (pss_one (ps_ret (pe_cmpR op_lt (pe_op op_mulW (pe_ix ix_tup (pv 0) pe_int (fun _ _ => rfl)) (pe_ix ix_tup (pv 1) pe_int (fun _ _ => rfl))) (pe_op op_mulW (pe_ix ix_tup (pv 1) pe_int (fun _ _ => rfl)) (pe_ix ix_tup (pv 0) pe_int (fun _ _ => rfl))) (nomark _)))))), ?_⟩
    refine q_needTwo (ev_var rfl) (ev_var rfl) hd1 hd2 n1 n2 fun z1 z2 H1 e1 => ?_
    obtain ⟨a, b, c, e, rfl, rfl, sa, sb, sc, se, q⟩ := q z1 z2
    obtain ⟨p1, rfl, s1⟩ := dp_pair (dp_mono e1 _ _ hd1)
    obtain ⟨p2, rfl, s2⟩ := dp_pair (dp_mono e1 _ _ hd2)
    exact s_ret (ev_op (ev_op (ev_i0 (ev_var rfl) s1) (ev_i1 (ev_var rfl) s2) (rv_I (sm_mul sa se))) (ev_op (ev_i0 (ev_var rfl) s2) (ev_i1 (ev_var rfl) s1) (rv_I (sm_mul sc sb))) rv_I0) fun H3 e3 => q H3 (e1.trans e3)
end
end K1
namespace K1
open PySem PySem.Spec PyProof.Rows L2 Evl
/-! ### all but one list stands -/
def ExM (L : Addr) (H H' : Hp) : Prop := ∀ a o, a ≠ L → H a = some o → H' a = some o
theorem exm_of {L : Addr} {H H' : Hp} (e : Ex H H') : ExM L H H' := fun a o _ h => e a o h
theorem ExM.refl (L : Addr) (H : Hp) : ExM L H H := fun _ _ _ h => h
theorem ExM.trans {L : Addr} {H H1 H2 : Hp} (a : ExM L H H1) (b : ExM L H1 H2) : ExM L H H2 := fun p o hp h => b p o hp (a p o hp h)
theorem ExM.upd {L : Addr} {H : Hp} {o : HO} : ExM L H (upd H L o) := fun a u ha h => by rw [upd_ne ha]; exact h
/-- at L stands some list -/
def Ls (H : Hp) (L : Addr) : Prop := ∃ xs, H L = some (.lst xs)
section
variable {K : PySem.W.Frag} {H H' : Hp} {L : Addr}
theorem exm_t {p : Addr} {xs : List V} (hL : Ls H L) (e : ExM L H H') (h : SqT K H p xs) : SqT K H' p xs := by
  obtain ⟨ys, hL⟩ := hL
  rcases h with (h | ⟨o, h⟩) | h
  · exact .inl (.inl (e p _ (ne_of h hL (fun z => nomatch z)) h))
  · exact .inl (.inr ⟨o, e p _ (ne_of h hL (fun z => nomatch z)) h⟩)
  · exact .inr h
/-- no list within -/
def noLst : PyData → Bool
  | .list _ => false
  | .tuple ds => noLsts ds
  | _ => true
where noLsts : List PyData → Bool
  | [] => true
  | d :: ds => noLst d && noLsts ds
mutual
theorem dp_exm (hL : Ls H L) (e : ExM L H H') : ∀ (d : PyData) (v : V), noLst d = true → Dp K H v d → Dp K H' v d
  | .none, _, _, h => by cases h; exact .non
  | .bool b, _, _, h => by cases h; exact .bl b
  | .int i, _, _, h => by cases h; exact .int i
  | .str x, _, _, h => by cases h; exact .str x
  | .list ds, _, z, h => by cases z
  | .tuple ds, _, z, h => by
    cases h with
    | tup hs ha => exact .tup (exm_t hL e hs) (dpAll_exm hL e ds _ z ha)
  | .dict _, _, _, h => by cases h
theorem dpAll_exm (hL : Ls H L) (e : ExM L H H') : ∀ (ds : List PyData) (vs : List V), noLst.noLsts ds = true → DpAll K H vs ds → DpAll K H' vs ds
  | [], _, _, h => by cases h; exact .nil
  | d :: ds, _, z, h => by
    obtain ⟨z1, z2⟩ := Bool.and_eq_true_iff.mp z
    cases h with
    | cons h1 h2 => exact .cons (dp_exm hL e d _ z1 h1) (dpAll_exm hL e ds _ z2 h2)
end
theorem noLsts_iff : ∀ {ds : List PyData}, noLst.noLsts ds = true ↔ ∀ d ∈ ds, noLst d = true
  | [] => ⟨fun _ d h => absurd h List.not_mem_nil, fun _ => rfl⟩
  | d :: ds => by
    show (noLst d && noLst.noLsts ds) = true ↔ _
    rw [Bool.and_eq_true_iff, noLsts_iff]
    exact ⟨fun h x hx => (List.mem_cons.mp hx).elim (fun z => by rw [z]; exact h.1) (h.2 x), fun h => ⟨h d List.mem_cons_self, fun x hx => h x (List.mem_cons_of_mem _ hx)⟩⟩
end
/-! ### joinings as lists of places -/
abbrev nI (n : Nat) : PyData := .int (n : Int)
abbrev nV (n : Nat) : V := .int (n : Int)
def dTup (l : List Nat) : PyData := .tuple (l.map nI)
/-- a joining -/
def JL (f : List Nat) : Prop := ∀ (i n : Nat), f[i]? = some n → n ≤ i ∧ f[n]? = some n
theorem noLst_dTup (l : List Nat) : noLst (dTup l) = true := noLsts_iff.mpr fun d hd => by
  obtain ⟨n, _, rfl⟩ := List.mem_map.mp hd
  rfl
theorem ints_of_all : ∀ {ds : List PyData}, (∀ i < ds.length, ∃ n : Nat, ds[i]? = some (nI n)) → ∃ f : List Nat, ds = f.map nI
  | [], _ => ⟨[], rfl⟩
  | d :: ds, h => by
    obtain ⟨n, hn⟩ := h 0 (Nat.zero_lt_succ _)
    obtain ⟨f, hf⟩ := ints_of_all (ds := ds) fun i hi => h (i + 1) (Nat.succ_lt_succ hi)
    have e := Option.some.inj hn
    exact ⟨n :: f, by rw [e, hf]; rfl⟩
theorem isJ_list {m : Int} {d : PyData} (h : isJ m d = true) : ∃ f : List Nat, d = dTup f ∧ (f.length : Int) = m ∧ JL f := by
  cases d with
  | tuple ds =>
    obtain ⟨h1, h2⟩ := isJ_tuple.mp h
    obtain ⟨f, rfl⟩ := ints_of_all (ds := ds) fun i hi => by
      obtain ⟨n, hn, _⟩ := jAt_int (h2 i hi)
      exact ⟨n, hn⟩
    refine ⟨f, rfl, by rw [List.length_map] at h1; exact h1, fun i n hi => ?_⟩
    obtain ⟨n', e1, e2, e3⟩ := jAt_int (h2 i (by rw [List.length_map]; exact get_lt hi))
    rw [List.getElem?_map, hi] at e1
    have en : n' = n := by
      have := PyData.int.inj (Option.some.inj e1)
      omega
    subst en
    rw [List.getElem?_map] at e3
    cases hg : f[n']? with
    | none =>
      rw [hg] at e3
      cases e3
    | some k =>
      rw [hg] at e3
      have := PyData.int.inj (Option.some.inj e3)
      exact ⟨e2, congrArg some (by omega)⟩
  | _ => cases h
theorem isJ_of {f : List Nat} (h : JL f) : isJ (f.length : Int) (dTup f) = true := by
  refine isJ_tuple.mpr ⟨by rw [List.length_map], fun i hi => ?_⟩
  rw [List.length_map] at hi
  obtain ⟨h1, h2⟩ := h i f[i] (List.getElem?_eq_getElem hi)
  exact jAt_of (n := f[i]) (by rw [List.getElem?_map, List.getElem?_eq_getElem hi]; rfl) h1 (by rw [List.getElem?_map, h2]; rfl)
/-! ### joined_with -/
/-- what the loop does at place p -/
def jwStep (g l : List Nat) (p : Nat) : List Nat := l.map fun x => if x = max (l.getD p 0) (l.getD (g.getD p 0) 0) then min (l.getD p 0) (l.getD (g.getD p 0) 0) else x
def jwTo (f g : List Nat) (n : Nat) : List Nat := (List.range n).foldl (jwStep g) f
theorem jwTo_succ (f g : List Nat) (n : Nat) : jwTo f g (n + 1) = jwStep g (jwTo f g n) n := by
  unfold jwTo
  rw [List.range_succ, List.foldl_append]
  rfl
theorem jwTo_len (f g : List Nat) : ∀ n, (jwTo f g n).length = f.length
  | 0 => rfl
  | n + 1 => by
    rw [jwTo_succ, jwStep, List.length_map]
    exact jwTo_len f g n
theorem getD_at {l : List Nat} {p : Nat} (h : p < l.length) : l[p]? = some (l.getD p 0) := by
  rw [List.getD_eq_getElem?_getD, List.getElem?_eq_getElem h]
  rfl
theorem map_nV_at {l : List Nat} {p : Nat} (h : p < l.length) : (l.map nV)[p]? = some (.int ((l.getD p 0 : Nat) : Int)) := by
  rw [List.getElem?_map, getD_at h]
  rfl
theorem given_all {n : Nat} {v : Nat → V} : given n (fun _ => true) v = (List.range n).map v := by
  unfold given
  rw [List.filter_eq_self.mpr fun _ _ => rfl]
theorem map_range {α β : Type} (l : List α) (d : α) (f : α → β) : (List.range l.length).map (fun i => f (l.getD i d)) = l.map f := by
  refine List.ext_getElem? fun i => ?_
  rw [List.getElem?_map, List.getElem?_map]
  by_cases h : i < l.length
  · rw [List.getElem?_range h, List.getElem?_eq_getElem h, Option.map_some, Option.map_some, List.getD_eq_getElem?_getD, List.getElem?_eq_getElem h]
    rfl
  · rw [List.getElem?_eq_none (by rw [List.length_range]; omega), List.getElem?_eq_none (l := l) (by omega)]
    rfl
section
variable {P : Program} {w : World} {K : PySem.W.Frag} {mg : Str → Option Value} {base : Heap} {C fI cW cL cP : Addr}
def spJoinedWith (K : PySem.W.Frag) (C : Addr) : Sp := fun vs H Q E => ∃ (m : Nat) (v1 v2 : V) (d1 d2 : PyData), vs = [.int (m : Int), v1, v2] ∧ m ≤ 1000 ∧ Dp K H v1 d1 ∧ Dp K H v2 d2 ∧
  (isJ m d1 = false → NU C "joining" H E) ∧ (isJ m d1 = true → isJ m d2 = false → NU C "other" H E) ∧
  (isJ m d1 = true → isJ m d2 = true → ∃ f g : List Nat, d1 = dTup f ∧ d2 = dTup g ∧ RetU ((jwTo f g m).map nV) H Q)
theorem dTup_inv {H : Hp} {v : V} {l : List Nat} (h : Dp K H v (dTup l)) : ∃ p, v = .ref p ∧ SqT K H p (l.map nV) := by
  obtain ⟨p, xs, rfl, hs, ha⟩ := dp_tup_inv h
  have e : xs = (l.map (fun n : Nat => (n : Int))).map V.int := dpAll_int_inv (by rw [List.map_map]; exact ha)
  rw [List.map_map] at e
  subst e
  exact ⟨p, rfl, hs⟩
theorem dTup_of {H : Hp} {p : Addr} {l : List Nat} (h : SqT K H p (l.map nV)) : Dp K H (.ref p) (dTup l) := by
  refine .tup h ?_
  have z := dpAll_ints (K := K) (H := H) (l.map (fun n : Nat => (n : Int)))
  rw [List.map_map, List.map_map] at z
  exact z
theorem ev_min2 {σ : L2.St} {H : Hp} {ta tb : TE} {a b : Nat} (ha : Ev ta σ H (.int (a : Int))) (hb : Ev tb σ H (.int (b : Int))) :
    Ev (tCB (fun xs H Q => ∃ i j, xs = [.int i, .int j] ∧ Q (.int (if j < i then j else i)) H) (tCons ta (tCons tb tNil))) σ H (.int ((min a b : Nat) : Int)) := by
  refine ev_cb (ea_cons ha (ea_cons hb ea_nil)) fun H1 e1 Q q => ⟨_, _, rfl, ?_⟩
  have e : (if (b : Int) < (a : Int) then (b : Int) else (a : Int)) = ((min a b : Nat) : Int) := by
    split <;> omega
  rw [e]
  exact q _ (Ex.refl _)
theorem ev_max2n {σ : L2.St} {H : Hp} {ta tb : TE} {a b : Nat} (ha : Ev ta σ H (.int (a : Int))) (hb : Ev tb σ H (.int (b : Int))) :
    Ev (tCB (fun xs H Q => ∃ i j, xs = [.int i, .int j] ∧ Q (.int (if j > i then j else i)) H) (tCons ta (tCons tb tNil))) σ H (.int ((max a b : Nat) : Int)) := by
  refine ev_cb (ea_cons ha (ea_cons hb ea_nil)) fun H1 e1 Q q => ⟨_, _, rfl, ?_⟩
  have e : (if (b : Int) > (a : Int) then (b : Int) else (a : Int)) = ((max a b : Nat) : Int) := by
    split <;> omega
  rw [e]
  exact q _ (Ex.refl _)
theorem el_listT {σ : L2.St} {H : Hp} {ta : TE} {p : Addr} {xs : List V} (ha : Ev ta σ H (.ref p)) (h : SqT K H p xs) : EvL (tCB (rListS K) (tCons ta tNil)) σ H xs :=
  el_cb (ea_cons ha ea_nil) fun H1 e1 Q q => ⟨p, xs, rfl, .inr (ex_t e1 h), fun l hl => q l _ hl (Ex.new hl) upd_same⟩
/-- tuple(list) -/
theorem eu_tupleL {σ : L2.St} {H : Hp} {ta : TE} {p : Addr} {xs : List V} (ha : Ev ta σ H (.ref p)) (h : SqL K H p xs) :
    EvU (tCB (fun xs H Q => ∃ p ys, xs = [.ref p] ∧ ((SqL K H p ys ∧ ∀ l, H l = none → Q (.ref l) (upd H l (.tup ys))) ∨ (SqT K H p ys ∧ Q (.ref p) H))) (tCons ta tNil)) σ H xs := by
  intro H1 e1 Q q
  exact (ea_cons ha ea_nil) H1 e1 _ fun H2 e2 => ⟨p, xs, rfl, .inl ⟨ex_l (e1.trans e2) h, fun l hl => q l _ (fresh_back e2 hl) (e2.trans (Ex.new hl)) upd_same⟩⟩
theorem jl_bound {f : List Nat} (h : JL f) {p : Nat} (hp : p < f.length) : f.getD p 0 < f.length := by
  have := (h p _ (getD_at hp)).1
  omega
theorem fn_joined_with {f : Addr} {fd : FuncData} (B : Blt mg) (F : Fun K "joined_with" "joined_with" s_joined_with f fd) (G_need : Cal P w K mg base (L2N.CX P w) 3 "need" ["holds", "name"] (spNeed C)) (G_is_joining : Cal P w K mg base CX0 3 "is_joining" ["many", "thing"] (spIsJ K)) :
    FnOk P w K mg base (L2N.CX P w) 4 f fd ["many", "joining", "other"] (spJoinedWith K C) := by
  refine okN F sc_joined_with (fun vs H Q E h => ?_) (fun cdv A outer s H vs Q E hr h => ?_)
  · obtain ⟨m, v1, v2, d1, d2, rfl, _⟩ := h
    rfl
  · obtain ⟨m, v1, v2, d1, d2, rfl, hm, hd1, hd2, n1, n2, q⟩ := h
    refine ⟨_, ((pss_cons (ps_expr (pcal G_need hr (L2N.passes_call (L2N.takes_of rfl rfl rfl rfl) fun _ _ _ _ z => z) (pa_cons (pcal G_is_joining hr pass0 (pa_cons (pv 0) (pa_cons (pv 1) pa_nil))) (pa_cons pe_str pa_nil))))
      (pss_cons (ps_expr (pcal G_need hr (L2N.passes_call (L2N.takes_of rfl rfl rfl rfl) fun _ _ _ _ z => z) (pa_cons (pcal G_is_joining hr pass0 (pa_cons (pv 0) (pa_cons (pv 2) pa_nil))) (pa_cons pe_str pa_nil))))
      (pss_cons (ps_set (i := 3) sc_joined_with.nd rfl (.inl rfl) (pe_callTy call_list_of (by rfl) B.b_list bt_list (pa_cons (pv 1) pa_nil)))
      (pss_cons (ps_for (L2.passes_of rfl) rfl (pi_range1 (by rfl) B.b_range (pa_cons (pv 0) pa_nil)) (pg_name (i := 4) sc_joined_with.nd rfl (.inl rfl)) (pss_cons (ps_set (i := 5) sc_joined_with.nd rfl (.inl rfl) (pe_ix ix_list (pv 3) (pv 4) (fun _ _ => rfl)))
      (pss_cons (ps_set (i := 6) sc_joined_with.nd rfl (.inl rfl) (pe_ix ix_list (pv 3) (pe_ix ix_tup (pv 2) (pv 4) (fun _ _ => rfl)) (fun _ _ => rfl)))
      (pss_cons (ps_set (i := 7) sc_joined_with.nd rfl (.inr rfl) (pe_callB (call_min2 rfl) (by rfl) B.b_min bt_min (pa_cons (pv 5) (pa_cons (pv 6) pa_nil))))
      (pss_cons (ps_set (i := 8) sc_joined_with.nd rfl (.inr rfl) (pe_callB (call_max2 rfl) (by rfl) B.b_max bt_max (pa_cons (pv 5) (pa_cons (pv 6) pa_nil))))
      (pss_one (ps_setLc (i := 3) (own := [("label", 9)]) (g := gName 9) rfl sc_joined_with.nd rfl rfl (sw_true rfl rfl rfl (by decide +kernel)) (pi_list (pv 3)) (blkOk_by (own := [("label", 9)]) (N := n_joined_with) (sc := defScope s_joined_with) (by decide +kernel)) (fun _ _ _ _ _ => pg_name (i := 9) sc_joined_with.nd rfl (.inl rfl)) (fun _ _ _ _ _ => pts_nil) (fun _ _ _ _ _ => (pe_ifExp (pt_cmpR op_eq (pv 9) (pv 8) (nomark _)) (pv 7) (pv 9))))))))))
      (pss_one (ps_ret (pe_callTy call_tuple_of (by rfl) B.b_tuple bt_tuple (pa_cons (pv 3) pa_nil))))))))), ?_⟩
    refine q_need (ev_isJ (ev_var rfl) (ev_var rfl) hd1) (fun z1 H1 e1 => ?_) n1
    refine q_need (ev_isJ (ev_var rfl) (ev_var rfl) (dp_mono e1 _ _ hd2)) (fun z2 H2 e2 => ?_) fun z2 => (n2 z1 z2).mono e1
    have e12 := e1.trans e2
    obtain ⟨f', g', rfl, rfl, qq⟩ := q z1 z2
    obtain ⟨f1, hf1, lf, jf⟩ := isJ_list z1
    obtain ⟨g1, hg1, lg, jg⟩ := isJ_list z2
    have inj : ∀ {a b : List Nat}, dTup a = dTup b → a = b := fun {a b} h => by
      have z := PyData.tuple.inj h
      exact (List.map_inj_right (fun x y hxy => by have := PyData.int.inj hxy; omega)).mp z
    have ef := inj hf1
    have eg := inj hg1
    subst ef
    subst eg
    have lf' : f'.length = m := by omega
    have lg' : g'.length = m := by omega
    obtain ⟨p1, rfl, s1⟩ := dTup_inv (dp_mono e12 _ _ hd1)
    obtain ⟨p2, rfl, s2⟩ := dTup_inv (dp_mono e12 _ _ hd2)
    refine q_asgL (el_listT (ev_var rfl) s1) fun L H3 hL e3 hx3 => ?_
    have e13 := e12.trans e3
    have s2' := ex_t e3 s2
    refine q_forR1 (ea_cons (ev_var rfl) ea_nil) (by omega) (fun i σ' H' => ∃ (L' : Addr) (y4 y5 y6 y7 y8 y9 : Option V), σ' = [some (.int (m : Int)), some (.ref p1), some (.ref p2), some (.ref L'), y4, y5, y6, y7, y8, y9] ∧ Ex H3 H' ∧ H' L' = some (.lst ((jwTo f' g' i).map nV)))
      (fun H4 e4 => ⟨L, none, none, none, none, none, none, rfl, e4, e4 _ _ hx3⟩) (fun i σ' H' hi hP => ?_) fun σ' H' hP => ?_
    · obtain ⟨L', y4, y5, y6, y7, y8, y9, rfl, e4, hx⟩ := hP
      have him : i < m := by omega
      have hl := jwTo_len f' g' i
      have hgi : g'.getD i 0 < (jwTo f' g' i).length := by
        have := jl_bound jg (p := i) (by omega)
        omega
      refine q_asg (ev_op (ev_var rfl) (ev_var rfl) (rv_ixL (sq_of hx) (atI_nat (map_nV_at (by omega))))) fun H5 e5 => ?_
      refine q_asg (ev_op (ev_var rfl) (ev_op (ev_var rfl) (ev_var rfl) (rv_ixT (ex_t (e4.trans e5) s2') (atI_nat (map_nV_at (by omega))))) (rv_ixL (sq_of (e5 _ _ hx)) (atI_nat (map_nV_at hgi)))) fun H6 e6 => ?_
      refine q_asg (ev_min2 (ev_var rfl) (ev_var rfl)) fun H7 e7 => ?_
      refine q_asg (ev_max2n (ev_var rfl) (ev_var rfl)) fun H8 e8 => ?_
      have e58 := e5.trans (e6.trans (e7.trans e8))
      have hx8 := e58 _ _ hx
      refine s_asgL (el_lcL (fun _ => true) (fun k => nV (if (jwTo f' g' i).getD k 0 = max ((jwTo f' g' i).getD i 0) ((jwTo f' g' i).getD (g'.getD i 0) 0) then min ((jwTo f' g' i).getD i 0) ((jwTo f' g' i).getD (g'.getD i 0) 0) else (jwTo f' g' i).getD k 0))
        (ev_var rfl) (sq_of hx8) (by rw [List.length_map]; omega) (fun x => rfl) (fun k x H9 e9 hk => fun H10 e10 Q' q' => q' H10 (Ex.refl _)) (fun k x H9 e9 hk _ => ?_)) fun L2 H9 hL2 e9 hx9 => ?_
      · have hkl : k < (jwTo f' g' i).length := by
          have := get_lt hk
          rw [List.length_map] at this
          exact this
        rw [map_nV_at hkl] at hk
        have ex := (Option.some.inj hk).symm
        subst ex
        refine ev_if (et_test (ev_op (ev_var rfl) (ev_var rfl) (rv_eq rfl))) (fun z => ?_) fun z => ?_
        · have zz := V.int.inj (of_decide_eq_true z)
          rw [if_pos (by omega)]
          exact ev_var rfl
        · have zz : ¬ (jwTo f' g' i).getD k 0 = max ((jwTo f' g' i).getD i 0) ((jwTo f' g' i).getD (g'.getD i 0) 0) := fun y => of_decide_eq_false z (by rw [y])
          rw [if_neg zz]
          exact ev_var rfl
      · refine ⟨L2, _, _, _, _, _, _, rfl, e4.trans (e58.trans e9), ?_⟩
        rw [hx9, given_all, List.length_map, jwTo_succ]
        congr 2
        unfold jwStep
        rw [List.map_map]
        exact map_range (jwTo f' g' i) 0 (fun x => nV (if x = max ((jwTo f' g' i).getD i 0) ((jwTo f' g' i).getD (g'.getD i 0) 0) then min ((jwTo f' g' i).getD i 0) ((jwTo f' g' i).getD (g'.getD i 0) 0) else x))
    · obtain ⟨L', y4, y5, y6, y7, y8, y9, rfl, e4, hx⟩ := hP
      rw [Int.toNat_natCast] at hx
      exact s_retU (eu_tupleL (ev_var rfl) (sq_of hx)) fun p H5 hp e5 hx5 => qq.go (e13.trans e4) hp e5 hx5
end
end K1
namespace K1
open PySem PySem.Spec PyProof.Rows L2 Evl
/-! ### the blocks of a joining -/
/-- the least places below n -/
def leasts (f : List Nat) (n : Nat) : List Nat := (List.range n).filter fun i => decide (f.getD i 0 = i)
/-- the places below n that are joined with l -/
def mem (f : List Nat) (l n : Nat) : List Nat := (List.range n).filter fun i => decide (f.getD i 0 = l)
def dBlocks (f : List Nat) : PyData := .tuple ((leasts f f.length).map fun l => dTup (mem f l f.length))
theorem leasts_succ (f : List Nat) (n : Nat) : leasts f (n + 1) = leasts f n ++ if f.getD n 0 = n then [n] else [] := by
  unfold leasts
  rw [List.range_succ, List.filter_append]
  congr 1
  by_cases h : f.getD n 0 = n
  · rw [if_pos h]
    exact List.filter_cons_of_pos (by rw [decide_eq_true h])
  · rw [if_neg h]
    exact List.filter_cons_of_neg (by rw [decide_eq_false h]; decide)
theorem mem_succ (f : List Nat) (l n : Nat) : mem f l (n + 1) = mem f l n ++ if f.getD n 0 = l then [n] else [] := by
  unfold mem
  rw [List.range_succ, List.filter_append]
  congr 1
  by_cases h : f.getD n 0 = l
  · rw [if_pos h]
    exact List.filter_cons_of_pos (by rw [decide_eq_true h])
  · rw [if_neg h]
    exact List.filter_cons_of_neg (by rw [decide_eq_false h]; decide)
theorem in_leasts {f : List Nat} {n l : Nat} : l ∈ leasts f n ↔ l < n ∧ f.getD l 0 = l := by
  unfold leasts
  rw [List.mem_filter, List.mem_range, decide_eq_true_iff]
theorem in_mem {f : List Nat} {l n i : Nat} : i ∈ mem f l n ↔ i < n ∧ f.getD i 0 = l := by
  unfold mem
  rw [List.mem_filter, List.mem_range, decide_eq_true_iff]
theorem leasts_len (f : List Nat) (n : Nat) : (leasts f n).length ≤ n := by
  have h := List.length_filter_le (fun i => decide (f.getD i 0 = i)) (List.range n)
  rw [List.length_range] at h
  exact h
theorem mem_len (f : List Nat) (l n : Nat) : (mem f l n).length ≤ n := by
  have h := List.length_filter_le (fun i => decide (f.getD i 0 = l)) (List.range n)
  rw [List.length_range] at h
  exact h
theorem leasts_lt (f : List Nat) (n : Nat) : (leasts f n).Pairwise (· < ·) := List.Pairwise.filter _ List.pairwise_lt_range
theorem mem_lt (f : List Nat) (l n : Nat) : (mem f l n).Pairwise (· < ·) := List.Pairwise.filter _ List.pairwise_lt_range
/-- the dict's entries -/
def ents (ls : List Nat) (ad : Nat → Addr) : List (Key × V) := ls.map fun l : Nat => ((Sum.inl (l : Int) : Key), V.ref (ad l))
theorem valV_ents {ad : Nat → Addr} {l : Nat} : ∀ {ls : List Nat}, valV (ents ls ad) (Sum.inl (l : Int) : Key) = if l ∈ ls then some (.ref (ad l)) else none
  | [] => by rw [if_neg List.not_mem_nil]; rfl
  | k :: ls => by
    by_cases h : k = l
    · subst h
      rw [if_pos List.mem_cons_self]
      exact valV_pos (p := ((Sum.inl (k : Int) : Key), V.ref (ad k))) rfl
    · have hne : ¬ (Sum.inl (k : Int) : Key) = Sum.inl (l : Int) := fun z => h (by have := Sum.inl.inj z; omega)
      have e := valV_neg (p := ((Sum.inl (k : Int) : Key), V.ref (ad k))) (r := ents ls ad) hne
      show valV (((Sum.inl (k : Int) : Key), V.ref (ad k)) :: ents ls ad) (Sum.inl (l : Int)) = _
      rw [e, valV_ents]
      by_cases hm : l ∈ ls
      · rw [if_pos hm, if_pos (List.mem_cons_of_mem _ hm)]
      · rw [if_neg hm, if_neg (fun z => (List.mem_cons.mp z).elim (fun y => h y.symm) hm)]
theorem ents_keys (ls : List Nat) (ad : Nat → Addr) : (ents ls ad).map (·.1) = (ls.map (fun n : Nat => (n : Int))).map Sum.inl := by
  unfold ents
  rw [List.map_map, List.map_map]
  rfl
/-! ### rules that may stand in a comprehension -/
def rTupleOf (K : PySem.W.Frag) : List V → Hp → VK → Prop := fun xs H Q => ∃ p ys, xs = [.ref p] ∧ ((SqL K H p ys ∧ ∀ l, H l = none → Q (.ref l) (upd H l (.tup ys))) ∨ (SqT K H p ys ∧ Q (.ref p) H))
theorem call_tupleK {X : Cx} {K : PySem.W.Frag} (h : X.K = K) : CallR X (.type "tuple") (rTupleOf K) := by
  subst h
  exact call_tuple_of
theorem ix_tupK {X : Cx} {K : PySem.W.Frag} (h : X.K = K) : IxR X (rIxT K) := by
  subst h
  exact ix_tup
theorem ix_listK {X : Cx} {K : PySem.W.Frag} (h : X.K = K) : IxR X (rIxL K) := by
  subst h
  exact ix_list
section
variable {P : Program} {w : World} {K : PySem.W.Frag} {mg : Str → Option Value} {base : Heap} {C fI cW cL cP : Addr}
/-- the value is a datum, new or not; what was tracked stands -/
def RetD (K : PySem.W.Frag) (d : PyData) (H : Hp) (Q : VK) : Prop := ∀ v H2, Ex H H2 → Dp K H2 v d → Q v H2
theorem RetD.mono {d : PyData} {H H' : Hp} {Q : VK} (k : RetD K d H Q) (e : Ex H H') : RetD K d H' Q := fun v H2 e2 h => k v H2 (e.trans e2) h
def spBlocksOf (K : PySem.W.Frag) (C : Addr) : Sp := fun vs H Q E => ∃ (m : Nat) (v : V) (d : PyData), vs = [.int (m : Int), v] ∧ m ≤ 60 ∧ Dp K H v d ∧ (isJ m d = false → NU C "joining" H E) ∧
  (isJ m d = true → ∃ f : List Nat, d = dTup f ∧ RetD K (dBlocks f) H Q)
/-- between two turns of the loop: what the dict and its lists hold -/
structure Bk (H0 : Hp) (db : Addr) (f : List Nat) (i : Nat) (ad : Nat → Addr) (H' : Hp) : Prop where
  ex : Ex H0 H'
  nb : H0 db = none
  dict : H' db = some (.dK (ents (leasts f i) ad))
  lsts : ∀ l ∈ leasts f i, H' (ad l) = some (.lst ((mem f l i).map nV)) ∧ H0 (ad l) = none
  inj : ∀ l ∈ leasts f i, ∀ k ∈ leasts f i, ad l = ad k → l = k
theorem Bk.mono {H0 H' H2 : Hp} {db : Addr} {f : List Nat} {i : Nat} {ad : Nat → Addr} (b : Bk H0 db f i ad H') (e : Ex H' H2) : Bk H0 db f i ad H2 :=
  ⟨b.ex.trans e, b.nb, e _ _ b.dict, fun l hl => ⟨e _ _ (b.lsts l hl).1, (b.lsts l hl).2⟩, b.inj⟩
/-- a place joins a block that stands -/
theorem Bk.old {H0 H' : Hp} {db : Addr} {f : List Nat} {i : Nat} {ad : Nat → Addr} (b : Bk H0 db f i ad H') (hl : f.getD i 0 ∈ leasts f i) :
    Bk H0 db f (i + 1) ad (upd H' (ad (f.getD i 0)) (.lst ((mem f (f.getD i 0) i).map nV ++ [nV i]))) := by
  have hlt := (in_leasts.mp hl).1
  have e1 : leasts f (i + 1) = leasts f i := by rw [leasts_succ, if_neg (by omega), List.append_nil]
  have hd : db ≠ ad (f.getD i 0) := ne_of b.dict (b.lsts _ hl).1 (fun z => nomatch z)
  refine ⟨fun a o h => ?_, b.nb, ?_, fun l hl' => ?_, fun l h1 k h2 => ?_⟩
  · rw [upd_ne (ne_of_none h (b.lsts _ hl).2)]
    exact b.ex a o h
  · rw [upd_ne hd, e1]
    exact b.dict
  · rw [e1] at hl'
    refine ⟨?_, (b.lsts l hl').2⟩
    by_cases h : l = f.getD i 0
    · rw [h, upd_same, mem_succ, if_pos rfl, List.map_append]
      rfl
    · rw [upd_ne (fun z => h (b.inj l hl' _ hl z)), mem_succ, if_neg (fun z => h z.symm), List.append_nil]
      exact (b.lsts l hl').1
  · rw [e1] at h1 h2
    exact b.inj l h1 k h2
/-- a place begins a block -/
theorem Bk.new {H0 H' : Hp} {db p : Addr} {f : List Nat} {i : Nat} {ad : Nat → Addr} (b : Bk H0 db f i ad H') (jf : JL f) (hi : f.getD i 0 = i) (hp : H' p = none) :
    Bk H0 db f (i + 1) (fun l => if l = i then p else ad l) (upd (upd (upd H' p (.lst [])) db (.dK (ents (leasts f i) ad ++ [(Sum.inl (i : Int), .ref p)]))) p (.lst ([] ++ [nV i]))) := by
  have hd : db ≠ p := ne_of_none b.dict hp
  have e1 : leasts f (i + 1) = leasts f i ++ [i] := by rw [leasts_succ, if_pos hi]
  have lt : ∀ l ∈ leasts f i, l ≠ i := fun l hl => Nat.ne_of_lt (in_leasts.mp hl).1
  have hm : mem f i i = [] := by
    unfold mem
    refine List.filter_eq_nil_iff.mpr fun k hk => ?_
    rw [decide_eq_true_iff]
    intro z
    have hk' := List.mem_range.mp hk
    by_cases hl : k < f.length
    · have := (jf k _ (getD_at hl)).1
      omega
    · rw [List.getD_eq_getElem?_getD, List.getElem?_eq_none (by omega)] at z
      have z' : 0 = i := z
      omega
  refine ⟨fun a o h => ?_, b.nb, ?_, fun l hl' => ?_, fun l h1 k h2 => ?_⟩
  · have n1 : a ≠ p := ne_of_none (b.ex a o h) hp
    have n2 : a ≠ db := ne_of_none h b.nb
    rw [upd_ne n1, upd_ne n2, upd_ne n1]
    exact b.ex a o h
  · rw [upd_ne hd, upd_same, e1]
    unfold ents
    rw [List.map_append]
    congr 3
    · refine List.map_congr_left fun l hl => ?_
      show _ = ((Sum.inl (l : Int) : Key), V.ref (if l = i then p else ad l))
      rw [if_neg (lt l hl)]
    · show _ = [((Sum.inl (i : Int) : Key), V.ref (if i = i then p else ad i))]
      rw [if_pos rfl]
  · rw [e1] at hl'
    rcases List.mem_append.mp hl' with h | h
    · have n1 := lt l h
      have n2 : ad l ≠ p := ne_of_none (b.lsts l h).1 hp
      have n3 : ad l ≠ db := ne_of (b.lsts l h).1 b.dict (fun z => nomatch z)
      show upd _ p _ (if l = i then p else ad l) = _ ∧ H0 (if l = i then p else ad l) = none
      rw [if_neg n1, upd_ne n2, upd_ne n3, upd_ne n2, mem_succ, if_neg (by omega), List.append_nil]
      exact b.lsts l h
    · have e := List.mem_singleton.mp h
      subst e
      show upd _ p _ (if l = l then p else ad l) = _ ∧ H0 (if l = l then p else ad l) = none
      rw [if_pos rfl, upd_same, mem_succ, if_pos hi, hm]
      exact ⟨rfl, fresh_back b.ex hp⟩
  · rw [e1] at h1 h2
    intro z
    have z' : (if l = i then p else ad l) = (if k = i then p else ad k) := z
    rcases List.mem_append.mp h1 with h | h
    · rw [if_neg (lt l h)] at z'
      rcases List.mem_append.mp h2 with g | g
      · rw [if_neg (lt k g)] at z'
        exact b.inj l h k g z'
      · rw [if_pos (List.mem_singleton.mp g)] at z'
        exact absurd z' (ne_of_none (b.lsts l h).1 hp)
    · have el := List.mem_singleton.mp h
      rw [if_pos el] at z'
      rcases List.mem_append.mp h2 with g | g
      · rw [if_neg (lt k g)] at z'
        exact absurd z'.symm (ne_of_none (b.lsts k g).1 hp)
      · rw [el, List.mem_singleton.mp g]
theorem dpAll_refs {H : Hp} (g : Nat → List Nat) : ∀ {ts : List Addr} {ls : List Nat}, ts.length = ls.length → (∀ (j : Nat) (t : Addr), ts[j]? = some t → ∃ l, ls[j]? = some l ∧ H t = some (.tup ((g l).map nV))) →
    DpAll K H (ts.map V.ref) (ls.map fun l => dTup (g l))
  | [], [], _, _ => .nil
  | [], _ :: _, h, _ => by cases h
  | _ :: _, [], h, _ => by cases h
  | t :: ts, l :: ls, h, k => by
    obtain ⟨l', h1, h2⟩ := k 0 t rfl
    have e := Option.some.inj h1
    subst e
    exact .cons (dTup_of (SqT.of h2)) (dpAll_refs g (Nat.succ.inj h) fun j u hj => k (j + 1) u hj)
theorem ints_sorted {ls : List Nat} (h : ls.Pairwise (· < ·)) : (ls.map (fun n : Nat => (n : Int))).Pairwise (· ≤ ·) := by
  rw [List.pairwise_map]
  exact h.imp fun z => by omega
theorem map_ints (ls : List Nat) : (ls.map (fun n : Nat => (n : Int))).map V.int = ls.map nV := by
  rw [List.map_map]
  rfl
theorem fn_blocks_of {f : Addr} {fd : FuncData} (B : Blt mg) (F : Fun K "blocks_of" "blocks_of" s_blocks_of f fd) (G_need : Cal P w K mg base (L2N.CX P w) 3 "need" ["holds", "name"] (spNeed C)) (G_is_joining : Cal P w K mg base CX0 3 "is_joining" ["many", "thing"] (spIsJ K)) :
    FnOk P w K mg base (L2N.CX P w) 4 f fd ["many", "joining"] (spBlocksOf K C) := by
  refine okN F sc_blocks_of (fun vs H Q E h => ?_) (fun cdv A outer s H vs Q E hr h => ?_)
  · obtain ⟨m, v, d, rfl, _⟩ := h
    rfl
  · obtain ⟨m, v, d, rfl, hm, hd, n1, q⟩ := h
    refine ⟨_, ((pss_cons (ps_expr (pcal G_need hr (L2N.passes_call (L2N.takes_of rfl rfl rfl rfl) fun _ _ _ _ z => z) (pa_cons (pcal G_is_joining hr pass0 (pa_cons (pv 0) (pa_cons (pv 1) pa_nil))) (pa_cons pe_str pa_nil))))
      (pss_cons (ps_set (i := 2) sc_blocks_of.nd rfl (.inr rfl) pe_dnewK)
      (pss_cons (ps_for (L2.passes_of rfl) rfl (pi_enumT (by rfl) B.b_enumerate (pa_cons (pv 1) pa_nil)) (pg_tup rfl (pgs_cons (pg_name (i := 3) sc_blocks_of.nd rfl (.inl rfl)) (pgs_cons (pg_name (i := 4) sc_blocks_of.nd rfl (.inl rfl)) pgs_nil))) (pss_one (ps_expr (pe_bm PySem.F.plainAttrs_list PySem.F.slot_list_append PySem.F.type_list_append mt_append (pe_dsetd (pv 2) (pv 4) (pe_lst pa_nil) ⟨rfl, rfl, rfl, rfl⟩) (pa_cons (pv 3) pa_nil)))))
      (pss_one (ps_ret (pe_callTy call_tuple_of (by rfl) B.b_tuple bt_tuple (pa_cons (pe_lc (own := [("least", 4)]) (g := gName 4) rfl sc_blocks_of.nd (pi_list (pe_callB (call_sortedDI rfl) (by rfl) B.b_sorted bt_sorted (pa_cons (pv 2) pa_nil))) (blkOk_by (own := [("least", 4)]) (N := n_blocks_of) (sc := defScope s_blocks_of) (by decide +kernel)) (fun _ _ _ _ _ => pg_name (i := 4) sc_blocks_of.nd rfl (.inl rfl)) (fun _ _ _ _ _ => pts_nil) (fun _ _ _ _ _ => (pe_callTy (call_tupleK (K := K) rfl) (by rfl) B.b_tuple bt_tuple (pa_cons (pe_dget (hu_of hr) (pv 2) (pv 4) (fun _ _ => rfl)) pa_nil)))) pa_nil)))))))), ?_⟩
    refine q_need (ev_isJ (ev_var rfl) (ev_var rfl) hd) (fun z1 H1 e1 => ?_) n1
    obtain ⟨f', rfl, qq⟩ := q z1
    obtain ⟨f1, hf1, lf, jf⟩ := isJ_list z1
    have inj : ∀ {a b : List Nat}, dTup a = dTup b → a = b := fun {a b} h => by
      have z := PyData.tuple.inj h
      exact (List.map_inj_right (fun x y hxy => by have := PyData.int.inj hxy; omega)).mp z
    have ef := inj hf1
    subst ef
    have lf' : f'.length = m := by omega
    obtain ⟨p1, rfl, s1⟩ := dTup_inv (dp_mono e1 _ _ hd)
    intro db hdb
    refine q_forE (ev_var rfl) (ex_t (Ex.new hdb) s1) (fun i σ' H' => ∃ (ad : Nat → Addr) (y3 y4 : Option V), σ' = [some (.int (m : Int)), some (.ref p1), some (.ref db), y3, y4] ∧ Bk H1 db f' i ad H')
      (fun H4 e4 => ⟨fun _ => 0, none, none, rfl, ⟨(Ex.new hdb).trans e4, hdb, e4 _ _ upd_same, fun l hl => absurd hl (by unfold leasts; exact List.not_mem_nil), fun l hl => absurd hl (by unfold leasts; exact List.not_mem_nil)⟩⟩) (fun i σ' H' _ hP => ?_) (fun i x σ' H' H2 hx hP e2 => ?_) fun σ' H' hP => ?_
    · obtain ⟨ad, y3, y4, rfl, b⟩ := hP
      exact ex_t b.ex s1
    · obtain ⟨ad, y3, y4, rfl, b⟩ := hP
      have hil : i < f'.length := by
        have := get_lt hx
        rw [List.length_map] at this
        exact this
      rw [map_nV_at hil] at hx
      have ex := (Option.some.inj hx).symm
      subst ex
      have b2 := b.mono e2
      refine ⟨.ref db, rfl, db, rfl, .inl ⟨_, .inl b2.dict⟩, _, rfl, Nat.zero_le _, fun p hp => ?_⟩
      have ndb : db ≠ p := ne_of_none b2.dict hp
      refine ⟨ents (leasts f' i) ad, Sum.inl ((f'.getD i 0 : Nat) : Int), by rw [upd_ne ndb]; exact b2.dict, rfl, ?_, fun v hv => ?_, fun hv => ?_⟩
      · have := leasts_len f' i
        show (List.map _ _).length < sizeLine
        rw [List.length_map]
        exact sz_lt (by omega)
      · rw [valV_ents] at hv
        by_cases hmem : f'.getD i 0 ∈ leasts f' i
        · rw [if_pos hmem] at hv
          have ev := (Option.some.inj hv).symm
          subst ev
          have hl := (b2.lsts _ hmem).1
          have n1 : ad (f'.getD i 0) ≠ p := ne_of_none hl hp
          have hl' : upd H2 p (.lst []) (ad (f'.getD i 0)) = some (.lst ((mem f' (f'.getD i 0) i).map nV)) := by rw [upd_ne n1]; exact hl
          refine ⟨.inl ⟨rfl, _, SqL.of hl'⟩, .int (i : Int), rfl, ad (f'.getD i 0), _, _, rfl, rfl, hl', ?_, ?_⟩
          · have := mem_len f' (f'.getD i 0) i
            rw [List.length_map]
            exact sz_lt (by omega)
          · have b3 : Bk H1 db f' i ad (upd H2 p (.lst [])) := b2.mono (Ex.new hp)
            exact ⟨ad, _, _, rfl, b3.old hmem⟩
        · rw [if_neg hmem] at hv
          cases hv
      · have hv' := hv
        rw [valV_ents] at hv
        by_cases hmem : f'.getD i 0 ∈ leasts f' i
        · rw [if_pos hmem] at hv
          cases hv
        · have hi : f'.getD i 0 = i := by
            obtain ⟨h1, h2⟩ := jf i _ (getD_at hil)
            by_cases he : f'.getD i 0 = i
            · exact he
            · refine absurd (in_leasts.mpr ⟨by omega, ?_⟩) hmem
              rw [List.getD_eq_getElem?_getD, h2]
              rfl
          rw [putK_new _ hv']
          have hl' : upd (upd H2 p (.lst [])) db (.dK (ents (leasts f' i) ad ++ [(Sum.inl ((f'.getD i 0 : Nat) : Int), .ref p)])) p = some (.lst []) := by rw [upd_ne (Ne.symm ndb), upd_same]
          refine ⟨.inl ⟨rfl, _, SqL.of hl'⟩, .int (i : Int), rfl, p, _, _, rfl, rfl, hl', by decide, ?_⟩
          have b3 := b2.new jf hi hp
          rw [hi]
          exact ⟨_, _, _, rfl, b3⟩
    · obtain ⟨ad, y3, y4, rfl, b⟩ := hP
      rw [List.length_map] at b
      have hlen := leasts_len f' f'.length
      -- the comprehension over sorted(blocks)
      refine ⟨.ref db, rfl, db, ents (leasts f' f'.length) ad, (leasts f' f'.length).map (fun n : Nat => (n : Int)), rfl, .inl b.dict, ents_keys _ _, by rw [List.length_map]; omega, fun ys p hperm hsort hp => ?_⟩
      have eys : ys = (leasts f' f'.length).map (fun n : Nat => (n : Int)) := PySem.W.ksm_same hperm hsort (ints_sorted (leasts_lt _ _))
      subst eys
      rw [map_ints]
      refine ⟨p, rfl, ⟨_, SqL.of upd_same⟩, fun D hD => ?_⟩
      have b2 := b.mono (Ex.new (o := .lst ((leasts f' f'.length).map nV)) hp)
      have xp : upd H' p (.lst ((leasts f' f'.length).map nV)) p = some (.lst ((leasts f' f'.length).map nV)) := upd_same
      refine lc_list (xs := (leasts f' f'.length).map nV) (fun k H3 => ∃ ts : List Addr, H3 D = some (.lst (ts.map V.ref)) ∧ ts.length = k ∧ Ex (upd H' p (.lst ((leasts f' f'.length).map nV))) H3 ∧
          ∀ (j : Nat) (t : Addr), ts[j]? = some t → ∃ l, (leasts f' f'.length)[j]? = some l ∧ H3 t = some (.tup ((mem f' l f'.length).map nV)))
        ⟨[], upd_same, rfl, Ex.new hD, fun j t h => by simp at h⟩ (fun k H3 _ hP => ?_) (fun k x H3 hx hP => ?_) fun H3 hP => ?_
      · obtain ⟨ts, _, _, e3, _⟩ := hP
        exact SqL.of (e3 _ _ xp)
      · obtain ⟨ts, hts, htl, e3, hall⟩ := hP
        have hkl : k < (leasts f' f'.length).length := by
          have := get_lt hx
          rw [List.length_map] at this
          exact this
        rw [map_nV_at hkl] at hx
        have ex := (Option.some.inj hx).symm
        subst ex
        have hin : (leasts f' f'.length).getD k 0 ∈ leasts f' f'.length := List.mem_of_getElem? (getD_at hkl)
        have b3 := b2.mono e3
        refine ⟨rfl, .ref db, rfl, _, rfl, db, .ref (ad ((leasts f' f'.length).getD k 0)), rfl, ?_, ad ((leasts f' f'.length).getD k 0), _, rfl, .inl ⟨SqL.of (b3.lsts _ hin).1, fun t ht => ?_⟩⟩
        · have z := DGet.k (H := H3) (k := (Sum.inl (((leasts f' f'.length).getD k 0 : Nat) : Int) : Key)) b3.dict
          rw [valV_ents, if_pos hin] at z
          exact z
        · have nD : D ≠ t := ne_of_none hts ht
          refine ⟨ts.map V.ref, by rw [upd_ne nD]; exact hts, by rw [List.length_map]; exact sz_lt (by omega), ts ++ [t], ?_, by rw [List.length_append, htl]; rfl, fun a o h => ?_, fun j u hj => ?_⟩
          · rw [upd_same, List.map_append]
            rfl
          · rw [upd_ne (fun z => by rw [z, hD] at h; cases h), upd_ne (ne_of_none (e3 _ _ h) ht)]
            exact e3 a o h
          · by_cases hjk : j < ts.length
            · rw [List.getElem?_append_left hjk] at hj
              obtain ⟨l, h1, h2⟩ := hall j u hj
              refine ⟨l, h1, ?_⟩
              have nu : u ≠ D := ne_of h2 hts (fun z => nomatch z)
              rw [upd_ne nu, upd_ne (ne_of_none h2 ht)]
              exact h2
            · rw [List.getElem?_append_right (by omega)] at hj
              have hj0 : j - ts.length = 0 := by
                have := get_lt hj
                simp at this
                omega
              rw [hj0] at hj
              have eu := (Option.some.inj hj).symm
              subst eu
              have ejk : j = k := by omega
              subst ejk
              refine ⟨_, getD_at hkl, ?_⟩
              rw [upd_ne (Ne.symm nD), upd_same]
      · obtain ⟨ts, hts, htl, e3, hall⟩ := hP
        rw [List.length_map] at htl
        refine ⟨D, _, rfl, .inl ⟨SqL.of hts, fun r hr' => ?_⟩⟩
        have er : Ex H3 (upd H3 r (.tup (ts.map V.ref))) := Ex.new hr'
        refine qq (.ref r) _ ((e1.trans (b2.mono e3).ex).trans er) (.tup (SqT.of upd_same) ?_)
        refine dpAll_refs (fun l => mem f' l f'.length) htl fun j t hj => ?_
        obtain ⟨l, h1, h2⟩ := hall j t hj
        exact ⟨l, h1, er _ _ h2⟩
end
end K1
namespace K1
open PySem PySem.Spec PyProof.Rows L2 Evl
/-! ### are_blocks, the mirror -/
def markP : List Bool → List PyData → Option (List Bool)
  | seen, [] => some seen
  | seen, .int h :: ds => if seen.getD h.toNat true = true then none else markP (seen.set h.toNat true) ds
  | _, _ :: _ => none
def itemsD : PyData → List PyData
  | .tuple ds => ds
  | _ => []
def areGo (m : Int) : List Bool → List PyData → Bool
  | seen, [] => !(seen.any fun b => !b)
  | seen, d :: ds => if (isLot m d && !(itemsD d).isEmpty) = true then (match markP seen (itemsD d) with | some s => areGo m s ds | none => false) else false
def areB (m : Nat) : PyData → Bool
  | .tuple ds => areGo m (List.replicate m false) ds
  | _ => false
theorem inV_false : ∀ bs : List Bool, inV (.bl false) (bs.map V.bl) = bs.any fun b => !b
  | [] => rfl
  | b :: bs => by
    show (eqV (.bl b) (.bl false) || inV (.bl false) (bs.map V.bl)) = _
    rw [inV_false bs]
    cases b <;> rfl
theorem flat_bls : ∀ bs : List Bool, (bs.map V.bl).all flatV = true
  | [] => rfl
  | b :: bs => by
    show (flatV (.bl b) && (bs.map V.bl).all flatV) = true
    rw [flat_bls bs]
    rfl
theorem lotFrom_ints {m last : Int} (hl : -1 ≤ last) : ∀ {ds : List PyData}, lotFrom m last ds = true → ∀ (k : Nat) (d : PyData), ds[k]? = some d → ∃ n : Nat, d = nI n ∧ (n : Int) < m
  | [], _, k, d, h => by simp at h
  | .int i :: ds, hd, k, d, h => by
    obtain ⟨h1, h2⟩ := Bool.and_eq_true_iff.mp hd
    obtain ⟨h2, h3⟩ := Bool.and_eq_true_iff.mp h2
    have g1 := of_decide_eq_true h1
    have g2 := of_decide_eq_true h2
    cases k with
    | zero =>
      have e := Option.some.inj h
      subst e
      exact ⟨i.toNat, by show PyData.int i = PyData.int (i.toNat : Int); congr 1; omega, by omega⟩
    | succ k => exact lotFrom_ints (last := i) (by omega) h3 k d h
  | .none :: _, hd, _, _, _ => by cases hd
  | .bool _ :: _, hd, _, _, _ => by cases hd
  | .str _ :: _, hd, _, _, _ => by cases hd
  | .list _ :: _, hd, _, _, _ => by cases hd
  | .tuple _ :: _, hd, _, _, _ => by cases hd
  | .dict _ :: _, hd, _, _, _ => by cases hd
theorem isLot_tup {m : Int} {d : PyData} (h : isLot m d = true) : ∃ its, d = .tuple its ∧ ∀ (k : Nat) (x : PyData), its[k]? = some x → ∃ n : Nat, x = nI n ∧ (n : Int) < m := by
  cases d with
  | tuple its => exact ⟨its, rfl, lotFrom_ints (by omega) h⟩
  | _ => cases h
section
variable {P : Program} {w : World} {K : PySem.W.Frag} {mg : Str → Option Value} {base : Heap} {C fI cW cL cP : Addr}
theorem s_forTn {a : Addr} {xs : List V} {j : Nat} {σ : L2.St} {H : Hp} {tl : TE} {tu : TS} {D : Ends} (h : Ev tl σ H (.ref a)) (hx : SqT K H a xs) (Pv : Nat → L2.St → Hp → Prop) (h0 : ∀ H1, Ex H H1 → Pv 0 σ H1) (hl : ∀ i σ' H', i ≤ xs.length → Pv i σ' H' → SqT K H' a xs)
    (hs : ∀ i x σ' H', xs[i]? = some x → Pv i σ' H' → tu { D with nx := Pv (i + 1), ct := Pv (i + 1), bk := D.nx } (σ'.set j (some x)) H') (hd : ∀ σ' H', Pv xs.length σ' H' → D.nx σ' H') : tFor (iTup K tl) (gName j) tu D σ H :=
  s_forT h hx Pv h0 hl hs hd
/-- [x] * m -/
theorem el_rep {σ : L2.St} {H : Hp} {ta tb : TE} {x : V} {m : Nat} (ha : EvL ta σ H [x]) (hb : ∀ H1, Ex H H1 → Ev tb σ H1 (.int (m : Int))) (hm : m ≤ 100000) : EvL (tOp rRep ta tb) σ H (List.replicate m x) := by
  intro H1 e1 Q q
  refine ha H1 e1 _ fun p H2 hp e2 hx => ?_
  refine hb H2 (e1.trans e2) H2 (Ex.refl _) _ fun H3 e3 => ?_
  refine ⟨p, m, [x], rfl, rfl, e3 _ _ hx, by omega, by omega, by rw [List.length_singleton, Nat.one_mul, Int.toNat_natCast]; exact sz_of hm, fun l hl => ?_⟩
  refine q l _ (fresh_back (e2.trans e3) hl) (e2.trans (e3.trans (Ex.new hl))) ?_
  rw [upd_same, Int.toNat_natCast]
  congr 2
  have z : ∀ n : Nat, (List.replicate n [x]).flatten = List.replicate n x := fun n => by
    induction n with
    | zero => rfl
    | succ n ih =>
      rw [List.replicate_succ, List.flatten_cons, ih]
      rfl
  exact z m
def spAreBlocks (K : PySem.W.Frag) : Sp := fun vs H Q _ => ∃ (m : Nat) (v : V) (d : PyData), vs = [.int (m : Int), v] ∧ m ≤ 1000 ∧ Dp K H v d ∧ RetV (.bl (areB m d)) H Q
theorem ok_are_blocks (B : Blt mg) (D : Dfn K mg "are_blocks" s_are_blocks) (G_is_lot : Cal P w K mg base CX0 2 "is_lot" ["size", "thing"] (spIsLot K)) :
    Cal P w K mg base CX0 3 "are_blocks" ["many", "lots"] (spAreBlocks K) := by
  refine mkCal D (fun _ _ _ _ _ _ us hl => match us, hl with | [_, _], _ => rfl) fun f fd F => ?_
  refine F.ok sc_are_blocks (fun vs H Q E h => ?_) (fun cdv A outer s H vs Q E hr h => ?_)
  · obtain ⟨m, v, d, rfl, _⟩ := h
    rfl
  · obtain ⟨m, v, d, rfl, hm, hd, q⟩ := h
    refine ⟨_, ((pss_cons (ps_if (pt_not (pt_val (pe_callB call_isi (by rfl) B.b_isinstance bt_isinstance (pa_cons (pv 1) (pa_cons (pe_bltn (v := .ty "tuple") (by rfl) B.b_tuple bt_tuple rfl) pa_nil))))) (pss_one (ps_ret pe_bl)) pss_nil)
      (pss_cons (ps_set (i := 2) sc_are_blocks.nd rfl (.inl rfl) (pe_op op_rep (pe_lst (pa_cons pe_bl pa_nil)) (pv 0)))
      (pss_cons (ps_for PassesOwn.never rfl (pi_tup (pv 1)) (pg_name (i := 3) sc_are_blocks.nd rfl (.inl rfl)) (pss_cons (ps_if (PW.pt (pw_or (pt_not (pt_val (pcal G_is_lot hr pass0 (pa_cons (pv 0) (pa_cons (pv 3) pa_nil))))) (pw_or1 (pt_cmpR op_eq (pe_callB call_len_seq (by rfl) B.b_len bt_len (pa_cons (pv 3) pa_nil)) pe_int (nomark _))))) (pss_one (ps_ret pe_bl)) pss_nil)
      (pss_one (ps_for PassesOwn.never rfl (pi_tup (pv 3)) (pg_name (i := 4) sc_are_blocks.nd rfl (.inl rfl)) (pss_cons (ps_if (pt_val (pe_ix ix_list (pv 2) (pv 4) (fun _ _ => rfl))) (pss_one (ps_ret pe_bl)) pss_nil)
      (pss_one (ps_asg pe_bl (pg_sub (pv 2) (pv 4) set_list))))))))
      (pss_one (ps_ret (pe_cmpR op_notIn_seq pe_bl (pv 2) (by rfl)))))))), ?_⟩
    cases ht : is_tuple d with
    | false =>
      have hf : areB m d = false := by cases d <;> first | rfl | cases ht
      rw [hf] at q
      exact q_when (b := true) (et_is (et_not (et_B (ev_isi (ev_var rfl) hd (kit_tuple d)))) (by rw [ht]; rfl)) (fun _ H1 e1 => s_ret ev_c fun H2 e2 => q H2 (e1.trans e2)) fun z => by cases z
    | true =>
      obtain ⟨ds, rfl⟩ := is_tuple_cases ht
      obtain ⟨p, xs, rfl, hs, ha⟩ := dp_tup_inv hd
      have hl := dpAll_len ha
      refine q_ifF (et_is (et_not (et_B (ev_isi (ev_var rfl) hd (kit_tuple _)))) rfl) fun H1 e1 => ?_
      refine q_asgL (el_rep (el_lst (ea_cons ev_c ea_nil) (by show 1 ≤ 100000; decide)) (fun _ _ => ev_var rfl) (by omega)) fun S H2 hS e2 hx2 => ?_
      have hS0 : H S = none := fresh_back e1 hS
      refine q_forTn (ev_var rfl) (ex_t (e1.trans e2) hs) (fun i σ' H' => ∃ (bs : List Bool) (y3 y4 : Option V), σ' = [some (.int (m : Int)), some (.ref p), some (.ref S), y3, y4] ∧ Ex H H' ∧ H' S = some (.lst (bs.map V.bl)) ∧ bs.length = m ∧
          areGo m bs (ds.drop i) = areB m (.tuple ds))
        (fun H3 e3 => ⟨List.replicate m false, none, none, rfl, (e1.trans e2).trans e3, by rw [e3 _ _ hx2, List.map_replicate], List.length_replicate, rfl⟩) (fun i σ' H' _ hP => ?_) (fun i x σ' H' hx hP => ?_) (fun σ' H' hP => ?_)
      · obtain ⟨_, _, _, _, e, _⟩ := hP
        exact ex_t e hs
      · obtain ⟨bs, y3, y4, rfl, e, hxS, hbl, hgo⟩ := hP
        obtain ⟨d, hd1, hd2⟩ := dpAll_get ha hx
        have hd2' := dp_mono e _ _ hd2
        rw [drop_at hd1] at hgo
        have step : areGo m bs (d :: ds.drop (i + 1)) = if (isLot m d && !(itemsD d).isEmpty) = true then (match markP bs (itemsD d) with | some s => areGo m s (ds.drop (i + 1)) | none => false) else false := rfl
        cases hlot : isLot m d with
        | false =>
          rw [hlot] at step
          rw [step] at hgo
          refine q_when (b := true) (et_is (et_or (a := true) (b := true) (et_is (et_not (et_B (ev_isLot (ev_var rfl) (ev_var rfl) hd2'))) (by rw [hlot]; rfl)) fun z => by cases z) rfl) (fun _ H3 e3 => s_ret ev_c fun H4 e4 => ?_) fun z => by cases z
          have hf : areB m (.tuple ds) = false := hgo.symm
          rw [hf] at q
          exact q H4 (e.trans (e3.trans e4))
        | true =>
          obtain ⟨its, rfl, hits⟩ := isLot_tup hlot
          obtain ⟨pl, ys, rfl, hsl, hal⟩ := dp_tup_inv hd2'
          have hlen := dpAll_len hal
          refine q_when (et_or (a := false) (et_is (et_not (et_B (ev_isLot (ev_var rfl) (ev_var rfl) hd2'))) (by rw [hlot]; rfl)) fun _ => et_test (ev_op (ev_lenT (ev_var rfl) hsl) ev_c (rv_eq rfl))) (fun z H3 e3 => s_ret ev_c fun H4 e4 => ?_) fun z H3 e3 => ?_
          · have hz : ys.length = 0 := by
              have z1 := V.int.inj (of_decide_eq_true (show decide (V.int (ys.length : Int) = V.int 0) = true from z))
              omega
            have hi : its = [] := List.eq_nil_of_length_eq_zero (by omega)
            subst hi
            rw [hlot] at step
            rw [step] at hgo
            have hf : areB m (.tuple ds) = false := hgo.symm
            rw [hf] at q
            exact q H4 (e.trans (e3.trans e4))
          · have hne : (itemsD (.tuple its)).isEmpty = false := by
              cases its with
              | nil =>
                rw [hlen] at z
                cases z
              | cons _ _ => rfl
            rw [hlot, hne] at step
            rw [step] at hgo
            have e' := e.trans e3
            refine s_forTn (ev_var rfl) (ex_t e3 hsl) (fun k σ' H' => ∃ (bs' : List Bool) (y4 : Option V), σ' = [some (.int (m : Int)), some (.ref p), some (.ref S), some (.ref pl), y4] ∧ ExM S H3 H' ∧ H' S = some (.lst (bs'.map V.bl)) ∧ bs'.length = m ∧
                markP bs' (its.drop k) = markP bs its)
              (fun H4 e4 => ⟨bs, y4, rfl, exm_of e4, e4 _ _ (e3 _ _ hxS), hbl, rfl⟩) (fun k σ' H' _ hP => ?_) (fun k x σ' H' hx' hP => ?_) (fun σ' H' hP => ?_)
            · obtain ⟨_, _, _, e4, _⟩ := hP
              exact exm_t ⟨_, e3 _ _ hxS⟩ e4 (ex_t e3 hsl)
            · obtain ⟨bs', y4', rfl, e4, hxS', hbl', hmk⟩ := hP
              obtain ⟨dx, hdx, hdx'⟩ := dpAll_get hal hx'
              obtain ⟨n, rfl, hnm⟩ := hits k dx hdx
              have ex := dp_int_inv hdx'
              subst ex
              rw [drop_at hdx] at hmk
              have stepP : markP bs' (nI n :: its.drop (k + 1)) = if bs'.getD n true = true then none else markP (bs'.set n true) (its.drop (k + 1)) := by
                show (if bs'.getD ((n : Nat) : Int).toNat true = true then none else markP (bs'.set ((n : Nat) : Int).toNat true) (its.drop (k + 1))) = _
                rw [Int.toNat_natCast]
              have hn' : n < bs'.length := by omega
              have hat : (bs'.map V.bl)[n]? = some (.bl (bs'.getD n true)) := by
                rw [List.getElem?_map, List.getD_eq_getElem?_getD, List.getElem?_eq_getElem hn']
                rfl
              have back : Ex H H' := fun a o ho => e4 a o (fun z => by rw [z, hS0] at ho; cases ho) (e' a o ho)
              refine q_when (et_B (ev_op (ev_var rfl) (ev_var rfl) (rv_ixL (sq_of hxS') (atI_nat hat)))) (fun z H5 e5 => s_ret ev_c fun H6 e6 => ?_) fun z H5 e5 => ?_
              · rw [stepP, if_pos z] at hmk
                have hmk' : markP bs (itemsD (.tuple its)) = none := hmk.symm
                rw [hmk'] at hgo
                have hf : areB m (.tuple ds) = false := hgo.symm
                rw [hf] at q
                exact q H6 (back.trans (e5.trans e6))
              · rw [stepP, if_neg (by rw [z]; decide)] at hmk
                refine s_setL (e5 _ _ hxS') ev_c (ev_var rfl) (ev_var rfl) (by rw [List.length_map]; exact hn') fun H6 e6 => ?_
                refine ⟨bs'.set n true, _, rfl, (e4.trans (exm_of (e5.trans e6))).trans ExM.upd, ?_, by rw [List.length_set]; exact hbl', hmk⟩
                rw [upd_same, List.map_set]
            · obtain ⟨bs', y4', rfl, e4, hxS', hbl', hmk⟩ := hP
              rw [hlen, List.drop_length] at hmk
              have hmk' : markP bs (itemsD (.tuple its)) = some bs' := hmk.symm
              rw [hmk'] at hgo
              have back : Ex H H' := fun a o ho => e4 a o (fun z => by rw [z, hS0] at ho; cases ho) (e' a o ho)
              exact ⟨bs', _, _, rfl, back, hxS', hbl', hgo⟩
      · obtain ⟨bs, y3, y4, rfl, e, hxS, hbl, hgo⟩ := hP
        rw [hl, List.drop_length] at hgo
        have hv : areB m (.tuple ds) = !(bs.any fun b => !b) := hgo.symm
        rw [hv] at q
        refine s_ret (ev_is (ev_op ev_c (ev_var rfl) (rv_niL (sq_of hxS) rfl (flat_bls bs))) ?_) fun H4 e4 => q H4 (e.trans e4)
        rw [inV_false]
theorem ev_areB {σ : L2.St} {H : Hp} {t1 t2 : TE} {v : V} {d : PyData} {m : Nat} {E : XK} (h1 : Ev t1 σ H (.int (m : Int))) (h : Ev t2 σ H v) (hm : m ≤ 1000) (hd : Dp K H v d) : Ev (tCall (spAreBlocks K) [] E (tCons t1 (tCons t2 tNil))) σ H (.bl (areB m d)) :=
  ev_call (ea_cons h1 (ea_cons h ea_nil)) fun H1 e1 Q q E' => ⟨m, v, d, rfl, hm, dp_mono e1 _ _ hd, q⟩
/-! ### joining_of -/
def dLots (lots : List (List Nat)) : PyData := .tuple (lots.map dTup)
def fillLot (J l : List Nat) : List Nat := l.foldl (fun J p => J.set p (l.headD 0)) J
def fillTo (m : Nat) (lots : List (List Nat)) : List Nat := lots.foldl fillLot (List.replicate m 0)
def spJoiningOf (K : PySem.W.Frag) (C : Addr) : Sp := fun vs H Q E => ∃ (m : Nat) (v : V) (d : PyData), vs = [.int (m : Int), v] ∧ m ≤ 1000 ∧ Dp K H v d ∧ (areB m d = false → NU C "lots" H E) ∧
  (areB m d = true → ∃ lots : List (List Nat), d = dLots lots ∧ (∀ l ∈ lots, l ≠ [] ∧ ∀ p ∈ l, p < m) ∧ RetU ((fillTo m lots).map nV) H Q)
theorem foldl_set_len (x : Nat) : ∀ (l J : List Nat), (l.foldl (fun J p => J.set p x) J).length = J.length
  | [], _ => rfl
  | p :: l, J => by
    rw [List.foldl_cons, foldl_set_len x l, List.length_set]
theorem take_snoc {α : Type} {l : List α} {i : Nat} {x : α} (h : l[i]? = some x) : l.take (i + 1) = l.take i ++ [x] := by
  rw [List.take_add_one, h]
  rfl
theorem fn_joining_of {f : Addr} {fd : FuncData} (B : Blt mg) (F : Fun K "joining_of" "joining_of" s_joining_of f fd) (G_need : Cal P w K mg base (L2N.CX P w) 3 "need" ["holds", "name"] (spNeed C)) (G_are_blocks : Cal P w K mg base CX0 3 "are_blocks" ["many", "lots"] (spAreBlocks K)) :
    FnOk P w K mg base (L2N.CX P w) 4 f fd ["many", "lots"] (spJoiningOf K C) := by
  refine okN F sc_joining_of (fun vs H Q E h => ?_) (fun cdv A outer s H vs Q E hr h => ?_)
  · obtain ⟨m, v, d, rfl, _⟩ := h
    rfl
  · obtain ⟨m, v, d, rfl, hm, hd, n1, q⟩ := h
    refine ⟨_, ((pss_cons (ps_expr (pcal G_need hr (L2N.passes_call (L2N.takes_of rfl rfl rfl rfl) fun _ _ _ _ z => z) (pa_cons (pcal G_are_blocks hr pass0 (pa_cons (pv 0) (pa_cons (pv 1) pa_nil))) (pa_cons pe_str pa_nil))))
      (pss_cons (ps_set (i := 2) sc_joining_of.nd rfl (.inl rfl) (pe_op op_rep (pe_lst (pa_cons pe_int pa_nil)) (pv 0)))
      (pss_cons (ps_for (L2.passes_of rfl) rfl (pi_tup (pv 1)) (pg_name (i := 3) sc_joining_of.nd rfl (.inl rfl)) (pss_one (ps_for (L2.passes_of rfl) rfl (pi_tup (pv 3)) (pg_name (i := 4) sc_joining_of.nd rfl (.inl rfl)) (pss_one (ps_asg (pe_ix ix_tup (pv 3) pe_int (fun _ _ => rfl)) (pg_sub (pv 2) (pv 4) set_list))))))
      (pss_one (ps_ret (pe_callTy call_tuple_of (by rfl) B.b_tuple bt_tuple (pa_cons (pv 2) pa_nil)))))))), ?_⟩
    refine q_need (ev_areB (ev_var rfl) (ev_var rfl) hm hd) (fun z1 H1 e1 => ?_) n1
    obtain ⟨lots, rfl, hlots, qq⟩ := q z1
    obtain ⟨p, xs, rfl, hs, ha⟩ := dp_tup_inv hd
    have hl := dpAll_len ha
    refine q_asgL (el_rep (el_lst (ea_cons ev_c ea_nil) (by show 1 ≤ 100000; decide)) (fun _ _ => ev_var rfl) (by omega)) fun S H2 hS e2 hx2 => ?_
    have hS0 : H S = none := fresh_back e1 hS
    refine q_forTn (ev_var rfl) (ex_t (e1.trans e2) hs) (fun i σ' H' => ∃ (y3 y4 : Option V), σ' = [some (.int (m : Int)), some (.ref p), some (.ref S), y3, y4] ∧ Ex H H' ∧ H' S = some (.lst (((lots.take i).foldl fillLot (List.replicate m 0)).map nV)) ∧ ((lots.take i).foldl fillLot (List.replicate m 0)).length = m)
      (fun H3 e3 => ⟨none, none, rfl, (e1.trans e2).trans e3, by rw [e3 _ _ hx2, List.take_zero]; show _ = some (HO.lst ((List.replicate m 0).map nV)); rw [List.map_replicate]; rfl, List.length_replicate⟩) (fun i σ' H' _ hP => ?_) (fun i x σ' H' hx hP => ?_) (fun σ' H' hP => ?_)
    · obtain ⟨_, _, _, e, _⟩ := hP
      exact ex_t e hs
    · obtain ⟨y3, y4, rfl, e, hxS, hJl⟩ := hP
      obtain ⟨d, hd1, hd2⟩ := dpAll_get ha hx
      rw [List.getElem?_map] at hd1
      obtain ⟨l, hli, rfl⟩ : ∃ l, lots[i]? = some l ∧ d = dTup l := by
        cases hg : lots[i]? with
        | none =>
          rw [hg] at hd1
          cases hd1
        | some l =>
          rw [hg] at hd1
          exact ⟨l, rfl, (Option.some.inj hd1).symm⟩
      obtain ⟨hne, hlt⟩ := hlots l (List.mem_of_getElem? hli)
      obtain ⟨pl, rfl, hsl⟩ := dTup_inv (dp_mono e _ _ hd2)
      generalize hJ : (lots.take i).foldl fillLot (List.replicate m 0) = J at *
      have hhead : (l.map nV)[0]? = some (.int ((l.headD 0 : Nat) : Int)) := by
        cases l with
        | nil => exact absurd rfl hne
        | cons a r => rfl
      refine s_forTn (ev_var rfl) hsl (fun k σ' H3 => ∃ (y4 : Option V), σ' = [some (.int (m : Int)), some (.ref p), some (.ref S), some (.ref pl), y4] ∧ ExM S H' H3 ∧ H3 S = some (.lst (((l.take k).foldl (fun J p => J.set p (l.headD 0)) J).map nV)))
        (fun H4 e4 => ⟨y4, rfl, exm_of e4, by rw [List.take_zero]; exact e4 _ _ hxS⟩) (fun k σ' H3 _ hP => ?_) (fun k x σ' H3 hx' hP => ?_) (fun σ' H3 hP => ?_)
      · obtain ⟨_, _, e4, _⟩ := hP
        exact exm_t ⟨_, hxS⟩ e4 hsl
      · obtain ⟨y4', rfl, e4, hxS'⟩ := hP
        have hkl : k < l.length := by
          have := get_lt hx'
          rw [List.length_map] at this
          exact this
        rw [map_nV_at hkl] at hx'
        have ex := (Option.some.inj hx').symm
        subst ex
        have hpm := hlt _ (List.mem_of_getElem? (getD_at hkl))
        refine s_setL hxS' (ev_op (ev_var rfl) ev_c (rv_ixT (exm_t ⟨_, hxS⟩ e4 hsl) (atI_nat (j := 0) hhead))) (ev_var rfl) (ev_var rfl) (by rw [List.length_map, foldl_set_len, hJl]; exact hpm) fun H5 e5 => ?_
        refine ⟨_, rfl, (e4.trans (exm_of e5)).trans ExM.upd, ?_⟩
        rw [upd_same, take_snoc (getD_at hkl), List.foldl_append, ← List.map_set]
        rfl
      · obtain ⟨y4', rfl, e4, hxS'⟩ := hP
        rw [List.length_map, List.take_length] at hxS'
        have back : Ex H H3 := fun a o ho => e4 a o (fun z => by rw [z, hS0] at ho; cases ho) (e a o ho)
        refine ⟨_, _, rfl, back, ?_, ?_⟩
        · rw [hxS', take_snoc hli, List.foldl_append, hJ]
          rfl
        · rw [take_snoc hli, List.foldl_append, hJ]
          show (fillLot J l).length = m
          rw [fillLot, foldl_set_len, hJl]
    · obtain ⟨y3, y4, rfl, e, hxS, hJl⟩ := hP
      rw [hl, List.length_map, List.take_length] at hxS
      exact s_retU (eu_tupleL (ev_var rfl) (sq_of hxS)) fun r H5 hr' e5 hx5 => qq.go e hr' e5 hx5
end
end K1
namespace K1
open PySem PySem.Spec PyProof.Rows L2 Evl
/-! ### joinings_of -/
def jgOne (n : Nat) (b : List Nat) (k : Nat) : List (List Nat) := ((List.range k).filter fun l => decide (b.getD l 0 = l)).map fun l => b ++ [l]
def jgRow (n : Nat) (b : List Nat) : List (List Nat) := jgOne n b n ++ [b ++ [n]]
def jgTo (n : Nat) : List (List Nat) := (List.range n).foldl (fun fs p => fs.flatMap (jgRow p)) [[]]
theorem jgTo_succ (n : Nat) : jgTo (n + 1) = (jgTo n).flatMap (jgRow n) := by
  unfold jgTo
  rw [List.range_succ, List.foldl_append]
  rfl
theorem jgTo_width : ∀ (n : Nat), ∀ b ∈ jgTo n, b.length = n
  | 0, b, h => by
    have e : b = [] := List.mem_singleton.mp h
    rw [e]
    rfl
  | n + 1, b, h => by
    rw [jgTo_succ] at h
    obtain ⟨c, hc, hb⟩ := List.mem_flatMap.mp h
    have ih := jgTo_width n c hc
    rcases List.mem_append.mp hb with h1 | h1
    · obtain ⟨l, _, rfl⟩ := List.mem_map.mp h1
      rw [List.length_append, ih]
      rfl
    · rw [List.mem_singleton.mp h1, List.length_append, ih]
      rfl
theorem jgOne_succ (n : Nat) (b : List Nat) (k : Nat) : jgOne n b (k + 1) = jgOne n b k ++ if b.getD k 0 = k then [b ++ [k]] else [] := by
  unfold jgOne
  rw [List.range_succ, List.filter_append, List.map_append]
  congr 1
  by_cases h : b.getD k 0 = k
  · rw [if_pos h, List.filter_cons_of_pos (by rw [decide_eq_true h])]
    rfl
  · rw [if_neg h, List.filter_cons_of_neg (by rw [decide_eq_false h]; decide)]
    rfl
theorem jgOne_len (n : Nat) (b : List Nat) (k : Nat) : (jgOne n b k).length ≤ k := by
  unfold jgOne
  rw [List.length_map]
  have h := List.length_filter_le (fun l => decide (b.getD l 0 = l)) (List.range k)
  rw [List.length_range] at h
  exact h
theorem flat_len (n : Nat) : ∀ fs : List (List Nat), (fs.flatMap (jgRow n)).length ≤ fs.length * (n + 1)
  | [] => Nat.zero_le _
  | b :: fs => by
    have h1 := flat_len n fs
    have h2 := jgOne_len n b n
    rw [List.flatMap_cons, List.length_append, List.length_cons, Nat.add_mul, Nat.one_mul]
    have h3 : (jgRow n b).length = (jgOne n b n).length + 1 := by
      unfold jgRow
      rw [List.length_append]
      rfl
    omega
theorem jgTo_few : ∀ n : Nat, n ≤ 5 → (jgTo n).length ≤ 52 := by
  intro n hn
  have h : ∀ k ∈ List.range 6, (jgTo k).length ≤ 52 := by decide
  exact h n (List.mem_range.mpr (by omega))
section
variable {P : Program} {w : World} {K : PySem.W.Frag} {mg : Str → Option Value} {base : Heap} {C fI cW cL cP : Addr}
theorem dpAll_snoc {H : Hp} : ∀ {ds : List PyData} {vs : List V} {d : PyData} {v : V}, DpAll K H vs ds → Dp K H v d → DpAll K H (vs ++ [v]) (ds ++ [d])
  | [], _, _, _, h, k => by cases h; exact .cons k .nil
  | _ :: _, _, _, _, h, k => by
    cases h with
    | cons h1 h2 => exact .cons h1 (dpAll_snoc h2 k)
/-- rows of places, as tuples, at the items of a list -/
abbrev Rws (K : PySem.W.Frag) (H : Hp) (xs : List V) (rows : List (List Nat)) : Prop := DpAll K H xs (rows.map dTup)
theorem noLst_rows (rows : List (List Nat)) : noLst.noLsts (rows.map dTup) = true := noLsts_iff.mpr fun d hd => by
  obtain ⟨l, _, rfl⟩ := List.mem_map.mp hd
  exact noLst_dTup l
theorem Rws.exm {H H' : Hp} {L : Addr} {xs : List V} {rows : List (List Nat)} (h : Rws K H xs rows) (hL : Ls H L) (e : ExM L H H') : Rws K H' xs rows := dpAll_exm hL e _ _ (noLst_rows rows) h
theorem Rws.ex {H H' : Hp} {xs : List V} {rows : List (List Nat)} (h : Rws K H xs rows) (e : Ex H H') : Rws K H' xs rows := dpAll_mono e _ _ h
theorem Rws.snoc {H : Hp} {xs : List V} {rows : List (List Nat)} {p : Addr} {b : List Nat} (h : Rws K H xs rows) (hp : SqT K H p (b.map nV)) : Rws K H (xs ++ [.ref p]) (rows ++ [b]) := by
  show DpAll K H _ ((rows ++ [b]).map dTup)
  rw [List.map_append]
  exact dpAll_snoc h (dTup_of hp)
theorem Rws.len {H : Hp} {xs : List V} {rows : List (List Nat)} (h : Rws K H xs rows) : xs.length = rows.length := by
  have z := dpAll_len h
  rw [List.length_map] at z
  exact z
theorem Rws.at {H : Hp} {xs : List V} {rows : List (List Nat)} {i : Nat} {x : V} (h : Rws K H xs rows) (hx : xs[i]? = some x) : ∃ (b : List Nat) (p : Addr), rows[i]? = some b ∧ x = .ref p ∧ SqT K H p (b.map nV) := by
  obtain ⟨d, h1, h2⟩ := dpAll_get h hx
  rw [List.getElem?_map] at h1
  cases hg : rows[i]? with
  | none =>
    rw [hg] at h1
    cases h1
  | some b =>
    rw [hg] at h1
    have e := (Option.some.inj h1).symm
    subst e
    obtain ⟨p, rfl, hp⟩ := dTup_inv h2
    exact ⟨b, p, rfl, rfl, hp⟩
theorem ea_starT {σ : L2.St} {H : Hp} {te : TE} {t : TA} {p : Addr} {xs ys : List V} (h : Ev te σ H (.ref p)) (hp : SqT K H p xs) (ht : EvA t σ H ys) : EvA (StX.tStar K te t) σ H (xs ++ ys) := by
  intro H1 e1 Q q
  refine h H1 e1 _ fun H2 e2 => ⟨p, xs, rfl, .inl (ex_t (e1.trans e2) hp), ?_⟩
  exact ht H2 (e1.trans e2) _ fun H3 e3 => q H3 (e2.trans e3)
theorem s_forR1n {ta : TA} {j : Nat} {n : Int} {σ : L2.St} {H : Hp} {D : Ends} {tu : TS} (h : EvA ta σ H [.int n]) (hn : 0 ≤ n ∧ n ≤ 100000) (Pv : Nat → L2.St → Hp → Prop) (h0 : ∀ H1, Ex H H1 → Pv 0 σ H1)
    (hs : ∀ (i : Nat) σ' H', (i : Int) < n → Pv i σ' H' → tu { D with nx := Pv (i + 1), ct := Pv (i + 1), bk := D.nx } (σ'.set j (some (.int (i : Int)))) H') (hd : ∀ σ' H', Pv n.toNat σ' H' → D.nx σ' H') : tFor (iRng1 ta) (gName j) tu D σ H := s_forR1 h hn Pv h0 hs hd
def spJoiningsOf (K : PySem.W.Frag) : Sp := fun vs H Q _ => ∃ (m : Nat), vs = [.int (m : Int)] ∧ m ≤ 5 ∧ RetD K (dLots (jgTo m)) H Q
theorem ok_joinings_of (B : Blt mg) (D : Dfn K mg "joinings_of" s_joinings_of) : Cal P w K mg base CX0 1 "joinings_of" ["many"] (spJoiningsOf K) := by
  refine mkCal D (fun _ _ _ _ _ _ us hl => match us, hl with | [_], _ => rfl) fun f fd F => ?_
  refine F.ok sc_joinings_of (fun vs H Q E h => ?_) (fun cdv A outer s H vs Q E hr h => ?_)
  · obtain ⟨m, rfl, _⟩ := h
    rfl
  · obtain ⟨m, rfl, hm, q⟩ := h
    refine ⟨_, ((pss_cons (ps_set (i := 1) sc_joinings_of.nd rfl (.inl rfl) (pe_lst (pa_cons (pe_tup pa_nil) pa_nil)))
      (pss_cons (ps_for PassesOwn.never rfl (pi_range1 (by rfl) B.b_range (pa_cons (pv 0) pa_nil)) (pg_name (i := 2) sc_joinings_of.nd rfl (.inl rfl)) (pss_cons (ps_set (i := 3) sc_joinings_of.nd rfl (.inl rfl) (pe_lst pa_nil))
      (pss_cons (ps_for PassesOwn.never rfl (pi_list (pv 1)) (pg_name (i := 4) sc_joinings_of.nd rfl (.inl rfl)) (pss_cons (ps_for PassesOwn.never rfl (pi_range1 (by rfl) B.b_range (pa_cons (pv 2) pa_nil)) (pg_name (i := 5) sc_joinings_of.nd rfl (.inl rfl)) (pss_one (ps_if (pt_cmpR op_eq (pe_ix ix_tup (pv 4) (pv 5) (fun _ _ => rfl)) (pv 5) (nomark _)) (pss_one (ps_expr (pe_bm PySem.F.plainAttrs_list PySem.F.slot_list_append PySem.F.type_list_append mt_append (pv 3) (pa_cons (pe_tup (StX.pa_star (pv 4) (pa_cons (pv 5) pa_nil))) pa_nil)))) pss_nil)))
      (pss_one (ps_expr (pe_bm PySem.F.plainAttrs_list PySem.F.slot_list_append PySem.F.type_list_append mt_append (pv 3) (pa_cons (pe_tup (StX.pa_star (pv 4) (pa_cons (pv 2) pa_nil))) pa_nil))))))
      (pss_one (ps_set (i := 1) sc_joinings_of.nd rfl (.inl rfl) (pv 3))))))
      (pss_one (ps_ret (pe_callTy call_tuple_of (by rfl) B.b_tuple bt_tuple (pa_cons (pv 1) pa_nil))))))), ?_⟩
    -- found = [()]
    refine ⟨Nat.zero_le _, fun p0 hp0 => ⟨by show 1 ≤ sizeLine; decide, fun F0 hF0 => ?_⟩⟩
    have e0 : Ex H (upd (upd H p0 (.tup [])) F0 (.lst [.ref p0])) := (Ex.new hp0).trans (Ex.new hF0)
    have nF0 : p0 ≠ F0 := ne_of_none upd_same hF0
    have r0 : Rws K (upd (upd H p0 (.tup [])) F0 (.lst [.ref p0])) [.ref p0] (jgTo 0) := .cons (dTup_of (SqT.of (by rw [upd_ne nF0]; exact upd_same))) .nil
    refine q_forR1 (ea_cons (ev_var rfl) ea_nil) (by omega) (fun i σ' H' => ∃ (F : Addr) (xs : List V) (y2 y3 y4 y5 : Option V), σ' = [some (.int (m : Int)), some (.ref F), y2, y3, y4, y5] ∧ Ex H H' ∧ H' F = some (.lst xs) ∧ Rws K H' xs (jgTo i))
      (fun H1 e1 => ⟨F0, _, _, _, _, _, rfl, e0.trans e1, e1 _ _ upd_same, r0.ex e1⟩) (fun i σ' H' hi hP => ?_) (fun σ' H' hP => ?_)
    · obtain ⟨F, xs, y2, y3, y4, y5, rfl, e, hF, hR⟩ := hP
      have him : i < m := by omega
      have few := jgTo_few i (by omega)
      have hxl := hR.len
      refine q_asgL (el_lst ea_nil (Nat.zero_le _)) fun L H1 hL e1 hL1 => ?_
      have nLF : F ≠ L := ne_of_none hF hL
      have hL0 : H L = none := fresh_back e hL
      have back : ∀ {H2 : Hp}, ExM L H1 H2 → Ex H H2 := fun {H2} e2 a o ho => e2 a o (fun z => by rw [z, hL0] at ho; cases ho) (e1 a o (e a o ho))
      refine q_forLn (ev_var rfl) (sq_of (e1 _ _ hF)) (fun k σ' H2 => ∃ (ys : List V) (y4 y5 : Option V), σ' = [some (.int (m : Int)), some (.ref F), some (.int (i : Int)), some (.ref L), y4, y5] ∧ ExM L H1 H2 ∧ H2 L = some (.lst ys) ∧ Rws K H2 ys (((jgTo i).take k).flatMap (jgRow i)))
        (fun H2 e2 => ⟨[], y4, y5, rfl, exm_of e2, e2 _ _ hL1, .nil⟩) (fun k σ' H2 _ hP => ?_) (fun k x σ' H2 hx hP => ?_) fun σ' H2 hP => ?_
      · obtain ⟨_, _, _, _, e2, _⟩ := hP
        exact sq_of (e2 _ _ nLF (e1 _ _ hF))
      · obtain ⟨ys, y4', y5', rfl, e2, hLy, hRy⟩ := hP
        have hRx : Rws K H2 xs (jgTo i) := (hR.ex e1).exm ⟨_, hL1⟩ e2
        obtain ⟨b, pb, hb, rfl, hpb⟩ := hRx.at hx
        have hbl := jgTo_width i b (List.mem_of_getElem? hb)
        have hk := get_lt hb
        have flat := flat_len i ((jgTo i).take k)
        rw [List.length_take] at flat
        have flat' : (((jgTo i).take k).flatMap (jgRow i)).length ≤ 52 * 6 := Nat.le_trans flat (Nat.mul_le_mul (by omega) (by omega))
        refine q_forR1 (ea_cons (ev_var rfl) ea_nil) (by omega) (fun l σ' H3 => ∃ (zs : List V) (y5 : Option V), σ' = [some (.int (m : Int)), some (.ref F), some (.int (i : Int)), some (.ref L), some (.ref pb), y5] ∧ ExM L H2 H3 ∧ H3 L = some (.lst zs) ∧ Rws K H3 zs (((jgTo i).take k).flatMap (jgRow i) ++ jgOne i b l))
          (fun H3 e3 => ⟨ys, y5', rfl, exm_of e3, e3 _ _ hLy, by rw [show jgOne i b 0 = [] from rfl, List.append_nil]; exact hRy.ex e3⟩) (fun l σ' H3 hl hP => ?_) fun σ' H3 hP => ?_
        · obtain ⟨zs, y5', rfl, e3, hLz, hRz⟩ := hP
          have hli : l < i := by omega
          have hpb' := exm_t ⟨_, hLy⟩ e3 hpb
          have hlen := hRz.len
          have j1 := jgOne_len i b l
          rw [List.length_append] at hlen
          refine s_when (et_test (ev_op (ev_op (ev_var rfl) (ev_var rfl) (rv_ixT hpb' (atI_nat (map_nV_at (l := b) (p := l) (by omega))))) (ev_var rfl) (rv_eq rfl))) (fun z H4 e4 => ?_) fun z H4 e4 => ?_
          · have hbl' : b.getD l 0 = l := by
              have := V.int.inj (of_decide_eq_true z)
              omega
            refine s_appU (e4 _ _ hLz) (ev_var rfl) (eu_tup (ea_starT (ev_var rfl) (ex_t e4 hpb') (ea_cons (ev_var rfl) ea_nil)) (by rw [List.length_append, List.length_map, hbl]; show i + 1 ≤ 100000; omega)) (by omega) fun r H5 hr' e5 hx5 => ?_
            refine ⟨zs ++ [.ref r], _, rfl, (e3.trans (exm_of (e4.trans e5))).trans ExM.upd, upd_same, ?_⟩
            rw [jgOne_succ, if_pos hbl', ← List.append_assoc]
            have hR5 : Rws K H5 (zs ++ [.ref r]) (((jgTo i).take k).flatMap (jgRow i) ++ jgOne i b l ++ [b ++ [l]]) := (hRz.ex (e4.trans e5)).snoc (SqT.of (by rw [hx5, List.map_append]; rfl))
            exact hR5.exm ⟨_, e5 _ _ (e4 _ _ hLz)⟩ ExM.upd
          · have hbl' : ¬ b.getD l 0 = l := fun y => of_decide_eq_false z (by rw [y])
            refine ⟨zs, _, rfl, e3.trans (exm_of e4), e4 _ _ hLz, ?_⟩
            rw [jgOne_succ, if_neg hbl', List.append_nil]
            exact hRz.ex e4
        · obtain ⟨zs, y5', rfl, e3, hLz, hRz⟩ := hP
          rw [Int.toNat_natCast] at hRz
          have hpb' := exm_t ⟨_, hLy⟩ e3 hpb
          have hlen := hRz.len
          have j1 := jgOne_len i b i
          rw [List.length_append] at hlen
          refine s_appU hLz (ev_var rfl) (eu_tup (ea_starT (ev_var rfl) hpb' (ea_cons (ev_var rfl) ea_nil)) (by rw [List.length_append, List.length_map, hbl]; show i + 1 ≤ 100000; omega)) (by omega) fun r H5 hr' e5 hx5 => ?_
          refine ⟨zs ++ [.ref r], _, _, rfl, (e2.trans (e3.trans (exm_of e5))).trans ExM.upd, upd_same, ?_⟩
          have hR5 : Rws K H5 (zs ++ [.ref r]) (((jgTo i).take k).flatMap (jgRow i) ++ jgOne i b i ++ [b ++ [i]]) := (hRz.ex e5).snoc (SqT.of (by rw [hx5, List.map_append]; rfl))
          have hR6 := hR5.exm (L := L) (H' := upd H5 L (.lst (zs ++ [.ref r]))) ⟨_, e5 _ _ hLz⟩ ExM.upd
          rw [List.append_assoc] at hR6
          rw [take_snoc hb, List.flatMap_append]
          have e9 : List.flatMap (jgRow i) [b] = jgOne i b i ++ [b ++ [i]] := by
            rw [List.flatMap_cons, List.flatMap_nil, List.append_nil]
            rfl
          rw [e9]
          exact hR6
      · obtain ⟨ys, y4', y5', rfl, e2, hLy, hRy⟩ := hP
        rw [hxl, List.take_length] at hRy
        refine s_asg (ev_var rfl) fun H3 e3 => ⟨L, ys, _, _, _, _, rfl, (back e2).trans e3, e3 _ _ hLy, ?_⟩
        rw [jgTo_succ]
        exact hRy.ex e3
    · obtain ⟨F, xs, y2, y3, y4, y5, rfl, e, hF, hR⟩ := hP
      rw [Int.toNat_natCast] at hR
      exact s_retU (eu_tupleL (ev_var rfl) (sq_of hF)) fun r H5 hr' e5 hx5 => q _ _ (e.trans e5) (.tup (SqT.of hx5) (hR.ex e5))
end
end K1
namespace K1
open PySem PySem.Spec PyProof.Rows L2 Evl
/-! ### the pool -/
/-- at L stands a list of ints -/
def PoolAt (H : Hp) (L : Addr) : Prop := ∃ ns : List Int, H L = some (.lst (ns.map V.int))
theorem PoolAt.ls {H : Hp} {L : Addr} (h : PoolAt H L) : Ls H L := by
  obtain ⟨ns, h⟩ := h
  exact ⟨_, h⟩
/-- draws were taken: all but the pool stands -/
structure Stp (L : Addr) (H H' : Hp) : Prop where
  ex : ExM L H H'
  pool : PoolAt H' L
theorem Stp.trans {L : Addr} {H H1 H2 : Hp} (a : Stp L H H1) (b : Stp L H1 H2) : Stp L H H2 := ⟨a.ex.trans b.ex, b.pool⟩
theorem Stp.ex_ {L : Addr} {H H1 H2 : Hp} (a : Stp L H H1) (b : Ex H1 H2) : Stp L H H2 := by
  obtain ⟨ns, h⟩ := a.pool
  exact ⟨a.ex.trans (exm_of b), ns, b _ _ h⟩
theorem stp_of {L : Addr} {H H1 : Hp} (p : PoolAt H L) (b : Ex H H1) : Stp L H H1 := by
  obtain ⟨ns, h⟩ := p
  exact ⟨exm_of b, ns, b _ _ h⟩
theorem PoolAt.mono {H H1 : Hp} {L : Addr} (p : PoolAt H L) (b : Ex H H1) : PoolAt H1 L := (stp_of p b).pool
section
variable {P : Program} {w : World} {K : PySem.W.Frag} {mg : Str → Option Value} {base : Heap} {C fI cW cL cP : Addr}
theorem Stp.t {L : Addr} {H H1 : Hp} {p : Addr} {xs : List V} (a : Stp L H H1) (hL : PoolAt H L) (h : SqT K H p xs) : SqT K H1 p xs := exm_t hL.ls a.ex h
theorem ev_int {σ : L2.St} {H : Hp} {te : TE} {i : Int} (h : Ev te σ H (.int i)) : Ev (tCB (fun xs H Q => (∃ i, xs = [.int i] ∧ Q (.int i) H) ∨ ∃ k, xs = [.bl k] ∧ Q (.int (if k then 1 else 0)) H) (tCons te tNil)) σ H (.int i) :=
  ev_cb (ea_cons h ea_nil) fun H1 e1 Q q => .inl ⟨i, rfl, q _ (Ex.refl _)⟩
def spTake : Sp := fun vs H Q _ => ∃ (L : Addr) (b : Int), vs = [.ref L, .int b] ∧ PoolAt H L ∧ 0 < b ∧ ∀ r H', 0 ≤ r → r < b → Stp L H H' → Q (.int r) H'
theorem ok_take (B : Blt mg) (D : Dfn K mg "_law_take" s_law_take) : Cal P w K mg base CX0 1 "_law_take" ["_law_pool_here", "_law_bound"] spTake := by
  refine mkCal D (fun _ _ _ _ _ _ us hl => match us, hl with | [_, _], _ => rfl) fun f fd F => ?_
  refine F.ok sc_law_take (fun vs H Q E h => ?_) (fun cdv A outer s H vs Q E hr h => ?_)
  · obtain ⟨L, b, rfl, _⟩ := h
    rfl
  · obtain ⟨L, b, rfl, hp, hb, q⟩ := h
    refine ⟨_, ((pss_cons (ps_if (pt_cmpR op_eq (pe_callB call_len_seq (by rfl) B.b_len bt_len (pa_cons (pv 0) pa_nil)) pe_int (nomark _)) (pss_one (ps_ret pe_int)) pss_nil)
      (pss_one (ps_ret (pe_op op_mod (pe_callTy call_int1 (by rfl) B.b_int bt_int (pa_cons (pe_bm0 PySem.F.plainAttrs_list PySem.F.slot_list_pop PySem.F.type_list_pop mt_pop (pv 0)) pa_nil)) (pv 1)))))), ?_⟩
    obtain ⟨ns, hL⟩ := hp
    refine q_when (et_test (ev_op (ev_len (ev_var rfl) (sq_of hL)) ev_c (rv_eq rfl))) (fun z H1 e1 => ?_) fun z H1 e1 => ?_
    · exact s_ret ev_c fun H2 e2 => q 0 H2 (by omega) hb (stp_of ⟨ns, hL⟩ (e1.trans e2))
    · have hne : ns ≠ [] := fun h => by
        subst h
        cases z
      have hl1 := e1 _ _ hL
      have hlast : (ns.map V.int)[(ns.map V.int).length - 1]? = some (.int (ns.getLast hne)) := by
        rw [List.length_map, List.getElem?_map, ← List.getLast?_eq_getElem?, List.getLast?_eq_some_getLast hne]
        rfl
      refine ⟨.ref L, rfl, .inl ⟨rfl, _, SqL.of hl1⟩, L, _, _, rfl, rfl, hl1, hlast, .inl ⟨_, rfl, ?_⟩⟩
      refine ⟨_, rfl, _, b, rfl, rfl, hb, ?_⟩
      refine q _ _ (Int.emod_nonneg _ (by omega)) (Int.emod_lt_of_pos _ hb) ⟨(exm_of e1).trans ExM.upd, ns.dropLast, ?_⟩
      rw [upd_same, List.map_dropLast]
theorem take_go {σ : L2.St} {H : Hp} {t1 t2 : TE} {L : Addr} {b : Int} {E : XK} {Q : VK} (h1 : Ev t1 σ H (.ref L)) (h2 : Ev t2 σ H (.int b)) (hp : PoolAt H L) (hb : 0 < b) (k : ∀ r H', 0 ≤ r → r < b → Stp L H H' → Q (.int r) H') :
    tCall spTake [] E (tCons t1 (tCons t2 tNil)) σ H Q := by
  show tCons t1 (tCons t2 tNil) σ H fun vs H1 => spTake (vs ++ []) H1 Q E
  refine (ea_cons h1 (ea_cons h2 ea_nil)) H (Ex.refl H) _ fun H1 e1 => ?_
  exact ⟨L, b, rfl, hp.mono e1, hb, fun r H' r1 r2 st => k r H' r1 r2 ((stp_of hp e1).trans st)⟩
def spGreat : Sp := fun vs H Q _ => ∃ (L : Addr), vs = [.ref L] ∧ PoolAt H L ∧ ∀ r H', 0 ≤ r → r < 1000000000000 → Stp L H H' → Q (.int r) H'
theorem ok_great (B : Blt mg) (D : Dfn K mg "_law_great" s_law_great) (G_law_take : Cal P w K mg base CX0 1 "_law_take" ["_law_pool_here", "_law_bound"] spTake) : Cal P w K mg base CX0 2 "_law_great" ["_law_pool_here"] spGreat := by
  refine mkCal D (fun _ _ _ _ _ _ us hl => match us, hl with | [_], _ => rfl) fun f fd F => ?_
  refine F.ok sc_law_great (fun vs H Q E h => ?_) (fun cdv A outer s H vs Q E hr h => ?_)
  · obtain ⟨L, rfl, _⟩ := h
    rfl
  · obtain ⟨L, rfl, hp, q⟩ := h
    refine ⟨_, ((pss_cons (ps_set (i := 1) sc_law_great.nd rfl (.inl rfl) pe_int)
      (pss_cons (ps_for PassesOwn.never rfl (pi_range1 (by rfl) B.b_range (pa_cons pe_int pa_nil)) (pg_name (i := 2) sc_law_great.nd rfl (.inl rfl)) (pss_one (ps_set (i := 1) sc_law_great.nd rfl (.inl rfl) (pe_op op_add (pe_op op_mulW (pv 1) pe_int) (pcal G_law_take hr pass0 (pa_cons (pv 0) (pa_cons pe_int pa_nil)))))))
      (pss_one (ps_ret (pv 1)))))), ?_⟩
    refine q_asg ev_c fun H1 e1 => ?_
    refine q_forR1 (ea_cons ev_c ea_nil) (by omega) (fun i σ' H' => ∃ (v : Int) (y : Option V), σ' = [some (.ref L), some (.int v), y] ∧ 0 ≤ v ∧ v < 1000 ^ i ∧ Stp L H H')
      (fun H2 e2 => ⟨0, none, rfl, by omega, by decide, stp_of hp (e1.trans e2)⟩) (fun i σ' H' hi hP => ?_) (fun σ' H' hP => ?_)
    · obtain ⟨v, y, rfl, h0, h1, st⟩ := hP
      have hi4 : i < 4 := by omega
      have hb : (1000 : Int) ^ i ≤ 1000 ^ 3 := by
        have : i = 0 ∨ i = 1 ∨ i = 2 ∨ i = 3 := by omega
        rcases this with h | h | h | h <;> subst h <;> decide
      have hv : v < 1000000000 := by
        have e : (1000 : Int) ^ 3 = 1000000000 := by decide
        omega
      refine ⟨.int v, rfl, v, 1000, rfl, rfl, sm_mul (by unfold Sm; omega) (by unfold Sm; omega), ?_⟩
      refine take_go (ev_var rfl) ev_c st.pool (by omega) fun r H2 r0 r1 st2 => ?_
      refine ⟨_, r, rfl, rfl, v * 1000 + r, _, rfl, by omega, ?_, st.trans st2⟩
      rw [Int.pow_succ]
      have : v + 1 ≤ 1000 ^ i := h1
      omega
    · obtain ⟨v, y, rfl, h0, h1, st⟩ := hP
      have e : (1000 : Int) ^ (4 : Int).toNat = 1000000000000 := by decide
      rw [e] at h1
      exact s_ret (ev_var rfl) fun H2 e2 => q v H2 h0 h1 (st.ex_ e2)
theorem ok_law_int (B : Blt mg) (D : Dfn K mg "_law_int" s_law_int) : Cal P w K mg base CX0 1 "_law_int" ["_law_value"] (spIsInteger K) := by
  refine mkCal D (fun _ _ _ _ _ _ us hl => match us, hl with | [_], _ => rfl) fun f fd F => ?_
  refine F.ok sc_law_int (fun vs H Q E h => ?_) (fun cdv A outer s H vs Q E hr h => ?_)
  · obtain ⟨v, d, rfl, _⟩ := h
    rfl
  · obtain ⟨v, d, rfl, hd, q⟩ := h
    refine ⟨_, ((pss_one (ps_ret (pe_and (pe_callB call_isi (by rfl) B.b_isinstance bt_isinstance (pa_cons (pv 0) (pa_cons (pe_bltn (v := .ty "int") (by rfl) B.b_int bt_int rfl) pa_nil))) (pe_one (pe_not (pe_callB call_isi (by rfl) B.b_isinstance bt_isinstance (pa_cons (pv 0) (pa_cons (pe_bltn (v := .ty "bool") (by rfl) B.b_bool bt_bool rfl) pa_nil))))))))), ?_⟩
    exact s_ret (ev_isint (ev_var rfl) hd) q
/-! ### _law_common -/
def spCommon : Sp := fun vs H Q _ => ∃ (a b : Nat), vs = [.int (a : Int), .int (b : Int)] ∧ a < 2 ^ 190 ∧ b < 2 ^ 190 ∧ RetV (.int (Nat.gcd a b : Nat)) H Q
/-- between two turns: the numbers fall -/
structure Ec (g i a b : Nat) : Prop where
  gcd : Nat.gcd a b = g
  ha : a < 2 ^ 190
  hb : b < 2 ^ 190
  less : i = 0 ∨ b < a
  fall : a * b * 2 ^ i ≤ 2 ^ 382
theorem ec_step {g i a b : Nat} (h : Ec g i a b) (hb : 0 < b) : Ec g (i + 1) b (a % b) := by
  have hm := Nat.mod_lt a hb
  have hd := Nat.div_add_mod a b
  refine ⟨?_, h.hb, Nat.lt_of_lt_of_le (Nat.lt_trans hm h.hb) (Nat.le_refl _), .inr hm, ?_⟩
  · rw [← h.gcd, Nat.gcd_comm a b, Nat.gcd_rec b a, Nat.gcd_comm]
  · rcases h.less with h0 | h1
    · subst h0
      have h1 : b * (a % b) ≤ 2 ^ 190 * 2 ^ 190 := Nat.mul_le_mul (Nat.le_of_lt h.hb) (Nat.le_of_lt (Nat.lt_trans hm h.hb))
      have e : (2 : Nat) ^ 190 * 2 ^ 190 * 2 ^ 1 ≤ 2 ^ 382 := by decide
      exact Nat.le_trans (Nat.mul_le_mul_right _ h1) e
    · -- a ≥ b + a % b > 2 * (a % b)
      have hq : 1 ≤ a / b := (Nat.one_le_div_iff hb).mpr (by omega)
      have h2 : b * 1 ≤ b * (a / b) := Nat.mul_le_mul_left _ hq
      have h3 : (a % b) * 2 ≤ a := by omega
      have h4 : b * (a % b) * 2 ≤ a * b := by
        rw [Nat.mul_assoc, Nat.mul_comm a b]
        exact Nat.mul_le_mul_left _ h3
      rw [Nat.pow_succ, Nat.mul_comm (2 ^ i) 2, ← Nat.mul_assoc]
      exact Nat.le_trans (Nat.mul_le_mul_right _ h4) h.fall
theorem ec_end {g a b : Nat} (h : Ec g 400 a b) : b = 0 := by
  rcases h.less with h0 | h1
  · cases h0
  · rcases Nat.eq_zero_or_pos b with z | z
    · exact z
    · have h2 : 1 * 1 ≤ a * b := Nat.mul_le_mul (by omega) z
      have h3 := Nat.mul_le_mul_right (2 ^ 400) h2
      have h4 := Nat.le_trans h3 h.fall
      exact absurd h4 (by decide)
theorem sm190 {a b : Nat} (ha : a < 2 ^ 190) (hb : b < 2 ^ 190) : CMulW (a : Int) (b : Int) := wide_mul (a := 190) (b := 190) (by rw [Int.natAbs_natCast]; exact ha) (by rw [Int.natAbs_natCast]; exact hb) (by decide) (by decide) (by decide)
theorem ok_common (B : Blt mg) (D : Dfn K mg "_law_common" s_law_common) : Cal P w K mg base CX0 1 "_law_common" ["_law_first", "_law_second"] spCommon := by
  refine mkCal D (fun _ _ _ _ _ _ us hl => match us, hl with | [_, _], _ => rfl) fun f fd F => ?_
  refine F.ok sc_law_common (fun vs H Q E h => ?_) (fun cdv A outer s H vs Q E hr h => ?_)
  · obtain ⟨a, b, rfl, _⟩ := h
    rfl
  · obtain ⟨a, b, rfl, ha, hb, q⟩ := h
    refine ⟨_, ((pss_cons (ps_for PassesOwn.never rfl (pi_range1 (by rfl) B.b_range (pa_cons pe_int pa_nil)) (pg_name (i := 2) sc_law_common.nd rfl (.inl rfl)) (pss_cons (ps_if (pt_cmpR op_eq (pv 1) pe_int (nomark _)) (pss_one ps_break) pss_nil)
      (pss_cons (ps_set (i := 3) sc_law_common.nd rfl (.inl rfl) (pe_op op_sub (pv 0) (pe_op op_mulW (pe_op op_fdivW (pv 0) (pv 1)) (pv 1))))
      (pss_cons (ps_set (i := 0) sc_law_common.nd rfl (.inl rfl) (pv 1))
      (pss_one (ps_set (i := 1) sc_law_common.nd rfl (.inl rfl) (pv 3)))))))
      (pss_one (ps_ret (pv 0))))), ?_⟩
    have fin : ∀ (a' : Nat) (σ' : L2.St) (H' : Hp), σ'[0]? = some (some (.int (a' : Int))) → a' = Nat.gcd a b → Ex H H' → tRet (tVar 0) { nx := fun _ H' => Q .non H', rt := Q } σ' H' := fun a' σ' H' h1 h2 e => by
      subst h2
      exact s_ret (ev_var h1) fun H2 e2 => q H2 (e.trans e2)
    refine q_forR1 (ea_cons ev_c ea_nil) (by omega) (fun i σ' H' => ∃ (a' b' : Nat) (y2 y3 : Option V), σ' = [some (.int (a' : Int)), some (.int (b' : Int)), y2, y3] ∧ Ex H H' ∧ Ec (Nat.gcd a b) i a' b')
      (fun H2 e2 => ⟨a, b, none, none, rfl, e2, ⟨rfl, ha, hb, .inl rfl, ?_⟩⟩) (fun i σ' H' hi hP => ?_) (fun σ' H' hP => ?_)
    · have h1 : a * b ≤ 2 ^ 190 * 2 ^ 190 := Nat.mul_le_mul (Nat.le_of_lt ha) (Nat.le_of_lt hb)
      have e : (2 : Nat) ^ 190 * 2 ^ 190 * 2 ^ 0 ≤ 2 ^ 382 := by decide
      exact Nat.le_trans (Nat.mul_le_mul_right _ h1) e
    · obtain ⟨a', b', y2, y3, rfl, e, ec⟩ := hP
      refine q_when (et_test (ev_op (ev_var rfl) ev_c (rv_eq rfl))) (fun z H1 e1 => ?_) fun z H1 e1 => ?_
      · have hb0 : b' = 0 := by
          have := V.int.inj (of_decide_eq_true z)
          omega
        subst hb0
        refine fin a' _ _ rfl ?_ (e.trans e1)
        have := ec.gcd
        rw [Nat.gcd_zero_right] at this
        exact this
      · have hb0 : 0 < b' := by
          rcases Nat.eq_zero_or_pos b' with h | h
          · subst h
            cases z
          · exact h
        have hdl : a' / b' < 2 ^ 190 := Nat.lt_of_le_of_lt (Nat.div_le_self _ _) ec.ha
        have hdv : CDivW (a' : Int) (b' : Int) := wide_div (b := 190) (by omega) (by rw [Int.natAbs_natCast]; exact ec.hb) (by decide) (by decide)
        have ediv : (a' : Int) / (b' : Int) = ((a' / b' : Nat) : Int) := rfl
        refine q_asg (v := .int ((a' % b' : Nat) : Int)) (ev_is (ev_op (ev_var rfl) (ev_op (ev_op (ev_var rfl) (ev_var rfl) (rv_I hdv)) (ev_var rfl) (rv_I (by rw [ediv]; exact sm190 hdl ec.hb))) rv_I0) ?_) fun H2 e2 => ?_
        · congr 1
          have hd := Nat.div_add_mod a' b'
          rw [ediv, ← Int.natCast_mul]
          have e3 : a' / b' * b' = b' * (a' / b') := Nat.mul_comm _ _
          rw [e3]
          omega
        · refine q_asg (ev_var rfl) fun H3 e3 => ?_
          exact s_asg (ev_var rfl) fun H4 e4 => ⟨b', a' % b', _, _, rfl, e.trans (e1.trans (e2.trans (e3.trans e4))), ec_step ec hb0⟩
    · obtain ⟨a', b', y2, y3, rfl, e, ec⟩ := hP
      have hb0 := ec_end ec
      subst hb0
      refine fin a' _ _ rfl ?_ e
      have := ec.gcd
      rw [Nat.gcd_zero_right] at this
      exact this
theorem ev_common {σ : L2.St} {H : Hp} {ta tb : TE} {a b : Nat} {E : XK} (ha : Ev ta σ H (.int (a : Int))) (hb : Ev tb σ H (.int (b : Int))) (la : a < 2 ^ 190) (lb : b < 2 ^ 190) : Ev (tCall spCommon [] E (tCons ta (tCons tb tNil))) σ H (.int (Nat.gcd a b : Nat)) :=
  ev_call (ea_cons ha (ea_cons hb ea_nil)) fun H1 e1 Q q E' => ⟨a, b, rfl, la, lb, q⟩
end
end K1
namespace K1
open PySem PySem.Spec PyProof.Rows L2 Evl
/-! ### _law_share -/
/-- a quotient in lowest terms, its numbers at most 10 ** 12 -/
structure Shr (a b : Int) : Prop where
  b1 : 1 ≤ b
  cop : Nat.gcd a.natAbs b.natAbs = 1
  la : a.natAbs ≤ 1000000000000
  lb : b.natAbs ≤ 1000000000000
theorem Shr.isQ {a b : Int} (s : Shr a b) : isQ (.tuple [.int a, .int b]) = true := isQ_of s.b1 s.cop
theorem reduced {t : Int} {b : Nat} (hb : 0 < b) (ht : t.natAbs ≤ 1000000000000) (hb2 : b ≤ 1000000000000) : Shr (t / (Nat.gcd t.natAbs b : Nat)) ((b : Int) / (Nat.gcd t.natAbs b : Nat)) := by
  obtain ⟨n, m, h1, h2, h3, _, h5, h6⟩ := low_pos (t := t) (b := (b : Int)) (by omega)
  unfold low at h1
  rw [if_neg (by omega), Int.natAbs_natCast] at h1
  have e1 := congrArg Prod.fst h1
  have e2 := congrArg Prod.snd h1
  have e1' : t / (Nat.gcd t.natAbs b : Nat) = n := e1
  have e2' : (b : Int) / (Nat.gcd t.natAbs b : Nat) = m := e2
  rw [e1', e2']
  exact ⟨h2, h3, by omega, by rw [Int.natAbs_natCast] at h6; omega⟩
section
variable {P : Program} {w : World} {K : PySem.W.Frag} {mg : Str → Option Value} {base : Heap} {C fI cW cL cP : Addr}
def spShare : Sp := fun vs H Q _ => ∃ (L : Addr), vs = [.ref L] ∧ PoolAt H L ∧ ∀ p H' a b, Shr a b → Stp L H H' → H' p = some (.tup [.int a, .int b]) → Q (.ref p) H'
theorem great_go {σ : L2.St} {H : Hp} {t1 : TE} {L : Addr} {E : XK} {Q : VK} (h1 : Ev t1 σ H (.ref L)) (hp : PoolAt H L) (k : ∀ r H', 0 ≤ r → r < 1000000000000 → Stp L H H' → Q (.int r) H') :
    tCall spGreat [] E (tCons t1 tNil) σ H Q := by
  show tCons t1 tNil σ H fun vs H1 => spGreat (vs ++ []) H1 Q E
  refine (ea_cons h1 ea_nil) H (Ex.refl H) _ fun H1 e1 => ?_
  exact ⟨L, rfl, hp.mono e1, fun r H' r1 r2 st => k r H' r1 r2 ((stp_of hp e1).trans st)⟩
theorem ok_share (B : Blt mg) (D : Dfn K mg "_law_share" s_law_share) (G_law_take : Cal P w K mg base CX0 1 "_law_take" ["_law_pool_here", "_law_bound"] spTake) (G_law_great : Cal P w K mg base CX0 2 "_law_great" ["_law_pool_here"] spGreat)
    (G_law_common : Cal P w K mg base CX0 1 "_law_common" ["_law_first", "_law_second"] spCommon) : Cal P w K mg base CX0 3 "_law_share" ["_law_pool_here"] spShare := by
  refine mkCal D (fun _ _ _ _ _ _ us hl => match us, hl with | [_], _ => rfl) fun f fd F => ?_
  refine F.ok sc_law_share (fun vs H Q E h => ?_) (fun cdv A outer s H vs Q E hr h => ?_)
  · obtain ⟨L, rfl, _⟩ := h
    rfl
  · obtain ⟨L, rfl, hp, q⟩ := h
    refine ⟨_, ((pss_cons (ps_set (i := 1) sc_law_share.nd rfl (.inl rfl) (pe_op op_sub (pcal G_law_take hr pass0 (pa_cons (pv 0) (pa_cons pe_int pa_nil))) pe_int))
      (pss_cons (ps_set (i := 2) sc_law_share.nd rfl (.inl rfl) (pe_op op_add pe_int (pcal G_law_take hr pass0 (pa_cons (pv 0) (pa_cons pe_int pa_nil)))))
      (pss_cons (ps_set (i := 3) sc_law_share.nd rfl (.inl rfl) (pcal G_law_take hr pass0 (pa_cons (pv 0) (pa_cons pe_int pa_nil))))
      (pss_cons (ps_if (pt_cmpR op_eq (pv 3) pe_int (nomark _)) (pss_cons (ps_set (i := 1) sc_law_share.nd rfl (.inl rfl) (pe_op op_sub (pcal G_law_great hr pass0 (pa_cons (pv 0) pa_nil)) (pe_op op_mulW pe_int (pe_op op_pow pe_int pe_int))))
      (pss_one (ps_set (i := 2) sc_law_share.nd rfl (.inl rfl) (pe_op op_add pe_int (pcal G_law_great hr pass0 (pa_cons (pv 0) pa_nil)))))) pss_nil)
      (pss_cons (ps_if (pt_cmpR op_eq (pv 3) pe_int (nomark _)) (pss_one (ps_set (i := 1) sc_law_share.nd rfl (.inl rfl) (pe_op op_mulW (pv 1) (pe_op op_pow pe_int pe_int)))) pss_nil)
      (pss_cons (ps_set (i := 4) sc_law_share.nd rfl (.inl rfl) (pcal G_law_common hr pass0 (pa_cons (pe_callB call_abs (by rfl) B.b_abs bt_abs (pa_cons (pv 1) pa_nil)) (pa_cons (pv 2) pa_nil))))
      (pss_one (ps_ret (pe_tup (pa_cons (pe_op op_fdivW (pv 1) (pv 4)) (pa_cons (pe_op op_fdivW (pv 2) (pv 4)) pa_nil)))))))))))), ?_⟩
    -- high, low, choice
    refine take_go (ev_var rfl) ev_c hp (by omega) fun r1 H1 l1 u1 st1 => ?_
    refine ⟨r1, 12, rfl, rfl, ?_⟩
    refine take_go (ev_var rfl) ev_c st1.pool (by omega) fun r2 H2 l2 u2 st2 => ?_
    refine ⟨1, r2, rfl, rfl, ?_⟩
    refine take_go (ev_var rfl) ev_c st2.pool (by omega) fun r3 H3 l3 u3 st3 => ?_
    have st := st1.trans (st2.trans st3)
    -- the end, whatever high and low are
    have fin : ∀ (t : Int) (b : Nat) (H' : Hp), 0 < b → t.natAbs ≤ 1000000000000 → b ≤ 1000000000000 → Stp L H H' →
        (tSeq (tAsg (tCall spCommon [] E0 (tCons (tCB rAbs (tCons (tVar 1) tNil)) (tCons (tVar 2) tNil))) (gName 4))
          (tRet (tTup (tCons (tOp (rI CDivW fun i j => .int (i / j)) (tVar 1) (tVar 4)) (tCons (tOp (rI CDivW fun i j => .int (i / j)) (tVar 2) (tVar 4)) tNil)))))
          { nx := fun _ H' => Q .non H', rt := Q } [some (.ref L), some (.int t), some (.int (b : Int)), some (.int r3), none] H' := fun t b H' hb ht hb2 st' => by
      have hg : 0 < Nat.gcd t.natAbs b := Nat.gcd_pos_of_pos_right _ hb
      have hgb : Nat.gcd t.natAbs b ≤ b := Nat.le_of_dvd hb (Nat.gcd_dvd_right _ _)
      have hdv : ∀ i : Int, CDivW i ((Nat.gcd t.natAbs b : Nat) : Int) := fun i => wide_div (b := 130) (by omega) (by omega) (by decide) (by decide)
      refine q_asg (ev_common (ev_abs (ev_var rfl)) (ev_var rfl) (by omega) (by omega)) fun H4 e4 => ?_
      refine s_retU (eu_tup (ea_cons (ev_op (ev_var rfl) (ev_var rfl) (rv_I (hdv _))) (ea_cons (ev_op (ev_var rfl) (ev_var rfl) (rv_I (hdv _))) ea_nil)) (by show 2 ≤ 100000; decide)) fun p H5 _ e5 hx => ?_
      exact q p H5 _ _ (reduced hb ht hb2) (st'.ex_ (e4.trans e5)) hx
    obtain ⟨n2, rfl⟩ : ∃ n : Nat, r2 = (n : Int) := ⟨r2.toNat, by omega⟩
    have e12 : (1 : Int) + (n2 : Int) = ((1 + n2 : Nat) : Int) := by omega
    -- if choice == 4
    have mid : ∀ (t : Int) (b : Nat) (H' : Hp), 0 < b → t.natAbs ≤ 1000000000000 → (r3 = 4 → t.natAbs ≤ 12) → b ≤ 1000000000000 → Stp L H H' →
        (tSeq (tIfS (tTest (tOp rEq (tVar 3) (tC (.int 4)))) (tAsg (tOp (rI CMulW fun i j => .int (i * j)) (tVar 1) (tOp (rI CPow fun i j => .int (i ^ j.toNat)) (tC (.int 10)) (tC (.int 10)))) (gName 1)) tNext)
        (tSeq (tAsg (tCall spCommon [] E0 (tCons (tCB rAbs (tCons (tVar 1) tNil)) (tCons (tVar 2) tNil))) (gName 4))
          (tRet (tTup (tCons (tOp (rI CDivW fun i j => .int (i / j)) (tVar 1) (tVar 4)) (tCons (tOp (rI CDivW fun i j => .int (i / j)) (tVar 2) (tVar 4)) tNil))))))
          { nx := fun _ H' => Q .non H', rt := Q } [some (.ref L), some (.int t), some (.int (b : Int)), some (.int r3), none] H' := fun t b H' hb ht h4 hb2 st' => by
      refine q_when (et_test (ev_op (ev_var rfl) ev_c (rv_eq rfl))) (fun z H5 e5 => ?_) fun z H5 e5 => ?_
      · have z4 := h4 (V.int.inj (of_decide_eq_true z))
        have e10 : (10 : Int) ^ (10 : Int).toNat = 10000000000 := by decide
        refine s_asg (ev_op (ev_var rfl) (ev_op ev_c ev_c (rv_I ⟨by decide, by decide, by decide⟩)) (rv_I (by rw [e10]; exact sm_mul (by unfold Sm; omega) (by unfold Sm; omega)))) fun H6 e6 => ?_
        rw [e10]
        refine fin _ b H6 hb ?_ hb2 (st'.ex_ (e5.trans e6))
        omega
      · exact fin t b H5 hb ht hb2 (st'.ex_ e5)
    refine q_when (et_test (ev_op (ev_var rfl) ev_c (rv_eq rfl))) (fun z H4 e4 => ?_) fun z H4 e4 => ?_
    · have z5 : r3 = 5 := V.int.inj (of_decide_eq_true z)
      refine great_go (ev_var rfl) (st.ex_ e4).pool fun g1 H5 l5 u5 st5 => ?_
      have e10 : (10 : Int) ^ (11 : Int).toNat = 100000000000 := by decide
      have e5 : Ev (tOp (rI CMulW fun i j => .int (i * j)) (tC (.int 5)) (tOp (rI CPow fun i j => .int (i ^ j.toNat)) (tC (.int 10)) (tC (.int 11)))) [some (.ref L), some (.int (r1 - 12)), some (.int (1 + (n2 : Int))), some (.int r3), none] H5 (.int (5 * 10 ^ (11 : Int).toNat)) :=
        ev_op ev_c (ev_op ev_c ev_c (rv_I ⟨by decide, by decide, by decide⟩)) (rv_I (by rw [e10]; exact sm_mul (by unfold Sm; omega) (by unfold Sm; omega)))
      refine e5 H5 (Ex.refl _) _ fun H6 e6 => ?_
      refine ⟨g1, _, rfl, rfl, ?_⟩
      rw [e10]
      have st6 := (st.ex_ e4).trans (st5.ex_ e6)
      refine great_go (ev_var rfl) st6.pool fun g2 H7 l7 u7 st7 => ?_
      refine ⟨1, g2, rfl, rfl, ?_⟩
      obtain ⟨m2, rfl⟩ : ∃ n : Nat, g2 = (n : Int) := ⟨g2.toNat, by omega⟩
      have em2 : (1 : Int) + (m2 : Int) = ((1 + m2 : Nat) : Int) := by omega
      have zz := mid (g1 - 5 * 100000000000) (1 + m2) H7 (by omega) (by omega) (fun h => by omega) (by omega) (st6.trans st7)
      rw [← em2] at zz
      exact zz
    · have zz := mid (r1 - 12) (1 + n2) H4 (by omega) (by omega) (fun _ => by omega) (by omega) (st.ex_ e4)
      rw [← e12] at zz
      exact zz
end
end K1
namespace K1
open PySem PySem.Spec PyProof.Rows L2 Evl
section
variable {P : Program} {w : World} {K : PySem.W.Frag} {mg : Str → Option Value} {base : Heap} {C fI cW cL cP : Addr}
/-! ### _law_stands -/
theorem w190 {i j : Int} (hi : i.natAbs < 2 ^ 190) (hj : j.natAbs < 2 ^ 190) : CMulW i j := wide_mul hi hj (by decide) (by decide) (by decide)
/-- n / m in lowest terms stands for hi / lo -/
structure Std (n m hi lo : Int) : Prop where
  m1 : 1 ≤ m
  cop : Nat.gcd n.natAbs m.natAbs = 1
  eq : n * lo = hi * m
  ln : n.natAbs < 2 ^ 130
  lm : m.natAbs < 2 ^ 130
  lh : hi.natAbs < 2 ^ 130
  ll : lo.natAbs < 2 ^ 130
def spStands (K : PySem.W.Frag) : Sp := fun vs H Q _ => ∃ (p : Addr) (n m hi lo : Int), vs = [.ref p, .int hi, .int lo] ∧ SqT K H p [.int n, .int m] ∧ Std n m hi lo ∧ RetV (.bl true) H Q
theorem ok_stands (B : Blt mg) (D : Dfn K mg "_law_stands" s_law_stands) (G_law_int : Cal P w K mg base CX0 1 "_law_int" ["_law_value"] (spIsInteger K)) (G_law_common : Cal P w K mg base CX0 1 "_law_common" ["_law_first", "_law_second"] spCommon) :
    Cal P w K mg base CX0 2 "_law_stands" ["_law_got", "_law_high", "_law_low"] (spStands K) := by
  refine mkCal D (fun _ _ _ _ _ _ us hl => match us, hl with | [_, _, _], _ => rfl) fun f fd F => ?_
  refine F.ok sc_law_stands (fun vs H Q E h => ?_) (fun cdv A outer s H vs Q E hr h => ?_)
  · obtain ⟨p, n, m, hi, lo, rfl, _⟩ := h
    rfl
  · obtain ⟨p, n, m, hi, lo, rfl, hs, st, q⟩ := h
    refine ⟨_, ((pss_cons (ps_if (PW.pt (pw_or (pt_not (pt_val (pe_callB call_isi (by rfl) B.b_isinstance bt_isinstance (pa_cons (pv 0) (pa_cons (pe_bltn (v := .ty "tuple") (by rfl) B.b_tuple bt_tuple rfl) pa_nil))))) (pw_or (pt_cmpR op_ne (pe_callB call_len_seq (by rfl) B.b_len bt_len (pa_cons (pv 0) pa_nil)) pe_int (nomark _)) (pw_or (pt_not (pt_val (pcal G_law_int hr pass0 (pa_cons (pe_ix ix_tup (pv 0) pe_int (fun _ _ => rfl)) pa_nil)))) (pw_or1 (pt_not (pt_val (pcal G_law_int hr pass0 (pa_cons (pe_ix ix_tup (pv 0) pe_int (fun _ _ => rfl)) pa_nil))))))))) (pss_one (ps_ret pe_bl)) pss_nil)
      (pss_cons (ps_if (PW.pt (pw_or (pt_cmpR op_lt (pe_ix ix_tup (pv 0) pe_int (fun _ _ => rfl)) pe_int (nomark _)) (pw_or1 (pt_cmpR op_ne (pcal G_law_common hr pass0 (pa_cons (pe_callB call_abs (by rfl) B.b_abs bt_abs (pa_cons (pe_ix ix_tup (pv 0) pe_int (fun _ _ => rfl)) pa_nil)) (pa_cons (pe_ix ix_tup (pv 0) pe_int (fun _ _ => rfl)) pa_nil))) pe_int (nomark _))))) (pss_one (ps_ret pe_bl)) pss_nil)
      (pss_one (ps_ret (pe_cmpR op_eq (pe_op op_mulW (pe_ix ix_tup (pv 0) pe_int (fun _ _ => rfl)) (pv 2)) (pe_op op_mulW (pv 1) (pe_ix ix_tup (pv 0) pe_int (fun _ _ => rfl))) (nomark _))))))), ?_⟩
    obtain ⟨m1, cop, eq, ln, lm, lh, ll⟩ := st
    obtain ⟨k, rfl⟩ : ∃ k : Nat, m = (k : Int) := ⟨m.toNat, by omega⟩
    rw [Int.natAbs_natCast] at cop lm
    refine q_ifF (et_isTup (ev_var rfl) (pair_dp hs) (et_is (et_or (et_test (ev_op (ev_lenT (ev_var rfl) hs) ev_c (rv_ne rfl))) fun _ => et_or (et_not (et_B (ev_isint2 (ev_i0 (ev_var rfl) hs) (.int n)))) fun _ => et_not (et_B (ev_isint2 (ev_i1 (ev_var rfl) hs) (.int _)))) rfl)) fun H1 e1 => ?_
    have hs1 := ex_t e1 hs
    refine q_ifF (et_is (et_or (et_test (ev_op (ev_i1 (ev_var rfl) hs1) ev_c rv_I0)) fun _ => et_test (ev_op (ev_common (ev_abs (ev_i0 (ev_var rfl) hs1)) (ev_i1 (ev_var rfl) hs1) (by omega) (by omega)) ev_c (rv_ne rfl))) ?_) fun H2 e2 => ?_
    · show (decide ((k : Int) < 1) || !decide (V.int ((Nat.gcd n.natAbs k : Nat) : Int) = V.int 1)) = false
      rw [cop, decide_eq_false (by omega)]
      rfl
    · have hs2 := ex_t e2 hs1
      refine s_ret (ev_is (ev_op (ev_op (ev_i0 (ev_var rfl) hs2) (ev_var rfl) (rv_I (w190 (by omega) (by omega)))) (ev_op (ev_var rfl) (ev_i1 (ev_var rfl) hs2) (rv_I (w190 (by omega) (by rw [Int.natAbs_natCast]; omega)))) (rv_eq rfl)) ?_) fun H3 e3 => q H3 (e1.trans (e2.trans e3))
      show V.bl (decide (V.int (n * lo) = V.int (hi * (k : Int)))) = V.bl true
      rw [eq, decide_eq_true rfl]
theorem ev_stands {σ : L2.St} {H : Hp} {t1 t2 t3 : TE} {p : Addr} {n m hi lo : Int} {E : XK} (h1 : Ev t1 σ H (.ref p)) (h2 : Ev t2 σ H (.int hi)) (h3 : Ev t3 σ H (.int lo)) (hs : SqT K H p [.int n, .int m]) (st : Std n m hi lo) :
    Ev (tCall (spStands K) [] E (tCons t1 (tCons t2 (tCons t3 tNil)))) σ H (.bl true) :=
  ev_call (ea_cons h1 (ea_cons h2 (ea_cons h3 ea_nil))) fun H1 e1 Q q E' => ⟨p, n, m, hi, lo, rfl, ex_t e1 hs, st, q⟩
/-! ### the four deeds -/
inductive Deed where
  | plus | minus | times | over
def Deed.nm : Deed → Str
  | .plus => "plus"
  | .minus => "minus"
  | .times => "times"
  | .over => "over"
def Deed.f : Deed → Int → Int → Int → Int → Int × Int
  | .plus => fPlus
  | .minus => fMinus
  | .times => fTimes
  | .over => fOver
/-- an if over a text that is known -/
theorem q_strF {σ : L2.St} {H : Hp} {i : Nat} {s t : Str} {tu tz : TS} {D : Ends} (hv : σ[i]? = some (some (.str s))) (hne : decide (V.str s = V.str t) = false) (k : tz D σ H) : tSeq (tIfS (tTest (tOp rEq (tVar i) (tC (.str t)))) tu tNext) tz D σ H := by
  refine ⟨.str s, hv, rfl, _, rfl, ?_⟩
  show if decide (V.str s = V.str t) = true then _ else _
  rw [hne]
  exact iteF k
theorem q_strT {σ : L2.St} {H : Hp} {i : Nat} {t : Str} {tu tz : TS} {D : Ends} (hv : σ[i]? = some (some (.str t))) (k : tu { D with nx := tz D } σ H) : tSeq (tIfS (tTest (tOp rEq (tVar i) (tC (.str t)))) tu tNext) tz D σ H := by
  refine ⟨.str t, hv, rfl, _, rfl, ?_⟩
  show if decide (V.str t = V.str t) = true then _ else _
  rw [decide_eq_true rfl]
  exact iteT k
def spNumber (K : PySem.W.Frag) : Sp := fun vs H Q _ => ∃ (d : Deed) (p r : Addr) (a b c e : Int), vs = [.str d.nm, .ref p, .ref r] ∧ SqT K H p [.int a, .int b] ∧ SqT K H r [.int c, .int e] ∧ Sm a ∧ Sm b ∧ Sm c ∧ Sm e ∧
  RetU [.int (d.f a b c e).1, .int (d.f a b c e).2] H Q
theorem ok_number (D : Dfn K mg "_law_number" s_law_number) : Cal P w K mg base CX0 1 "_law_number" ["_law_deed_here", "_law_a", "_law_b"] (spNumber K) := by
  refine mkCal D (fun _ _ _ _ _ _ us hl => match us, hl with | [_, _, _], _ => rfl) fun f fd F => ?_
  refine F.ok sc_law_number (fun vs H Q E h => ?_) (fun cdv A outer s H vs Q E hr h => ?_)
  · obtain ⟨d, p, r, a, b, c, e, rfl, _⟩ := h
    rfl
  · obtain ⟨d, p, r, a, b, c, e, rfl, h1, h2, sa, sb, sc, se, q⟩ := h
    refine ⟨_, ((pss_cons (ps_if (pt_cmpR op_eq (pv 0) pe_str (nomark _)) (pss_one (ps_ret (pe_tup (pa_cons (pe_op op_add (pe_op op_mulW (pe_ix ix_tup (pv 1) pe_int (fun _ _ => rfl)) (pe_ix ix_tup (pv 2) pe_int (fun _ _ => rfl))) (pe_op op_mulW (pe_ix ix_tup (pv 2) pe_int (fun _ _ => rfl)) (pe_ix ix_tup (pv 1) pe_int (fun _ _ => rfl)))) (pa_cons (pe_op op_mulW (pe_ix ix_tup (pv 1) pe_int (fun _ _ => rfl)) (pe_ix ix_tup (pv 2) pe_int (fun _ _ => rfl))) pa_nil))))) pss_nil)
      (pss_cons (ps_if (pt_cmpR op_eq (pv 0) pe_str (nomark _)) (pss_one (ps_ret (pe_tup (pa_cons (pe_op op_sub (pe_op op_mulW (pe_ix ix_tup (pv 1) pe_int (fun _ _ => rfl)) (pe_ix ix_tup (pv 2) pe_int (fun _ _ => rfl))) (pe_op op_mulW (pe_ix ix_tup (pv 2) pe_int (fun _ _ => rfl)) (pe_ix ix_tup (pv 1) pe_int (fun _ _ => rfl)))) (pa_cons (pe_op op_mulW (pe_ix ix_tup (pv 1) pe_int (fun _ _ => rfl)) (pe_ix ix_tup (pv 2) pe_int (fun _ _ => rfl))) pa_nil))))) pss_nil)
      (pss_cons (ps_if (pt_cmpR op_eq (pv 0) pe_str (nomark _)) (pss_one (ps_ret (pe_tup (pa_cons (pe_op op_mulW (pe_ix ix_tup (pv 1) pe_int (fun _ _ => rfl)) (pe_ix ix_tup (pv 2) pe_int (fun _ _ => rfl))) (pa_cons (pe_op op_mulW (pe_ix ix_tup (pv 1) pe_int (fun _ _ => rfl)) (pe_ix ix_tup (pv 2) pe_int (fun _ _ => rfl))) pa_nil))))) pss_nil)
      (pss_one (ps_ret (pe_tup (pa_cons (pe_op op_mulW (pe_ix ix_tup (pv 1) pe_int (fun _ _ => rfl)) (pe_ix ix_tup (pv 2) pe_int (fun _ _ => rfl))) (pa_cons (pe_op op_mulW (pe_ix ix_tup (pv 1) pe_int (fun _ _ => rfl)) (pe_ix ix_tup (pv 2) pe_int (fun _ _ => rfl))) pa_nil))))))))), ?_⟩
    have x1 : ∀ {σ : L2.St}, σ[1]? = some (some (.ref p)) → Ev (tOp (rIxT K) (tVar 1) (tC (.int 0))) σ H (.int a) := fun h => ev_i0 (ev_var h) h1
    have x2 : ∀ {σ : L2.St}, σ[1]? = some (some (.ref p)) → Ev (tOp (rIxT K) (tVar 1) (tC (.int 1))) σ H (.int b) := fun h => ev_i1 (ev_var h) h1
    have x3 : ∀ {σ : L2.St}, σ[2]? = some (some (.ref r)) → Ev (tOp (rIxT K) (tVar 2) (tC (.int 0))) σ H (.int c) := fun h => ev_i0 (ev_var h) h2
    have x4 : ∀ {σ : L2.St}, σ[2]? = some (some (.ref r)) → Ev (tOp (rIxT K) (tVar 2) (tC (.int 1))) σ H (.int e) := fun h => ev_i1 (ev_var h) h2
    cases d with
    | plus =>
      refine q_strT rfl (s_retU (eu_tup (ea_cons (ev_op (ev_op (x1 rfl) (x4 rfl) (rv_I (sm_mul sa se))) (ev_op (x3 rfl) (x2 rfl) (rv_I (sm_mul sc sb))) rv_I0) (ea_cons (ev_op (x2 rfl) (x4 rfl) (rv_I (sm_mul sb se))) ea_nil)) (by show 2 ≤ 100000; decide)) fun p' H3 hp e3 hx => q p' H3 hp e3 hx)
    | minus =>
      refine q_strF rfl (by decide +kernel) (q_strT rfl (s_retU (eu_tup (ea_cons (ev_op (ev_op (x1 rfl) (x4 rfl) (rv_I (sm_mul sa se))) (ev_op (x3 rfl) (x2 rfl) (rv_I (sm_mul sc sb))) rv_I0) (ea_cons (ev_op (x2 rfl) (x4 rfl) (rv_I (sm_mul sb se))) ea_nil)) (by show 2 ≤ 100000; decide)) fun p' H3 hp e3 hx => q p' H3 hp e3 hx))
    | times =>
      refine q_strF rfl (by decide +kernel) (q_strF rfl (by decide +kernel) (q_strT rfl (s_retU (eu_tup (ea_cons (ev_op (x1 rfl) (x3 rfl) (rv_I (sm_mul sa sc))) (ea_cons (ev_op (x2 rfl) (x4 rfl) (rv_I (sm_mul sb se))) ea_nil)) (by show 2 ≤ 100000; decide)) fun p' H3 hp e3 hx => q p' H3 hp e3 hx)))
    | over =>
      refine q_strF rfl (by decide +kernel) (q_strF rfl (by decide +kernel) (q_strF rfl (by decide +kernel) (s_retU (eu_tup (ea_cons (ev_op (x1 rfl) (x4 rfl) (rv_I (sm_mul sa se))) (ea_cons (ev_op (x2 rfl) (x3 rfl) (rv_I (sm_mul sb sc))) ea_nil)) (by show 2 ≤ 100000; decide)) fun p' H3 hp e3 hx => q p' H3 hp e3 hx)))
/-! ### _law_deed -/
inductive Op where
  | plus | minus | times | over | less | quo | blocks | joining | joined
def Op.nm : Op → Str
  | .plus => "plus"
  | .minus => "minus"
  | .times => "times"
  | .over => "over"
  | .less => "less"
  | .quo => "quotient_of"
  | .blocks => "blocks_of"
  | .joining => "joining_of"
  | .joined => "joined_with"
def spOf (K : PySem.W.Frag) (C : Addr) : Op → Sp
  | .plus => spQ2 K C never fPlus
  | .minus => spQ2 K C never fMinus
  | .times => spQ2 K C never fTimes
  | .over => spQ2 K C nought fOver
  | .less => spLess K C
  | .quo => spQuotientOf K C
  | .blocks => spBlocksOf K C
  | .joining => spJoiningOf K C
  | .joined => spJoinedWith K C
def spDeed (K : PySem.W.Frag) (C : Addr) : Sp := fun vs H Q E => ∃ (o : Op) (r : Addr) (xs : List V), vs = [.str o.nm, .ref r] ∧ SqT K H r xs ∧ spOf K C o xs H Q E
theorem deed2 {σ : L2.St} {H : Hp} {r : Addr} {x y : V} {sp : Sp} {E : XK} {D : Ends} (hv : σ[1]? = some (some (.ref r))) (hs : SqT K H r [x, y]) (h : sp [x, y] H D.rt E) :
    tRet (tCall sp [] E (tCons (tOp (rIxT K) (tVar 1) (tC (.int 0))) (tCons (tOp (rIxT K) (tVar 1) (tC (.int 1))) tNil))) D σ H :=
  ⟨.ref r, hv, r, [x, y], 0, x, rfl, rfl, hs, rfl, .ref r, hv, r, [x, y], 1, y, rfl, rfl, hs, rfl, h⟩
theorem deed3 {σ : L2.St} {H : Hp} {r : Addr} {x y z : V} {sp : Sp} {E : XK} {D : Ends} (hv : σ[1]? = some (some (.ref r))) (hs : SqT K H r [x, y, z]) (h : sp [x, y, z] H D.rt E) :
    tRet (tCall sp [] E (tCons (tOp (rIxT K) (tVar 1) (tC (.int 0))) (tCons (tOp (rIxT K) (tVar 1) (tC (.int 1))) (tCons (tOp (rIxT K) (tVar 1) (tC (.int 2))) tNil)))) D σ H :=
  ⟨.ref r, hv, r, [x, y, z], 0, x, rfl, rfl, hs, rfl, .ref r, hv, r, [x, y, z], 1, y, rfl, rfl, hs, rfl, .ref r, hv, r, [x, y, z], 2, z, rfl, rfl, hs, rfl, h⟩
theorem ok_deed (D : Dfn K mg "_law_deed" s_law_deed) (G_plus : Cal P w K mg base (L2N.CX P w) 5 "plus" ["one", "other"] (spQ2 K C never fPlus)) (G_minus : Cal P w K mg base (L2N.CX P w) 5 "minus" ["one", "other"] (spQ2 K C never fMinus))
    (G_times : Cal P w K mg base (L2N.CX P w) 5 "times" ["one", "other"] (spQ2 K C never fTimes)) (G_over : Cal P w K mg base (L2N.CX P w) 5 "over" ["one", "other"] (spQ2 K C nought fOver)) (G_less : Cal P w K mg base (L2N.CX P w) 5 "less" ["one", "other"] (spLess K C))
    (G_quotient_of : Cal P w K mg base (L2N.CX P w) 4 "quotient_of" ["top", "bottom"] (spQuotientOf K C)) (G_blocks_of : Cal P w K mg base (L2N.CX P w) 4 "blocks_of" ["many", "joining"] (spBlocksOf K C))
    (G_joining_of : Cal P w K mg base (L2N.CX P w) 4 "joining_of" ["many", "lots"] (spJoiningOf K C)) (G_joined_with : Cal P w K mg base (L2N.CX P w) 4 "joined_with" ["many", "joining", "other"] (spJoinedWith K C)) :
    Cal P w K mg base (L2N.CX P w) 6 "_law_deed" ["_law_deed_here", "_law_row_here"] (spDeed K C) := by
  refine mkCal D (fun _ _ _ _ _ _ us hl => match us, hl with | [_, _], _ => rfl) fun f fd F => ?_
  refine okN F sc_law_deed (fun vs H Q E h => ?_) (fun cdv A outer s H vs Q E hr h => ?_)
  · obtain ⟨o, r, xs, rfl, _⟩ := h
    rfl
  · obtain ⟨o, r, xs, rfl, hs, h⟩ := h
    refine ⟨_, ((pss_cons (ps_if (pt_cmpR op_eq (pv 0) pe_str (nomark _)) (pss_one (ps_ret (pcal G_plus hr (L2N.passes_call (L2N.takes_of rfl rfl rfl rfl) fun _ _ _ _ z => z) (pa_cons (pe_ix ix_tup (pv 1) pe_int (fun _ _ => rfl)) (pa_cons (pe_ix ix_tup (pv 1) pe_int (fun _ _ => rfl)) pa_nil))))) pss_nil)
      (pss_cons (ps_if (pt_cmpR op_eq (pv 0) pe_str (nomark _)) (pss_one (ps_ret (pcal G_minus hr (L2N.passes_call (L2N.takes_of rfl rfl rfl rfl) fun _ _ _ _ z => z) (pa_cons (pe_ix ix_tup (pv 1) pe_int (fun _ _ => rfl)) (pa_cons (pe_ix ix_tup (pv 1) pe_int (fun _ _ => rfl)) pa_nil))))) pss_nil)
      (pss_cons (ps_if (pt_cmpR op_eq (pv 0) pe_str (nomark _)) (pss_one (ps_ret (pcal G_times hr (L2N.passes_call (L2N.takes_of rfl rfl rfl rfl) fun _ _ _ _ z => z) (pa_cons (pe_ix ix_tup (pv 1) pe_int (fun _ _ => rfl)) (pa_cons (pe_ix ix_tup (pv 1) pe_int (fun _ _ => rfl)) pa_nil))))) pss_nil)
      (pss_cons (ps_if (pt_cmpR op_eq (pv 0) pe_str (nomark _)) (pss_one (ps_ret (pcal G_over hr (L2N.passes_call (L2N.takes_of rfl rfl rfl rfl) fun _ _ _ _ z => z) (pa_cons (pe_ix ix_tup (pv 1) pe_int (fun _ _ => rfl)) (pa_cons (pe_ix ix_tup (pv 1) pe_int (fun _ _ => rfl)) pa_nil))))) pss_nil)
      (pss_cons (ps_if (pt_cmpR op_eq (pv 0) pe_str (nomark _)) (pss_one (ps_ret (pcal G_less hr (L2N.passes_call (L2N.takes_of rfl rfl rfl rfl) fun _ _ _ _ z => z) (pa_cons (pe_ix ix_tup (pv 1) pe_int (fun _ _ => rfl)) (pa_cons (pe_ix ix_tup (pv 1) pe_int (fun _ _ => rfl)) pa_nil))))) pss_nil)
      (pss_cons (ps_if (pt_cmpR op_eq (pv 0) pe_str (nomark _)) (pss_one (ps_ret (pcal G_quotient_of hr (L2N.passes_call (L2N.takes_of rfl rfl rfl rfl) fun _ _ _ _ z => z) (pa_cons (pe_ix ix_tup (pv 1) pe_int (fun _ _ => rfl)) (pa_cons (pe_ix ix_tup (pv 1) pe_int (fun _ _ => rfl)) pa_nil))))) pss_nil)
      (pss_cons (ps_if (pt_cmpR op_eq (pv 0) pe_str (nomark _)) (pss_one (ps_ret (pcal G_blocks_of hr (L2N.passes_call (L2N.takes_of rfl rfl rfl rfl) fun _ _ _ _ z => z) (pa_cons (pe_ix ix_tup (pv 1) pe_int (fun _ _ => rfl)) (pa_cons (pe_ix ix_tup (pv 1) pe_int (fun _ _ => rfl)) pa_nil))))) pss_nil)
      (pss_cons (ps_if (pt_cmpR op_eq (pv 0) pe_str (nomark _)) (pss_one (ps_ret (pcal G_joining_of hr (L2N.passes_call (L2N.takes_of rfl rfl rfl rfl) fun _ _ _ _ z => z) (pa_cons (pe_ix ix_tup (pv 1) pe_int (fun _ _ => rfl)) (pa_cons (pe_ix ix_tup (pv 1) pe_int (fun _ _ => rfl)) pa_nil))))) pss_nil)
      (pss_one (ps_ret (pcal G_joined_with hr (L2N.passes_call (L2N.takes_of rfl rfl rfl rfl) fun _ _ _ _ z => z) (pa_cons (pe_ix ix_tup (pv 1) pe_int (fun _ _ => rfl)) (pa_cons (pe_ix ix_tup (pv 1) pe_int (fun _ _ => rfl)) (pa_cons (pe_ix ix_tup (pv 1) pe_int (fun _ _ => rfl)) pa_nil))))))))))))))), ?_⟩
    cases o with
    | plus =>
      obtain ⟨x, y, rfl⟩ : ∃ x y, xs = [x, y] := by
        obtain ⟨x, y, _, _, e, _⟩ := h
        exact ⟨x, y, e⟩
      exact q_strT rfl (deed2 rfl hs h)
    | minus =>
      obtain ⟨x, y, rfl⟩ : ∃ x y, xs = [x, y] := by
        obtain ⟨x, y, _, _, e, _⟩ := h
        exact ⟨x, y, e⟩
      exact q_strF rfl (by decide +kernel) (q_strT rfl (deed2 rfl hs h))
    | times =>
      obtain ⟨x, y, rfl⟩ : ∃ x y, xs = [x, y] := by
        obtain ⟨x, y, _, _, e, _⟩ := h
        exact ⟨x, y, e⟩
      exact q_strF rfl (by decide +kernel) (q_strF rfl (by decide +kernel) (q_strT rfl (deed2 rfl hs h)))
    | over =>
      obtain ⟨x, y, rfl⟩ : ∃ x y, xs = [x, y] := by
        obtain ⟨x, y, _, _, e, _⟩ := h
        exact ⟨x, y, e⟩
      exact q_strF rfl (by decide +kernel) (q_strF rfl (by decide +kernel) (q_strF rfl (by decide +kernel) (q_strT rfl (deed2 rfl hs h))))
    | less =>
      obtain ⟨x, y, rfl⟩ : ∃ x y, xs = [x, y] := by
        obtain ⟨x, y, _, _, e, _⟩ := h
        exact ⟨x, y, e⟩
      exact q_strF rfl (by decide +kernel) (q_strF rfl (by decide +kernel) (q_strF rfl (by decide +kernel) (q_strF rfl (by decide +kernel) (q_strT rfl (deed2 rfl hs h)))))
    | quo =>
      obtain ⟨x, y, rfl⟩ : ∃ x y, xs = [x, y] := by
        obtain ⟨x, y, _, _, e, _⟩ := h
        exact ⟨x, y, e⟩
      exact q_strF rfl (by decide +kernel) (q_strF rfl (by decide +kernel) (q_strF rfl (by decide +kernel) (q_strF rfl (by decide +kernel) (q_strF rfl (by decide +kernel) (q_strT rfl (deed2 rfl hs h))))))
    | blocks =>
      obtain ⟨x, y, rfl⟩ : ∃ x y, xs = [x, y] := by
        obtain ⟨m, v, _, e, _⟩ := h
        exact ⟨_, v, e⟩
      exact q_strF rfl (by decide +kernel) (q_strF rfl (by decide +kernel) (q_strF rfl (by decide +kernel) (q_strF rfl (by decide +kernel) (q_strF rfl (by decide +kernel) (q_strF rfl (by decide +kernel) (q_strT rfl (deed2 rfl hs h)))))))
    | joining =>
      obtain ⟨x, y, rfl⟩ : ∃ x y, xs = [x, y] := by
        obtain ⟨m, v, _, e, _⟩ := h
        exact ⟨_, v, e⟩
      exact q_strF rfl (by decide +kernel) (q_strF rfl (by decide +kernel) (q_strF rfl (by decide +kernel) (q_strF rfl (by decide +kernel) (q_strF rfl (by decide +kernel) (q_strF rfl (by decide +kernel) (q_strF rfl (by decide +kernel) (q_strT rfl (deed2 rfl hs h))))))))
    | joined =>
      obtain ⟨x, y, z, rfl⟩ : ∃ x y z, xs = [x, y, z] := by
        obtain ⟨m, v1, v2, _, _, e, _⟩ := h
        exact ⟨_, v1, v2, e⟩
      exact q_strF rfl (by decide +kernel) (q_strF rfl (by decide +kernel) (q_strF rfl (by decide +kernel) (q_strF rfl (by decide +kernel) (q_strF rfl (by decide +kernel) (q_strF rfl (by decide +kernel) (q_strF rfl (by decide +kernel) (q_strF rfl (by decide +kernel) (deed3 rfl hs h))))))))
end
end K1
namespace K1
open PySem PySem.Spec PyProof.Rows L2 Evl
/-! ### a caught NotUsable: isinstance of it -/
def rIsX (K : PySem.W.Frag) (C a : Addr) (cls : Value) (d : Option Addr) : List V → Hp → VK → Prop := fun xs H Q => ∃ (c : V) (cv : Value) (b : Bool) (dd : Addr) (fs : List (Str × V)), xs = [.ref a, c] ∧ cls = .ref C ∧ d = some dd ∧ H dd = some (.xd fs) ∧
  (∀ u, RelV c u → u = cv) ∧ PySem.W.kitOne K (.ref C) cv = some b ∧ Q (.bl b) H
theorem call_isX {X : Cx} {K : PySem.W.Frag} {mg : Str → Option Value} {a C fI cW cL cP : Addr} {oe : Obj} {cls : Value} {d : Option Addr} {pn : List (Addr × Obj)} (hK : X.K = K) (N : NuC K mg C fI cW cL cP) (hz : Zc cls d oe) (hf : ∃ vs, oe.data = .fields vs) :
    CallR (X.suite a ((a, oe) :: pn)) (.builtin "isinstance") (rIsX K C a cls d) := by
  subst hK
  intro pins s σ H xs us Q I r h
  obtain ⟨c, cv, b, dd, fs, rfl, rfl, rfl, hdd, hcv, e, q⟩ := h
  cases r with
  | cons rx rr =>
    cases rr with
    | cons rt rr =>
      cases rr
      cases rx
      have ec := hcv _ rt
      subst ec
      obtain ⟨hget, _⟩ := I.pin (a, oe) (List.mem_append.mpr (.inl List.mem_cons_self))
      obtain ⟨vs, hv⟩ := hf
      have ho : ObjOk X.prog X.w H s.heap dd (.xd fs) := I.hok dd _ hdd
      obtain ⟨mA, hns, _⟩ := ho
      obtain ⟨od, hod, _⟩ := lookIn_ns hns
      have J : PySem.W.InstAt s.heap a oe C (some od) := ⟨hget, hz.1, by unfold PySem.W.notCls; rw [hv] <;> rfl, by rw [hz.2]; exact hod⟩
      have hcl : (PySem.W.clsIn X.K C).isSome = true := by
        obtain ⟨nm, q', N', bs, bm, sn, sub, ab, col, dd', k0, k1, k2, k3, k5, hC, _⟩ := N.oex.cls
        unfold PySem.W.clsIn
        rw [hC] <;> rfl
      exact PySem.W.kia_one (PySem.W.kitx_exc hcl N.xf.ga N.xf.gg N.xf.exC N.ha N.hn N.ht N.hm) I.kIn J e (fun z => nomatch z) fun tk => ⟨.bl b, H, I.kept (t' := tk) fun _ _ z => z, rfl, q⟩
theorem call_isiQ {X : Cx} {K : PySem.W.Frag} (hK : X.K = K) : CallR X (.builtin "isinstance") (rIsi K) := by
  subst hK
  exact call_isi
theorem pe_xfK {X : Cx} {K : PySem.W.Frag} {mg : Str → Option Value} {a C fI cW cL cP : Addr} {oe : Obj} {cls : Value} {d : Option Addr} {pn : List (Addr × Obj)} {e : Expr} {te : TE} {pos : Pos} {n : Str} (hK : X.K = K) (N : NuC K mg C fI cW cL cP) (hno : PySem.W.findIn K (.ref C) n = some none)
    (hz : Zc cls d oe) (hf : ∃ vs, oe.data = .fields vs) (he : PE (X.suite a ((a, oe) :: pn)) e te) (hb : attributeBase e n X.env (eval e X.env) = eval e X.env := by rfl) :
    PE (X.suite a ((a, oe) :: pn)) (.Attribute e n pos) (tXf a cls d C n te) := by
  subst hK
  exact pe_xf N.xf hno hz hf he hb
section
variable {P : Program} {w : World} {K : PySem.W.Frag} {mg : Str → Option Value} {base : Heap} {C fI cW cL cP : Addr}
/-! ### _law_int where an exception is handled -/
structure CalH (P : Program) (w : World) (K : PySem.W.Frag) (mg : Str → Option Value) (base : Heap) (CX : CXT) (k : Nat) (x : Str) (ps : List Str) (sp : Sp) : Prop where
  ex : ∃ (f : Addr) (fd : FuncData), L2H.FnH P w K mg base CX k f fd ps sp ∧ Binds K fd ps [] ∧ mg x = some (.ref f) ∧ PySem.W.keepIn K (.ref f) = true
theorem ok_law_intH (B : Blt mg) (D : Dfn K mg "_law_int" s_law_int) : CalH P w K mg base CX0 1 "_law_int" ["_law_value"] (spIsInteger K) := by
  obtain ⟨f, fd, F, m⟩ := D.ex
  have hb := F.binds (ps := ["_law_value"]) fun _ _ _ _ _ _ us hl => match us, hl with | [_], _ => rfl
  have kp := F.kp
  obtain ⟨oc, od, kV, doc, pm, an, cdv, ct, osl, rfl, lk, hcd⟩ := F.ex
  refine ⟨f, _, L2H.fn_ofH lk hcd sc_law_int (fun vs H Q E h => ?_) fun A outer s H vs Q E p hot hr h => ?_, hb, m, kp⟩
  · obtain ⟨v, d, rfl, _⟩ := h
    rfl
  · obtain ⟨v, d, rfl, hd, q⟩ := h
    refine ⟨_, ((pss_one (ps_ret (pe_and (pe_callB call_isi (by rfl) B.b_isinstance bt_isinstance (pa_cons (pv 0) (pa_cons (pe_bltn (v := .ty "int") (by rfl) B.b_int bt_int rfl) pa_nil))) (pe_one (pe_not (pe_callB call_isi (by rfl) B.b_isinstance bt_isinstance (pa_cons (pv 0) (pa_cons (pe_bltn (v := .ty "bool") (by rfl) B.b_bool bt_bool rfl) pa_nil))))))))), ?_⟩
    exact s_ret (ev_isint (ev_var rfl) hd) q
theorem pcalH {X : Cx} {CX : CXT} {k j : Nat} {x : Str} {ps : List Str} {sp : Sp} {ES : L2.St → XK} {p pos : Pos} {e : Expr} {es : List Expr} {t : TA} (G : CalH X.prog X.w X.K X.mg X.base CX k x ps sp) (hr : L2H.RoomH j X.A) (hc : L2H.HotC X) (hx : ∀ σ, PassesAt CX X σ (ES σ)) (ha : PA X (e :: es) t) (hkj : k ≤ j := by decide) (hg : Gl X x := by rfl)
    (hdb : (x == ("__debug__" : Str)) = false := by decide) (he : starEach (e :: es) X.env = (false, eval e X.env) :: starEach es X.env := by rfl) (hpl : (backTo pos (starEach es X.env)).any (·.1) = false := by rfl) :
    PE X (.Call (.Name x p) (e :: es) [] pos) (tCallS sp ES t) := by
  obtain ⟨f, fd, F, b, m, kp⟩ := G.ex
  exact L2H.pe_callH F (hr.mono hkj) hc hg m kp b hx ha hdb he hpl
/-! ### _law_refused -/
def spRefused (K : PySem.W.Frag) (C : Addr) : Sp := fun vs H Q _ => ∃ (s due : Str) (r : Addr), vs = [.str s, .ref r, .str due] ∧ (∀ Q' E', NU C due H E' → spDeed K C [.str s, .ref r] H Q' E') ∧ RetV (.bl true) H Q
theorem ev_isX {σ : L2.St} {H : Hp} {a dd cC : Addr} {fs : List (Str × V)} {i : Nat} {c : V} {cv : Value} {b : Bool} (hv : σ[i]? = some (some (.ref a))) (hd : H dd = some (.xd fs)) (hc : ∀ u, RelV c u → u = cv)
    (hk : PySem.W.kitOne K (.ref cC) cv = some b) : Ev (tCB (rIsX K cC a (.ref cC) (some dd)) (tCons (tVar i) (tCons (tC c) tNil))) σ H (.bl b) :=
  ev_cb (ea_cons (ev_var hv) (ea_cons ev_c ea_nil)) fun H1 e Q q => ⟨c, cv, b, dd, fs, rfl, rfl, rfl, e _ _ hd, hc, hk, q H1 (Ex.refl H1)⟩
theorem ev_xfI {σ : L2.St} {H : Hp} {a dd cC : Addr} {fs : List (Str × V)} {i : Nat} {n : Str} {v : V} (hv : σ[i]? = some (some (.ref a))) (hd : H dd = some (.xd fs)) (hl : fs.lookup n = some v) :
    Ev (tXf a (.ref cC) (some dd) cC n (tVar i)) σ H v := fun H1 e Q q => ⟨.ref a, hv, rfl, rfl, dd, fs, v, rfl, e _ _ hd, hl, q H1 (Ex.refl H1)⟩
theorem lk_word (x n : V) : List.lookup ("word" : Str) (nuF x n) = some x := by
  unfold nuF
  rw [lookup_put, if_neg (by decide), lookup_put, if_pos rfl]
theorem lk_at (x n : V) : List.lookup ("at" : Str) (nuF x n) = some n := by
  unfold nuF
  rw [lookup_put, if_pos rfl]
theorem ok_refused (B : Blt mg) (N : NuC K mg C fI cW cL cP) (D : Dfn K mg "_law_refused" s_law_refused) (G_law_deed : Cal P w K mg base (L2N.CX P w) 6 "_law_deed" ["_law_deed_here", "_law_row_here"] (spDeed K C))
    (H_law_int : CalH P w K mg base CX0 1 "_law_int" ["_law_value"] (spIsInteger K)) : Cal P w K mg base CX0 7 "_law_refused" ["_law_deed_here", "_law_row_here", "_law_due"] (spRefused K C) := by
  refine mkCal D (fun _ _ _ _ _ _ us hl => match us, hl with | [_, _, _], _ => rfl) fun f fd F => ?_
  refine F.ok sc_law_refused (fun vs H Q E h => ?_) (fun cdv A outer s H vs Q E hr h => ?_)
  · obtain ⟨s, due, r, rfl, _⟩ := h
    rfl
  · obtain ⟨s, due, r, rfl, hd, q⟩ := h
    refine ⟨_, pss_cons (L2N.ps_try_as (i := 3) (tb := fun W => tDrop (tCallS (spDeed K C) (WE W) (tCons (tVar 0) (tCons (tVar 1) tNil)))) (Wout := fun _ _ _ _ => False) rfl rfl sc_law_refused.nd rfl rfl ⟨rfl, by decide, .inl N.gNotUsable⟩ takesN0
        (fun W pn xe tk _ => pss_one (ps_expr (pcalS G_law_deed hr (fun σ => L2N.passAt tk σ) (pa_cons (pv 0) (pa_cons (pv 1) pa_nil)))))
        (fun a oe cls d pn hz hf =>
          pss_cons (ps_set (i := 4) sc_law_refused.nd rfl (.inl rfl) (pe_and (pe_callB (call_isX rfl N hz.zc hf) (by rfl) B.b_isinstance bt_isinstance (pa_cons (pv 3) (pa_cons (pe_glob (v := .ref cW) (by rfl) N.gWebError rfl) pa_nil)))
            (pe_and (pe_callB (call_isX rfl N hz.zc hf) (by rfl) B.b_isinstance bt_isinstance (pa_cons (pv 3) (pa_cons (pe_glob (v := .ref cL) (by rfl) N.gLedError rfl) pa_nil)))
            (pe_one (pe_callB (call_isX rfl N hz.zc hf) (by rfl) B.b_isinstance bt_isinstance (pa_cons (pv 3) (pa_cons (pe_bltn (v := .ty "ValueError") (by rfl) B.b_ValueError bt_ValueError rfl) pa_nil)))))))
          (pss_cons (ps_set (i := 4) sc_law_refused.nd rfl (.inl rfl) (pe_and (pv 4) (pe_and (pe_not (pe_callB (call_isX rfl N hz.zc hf) (by rfl) B.b_isinstance bt_isinstance (pa_cons (pv 3) (pa_cons (pe_glob (v := .ref cP) (by rfl) N.gPaperError rfl) pa_nil))))
            (pe_and (pe_callB (call_isiQ (K := K) rfl) (by rfl) B.b_isinstance bt_isinstance (pa_cons (pe_xfK (K := K) rfl N N.no_word hz.zc hf (pv 3)) (pa_cons (pe_bltn (v := .ty "str") (by rfl) B.b_str bt_str rfl) pa_nil)))
            (pe_one (pcalH (j := 6) (ES := fun _ => E0) H_law_int ⟨hr.dp, hr.un⟩ ⟨(a, oe), ⟨rfl, by obtain ⟨vs, hv⟩ := hf; exact ⟨vs, hv, hz.2.2 vs hv⟩⟩, List.mem_cons_self⟩ (fun _ _ _ _ _ _ _ z => z.elim) (pa_cons (pe_xfK (K := K) rfl N N.no_at hz.zc hf (pv 3)) pa_nil)))))))
          (pss_one (ps_ret (pe_and (pv 4) (pe_and (pe_cmpR op_eq (pe_xfK (K := K) rfl N N.no_word hz.zc hf (pv 3)) (pv 2) (nomark _)) (pe_one (pe_cmpR op_eq (pe_xfK (K := K) rfl N N.no_at hz.zc hf (pv 3)) (pe_un un_neg pe_int) (nomark _))))))))))
      (pss_one (ps_ret pe_bl)), ?_⟩
    refine ⟨_, rfl, _, rfl, hd _ _ (fun dd H2 e2 hx => ⟨true, N.te, fun _ a ha => ?_, fun z => Bool.noConfusion z⟩)⟩
    refine q_asg (ev_andV (ev_isX rfl hx (fun u r => r) N.kW) fun _ => ev_andV (ev_isX rfl hx (fun u r => r) N.kL) fun _ => ev_isX rfl hx (fun u r => r) N.kV) fun H3 e3 => ?_
    have hx3 := e3 _ _ hx
    refine q_asg (ev_andV (ev_var rfl) fun _ => ev_andV (ev_notV (ev_isX rfl hx3 (fun u r => r) N.kP)) fun _ => ev_andV (ev_isi (ev_xfI rfl hx3 (lk_word _ _)) (.str due) (kit_str (.str due))) fun _ => ev_call (ea_cons (ev_xfI rfl hx3 (lk_at _ _)) ea_nil) fun H4 e4 Q' q' E' => ⟨.int (-1), .int (-1), rfl, .int _, q'⟩) fun H4 e4 => ?_
    have hx4 := e4 _ _ hx3
    refine s_ret (ev_andV (ev_var rfl) fun _ => ev_andV (ev_op (ev_xfI rfl hx4 (lk_word _ _)) (ev_var rfl) (rv_eq rfl)) fun _ => ev_op (ev_xfI rfl hx4 (lk_at _ _)) (ev_un ev_c (fun H5 e5 Q' q' => ⟨1, rfl, q' H5 (Ex.refl H5)⟩)) (rv_eq rfl)) fun H5 e5 => ?_
    have e := q H5 (e2.trans (e3.trans (e4.trans e5)))
    simpa [is_str, is_int, is_bool] using e
end
end K1
namespace K1
open PySem PySem.Spec PyProof.Rows L2 Evl
/-! ### _law_row -/
theorem plain_ints : ∀ l : List Nat, PyData.plainAll (l.map nI) = true
  | [] => rfl
  | n :: l => by
    rw [List.map_cons, PyData.plainAll, plain_ints l]
    rfl
theorem nI_map (l : List Nat) : l.map nI = (l.map Int.ofNat).map PyData.int := by
  rw [List.map_map]
  rfl
theorem nV_map (l : List Nat) : l.map nV = (l.map Int.ofNat).map V.int := by
  rw [List.map_map]
  rfl
section
variable {K : PySem.W.Frag} {σ : L2.St} {H H' : Hp} {ta tb te tx : TE} {t u : TT}
theorem ev_lenQ {p : Addr} {xs : List V} (ha : Ev ta σ H (.ref p)) (h : SqL K H p xs ∨ SqT K H p xs) : Ev (tCB (rLenS K) (tCons ta tNil)) σ H (.int (xs.length : Int)) := fun H1 e Q q =>
  ha H1 e _ fun H2 e2 => ⟨p, xs, rfl, h.imp (ex_l (e.trans e2)) (ex_t (e.trans e2)), q H2 e2⟩
theorem el_listQ {p : Addr} {xs : List V} (ha : Ev ta σ H (.ref p)) (h : SqL K H p xs ∨ SqT K H p xs) : EvL (tCB (rListS K) (tCons ta tNil)) σ H xs := fun H1 e Q q =>
  ha H1 e _ fun H2 e2 => ⟨p, xs, rfl, h.imp (ex_l (e.trans e2)) (ex_t (e.trans e2)), fun l hl => q l _ (fresh_back e2 hl) (e2.trans (Ex.new hl)) upd_same⟩
theorem el_lcT {a : Addr} {xs : List V} {tl : TE} {j : Nat} {vs : List Nat} (f : Nat → Bool) (v : Nat → V) (h : Ev tl σ H (.ref a)) (hx : SqT K H a xs) (hz : xs.length ≤ 40000) (hw : ∀ x, wipe ((wipe σ vs).set j (some x)) vs = wipe σ vs)
    (ht : ∀ (i : Nat) (x : V) H1, Ex H H1 → xs[i]? = some x → EvT t ((wipe σ vs).set j (some x)) H1 (f i)) (he : ∀ (i : Nat) (x : V) H1, Ex H H1 → xs[i]? = some x → f i = true → Ev te ((wipe σ vs).set j (some x)) H1 (v i)) :
    EvL (tLc (iTup K tl) (gName j) t te vs) σ H (given xs.length f v) := fun H0 e Q q => h H0 e _ fun H1 e1 => ⟨a, rfl, ⟨xs, ex_t (e.trans e1) hx⟩, fun Dl hD =>
  lc_tup (xs := xs) (Cw H1 f v Dl) ⟨hD, Ex.new hD, upd_same⟩ (fun i H' _ p => ex_t ((e.trans e1).trans p.2.1) hx) (fun i x H' hi p => ⟨hw x, cw_turn p (by have := (List.getElem?_eq_some_iff.mp hi).1; omega) (ht i x H1 (e.trans e1) hi) (fun hf => he i x H1 (e.trans e1) hi hf)⟩)
    (fun H' p => q Dl H' (fresh_back e1 p.1) (e1.trans p.2.1) p.2.2)⟩
theorem given_none (n : Nat) (v : Nat → V) : given n (fun _ => false) v = [] := by
  unfold given
  rw [List.filter_eq_nil_iff.mpr (fun _ _ => by decide)]
  rfl
end
section
variable {P : Program} {w : World} {K : PySem.W.Frag} {mg : Str → Option Value} {base : Heap} {C fI cW cL cP : Addr}
def spRow (K : PySem.W.Frag) : Sp := fun vs H Q _ => ∃ (v : V) (q : Addr) (l : List Nat), vs = [v, .ref q] ∧ Dp K H v (dTup l) ∧ (SqL K H q (l.map nV) ∨ SqT K H q (l.map nV)) ∧ l.length ≤ 40000 ∧ RetV (.bl true) H Q
theorem ok_row (B : Blt mg) (D : Dfn K mg "_law_row" s_law_row) (G_law_int : Cal P w K mg base CX0 1 "_law_int" ["_law_value"] (spIsInteger K)) : Cal P w K mg base CX0 2 "_law_row" ["_law_got", "_law_due"] (spRow K) := by
  refine mkCal D (fun _ _ _ _ _ _ us hl => match us, hl with | [_, _], _ => rfl) fun f fd F => ?_
  refine F.ok sc_law_row (fun vs H Q E h => ?_) (fun cdv A outer s H vs Q E hr h => ?_)
  · obtain ⟨v, q, l, rfl, _⟩ := h
    rfl
  · obtain ⟨v, q, l, rfl, hd, hq, hl, k⟩ := h
    refine ⟨_, ((pss_cons (ps_if (PW.pt (pw_or (pt_not (pt_val (pe_callB call_isi (by rfl) B.b_isinstance bt_isinstance (pa_cons (pv 0) (pa_cons (pe_bltn (v := .ty "tuple") (by rfl) B.b_tuple bt_tuple rfl) pa_nil))))) (pw_or1 (pt_cmpR op_ne (pe_callB call_len_seq (by rfl) B.b_len bt_len (pa_cons (pv 0) pa_nil)) (pe_callB call_len_seq (by rfl) B.b_len bt_len (pa_cons (pv 1) pa_nil)) (nomark _))))) (pss_one (ps_ret pe_bl)) pss_nil)
      (pss_one (ps_ret (pe_and (pe_cmpR op_eq (pe_callB call_len_seq (by rfl) B.b_len bt_len (pa_cons (pe_lc (own := [("_law_x", 2)]) (g := gName 2) rfl sc_law_row.nd (pi_tup (pv 0)) (blkOk_by (own := [("_law_x", 2)]) (N := n_law_row) (sc := defScope s_law_row) (by decide +kernel)) (fun _ _ _ _ _ => pg_name (i := 2) sc_law_row.nd rfl (.inl rfl)) (fun _ _ _ _ _ => (pts_one (pt_not (pt_val (pcal G_law_int hr pass0 (pa_cons (pv 2) pa_nil)))))) (fun _ _ _ _ _ => (pv 2))) pa_nil)) pe_int (nomark _)) (pe_one (pe_cmpR (op_eqD hr.units) (pe_callTy call_list_of (by rfl) B.b_list bt_list (pa_cons (pv 0) pa_nil)) (pe_callTy call_list_of (by rfl) B.b_list bt_list (pa_cons (pv 1) pa_nil)) (nomark _)))))))), ?_⟩
    obtain ⟨p, rfl, hp⟩ := dTup_inv hd
    refine q_ifF (et_is (et_or (et_not (et_test (ev_isi (ev_var rfl) hd (kit_tuple _)))) fun _ => et_test (ev_op (ev_lenT (ev_var rfl) hp) (ev_lenQ (ev_var rfl) hq) (rv_ne rfl))) (by simp [dTup, is_tuple])) fun H1 e1 => ?_
    refine s_ret (ev_is (ev_andV (ev_op (ev_lenN (el_lcT (fun _ => false) (fun _ => .non) (ev_var rfl) (ex_t e1 hp) (by rw [List.length_map]; exact hl) (fun _ => rfl)
      (fun i x H2 e2 hx => ?_) (fun i x H2 e2 hx hf => Bool.noConfusion hf))) ev_c (rv_eq rfl)) fun _ => ev_opLL (el_listQ (ev_var rfl) (.inr (ex_t e1 hp))) (el_listQ (ev_var rfl) (hq.imp (ex_l e1) (ex_t e1)))
      fun p' q' H2 h1 h2 e2 H3 e3 Q' q'' => ⟨.list (l.map nI), .list (l.map nI), ?_, ?_, ?_, ?_, q'' H3 (Ex.refl _)⟩) ?_) fun H2 e2 => k H2 (e1.trans e2)
    · obtain ⟨n, hn⟩ : ∃ n : Nat, x = nV n := by
        rw [List.getElem?_map] at hx
        cases e : l[i]? with
        | none =>
          rw [e] at hx
          cases hx
        | some n =>
          rw [e] at hx
          exact ⟨n, (Option.some.inj hx).symm⟩
      subst hn
      exact et_is (et_not (et_test (ev_isint2 (ev_var rfl) (.int _)))) rfl
    · exact .lst (sq_of (e3 _ _ h1)) (by rw [nV_map, nI_map]; exact dpAll_ints _)
    · exact .lst (sq_of (e3 _ _ h2)) (by rw [nV_map, nI_map]; exact dpAll_ints _)
    · rw [nI_map]
      exact PySem.W.ke_shaped_ints _
    · rw [nI_map]
      exact PySem.W.ke_shaped_ints _
    · rw [given_none]
      show V.bl (true && PyData.eqv (.list (l.map nI)) (.list (l.map nI))) = _
      rw [PyData.eqv, SeqAt.eqvAll_refl_plain _ (plain_ints l)]
      rfl
/-! ### _law_joined -/
theorem Stp.mut {L R : Addr} {H H' : Hp} {o : HO} (a : Stp L H H') (hL : PoolAt H L) (h : H R = none) : Stp L H (upd H' R o) := by
  have hne : R ≠ L := fun e => by
    obtain ⟨ns, hn⟩ := hL
    rw [e, hn] at h
    cases h
  obtain ⟨ns, hn⟩ := a.pool
  refine ⟨fun x u hx hu => ?_, ns, ?_⟩
  · rw [upd_ne (ne_of_none hu h)]
    exact a.ex x u hx hu
  · rw [upd_ne (fun e => hne e.symm)]
    exact hn
theorem Stp.back {L R : Addr} {H H' : Hp} (a : Stp L H H') (h : H' R = none) : H R = none := by
  cases e : H R with
  | none => rfl
  | some o =>
    exfalso
    by_cases z : R = L
    · obtain ⟨ns, hn⟩ := a.pool
      rw [z, hn] at h
      cases h
    · rw [a.ex R o z e] at h
      cases h
theorem Stp.at {L R : Addr} {H H' : Hp} {o : HO} (a : Stp L H H') (hL : PoolAt H L) (hR : R ≠ L) (h : H R = some o) : H' R = some o := a.ex R o hR h
theorem jl_app {f : List Nat} {n : Nat} (h : JL f) (hn : n = f.length ∨ f[n]? = some n) : JL (f ++ [n]) := by
  intro i k hk
  by_cases hi : i < f.length
  · rw [List.getElem?_append_left hi] at hk
    have := h i k hk
    refine ⟨this.1, ?_⟩
    rw [List.getElem?_append_left (by omega)]
    exact this.2
  · have hi2 : i = f.length := by
      have := (List.getElem?_eq_some_iff.mp hk).1
      rw [List.length_append] at this
      have e : [n].length = 1 := rfl
      omega
    subst hi2
    rw [List.getElem?_append_right (Nat.le_refl _), Nat.sub_self] at hk
    have e : n = k := Option.some.inj hk
    subst e
    rcases hn with e | e
    · refine ⟨by omega, ?_⟩
      rw [e, List.getElem?_append_right (Nat.le_refl _), Nat.sub_self]
      rfl
    · have := (List.getElem?_eq_some_iff.mp e).1
      refine ⟨by omega, ?_⟩
      rw [List.getElem?_append_left this]
      exact e
def spJoined : Sp := fun vs H Q _ => ∃ (L : Addr) (m : Nat), vs = [.ref L, .int (m : Int)] ∧ PoolAt H L ∧ m ≤ 1000 ∧ ∀ f p H', JL f → f.length = m → Stp L H H' → H' p = some (.tup (f.map nV)) → Q (.ref p) H'
theorem ok_joined (B : Blt mg) (D : Dfn K mg "_law_joined" s_law_joined) (G_law_take : Cal P w K mg base CX0 1 "_law_take" ["_law_pool_here", "_law_bound"] spTake) : Cal P w K mg base CX0 2 "_law_joined" ["_law_pool_here", "_law_m"] spJoined := by
  refine mkCal D (fun _ _ _ _ _ _ us hl => match us, hl with | [_, _], _ => rfl) fun f fd F => ?_
  refine F.ok sc_law_joined (fun vs H Q E h => ?_) (fun cdv A outer s H vs Q E hr h => ?_)
  · obtain ⟨L, m, rfl, _⟩ := h
    rfl
  · obtain ⟨L, m, rfl, hp, hm, q⟩ := h
    refine ⟨_, ((pss_cons (ps_set (i := 2) sc_law_joined.nd rfl (.inl rfl) (pe_lst pa_nil))
      (pss_cons (ps_for PassesOwn.never rfl (pi_range1 (by rfl) B.b_range (pa_cons (pv 1) pa_nil)) (pg_name (i := 3) sc_law_joined.nd rfl (.inl rfl)) (pss_one (ps_if (PW.pt (pw_and (pt_cmpR op_gt (pv 3) pe_int (nomark _)) (pw_and1 (pt_cmpR op_gt (pcal G_law_take hr pass0 (pa_cons (pv 0) (pa_cons pe_int pa_nil))) pe_int (nomark _))))) (pss_one (ps_expr (pe_bm PySem.F.plainAttrs_list PySem.F.slot_list_append PySem.F.type_list_append mt_append (pv 2) (pa_cons (pe_ix ix_list (pv 2) (pcal G_law_take hr pass0 (pa_cons (pv 0) (pa_cons (pv 3) pa_nil))) (fun _ _ => rfl)) pa_nil)))) (pss_one (ps_expr (pe_bm PySem.F.plainAttrs_list PySem.F.slot_list_append PySem.F.type_list_append mt_append (pv 2) (pa_cons (pv 3) pa_nil)))))))
      (pss_one (ps_ret (pe_callTy call_tuple_of (by rfl) B.b_tuple bt_tuple (pa_cons (pv 2) pa_nil))))))), ?_⟩
    refine q_asgL (el_lst ea_nil (by show 0 ≤ 100000; decide)) fun R H1 hR e1 h1 => ?_
    refine q_forR1 (n := (m : Int)) (ea_cons (ev_var rfl) ea_nil) (by omega) (fun i σ' H' => ∃ (f : List Nat) (y : Option V), σ' = [some (.ref L), some (.int (m : Int)), some (.ref R), y] ∧ f.length = i ∧ JL f ∧ H' R = some (.lst (f.map nV)) ∧ Stp L H H')
      (fun H2 e2 => ⟨[], none, rfl, rfl, fun i n h => (by cases h), e2 _ _ h1, stp_of hp (e1.trans e2)⟩) (fun i σ' H' hi hP => ?_) (fun σ' H' hP => ?_)
    · obtain ⟨g, y, rfl, hl, jg, hg, st⟩ := hP
      have hi' : i < m := by omega
      have hRL : R ≠ L := fun e => by
        obtain ⟨ns, hn⟩ := hp
        rw [e, hn] at hR
        cases hR
      -- the place itself
      have own : ∀ H2, Stp L H' H2 → tDrop (tBM K "list" rAppend (tVar 2) (tCons (tVar 3) tNil)) { nx := fun σ2 H3 => ∃ (f : List Nat) (y : Option V), σ2 = [some (.ref L), some (.int (m : Int)), some (.ref R), y] ∧ f.length = i + 1 ∧ JL f ∧ H3 R = some (.lst (f.map nV)) ∧ Stp L H H3, rt := Q } [some (.ref L), some (.int (m : Int)), some (.ref R), some (.int (i : Int))] H2 := fun H2 st2 => by
        refine s_app (st2.at st.pool hRL hg) (ev_var rfl) (ev_var rfl) (by rw [List.length_map]; omega) fun H3 e3 => ⟨g ++ [i], _, rfl, by rw [List.length_append, hl]; rfl, jl_app jg (.inl hl.symm), ?_, ((st.trans st2).ex_ e3).mut hp hR⟩
        rw [upd_same, List.map_append]
        rfl
      refine (et_test (ev_op (ev_var rfl) ev_c rv_I0)) H' (Ex.refl _) _ fun H2 e2 => ?_
      by_cases h0 : (i : Int) > 0
      · rw [decide_eq_true h0]
        refine take_go (ev_var rfl) ev_c (st.ex_ e2).pool (by omega) fun r H3 r0 r1 st3 => ?_
        refine ⟨r, 0, rfl, rfl, _, rfl, ?_⟩
        have st4 : Stp L H' H3 := (stp_of st.pool e2).trans st3
        by_cases hr0 : r > 0
        · rw [decide_eq_true hr0]
          refine ⟨.ref R, rfl, .inl ⟨rfl, _, sq_of (st4.at st.pool hRL hg)⟩, .ref R, rfl, ?_⟩
          refine take_go (ev_var rfl) (ev_var rfl) st4.pool (by omega) fun k H4 k0 k1 st5 => ?_
          have st6 := st4.trans st5
          have hR4 := st6.at st.pool hRL hg
          obtain ⟨k', rfl⟩ : ∃ n : Nat, k = (n : Int) := ⟨k.toNat, by omega⟩
          have hk : k' < g.length := by omega
          have hgk := List.getElem?_eq_getElem hk
          have hat : atI (g.map nV) (k' : Int) = some (nV g[k']) := atI_nat (by rw [List.getElem?_map, hgk]; rfl)
          refine ⟨R, g.map nV, (k' : Int), nV g[k'], rfl, rfl, sq_of hR4, hat, ?_⟩
          refine ⟨R, g.map nV, _, rfl, rfl, hR4, sz_lt (by rw [List.length_map]; omega), ?_⟩
          refine ⟨g ++ [g[k']], _, rfl, by rw [List.length_append, hl]; rfl, jl_app jg (.inr (jg k' _ hgk).2), ?_, (st.trans st6).mut hp hR⟩
          rw [upd_same, List.map_append]
          rfl
        · rw [decide_eq_false hr0]
          exact own H3 st4
      · rw [decide_eq_false h0]
        exact own H2 (stp_of st.pool e2)
    · obtain ⟨g, y, rfl, hl, jg, hg, st⟩ := hP
      refine ⟨.ref R, rfl, R, g.map nV, rfl, .inl ⟨sq_of hg, fun l hl' => q g l _ jg (by omega) (st.ex_ (Ex.new hl')) upd_same⟩⟩
end
end K1
namespace K1
open PySem PySem.Spec PyProof.Rows L2 Evl
section
variable {P : Program} {w : World} {K : PySem.W.Frag} {mg : Str → Option Value} {base : Heap} {C fI cW cL cP : Addr}
/-! ### deeds on two quotients -/
theorem Shr.sa {a b : Int} (s : Shr a b) : Sm a := by
  have := s.la
  unfold Sm
  omega
theorem Shr.sb {a b : Int} (s : Shr a b) : Sm b := by
  have := s.lb
  unfold Sm
  omega
def Deed.op : Deed → Op
  | .plus => .plus
  | .minus => .minus
  | .times => .times
  | .over => .over
theorem spq2_go {bad : Int → Bool} {f : Int → Int → Int → Int → Int × Int} {H : Hp} {Q : VK} {E : XK} {p r : Addr} {a b c e : Int} (hp : SqT K H p [.int a, .int b]) (hr : SqT K H r [.int c, .int e]) (s1 : Shr a b) (s2 : Shr c e) (hb : bad c = false)
    (k : RetU [.int (low (f a b c e).1 (f a b c e).2).1, .int (low (f a b c e).1 (f a b c e).2).2] H Q) : spQ2 K C bad f [.ref p, .ref r] H Q E :=
  ⟨.ref p, .ref r, _, _, rfl, pair_dp hp, pair_dp hr, fun h => (by rw [s1.isQ] at h; cases h), fun _ h => (by rw [s2.isQ] at h; cases h), fun _ _ => ⟨a, b, c, e, rfl, rfl, .inr ⟨hb, s1.sa, s1.sb, s2.sa, s2.sb, k⟩⟩⟩
theorem nought_no {c : Int} (h : c ≠ 0) : nought c = false := decide_eq_false h
theorem deed_go {d : Deed} {H : Hp} {Q : VK} {E : XK} {t p r : Addr} {a b c e : Int} (hd : d = .over → c ≠ 0) (ht : SqT K H t [.ref p, .ref r]) (hp : SqT K H p [.int a, .int b]) (hr : SqT K H r [.int c, .int e]) (s1 : Shr a b) (s2 : Shr c e)
    (k : RetU [.int (low (d.f a b c e).1 (d.f a b c e).2).1, .int (low (d.f a b c e).1 (d.f a b c e).2).2] H Q) : spDeed K C [.str d.nm, .ref t] H Q E := by
  cases d with
  | plus => exact ⟨.plus, t, _, rfl, ht, spq2_go hp hr s1 s2 rfl k⟩
  | minus => exact ⟨.minus, t, _, rfl, ht, spq2_go hp hr s1 s2 rfl k⟩
  | times => exact ⟨.times, t, _, rfl, ht, spq2_go hp hr s1 s2 rfl k⟩
  | over => exact ⟨.over, t, _, rfl, ht, spq2_go hp hr s1 s2 (nought_no (hd rfl)) k⟩
theorem over_no {H : Hp} {Q : VK} {E : XK} {t p r : Addr} {a b e : Int} (ht : SqT K H t [.ref p, .ref r]) (hp : SqT K H p [.int a, .int b]) (hr : SqT K H r [.int 0, .int e]) (s1 : Shr a b) (s2 : Shr 0 e)
    (k : NU C "other" H E) : spDeed K C [.str "over", .ref t] H Q E :=
  ⟨.over, t, _, rfl, ht, .ref p, .ref r, _, _, rfl, pair_dp hp, pair_dp hr, fun h => (by rw [s1.isQ] at h; cases h), fun _ h => (by rw [s2.isQ] at h; cases h), fun _ _ => ⟨a, b, 0, e, rfl, rfl, .inl ⟨rfl, k⟩⟩⟩
/-- what a deed gives stands for the number -/
structure Dn (t : Int × Int) : Prop where
  nz : t.2 ≠ 0
  l1 : t.1.natAbs < 2 ^ 130
  l2 : t.2.natAbs < 2 ^ 130
theorem Dn.std {t : Int × Int} (h : Dn t) : Std (low t.1 t.2).1 (low t.1 t.2).2 t.1 t.2 := by
  obtain ⟨n, m, e, h1, h2, h3, h4, h5⟩ := low_spec h.nz (t := t.1)
  rw [e]
  have l1 := h.l1
  have l2 := h.l2
  exact ⟨h1, h2, h3, by show n.natAbs < _; omega, by show m.natAbs < _; omega, l1, l2⟩
theorem dn_of {d : Deed} {a b c e : Int} (hd : d = .over → c ≠ 0) (s1 : Shr a b) (s2 : Shr c e) : Dn (d.f a b c e) := by
  have b1 := s1.b1
  have e1 := s2.b1
  have h1 := sm_prod s1.sa s2.sb
  have h2 := sm_prod s2.sa s1.sb
  have h3 := sm_prod s1.sb s2.sb
  have h4 := sm_prod s1.sa s2.sa
  have h5 := sm_prod s1.sb s2.sa
  cases d with
  | plus => exact ⟨Int.mul_ne_zero (by omega) (by omega), by show (a * e + c * b).natAbs < _; omega, by show (b * e).natAbs < _; omega⟩
  | minus => exact ⟨Int.mul_ne_zero (by omega) (by omega), by show (a * e - c * b).natAbs < _; omega, by show (b * e).natAbs < _; omega⟩
  | times => exact ⟨Int.mul_ne_zero (by omega) (by omega), by show (a * c).natAbs < _; omega, by show (b * e).natAbs < _; omega⟩
  | over => exact ⟨Int.mul_ne_zero (by omega) (hd rfl), by show (a * e).natAbs < _; omega, by show (b * c).natAbs < _; omega⟩
section
variable {σ : L2.St} {H : Hp} {t1 t2 t3 : TE} {D : Ends}
theorem eu_number {d : Deed} {p r : Addr} {a b c e : Int} {E : XK} (h1 : Ev t1 σ H (.str d.nm)) (h2 : Ev t2 σ H (.ref p)) (h3 : Ev t3 σ H (.ref r)) (hp : SqT K H p [.int a, .int b]) (hr : SqT K H r [.int c, .int e]) (s1 : Shr a b) (s2 : Shr c e) :
    EvU (tCall (spNumber K) [] E (tCons t1 (tCons t2 (tCons t3 tNil)))) σ H [.int (d.f a b c e).1, .int (d.f a b c e).2] :=
  eu_call (ea_cons h1 (ea_cons h2 (ea_cons h3 ea_nil))) fun H1 e1 Q q E' => ⟨d, p, r, a, b, c, e, rfl, ex_t e1 hp, ex_t e1 hr, s1.sa, s1.sb, s2.sa, s2.sb, q⟩
theorem eu_deed {d : Deed} {p r : Addr} {a b c e : Int} {E : XK} (hd : d = .over → c ≠ 0) (h1 : Ev t1 σ H (.str d.nm)) (h2 : Ev t2 σ H (.ref p)) (h3 : Ev t3 σ H (.ref r)) (hp : SqT K H p [.int a, .int b]) (hr : SqT K H r [.int c, .int e]) (s1 : Shr a b) (s2 : Shr c e) :
    EvU (tCall (spDeed K C) [] E (tCons t1 (tCons (tTup (tCons t2 (tCons t3 tNil))) tNil))) σ H [.int (low (d.f a b c e).1 (d.f a b c e).2).1, .int (low (d.f a b c e).1 (d.f a b c e).2).2] := fun H1 e1 Q q =>
  h1 H1 e1 _ fun H2 e2 => (eu_tup (ea_cons h2 (ea_cons h3 ea_nil)) (by show 2 ≤ 100000; decide)) H2 (e1.trans e2) _ fun t H3 ht e3 hx =>
    deed_go hd (st_of hx) (ex_t (e1.trans (e2.trans e3)) hp) (ex_t (e1.trans (e2.trans e3)) hr) s1 s2 fun p' H4 hp' e4 hx' => q p' H4 (fresh_back (e2.trans e3) hp') (e2.trans (e3.trans e4)) hx'
theorem ev_standsU {n m hi lo : Int} {E : XK} (h1 : EvU t1 σ H [.int n, .int m]) (h2 : Ev t2 σ H (.int hi)) (h3 : Ev t3 σ H (.int lo)) (st : Std n m hi lo) :
    Ev (tCall (spStands K) [] E (tCons t1 (tCons t2 (tCons t3 tNil)))) σ H (.bl true) := fun H1 e1 Q q =>
  h1 H1 e1 _ fun p H2 hp e2 hx => h2 H2 (e1.trans e2) _ fun H3 e3 => h3 H3 (e1.trans (e2.trans e3)) _ fun H4 e4 =>
    ⟨p, n, m, hi, lo, rfl, st_of ((e3.trans e4) _ _ hx), st, fun H5 e5 => q H5 (e2.trans (e3.trans (e4.trans e5)))⟩
theorem ev_overNo {p r : Addr} {a b c e : Int} {E : XK} (hc : c = 0) (h1 : Ev t1 σ H (.str "over")) (h2 : Ev t2 σ H (.ref p)) (h3 : Ev t3 σ H (.ref r)) (hp : SqT K H p [.int a, .int b]) (hr : SqT K H r [.int c, .int e]) (s1 : Shr a b) (s2 : Shr c e) :
    Ev (tCall (spRefused K C) [] E (tCons t1 (tCons (tTup (tCons t2 (tCons t3 tNil))) (tCons (tC (.str "other")) tNil)))) σ H (.bl true) := fun H1 e1 Q q =>
  h1 H1 e1 _ fun H2 e2 => (eu_tup (ea_cons h2 (ea_cons h3 ea_nil)) (by show 2 ≤ 100000; decide)) H2 (e1.trans e2) _ fun t H3 ht e3 hx => by
    subst hc
    exact ⟨_, _, t, rfl, fun Q' E' nu => over_no (st_of hx) (ex_t (e1.trans (e2.trans e3)) hp) (ex_t (e1.trans (e2.trans e3)) hr) s1 s2 nu, fun H4 e4 => q H4 (e2.trans (e3.trans e4))⟩
theorem ev_less {p r : Addr} {a b c e : Int} {E : XK} (h1 : Ev t1 σ H (.ref p)) (h2 : Ev t2 σ H (.ref r)) (hp : SqT K H p [.int a, .int b]) (hr : SqT K H r [.int c, .int e]) (s1 : Shr a b) (s2 : Shr c e) :
    Ev (tCall (spLess K C) [] E (tCons t1 (tCons t2 tNil))) σ H (.bl (decide (a * e < c * b))) :=
  ev_call (ea_cons h1 (ea_cons h2 ea_nil)) fun H1 e1 Q q E' => ⟨.ref p, .ref r, _, _, rfl, pair_dp (ex_t e1 hp), pair_dp (ex_t e1 hr), fun h => (by rw [s1.isQ] at h; cases h), fun _ h => (by rw [s2.isQ] at h; cases h),
    fun _ _ => ⟨a, b, c, e, rfl, rfl, s1.sa, s1.sb, s2.sa, s2.sb, q⟩⟩
theorem rv_isB {a b : Bool} : RV rIsB (.bl a) (.bl b) H (.bl (decide (a = b))) := fun H1 e Q q => ⟨a, b, rfl, rfl, q H1 (Ex.refl _)⟩
end
/-! ### _law_pair -/
def four : List V := [.str "plus", .str "minus", .str "times", .str "over"]
theorem four_at {i : Nat} {x : V} (h : four[i]? = some x) : ∃ d : Deed, x = .str d.nm := by
  match i, h with
  | 0, h => exact ⟨.plus, (Option.some.inj h).symm⟩
  | 1, h => exact ⟨.minus, (Option.some.inj h).symm⟩
  | 2, h => exact ⟨.times, (Option.some.inj h).symm⟩
  | 3, h => exact ⟨.over, (Option.some.inj h).symm⟩
instance : DecidableEq Deed := fun a b => by cases a <;> cases b <;> first | exact isTrue rfl | exact isFalse (fun h => by cases h)
theorem nm_over (d : Deed) : decide (V.str d.nm = V.str "over") = decide (d = .over) := by
  cases d <;> decide +kernel
def spPair (K : PySem.W.Frag) : Sp := fun vs H Q _ => ∃ (p r : Addr) (a b c e : Int), vs = [.ref p, .ref r] ∧ SqT K H p [.int a, .int b] ∧ SqT K H r [.int c, .int e] ∧ Shr a b ∧ Shr c e ∧ RetV (.bl true) H Q
theorem ok_pair (D : Dfn K mg "_law_pair" s_law_pair) (G_law_refused : Cal P w K mg base CX0 7 "_law_refused" ["_law_deed_here", "_law_row_here", "_law_due"] (spRefused K C)) (G_law_deed : Cal P w K mg base (L2N.CX P w) 6 "_law_deed" ["_law_deed_here", "_law_row_here"] (spDeed K C))
    (G_law_number : Cal P w K mg base CX0 1 "_law_number" ["_law_deed_here", "_law_a", "_law_b"] (spNumber K)) (G_law_stands : Cal P w K mg base CX0 2 "_law_stands" ["_law_got", "_law_high", "_law_low"] (spStands K))
    (G_less : Cal P w K mg base (L2N.CX P w) 5 "less" ["one", "other"] (spLess K C)) : Cal P w K mg base CX0 8 "_law_pair" ["_law_a", "_law_b"] (spPair K) := by
  refine mkCal D (fun _ _ _ _ _ _ us hl => match us, hl with | [_, _], _ => rfl) fun f fd F => ?_
  refine F.ok sc_law_pair (fun vs H Q E h => ?_) (fun cdv A outer s H vs Q E hr h => ?_)
  · obtain ⟨p, r, a, b, c, e, rfl, _⟩ := h
    rfl
  · obtain ⟨p, r, a, b, c, e, rfl, hp, hq, s1, s2, q⟩ := h
    refine ⟨_, ((pss_cons (ps_for PassesOwn.never rfl (pi_list (pe_lst (pa_cons pe_str (pa_cons pe_str (pa_cons pe_str (pa_cons pe_str pa_nil)))))) (pg_name (i := 2) sc_law_pair.nd rfl (.inl rfl)) (pss_one (ps_if (PW.pt (pw_and (pt_cmpR op_eq (pv 2) pe_str (nomark _)) (pw_and1 (pt_cmpR op_eq (pe_ix ix_tup (pv 1) pe_int (fun _ _ => rfl)) pe_int (nomark _))))) (pss_one (ps_if (pt_not (pt_val (pcal G_law_refused hr pass0 (pa_cons (pv 2) (pa_cons (pe_tup (pa_cons (pv 0) (pa_cons (pv 1) pa_nil))) (pa_cons pe_str pa_nil)))))) (pss_one (ps_ret pe_bl)) pss_nil)) (pss_cons (ps_asg (pcal G_law_number hr pass0 (pa_cons (pv 2) (pa_cons (pv 0) (pa_cons (pv 1) pa_nil)))) (pg_tup rfl (pgs_cons (pg_name (i := 3) sc_law_pair.nd rfl (.inl rfl)) (pgs_cons (pg_name (i := 4) sc_law_pair.nd rfl (.inl rfl)) pgs_nil))))
      (pss_one (ps_if (pt_not (pt_val (pcal G_law_stands hr pass0 (pa_cons (pcal G_law_deed hr passN (pa_cons (pv 2) (pa_cons (pe_tup (pa_cons (pv 0) (pa_cons (pv 1) pa_nil))) pa_nil))) (pa_cons (pv 3) (pa_cons (pv 4) pa_nil)))))) (pss_one (ps_ret pe_bl)) pss_nil))))))
      (pss_cons (ps_set (i := 5) sc_law_pair.nd rfl (.inl rfl) (pcal G_less hr passN (pa_cons (pv 0) (pa_cons (pv 1) pa_nil))))
      (pss_cons (ps_if (pt_cmpR op_lt (pe_op op_mulW (pe_ix ix_tup (pv 0) pe_int (fun _ _ => rfl)) (pe_ix ix_tup (pv 1) pe_int (fun _ _ => rfl))) (pe_op op_mulW (pe_ix ix_tup (pv 1) pe_int (fun _ _ => rfl)) (pe_ix ix_tup (pv 0) pe_int (fun _ _ => rfl))) (nomark _)) (pss_one (ps_ret (pe_cmpR op_isBl (pv 5) pe_bl (nomark _)))) pss_nil)
      (pss_one (ps_ret (pe_cmpR op_isBl (pv 5) pe_bl (nomark _)))))))), ?_⟩
    refine q_forNLn (xs := four) (el_lst (ea_cons ev_c (ea_cons ev_c (ea_cons ev_c (ea_cons ev_c ea_nil)))) (by show 4 ≤ 100000; decide)) (fun l i σ' H' => H' l = some (.lst four) ∧ Ex H H' ∧ ∃ y2 y3 y4, σ' = [some (.ref p), some (.ref r), y2, y3, y4, none])
      (fun l H1 hl e1 h1 => ⟨h1, e1, none, none, none, rfl⟩) (fun l i σ' H' _ hP => sq_of hP.1) (fun l i x σ' H' hx hP => ?_) fun l σ' H' hP => ?_
    · obtain ⟨hl, e0, y2, y3, y4, rfl⟩ := hP
      obtain ⟨d, rfl⟩ := four_at hx
      refine s_if (et_and (et_test (ev_op (ev_var rfl) ev_c (rv_eq rfl))) fun _ => et_test (ev_op (ev_i0 (ev_var rfl) (ex_t e0 hq)) ev_c (rv_eq rfl))) (fun z H1 e1 => ?_) fun z H1 e1 => ?_
      · rw [nm_over, Bool.and_eq_true] at z
        have zd : d = .over := of_decide_eq_true z.1
        have zc' : V.int c = V.int 0 := of_decide_eq_true z.2
        have zc : c = 0 := V.int.inj zc'
        subst zd
        refine s_when (et_not (et_test (ev_overNo zc (ev_var rfl) (ev_var rfl) (ev_var rfl) (ex_t (e0.trans e1) hp) (ex_t (e0.trans e1) hq) s1 s2))) (fun z => Bool.noConfusion z) fun _ H2 e2 => ?_
        exact ⟨e2 _ _ (e1 _ _ hl), e0.trans (e1.trans e2), _, _, _, rfl⟩
      · have hd : d = .over → c ≠ 0 := fun h1 h2 => by
          subst h1 h2
          cases z
        refine q_unpU (eu_number (ev_var rfl) (ev_var rfl) (ev_var rfl) (ex_t (e0.trans e1) hp) (ex_t (e0.trans e1) hq) s1 s2) fun H2 e2 => ?_
        have e3 := e0.trans (e1.trans e2)
        refine s_when (et_not (et_test (ev_standsU (eu_deed hd (ev_var rfl) (ev_var rfl) (ev_var rfl) (ex_t e3 hp) (ex_t e3 hq) s1 s2) (ev_var rfl) (ev_var rfl) (dn_of hd s1 s2).std))) (fun z => Bool.noConfusion z) fun _ H3 e4 => ?_
        exact ⟨e4 _ _ (e2 _ _ (e1 _ _ hl)), e3.trans e4, _, _, _, rfl⟩
    · obtain ⟨hl, e0, y2, y3, y4, rfl⟩ := hP
      refine q_asg (ev_less (ev_var rfl) (ev_var rfl) (ex_t e0 hp) (ex_t e0 hq) s1 s2) fun H1 e1 => ?_
      have e2 := e0.trans e1
      refine q_when (et_test (ev_op (ev_op (ev_i0 (ev_var rfl) (ex_t e2 hp)) (ev_i1 (ev_var rfl) (ex_t e2 hq)) (rv_I (sm_mul s1.sa s2.sb))) (ev_op (ev_i0 (ev_var rfl) (ex_t e2 hq)) (ev_i1 (ev_var rfl) (ex_t e2 hp)) (rv_I (sm_mul s2.sa s1.sb))) rv_I0)) (fun z H2 e3 => ?_) fun z H2 e3 => ?_
      · refine s_ret (ev_is (ev_op (ev_var rfl) ev_c rv_isB) (w := .bl true) ?_) fun H3 e4 => q H3 (e2.trans (e3.trans e4))
        rw [z]
        rfl
      · refine s_ret (ev_is (ev_op (ev_var rfl) ev_c rv_isB) (w := .bl true) ?_) fun H3 e4 => q H3 (e2.trans (e3.trans e4))
        rw [z]
        rfl
end
end K1
namespace K1
open PySem PySem.Spec PyProof.Rows L2 Evl
section
variable {P : Program} {w : World} {K : PySem.W.Frag} {mg : Str → Option Value} {base : Heap} {C fI cW cL cP : Addr}
/-! ### _law_chain -/
def four2 : List V := [.str "times", .str "plus", .str "minus", .str "over"]
theorem four2_at {r : Int} (h0 : 0 ≤ r) (h1 : r < 4) : ∃ d : Deed, atI four2 r = some (.str d.nm) := by
  have : r = 0 ∨ r = 1 ∨ r = 2 ∨ r = 3 := by omega
  rcases this with h | h | h | h <;> subst h
  · exact ⟨.times, rfl⟩
  · exact ⟨.plus, rfl⟩
  · exact ⟨.minus, rfl⟩
  · exact ⟨.over, rfl⟩
def spChain (K : PySem.W.Frag) : Sp := fun vs H Q _ => ∃ (L p : Addr) (a b : Int), vs = [.ref L, .ref p] ∧ PoolAt H L ∧ SqT K H p [.int a, .int b] ∧ Shr a b ∧ ∀ H', Stp L H H' → Q (.bl true) H'
theorem ok_chain (B : Blt mg) (D : Dfn K mg "_law_chain" s_law_chain) (G_law_take : Cal P w K mg base CX0 1 "_law_take" ["_law_pool_here", "_law_bound"] spTake) (G_law_common : Cal P w K mg base CX0 1 "_law_common" ["_law_first", "_law_second"] spCommon)
    (G_law_deed : Cal P w K mg base (L2N.CX P w) 6 "_law_deed" ["_law_deed_here", "_law_row_here"] (spDeed K C))
    (G_law_number : Cal P w K mg base CX0 1 "_law_number" ["_law_deed_here", "_law_a", "_law_b"] (spNumber K)) (G_law_stands : Cal P w K mg base CX0 2 "_law_stands" ["_law_got", "_law_high", "_law_low"] (spStands K)) :
    Cal P w K mg base CX0 7 "_law_chain" ["_law_pool_here", "_law_a"] (spChain K) := by
  refine mkCal D (fun _ _ _ _ _ _ us hl => match us, hl with | [_, _], _ => rfl) fun f fd F => ?_
  refine F.ok sc_law_chain (fun vs H Q E h => ?_) (fun cdv A outer s H vs Q E hr h => ?_)
  · obtain ⟨L, p, a, b, rfl, _⟩ := h
    rfl
  · obtain ⟨L, p0, a0, b0, rfl, hp, hs0, s0, q⟩ := h
    refine ⟨_, ((pss_cons (ps_for PassesOwn.never rfl (pi_range1 (by rfl) B.b_range (pa_cons pe_int pa_nil)) (pg_name (i := 2) sc_law_chain.nd rfl (.inl rfl)) (pss_cons (ps_set (i := 3) sc_law_chain.nd rfl (.inl rfl) (pe_tup (pa_cons (pe_op op_sub (pcal G_law_take hr pass0 (pa_cons (pv 0) (pa_cons pe_int pa_nil))) pe_int) (pa_cons (pe_op op_add pe_int (pcal G_law_take hr pass0 (pa_cons (pv 0) (pa_cons pe_int pa_nil)))) pa_nil))))
      (pss_cons (ps_set (i := 4) sc_law_chain.nd rfl (.inl rfl) (pcal G_law_common hr pass0 (pa_cons (pe_callB call_abs (by rfl) B.b_abs bt_abs (pa_cons (pe_ix ix_tup (pv 3) pe_int (fun _ _ => rfl)) pa_nil)) (pa_cons (pe_ix ix_tup (pv 3) pe_int (fun _ _ => rfl)) pa_nil))))
      (pss_cons (ps_set (i := 3) sc_law_chain.nd rfl (.inl rfl) (pe_tup (pa_cons (pe_op op_fdivW (pe_ix ix_tup (pv 3) pe_int (fun _ _ => rfl)) (pv 4)) (pa_cons (pe_op op_fdivW (pe_ix ix_tup (pv 3) pe_int (fun _ _ => rfl)) (pv 4)) pa_nil))))
      (pss_cons (ps_set (i := 5) sc_law_chain.nd rfl (.inl rfl) (pe_ix ix_list (pe_lst (pa_cons pe_str (pa_cons pe_str (pa_cons pe_str (pa_cons pe_str pa_nil))))) (pcal G_law_take hr pass0 (pa_cons (pv 0) (pa_cons pe_int pa_nil))) (fun _ _ => rfl)))
      (pss_cons (ps_if (PW.pt (pw_and (pt_cmpR op_eq (pv 5) pe_str (nomark _)) (pw_and1 (pt_cmpR op_eq (pe_ix ix_tup (pv 3) pe_int (fun _ _ => rfl)) pe_int (nomark _))))) (pss_one (ps_set (i := 5) sc_law_chain.nd rfl (.inl rfl) pe_str)) pss_nil)
      (pss_cons (ps_asg (pcal G_law_number hr pass0 (pa_cons (pv 5) (pa_cons (pv 1) (pa_cons (pv 3) pa_nil)))) (pg_tup rfl (pgs_cons (pg_name (i := 6) sc_law_chain.nd rfl (.inl rfl)) (pgs_cons (pg_name (i := 7) sc_law_chain.nd rfl (.inl rfl)) pgs_nil))))
      (pss_cons (ps_set (i := 1) sc_law_chain.nd rfl (.inl rfl) (pcal G_law_deed hr passN (pa_cons (pv 5) (pa_cons (pe_tup (pa_cons (pv 1) (pa_cons (pv 3) pa_nil))) pa_nil))))
      (pss_cons (ps_if (pt_not (pt_val (pcal G_law_stands hr pass0 (pa_cons (pv 1) (pa_cons (pv 6) (pa_cons (pv 7) pa_nil)))))) (pss_one (ps_ret pe_bl)) pss_nil)
      (pss_one (ps_if (PW.pt (pw_or (pt_cmpR op_gt (pe_callB call_abs (by rfl) B.b_abs bt_abs (pa_cons (pe_ix ix_tup (pv 1) pe_int (fun _ _ => rfl)) pa_nil)) (pe_op op_pow pe_int pe_int) (nomark _)) (pw_or1 (pt_cmpR op_gt (pe_ix ix_tup (pv 1) pe_int (fun _ _ => rfl)) (pe_op op_pow pe_int pe_int) (nomark _))))) (pss_one (ps_ret pe_bl)) pss_nil)))))))))))
      (pss_one (ps_ret pe_bl)))), ?_⟩
    refine q_forR1 (n := 6) (ea_cons ev_c ea_nil) (by omega) (fun i σ' H' => ∃ (p : Addr) (a b : Int) (y2 y3 y4 y5 y6 y7 : Option V), σ' = [some (.ref L), some (.ref p), y2, y3, y4, y5, y6, y7] ∧ SqT K H' p [.int a, .int b] ∧ Shr a b ∧ Stp L H H')
      (fun H1 e1 => ⟨p0, a0, b0, none, none, none, none, none, none, rfl, ex_t e1 hs0, s0, stp_of hp e1⟩) (fun i σ' H' hi hP => ?_) (fun σ' H' hP => ?_)
    · obtain ⟨p, a, b, y2, y3, y4, y5, y6, y7, rfl, hs, sh, st⟩ := hP
      refine take_go (ev_var rfl) ev_c st.pool (by omega) fun r1 H1 l1 u1 st1 => ?_
      refine ⟨r1, 6, rfl, rfl, ?_⟩
      refine take_go (ev_var rfl) ev_c st1.pool (by omega) fun r2 H2 l2 u2 st2 => ?_
      refine ⟨1, r2, rfl, rfl, ?_⟩
      obtain ⟨k, hk, hk1, hk4⟩ : ∃ k : Nat, 1 + r2 = (k : Int) ∧ 1 ≤ k ∧ k ≤ 4 := ⟨(1 + r2).toNat, by omega, by omega, by omega⟩
      obtain ⟨c, hc, hc6⟩ : ∃ c : Int, r1 - 6 = c ∧ c.natAbs ≤ 12 := ⟨r1 - 6, rfl, by omega⟩
      refine ⟨sz_of (by show 2 ≤ 100000; decide), fun pb hpb => ?_⟩
      have stA := (st1.trans st2).ex_ (Ex.new (o := .tup [.int (r1 - 6), .int (1 + r2)]) hpb)
      have hsA := stA.t st.pool hs
      have hb : SqT K (upd H2 pb (.tup [.int (r1 - 6), .int (1 + r2)])) pb [.int c, .int (k : Int)] := by
        rw [← hk, ← hc]
        exact st_of upd_same
      have hg : 0 < Nat.gcd c.natAbs k := Nat.gcd_pos_of_pos_right _ hk1
      have hgb : Nat.gcd c.natAbs k ≤ k := Nat.le_of_dvd hk1 (Nat.gcd_dvd_right _ _)
      have hdv : ∀ i : Int, CDivW i ((Nat.gcd c.natAbs k : Nat) : Int) := fun i => wide_div (b := 130) (by omega) (by omega) (by decide) (by decide)
      refine q_asg (ev_common (ev_abs (ev_i0 (ev_var rfl) hb)) (ev_i1 (ev_var rfl) hb) (by omega) (by omega)) fun H4 e4 => ?_
      refine q_asgU (eu_tup (ea_cons (ev_op (ev_i0 (ev_var rfl) (ex_t e4 hb)) (ev_var rfl) (rv_I (hdv _))) (ea_cons (ev_op (ev_i1 (ev_var rfl) (ex_t e4 hb)) (ev_var rfl) (rv_I (hdv _))) ea_nil)) (by show 2 ≤ 100000; decide)) fun pc H5 _ e5 hx => ?_
      have sh2 := reduced (t := c) hk1 (by omega) (by omega)
      generalize c / ((Nat.gcd c.natAbs k : Nat) : Int) = n at sh2 hx
      generalize (k : Int) / ((Nat.gcd c.natAbs k : Nat) : Int) = m at sh2 hx
      have stB := stA.ex_ (e4.trans e5)
      have hs5 := ex_t (e4.trans e5) hsA
      refine ⟨sz_of (by show 4 ≤ 100000; decide), fun pl hpl => ?_⟩
      have stC := stB.ex_ (Ex.new (o := .lst four2) hpl)
      have hs6 := ex_t (Ex.new (o := .lst four2) hpl) hs5
      have hx6 : SqT K (upd H5 pl (.lst four2)) pc [.int n, .int m] := ex_t (Ex.new (o := .lst four2) hpl) (st_of hx)
      have hl6 : (upd H5 pl (.lst four2)) pl = some (.lst four2) := upd_same
      refine take_go (ev_var rfl) ev_c stC.pool (by omega) fun r3 H7 l3 u3 st3 => ?_
      have stD := stC.trans st3
      have hs7 := st3.t stC.pool hs6
      have hx7 := st3.t stC.pool hx6
      have hpL : pl ≠ L := fun z => by
        obtain ⟨ns, hn⟩ := stB.pool
        rw [z, hn] at hpl
        cases hpl
      have hl7 := st3.at stC.pool hpL hl6
      obtain ⟨d, hd⟩ := four2_at l3 u3
      refine ⟨pl, four2, r3, .str d.nm, rfl, rfl, sq_of hl7, hd, ?_⟩
      -- the deed that is done
      obtain ⟨d', hd1, hd2, hd3⟩ : ∃ d' : Deed, ((decide (V.str d.nm = V.str "over") && decide (V.int n = V.int 0)) = true → d' = .plus) ∧ ((decide (V.str d.nm = V.str "over") && decide (V.int n = V.int 0)) = false → d' = d) ∧ (d' = .over → n ≠ 0) := by
        by_cases z : (decide (V.str d.nm = V.str "over") && decide (V.int n = V.int 0)) = true
        · exact ⟨.plus, fun _ => rfl, fun z' => absurd (z.symm.trans z') (by decide), fun z' => by cases z'⟩
        · refine ⟨d, fun z' => absurd z' z, fun _ => rfl, fun h1 h2 => z ?_⟩
          subst h1 h2
          rfl
      refine q_ifAsg (v := .str d'.nm) (et_and (et_test (ev_op (ev_var rfl) ev_c (rv_eq rfl))) fun _ => et_test (ev_op (ev_i0 (ev_var rfl) hx7) ev_c (rv_eq rfl))) (fun z => by rw [hd1 z]; exact ev_c) (fun z => by rw [hd2 z]; rfl) fun H8 e8 => ?_
      refine q_unpU (eu_number (ev_var rfl) (ev_var rfl) (ev_var rfl) (ex_t e8 hs7) (ex_t e8 hx7) sh sh2) fun H9 e9 => ?_
      have e10 := e8.trans e9
      refine q_asgU (eu_deed hd3 (ev_var rfl) (ev_var rfl) (ev_var rfl) (ex_t e10 hs7) (ex_t e10 hx7) sh sh2) fun pn H10 _ e11 hn => ?_
      have sd := (dn_of hd3 sh sh2).std
      generalize (d'.f a b n m).1 = hi' at sd hn
      generalize (d'.f a b n m).2 = lo' at sd hn
      generalize (low hi' lo').1 = n2 at sd hn
      generalize (low hi' lo').2 = m2 at sd hn
      refine q_when (et_not (et_test (ev_stands (ev_var rfl) (ev_var rfl) (ev_var rfl) (st_of hn) sd))) (fun z => Bool.noConfusion z) fun _ H11 e12 => ?_
      have hn' : SqT K H11 pn [.int n2, .int m2] := ex_t e12 (st_of hn)
      have stE := st.trans (stD.ex_ (e10.trans (e11.trans e12)))
      refine s_when (et_or (et_test (ev_op (ev_abs (ev_i0 (ev_var rfl) hn')) (ev_op ev_c ev_c (rv_I ⟨by decide, by decide, by decide⟩)) rv_I0)) fun _ => et_test (ev_op (ev_i1 (ev_var rfl) hn') (ev_op ev_c ev_c (rv_I ⟨by decide, by decide, by decide⟩)) rv_I0)) (fun z H12 e13 => ?_) fun z H12 e13 => ?_
      · exact s_ret ev_c fun H13 e14 => q H13 (stE.ex_ (e13.trans e14))
      · have e10 : (10 : Int) ^ (12 : Int).toNat = 1000000000000 := by decide
        rw [e10, Bool.or_eq_false_iff] at z
        have z1 := of_decide_eq_false z.1
        have z2 := of_decide_eq_false z.2
        have m1 := sd.m1
        exact ⟨pn, n2, m2, _, _, _, _, _, _, rfl, ex_t e13 hn', ⟨m1, sd.cop, by omega, by omega⟩, stE.ex_ e13⟩
    · obtain ⟨p, a, b, y2, y3, y4, y5, y6, y7, rfl, hs, sh, st⟩ := hP
      exact s_ret ev_c fun H1 e1 => q H1 (st.ex_ e1)
end
end K1
namespace K1
open PySem PySem.Spec PyProof.Rows L2 Evl
section
variable {P : Program} {w : World} {K : PySem.W.Frag} {mg : Str → Option Value} {base : Heap} {C fI cW cL cP : Addr}
/-! ### _law_pool -/
def spPool (K : PySem.W.Frag) : Sp := fun vs H Q _ => ∃ (a : Addr) (ns : List Int), vs = [.ref a] ∧ SqL K H a (ns.map V.int) ∧ ∀ L H', H L = none → Ex H H' → PoolAt H' L → Q (.ref L) H'
/-- between two turns -/
structure Pl (H0 : Hp) (a R : Addr) (n : Nat) (σ : L2.St) (H : Hp) : Prop where
  ex : ∃ (s : Int) (y3 y4 y5 : Option V) (ms : List Int), σ = [some (.ref a), some (.ref R), some (.int s), y3, y4, y5] ∧ 0 ≤ s ∧ s < 2147483647 ∧ Ex H0 H ∧ H R = some (.lst (ms.map V.int)) ∧ ms.length ≤ n
theorem ok_pool (B : Blt mg) (D : Dfn K mg "_law_pool" s_law_pool) : Cal P w K mg base CX0 1 "_law_pool" ["_law_script"] (spPool K) := by
  refine mkCal D (fun _ _ _ _ _ _ us hl => match us, hl with | [_], _ => rfl) fun f fd F => ?_
  refine F.ok sc_law_pool (fun vs H Q E h => ?_) (fun cdv A outer s H vs Q E hr h => ?_)
  · obtain ⟨a, ns, rfl, _⟩ := h
    rfl
  · obtain ⟨a, ns, rfl, ha, q⟩ := h
    refine ⟨_, ((pss_cons (ps_set (i := 1) sc_law_pool.nd rfl (.inl rfl) (pe_lst pa_nil))
      (pss_cons (ps_if (pt_cmpR op_eq (pe_callB call_len_seq (by rfl) B.b_len bt_len (pa_cons (pv 0) pa_nil)) pe_int (nomark _)) (pss_one (ps_ret (pv 1))) pss_nil)
      (pss_cons (ps_set (i := 2) sc_law_pool.nd rfl (.inl rfl) pe_int)
      (pss_cons (ps_for PassesOwn.never rfl (pi_list (pv 0)) (pg_name (i := 3) sc_law_pool.nd rfl (.inl rfl)) (pss_cons (ps_set (i := 2) sc_law_pool.nd rfl (.inl rfl) (pe_op op_mod (pe_callTy call_int1 (by rfl) B.b_int bt_int (pa_cons (pe_op op_add (pe_op op_add (pe_op op_mulW (pv 2) pe_int) (pe_op op_mod (pe_callTy call_int1 (by rfl) B.b_int bt_int (pa_cons (pv 3) pa_nil)) pe_int)) pe_int) pa_nil)) pe_int))
      (pss_one (ps_if (pt_cmpR op_lt (pe_callB call_len_seq (by rfl) B.b_len bt_len (pa_cons (pv 1) pa_nil)) pe_int (nomark _)) (pss_one (ps_if (pt_cmpR op_ge (pv 3) (pe_op op_pow pe_int pe_int) (nomark _)) (pss_cons (ps_set (i := 4) sc_law_pool.nd rfl (.inl rfl) (pv 3))
      (pss_one (ps_for PassesOwn.never rfl (pi_range1 (by rfl) B.b_range (pa_cons pe_int pa_nil)) (pg_name (i := 5) sc_law_pool.nd rfl (.inl rfl)) (pss_cons (ps_if (pt_cmpR op_eq (pv 4) pe_int (nomark _)) (pss_one ps_break) pss_nil)
      (pss_cons (ps_expr (pe_bm PySem.F.plainAttrs_list PySem.F.slot_list_append PySem.F.type_list_append mt_append (pv 1) (pa_cons (pe_op op_mod (pe_callTy call_int1 (by rfl) B.b_int bt_int (pa_cons (pv 4) pa_nil)) pe_int) pa_nil)))
      (pss_one (ps_set (i := 4) sc_law_pool.nd rfl (.inl rfl) (pe_op op_fdivW (pv 4) pe_int)))))))) (pss_one (ps_expr (pe_bm PySem.F.plainAttrs_list PySem.F.slot_list_append PySem.F.type_list_append mt_append (pv 1) (pa_cons (pe_op op_mod (pe_callTy call_int1 (by rfl) B.b_int bt_int (pa_cons (pe_op op_add (pe_op op_mulW (pe_op op_fdivW (pv 2) pe_int) pe_int) (pv 2)) pa_nil)) pe_int) pa_nil)))))) pss_nil))))
      (pss_cons (ps_for PassesOwn.never rfl (pi_range1 (by rfl) B.b_range (pa_cons pe_int pa_nil)) (pg_name (i := 5) sc_law_pool.nd rfl (.inl rfl)) (pss_cons (ps_set (i := 2) sc_law_pool.nd rfl (.inl rfl) (pe_op op_mod (pe_callTy call_int1 (by rfl) B.b_int bt_int (pa_cons (pe_op op_add (pe_op op_add (pe_op op_mulW (pv 2) pe_int) pe_int) (pv 5)) pa_nil)) pe_int))
      (pss_one (ps_expr (pe_bm PySem.F.plainAttrs_list PySem.F.slot_list_append PySem.F.type_list_append mt_append (pv 1) (pa_cons (pe_op op_mod (pe_callTy call_int1 (by rfl) B.b_int bt_int (pa_cons (pe_op op_add (pe_op op_mulW (pe_op op_fdivW (pv 2) pe_int) (pv 2)) (pe_op op_fdivW (pv 2) pe_int)) pa_nil)) pe_int) pa_nil))))))
      (pss_one (ps_ret (pe_revL (pv 1)))))))))), ?_⟩
    refine q_asgL (el_lst ea_nil (by show 0 ≤ 100000; decide)) fun R H1 hR e1 h1 => ?_
    refine q_when (et_test (ev_op (ev_len (ev_var rfl) (ex_l e1 ha)) ev_c (rv_eq rfl))) (fun z H2 e2 => ?_) fun z H2 e2 => ?_
    · exact s_ret (ev_var rfl) fun H3 e3 => q R H3 hR (e1.trans (e2.trans e3)) ⟨[], e3 _ _ (e2 _ _ h1)⟩
    refine q_asg ev_c fun H3 e3 => ?_
    have app : ∀ (ms : List Int) (v : Int), ms.map V.int ++ [V.int v] = (ms ++ [v]).map V.int := fun ms v => by rw [List.map_append]; rfl
    refine q_forLn (ev_var rfl) (ex_l (e1.trans (e2.trans e3)) ha) (fun i σ' H' => Pl H a R 160 σ' H') (fun H4 e4 => ⟨31607, none, none, none, [], rfl, by omega, by omega, e1.trans (e2.trans (e3.trans e4)), e4 _ _ (e3 _ _ (e2 _ _ h1)), Nat.zero_le _⟩)
      (fun i σ' H' _ hP => by
        obtain ⟨s, y3, y4, y5, ms, _, _, _, e, _⟩ := hP.ex
        exact ex_l e ha) (fun i x σ' H' hx hP => ?_) (fun σ' H' hP => ?_)
    · obtain ⟨s, y3, y4, y5, ms, rfl, s0, s1, e, hm, hn⟩ := hP.ex
      obtain ⟨c, rfl⟩ : ∃ c : Int, x = .int c := by
        rw [List.getElem?_map] at hx
        cases e : ns[i]? with
        | none =>
          rw [e] at hx
          cases hx
        | some n =>
          rw [e] at hx
          exact ⟨n, (Option.some.inj hx).symm⟩
      refine q_asg (ev_op (ev_int (ev_op (ev_op (ev_op (ev_var rfl) ev_c (rv_I (sm_mul (by unfold Sm; omega) (by unfold Sm; omega)))) (ev_op (ev_int (ev_var rfl)) ev_c (rv_I (by omega))) rv_I0) ev_c rv_I0)) ev_c (rv_I (by omega))) fun H4 e4 => ?_
      have b0 : (0 : Int) ≤ (s * 40692 + c % 2147483587 + 11) % 2147483399 := Int.emod_nonneg _ (by omega)
      have b1 : (s * 40692 + c % 2147483587 + 11) % 2147483399 < 2147483399 := Int.emod_lt_of_pos _ (by omega)
      generalize (s * 40692 + c % 2147483587 + 11) % 2147483399 = t at b0 b1
      have hm4 := e4 _ _ hm
      have e5 := e.trans e4
      refine s_when (et_test (ev_op (ev_len (ev_var rfl) (sq_of hm4)) ev_c rv_I0)) (fun z H5 e6 => ?_) fun z H5 e6 => ⟨t, _, _, _, ms, rfl, b0, by omega, e5.trans e6, e6 _ _ hm4, hn⟩
      have hm5 := e6 _ _ hm4
      have e7 := e5.trans e6
      have hlt : ms.length < 100 := by
        have := of_decide_eq_true z
        rw [List.length_map] at this
        omega
      refine s_if (et_test (ev_op (ev_var rfl) (ev_op ev_c ev_c (rv_I ⟨by decide, by decide, by decide⟩)) rv_I0)) (fun z2 H6 e8 => ?_) fun z2 H6 e8 => ?_
      · have hm6 := e8 _ _ hm5
        refine q_asg (ev_var rfl) fun H7 e9 => ?_
        refine s_forR1 (n := 60) (ea_cons ev_c ea_nil) (by omega) (fun i σ' H' => ∃ (l : Int) (y5 : Option V) (ms : List Int), σ' = [some (.ref a), some (.ref R), some (.int t), some (.int c), some (.int l), y5] ∧ Ex H H' ∧ H' R = some (.lst (ms.map V.int)) ∧ ms.length ≤ 100 + i)
          (fun H8 e10 => ⟨c, _, ms, rfl, e7.trans (e8.trans (e9.trans e10)), e10 _ _ (e9 _ _ hm6), by omega⟩) (fun i σ' H' hi hP => ?_) (fun σ' H' hP => ?_)
        · obtain ⟨l, y, ms, rfl, e, hm, hn⟩ := hP
          refine q_when (et_test (ev_op (ev_var rfl) ev_c (rv_eq rfl))) (fun z H8 e10 => ?_) fun z H8 e10 => ?_
          · exact ⟨t, _, _, _, ms, rfl, b0, by omega, e.trans e10, e10 _ _ hm, by omega⟩
          refine q_app (e10 _ _ hm) (ev_var rfl) (ev_op (ev_int (ev_var rfl)) ev_c (rv_I (by omega))) (by rw [List.length_map]; omega) fun H9 e11 => ?_
          refine s_asg (ev_op (ev_var rfl) ev_c (rv_I (wide_div (b := 130) (by omega) (by omega) (by decide) (by decide)))) fun H10 e12 => ?_
          exact ⟨_, _, ms ++ [l % 1013], rfl, ((e.trans (e10.trans e11)).mut hR).trans e12, e12 _ _ (by rw [upd_same, app]), by rw [List.length_append]; show ms.length + 1 ≤ _; omega⟩
        · obtain ⟨l, y, ms, rfl, e, hm, hn⟩ := hP
          exact ⟨t, _, _, _, ms, rfl, b0, by omega, e, hm, by omega⟩
      · have hm6 := e8 _ _ hm5
        have d1 : t / 7 ≤ t := Int.ediv_le_self _ b0
        have d0 : 0 ≤ t / 7 := Int.ediv_nonneg b0 (by omega)
        refine s_app hm6 (ev_var rfl) (ev_op (ev_int (ev_op (ev_op (ev_op (ev_var rfl) ev_c (rv_I (wide_div (b := 130) (by omega) (by omega) (by decide) (by decide)))) ev_c (rv_I (sm_mul (by unfold Sm; omega) (by unfold Sm; omega)))) (ev_var rfl) rv_I0)) ev_c (rv_I (by omega))) (by rw [List.length_map]; omega) fun H7 e9 => ?_
        exact ⟨t, _, _, _, ms ++ [_], rfl, b0, by omega, (e7.trans (e8.trans e9)).mut hR, by rw [upd_same, app], by rw [List.length_append]; show ms.length + 1 ≤ _; omega⟩
    · refine q_forR1 (n := 130) (ea_cons ev_c ea_nil) (by omega) (fun i σ' H' => Pl H a R (160 + i) σ' H') (fun H4 e4 => ?_) (fun i σ' H' hi hP => ?_) (fun σ' H' hP => ?_)
      · obtain ⟨s, y3, y4, y5, ms, rfl, s0, s1, e, hm, hn⟩ := hP.ex
        exact ⟨s, _, _, _, ms, rfl, s0, s1, e.trans e4, e4 _ _ hm, by omega⟩
      · obtain ⟨s, y3, y4, y5, ms, rfl, s0, s1, e, hm, hn⟩ := hP.ex
        refine q_asg (ev_op (ev_int (ev_op (ev_op (ev_op (ev_var rfl) ev_c (rv_I (sm_mul (by unfold Sm; omega) (by unfold Sm; omega)))) ev_c rv_I0) (ev_var rfl) rv_I0)) ev_c (rv_I (by omega))) fun H4 e4 => ?_
        have b0 : (0 : Int) ≤ (s * 40014 + 70001 + (i : Int)) % 2147483563 := Int.emod_nonneg _ (by omega)
        have b1 : (s * 40014 + 70001 + (i : Int)) % 2147483563 < 2147483563 := Int.emod_lt_of_pos _ (by omega)
        generalize (s * 40014 + 70001 + (i : Int)) % 2147483563 = t at b0 b1
        have d1 : t / 13 ≤ t := Int.ediv_le_self _ b0
        have d0 : 0 ≤ t / 13 := Int.ediv_nonneg b0 (by omega)
        have hdv : ∀ j : Int, 0 < j → j < 100 → CDivW t j := fun j h1 h2 => wide_div (b := 130) h1 (by omega) (by decide) (by decide)
        refine s_app (e4 _ _ hm) (ev_var rfl) (ev_op (ev_int (ev_op (ev_op (ev_op (ev_var rfl) ev_c (rv_I (hdv _ (by omega) (by omega)))) (ev_var rfl) (rv_I (sm_mul (by unfold Sm; omega) (by unfold Sm; omega)))) (ev_op (ev_var rfl) ev_c (rv_I (hdv _ (by omega) (by omega)))) rv_I0)) ev_c (rv_I (by omega))) (by rw [List.length_map]; omega) fun H7 e9 => ?_
        exact ⟨t, _, _, _, ms ++ [_], rfl, b0, by omega, (e.trans (e4.trans e9)).mut hR, by rw [upd_same, app], by rw [List.length_append]; show ms.length + 1 ≤ _; omega⟩
      · obtain ⟨s, y3, y4, y5, ms, rfl, s0, s1, e, hm, hn⟩ := hP.ex
        refine ⟨.ref R, rfl, R, _, rfl, sq_of hm, fun p hp => q p _ (fresh_back e hp) (e.trans (Ex.new hp)) ⟨ms.reverse, ?_⟩⟩
        rw [upd_same, List.map_reverse]
end
end K1
namespace K1
open PySem PySem.Spec PyProof.Rows L2 Evl
/-! ### the join of two joinings: one labelling alone is good -/
structure Good (F G : Nat → Nat) (m : Nat) (L : Nat → Nat) : Prop where
  e1 : ∀ p < m, L (F p) = L p
  e2 : ∀ p < m, L (G p) = L p
  le : ∀ p < m, L p ≤ p
  rel : ∀ h : Nat → Nat, (∀ p < m, h (F p) = h p) → (∀ p < m, h (G p) = h p) → ∀ p < m, h (L p) = h p
structure Half (F G : Nat → Nat) (m : Nat) (L : Nat → Nat) : Prop where
  le : ∀ p < m, L p ≤ p
  rel : ∀ h : Nat → Nat, (∀ p < m, h (F p) = h p) → (∀ p < m, h (G p) = h p) → ∀ p < m, h (L p) = h p
theorem Good.above {F G L D : Nat → Nat} {m : Nat} (g : Good F G m L) (d : Half F G m D) : ∀ p < m, L p ≤ D p := fun p hp => by
  have e := d.rel L g.e1 g.e2 p hp
  have l := g.le (D p) (Nat.lt_of_le_of_lt (d.le p hp) hp)
  omega
theorem Good.half {F G L : Nat → Nat} {m : Nat} (g : Good F G m L) : Half F G m L := ⟨g.le, g.rel⟩
theorem Good.uniq {F G L L' : Nat → Nat} {m : Nat} (g : Good F G m L) (g' : Good F G m L') : ∀ p < m, L p = L' p := fun p hp => by
  have a := g.above g'.half p hp
  have b := g'.above g.half p hp
  omega
theorem Good.symm {F G L : Nat → Nat} {m : Nat} (g : Good F G m L) : Good G F m L := ⟨g.e2, g.e1, g.le, fun h h1 h2 => g.rel h h2 h1⟩
theorem list_ext {a b : List Nat} {m : Nat} (ha : a.length = m) (hb : b.length = m) (h : ∀ p < m, a.getD p 0 = b.getD p 0) : a = b := by
  refine List.ext_getElem? fun i => ?_
  by_cases hi : i < m
  · rw [getD_at (by omega), getD_at (by omega), h i hi]
  · rw [List.getElem?_eq_none (by omega), List.getElem?_eq_none (by omega)]
theorem jl_at {f : List Nat} (jf : JL f) {p : Nat} (hp : p < f.length) : f.getD p 0 ≤ p ∧ f.getD (f.getD p 0) 0 = f.getD p 0 := by
  obtain ⟨h1, h2⟩ := jf p _ (getD_at hp)
  refine ⟨h1, ?_⟩
  have e := getD_at (l := f) (p := f.getD p 0) (by omega)
  rw [e] at h2
  exact Option.some.inj h2
theorem jwStep_at (g l : List Nat) (p x : Nat) (hx : x < l.length) : (jwStep g l p).getD x 0 = if l.getD x 0 = max (l.getD p 0) (l.getD (g.getD p 0) 0) then min (l.getD p 0) (l.getD (g.getD p 0) 0) else l.getD x 0 := by
  unfold jwStep
  rw [List.getD_eq_getElem?_getD, List.getElem?_map, getD_at hx]
  rfl
theorem jw_good {f g : List Nat} {m : Nat} (jf : JL f) (jg : JL g) (lf : f.length = m) (lg : g.length = m) : Good (fun p => f.getD p 0) (fun p => g.getD p 0) m (fun p => (jwTo f g m).getD p 0) := by
  have inv : ∀ n, n ≤ m → Half (fun p => f.getD p 0) (fun p => g.getD p 0) m (fun p => (jwTo f g n).getD p 0) ∧ (∀ p < m, (jwTo f g n).getD (f.getD p 0) 0 = (jwTo f g n).getD p 0) ∧ (∀ p < n, (jwTo f g n).getD (g.getD p 0) 0 = (jwTo f g n).getD p 0) := by
    intro n
    induction n with
    | zero =>
      intro _
      exact ⟨⟨fun p hp => (jl_at jf (by omega)).1, fun h h1 h2 p hp => h1 p hp⟩, fun p hp => (jl_at jf (by omega)).2, fun p hp => absurd hp (Nat.not_lt_zero _)⟩
    | succ n ih =>
      intro hn
      obtain ⟨ha, hb, hc⟩ := ih (by omega)
      have ll := jwTo_len f g n
      have at_ : ∀ x < m, (jwTo f g (n + 1)).getD x 0 = if (jwTo f g n).getD x 0 = max ((jwTo f g n).getD n 0) ((jwTo f g n).getD (g.getD n 0) 0) then min ((jwTo f g n).getD n 0) ((jwTo f g n).getD (g.getD n 0) 0) else (jwTo f g n).getD x 0 := fun x hx => by
        rw [jwTo_succ]
        exact jwStep_at g _ n x (by omega)
      have gn := (jl_at jg (p := n) (by omega)).1
      refine ⟨⟨fun p hp => ?_, fun h h1 h2 p hp => ?_⟩, fun p hp => ?_, fun p hp => ?_⟩
      · have l := ha.le p hp
        show (jwTo f g (n + 1)).getD p 0 ≤ p
        rw [at_ p hp]
        have l' : (jwTo f g n).getD p 0 ≤ p := l
        split <;> omega
      · show h ((jwTo f g (n + 1)).getD p 0) = h p
        have r1 : h ((jwTo f g n).getD n 0) = h n := ha.rel h h1 h2 n (by omega)
        have r2 : h ((jwTo f g n).getD (g.getD n 0) 0) = h (g.getD n 0) := ha.rel h h1 h2 (g.getD n 0) (by omega)
        have r3 : h (g.getD n 0) = h n := h2 n (by omega)
        have r4 : h ((jwTo f g n).getD p 0) = h p := ha.rel h h1 h2 p hp
        rw [at_ p hp]
        split
        · rename_i z
          rw [z] at r4
          rcases Nat.le_total ((jwTo f g n).getD n 0) ((jwTo f g n).getD (g.getD n 0) 0) with y | y
          · rw [Nat.max_eq_right y] at r4
            rw [Nat.min_eq_left y]
            omega
          · rw [Nat.max_eq_left y] at r4
            rw [Nat.min_eq_right y]
            omega
        · exact r4
      · have fp := (jl_at jf (p := p) (by omega)).1
        rw [at_ p hp, at_ _ (by omega), hb p hp]
      · have gp := (jl_at jg (p := p) (by omega)).1
        rw [at_ p (by omega), at_ _ (by omega)]
        by_cases hpn : p < n
        · rw [hc p hpn]
        · have e : p = n := by omega
          subst e
          split <;> split <;> omega
  obtain ⟨ha, hb, hc⟩ := inv m (Nat.le_refl _)
  exact ⟨hb, hc, ha.le, ha.rel⟩
theorem jw_symm {f g : List Nat} {m : Nat} (jf : JL f) (jg : JL g) (lf : f.length = m) (lg : g.length = m) : jwTo g f m = jwTo f g m :=
  list_ext (by rw [jwTo_len]; exact lg) (by rw [jwTo_len]; exact lf) fun p hp => (jw_good jg jf lg lf).symm.uniq (jw_good jf jg lf lg) p hp
/-! ### the least label is handed on, lap by lap -/
def dLow (f g d : List Nat) (p : Nat) : Nat := min (min (d.getD p 0) (d.getD (g.getD p 0) 0)) (d.getD (f.getD p 0) 0)
def dStep (f g d : List Nat) (p : Nat) : List Nat := ((d.set (f.getD p 0) (dLow f g d p)).set (g.getD p 0) (dLow f g d p)).set p (dLow f g d p)
def dLap (f g d : List Nat) (n : Nat) : List Nat := (List.range n).foldl (dStep f g) d
def dTo (f g : List Nat) (m : Nat) : Nat → List Nat
  | 0 => f
  | k + 1 => dLap f g (dTo f g m k) m
theorem dLap_succ (f g d : List Nat) (n : Nat) : dLap f g d (n + 1) = dStep f g (dLap f g d n) n := by
  unfold dLap
  rw [List.range_succ, List.foldl_append]
  rfl
theorem dStep_len (f g d : List Nat) (p : Nat) : (dStep f g d p).length = d.length := by
  unfold dStep
  rw [List.length_set, List.length_set, List.length_set]
theorem dLap_len (f g d : List Nat) : ∀ n, (dLap f g d n).length = d.length
  | 0 => rfl
  | n + 1 => by
    rw [dLap_succ, dStep_len]
    exact dLap_len f g d n
theorem dTo_len (f g : List Nat) (m : Nat) : ∀ k, (dTo f g m k).length = f.length
  | 0 => rfl
  | k + 1 => by
    show (dLap f g (dTo f g m k) m).length = _
    rw [dLap_len]
    exact dTo_len f g m k
theorem set_at (l : List Nat) (i v x : Nat) (hx : x < l.length) : (l.set i v).getD x 0 = if x = i then v else l.getD x 0 := by
  rw [List.getD_eq_getElem?_getD, List.getElem?_set]
  by_cases h : x = i
  · subst h
    rw [if_pos rfl, if_pos hx, if_pos rfl]
    rfl
  · rw [if_neg (fun e => h e.symm), if_neg h, List.getD_eq_getElem?_getD]
theorem dStep_at (f g d : List Nat) (p x : Nat) (hx : x < d.length) : (dStep f g d p).getD x 0 = if x = p ∨ x = g.getD p 0 ∨ x = f.getD p 0 then dLow f g d p else d.getD x 0 := by
  unfold dStep
  rw [set_at _ _ _ _ (by rw [List.length_set, List.length_set]; exact hx), set_at _ _ _ _ (by rw [List.length_set]; exact hx), set_at _ _ _ _ hx]
  by_cases h1 : x = p
  · rw [if_pos h1, if_pos (.inl h1)]
  · rw [if_neg h1]
    by_cases h2 : x = g.getD p 0
    · rw [if_pos h2, if_pos (.inr (.inl h2))]
    · rw [if_neg h2]
      by_cases h3 : x = f.getD p 0
      · rw [if_pos h3, if_pos (.inr (.inr h3))]
      · rw [if_neg h3, if_neg (fun z => z.elim h1 fun z => z.elim h2 h3)]
section
variable {f g : List Nat} {m : Nat}
theorem dStep_half (jf : JL f) (jg : JL g) (lf : f.length = m) (lg : g.length = m) {d : List Nat} (ld : d.length = m) (h : Half (fun p => f.getD p 0) (fun p => g.getD p 0) m (fun p => d.getD p 0)) {p : Nat} (hp : p < m) :
    Half (fun p => f.getD p 0) (fun p => g.getD p 0) m (fun x => (dStep f g d p).getD x 0) ∧ ∀ x < m, (dStep f g d p).getD x 0 ≤ d.getD x 0 := by
  have fp := (jl_at jf (p := p) (by omega)).1
  have gp := (jl_at jg (p := p) (by omega)).1
  have l1 : dLow f g d p ≤ d.getD p 0 := by unfold dLow; omega
  have l2 : dLow f g d p ≤ d.getD (g.getD p 0) 0 := by unfold dLow; omega
  have l3 : dLow f g d p ≤ d.getD (f.getD p 0) 0 := by unfold dLow; omega
  have down : ∀ x < m, (dStep f g d p).getD x 0 ≤ d.getD x 0 := fun x hx => by
    rw [dStep_at f g d p x (by omega)]
    split
    · rename_i z
      rcases z with z | z | z <;> subst z <;> assumption
    · exact Nat.le_refl _
  refine ⟨⟨fun x hx => Nat.le_trans (down x hx) (h.le x hx), fun q h1 h2 x hx => ?_⟩, down⟩
  show q ((dStep f g d p).getD x 0) = q x
  have r1 : q (d.getD p 0) = q p := h.rel q h1 h2 p hp
  have r2 : q (d.getD (g.getD p 0) 0) = q (g.getD p 0) := h.rel q h1 h2 _ (by show g.getD p 0 < m; omega)
  have r3 : q (d.getD (f.getD p 0) 0) = q (f.getD p 0) := h.rel q h1 h2 _ (by show f.getD p 0 < m; omega)
  have r4 : q (g.getD p 0) = q p := h2 p hp
  have r5 : q (f.getD p 0) = q p := h1 p hp
  have r6 : q (dLow f g d p) = q p := by
    unfold dLow
    rcases Nat.le_total (min (d.getD p 0) (d.getD (g.getD p 0) 0)) (d.getD (f.getD p 0) 0) with y | y
    · rw [Nat.min_eq_left y]
      rcases Nat.le_total (d.getD p 0) (d.getD (g.getD p 0) 0) with y | y
      · rw [Nat.min_eq_left y]
        exact r1
      · rw [Nat.min_eq_right y]
        omega
    · rw [Nat.min_eq_right y]
      omega
  rw [dStep_at f g d p x (by omega)]
  split
  · rename_i z
    rcases z with z | z | z
    · rw [z]
      exact r6
    · rw [z]
      omega
    · rw [z]
      omega
  · exact h.rel q h1 h2 x hx
/-- x is p or one of its two mates -/
def Nr (f g : List Nat) (p x : Nat) : Prop := x = p ∨ x = g.getD p 0 ∨ x = f.getD p 0
theorem dLap_half (jf : JL f) (jg : JL g) (lf : f.length = m) (lg : g.length = m) {d : List Nat} (ld : d.length = m) (h : Half (fun p => f.getD p 0) (fun p => g.getD p 0) m (fun p => d.getD p 0)) {L : Nat → Nat} (gL : Good (fun p => f.getD p 0) (fun p => g.getD p 0) m L) :
    ∀ n, n ≤ m → Half (fun p => f.getD p 0) (fun p => g.getD p 0) m (fun x => (dLap f g d n).getD x 0) ∧ (∀ x < m, (dLap f g d n).getD x 0 ≤ d.getD x 0) ∧ ∀ p < n, ∀ u, Nr f g p u → d.getD u 0 = L u → ∀ v, Nr f g p v → (dLap f g d n).getD v 0 = L v := by
  intro n
  induction n with
  | zero => exact fun _ => ⟨h, fun x _ => Nat.le_refl _, fun p hp => absurd hp (Nat.not_lt_zero _)⟩
  | succ n ih =>
    intro hn
    obtain ⟨ha, hb, hc⟩ := ih (by omega)
    have ln : (dLap f g d n).length = m := by rw [dLap_len]; exact ld
    obtain ⟨ha2, hb2⟩ := dStep_half jf jg lf lg ln ha (p := n) (by omega)
    rw [dLap_succ]
    refine ⟨ha2, fun x hx => Nat.le_trans (hb2 x hx) (hb x hx), fun p hp u hu hdu v hv => ?_⟩
    have fp := (jl_at jf (p := p) (by omega)).1
    have gp := (jl_at jg (p := p) (by omega)).1
    have lt : ∀ x, Nr f g p x → x < m := fun x hx => by rcases hx with z | z | z <;> omega
    have same : ∀ x, Nr f g p x → L x = L p := fun x hx => by
      rcases hx with z | z | z
      · rw [z]
      · rw [z]
        exact gL.e2 p (by omega)
      · rw [z]
        exact gL.e1 p (by omega)
    have ab := gL.above ha2 v (lt v hv)
    have ab' : L v ≤ (dStep f g (dLap f g d n) n).getD v 0 := ab
    by_cases hpn : p < n
    · have e := hc p hpn u hu hdu v hv
      have l := hb2 v (lt v hv)
      omega
    · have e : p = n := by omega
      subst e
      have l1 : dLow f g (dLap f g d p) p ≤ (dLap f g d p).getD u 0 := by
        unfold dLow
        rcases hu with z | z | z <;> subst z <;> omega
      have l2 := hb u (lt u hu)
      have s1 := same u hu
      have s2 := same v hv
      have hv' : v = p ∨ v = g.getD p 0 ∨ v = f.getD p 0 := hv
      rw [dStep_at f g _ p v (by have := lt v hv; omega), if_pos hv'] at ab' ⊢
      omega
/-! counting -/
def cnt (P : Nat → Bool) : Nat → Nat
  | 0 => 0
  | n + 1 => cnt P n + if P n = true then 1 else 0
theorem cnt_self (P : Nat → Bool) : ∀ n, cnt P n ≤ n
  | 0 => Nat.le_refl _
  | n + 1 => by
    have := cnt_self P n
    show cnt P n + (if P n = true then 1 else 0) ≤ n + 1
    split <;> omega
theorem cnt_le {P Q : Nat → Bool} : ∀ {n}, (∀ x < n, P x = true → Q x = true) → cnt P n ≤ cnt Q n
  | 0, _ => Nat.le_refl _
  | n + 1, h => by
    have i := cnt_le (n := n) fun x hx => h x (by omega)
    have t := h n (by omega)
    show cnt P n + (if P n = true then 1 else 0) ≤ cnt Q n + if Q n = true then 1 else 0
    by_cases z : P n = true
    · rw [if_pos z, if_pos (t z)]
      omega
    · rw [if_neg z]
      omega
theorem cnt_lt {P Q : Nat → Bool} : ∀ {n}, (∀ x < n, P x = true → Q x = true) → (∃ v < n, Q v = true ∧ P v = false) → cnt P n < cnt Q n
  | 0, _, ⟨v, hv, _⟩ => absurd hv (Nat.not_lt_zero _)
  | n + 1, h, ⟨v, hv, q, p⟩ => by
    have t := h n (by omega)
    show cnt P n + (if P n = true then 1 else 0) < cnt Q n + if Q n = true then 1 else 0
    by_cases e : v = n
    · subst e
      have i := cnt_le (n := v) fun x hx => h x (by omega)
      rw [p, if_pos q, if_neg (by decide)]
      omega
    · have i := cnt_lt (n := n) (fun x hx => h x (by omega)) ⟨v, by omega, q, p⟩
      by_cases z : P n = true
      · rw [if_pos z, if_pos (t z)]
        omega
      · rw [if_neg z]
        omega
theorem cnt_zero {P : Nat → Bool} : ∀ {n}, cnt P n = 0 → ∀ x < n, P x = false
  | 0, _ => fun x hx => absurd hx (Nat.not_lt_zero _)
  | n + 1, h => fun x hx => by
    have h' : cnt P n + (if P n = true then 1 else 0) = 0 := h
    cases z : P n with
    | true =>
      rw [z, if_pos rfl] at h'
      omega
    | false =>
      by_cases e : x = n
      · rw [e]
        exact z
      · exact cnt_zero (n := n) (by omega) x (by omega)
theorem due_is (jf : JL f) (jg : JL g) (lf : f.length = m) (lg : g.length = m) : dTo f g m m = jwTo f g m := by
  have gL := jw_good jf jg lf lg
  generalize hL : (fun p => (jwTo f g m).getD p 0) = L at gL
  have inv : ∀ k, Half (fun p => f.getD p 0) (fun p => g.getD p 0) m (fun p => (dTo f g m k).getD p 0) ∧ cnt (fun p => !decide ((dTo f g m k).getD p 0 = L p)) m ≤ m - k := by
    intro k
    induction k with
    | zero => exact ⟨⟨fun p hp => (jl_at jf (by omega)).1, fun h h1 h2 p hp => h1 p hp⟩, cnt_self _ _⟩
    | succ k ih =>
      obtain ⟨ha, hb⟩ := ih
      have ld : (dTo f g m k).length = m := by rw [dTo_len]; exact lf
      obtain ⟨ha2, hb2, hc2⟩ := dLap_half jf jg lf lg ld ha gL m (Nat.le_refl _)
      refine ⟨ha2, ?_⟩
      have keep : ∀ x < m, (!decide ((dTo f g m (k + 1)).getD x 0 = L x)) = true → (!decide ((dTo f g m k).getD x 0 = L x)) = true := fun x hx z => by
        rw [Bool.not_eq_true'] at z ⊢
        have z' := of_decide_eq_false z
        refine decide_eq_false fun y => z' ?_
        have a := gL.above ha2 x hx
        have b := hb2 x hx
        show (dLap f g (dTo f g m k) m).getD x 0 = L x
        have a' : L x ≤ (dLap f g (dTo f g m k) m).getD x 0 := a
        omega
      by_cases z : ∃ x < m, (dTo f g m k).getD x 0 ≠ L x
      · obtain ⟨x, hx, hne⟩ := z
        -- somewhere a right one is near a wrong one
        have edge : ∃ p < m, ∃ u v, Nr f g p u ∧ Nr f g p v ∧ (dTo f g m k).getD u 0 = L u ∧ (dTo f g m k).getD v 0 ≠ L v := by
          refine Classical.byContradiction fun no => hne ?_
          have same : ∀ p < m, ∀ u v, Nr f g p u → Nr f g p v → (dTo f g m k).getD u 0 = L u → (dTo f g m k).getD v 0 = L v := fun p hp u v hu hv e =>
            Classical.byContradiction fun y => no ⟨p, hp, u, v, hu, hv, e, y⟩
          have e := gL.rel (fun u => if (dTo f g m k).getD u 0 = L u then 1 else 0) (fun p hp => by
              show (if (dTo f g m k).getD (f.getD p 0) 0 = L (f.getD p 0) then 1 else 0) = if (dTo f g m k).getD p 0 = L p then 1 else 0
              by_cases y : (dTo f g m k).getD p 0 = L p
              · rw [if_pos y, if_pos (same p hp p _ (.inl rfl) (.inr (.inr rfl)) y)]
              · rw [if_neg y, if_neg (fun y' => y (same p hp _ p (.inr (.inr rfl)) (.inl rfl) y'))])
            (fun p hp => by
              show (if (dTo f g m k).getD (g.getD p 0) 0 = L (g.getD p 0) then 1 else 0) = if (dTo f g m k).getD p 0 = L p then 1 else 0
              by_cases y : (dTo f g m k).getD p 0 = L p
              · rw [if_pos y, if_pos (same p hp p _ (.inl rfl) (.inr (.inl rfl)) y)]
              · rw [if_neg y, if_neg (fun y' => y (same p hp _ p (.inr (.inl rfl)) (.inl rfl) y'))]) x hx
          have lx := gL.le x hx
          have r := gL.rel L gL.e1 gL.e2 x hx
          have a := gL.above ha (L x) (by omega)
          have b := ha.le (L x) (by omega)
          have e' : (if (dTo f g m k).getD (L x) 0 = L (L x) then 1 else 0) = if (dTo f g m k).getD x 0 = L x then 1 else 0 := e
          have a' : L (L x) ≤ (dTo f g m k).getD (L x) 0 := a
          have b' : (dTo f g m k).getD (L x) 0 ≤ L x := b
          rw [if_pos (by omega)] at e'
          refine Classical.byContradiction fun y => ?_
          rw [if_neg y] at e'
          cases e'
        obtain ⟨p, hp, u, v, hu, hv, eu, ev⟩ := edge
        have fp := (jl_at jf (p := p) (by omega)).1
        have gp := (jl_at jg (p := p) (by omega)).1
        have lv : v < m := by rcases hv with z | z | z <;> omega
        have := cnt_lt keep ⟨v, lv, by rw [Bool.not_eq_true']; exact decide_eq_false ev, by
          rw [Bool.not_eq_false']
          exact decide_eq_true (hc2 p hp u hu eu v hv)⟩
        omega
      · have all : ∀ x < m, (!decide ((dTo f g m (k + 1)).getD x 0 = L x)) = true → (fun _ => false) x = true := fun x hx y => by
          have y' := keep x hx y
          rw [Bool.not_eq_true'] at y'
          exact absurd ⟨x, hx, of_decide_eq_false y'⟩ z
        have c := cnt_le all
        have c0 : ∀ n, cnt (fun _ => false) n = 0 := fun n => by
          induction n with
          | zero => rfl
          | succ n ih =>
            show cnt (fun _ => false) n + (if false = true then 1 else 0) = 0
            rw [ih, if_neg (by decide)]
        rw [c0] at c
        omega
  obtain ⟨_, hb⟩ := inv m
  refine list_ext (m := m) (by rw [dTo_len]; exact lf) (by rw [jwTo_len]; exact lf) fun p hp => ?_
  have hb0 : cnt (fun p => !decide ((dTo f g m m).getD p 0 = L p)) m = 0 := by omega
  have z := cnt_zero hb0 p hp
  rw [Bool.not_eq_false'] at z
  have z' := of_decide_eq_true z
  rw [z', ← hL]
end
end K1
namespace K1
open PySem PySem.Spec PyProof.Rows L2 Evl
section
variable {P : Program} {w : World} {K : PySem.W.Frag} {mg : Str → Option Value} {base : Heap} {C fI cW cL cP : Addr}
section
variable {σ : L2.St} {H : Hp} {t1 t2 t3 : TE}
theorem eu_callR {n : Nat} {sp : Sp} {E : XK} {tk : TA} {vs xs : List V} (h : EvA tk σ H vs) (hn : vs.length = n) (hs : SpU sp vs.reverse H xs) : EvU (tCallR n sp E tk) σ H xs := fun H1 e1 Q q =>
  h H1 e1 _ fun H2 e2 => ⟨hn, hs H2 (e1.trans e2) Q (fun p H3 hp e3 hx => q p H3 (fresh_back e2 hp) (e2.trans e3) hx) E⟩
theorem nu_min2 (a b : Nat) : nuMin2 (.int (a : Int)) (.int (b : Int)) = some (.int ((min a b : Nat) : Int)) := by
  show some (if decide ((b : Int) < (a : Int)) = true then V.int (b : Int) else V.int (a : Int)) = _
  by_cases h : (b : Int) < (a : Int)
  · rw [decide_eq_true h, if_pos rfl]
    congr 2
    omega
  · rw [decide_eq_false h, if_neg (by decide)]
    congr 2
    omega
theorem ev_min3 {a b c : Nat} (h1 : Ev t1 σ H (.int (a : Int))) (h2 : Ev t2 σ H (.int (b : Int))) (h3 : Ev t3 σ H (.int (c : Int))) : Ev (tCB (rNuC3 nuMin3) (tCons t1 (tCons t2 (tCons t3 tNil)))) σ H (.int ((min (min a b) c : Nat) : Int)) :=
  ev_cb (ea_cons h1 (ea_cons h2 (ea_cons h3 ea_nil))) fun H1 e1 Q q => ⟨_, _, _, _, rfl, by
    show (nuMin2 (.int (a : Int)) (.int (b : Int))).bind (fun m => nuMin2 m (.int (c : Int))) = _
    rw [nu_min2]
    exact nu_min2 _ _, q H1 (Ex.refl _)⟩
theorem ev_row {v : V} {q : Addr} {l : List Nat} {E : XK} (h1 : Ev t1 σ H v) (h2 : Ev t2 σ H (.ref q)) (hd : Dp K H v (dTup l)) (hq : SqL K H q (l.map nV) ∨ SqT K H q (l.map nV)) (hl : l.length ≤ 40000) :
    Ev (tCall (spRow K) [] E (tCons t1 (tCons t2 tNil))) σ H (.bl true) :=
  ev_call (ea_cons h1 (ea_cons h2 ea_nil)) fun H1 e1 Q k E' => ⟨v, q, l, rfl, dp_mono e1 _ _ hd, hq.imp (ex_l e1) (ex_t e1), hl, k⟩
theorem ev_rowU {q : Addr} {l : List Nat} {E : XK} (h1 : EvU t1 σ H (l.map nV)) (h2 : Ev t2 σ H (.ref q)) (hq : SqL K H q (l.map nV) ∨ SqT K H q (l.map nV)) (hl : l.length ≤ 40000) :
    Ev (tCall (spRow K) [] E (tCons t1 (tCons t2 tNil))) σ H (.bl true) := fun H1 e1 Q k =>
  h1 H1 e1 _ fun p H2 hp e2 hx => h2 H2 (e1.trans e2) _ fun H3 e3 =>
    ⟨.ref p, q, l, rfl, dTup_of (st_of (e3 _ _ hx)), hq.imp (ex_l (e1.trans (e2.trans e3))) (ex_t (e1.trans (e2.trans e3))), hl, fun H4 e4 => k H4 (e2.trans (e3.trans e4))⟩
theorem spu_joined {m : Nat} {p r : Addr} {f g : List Nat} (hm : m ≤ 1000) (hp : SqT K H p (f.map nV)) (hr : SqT K H r (g.map nV)) (jf : JL f) (jg : JL g) (lf : f.length = m) (lg : g.length = m) :
    SpU (spJoinedWith K C) [.int (m : Int), .ref p, .ref r] H ((jwTo f g m).map nV) := fun H1 e1 Q q E' => by
  have h1 := isJ_of jf
  have h2 := isJ_of jg
  rw [lf] at h1
  rw [lg] at h2
  exact ⟨m, .ref p, .ref r, dTup f, dTup g, rfl, hm, dTup_of (ex_t e1 hp), dTup_of (ex_t e1 hr), fun h => (by rw [h1] at h; cases h), fun _ h => (by rw [h2] at h; cases h), fun _ _ => ⟨f, g, rfl, rfl, q⟩⟩
end
/-! ### _law_both -/
def spBoth (K : PySem.W.Frag) : Sp := fun vs H Q _ => ∃ (m : Nat) (p r : Addr) (f g : List Nat), vs = [.int (m : Int), .ref p, .ref r] ∧ m ≤ 1000 ∧ SqT K H p (f.map nV) ∧ SqT K H r (g.map nV) ∧ JL f ∧ JL g ∧ f.length = m ∧ g.length = m ∧ RetV (.bl true) H Q
theorem ok_both (B : Blt mg) (D : Dfn K mg "_law_both" s_law_both) (G_law_row : Cal P w K mg base CX0 2 "_law_row" ["_law_got", "_law_due"] (spRow K)) (G_joined_with : Cal P w K mg base (L2N.CX P w) 4 "joined_with" ["many", "joining", "other"] (spJoinedWith K C))
    (K_joined_with : CalK P w K mg base (L2N.CX P w) 4 "joined_with" ["many", "joining", "other"] ["other", "joining", "many"] (spJoinedWith K C)) : Cal P w K mg base CX0 5 "_law_both" ["_law_m", "_law_first", "_law_second"] (spBoth K) := by
  refine mkCal D (fun _ _ _ _ _ _ us hl => match us, hl with | [_, _, _], _ => rfl) fun f fd F => ?_
  refine F.ok sc_law_both (fun vs H Q E h => ?_) (fun cdv A outer s H vs Q E hr h => ?_)
  · obtain ⟨m, p, r, f, g, rfl, _⟩ := h
    rfl
  · obtain ⟨m, p, r, f, g, rfl, hm, hp, hq, jf, jg, lf, lg, q⟩ := h
    refine ⟨_, ((pss_cons (ps_set (i := 3) sc_law_both.nd rfl (.inl rfl) (pe_callTy call_list_of (by rfl) B.b_list bt_list (pa_cons (pv 1) pa_nil)))
      (pss_cons (ps_for PassesOwn.never rfl (pi_range1 (by rfl) B.b_range (pa_cons (pv 0) pa_nil)) (pg_name (i := 4) sc_law_both.nd rfl (.inl rfl)) (pss_one (ps_for PassesOwn.never rfl (pi_range1 (by rfl) B.b_range (pa_cons (pv 0) pa_nil)) (pg_name (i := 5) sc_law_both.nd rfl (.inl rfl)) (pss_cons (ps_set (i := 6) sc_law_both.nd rfl (.inl rfl) (pe_callB (call_min3Nu rfl) (by rfl) B.b_min bt_min (pa_cons (pe_ix ix_list (pv 3) (pv 5) (fun _ _ => rfl)) (pa_cons (pe_ix ix_list (pv 3) (pe_ix ix_tup (pv 2) (pv 5) (fun _ _ => rfl)) (fun _ _ => rfl)) (pa_cons (pe_ix ix_list (pv 3) (pe_ix ix_tup (pv 1) (pv 5) (fun _ _ => rfl)) (fun _ _ => rfl)) pa_nil)))))
      (pss_cons (ps_asg (pv 6) (pg_sub (pv 3) (pe_ix ix_tup (pv 1) (pv 5) (fun _ _ => rfl)) set_list))
      (pss_cons (ps_asg (pv 6) (pg_sub (pv 3) (pe_ix ix_tup (pv 2) (pv 5) (fun _ _ => rfl)) set_list))
      (pss_one (ps_asg (pv 6) (pg_sub (pv 3) (pv 5) set_list)))))))))
      (pss_cons (ps_set (i := 7) sc_law_both.nd rfl (.inl rfl) (pcal G_joined_with hr passN (pa_cons (pv 0) (pa_cons (pv 1) (pa_cons (pv 2) pa_nil)))))
      (pss_one (ps_ret (pe_and (pcal G_law_row hr pass0 (pa_cons (pv 7) (pa_cons (pv 3) pa_nil))) (pe_one (pcal G_law_row hr pass0 (pa_cons (pcalR K_joined_with hr passN (pk_cons (pv 1) (pk_cons (pv 2) (pk_cons (pv 0) pk_nil)))) (pa_cons (pv 3) pa_nil))))))))))), ?_⟩
    refine q_asgL (el_listT (ev_var rfl) hp) fun R H1 hR e1 h1 => ?_
    refine q_forR1 (n := (m : Int)) (ea_cons (ev_var rfl) ea_nil) (by omega) (fun k σ' H' => ∃ (y4 y5 y6 : Option V), σ' = [some (.int (m : Int)), some (.ref p), some (.ref r), some (.ref R), y4, y5, y6, none] ∧ Ex H H' ∧ H' R = some (.lst ((dTo f g m k).map nV)))
      (fun H2 e2 => ⟨none, none, none, rfl, e1.trans e2, e2 _ _ h1⟩) (fun k σ' H' hk hP => ?_) (fun σ' H' hP => ?_)
    · obtain ⟨y4, y5, y6, rfl, e, hx⟩ := hP
      refine s_forR1 (n := (m : Int)) (ea_cons (ev_var rfl) ea_nil) (by omega) (fun i σ' H' => ∃ (y5 y6 : Option V), σ' = [some (.int (m : Int)), some (.ref p), some (.ref r), some (.ref R), some (.int (k : Int)), y5, y6, none] ∧ Ex H H' ∧ H' R = some (.lst ((dLap f g (dTo f g m k) i).map nV)))
        (fun H2 e2 => ⟨y5, y6, rfl, e.trans e2, e2 _ _ hx⟩) (fun i σ' H' hi hP => ?_) (fun σ' H' hP => ?_)
      · obtain ⟨y5, y6, rfl, e, hx⟩ := hP
        have him : i < m := by omega
        have ld : (dLap f g (dTo f g m k) i).length = m := by rw [dLap_len, dTo_len]; exact lf
        have fi : f.getD i 0 < m := by have := jl_bound jf (p := i) (by omega); omega
        have gi : g.getD i 0 < m := by have := jl_bound jg (p := i) (by omega); omega
        rw [dLap_succ]
        generalize hd : dLap f g (dTo f g m k) i = d at hx ld
        have vf : ∀ {σ : L2.St} {H1 : Hp} {t1 t2 : TE}, Ex H H1 → Ev t1 σ H1 (.ref p) → Ev t2 σ H1 (.int (i : Int)) → Ev (tOp (rIxT K) t1 t2) σ H1 (.int ((f.getD i 0 : Nat) : Int)) := fun e h1 h2 => ev_op h1 h2 (rv_ixT (ex_t e hp) (atI_nat (map_nV_at (by omega))))
        have vg : ∀ {σ : L2.St} {H1 : Hp} {t1 t2 : TE}, Ex H H1 → Ev t1 σ H1 (.ref r) → Ev t2 σ H1 (.int (i : Int)) → Ev (tOp (rIxT K) t1 t2) σ H1 (.int ((g.getD i 0 : Nat) : Int)) := fun e h1 h2 => ev_op h1 h2 (rv_ixT (ex_t e hq) (atI_nat (map_nV_at (by omega))))
        refine q_asg (ev_min3 (ev_op (ev_var rfl) (ev_var rfl) (rv_ixL (sq_of hx) (atI_nat (map_nV_at (p := i) (by omega))))) (ev_op (ev_var rfl) (vg e (ev_var rfl) (ev_var rfl)) (rv_ixL (sq_of hx) (atI_nat (map_nV_at (by omega)))))
          (ev_op (ev_var rfl) (vf e (ev_var rfl) (ev_var rfl)) (rv_ixL (sq_of hx) (atI_nat (map_nV_at (by omega)))))) fun H2 e2 => ?_
        have ea := e.trans e2
        refine q_setL (e2 _ _ hx) (ev_var rfl) (ev_var rfl) (vf ea (ev_var rfl) (ev_var rfl)) (by rw [List.length_map]; omega) fun H3 e3 => ?_
        have eb := (ea.trans e3).mut (o := .lst ((d.map nV).set (f.getD i 0) (nV (dLow f g d i)))) hR
        refine q_setL (xs := (d.map nV).set (f.getD i 0) (nV (dLow f g d i))) upd_same (ev_var rfl) (ev_var rfl) (vg eb (ev_var rfl) (ev_var rfl)) (by rw [List.length_set, List.length_map]; omega) fun H4 e4 => ?_
        have ec := (eb.trans e4).mut (o := .lst (((d.map nV).set (f.getD i 0) (nV (dLow f g d i))).set (g.getD i 0) (nV (dLow f g d i)))) hR
        refine s_setL (xs := ((d.map nV).set (f.getD i 0) (nV (dLow f g d i))).set (g.getD i 0) (nV (dLow f g d i))) upd_same (ev_var rfl) (ev_var rfl) (ev_var rfl) (by rw [List.length_set, List.length_set, List.length_map]; omega) fun H5 e5 => ?_
        refine ⟨_, _, rfl, (ec.trans e5).mut hR, ?_⟩
        rw [upd_same]
        unfold dStep
        rw [List.map_set, List.map_set, List.map_set]
        rfl
      · obtain ⟨y5, y6, rfl, e, hx⟩ := hP
        exact ⟨_, _, _, rfl, e, hx⟩
    · obtain ⟨y4, y5, y6, rfl, e, hx⟩ := hP
      have hx' : H' R = some (.lst ((dTo f g m m).map nV)) := hx
      rw [due_is jf jg lf lg] at hx'
      have ll := jwTo_len f g m
      refine q_asgU (eu_call (ea_cons (ev_var rfl) (ea_cons (ev_var rfl) (ea_cons (ev_var rfl) ea_nil))) (spu_joined (by omega) (ex_t e hp) (ex_t e hq) jf jg lf lg)) fun t H2 ht e2 h2 => ?_
      have hx2 := e2 _ _ hx'
      have e3 := e.trans e2
      refine s_ret (ev_andV (ev_row (ev_var rfl) (ev_var rfl) (dTup_of (st_of h2)) (.inl (sq_of hx2)) (by omega)) fun _ => ev_rowU (eu_callR (ea_cons (ev_var rfl) (ea_cons (ev_var rfl) (ea_cons (ev_var rfl) ea_nil))) rfl ?_) (ev_var rfl) (.inl (sq_of hx2)) (by omega))
        fun H3 e4 => q H3 (e3.trans e4)
      have z := spu_joined (C := C) hm (ex_t e3 hq) (ex_t e3 hp) jg jf lg lf
      rw [jw_symm jf jg lf lg] at z
      exact z
end
end K1
namespace K1
open PySem PySem.Spec PyProof.Rows L2 Evl
/-! ### the lots of a joining, in any sequence -/
theorem asc_filter (P : Nat → Bool) (n : Nat) : ((List.range n).filter P).Pairwise (· < ·) := List.Pairwise.filter _ List.pairwise_lt_range
theorem lot_asc {m : Int} : ∀ {l : List Nat} {last : Int}, l.Pairwise (· < ·) → (∀ p ∈ l, last < (p : Int) ∧ (p : Int) < m) → lotFrom m last (l.map nI) = true
  | [], _, _, _ => rfl
  | p :: l, last, h, hb => by
    obtain ⟨h1, h2⟩ := List.pairwise_cons.mp h
    have b := hb p List.mem_cons_self
    show (decide (last < (p : Int)) && (decide ((p : Int) < m) && lotFrom m (p : Int) (l.map nI))) = true
    rw [decide_eq_true b.1, decide_eq_true b.2, lot_asc h2 fun q hq => ⟨by have := h1 q hq; omega, (hb q (List.mem_cons_of_mem _ hq)).2⟩]
    rfl
theorem markP_ok : ∀ {l : List Nat} {seen : List Bool}, l.Pairwise (· < ·) → (∀ p ∈ l, p < seen.length ∧ seen.getD p true = false) →
    ∃ s, markP seen (l.map nI) = some s ∧ s.length = seen.length ∧ ∀ x, s.getD x true = if x ∈ l ∧ x < seen.length then true else seen.getD x true
  | [], seen, _, _ => ⟨seen, rfl, rfl, fun x => by rw [if_neg (fun h => by cases h.1)]⟩
  | p :: l, seen, h, hb => by
    obtain ⟨h1, h2⟩ := List.pairwise_cons.mp h
    have b := hb p List.mem_cons_self
    obtain ⟨s, e1, e2, e3⟩ := markP_ok (l := l) (seen := seen.set p true) h2 fun q hq => by
      have c := hb q (List.mem_cons_of_mem _ hq)
      have n := h1 q hq
      refine ⟨by rw [List.length_set]; exact c.1, ?_⟩
      rw [List.getD_eq_getElem?_getD, List.getElem?_set_ne (by omega), ← List.getD_eq_getElem?_getD]
      exact c.2
    refine ⟨s, ?_, by rw [e2, List.length_set], fun x => ?_⟩
    · show (if seen.getD ((p : Nat) : Int).toNat true = true then none else markP (seen.set ((p : Nat) : Int).toNat true) (l.map nI)) = _
      rw [Int.toNat_natCast, b.2, if_neg (by decide), e1]
    · rw [e3 x, List.length_set]
      by_cases hx : x = p
      · subst hx
        rw [if_pos (c := x ∈ x :: l ∧ _) ⟨List.mem_cons_self, b.1⟩]
        split
        · rfl
        · rw [List.getD_eq_getElem?_getD, List.getElem?_set_self b.1]
          rfl
      · have e : (x ∈ p :: l ∧ x < seen.length) ↔ (x ∈ l ∧ x < seen.length) := by
          rw [List.mem_cons]
          exact ⟨fun h => ⟨h.1.resolve_left hx, h.2⟩, fun h => ⟨.inr h.1, h.2⟩⟩
        rw [List.getD_eq_getElem?_getD, List.getElem?_set_ne (fun e => hx e.symm), ← List.getD_eq_getElem?_getD]
        by_cases y : x ∈ l ∧ x < seen.length
        · rw [if_pos y, if_pos (e.mpr y)]
        · rw [if_neg y, if_neg (fun z => y (e.mp z))]
theorem areGo_ok {m : Nat} : ∀ {lots : List (List Nat)} {seen : List Bool}, seen.length = m → (∀ l ∈ lots, l.Pairwise (· < ·) ∧ l ≠ [] ∧ ∀ p ∈ l, p < m) → lots.Pairwise (fun a b => ∀ p ∈ a, p ∉ b) →
    (∀ l ∈ lots, ∀ p ∈ l, seen.getD p true = false) → (∀ p < m, seen.getD p true = true ∨ ∃ l ∈ lots, p ∈ l) → areGo (m : Int) seen (lots.map dTup) = true
  | [], seen, hl, _, _, _, hc => by
    show (!(seen.any fun b => !b)) = true
    rw [Bool.not_eq_true', List.any_eq_false]
    intro b hb
    obtain ⟨i, hi, e⟩ := List.getElem_of_mem hb
    have c := (hc i (by omega)).resolve_right fun ⟨l, hl, _⟩ => by cases hl
    rw [List.getD_eq_getElem?_getD, List.getElem?_eq_getElem hi, e] at c
    have c' : b = true := c
    rw [c']
    decide
  | l :: lots, seen, hl, h1, h2, h3, hc => by
    obtain ⟨a1, a2, a3⟩ := h1 l List.mem_cons_self
    obtain ⟨p1, p2⟩ := List.pairwise_cons.mp h2
    obtain ⟨s, e1, e2, e3⟩ := markP_ok (l := l) (seen := seen) a1 fun p hp => ⟨by have := a3 p hp; omega, h3 l List.mem_cons_self p hp⟩
    have lot : isLot (m : Int) (dTup l) = true := lot_asc (m := (m : Int)) (last := -1) a1 fun p hp => ⟨by omega, by have := a3 p hp; omega⟩
    have ne : (itemsD (dTup l)).isEmpty = false := by
      cases l with
      | nil => exact absurd rfl a2
      | cons _ _ => rfl
    show (if (isLot (m : Int) (dTup l) && !(itemsD (dTup l)).isEmpty) = true then (match markP seen (l.map nI) with | some s => areGo (m : Int) s (lots.map dTup) | none => false) else false) = true
    rw [lot, ne, e1, if_pos (by decide)]
    refine areGo_ok (by omega) (fun k hk => h1 k (List.mem_cons_of_mem _ hk)) p2 (fun k hk p hp => ?_) fun p hp => ?_
    · rw [e3 p, if_neg (fun z => p1 k hk p z.1 hp)]
      exact h3 k (List.mem_cons_of_mem _ hk) p hp
    · rw [e3 p]
      rcases hc p hp with z | ⟨k, hk, hpk⟩
      · left
        split
        · rfl
        · exact z
      · rcases List.mem_cons.mp hk with z | z
        · left
          subst z
          rw [if_pos ⟨hpk, by omega⟩]
        · exact .inr ⟨k, z, hpk⟩
theorem fill_at {f : List Nat} : ∀ {l J : List Nat} {x : Nat} {c : Nat}, x < J.length → (∀ p ∈ l, c = f.getD p 0) → (J.getD x 0 = f.getD x 0 ∨ x ∈ l) → (l.foldl (fun J p => J.set p c) J).getD x 0 = f.getD x 0
  | [], J, x, c, _, _, h => h.resolve_right fun z => by cases z
  | p :: l, J, x, c, hx, hc, h => by
    rw [List.foldl_cons]
    refine fill_at (by rw [List.length_set]; exact hx) (fun q hq => hc q (List.mem_cons_of_mem _ hq)) ?_
    rw [set_at _ _ _ _ hx]
    by_cases e : x = p
    · rw [if_pos e, e]
      exact .inl (hc p List.mem_cons_self)
    · rw [if_neg e]
      exact h.imp id fun z => (List.mem_cons.mp z).resolve_left e
theorem fills_at {f : List Nat} : ∀ {lots : List (List Nat)} {J : List Nat} {x : Nat}, x < J.length → (∀ l ∈ lots, ∀ p ∈ l, l.headD 0 = f.getD p 0) → (J.getD x 0 = f.getD x 0 ∨ ∃ l ∈ lots, x ∈ l) → (lots.foldl fillLot J).getD x 0 = f.getD x 0
  | [], J, x, _, _, h => h.resolve_right fun ⟨_, z, _⟩ => by cases z
  | l :: lots, J, x, hx, hc, h => by
    rw [List.foldl_cons]
    refine fills_at (by rw [fillLot, foldl_set_len]; exact hx) (fun q hq => hc q (List.mem_cons_of_mem _ hq)) ?_
    by_cases e : J.getD x 0 = f.getD x 0 ∨ x ∈ l
    · exact .inl (fill_at hx (hc l List.mem_cons_self) e)
    · obtain ⟨k, hk, hxk⟩ := h.resolve_left fun z => e (.inl z)
      rcases List.mem_cons.mp hk with z | z
      · subst z
        exact absurd (.inr hxk) e
      · exact .inr ⟨k, z, hxk⟩
theorem fills_len : ∀ (lots : List (List Nat)) (J : List Nat), (lots.foldl fillLot J).length = J.length
  | [], _ => rfl
  | l :: lots, J => by
    rw [List.foldl_cons, fills_len lots, fillLot, foldl_set_len]
/-- a sequence of the places 0 .. n - 1, and the way back -/
structure Prm (n : Nat) (a b : Nat → Nat) : Prop where
  la : ∀ i < n, a i < n
  lb : ∀ i < n, b i < n
  ab : ∀ i < n, a (b i) = i
  ba : ∀ i < n, b (a i) = i
def swp (p k i : Nat) : Nat := if i = p then k else if i = k then p else i
theorem swp_lt {n p k i : Nat} (hp : p < n) (hk : k < n) (hi : i < n) : swp p k i < n := by
  unfold swp
  split
  · exact hk
  · split
    · exact hp
    · exact hi
theorem swp_swp (p k i : Nat) : swp p k (swp p k i) = i := by
  unfold swp
  by_cases h1 : i = p
  · rw [if_pos h1]
    by_cases h2 : k = p
    · rw [if_pos h2]
      omega
    · rw [if_neg h2, if_pos rfl]
      exact h1.symm
  · rw [if_neg h1]
    by_cases h2 : i = k
    · rw [if_pos h2, if_pos rfl]
      exact h2.symm
    · rw [if_neg h2, if_neg h1, if_neg h2]
theorem Prm.swp {n p k : Nat} {a b : Nat → Nat} (h : Prm n a b) (hp : p < n) (hk : k < n) : Prm n (fun i => a (swp p k i)) (fun i => K1.swp p k (b i)) := by
  refine ⟨fun i hi => h.la _ (swp_lt hp hk hi), fun i hi => swp_lt hp hk (h.lb i hi), fun i hi => ?_, fun i hi => ?_⟩
  · show a (K1.swp p k (K1.swp p k (b i))) = i
    rw [swp_swp, h.ab i hi]
  · show K1.swp p k (b (a (K1.swp p k i))) = i
    rw [h.ba _ (swp_lt hp hk hi), swp_swp]
theorem set_swp {α : Type} {F : Nat → α} {n p k : Nat} (hp : p < n) (hk : k < n) : (((List.range n).map F).set p (F k)).set k (F p) = (List.range n).map fun i => F (swp p k i) := by
  refine List.ext_getElem? fun i => ?_
  by_cases hi : i < n
  · rw [List.getElem?_map, List.getElem?_range hi]
    show _ = some (F (swp p k i))
    rw [List.getElem?_set]
    unfold swp
    by_cases h1 : k = i
    · rw [if_pos h1, if_pos (by rw [List.length_set, List.length_map, List.length_range]; omega)]
      by_cases h2 : i = p
      · rw [if_pos h2]
        congr 2
        omega
      · rw [if_neg h2, if_pos h1.symm]
    · rw [if_neg h1, List.getElem?_set]
      by_cases h2 : p = i
      · rw [if_pos h2, if_pos (by rw [List.length_map, List.length_range]; omega), if_pos h2.symm]
      · rw [if_neg h2, if_neg (fun e => h2 e.symm), if_neg (fun e => h1 e.symm), List.getElem?_map, List.getElem?_range hi]
        rfl
  · rw [List.getElem?_eq_none (by rw [List.length_set, List.length_set, List.length_map, List.length_range]; omega), List.getElem?_eq_none (by rw [List.length_map, List.length_range]; omega)]
section
variable {f : List Nat} {m : Nat}
def blk (f : List Nat) (m j : Nat) : List Nat := mem f ((leasts f m).getD j 0) m
theorem head_asc {r : Nat} : ∀ {l : List Nat}, l.Pairwise (· < ·) → r ∈ l → (∀ p ∈ l, r ≤ p) → l.headD 0 = r
  | [], _, h, _ => by cases h
  | a :: l, h, hr, hb => by
    obtain ⟨h1, _⟩ := List.pairwise_cons.mp h
    show a = r
    rcases List.mem_cons.mp hr with z | z
    · exact z.symm
    · have x := h1 r z
      have y := hb a List.mem_cons_self
      omega
theorem leasts_inj {i j : Nat} (hi : i < (leasts f m).length) (hj : j < (leasts f m).length) (e : (leasts f m).getD i 0 = (leasts f m).getD j 0) : i = j := by
  have h := List.pairwise_iff_getElem.mp (asc_filter (fun i => decide (f.getD i 0 = i)) m)
  have g : ∀ {i : Nat} (hi : i < (leasts f m).length), (leasts f m).getD i 0 = (leasts f m)[i] := fun {i} hi => by
    rw [List.getD_eq_getElem?_getD, List.getElem?_eq_getElem hi]
    rfl
  rw [g hi, g hj] at e
  rcases Nat.lt_trichotomy i j with z | z | z
  · have := h i j hi hj z
    have e' : (leasts f m)[i] < (leasts f m)[j] := this
    omega
  · exact z
  · have := h j i hj hi z
    have e' : (leasts f m)[j] < (leasts f m)[i] := this
    omega
theorem least_at {i : Nat} (hi : i < (leasts f m).length) : (leasts f m).getD i 0 < m ∧ f.getD ((leasts f m).getD i 0) 0 = (leasts f m).getD i 0 := in_leasts.mp (List.mem_of_getElem? (getD_at hi))
theorem blk_head (jf : JL f) (lf : f.length = m) {j : Nat} (hj : j < (leasts f m).length) : (blk f m j).headD 0 = (leasts f m).getD j 0 := by
  obtain ⟨h1, h2⟩ := least_at hj
  refine head_asc (asc_filter _ _) (in_mem.mpr ⟨h1, h2⟩) fun p hp => ?_
  obtain ⟨h3, h4⟩ := in_mem.mp hp
  have := (jl_at jf (p := p) (by omega)).1
  omega
def lotsOf (f : List Nat) (m : Nat) (a : Nat → Nat) : List (List Nat) := (List.range (leasts f m).length).map fun i => blk f m (a i)
theorem in_lots {a : Nat → Nat} {l : List Nat} (h : l ∈ lotsOf f m a) : ∃ i < (leasts f m).length, l = blk f m (a i) := by
  obtain ⟨i, hi, e⟩ := List.mem_map.mp h
  exact ⟨i, List.mem_range.mp hi, e.symm⟩
theorem lots_fine (jf : JL f) (lf : f.length = m) {a b : Nat → Nat} (h : Prm (leasts f m).length a b) : ∀ l ∈ lotsOf f m a, l.Pairwise (· < ·) ∧ l ≠ [] ∧ ∀ p ∈ l, p < m := fun l hl => by
  obtain ⟨i, hi, rfl⟩ := in_lots hl
  obtain ⟨h1, h2⟩ := least_at (h.la i hi)
  refine ⟨asc_filter _ _, fun e => ?_, fun p hp => (in_mem.mp hp).1⟩
  have z : (leasts f m).getD (a i) 0 ∈ blk f m (a i) := in_mem.mpr ⟨h1, h2⟩
  rw [e] at z
  cases z
theorem lots_all (jf : JL f) (lf : f.length = m) {a b : Nat → Nat} (h : Prm (leasts f m).length a b) {p : Nat} (hp : p < m) : ∃ l ∈ lotsOf f m a, p ∈ l := by
  obtain ⟨h1, h2⟩ := jl_at jf (p := p) (by omega)
  have z : f.getD p 0 ∈ leasts f m := in_leasts.mpr ⟨by omega, h2⟩
  obtain ⟨j, hj, e⟩ := List.getElem_of_mem z
  have hb := h.lb j hj
  refine ⟨blk f m (a (b j)), List.mem_map.mpr ⟨b j, List.mem_range.mpr hb, rfl⟩, in_mem.mpr ⟨hp, ?_⟩⟩
  have g := getD_at hj
  rw [List.getElem?_eq_getElem hj, e] at g
  rw [h.ab j hj]
  exact Option.some.inj g
theorem lots_are (jf : JL f) (lf : f.length = m) {a b : Nat → Nat} (h : Prm (leasts f m).length a b) : areB m (dLots (lotsOf f m a)) = true := by
  refine areGo_ok List.length_replicate (lots_fine jf lf h) ?_ (fun l hl p hp => ?_) fun p hp => .inr (lots_all jf lf h hp)
  · refine List.pairwise_map.mpr (List.pairwise_lt_range.imp_of_mem fun {i j} hi hj hij p hpi hpj => ?_)
    have hi' := List.mem_range.mp hi
    have hj' := List.mem_range.mp hj
    have e := leasts_inj (h.la i hi') (h.la j hj') ((in_mem.mp hpi).2.symm.trans (in_mem.mp hpj).2)
    have x := h.ba i hi'
    have y := h.ba j hj'
    rw [e] at x
    omega
  · have hm := (lots_fine jf lf h l hl).2.2 p hp
    rw [List.getD_eq_getElem?_getD, List.getElem?_replicate, if_pos hm]
    rfl
theorem lots_fill (jf : JL f) (lf : f.length = m) {a b : Nat → Nat} (h : Prm (leasts f m).length a b) : fillTo m (lotsOf f m a) = f := by
  refine list_ext (m := m) (by unfold fillTo; rw [fills_len, List.length_replicate]) lf fun p hp => ?_
  refine fills_at (by rw [List.length_replicate]; exact hp) (fun l hl q hq => ?_) (.inr (lots_all jf lf h hp))
  obtain ⟨i, hi, rfl⟩ := in_lots hl
  rw [blk_head jf lf (h.la i hi)]
  exact (in_mem.mp hq).2.symm
theorem dBlocks_eq (lf : f.length = m) : dBlocks f = dLots (lotsOf f m fun i => i) := by
  unfold dBlocks dLots lotsOf
  rw [lf, List.map_map]
  congr 1
  exact (map_range (leasts f m) 0 (fun l => dTup (mem f l m))).symm
theorem Prm.self (n : Nat) : Prm n (fun i => i) fun i => i := ⟨fun _ h => h, fun _ h => h, fun _ _ => rfl, fun _ _ => rfl⟩
end
end K1
namespace K1
open PySem PySem.Spec PyProof.Rows L2 Evl
theorem lay_tups : ∀ lots : List (List Nat), PyData.canLayAll0 (lots.map dTup) = true
  | [] => rfl
  | l :: lots => by
    have h : PyData.canLayAll0 (l.map nI) = true := by
      rw [nI_map]
      exact PySem.W.ke_canLayAll0 _
    simp [PyData.canLayAll0, PyData.canLay0, lay_tups lots, dTup, h]
theorem deep_tups : ∀ lots : List (List Nat), PyData.depthAll (lots.map dTup) ≤ 1
  | [] => by simp [PyData.depthAll]
  | l :: lots => by
    have h : PyData.depthAll (l.map nI) = 0 := by
      rw [nI_map]
      exact PySem.W.ke_depthAll _
    have i := deep_tups lots
    simp [PyData.depthAll, PyData.depth, dTup, h]
    omega
theorem plain_tups : ∀ lots : List (List Nat), PyData.plainAll (lots.map dTup) = true
  | [] => rfl
  | l :: lots => by
    rw [List.map_cons, PyData.plainAll, plain_tups lots]
    show (PyData.plainAll (l.map nI) && true) = true
    rw [plain_ints]
    rfl
theorem shaped_lots (lots : List (List Nat)) : SeqAt.shaped (dLots lots) = true := by
  have h1 := lay_tups lots
  have h2 := deep_tups lots
  simp [SeqAt.shaped, dLots, PyData.canLay0, PyData.depth, h1]
  omega
theorem eqv_lots (lots : List (List Nat)) : PyData.eqv (dLots lots) (dLots lots) = true := by
  show PyData.eqv (.tuple (lots.map dTup)) (.tuple (lots.map dTup)) = true
  rw [PyData.eqv]
  exact SeqAt.eqvAll_refl_plain _ (plain_tups lots)
theorem noLst_lots (lots : List (List Nat)) : noLst (dLots lots) = true := noLsts_iff.mpr fun d hd => by
  obtain ⟨l, _, rfl⟩ := List.mem_map.mp hd
  exact noLst_dTup l
theorem dLots_inj {a b : List (List Nat)} (h : dLots a = dLots b) : a = b := by
  have inj : ∀ {a b : List Nat}, dTup a = dTup b → a = b := fun {a b} h => by
    have z := PyData.tuple.inj h
    exact (List.map_inj_right (fun x y hxy => by have := PyData.int.inj hxy; omega)).mp z
  exact (List.map_inj_right fun x y hxy => inj hxy).mp (PyData.tuple.inj h)
section
variable {P : Program} {w : World} {K : PySem.W.Frag} {mg : Str → Option Value} {base : Heap} {C fI cW cL cP : Addr}
theorem dpAll_map {α : Type} {H : Hp} {F : α → V} {G : α → PyData} : ∀ {l : List α}, (∀ i ∈ l, Dp K H (F i) (G i)) → DpAll K H (l.map F) (l.map G)
  | [], _ => .nil
  | a :: l, h => .cons (h a List.mem_cons_self) (dpAll_map fun i hi => h i (List.mem_cons_of_mem _ hi))
/-! ### what gives data at some place -/
def EvD (K : PySem.W.Frag) (te : TE) (σ : L2.St) (H : Hp) (d : PyData) : Prop := ∀ H1, Ex H H1 → ∀ Q : VK, (∀ v H2, Ex H1 H2 → Dp K H2 v d → Q v H2) → te σ H1 Q
def SpD (K : PySem.W.Frag) (sp : Sp) (vs : List V) (H : Hp) (d : PyData) : Prop := ∀ H1, Ex H H1 → ∀ Q : VK, RetD K d H1 Q → ∀ E : XK, sp vs H1 Q E
section
variable {σ : L2.St} {H : Hp} {t1 t2 t3 : TE} {D : Ends} {tz : TS} {d : PyData}
theorem ed_call {sp : Sp} {dvs vs : List V} {E : XK} {ta : TA} (h : EvA ta σ H vs) (hs : SpD K sp (vs ++ dvs) H d) : EvD K (tCall sp dvs E ta) σ H d := fun H1 e Q q =>
  h H1 e _ fun H2 e2 => hs H2 (e.trans e2) Q (fun v H3 e3 hx => q v H3 (e2.trans e3) hx) E
theorem ed_callR {n : Nat} {sp : Sp} {E : XK} {tk : TA} {vs : List V} (h : EvA tk σ H vs) (hn : vs.length = n) (hs : SpD K sp vs.reverse H d) : EvD K (tCallR n sp E tk) σ H d := fun H1 e1 Q q =>
  h H1 e1 _ fun H2 e2 => ⟨hn, hs H2 (e1.trans e2) Q (fun v H3 e3 hx => q v H3 (e2.trans e3) hx) E⟩
theorem q_asgD {te : TE} {i : Nat} (h : EvD K te σ H d) (k : ∀ v H1, Ex H H1 → Dp K H1 v d → tz D (σ.set i (some v)) H1) : tSeq (tAsg te (gName i)) tz D σ H := h H (Ex.refl H) _ fun v H1 e hv => k v H1 e hv
theorem ev_eqD {v : V} (h1 : EvD K t1 σ H d) (h2 : Ev t2 σ H v) (hv : Dp K H v d) (hs : SeqAt.shaped d = true) (he : PyData.eqv d d = true) : Ev (tOp (rEqD K) t1 t2) σ H (.bl true) := fun H1 e1 Q q =>
  h1 H1 e1 _ fun x H2 e2 hx => h2 H2 (e1.trans e2) _ fun H3 e3 => ⟨d, d, dp_mono e3 _ _ hx, dp_mono (e1.trans (e2.trans e3)) _ _ hv, hs, hs, by rw [he]; exact q H3 (e2.trans e3)⟩
theorem ev_rowL {v : V} {l : List Nat} {E : XK} (h1 : Ev t1 σ H v) (h2 : EvL t2 σ H (l.map nV)) (hd : Dp K H v (dTup l)) (hl : l.length ≤ 40000) : Ev (tCall (spRow K) [] E (tCons t1 (tCons t2 tNil))) σ H (.bl true) := fun H1 e1 Q k =>
  h1 H1 e1 _ fun H2 e2 => h2 H2 (e1.trans e2) _ fun q H3 hq e3 hx => ⟨v, q, l, rfl, dp_mono (e1.trans (e2.trans e3)) _ _ hd, .inl (sq_of hx), hl, fun H4 e4 => k H4 (e2.trans (e3.trans e4))⟩
theorem spd_blocks {m : Nat} {p : Addr} {f : List Nat} (hm : m ≤ 60) (hp : SqT K H p (f.map nV)) (jf : JL f) (lf : f.length = m) : SpD K (spBlocksOf K C) [.int (m : Int), .ref p] H (dBlocks f) := fun H1 e1 Q q E' => by
  have h1 := isJ_of jf
  rw [lf] at h1
  exact ⟨m, .ref p, dTup f, rfl, hm, dTup_of (ex_t e1 hp), fun h => (by rw [h1] at h; cases h), fun _ => ⟨f, rfl, q⟩⟩
theorem map_range_at {α : Type} {F : Nat → α} {n j : Nat} (h : j < n) : ((List.range n).map F)[j]? = some (F j) := by
  rw [List.getElem?_map, List.getElem?_range h]
  rfl
theorem spu_joining {m : Nat} {v : V} {f : List Nat} {a b : Nat → Nat} (hm : m ≤ 1000) (hp : Prm (leasts f m).length a b) (hv : Dp K H v (dLots (lotsOf f m a))) (jf : JL f) (lf : f.length = m) : SpU (spJoiningOf K C) [.int (m : Int), v] H (f.map nV) := fun H1 e1 Q q E' => by
  have h1 := lots_are jf lf hp
  refine ⟨m, v, _, rfl, hm, dp_mono e1 _ _ hv, fun h => (by rw [h1] at h; cases h), fun _ => ⟨_, rfl, fun l hl => (lots_fine jf lf hp l hl).2, ?_⟩⟩
  rw [lots_fill jf lf hp]
  exact q
theorem eu_joiningU {m : Nat} {f : List Nat} {a b : Nat → Nat} {zs : List V} {E : XK} (hm : m ≤ 1000) (h1 : Ev t1 σ H (.int (m : Int))) (h2 : EvU t2 σ H zs) (hp : Prm (leasts f m).length a b) (hz : DpAll K H zs ((lotsOf f m a).map dTup)) (jf : JL f) (lf : f.length = m) :
    EvU (tCall (spJoiningOf K C) [] E (tCons t1 (tCons t2 tNil))) σ H (f.map nV) := fun H1 e1 Q q =>
  h1 H1 e1 _ fun H2 e2 => h2 H2 (e1.trans e2) _ fun pt H3 _ e3 hx => spu_joining hm hp (.tup (st_of hx) (dpAll_mono (e1.trans (e2.trans e3)) _ _ hz)) jf lf H3 (Ex.refl _) Q (fun p H4 hp' e4 hx' => q p H4 (fresh_back (e2.trans e3) hp') (e2.trans (e3.trans e4)) hx') E
end
/-! ### _law_blocks -/
def spLawBlocks (K : PySem.W.Frag) : Sp := fun vs H Q _ => ∃ (L : Addr) (m : Nat) (p : Addr) (f : List Nat), vs = [.ref L, .int (m : Int), .ref p] ∧ PoolAt H L ∧ m ≤ 60 ∧ SqT K H p (f.map nV) ∧ JL f ∧ f.length = m ∧ ∀ H', Stp L H H' → Q (.bl true) H'
theorem ok_lawBlocks (B : Blt mg) (D : Dfn K mg "_law_blocks" s_law_blocks) (G_law_row : Cal P w K mg base CX0 2 "_law_row" ["_law_got", "_law_due"] (spRow K)) (G_law_take : Cal P w K mg base CX0 1 "_law_take" ["_law_pool_here", "_law_bound"] spTake)
    (G_blocks_of : Cal P w K mg base (L2N.CX P w) 4 "blocks_of" ["many", "joining"] (spBlocksOf K C)) (G_joining_of : Cal P w K mg base (L2N.CX P w) 4 "joining_of" ["many", "lots"] (spJoiningOf K C))
    (K_blocks_of : CalK P w K mg base (L2N.CX P w) 4 "blocks_of" ["many", "joining"] ["joining", "many"] (spBlocksOf K C)) (K_joining_of : CalK P w K mg base (L2N.CX P w) 4 "joining_of" ["many", "lots"] ["lots", "many"] (spJoiningOf K C)) :
    Cal P w K mg base CX0 5 "_law_blocks" ["_law_pool_here", "_law_m", "_law_row_here"] (spLawBlocks K) := by
  refine mkCal D (fun _ _ _ _ _ _ us hl => match us, hl with | [_, _, _], _ => rfl) fun fa fd F => ?_
  refine F.ok sc_law_blocks (fun vs H Q E h => ?_) (fun cdv A outer s H vs Q E hr h => ?_)
  · obtain ⟨L, m, p, f, rfl, _⟩ := h
    rfl
  · obtain ⟨L, m, p, f, rfl, hL, hm, hp, jf, lf, q⟩ := h
    refine ⟨_, ((pss_cons (ps_set (i := 3) sc_law_blocks.nd rfl (.inl rfl) (pcal G_blocks_of hr passN (pa_cons (pv 1) (pa_cons (pv 2) pa_nil))))
      (pss_cons (ps_set (i := 4) sc_law_blocks.nd rfl (.inr rfl) (pe_lc (own := [("_law_p", 7)]) (g := gName 7) rfl sc_law_blocks.nd (pi_range1 (by rfl) B.b_range (pa_cons (pv 1) pa_nil)) (blkOk_by (own := [("_law_p", 7)]) (N := n_law_blocks) (sc := defScope s_law_blocks) (by decide +kernel)) (fun _ _ _ _ _ => pg_name (i := 7) sc_law_blocks.nd rfl (.inl rfl)) (fun _ _ _ _ _ => (pts_one (pt_cmpR op_eq (pe_ix (ix_tupK (K := K) rfl) (pv 2) (pv 7) (fun _ _ => rfl)) (pv 7) (nomark _)))) (fun _ _ _ _ _ => (pv 7))))
      (pss_cons (ps_if (PW.pt (pw_or (pt_not (pt_val (pe_callB call_isi (by rfl) B.b_isinstance bt_isinstance (pa_cons (pv 3) (pa_cons (pe_bltn (v := .ty "tuple") (by rfl) B.b_tuple bt_tuple rfl) pa_nil))))) (pw_or1 (pt_cmpR op_ne (pe_callB call_len_seq (by rfl) B.b_len bt_len (pa_cons (pv 3) pa_nil)) (pe_callB call_len_seq (by rfl) B.b_len bt_len (pa_cons (pv 4) pa_nil)) (nomark _))))) (pss_one (ps_ret pe_bl)) pss_nil)
      (pss_cons (ps_for PassesOwn.never rfl (pi_range1 (by rfl) B.b_range (pa_cons (pe_callB call_len_seq (by rfl) B.b_len bt_len (pa_cons (pv 3) pa_nil)) pa_nil)) (pg_name (i := 5) sc_law_blocks.nd rfl (.inr rfl)) (pss_one (ps_if (pt_not (pt_val (pcal G_law_row hr pass0 (pa_cons (pe_ix ix_tup (pv 3) (pv 5) (fun _ _ => rfl)) (pa_cons (pe_lc (own := [("_law_p", 7)]) (g := gName 7) rfl sc_law_blocks.nd (pi_range1 (by rfl) B.b_range (pa_cons (pv 1) pa_nil)) (blkOk_by (own := [("_law_p", 7)]) (N := n_law_blocks) (sc := defScope s_law_blocks) (by decide +kernel)) (fun _ _ _ _ _ => pg_name (i := 7) sc_law_blocks.nd rfl (.inl rfl)) (fun _ _ _ _ _ => (pts_one (pt_cmpR op_eq (pe_ix (ix_tupK (K := K) rfl) (pv 2) (pv 7) (fun _ _ => rfl)) (pe_ix (ix_listK (K := K) rfl) (pv 4) (pv 5) (fun _ _ => rfl)) (nomark _)))) (fun _ _ _ _ _ => (pv 7))) pa_nil))))) (pss_one (ps_ret pe_bl)) pss_nil)))
      (pss_cons (ps_setLc (i := 6) (own := [("_law_block", 9)]) (g := gName 9) rfl sc_law_blocks.nd rfl rfl (sw_true rfl rfl rfl (by decide +kernel)) (pi_tup (pv 3)) (blkOk_by (own := [("_law_block", 9)]) (N := n_law_blocks) (sc := defScope s_law_blocks) (by decide +kernel)) (fun _ _ _ _ _ => pg_name (i := 9) sc_law_blocks.nd rfl (.inl rfl)) (fun _ _ _ _ _ => pts_nil) (fun _ _ _ _ _ => (pv 9)))
      (pss_cons (ps_for PassesOwn.never rfl (pi_range1 (by rfl) B.b_range (pa_cons (pe_callB call_len_seq (by rfl) B.b_len bt_len (pa_cons (pv 6) pa_nil)) pa_nil)) (pg_name (i := 5) sc_law_blocks.nd rfl (.inr rfl)) (pss_cons (ps_set (i := 7) sc_law_blocks.nd rfl (.inl rfl) (pcal G_law_take hr pass0 (pa_cons (pv 0) (pa_cons (pe_op op_add (pv 5) pe_int) pa_nil))))
      (pss_cons (ps_set (i := 8) sc_law_blocks.nd rfl (.inl rfl) (pe_ix ix_list (pv 6) (pv 7) (fun _ _ => rfl)))
      (pss_cons (ps_asg (pe_ix ix_list (pv 6) (pv 5) (fun _ _ => rfl)) (pg_sub (pv 6) (pv 7) set_list))
      (pss_one (ps_asg (pv 8) (pg_sub (pv 6) (pv 5) set_list)))))))
      (pss_cons (ps_if (pt_not (pt_val (pcal G_law_row hr pass0 (pa_cons (pcal G_joining_of hr passN (pa_cons (pv 1) (pa_cons (pe_callTy call_tuple_of (by rfl) B.b_tuple bt_tuple (pa_cons (pv 6) pa_nil)) pa_nil))) (pa_cons (pv 2) pa_nil))))) (pss_one (ps_ret pe_bl)) pss_nil)
      (pss_one (ps_ret (pe_and (pcal G_law_row hr pass0 (pa_cons (pcalR K_joining_of hr passN (pk_cons (pv 3) (pk_cons (pv 1) pk_nil))) (pa_cons (pv 2) pa_nil))) (pe_one (pe_cmpR (op_eqD hr.units) (pcalR K_blocks_of hr passN (pk_cons (pv 2) (pk_cons (pv 1) pk_nil))) (pv 3) (nomark _)))))))))))))), ?_⟩
    refine q_asgD (ed_call (ea_cons (ev_var rfl) (ea_cons (ev_var rfl) ea_nil)) (spd_blocks hm hp jf lf)) fun v H1 e1 hv => ?_
    rw [dBlocks_eq lf] at hv
    obtain ⟨pg, xs, rfl, hs, ha⟩ := dp_tup_inv hv
    have hn : xs.length = (leasts f m).length := by
      have := dpAll_len ha
      unfold lotsOf at this
      rw [List.length_map, List.length_map, List.length_range] at this
      exact this
    have hn60 : xs.length ≤ 60 := by
      have := leasts_len f m
      omega
    have hx : ∀ j < xs.length, Dp K H1 (xs.getD j .non) (dTup (blk f m j)) := fun j hj => by
      have e : xs[j]? = some (xs.getD j .non) := by
        rw [List.getD_eq_getElem?_getD, List.getElem?_eq_getElem hj]
        rfl
      obtain ⟨d, hd1, hd2⟩ := dpAll_get ha e
      unfold lotsOf at hd1
      rw [List.getElem?_map, List.getElem?_map, List.getElem?_range (by omega)] at hd1
      have e2 := Option.some.inj hd1
      subst e2
      exact hd2
    have xat : ∀ j < xs.length, xs[j]? = some (xs.getD j .non) := fun j hj => by
      rw [List.getD_eq_getElem?_getD, List.getElem?_eq_getElem hj]
      rfl
    refine q_asgL (el_lcR1 (n := (m : Int)) (fun i => decide (f.getD i 0 = i)) nV (ea_cons (ev_var rfl) ea_nil) (by omega) (fun _ => rfl)
      (fun i H2 e2 hi => et_is (et_test (ev_op (ev_op (ev_var rfl) (ev_var rfl) (rv_ixT (ex_t (e1.trans e2) hp) (atI_nat (map_nV_at (p := i) (by omega))))) (ev_var rfl) (rv_eq rfl))) ?_) fun i H2 e2 hi hf => ev_var rfl) fun pl H2 hpl e2 hl => ?_
    · by_cases z : f.getD i 0 = i
      · rw [decide_eq_true z, z]
        exact decide_eq_true rfl
      · rw [decide_eq_false z]
        exact decide_eq_false fun y => z (by have := V.int.inj y; omega)
    have hl' : H2 pl = some (.lst ((leasts f m).map nV)) := hl
    have e12 := e1.trans e2
    refine q_ifF (et_is (et_or (et_not (et_test (ev_isi (ev_var rfl) (dp_mono e2 _ _ hv) (kit_tuple _)))) fun _ => et_test (ev_op (ev_lenT (ev_var rfl) (ex_t e2 hs)) (ev_len (ev_var rfl) (sq_of hl')) (rv_ne rfl))) (by rw [hn, List.length_map]; simp [dLots, is_tuple])) fun H3 e3 => ?_
    have e13 := e12.trans e3
    have e23 := e2.trans e3
    refine q_forR1 (n := (xs.length : Int)) (ea_cons (ev_lenT (ev_var rfl) (ex_t e23 hs)) ea_nil) (by omega) (fun i σ' H' => ∃ (y5 : Option V), σ' = [some (.ref L), some (.int (m : Int)), some (.ref p), some (.ref pg), some (.ref pl), y5, none, none, none, none] ∧ Ex H3 H')
      (fun H4 e4 => ⟨none, rfl, e4⟩) (fun i σ' H' hi hP => ?_) (fun σ' H' hP => ?_)
    · obtain ⟨y5, rfl, e4⟩ := hP
      have e14 := e13.trans e4
      have e24 := e23.trans e4
      have hi' : i < (leasts f m).length := by omega
      refine s_when (et_not (et_test (ev_rowL (l := blk f m i) (ev_op (ev_var rfl) (ev_var rfl) (rv_ixT (ex_t e24 hs) (atI_nat (xat i (by omega))))) (el_lcR1 (n := (m : Int)) (fun j => decide (f.getD j 0 = (leasts f m).getD i 0)) nV (ea_cons (ev_var rfl) ea_nil) (by omega) (fun _ => rfl)
        (fun j H5 e5 hj => et_is (et_test (ev_op (ev_op (ev_var rfl) (ev_var rfl) (rv_ixT (ex_t (e14.trans e5) hp) (atI_nat (map_nV_at (p := j) (by omega))))) (ev_op (ev_var rfl) (ev_var rfl) (rv_ixL (sq_of (((e3.trans e4).trans e5) _ _ hl')) (atI_nat (map_nV_at hi')))) (rv_eq rfl))) ?_) fun j H5 e5 hj hf => ev_var rfl) (dp_mono e24 _ _ (hx i (by omega))) ?_)))
        (fun z => Bool.noConfusion z) fun _ H5 e5 => ⟨_, rfl, e4.trans e5⟩
      · by_cases z : f.getD j 0 = (leasts f m).getD i 0
        · rw [decide_eq_true z, z]
          exact decide_eq_true rfl
        · rw [decide_eq_false z]
          exact decide_eq_false fun y => z (by have := V.int.inj y; omega)
      · have := List.length_filter_le (fun j => decide (f.getD j 0 = (leasts f m).getD i 0)) (List.range m)
        rw [List.length_range] at this
        show (List.filter _ _).length ≤ _
        omega
    obtain ⟨y5, rfl, e4⟩ := hP
    have e14 := e13.trans e4
    have e24 := e23.trans e4
    have hLB := hL.mono e14
    refine q_asgL (el_lcT (fun _ => true) (fun i => xs.getD i .non) (ev_var rfl) (ex_t e24 hs) (by omega) (fun _ => rfl) (fun i x H5 e5 hx => fun H6 e6 Q' q' => q' H6 (Ex.refl _)) (fun i x H5 e5 hx' _ => ?_)) fun R H5 hR e5 hR5 => ?_
    · have := xat i (get_lt hx')
      rw [hx'] at this
      have e := Option.some.inj this
      rw [← e]
      exact ev_var rfl
    rw [given_all] at hR5
    have hRL : R ≠ L := fun z => by
      obtain ⟨ns, h⟩ := hLB
      rw [z, h] at hR
      cases hR
    refine q_forR1 (n := (xs.length : Int)) (ea_cons (ev_is (ev_len (ev_var rfl) (sq_of hR5)) (by rw [List.length_map, List.length_range])) ea_nil) (by omega)
      (fun i σ2 H2' => ∃ (a b : Nat → Nat) (y5 y7 y8 : Option V), σ2 = [some (.ref L), some (.int (m : Int)), some (.ref p), some (.ref pg), some (.ref pl), y5, some (.ref R), y7, y8, none] ∧ Prm xs.length a b ∧ Stp L H' H2' ∧ H2' R = some (.lst ((List.range xs.length).map fun i => xs.getD (a i) .non)))
      (fun H6 e6 => ⟨_, _, _, _, _, rfl, Prm.self _, stp_of hLB (e5.trans e6), e6 _ _ hR5⟩) (fun i σ2 HA hi hP => ?_) (fun σ2 HA hP => ?_)
    · obtain ⟨a, b, y5, y7, y8, rfl, hpr, st, hz⟩ := hP
      refine take_go (ev_var rfl) (ev_op (ev_var rfl) ev_c rv_I0) st.pool (by omega) fun r H6 r0 r1 st2 => ?_
      obtain ⟨r', rfl⟩ : ∃ n : Nat, r = (n : Int) := ⟨r.toNat, by omega⟩
      have hr' : r' < xs.length := by omega
      have hi' : i < xs.length := by omega
      have hz6 := st2.at st.pool hRL hz
      have st3 := st.trans st2
      refine q_asg (ev_op (ev_var rfl) (ev_var rfl) (rv_ixL (sq_of hz6) (atI_nat (map_range_at hr')))) fun H7 e7 => ?_
      refine q_setL (e7 _ _ hz6) (ev_op (ev_var rfl) (ev_var rfl) (rv_ixL (sq_of (e7 _ _ hz6)) (atI_nat (map_range_at hi')))) (ev_var rfl) (ev_var rfl) (by rw [List.length_map, List.length_range]; exact hr') fun H8 e8 => ?_
      refine s_setL upd_same (ev_var rfl) (ev_var rfl) (ev_var rfl) (by rw [List.length_set, List.length_map, List.length_range]; exact hi') fun H9 e9 => ?_
      refine ⟨_, _, _, _, _, rfl, hpr.swp hr' hi', ((((st3.ex_ (e7.trans e8)).mut hLB hR).ex_ e9).mut hLB hR), ?_⟩
      rw [upd_same]
      congr 2
      exact set_swp (F := fun i => xs.getD (a i) .non) hr' hi'
    · obtain ⟨a, b, y5, y7, y8, rfl, hpr, st, hz⟩ := hP
      rw [hn] at hpr
      have hpA := st.t hLB (ex_t e14 hp)
      have hvA := dp_exm hLB.ls st.ex _ _ (noLst_lots _) (dp_mono e24 _ _ hv)
      have hA : DpAll K HA ((List.range xs.length).map fun i => xs.getD (a i) .non) ((lotsOf f m a).map dTup) := by
        unfold lotsOf
        rw [List.map_map, ← hn]
        exact dpAll_map fun i hi => dp_exm hLB.ls st.ex _ _ (noLst_dTup _) (dp_mono e24 _ _ (hx _ (by have := hpr.la i (by have := List.mem_range.mp hi; omega); omega)))
      have stH := (stp_of hL e14).trans st
      refine q_when (et_not (et_test (ev_rowU (eu_joiningU (by omega) (ev_var rfl) (eu_tupleL (ev_var rfl) (sq_of hz)) hpr hA jf lf) (ev_var rfl) (.inr hpA) (by omega)))) (fun z => Bool.noConfusion z) fun _ H6 e6 => ?_
      have hpB := ex_t e6 hpA
      have hvB := dp_mono e6 _ _ hvA
      have hvC := hvB
      rw [← dBlocks_eq lf] at hvC
      refine s_ret (ev_andV (ev_rowU (eu_callR (ea_cons (ev_var rfl) (ea_cons (ev_var rfl) ea_nil)) rfl (spu_joining (by omega) (Prm.self _) hvB jf lf)) (ev_var rfl) (.inr hpB) (by omega)) fun _ => ev_eqD (ed_callR (ea_cons (ev_var rfl) (ea_cons (ev_var rfl) ea_nil)) rfl (spd_blocks hm hpB jf lf)) (ev_var rfl) hvC ?_ ?_)
        fun H7 e7 => q H7 (stH.ex_ (e6.trans e7))
      · rw [dBlocks_eq lf]
        exact shaped_lots _
      · rw [dBlocks_eq lf]
        exact eqv_lots _
end
end K1
namespace K1
open PySem PySem.Spec PyProof.Rows L2 Evl
/-! ### all joinings of at most five places -/
def lsRow (m : Nat) (row : List Nat) : Bool := decide (row.length = m) && (List.range m).all fun p => decide (row.getD p 0 ≤ p) && decide (row.getD (row.getD p 0) 0 = row.getD p 0)
def lsOk (m : Nat) : Bool := (List.range (jgTo m).length).all fun k => lsRow m ((jgTo m).getD k []) && (decide (k = 0) || HT.lexLt (((jgTo m).getD (k - 1) []).map Int.ofNat) (((jgTo m).getD k []).map Int.ofNat))
theorem ls_all : ∀ m < 6, lsOk m = true := by decide +kernel
theorem ls_len : ∀ m < 6, (jgTo m).length = [1, 1, 2, 5, 15, 52].getD m 0 := by decide +kernel
def six : List V := [.int 1, .int 1, .int 2, .int 5, .int 15, .int 52]
theorem six_at {m : Nat} (h : m ≤ 5) : atI six (m : Int) = some (.int ((jgTo m).length : Int)) := by
  rw [ls_len m (by omega)]
  have : m = 0 ∨ m = 1 ∨ m = 2 ∨ m = 3 ∨ m = 4 ∨ m = 5 := by omega
  rcases this with h | h | h | h | h | h <;> subst h <;> rfl
section
variable {P : Program} {w : World} {K : PySem.W.Frag} {mg : Str → Option Value} {base : Heap} {C fI cW cL cP : Addr}
theorem ev_chain {σ : L2.St} {H : Hp} {r r' : R2} {ta tb tc : TE} {x y z : V} {a b : Bool} (h1 : Ev ta σ H x) (h2 : Ev tb σ H y) (hr : RV r x y H (.bl a)) (h3 : a = true → Ev tc σ H z) (hr' : a = true → RV r' y z H (.bl b)) :
    Ev (tChain r r' ta tb tc) σ H (.bl (a && b)) := fun H1 e1 Q q => h1 H1 e1 _ fun H2 e2 => h2 H2 (e1.trans e2) _ fun H3 e3 => hr H3 (e1.trans (e2.trans e3)) _ fun H4 e4 => ⟨a, rfl, by
    have e14 := e1.trans (e2.trans (e3.trans e4))
    have e24 := e2.trans (e3.trans e4)
    cases a with
    | true =>
      show tc σ H4 fun w' H4 => r' y w' H4 Q
      exact h3 rfl H4 e14 _ fun H5 e5 => hr' rfl H5 (e14.trans e5) _ fun H6 e6 => q H6 (e24.trans (e5.trans e6))
    | false =>
      show Q (.bl false) H4
      exact q H4 e24⟩
def spListed : Sp := fun vs H Q _ => ∃ (m : Nat), vs = [.int (m : Int)] ∧ m ≤ 5 ∧ RetV (.bl true) H Q
theorem ok_listed (B : Blt mg) (D : Dfn K mg "_law_listed" s_law_listed) (G_law_int : Cal P w K mg base CX0 1 "_law_int" ["_law_value"] (spIsInteger K)) (G_joinings_of : Cal P w K mg base CX0 1 "joinings_of" ["many"] (spJoiningsOf K)) :
    Cal P w K mg base CX0 2 "_law_listed" ["_law_m"] spListed := by
  refine mkCal D (fun _ _ _ _ _ _ us hl => match us, hl with | [_], _ => rfl) fun fa fd F => ?_
  refine F.ok sc_law_listed (fun vs H Q E h => ?_) (fun cdv A outer s H vs Q E hr h => ?_)
  · obtain ⟨m, rfl, _⟩ := h
    rfl
  · obtain ⟨m, rfl, hm, q⟩ := h
    refine ⟨_, ((pss_cons (ps_set (i := 1) sc_law_listed.nd rfl (.inl rfl) (pcal G_joinings_of hr pass0 (pa_cons (pv 0) pa_nil)))
      (pss_cons (ps_if (PW.pt (pw_or (pt_not (pt_val (pe_callB call_isi (by rfl) B.b_isinstance bt_isinstance (pa_cons (pv 1) (pa_cons (pe_bltn (v := .ty "tuple") (by rfl) B.b_tuple bt_tuple rfl) pa_nil))))) (pw_or1 (pt_cmpR op_ne (pe_callB call_len_seq (by rfl) B.b_len bt_len (pa_cons (pv 1) pa_nil)) (pe_ix ix_list (pe_lst (pa_cons pe_int (pa_cons pe_int (pa_cons pe_int (pa_cons pe_int (pa_cons pe_int (pa_cons pe_int pa_nil))))))) (pv 0) (fun _ _ => rfl)) (nomark _))))) (pss_one (ps_ret pe_bl)) pss_nil)
      (pss_cons (ps_for PassesOwn.never rfl (pi_range1 (by rfl) B.b_range (pa_cons (pe_callB call_len_seq (by rfl) B.b_len bt_len (pa_cons (pv 1) pa_nil)) pa_nil)) (pg_name (i := 2) sc_law_listed.nd rfl (.inl rfl)) (pss_cons (ps_set (i := 3) sc_law_listed.nd rfl (.inr rfl) (pe_ix ix_tup (pv 1) (pv 2) (fun _ _ => rfl)))
      (pss_cons (ps_if (PW.pt (pw_or (pt_not (pt_val (pe_callB call_isi (by rfl) B.b_isinstance bt_isinstance (pa_cons (pv 3) (pa_cons (pe_bltn (v := .ty "tuple") (by rfl) B.b_tuple bt_tuple rfl) pa_nil))))) (pw_or (pt_cmpR op_ne (pe_callB call_len_seq (by rfl) B.b_len bt_len (pa_cons (pv 3) pa_nil)) (pv 0) (nomark _)) (pw_or1 (pt_cmpR op_gt (pe_callB call_len_seq (by rfl) B.b_len bt_len (pa_cons (pe_lc (own := [("_law_x", 5)]) (g := gName 5) rfl sc_law_listed.nd (pi_tup (pv 3)) (blkOk_by (own := [("_law_x", 5)]) (N := n_law_listed) (sc := defScope s_law_listed) (by decide +kernel)) (fun _ _ _ _ _ => pg_name (i := 5) sc_law_listed.nd rfl (.inl rfl)) (fun _ _ _ _ _ => (pts_one (pt_not (pt_val (pcal G_law_int hr pass0 (pa_cons (pv 5) pa_nil)))))) (fun _ _ _ _ _ => (pv 5))) pa_nil)) pe_int (nomark _)))))) (pss_one (ps_ret pe_bl)) pss_nil)
      (pss_cons (ps_if (pt_cmpR op_gt (pe_callB call_len_seq (by rfl) B.b_len bt_len (pa_cons (pe_lc (own := [("_law_p", 4)]) (g := gName 4) rfl sc_law_listed.nd (pi_range1 (by rfl) B.b_range (pa_cons (pv 0) pa_nil)) (blkOk_by (own := [("_law_p", 4)]) (N := n_law_listed) (sc := defScope s_law_listed) (by decide +kernel)) (fun _ _ _ _ _ => pg_name (i := 4) sc_law_listed.nd rfl (.inl rfl)) (fun _ _ _ _ _ => (pts_one (PW.pt (pw_or (pt_not (pt_chain op_le op_le pe_int (pe_ix (ix_tupK (K := K) rfl) (pv 3) (pv 4) (fun _ _ => rfl)) (pv 4))) (pw_or1 (pt_cmpR op_ne (pe_ix (ix_tupK (K := K) rfl) (pv 3) (pe_ix (ix_tupK (K := K) rfl) (pv 3) (pv 4) (fun _ _ => rfl)) (fun _ _ => rfl)) (pe_ix (ix_tupK (K := K) rfl) (pv 3) (pv 4) (fun _ _ => rfl)) (nomark _))))))) (fun _ _ _ _ _ => (pv 4))) pa_nil)) pe_int (nomark _)) (pss_one (ps_ret pe_bl)) pss_nil)
      (pss_one (ps_if (PW.pt (pw_and (pt_cmpR op_gt (pv 2) pe_int (nomark _)) (pw_and1 (pt_not (pt_cmpR (op_ltT hr.units0) (pe_ix ix_tup (pv 1) (pe_op op_sub (pv 2) pe_int) (fun _ _ => rfl)) (pv 3) (nomark _)))))) (pss_one (ps_ret pe_bl)) pss_nil))))))
      (pss_one (ps_ret pe_bl)))))), ?_⟩
    refine q_asgD (ed_call (ea_cons (ev_var rfl) ea_nil) fun H1 e1 Q q E' => ⟨m, rfl, hm, q⟩) fun v H1 e1 hv => ?_
    obtain ⟨pg, xs, rfl, hs, ha⟩ := dp_tup_inv hv
    have hn : xs.length = (jgTo m).length := by
      have := dpAll_len ha
      rw [List.length_map] at this
      exact this
    have hn52 : (jgTo m).length ≤ 52 := by
      rw [ls_len m (by omega)]
      have : m = 0 ∨ m = 1 ∨ m = 2 ∨ m = 3 ∨ m = 4 ∨ m = 5 := by omega
      rcases this with h | h | h | h | h | h <;> subst h <;> decide
    have xat : ∀ j < xs.length, xs[j]? = some (xs.getD j .non) := fun j hj => by
      rw [List.getD_eq_getElem?_getD, List.getElem?_eq_getElem hj]
      rfl
    have hx : ∀ j < xs.length, ∃ p, xs[j]? = some (.ref p) ∧ SqT K H1 p (((jgTo m).getD j []).map nV) := fun j hj => by
      obtain ⟨d, hd1, hd2⟩ := dpAll_get ha (xat j hj)
      have e : (jgTo m)[j]? = some ((jgTo m).getD j []) := by
        rw [List.getD_eq_getElem?_getD, List.getElem?_eq_getElem (by omega)]
        rfl
      rw [List.getElem?_map, e] at hd1
      have e2 := Option.some.inj hd1
      subst e2
      obtain ⟨p, ep, hp⟩ := dTup_inv hd2
      exact ⟨p, by rw [xat j hj, ep], hp⟩
    refine q_ifF (et_is (et_or (et_not (et_test (ev_isi (ev_var rfl) hv (kit_tuple _)))) fun _ => et_test (ev_op (ev_lenT (ev_var rfl) hs) (ev_opL1 (xs := six) (el_lst (ea_cons ev_c (ea_cons ev_c (ea_cons ev_c (ea_cons ev_c (ea_cons ev_c (ea_cons ev_c ea_nil)))))) (by show 6 ≤ 100000; decide))
      (fun _ _ => ev_var rfl) fun p H2 h e => rv_ixL (sq_of h) (six_at hm)) (rv_ne rfl))) (by rw [hn]; simp [dLots, is_tuple])) fun H2 e2 => ?_
    refine q_forR1 (n := (xs.length : Int)) (ea_cons (ev_lenT (ev_var rfl) (ex_t e2 hs)) ea_nil) (by omega) (fun i σ' H' => ∃ (y2 y3 : Option V), σ' = [some (.int (m : Int)), some (.ref pg), y2, y3, none, none] ∧ Ex H1 H')
      (fun H3 e3 => ⟨none, none, rfl, e2.trans e3⟩) (fun k σ' H' hk hP => ?_) (fun σ' H' hP => ?_)
    · obtain ⟨y2, y3, rfl, e⟩ := hP
      have hk' : k < xs.length := by omega
      obtain ⟨pr, hpr, hrow⟩ := hx k hk'
      have ok := all_range.mp (ls_all m (by omega)) k (by omega)
      obtain ⟨ok1, ok2⟩ := Bool.and_eq_true_iff.mp ok
      obtain ⟨ok3, ok4⟩ := Bool.and_eq_true_iff.mp ok1
      have wid := of_decide_eq_true ok3
      have places : ∀ p < m, ((jgTo m).getD k []).getD p 0 ≤ p ∧ ((jgTo m).getD k []).getD (((jgTo m).getD k []).getD p 0) 0 = ((jgTo m).getD k []).getD p 0 := fun p hp => by
        obtain ⟨a, b⟩ := Bool.and_eq_true_iff.mp (all_range.mp ok4 p hp)
        exact ⟨of_decide_eq_true a, of_decide_eq_true b⟩
      generalize hrw : (jgTo m).getD k [] = row at wid places hrow ok2
      refine q_asg (ev_op (ev_var rfl) (ev_var rfl) (rv_ixT (ex_t e hs) (atI_nat hpr))) fun H3 e3 => ?_
      have ea := e.trans e3
      have hr3 := ex_t ea hrow
      refine q_ifF (et_is (et_or (et_not (et_test (ev_isi (ev_var rfl) (dTup_of hr3) (kit_tuple _)))) fun _ => et_or (et_test (ev_op (ev_lenT (ev_var rfl) hr3) (ev_var rfl) (rv_ne rfl))) fun _ => et_test (ev_op (ev_lenN (el_lcT (fun _ => false) (fun _ => .non) (ev_var rfl) hr3 (by rw [List.length_map]; omega) (fun _ => rfl)
        (fun i x H4 e4 hx => ?_) (fun i x H4 e4 hx hf => Bool.noConfusion hf))) ev_c rv_I0)) (by rw [List.length_map, wid, given_none]; simp [dTup, is_tuple])) fun H4 e4 => ?_
      · obtain ⟨n, hn⟩ : ∃ n : Nat, x = nV n := by
          rw [map_nV_at (by have := get_lt hx; rw [List.length_map] at this; exact this)] at hx
          exact ⟨_, (Option.some.inj hx).symm⟩
        subst hn
        exact et_is (et_not (et_test (ev_isint2 (ev_var rfl) (.int _)))) rfl
      have hr4 := ex_t e4 hr3
      refine q_ifF (et_is (et_test (ev_op (ev_lenN (el_lcR1 (n := (m : Int)) (fun _ => false) (fun _ => .non) (ea_cons (ev_var rfl) ea_nil) (by omega) (fun _ => rfl)
        (fun p H5 e5 hp => ?_) (fun i H5 e5 hx hf => Bool.noConfusion hf))) ev_c rv_I0)) (by rw [given_none]; rfl)) fun H5 e5 => ?_
      · have hp' : p < m := by omega
        obtain ⟨p1, p2⟩ := places p hp'
        have v1 : ∀ {σ : L2.St} {t1 t2 : TE}, Ev t1 σ H5 (.ref pr) → Ev t2 σ H5 (.int (p : Int)) → Ev (tOp (rIxT K) t1 t2) σ H5 (.int ((row.getD p 0 : Nat) : Int)) := fun h1 h2 => ev_op h1 h2 (rv_ixT (ex_t e5 hr4) (atI_nat (map_nV_at (by omega))))
        refine et_is (et_or (et_not (et_test (ev_chain ev_c (v1 (ev_var rfl) (ev_var rfl)) rv_I0 (fun _ => ev_var rfl) fun _ => rv_I0))) fun _ => et_test (ev_op (ev_op (ev_var rfl) (v1 (ev_var rfl) (ev_var rfl)) (rv_ixT (ex_t e5 hr4) (atI_nat (map_nV_at (by omega))))) (v1 (ev_var rfl) (ev_var rfl)) (rv_ne rfl))) ?_
        rw [p2, decide_eq_true (show (0 : Int) ≤ _ by omega), decide_eq_true (show ((row.getD p 0 : Nat) : Int) ≤ _ by omega)]
        simp
      have eb := ea.trans (e4.trans e5)
      have hr5 := ex_t e5 hr4
      refine s_when (b := false) (et_is (et_and (b := false) (et_test (ev_op (ev_var rfl) ev_c rv_I0)) fun z => ?_) (by simp)) (fun z => Bool.noConfusion z) fun _ H6 e6 => ⟨_, _, rfl, eb.trans e6⟩
      have hk0 : 0 < k := by
        have := of_decide_eq_true z
        omega
      obtain ⟨pq, hpq, hrow2⟩ := hx (k - 1) (by omega)
      have ek : (k : Int) - 1 = ((k - 1 : Nat) : Int) := by omega
      have lt : HT.lexLt (((jgTo m).getD (k - 1) []).map Int.ofNat) (row.map Int.ofNat) = true := by
        rw [decide_eq_false (by omega), Bool.false_or] at ok2
        exact ok2
      refine et_is (et_not (et_test (ev_op (ev_op (ev_var rfl) (ev_op (ev_var rfl) ev_c rv_I0) (rv_ixT (ex_t eb hs) (by rw [ek]; exact atI_nat hpq))) (ev_var rfl) (z := .bl true) fun H6 e6 Q' q' => ?_))) rfl
      refine ⟨pq, pr, ((jgTo m).getD (k - 1) []).map Int.ofNat, row.map Int.ofNat, rfl, rfl, ?_, ?_, ?_⟩
      · rw [← nV_map]
        exact ex_t (eb.trans e6) hrow2
      · rw [← nV_map]
        exact ex_t e6 hr5
      · rw [lt]
        exact q' H6 (Ex.refl _)
    · obtain ⟨y2, y3, rfl, e⟩ := hP
      exact s_ret ev_c fun H3 e3 => q H3 (e1.trans (e.trans e3))
end
end K1
namespace K1
open PySem PySem.Spec PyProof.Rows L2 Evl
/-! ### displays of data -/
section
variable {K : PySem.W.Frag} {σ : L2.St} {H H' : Hp} {te t1 t2 t3 : TE} {ta : TA} {d : PyData} {ds : List PyData} {D : Ends} {tu tz : TS}
def EvDs (K : PySem.W.Frag) (ta : TA) (σ : L2.St) (H : Hp) (ds : List PyData) : Prop := ∀ H1, Ex H H1 → ∀ Q : List V → Hp → Prop, (∀ vs H2, Ex H1 H2 → DpAll K H2 vs ds → Q vs H2) → ta σ H1 Q
def LD (K : PySem.W.Frag) (H : Hp) (p : Addr) (ds : List PyData) : Prop := ∃ xs, H p = some (.lst xs) ∧ DpAll K H xs ds
theorem LD.mono {p : Addr} (h : LD K H p ds) (e : Ex H H') : LD K H' p ds := by
  obtain ⟨xs, h1, h2⟩ := h
  exact ⟨xs, e _ _ h1, dpAll_mono e _ _ h2⟩
def EvLD (K : PySem.W.Frag) (te : TE) (σ : L2.St) (H : Hp) (ds : List PyData) : Prop := ∀ H1, Ex H H1 → ∀ Q : VK, (∀ p H2, Ex H1 H2 → LD K H2 p ds → Q (.ref p) H2) → te σ H1 Q
theorem ed_ev {v : V} (h : Ev te σ H v) (hd : Dp K H v d) : EvD K te σ H d := fun H1 e Q q => h H1 e _ fun H2 e2 => q v H2 e2 (dp_mono (e.trans e2) _ _ hd)
theorem ed_non : EvD K (tC .non) σ H .none := ed_ev ev_c .non
theorem ed_bl {b : Bool} : EvD K (tC (.bl b)) σ H (.bool b) := ed_ev ev_c (.bl b)
theorem ed_int {i : Int} : EvD K (tC (.int i)) σ H (.int i) := ed_ev ev_c (.int i)
theorem ed_str {x : Str} : EvD K (tC (.str x)) σ H (.str x) := ed_ev ev_c (.str x)
theorem ev_neg {i : Int} : Ev (tUn (rU fun i => .int (-i)) (tC (.int i))) σ H (.int (-i)) := ev_un ev_c (fun H5 e5 Q' q' => ⟨i, rfl, q' H5 (Ex.refl H5)⟩)
theorem ed_neg {i : Int} : EvD K (tUn (rU fun i => .int (-i)) (tC (.int i))) σ H (.int (-i)) := ed_ev ev_neg (.int (-i))
theorem eds_nil : EvDs K tNil σ H [] := fun H1 e Q q => q [] H1 (Ex.refl _) .nil
theorem eds_cons (h1 : EvD K te σ H d) (h2 : EvDs K ta σ H ds) : EvDs K (tCons te ta) σ H (d :: ds) := fun H1 e Q q =>
  h1 H1 e _ fun v H2 e2 hv => h2 H2 (e.trans e2) _ fun vs H3 e3 hs => q (v :: vs) H3 (e2.trans e3) (.cons (dp_mono e3 _ _ hv) hs)
theorem ed_tup (h : EvDs K ta σ H ds) (hl : ds.length ≤ 100000) : EvD K (tTup ta) σ H (.tuple ds) := fun H1 e Q q =>
  h H1 e _ fun vs H2 e2 hs => ⟨sz_of (by rw [dpAll_len hs]; exact hl), fun p hp => q (.ref p) _ (e2.trans (Ex.new hp)) (.tup (st_of upd_same) (dpAll_mono (Ex.new hp) _ _ hs))⟩
theorem eld_lst (h : EvDs K ta σ H ds) (hl : ds.length ≤ 100000) : EvLD K (tLst ta) σ H ds := fun H1 e Q q =>
  h H1 e _ fun vs H2 e2 hs => ⟨sz_of (by rw [dpAll_len hs]; exact hl), fun p hp => q p _ (e2.trans (Ex.new hp)) ⟨vs, upd_same, dpAll_mono (Ex.new hp) _ _ hs⟩⟩
theorem ed_lst (h : EvDs K ta σ H ds) (hl : ds.length ≤ 100000) : EvD K (tLst ta) σ H (.list ds) := fun H1 e Q q =>
  eld_lst h hl H1 e Q fun p H2 e2 ⟨xs, h1, h2⟩ => q (.ref p) H2 e2 (.lst (sq_of h1) h2)
theorem dpAll_append : ∀ {xs ys : List V} {ds es : List PyData}, DpAll K H xs ds → DpAll K H ys es → DpAll K H (xs ++ ys) (ds ++ es)
  | _, _, _, _, .nil, h => h
  | _, _, _, _, .cons h1 h2, h => .cons h1 (dpAll_append h2 h)
theorem eld_var {i : Nat} {p : Addr} (h : σ[i]? = some (some (.ref p))) (hl : LD K H p ds) : EvLD K (tVar i) σ H ds := fun H1 e Q q => ⟨.ref p, h, q p H1 (Ex.refl _) (hl.mono e)⟩
theorem eld_cat {es : List PyData} (h1 : EvLD K t1 σ H ds) (h2 : EvLD K t2 σ H es) (hl : (ds ++ es).length ≤ 100000) : EvLD K (tOp rCat t1 t2) σ H (ds ++ es) := fun H1 e Q q =>
  h1 H1 e _ fun p H2 e2 hp => h2 H2 (e.trans e2) _ fun r H3 e3 hr => by
    obtain ⟨xs, a1, a2⟩ := hp.mono e3
    obtain ⟨ys, b1, b2⟩ := hr
    refine ⟨p, r, xs, ys, rfl, rfl, a1, b1, ?_, fun l hl' => q l _ (e2.trans (e3.trans (Ex.new hl'))) ⟨xs ++ ys, upd_same, dpAll_mono (Ex.new hl') _ _ (dpAll_append a2 b2)⟩⟩
    have := dpAll_len a2
    have := dpAll_len b2
    rw [List.length_append] at hl
    exact Nat.le_trans (by omega) (sz_of hl)
theorem q_asgLD {i : Nat} (h : EvLD K te σ H ds) (k : ∀ p H1, Ex H H1 → LD K H1 p ds → tz D (σ.set i (some (.ref p))) H1) : tSeq (tAsg te (gName i)) tz D σ H := h H (Ex.refl H) _ fun p H1 e hp => k p H1 e hp
theorem s_forLD {j : Nat} (h : EvLD K te σ H ds) (S : L2.St → Prop) (h0 : S σ)
    (hs : ∀ H1, Ex H H1 → ∀ d ∈ ds, ∀ x σ' H', Ex H1 H' → Dp K H' x d → S σ' → tu { D with nx := fun σ2 H2 => S σ2 ∧ Ex H1 H2, ct := fun σ2 H2 => S σ2 ∧ Ex H1 H2, bk := D.nx } (σ'.set j (some x)) H') (hd : ∀ σ' H', Ex H H' → S σ' → D.nx σ' H') :
    tFor (iList K te) (gName j) tu D σ H := h H (Ex.refl H) _ fun p H1 e ⟨xs, hx, ha⟩ => ⟨p, rfl, ⟨xs, sq_of hx⟩, for_list (fun _ σ' H' => S σ' ∧ Ex H1 H') ⟨h0, Ex.refl _⟩ (fun i σ' H' _ hP => sq_of (hP.2 _ _ hx))
    (fun i x σ' H' hi hP => by
      obtain ⟨d, hd1, hd2⟩ := dpAll_get ha hi
      exact hs H1 e d (List.mem_of_getElem? hd1) x σ' H' hP.2 (dp_mono hP.2 _ _ hd2) hP.1) fun σ' H' hP => hd σ' H' (e.trans hP.2) hP.1⟩
theorem q_forLD {j : Nat} (h : EvLD K te σ H ds) (S : L2.St → Prop) (h0 : S σ)
    (hs : ∀ H1, Ex H H1 → ∀ d ∈ ds, ∀ x σ' H', Ex H1 H' → Dp K H' x d → S σ' → tu { D with nx := fun σ2 H2 => S σ2 ∧ Ex H1 H2, ct := fun σ2 H2 => S σ2 ∧ Ex H1 H2, bk := tz D } (σ'.set j (some x)) H') (hd : ∀ σ' H', Ex H H' → S σ' → tz D σ' H') :
    tSeq (tFor (iList K te) (gName j) tu) tz D σ H := s_forLD (D := { D with nx := tz D }) h S h0 hs hd
/-! ### what is refused, by the data -/
def two (ds : List PyData) (k : PyData → PyData → Option Str) : Option Str :=
  match ds with
  | [a, b] => k a b
  | _ => none
def ifN (b : Bool) (s : Str) (r : Option Str) : Option Str := if b = true then r else some s
def is3 : PyData → Bool
  | .int i => decide (i = 3)
  | _ => false
def refW : Op → List PyData → Option Str
  | .quo, ds => two ds fun a b => ifN (isInteger a) "top" (ifN (isIntN b) "bottom" none)
  | .blocks, ds => two ds fun a b => if is3 a = true then ifN (isJ 3 b) "joining" none else none
  | .joining, ds => two ds fun a b => if is3 a = true then ifN (areB 3 b) "lots" none else none
  | .joined, [a, b, c] => if is3 a = true then ifN (isJ 3 b) "joining" (ifN (isJ 3 c) "other" none) else none
  | .joined, _ => none
  | _, ds => two ds fun a b => ifN (isQ a) "one" (ifN (isQ b) "other" none)
theorem two_some {ds : List PyData} {k : PyData → PyData → Option Str} {s : Str} (h : two ds k = some s) : ∃ a b, ds = [a, b] ∧ k a b = some s := by
  match ds, h with
  | [a, b], h => exact ⟨a, b, rfl, h⟩
  | [], h => cases h
  | [_], h => cases h
  | _ :: _ :: _ :: _, h => cases h
theorem ifN_some {b : Bool} {s t : Str} {r : Option Str} (h : ifN b s r = some t) : (b = false ∧ s = t) ∨ (b = true ∧ r = some t) := by
  cases b with
  | false => exact .inl ⟨rfl, Option.some.inj h⟩
  | true => exact .inr ⟨rfl, h⟩
theorem is3_eq : ∀ {d : PyData}, is3 d = true → d = .int 3
  | .int i, h => by rw [of_decide_eq_true h]
  | .none, h => by cases h
  | .bool _, h => by cases h
  | .str _, h => by cases h
  | .list _, h => by cases h
  | .tuple _, h => by cases h
  | .dict _, h => by cases h
theorem no_none {t : Str} (h : (none : Option Str) = some t) : False := by cases h
theorem dpAll_two {xs : List V} {a b : PyData} (h : DpAll K H xs [a, b]) : ∃ x y, xs = [x, y] ∧ Dp K H x a ∧ Dp K H y b := by
  cases h with
  | cons h1 h2 =>
    cases h2 with
    | cons h2 h3 =>
      cases h3
      exact ⟨_, _, rfl, h1, h2⟩
section
variable {C : Addr} {due : Str} {Q : VK} {E : XK} {xs : List V} {r : Addr}
theorem spq2_ref {bad : Int → Bool} {f : Int → Int → Int → Int → Int × Int} {a b : PyData} (h : ifN (isQ a) "one" (ifN (isQ b) "other" none) = some due) (ha : DpAll K H xs [a, b]) (n : NU C due H E) : spQ2 K C bad f xs H Q E := by
  obtain ⟨x, y, rfl, hx, hy⟩ := dpAll_two ha
  rcases ifN_some h with ⟨z, e⟩ | ⟨z, h⟩
  · subst e
    exact ⟨x, y, a, b, rfl, hx, hy, fun _ => n, fun z' => absurd (z.symm.trans z') (by decide), fun z' => absurd (z.symm.trans z') (by decide)⟩
  · rcases ifN_some h with ⟨y', e⟩ | ⟨_, h⟩
    · subst e
      exact ⟨x, y, a, b, rfl, hx, hy, fun z' => absurd (z.symm.trans z') (by decide), fun _ _ => n, fun _ z' => absurd (y'.symm.trans z') (by decide)⟩
    · cases h
theorem deed_ref : ∀ (o : Op) {ds : List PyData}, refW o ds = some due → DpAll K H xs ds → SqT K H r xs → NU C due H E → spDeed K C [.str o.nm, .ref r] H Q E := by
  intro o ds h ha hs n
  refine ⟨o, r, xs, rfl, hs, ?_⟩
  cases o with
  | plus =>
    obtain ⟨a, b, rfl, h⟩ := two_some h
    exact spq2_ref h ha n
  | minus =>
    obtain ⟨a, b, rfl, h⟩ := two_some h
    exact spq2_ref h ha n
  | times =>
    obtain ⟨a, b, rfl, h⟩ := two_some h
    exact spq2_ref h ha n
  | over =>
    obtain ⟨a, b, rfl, h⟩ := two_some h
    exact spq2_ref h ha n
  | less =>
    obtain ⟨a, b, rfl, h⟩ := two_some h
    obtain ⟨x, y, rfl, hx, hy⟩ := dpAll_two ha
    rcases ifN_some h with ⟨z, e⟩ | ⟨z, h⟩
    · subst e
      exact ⟨x, y, a, b, rfl, hx, hy, fun _ => n, fun z' => absurd (z.symm.trans z') (by decide), fun z' => absurd (z.symm.trans z') (by decide)⟩
    · rcases ifN_some h with ⟨y', e⟩ | ⟨_, h⟩
      · subst e
        exact ⟨x, y, a, b, rfl, hx, hy, fun z' => absurd (z.symm.trans z') (by decide), fun _ _ => n, fun _ z' => absurd (y'.symm.trans z') (by decide)⟩
      · cases h
  | quo =>
    obtain ⟨a, b, rfl, h⟩ := two_some h
    obtain ⟨x, y, rfl, hx, hy⟩ := dpAll_two ha
    rcases ifN_some h with ⟨z, e⟩ | ⟨z, h⟩
    · subst e
      exact ⟨x, y, a, b, rfl, hx, hy, fun _ => n, fun z' => absurd (z.symm.trans z') (by decide), fun z' => absurd (z.symm.trans z') (by decide)⟩
    · rcases ifN_some h with ⟨y', e⟩ | ⟨_, h⟩
      · subst e
        exact ⟨x, y, a, b, rfl, hx, hy, fun z' => absurd (z.symm.trans z') (by decide), fun _ _ => n, fun _ z' => absurd (y'.symm.trans z') (by decide)⟩
      · cases h
  | blocks =>
    obtain ⟨a, b, rfl, hk⟩ := two_some h
    obtain ⟨x, y, rfl, hx, hy⟩ := dpAll_two ha
    by_cases z3 : is3 a = true
    · rw [if_pos z3] at hk
      have e := is3_eq z3
      subst e
      cases dp_int_inv hx
      rcases ifN_some hk with ⟨z, e⟩ | ⟨z, h⟩
      · subst e
        exact ⟨3, y, b, rfl, by omega, hy, fun _ => n, fun z' => absurd (z.symm.trans z') (by decide)⟩
      · cases h
    · rw [if_neg z3] at hk
      cases hk
  | joining =>
    obtain ⟨a, b, rfl, hk⟩ := two_some h
    obtain ⟨x, y, rfl, hx, hy⟩ := dpAll_two ha
    by_cases z3 : is3 a = true
    · rw [if_pos z3] at hk
      have e := is3_eq z3
      subst e
      cases dp_int_inv hx
      rcases ifN_some hk with ⟨z, e⟩ | ⟨z, h⟩
      · subst e
        exact ⟨3, y, b, rfl, by omega, hy, fun _ => n, fun z' => absurd (z.symm.trans z') (by decide)⟩
      · cases h
    · rw [if_neg z3] at hk
      cases hk
  | joined =>
    match ds, h, ha with
    | [a, b, c], h, ha =>
      obtain ⟨x, y, w, rfl, hx, hy, hw⟩ : ∃ x y w, xs = [x, y, w] ∧ Dp K H x a ∧ Dp K H y b ∧ Dp K H w c := by
        cases ha with
        | cons h1 h2 =>
          obtain ⟨y, w, rfl, hy, hw⟩ := dpAll_two h2
          exact ⟨_, y, w, rfl, h1, hy, hw⟩
      have h : (if is3 a = true then ifN (isJ 3 b) "joining" (ifN (isJ 3 c) "other" none) else none) = some due := h
      by_cases z3 : is3 a = true
      · rw [if_pos z3] at h
        have e := is3_eq z3
        subst e
        cases dp_int_inv hx
        rcases ifN_some h with ⟨z, e⟩ | ⟨z, h⟩
        · subst e
          exact ⟨3, y, w, b, c, rfl, by omega, hy, hw, fun _ => n, fun z' => absurd (z.symm.trans z') (by decide), fun z' => absurd (z.symm.trans z') (by decide)⟩
        · rcases ifN_some h with ⟨y', e⟩ | ⟨_, h⟩
          · subst e
            exact ⟨3, y, w, b, c, rfl, by omega, hy, hw, fun z' => absurd (z.symm.trans z') (by decide), fun _ _ => n, fun _ z' => absurd (y'.symm.trans z') (by decide)⟩
          · cases h
      · rw [if_neg z3] at h
        cases h
    | [], h, _ => cases h
    | [_], h, _ => cases h
    | [_, _], h, _ => cases h
    | _ :: _ :: _ :: _ :: _, h, _ => cases h
theorem ev_refused {o : Op} {ds : List PyData} (h1 : Ev t1 σ H (.str o.nm)) (h2 : EvD K t2 σ H (.tuple ds)) (hb : refW o ds = some due) : Ev (tCall (spRefused K C) [] E (tCons t1 (tCons t2 (tCons (tC (.str due)) tNil)))) σ H (.bl true) := fun H1 e1 Q q =>
  h1 H1 e1 _ fun H2 e2 => h2 H2 (e1.trans e2) _ fun v H3 e3 hv => by
    obtain ⟨r, xs, rfl, hs, ha⟩ := dp_tup_inv hv
    exact ⟨o.nm, due, r, rfl, fun Q' E' nu => deed_ref o hb ha hs nu, fun H4 e4 => q H4 (e2.trans (e3.trans e4))⟩
end
end
end K1
namespace K1
open PySem PySem.Spec PyProof.Rows L2 Evl
def rd0 : List PyData := [.none, .bool true, .int 3, .str "1", .tuple [], .tuple [.int 1], .tuple [.int 1, .int 2, .int 3], .list [.int 1, .int 2], .tuple [.int 2, .int 4], .tuple [.int 0, .int 2], .tuple [.int 1, .int 0], .tuple [.int 1, .int (-2)], .tuple [.bool true, .int 2], .tuple [.int 1, .bool true]]
def rd1 : List PyData := [.tuple [.tuple [.int 1, .int 2], .tuple [.int 1, .int 2]], .tuple [.int (-2), .int 2], .tuple [.int 0, .int 0], .tuple [.int 3, .none]]
def rd2 : List PyData := [.none, .bool true, .bool false, .str "1", .tuple [.int 1, .int 2], .list [.int 1], .tuple []]
def rd3 : List PyData := [.tuple [.int 0, .int 0, .int 1], .tuple [.int 0, .int 1], .tuple [.int 0, .int 1, .int 2, .int 3], .tuple [.int 1, .int 1, .int 1], .tuple [.int 0, .int 2, .int 2], .tuple [.int 0, .int 1, .bool true], .tuple [.int 0, .bool false, .int 2], .list [.int 0, .int 1, .int 2], .none, .int 5]
def rd4 : List PyData := [.str "012", .tuple [.int 0, .int (-1), .int 2], .tuple [.int 0, .int 0, .int 3], .tuple [], .tuple [.int 0, .int 0, .none], .tuple [.tuple [.int 0, .int 1], .tuple [.int 2]]]
def rd5 : List PyData := [.tuple [.tuple [.int 0, .int 1]], .tuple [.tuple [.int 0, .int 1], .tuple [.int 2], .tuple [.int 2]], .tuple [.tuple [.int 0, .int 1], .tuple [.int 1, .int 2]], .tuple [.tuple [.int 1, .int 0], .tuple [.int 2]], .tuple [.tuple [.int 0, .int 1, .int 2], .tuple []], .list [.tuple [.int 0, .int 1, .int 2]], .tuple [.int 0, .int 1, .int 2]]
def rd6 : List PyData := [.tuple [.list [.int 0, .int 1, .int 2]], .tuple [.tuple [.int 0, .int 1], .tuple [.int 2], .tuple [.int 3]], .none, .tuple [.tuple [.int 0, .bool true], .tuple [.int 2]], .tuple [.tuple [.int 0, .int 0, .int 1], .tuple [.int 2]], .tuple [], .int 0, .str "012", .tuple [.tuple []]]
def rd7 : List PyData := [.tuple [.tuple [.int (-1), .int 0, .int 1, .int 2]], .tuple [.tuple [.int 0, .int 1], .int 2], .tuple [.tuple [.int 0, .int 1], .list [.int 2]]]
def ops5 : List Op := [.plus, .minus, .times, .over, .less]
def nms5 : List PyData := [.str "plus", .str "minus", .str "times", .str "over", .str "less"]
theorem in_nms {d : PyData} (h : d ∈ nms5) : ∃ o ∈ ops5, d = .str o.nm := by
  rcases List.mem_cons.mp h with h | h
  · exact ⟨.plus, by simp [ops5], h⟩
  rcases List.mem_cons.mp h with h | h
  · exact ⟨.minus, by simp [ops5], h⟩
  rcases List.mem_cons.mp h with h | h
  · exact ⟨.times, by simp [ops5], h⟩
  rcases List.mem_cons.mp h with h | h
  · exact ⟨.over, by simp [ops5], h⟩
  rcases List.mem_cons.mp h with h | h
  · exact ⟨.less, by simp [ops5], h⟩
  · cases h
theorem chk_a : ∀ o ∈ ops5, ∀ d ∈ rd0 ++ rd1, refW o [d, .tuple [.int 1, .int 2]] = some "one" := by decide +kernel
theorem chk_b : ∀ o ∈ ops5, ∀ d ∈ rd0 ++ rd1, refW o [.tuple [.int 0, .int 1], d] = some "other" := by decide +kernel
theorem chk_c : ∀ o ∈ ops5, ∀ d ∈ rd0 ++ rd1, refW o [d, d] = some "one" := by decide +kernel
theorem chk_d : ∀ d ∈ rd2, refW .quo [d, .int 0] = some "top" := by decide +kernel
theorem chk_e : ∀ d ∈ rd2, refW .quo [.int 0, d] = some "bottom" := by decide +kernel
theorem chk_f : ∀ d ∈ rd3 ++ rd4, refW .blocks [.int 3, d] = some "joining" := by decide +kernel
theorem chk_g : ∀ d ∈ rd3 ++ rd4, refW .joined [.int 3, d, d] = some "joining" := by decide +kernel
theorem chk_h : ∀ d ∈ rd3 ++ rd4, refW .joined [.int 3, .tuple [.int 0, .int 0, .int 2], d] = some "other" := by decide +kernel
theorem chk_i : ∀ d ∈ rd5 ++ rd6 ++ rd7, refW .joining [.int 3, d] = some "lots" := by decide +kernel
theorem chk_j : refW .quo [.int 5, .int 0] = some "bottom" := by decide +kernel
section
variable {P : Program} {w : World} {K : PySem.W.Frag} {mg : Str → Option Value} {base : Heap} {C fI cW cL cP : Addr}
section
variable {σ : L2.St} {H : Hp} {t1 t2 t3 : TE}
theorem ed_two {te t2 : TE} {a b : PyData} (h1 : EvD K te σ H a) (h2 : EvD K t2 σ H b) : EvD K (tTup (tCons te (tCons t2 tNil))) σ H (.tuple [a, b]) := ed_tup (eds_cons h1 (eds_cons h2 eds_nil)) (by show 2 ≤ 100000; decide)
theorem ed_three {te t2 t3 : TE} {a b c : PyData} (h1 : EvD K te σ H a) (h2 : EvD K t2 σ H b) (h3 : EvD K t3 σ H c) : EvD K (tTup (tCons te (tCons t2 (tCons t3 tNil)))) σ H (.tuple [a, b, c]) := ed_tup (eds_cons h1 (eds_cons h2 (eds_cons h3 eds_nil))) (by show 3 ≤ 100000; decide)
theorem ed_one {te : TE} {a : PyData} (h1 : EvD K te σ H a) : EvD K (tTup (tCons te tNil)) σ H (.tuple [a]) := ed_tup (eds_cons h1 eds_nil) (by show 1 ≤ 100000; decide)
theorem eu_joiningD {m : Nat} {lots : List (List Nat)} {E : XK} (hm : m ≤ 1000) (h1 : Ev t1 σ H (.int (m : Int))) (h2 : EvD K t2 σ H (dLots lots)) (hb : areB m (dLots lots) = true) (hl : ∀ l ∈ lots, l ≠ [] ∧ ∀ p ∈ l, p < m) :
    EvU (tCall (spJoiningOf K C) [] E (tCons t1 (tCons t2 tNil))) σ H ((fillTo m lots).map nV) := fun H1 e1 Q q =>
  h1 H1 e1 _ fun H2 e2 => h2 H2 (e1.trans e2) _ fun v H3 e3 hv => ⟨m, v, _, rfl, hm, hv, fun z => absurd (hb.symm.trans z) (by decide), fun _ => ⟨lots, rfl, hl, fun p H4 hp e4 hx => q p H4 (fresh_back (e2.trans e3) hp) (e2.trans (e3.trans e4)) hx⟩⟩
theorem ev_rowUU {l : List Nat} {E : XK} (h1 : EvU t1 σ H (l.map nV)) (h2 : EvU t2 σ H (l.map nV)) (hl : l.length ≤ 40000) : Ev (tCall (spRow K) [] E (tCons t1 (tCons t2 tNil))) σ H (.bl true) := fun H1 e1 Q k =>
  h1 H1 e1 _ fun p H2 hp e2 hx => h2 H2 (e1.trans e2) _ fun r H3 hr e3 hy => ⟨.ref p, r, l, rfl, dTup_of (st_of (e3 _ _ hx)), .inr (st_of hy), hl, fun H4 e4 => k H4 (e2.trans (e3.trans e4))⟩
theorem eu_quo {t b : Int} {E : XK} (h1 : Ev t1 σ H (.int t)) (h2 : Ev t2 σ H (.int b)) (hb : b ≠ 0) (hs : b.natAbs < 2 ^ 130) : EvU (tCall (spQuotientOf K C) [] E (tCons t1 (tCons t2 tNil))) σ H [.int (low t b).1, .int (low t b).2] :=
  eu_call (ea_cons h1 (ea_cons h2 ea_nil)) fun H1 e1 Q q E' => ⟨.int t, .int b, .int t, .int b, rfl, .int _, .int _, fun z => Bool.noConfusion (show true = false from z), fun _ z => (by
    have : (isInteger (.int b) && !decide (b = 0)) = false := z
    rw [decide_eq_false hb] at this
    cases this), fun _ _ => ⟨t, b, rfl, rfl, hs, q⟩⟩
end
def spNone : Sp := fun vs H Q _ => vs = [] ∧ RetV (.bl true) H Q
theorem ok_refusals (D : Dfn K mg "_law_refusals" s_law_refusals) (G_law_refused : Cal P w K mg base CX0 7 "_law_refused" ["_law_deed_here", "_law_row_here", "_law_due"] (spRefused K C)) (G_law_row : Cal P w K mg base CX0 2 "_law_row" ["_law_got", "_law_due"] (spRow K))
    (G_joining_of : Cal P w K mg base (L2N.CX P w) 4 "joining_of" ["many", "lots"] (spJoiningOf K C)) (G_quotient_of : Cal P w K mg base (L2N.CX P w) 4 "quotient_of" ["top", "bottom"] (spQuotientOf K C))
    (G_law_stands : Cal P w K mg base CX0 2 "_law_stands" ["_law_got", "_law_high", "_law_low"] (spStands K)) : Cal P w K mg base CX0 8 "_law_refusals" [] spNone := by
  refine mkCal D (fun _ _ _ _ _ _ us hl => match us, hl with | [], _ => rfl) fun fa fd F => ?_
  refine F.ok sc_law_refusals (fun vs H Q E h => ?_) (fun cdv A outer s H vs Q E hr h => ?_)
  · obtain ⟨rfl, _⟩ := h
    rfl
  · obtain ⟨rfl, q⟩ := h
    refine ⟨_, ((pss_cons (ps_set (i := 0) sc_law_refusals.nd rfl (.inl rfl) (pe_lst (pa_cons pe_non (pa_cons pe_bl (pa_cons pe_int (pa_cons pe_str (pa_cons (pe_tup pa_nil) (pa_cons (pe_tup (pa_cons pe_int pa_nil)) (pa_cons (pe_tup (pa_cons pe_int (pa_cons pe_int (pa_cons pe_int pa_nil)))) (pa_cons (pe_lst (pa_cons pe_int (pa_cons pe_int pa_nil))) (pa_cons (pe_tup (pa_cons pe_int (pa_cons pe_int pa_nil))) (pa_cons (pe_tup (pa_cons pe_int (pa_cons pe_int pa_nil))) (pa_cons (pe_tup (pa_cons pe_int (pa_cons pe_int pa_nil))) (pa_cons (pe_tup (pa_cons pe_int (pa_cons (pe_un un_neg pe_int) pa_nil))) (pa_cons (pe_tup (pa_cons pe_bl (pa_cons pe_int pa_nil))) (pa_cons (pe_tup (pa_cons pe_int (pa_cons pe_bl pa_nil))) pa_nil))))))))))))))))
      (pss_cons (ps_for PassesOwn.never rfl (pi_list (pe_op op_cat (pv 0) (pe_lst (pa_cons (pe_tup (pa_cons (pe_tup (pa_cons pe_int (pa_cons pe_int pa_nil))) (pa_cons (pe_tup (pa_cons pe_int (pa_cons pe_int pa_nil))) pa_nil))) (pa_cons (pe_tup (pa_cons (pe_un un_neg pe_int) (pa_cons pe_int pa_nil))) (pa_cons (pe_tup (pa_cons pe_int (pa_cons pe_int pa_nil))) (pa_cons (pe_tup (pa_cons pe_int (pa_cons pe_non pa_nil))) pa_nil))))))) (pg_name (i := 1) sc_law_refusals.nd rfl (.inl rfl)) (pss_one (ps_for PassesOwn.never rfl (pi_list (pe_lst (pa_cons pe_str (pa_cons pe_str (pa_cons pe_str (pa_cons pe_str (pa_cons pe_str pa_nil))))))) (pg_name (i := 2) sc_law_refusals.nd rfl (.inl rfl)) (pss_cons (ps_if (PW.pt (pw_or (pt_not (pt_val (pcal G_law_refused hr pass0 (pa_cons (pv 2) (pa_cons (pe_tup (pa_cons (pv 1) (pa_cons (pe_tup (pa_cons pe_int (pa_cons pe_int pa_nil))) pa_nil))) (pa_cons pe_str pa_nil)))))) (pw_or1 (pt_not (pt_val (pcal G_law_refused hr pass0 (pa_cons (pv 2) (pa_cons (pe_tup (pa_cons (pe_tup (pa_cons pe_int (pa_cons pe_int pa_nil))) (pa_cons (pv 1) pa_nil))) (pa_cons pe_str pa_nil))))))))) (pss_one (ps_ret pe_bl)) pss_nil)
      (pss_one (ps_if (pt_not (pt_val (pcal G_law_refused hr pass0 (pa_cons (pv 2) (pa_cons (pe_tup (pa_cons (pv 1) (pa_cons (pv 1) pa_nil))) (pa_cons pe_str pa_nil)))))) (pss_one (ps_ret pe_bl)) pss_nil))))))
      (pss_cons (ps_for PassesOwn.never rfl (pi_list (pe_lst (pa_cons pe_non (pa_cons pe_bl (pa_cons pe_bl (pa_cons pe_str (pa_cons (pe_tup (pa_cons pe_int (pa_cons pe_int pa_nil))) (pa_cons (pe_lst (pa_cons pe_int pa_nil)) (pa_cons (pe_tup pa_nil) pa_nil))))))))) (pg_name (i := 1) sc_law_refusals.nd rfl (.inl rfl)) (pss_one (ps_if (PW.pt (pw_or (pt_not (pt_val (pcal G_law_refused hr pass0 (pa_cons pe_str (pa_cons (pe_tup (pa_cons (pv 1) (pa_cons pe_int pa_nil))) (pa_cons pe_str pa_nil)))))) (pw_or1 (pt_not (pt_val (pcal G_law_refused hr pass0 (pa_cons pe_str (pa_cons (pe_tup (pa_cons pe_int (pa_cons (pv 1) pa_nil))) (pa_cons pe_str pa_nil))))))))) (pss_one (ps_ret pe_bl)) pss_nil)))
      (pss_cons (ps_set (i := 0) sc_law_refusals.nd rfl (.inl rfl) (pe_lst (pa_cons (pe_tup (pa_cons pe_int (pa_cons pe_int (pa_cons pe_int pa_nil)))) (pa_cons (pe_tup (pa_cons pe_int (pa_cons pe_int pa_nil))) (pa_cons (pe_tup (pa_cons pe_int (pa_cons pe_int (pa_cons pe_int (pa_cons pe_int pa_nil))))) (pa_cons (pe_tup (pa_cons pe_int (pa_cons pe_int (pa_cons pe_int pa_nil)))) (pa_cons (pe_tup (pa_cons pe_int (pa_cons pe_int (pa_cons pe_int pa_nil)))) (pa_cons (pe_tup (pa_cons pe_int (pa_cons pe_int (pa_cons pe_bl pa_nil)))) (pa_cons (pe_tup (pa_cons pe_int (pa_cons pe_bl (pa_cons pe_int pa_nil)))) (pa_cons (pe_lst (pa_cons pe_int (pa_cons pe_int (pa_cons pe_int pa_nil)))) (pa_cons pe_non (pa_cons pe_int pa_nil))))))))))))
      (pss_cons (ps_for PassesOwn.never rfl (pi_list (pe_op op_cat (pv 0) (pe_lst (pa_cons pe_str (pa_cons (pe_tup (pa_cons pe_int (pa_cons (pe_un un_neg pe_int) (pa_cons pe_int pa_nil)))) (pa_cons (pe_tup (pa_cons pe_int (pa_cons pe_int (pa_cons pe_int pa_nil)))) (pa_cons (pe_tup pa_nil) (pa_cons (pe_tup (pa_cons pe_int (pa_cons pe_int (pa_cons pe_non pa_nil)))) (pa_cons (pe_tup (pa_cons (pe_tup (pa_cons pe_int (pa_cons pe_int pa_nil))) (pa_cons (pe_tup (pa_cons pe_int pa_nil)) pa_nil))) pa_nil))))))))) (pg_name (i := 1) sc_law_refusals.nd rfl (.inl rfl)) (pss_cons (ps_if (pt_not (pt_val (pcal G_law_refused hr pass0 (pa_cons pe_str (pa_cons (pe_tup (pa_cons pe_int (pa_cons (pv 1) pa_nil))) (pa_cons pe_str pa_nil)))))) (pss_one (ps_ret pe_bl)) pss_nil)
      (pss_cons (ps_if (pt_not (pt_val (pcal G_law_refused hr pass0 (pa_cons pe_str (pa_cons (pe_tup (pa_cons pe_int (pa_cons (pv 1) (pa_cons (pv 1) pa_nil)))) (pa_cons pe_str pa_nil)))))) (pss_one (ps_ret pe_bl)) pss_nil)
      (pss_one (ps_if (pt_not (pt_val (pcal G_law_refused hr pass0 (pa_cons pe_str (pa_cons (pe_tup (pa_cons pe_int (pa_cons (pe_tup (pa_cons pe_int (pa_cons pe_int (pa_cons pe_int pa_nil)))) (pa_cons (pv 1) pa_nil)))) (pa_cons pe_str pa_nil)))))) (pss_one (ps_ret pe_bl)) pss_nil)))))
      (pss_cons (ps_set (i := 0) sc_law_refusals.nd rfl (.inl rfl) (pe_lst (pa_cons (pe_tup (pa_cons (pe_tup (pa_cons pe_int (pa_cons pe_int pa_nil))) pa_nil)) (pa_cons (pe_tup (pa_cons (pe_tup (pa_cons pe_int (pa_cons pe_int pa_nil))) (pa_cons (pe_tup (pa_cons pe_int pa_nil)) (pa_cons (pe_tup (pa_cons pe_int pa_nil)) pa_nil)))) (pa_cons (pe_tup (pa_cons (pe_tup (pa_cons pe_int (pa_cons pe_int pa_nil))) (pa_cons (pe_tup (pa_cons pe_int (pa_cons pe_int pa_nil))) pa_nil))) (pa_cons (pe_tup (pa_cons (pe_tup (pa_cons pe_int (pa_cons pe_int pa_nil))) (pa_cons (pe_tup (pa_cons pe_int pa_nil)) pa_nil))) (pa_cons (pe_tup (pa_cons (pe_tup (pa_cons pe_int (pa_cons pe_int (pa_cons pe_int pa_nil)))) (pa_cons (pe_tup pa_nil) pa_nil))) (pa_cons (pe_lst (pa_cons (pe_tup (pa_cons pe_int (pa_cons pe_int (pa_cons pe_int pa_nil)))) pa_nil)) (pa_cons (pe_tup (pa_cons pe_int (pa_cons pe_int (pa_cons pe_int pa_nil)))) pa_nil)))))))))
      (pss_cons (ps_set (i := 0) sc_law_refusals.nd rfl (.inl rfl) (pe_op op_cat (pv 0) (pe_lst (pa_cons (pe_tup (pa_cons (pe_lst (pa_cons pe_int (pa_cons pe_int (pa_cons pe_int pa_nil)))) pa_nil)) (pa_cons (pe_tup (pa_cons (pe_tup (pa_cons pe_int (pa_cons pe_int pa_nil))) (pa_cons (pe_tup (pa_cons pe_int pa_nil)) (pa_cons (pe_tup (pa_cons pe_int pa_nil)) pa_nil)))) (pa_cons pe_non (pa_cons (pe_tup (pa_cons (pe_tup (pa_cons pe_int (pa_cons pe_bl pa_nil))) (pa_cons (pe_tup (pa_cons pe_int pa_nil)) pa_nil))) (pa_cons (pe_tup (pa_cons (pe_tup (pa_cons pe_int (pa_cons pe_int (pa_cons pe_int pa_nil)))) (pa_cons (pe_tup (pa_cons pe_int pa_nil)) pa_nil))) (pa_cons (pe_tup pa_nil) (pa_cons pe_int (pa_cons pe_str (pa_cons (pe_tup (pa_cons (pe_tup pa_nil) pa_nil)) pa_nil))))))))))))
      (pss_cons (ps_for PassesOwn.never rfl (pi_list (pe_op op_cat (pv 0) (pe_lst (pa_cons (pe_tup (pa_cons (pe_tup (pa_cons (pe_un un_neg pe_int) (pa_cons pe_int (pa_cons pe_int (pa_cons pe_int pa_nil))))) pa_nil)) (pa_cons (pe_tup (pa_cons (pe_tup (pa_cons pe_int (pa_cons pe_int pa_nil))) (pa_cons pe_int pa_nil))) (pa_cons (pe_tup (pa_cons (pe_tup (pa_cons pe_int (pa_cons pe_int pa_nil))) (pa_cons (pe_lst (pa_cons pe_int pa_nil)) pa_nil))) pa_nil)))))) (pg_name (i := 1) sc_law_refusals.nd rfl (.inl rfl)) (pss_one (ps_if (pt_not (pt_val (pcal G_law_refused hr pass0 (pa_cons pe_str (pa_cons (pe_tup (pa_cons pe_int (pa_cons (pv 1) pa_nil))) (pa_cons pe_str pa_nil)))))) (pss_one (ps_ret pe_bl)) pss_nil)))
      (pss_cons (ps_if (PW.pt (pw_or (pt_not (pt_val (pcal G_law_row hr pass0 (pa_cons (pcal G_joining_of hr passN (pa_cons pe_int (pa_cons (pe_tup (pa_cons (pe_tup (pa_cons pe_int pa_nil)) (pa_cons (pe_tup (pa_cons pe_int (pa_cons pe_int pa_nil))) pa_nil))) pa_nil))) (pa_cons (pe_tup (pa_cons pe_int (pa_cons pe_int (pa_cons pe_int pa_nil)))) pa_nil))))) (pw_or1 (pt_not (pt_val (pcal G_law_row hr pass0 (pa_cons (pcal G_joining_of hr passN (pa_cons pe_int (pa_cons (pe_tup (pa_cons (pe_tup (pa_cons pe_int (pa_cons pe_int (pa_cons pe_int pa_nil)))) pa_nil)) pa_nil))) (pa_cons (pe_tup (pa_cons pe_int (pa_cons pe_int (pa_cons pe_int pa_nil)))) pa_nil)))))))) (pss_one (ps_ret pe_bl)) pss_nil)
      (pss_one (ps_ret (pe_and (pcal G_law_refused hr pass0 (pa_cons pe_str (pa_cons (pe_tup (pa_cons pe_int (pa_cons pe_int pa_nil))) (pa_cons pe_str pa_nil)))) (pe_one (pcal G_law_stands hr pass0 (pa_cons (pcal G_quotient_of hr passN (pa_cons pe_int (pa_cons (pe_un un_neg pe_int) pa_nil))) (pa_cons pe_int (pa_cons pe_int pa_nil)))))))))))))))))), ?_⟩
    refine q_asgLD (eld_lst (K := K) (ds := rd0) (eds_cons ed_non (eds_cons ed_bl (eds_cons ed_int (eds_cons ed_str (eds_cons (ed_tup eds_nil (by show 0 ≤ 100000; decide)) (eds_cons (ed_tup (eds_cons ed_int eds_nil) (by show 1 ≤ 100000; decide)) (eds_cons (ed_tup (eds_cons ed_int (eds_cons ed_int (eds_cons ed_int eds_nil))) (by show 3 ≤ 100000; decide)) (eds_cons (ed_lst (eds_cons ed_int (eds_cons ed_int eds_nil)) (by show 2 ≤ 100000; decide)) (eds_cons (ed_tup (eds_cons ed_int (eds_cons ed_int eds_nil)) (by show 2 ≤ 100000; decide)) (eds_cons (ed_tup (eds_cons ed_int (eds_cons ed_int eds_nil)) (by show 2 ≤ 100000; decide)) (eds_cons (ed_tup (eds_cons ed_int (eds_cons ed_int eds_nil)) (by show 2 ≤ 100000; decide)) (eds_cons (ed_tup (eds_cons ed_int (eds_cons ed_neg eds_nil)) (by show 2 ≤ 100000; decide)) (eds_cons (ed_tup (eds_cons ed_bl (eds_cons ed_int eds_nil)) (by show 2 ≤ 100000; decide)) (eds_cons (ed_tup (eds_cons ed_int (eds_cons ed_bl eds_nil)) (by show 2 ≤ 100000; decide)) eds_nil)))))))))))))) (by show 14 ≤ 100000; decide)) fun p0 H1 e1 h0 => ?_
    refine q_forLD (eld_cat (eld_var rfl h0) (eld_lst (K := K) (ds := rd1) (eds_cons (ed_tup (eds_cons (ed_tup (eds_cons ed_int (eds_cons ed_int eds_nil)) (by show 2 ≤ 100000; decide)) (eds_cons (ed_tup (eds_cons ed_int (eds_cons ed_int eds_nil)) (by show 2 ≤ 100000; decide)) eds_nil)) (by show 2 ≤ 100000; decide)) (eds_cons (ed_tup (eds_cons ed_neg (eds_cons ed_int eds_nil)) (by show 2 ≤ 100000; decide)) (eds_cons (ed_tup (eds_cons ed_int (eds_cons ed_int eds_nil)) (by show 2 ≤ 100000; decide)) (eds_cons (ed_tup (eds_cons ed_int (eds_cons ed_non eds_nil)) (by show 2 ≤ 100000; decide)) eds_nil)))) (by show 4 ≤ 100000; decide)) (by show 18 ≤ 100000; decide)) (fun σ' => ∃ y1 y2, σ' = [some (.ref p0), y1, y2]) ⟨none, none, rfl⟩ (fun H2 e2 d hd x σ' H3 e3 hx hS => ?_) fun σ' H3 e3 hS => ?_
    · obtain ⟨y1, y2, rfl⟩ := hS
      refine s_forLD (eld_lst (ds := nms5) (eds_cons ed_str (eds_cons ed_str (eds_cons ed_str (eds_cons ed_str (eds_cons ed_str eds_nil))))) (by show 5 ≤ 100000; decide)) (fun σ' => ∃ y2, σ' = [some (.ref p0), some x, y2]) ⟨y2, rfl⟩ (fun H4 e4 dd hdd y σ2 H5 e5 hy hS => ?_) fun σ2 H4 e4 hS => ?_
      · obtain ⟨y2, rfl⟩ := hS
        obtain ⟨o, ho, rfl⟩ := in_nms hdd
        cases hy
        have hx5 := dp_mono (e4.trans e5) _ _ hx
        refine q_when (et_or (et_not (et_test (ev_refused (ev_var rfl) (ed_two (ed_ev (ev_var rfl) hx5) (ed_two ed_int ed_int)) (chk_a o ho d hd)))) fun _ => et_not (et_test (ev_refused (ev_var rfl) (ed_two (ed_two ed_int ed_int) (ed_ev (ev_var rfl) hx5)) (chk_b o ho d hd))))
          (fun z => Bool.noConfusion z) fun _ H6 e6 => ?_
        have hx6 := dp_mono e6 _ _ hx5
        exact s_when (et_not (et_test (ev_refused (ev_var rfl) (ed_two (ed_ev (ev_var rfl) hx6) (ed_ev (ev_var rfl) hx6)) (chk_c o ho d hd)))) (fun z => Bool.noConfusion z) fun _ H7 e7 => ⟨⟨_, rfl⟩, e5.trans (e6.trans e7)⟩
      · obtain ⟨y2, rfl⟩ := hS
        exact ⟨⟨_, _, rfl⟩, e3.trans e4⟩
    obtain ⟨y1, y2, rfl⟩ := hS
    have ea := e1.trans e3
    refine q_forLD (eld_lst (K := K) (ds := rd2) (eds_cons ed_non (eds_cons ed_bl (eds_cons ed_bl (eds_cons ed_str (eds_cons (ed_tup (eds_cons ed_int (eds_cons ed_int eds_nil)) (by show 2 ≤ 100000; decide)) (eds_cons (ed_lst (eds_cons ed_int eds_nil) (by show 1 ≤ 100000; decide)) (eds_cons (ed_tup eds_nil (by show 0 ≤ 100000; decide)) eds_nil))))))) (by show 7 ≤ 100000; decide)) (fun σ' => ∃ y1, σ' = [some (.ref p0), y1, y2]) ⟨_, rfl⟩ (fun H4 e4 d hd x σ' H5 e5 hx hS => ?_) fun σ' H5 e5 hS => ?_
    · obtain ⟨y1, rfl⟩ := hS
      exact s_when (et_or (et_not (et_test (ev_refused (o := .quo) ev_c (ed_two (ed_ev (ev_var rfl) hx) ed_int) (chk_d d hd)))) fun _ => et_not (et_test (ev_refused (o := .quo) ev_c (ed_two ed_int (ed_ev (ev_var rfl) hx)) (chk_e d hd))))
          (fun z => Bool.noConfusion z) fun _ H6 e6 => ⟨⟨_, rfl⟩, e5.trans e6⟩
    obtain ⟨y1, rfl⟩ := hS
    have eb := ea.trans e5
    refine q_asgLD (eld_lst (K := K) (ds := rd3) (eds_cons (ed_tup (eds_cons ed_int (eds_cons ed_int (eds_cons ed_int eds_nil))) (by show 3 ≤ 100000; decide)) (eds_cons (ed_tup (eds_cons ed_int (eds_cons ed_int eds_nil)) (by show 2 ≤ 100000; decide)) (eds_cons (ed_tup (eds_cons ed_int (eds_cons ed_int (eds_cons ed_int (eds_cons ed_int eds_nil)))) (by show 4 ≤ 100000; decide)) (eds_cons (ed_tup (eds_cons ed_int (eds_cons ed_int (eds_cons ed_int eds_nil))) (by show 3 ≤ 100000; decide)) (eds_cons (ed_tup (eds_cons ed_int (eds_cons ed_int (eds_cons ed_int eds_nil))) (by show 3 ≤ 100000; decide)) (eds_cons (ed_tup (eds_cons ed_int (eds_cons ed_int (eds_cons ed_bl eds_nil))) (by show 3 ≤ 100000; decide)) (eds_cons (ed_tup (eds_cons ed_int (eds_cons ed_bl (eds_cons ed_int eds_nil))) (by show 3 ≤ 100000; decide)) (eds_cons (ed_lst (eds_cons ed_int (eds_cons ed_int (eds_cons ed_int eds_nil))) (by show 3 ≤ 100000; decide)) (eds_cons ed_non (eds_cons ed_int eds_nil)))))))))) (by show 10 ≤ 100000; decide)) fun p1 H6 e6 h1 => ?_
    refine q_forLD (eld_cat (eld_var rfl h1) (eld_lst (K := K) (ds := rd4) (eds_cons ed_str (eds_cons (ed_tup (eds_cons ed_int (eds_cons ed_neg (eds_cons ed_int eds_nil))) (by show 3 ≤ 100000; decide)) (eds_cons (ed_tup (eds_cons ed_int (eds_cons ed_int (eds_cons ed_int eds_nil))) (by show 3 ≤ 100000; decide)) (eds_cons (ed_tup eds_nil (by show 0 ≤ 100000; decide)) (eds_cons (ed_tup (eds_cons ed_int (eds_cons ed_int (eds_cons ed_non eds_nil))) (by show 3 ≤ 100000; decide)) (eds_cons (ed_tup (eds_cons (ed_tup (eds_cons ed_int (eds_cons ed_int eds_nil)) (by show 2 ≤ 100000; decide)) (eds_cons (ed_tup (eds_cons ed_int eds_nil) (by show 1 ≤ 100000; decide)) eds_nil)) (by show 2 ≤ 100000; decide)) eds_nil)))))) (by show 6 ≤ 100000; decide)) (by show 16 ≤ 100000; decide)) (fun σ' => ∃ y1, σ' = [some (.ref p1), y1, y2]) ⟨_, rfl⟩ (fun H7 e7 d hd x σ' H8 e8 hx hS => ?_) fun σ' H8 e8 hS => ?_
    · obtain ⟨y1, rfl⟩ := hS
      refine q_when (et_not (et_test (ev_refused (o := .blocks) ev_c (ed_two ed_int (ed_ev (ev_var rfl) hx)) (chk_f d hd)))) (fun z => Bool.noConfusion z) fun _ H9 e9 => ?_
      have hx9 := dp_mono e9 _ _ hx
      refine q_when (et_not (et_test (ev_refused (o := .joined) ev_c (ed_three ed_int (ed_ev (ev_var rfl) hx9) (ed_ev (ev_var rfl) hx9)) (chk_g d hd)))) (fun z => Bool.noConfusion z) fun _ H10 e10 => ?_
      have hx10 := dp_mono e10 _ _ hx9
      exact s_when (et_not (et_test (ev_refused (o := .joined) ev_c (ed_three ed_int (ed_three ed_int ed_int ed_int) (ed_ev (ev_var rfl) hx10)) (chk_h d hd)))) (fun z => Bool.noConfusion z) fun _ H11 e11 => ⟨⟨_, rfl⟩, e8.trans (e9.trans (e10.trans e11))⟩
    obtain ⟨y1, rfl⟩ := hS
    have ec := eb.trans (e6.trans e8)
    refine q_asgLD (eld_lst (K := K) (ds := rd5) (eds_cons (ed_tup (eds_cons (ed_tup (eds_cons ed_int (eds_cons ed_int eds_nil)) (by show 2 ≤ 100000; decide)) eds_nil) (by show 1 ≤ 100000; decide)) (eds_cons (ed_tup (eds_cons (ed_tup (eds_cons ed_int (eds_cons ed_int eds_nil)) (by show 2 ≤ 100000; decide)) (eds_cons (ed_tup (eds_cons ed_int eds_nil) (by show 1 ≤ 100000; decide)) (eds_cons (ed_tup (eds_cons ed_int eds_nil) (by show 1 ≤ 100000; decide)) eds_nil))) (by show 3 ≤ 100000; decide)) (eds_cons (ed_tup (eds_cons (ed_tup (eds_cons ed_int (eds_cons ed_int eds_nil)) (by show 2 ≤ 100000; decide)) (eds_cons (ed_tup (eds_cons ed_int (eds_cons ed_int eds_nil)) (by show 2 ≤ 100000; decide)) eds_nil)) (by show 2 ≤ 100000; decide)) (eds_cons (ed_tup (eds_cons (ed_tup (eds_cons ed_int (eds_cons ed_int eds_nil)) (by show 2 ≤ 100000; decide)) (eds_cons (ed_tup (eds_cons ed_int eds_nil) (by show 1 ≤ 100000; decide)) eds_nil)) (by show 2 ≤ 100000; decide)) (eds_cons (ed_tup (eds_cons (ed_tup (eds_cons ed_int (eds_cons ed_int (eds_cons ed_int eds_nil))) (by show 3 ≤ 100000; decide)) (eds_cons (ed_tup eds_nil (by show 0 ≤ 100000; decide)) eds_nil)) (by show 2 ≤ 100000; decide)) (eds_cons (ed_lst (eds_cons (ed_tup (eds_cons ed_int (eds_cons ed_int (eds_cons ed_int eds_nil))) (by show 3 ≤ 100000; decide)) eds_nil) (by show 1 ≤ 100000; decide)) (eds_cons (ed_tup (eds_cons ed_int (eds_cons ed_int (eds_cons ed_int eds_nil))) (by show 3 ≤ 100000; decide)) eds_nil))))))) (by show 7 ≤ 100000; decide)) fun p2 H9 e9 h2 => ?_
    refine q_asgLD (eld_cat (eld_var rfl h2) (eld_lst (K := K) (ds := rd6) (eds_cons (ed_tup (eds_cons (ed_lst (eds_cons ed_int (eds_cons ed_int (eds_cons ed_int eds_nil))) (by show 3 ≤ 100000; decide)) eds_nil) (by show 1 ≤ 100000; decide)) (eds_cons (ed_tup (eds_cons (ed_tup (eds_cons ed_int (eds_cons ed_int eds_nil)) (by show 2 ≤ 100000; decide)) (eds_cons (ed_tup (eds_cons ed_int eds_nil) (by show 1 ≤ 100000; decide)) (eds_cons (ed_tup (eds_cons ed_int eds_nil) (by show 1 ≤ 100000; decide)) eds_nil))) (by show 3 ≤ 100000; decide)) (eds_cons ed_non (eds_cons (ed_tup (eds_cons (ed_tup (eds_cons ed_int (eds_cons ed_bl eds_nil)) (by show 2 ≤ 100000; decide)) (eds_cons (ed_tup (eds_cons ed_int eds_nil) (by show 1 ≤ 100000; decide)) eds_nil)) (by show 2 ≤ 100000; decide)) (eds_cons (ed_tup (eds_cons (ed_tup (eds_cons ed_int (eds_cons ed_int (eds_cons ed_int eds_nil))) (by show 3 ≤ 100000; decide)) (eds_cons (ed_tup (eds_cons ed_int eds_nil) (by show 1 ≤ 100000; decide)) eds_nil)) (by show 2 ≤ 100000; decide)) (eds_cons (ed_tup eds_nil (by show 0 ≤ 100000; decide)) (eds_cons ed_int (eds_cons ed_str (eds_cons (ed_tup (eds_cons (ed_tup eds_nil (by show 0 ≤ 100000; decide)) eds_nil) (by show 1 ≤ 100000; decide)) eds_nil))))))))) (by show 9 ≤ 100000; decide)) (by show 16 ≤ 100000; decide)) fun p3 H10 e10 h3 => ?_
    refine q_forLD (eld_cat (eld_var rfl h3) (eld_lst (K := K) (ds := rd7) (eds_cons (ed_tup (eds_cons (ed_tup (eds_cons ed_neg (eds_cons ed_int (eds_cons ed_int (eds_cons ed_int eds_nil)))) (by show 4 ≤ 100000; decide)) eds_nil) (by show 1 ≤ 100000; decide)) (eds_cons (ed_tup (eds_cons (ed_tup (eds_cons ed_int (eds_cons ed_int eds_nil)) (by show 2 ≤ 100000; decide)) (eds_cons ed_int eds_nil)) (by show 2 ≤ 100000; decide)) (eds_cons (ed_tup (eds_cons (ed_tup (eds_cons ed_int (eds_cons ed_int eds_nil)) (by show 2 ≤ 100000; decide)) (eds_cons (ed_lst (eds_cons ed_int eds_nil) (by show 1 ≤ 100000; decide)) eds_nil)) (by show 2 ≤ 100000; decide)) eds_nil))) (by show 3 ≤ 100000; decide)) (by show 19 ≤ 100000; decide)) (fun σ' => ∃ y1, σ' = [some (.ref p3), y1, y2]) ⟨_, rfl⟩ (fun H11 e11 d hd x σ' H12 e12 hx hS => ?_) fun σ' H12 e12 hS => ?_
    · obtain ⟨y1, rfl⟩ := hS
      exact s_when (et_not (et_test (ev_refused (o := .joining) ev_c (ed_two ed_int (ed_ev (ev_var rfl) hx)) (chk_i d hd)))) (fun z => Bool.noConfusion z) fun _ H9 e9 => ⟨⟨_, rfl⟩, e12.trans e9⟩
    obtain ⟨y1, rfl⟩ := hS
    have ed := ec.trans (e9.trans (e10.trans e12))
    refine q_when (et_or (et_not (et_test (ev_rowUU (l := [0, 0, 2]) (eu_joiningD (m := 3) (lots := [[2], [0, 1]]) (by omega) ev_c (ed_two (ed_one ed_int) (ed_two ed_int ed_int)) (by decide +kernel) (by decide +kernel)) (eu_tup (ea_cons ev_c (ea_cons ev_c (ea_cons ev_c ea_nil))) (by show 3 ≤ 100000; decide)) (by show 3 ≤ 40000; decide))))
      fun _ => et_not (et_test (ev_rowUU (l := [0, 0, 0]) (eu_joiningD (m := 3) (lots := [[0, 1, 2]]) (by omega) ev_c (ed_one (ed_three ed_int ed_int ed_int)) (by decide +kernel) (by decide +kernel)) (eu_tup (ea_cons ev_c (ea_cons ev_c (ea_cons ev_c ea_nil))) (by show 3 ≤ 100000; decide)) (by show 3 ≤ 40000; decide))))
      (fun z => Bool.noConfusion z) fun _ H13 e13 => ?_
    have e0 : low 0 (-5) = (0, 1) := by decide +kernel
    have ev := eu_quo (K := K) (C := C) (σ := [some (.ref p3), y1, y2]) (H := H13) (E := E0) (ev_c (v := .int 0)) (ev_neg (i := 5)) (by decide) (by decide)
    rw [e0] at ev
    exact s_ret (ev_andV (ev_refused (o := .quo) ev_c (ed_two ed_int ed_int) chk_j) fun _ => ev_standsU ev ev_c ev_c ⟨by decide, by decide, by decide, by decide, by decide, by decide, by decide⟩) fun H14 e14 => q H14 (ed.trans (e13.trans e14))
end
end K1
namespace K1
open PySem PySem.Spec PyProof.Rows L2 Evl
/-! ### steps that draw from the pool -/
section
variable {K : PySem.W.Frag} {σ : L2.St} {H H' : Hp} {te t1 t2 t3 tL : TE} {ta : TA} {D : Ends} {tu tw tz : TS} {t u : TT} {L R : Addr} {C : Addr}
theorem call_go {sp : Sp} {dvs vs : List V} {E : XK} {Q : VK} (h : EvA ta σ H vs) (k : ∀ H1, Ex H H1 → sp (vs ++ dvs) H1 Q E) : tCall sp dvs E ta σ H Q := h H (Ex.refl H) _ fun H1 e1 => k H1 e1
def EvTP (t : TT) (σ : L2.St) (H : Hp) (P : Bool → Hp → Prop) : Prop := ∀ Q : Bool → Hp → Prop, (∀ b H', P b H' → Q b H') → t σ H Q
theorem etp_of {b : Bool} (h : EvT t σ H b) : EvTP t σ H fun b' H' => b' = b ∧ Ex H H' := fun Q q => h H (Ex.refl H) _ fun H1 e => q b H1 ⟨rfl, e⟩
theorem etp_take {b c : Int} {E : XK} (h1 : Ev t1 σ H (.ref L)) (h2 : Ev t2 σ H (.int b)) (hp : PoolAt H L) (hb : 0 < b) : EvTP (tTest (tOp rEq (tCall spTake [] E (tCons t1 (tCons t2 tNil))) (tC (.int c)))) σ H fun _ H' => Stp L H H' := fun Q q =>
  take_go h1 h2 hp hb fun r H' _ _ st => ⟨rfl, _, rfl, q _ _ st⟩
theorem etp_and {P : Bool → Hp → Prop} {M : Hp → Prop} (h1 : EvTP t σ H P) (h2 : ∀ H1, P true H1 → EvTP u σ H1 fun b H' => b = false ∧ M H') (h3 : ∀ H1, P false H1 → M H1) : EvTP (tAnd t u) σ H fun b H' => b = false ∧ M H' := fun Q q =>
  h1 _ fun b H1 p => by
    cases b with
    | true => exact h2 H1 p Q q
    | false => exact q false H1 ⟨rfl, h3 H1 p⟩
theorem etp_or {P M : Hp → Prop} (h1 : EvTP t σ H fun b H' => b = false ∧ P H') (h2 : ∀ H1, P H1 → EvTP u σ H1 fun b H' => b = false ∧ M H') : EvTP (tOr t u) σ H fun b H' => b = false ∧ M H' := fun Q q =>
  h1 _ fun b H1 ⟨e, p⟩ => by
    subst e
    exact h2 H1 p Q q
theorem etp_not {P : Hp → Prop} (h : te σ H fun v H' => v = .bl true ∧ P H') (mono : ∀ Q Q' : VK, (∀ v H', Q v H' → Q' v H') → te σ H Q → te σ H Q') : EvTP (tNot (tTest te)) σ H fun b H' => b = false ∧ P H' := fun Q q =>
  mono _ _ (fun v H' ⟨e, p⟩ => ⟨true, e, q false H' ⟨rfl, p⟩⟩) h
theorem q_ifM {M : L2.St → Hp → Prop} {P : Bool → Hp → Prop} (ht : EvTP t σ H P) (h1 : ∀ H1, P true H1 → ∀ D' : Ends, (∀ σ' H', M σ' H' → D'.nx σ' H') → tu D' σ H1) (h2 : ∀ H1, P false H1 → M σ H1) (k : ∀ σ' H', M σ' H' → tz D σ' H') : tSeq (tIfS t tu tNext) tz D σ H :=
  ht _ fun b H1 p => by
    cases b with
    | true => exact h1 H1 p { D with nx := tz D } k
    | false => exact k _ _ (h2 H1 p)
theorem q_ifMF {P : Hp → Prop} (ht : EvTP t σ H fun b H' => b = false ∧ P H') (k : ∀ H1, P H1 → tz D σ H1) : tSeq (tIfS t tu tNext) tz D σ H := ht _ fun b H1 ⟨e, p⟩ => by
  subst e
  exact k H1 p
theorem q_asgR {i : Nat} {M : V → Hp → Prop} (h : ∀ Q : VK, (∀ v H', M v H' → Q v H') → te σ H Q) (k : ∀ v H', M v H' → tz D (σ.set i (some v)) H') : tSeq (tAsg te (gName i)) tz D σ H := h _ fun v H' m => k v H' m
/-- one of some numbers, by a draw -/
theorem pick_go {ns : List Int} {n : Int} {E : XK} {Q : VK} (hl : EvL t1 σ H (ns.map V.int)) (hL : Ev tL σ H (.ref L)) (hp : PoolAt H L) (hn : n = (ns.length : Int)) (h0 : 0 < n) (k : ∀ s ∈ ns, ∀ H', Stp L H H' → Q (.int s) H') :
    tOp (rIxL K) t1 (tCall spTake [] E (tCons tL (tCons (tC (.int n)) tNil))) σ H Q := hl H (Ex.refl H) _ fun p H1 hp1 e1 hx => take_go (hL.mono e1) ev_c (hp.mono e1) h0 fun r H2 l u st => by
  obtain ⟨r', rfl⟩ : ∃ n : Nat, r = (n : Int) := ⟨r.toNat, by omega⟩
  have hr : r' < ns.length := by omega
  have hpL : p ≠ L := fun z => by
    obtain ⟨ms, hm⟩ := hp
    rw [z, hm] at hp1
    cases hp1
  refine ⟨p, ns.map V.int, (r' : Int), .int ns[r'], rfl, rfl, sq_of (st.at (hp.mono e1) hpL hx), atI_nat (by rw [List.getElem?_map, List.getElem?_eq_getElem hr]; rfl), k _ (List.getElem_mem hr) H2 ((stp_of hp e1).trans st)⟩
/-! ### the shares -/
def Sh (K : PySem.W.Frag) (H : Hp) (v : V) : Prop := ∃ (p : Addr) (a b : Int), v = .ref p ∧ SqT K H p [.int a, .int b] ∧ Shr a b
structure Fx (K : PySem.W.Frag) (H : Hp) (L R : Addr) (xs : List V) : Prop where
  pool : PoolAt H L
  at_ : H R = some (.lst xs)
  ne : R ≠ L
  sh : ∀ x ∈ xs, Sh K H x
variable {xs : List V}
theorem Sh.stp {v : V} (h : Sh K H v) (hL : PoolAt H L) (st : Stp L H H') : Sh K H' v := by
  obtain ⟨p, a, b, e, h1, h2⟩ := h
  exact ⟨p, a, b, e, st.t hL h1, h2⟩
theorem Fx.stp (f : Fx K H L R xs) (st : Stp L H H') : Fx K H' L R xs := ⟨st.pool, st.at f.pool f.ne f.at_, f.ne, fun x hx => (f.sh x hx).stp f.pool st⟩
theorem Fx.ex (f : Fx K H L R xs) (e : Ex H H') : Fx K H' L R xs := f.stp (stp_of f.pool e)
theorem Fx.app {x : V} (f : Fx K H L R xs) (h : Sh K H x) : Fx K (upd H R (.lst (xs ++ [x]))) L R (xs ++ [x]) := by
  obtain ⟨ns, hn⟩ := f.pool
  have go : ∀ v, Sh K H v → Sh K (upd H R (.lst (xs ++ [x]))) v := fun v ⟨p, a, b, e, h1, h2⟩ => ⟨p, a, b, e, exm_t ⟨_, f.at_⟩ ExM.upd h1, h2⟩
  refine ⟨⟨ns, by rw [upd_ne (fun z => f.ne z.symm)]; exact hn⟩, upd_same, f.ne, fun v hv => ?_⟩
  rcases List.mem_append.mp hv with z | z
  · exact go v (f.sh v z)
  · rw [List.mem_singleton.mp z]
    exact go x h
theorem lc_shares {Q : VK} {E : XK} {i : Nat} {vs : List Nat} (hw : ∀ x, wipe ((wipe σ vs).set i (some x)) vs = wipe σ vs) (hv : ∀ x, ((wipe σ vs).set i (some x))[1]? = some (some (.ref L))) (hp : PoolAt H L) (k : ∀ R H' xs, Fx K H' L R xs → xs.length = 3 → Q (.ref R) H') :
    tLc (iRng1 (tCons (tC (.int 3)) tNil)) (gName i) tYes (tCall spShare [] E (tCons (tVar 1) tNil)) vs σ H Q := by
  refine ⟨3, rfl, by omega, by omega, fun Dl hD => lc_range (lo := 0) (n := 3) (fun i H' => ∃ xs, Fx K H' L Dl xs ∧ xs.length = i) ⟨[], ?_, rfl⟩ (fun i H' hi p => ?_) fun H' p => ?_⟩
  · have ne : Dl ≠ L := fun z => by
      obtain ⟨ns, hn⟩ := hp
      rw [z, hn] at hD
      cases hD
    obtain ⟨ns, hn⟩ := hp
    exact ⟨⟨ns, by rw [upd_ne (fun z => ne z.symm)]; exact hn⟩, upd_same, ne, fun x hx => by cases hx⟩
  · obtain ⟨xs, fx, hl⟩ := p
    refine ⟨hw _, ?_⟩
    show tCall spShare [] E (tCons (tVar 1) tNil) _ H' fun y H4 => _
    refine call_go (ea_cons (ev_var (hv _)) ea_nil) fun H1 e1 => ⟨L, rfl, fx.pool.mono e1, fun p H2 a b s st hx => ?_⟩
    have f2 := (fx.ex e1).stp st
    exact ⟨xs, f2.at_, sz_lt (by omega), xs ++ [.ref p], f2.app ⟨p, a, b, rfl, st_of hx, s⟩, by rw [List.length_append, hl]; rfl⟩
  · obtain ⟨xs, fx, hl⟩ := p
    exact k Dl H' xs fx hl
theorem Fx.get (f : Fx K H L R xs) {j : Nat} (hj : j < xs.length) : ∃ (p : Addr) (a b : Int), xs[j]? = some (.ref p) ∧ SqT K H p [.int a, .int b] ∧ Shr a b := by
  obtain ⟨p, a, b, e, h1, h2⟩ := f.sh xs[j] (List.getElem_mem hj)
  exact ⟨p, a, b, by rw [List.getElem?_eq_getElem hj, e], h1, h2⟩
/-! ### pairs, told by what they hold -/
def EvP (K : PySem.W.Frag) (te : TE) (σ : L2.St) (H : Hp) (a b : Int) : Prop := ∀ H1, Ex H H1 → ∀ Q : VK, (∀ p H2, Ex H1 H2 → SqT K H2 p [.int a, .int b] → Q (.ref p) H2) → te σ H1 Q
theorem ep_u {a b : Int} (h : EvU te σ H [.int a, .int b]) : EvP K te σ H a b := fun H1 e Q q => h H1 e _ fun p H2 _ e2 hx => q p H2 e2 (st_of hx)
theorem ep_v {p : Addr} {a b : Int} (h : Ev te σ H (.ref p)) (hp : SqT K H p [.int a, .int b]) : EvP K te σ H a b := fun H1 e Q q => h H1 e _ fun H2 e2 => q p H2 e2 (ex_t (e.trans e2) hp)
theorem ep_c {a b : Int} : EvP K (tTup (tCons (tC (.int a)) (tCons (tC (.int b)) tNil))) σ H a b := ep_u (eu_tup (ea_cons ev_c (ea_cons ev_c ea_nil)) (by show 2 ≤ 100000; decide))
theorem ep_q2R {bad : Int → Bool} {f : Int → Int → Int → Int → Int × Int} {a b c e : Int} {E : XK} (h1 : EvP K t1 σ H c e) (h2 : EvP K t2 σ H a b) (s1 : Shr a b) (s2 : Shr c e) (hb : bad c = false) :
    EvP K (tCallR 2 (spQ2 K C bad f) E (tCons t1 (tCons t2 tNil))) σ H (low (f a b c e).1 (f a b c e).2).1 (low (f a b c e).1 (f a b c e).2).2 := fun H1 e1 Q q =>
  h1 H1 e1 _ fun p H2 e2 hp => h2 H2 (e1.trans e2) _ fun r H3 e3 hr => ⟨rfl, spq2_go hr (ex_t e3 hp) s1 s2 hb fun x H4 _ e4 hx => q x H4 (e2.trans (e3.trans e4)) (st_of hx)⟩
theorem ev_lessR {a b c e : Int} {E : XK} (h1 : EvP K t1 σ H c e) (h2 : EvP K t2 σ H a b) (s1 : Shr a b) (s2 : Shr c e) : Ev (tCallR 2 (spLess K C) E (tCons t1 (tCons t2 tNil))) σ H (.bl (decide (a * e < c * b))) := fun H1 e1 Q q =>
  h1 H1 e1 _ fun p H2 e2 hp => h2 H2 (e1.trans e2) _ fun r H3 e3 hr => ⟨rfl, .ref r, .ref p, _, _, rfl, pair_dp hr, pair_dp (ex_t e3 hp), fun h => (by rw [s1.isQ] at h; cases h), fun _ h => (by rw [s2.isQ] at h; cases h),
    fun _ _ => ⟨a, b, c, e, rfl, rfl, s1.sa, s1.sb, s2.sa, s2.sb, fun H4 e4 => q H4 (e2.trans (e3.trans e4))⟩⟩
theorem ev_standsP {n m hi lo : Int} {E : XK} (h1 : EvP K t1 σ H n m) (h2 : Ev t2 σ H (.int hi)) (h3 : Ev t3 σ H (.int lo)) (st : Std n m hi lo) : Ev (tCall (spStands K) [] E (tCons t1 (tCons t2 (tCons t3 tNil)))) σ H (.bl true) := fun H1 e1 Q q =>
  h1 H1 e1 _ fun p H2 e2 hx => h2 H2 (e1.trans e2) _ fun H3 e3 => h3 H3 (e1.trans (e2.trans e3)) _ fun H4 e4 =>
    ⟨p, n, m, hi, lo, rfl, ex_t (e3.trans e4) hx, st, fun H5 e5 => q H5 (e2.trans (e3.trans (e4.trans e5)))⟩
theorem eu_quoR {t b : Int} {E : XK} (h1 : Ev t1 σ H (.int b)) (h2 : Ev t2 σ H (.int t)) (hb : b ≠ 0) (hs : b.natAbs < 2 ^ 130) : EvU (tCallR 2 (spQuotientOf K C) E (tCons t1 (tCons t2 tNil))) σ H [.int (low t b).1, .int (low t b).2] :=
  eu_callR (ea_cons h1 (ea_cons h2 ea_nil)) rfl fun H1 e1 Q q E' => ⟨.int t, .int b, .int t, .int b, rfl, .int _, .int _, fun z => Bool.noConfusion (show true = false from z), fun _ z => (by
    have : (isInteger (.int b) && !decide (b = 0)) = false := z
    rw [decide_eq_false hb] at this
    cases this), fun _ _ => ⟨t, b, rfl, rfl, hs, q⟩⟩
theorem rv_notB {a b : Bool} : RV rNotB (.bl a) (.bl b) H (.bl (!decide (a = b))) := fun H1 e Q q => ⟨a, b, rfl, rfl, q H1 (Ex.refl _)⟩
theorem low_cop {a b : Int} (s : Shr a b) : low a b = (a, b) := by
  have h1 := s.b1
  unfold low
  rw [if_neg (by omega), s.cop]
  show (a / 1, b / 1) = (a, b)
  rw [Int.ediv_one, Int.ediv_one]
theorem Shr.std {a b : Int} (s : Shr a b) : Std a b a b := by
  have h1 := s.la
  have h2 := s.lb
  exact ⟨s.b1, s.cop, rfl, by omega, by omega, by omega, by omega⟩
/-- high + low over low is a share too -/
theorem near_ok {a b : Int} (h1 : 1 ≤ b) (h2 : Nat.gcd a.natAbs b.natAbs = 1) : Nat.gcd (a + b).natAbs b.natAbs = 1 := by
  have e : Int.gcd (a + b) b = Int.gcd a b := by simp [Int.gcd_add_self_left]
  show Int.gcd (a + b) b = 1
  rw [e]
  exact h2
end
end K1
namespace K1
open PySem PySem.Spec PyProof.Rows L2 Evl
section
variable {P : Program} {w : World} {K : PySem.W.Frag} {mg : Str → Option Value} {base : Heap} {C fI cW cL cP : Addr}
def spLaw (K : PySem.W.Frag) : Sp := fun vs H Q _ => ∃ (a : Addr) (ns : List Int), vs = [.ref a] ∧ SqL K H a (ns.map V.int) ∧ ∀ H', Q (.bl true) H'
theorem fn_law {fa : Addr} {fd : FuncData} (B : Blt mg) (F : Fun K "law" "law" s_law fa fd) (G_law_pool : Cal P w K mg base CX0 1 "_law_pool" ["_law_script"] (spPool K)) (G_law_share : Cal P w K mg base CX0 3 "_law_share" ["_law_pool_here"] spShare)
    (G_law_take : Cal P w K mg base CX0 1 "_law_take" ["_law_pool_here", "_law_bound"] spTake) (G_law_stands : Cal P w K mg base CX0 2 "_law_stands" ["_law_got", "_law_high", "_law_low"] (spStands K))
    (G_quotient_of : Cal P w K mg base (L2N.CX P w) 4 "quotient_of" ["top", "bottom"] (spQuotientOf K C)) (K_quotient_of : CalK P w K mg base (L2N.CX P w) 4 "quotient_of" ["top", "bottom"] ["bottom", "top"] (spQuotientOf K C))
    (G_law_refusals : Cal P w K mg base CX0 8 "_law_refusals" [] spNone) (G_law_pair : Cal P w K mg base CX0 8 "_law_pair" ["_law_a", "_law_b"] (spPair K)) (G_law_number : Cal P w K mg base CX0 1 "_law_number" ["_law_deed_here", "_law_a", "_law_b"] (spNumber K))
    (K_minus : CalK P w K mg base (L2N.CX P w) 5 "minus" ["one", "other"] ["other", "one"] (spQ2 K C never fMinus)) (K_times : CalK P w K mg base (L2N.CX P w) 5 "times" ["one", "other"] ["other", "one"] (spQ2 K C never fTimes))
    (K_plus : CalK P w K mg base (L2N.CX P w) 5 "plus" ["one", "other"] ["other", "one"] (spQ2 K C never fPlus)) (K_over : CalK P w K mg base (L2N.CX P w) 5 "over" ["one", "other"] ["other", "one"] (spQ2 K C nought fOver))
    (K_less : CalK P w K mg base (L2N.CX P w) 5 "less" ["one", "other"] ["other", "one"] (spLess K C)) (G_law_chain : Cal P w K mg base CX0 7 "_law_chain" ["_law_pool_here", "_law_a"] (spChain K)) (G_law_joined : Cal P w K mg base CX0 2 "_law_joined" ["_law_pool_here", "_law_m"] spJoined)
    (G_law_blocks : Cal P w K mg base CX0 5 "_law_blocks" ["_law_pool_here", "_law_m", "_law_row_here"] (spLawBlocks K)) (G_law_both : Cal P w K mg base CX0 5 "_law_both" ["_law_m", "_law_first", "_law_second"] (spBoth K))
    (G_law_listed : Cal P w K mg base CX0 2 "_law_listed" ["_law_m"] spListed) : FnOk P w K mg base CX0 9 fa fd ["_law_script"] (spLaw K) := by
  refine F.ok sc_law (fun vs H Q E h => ?_) (fun cdv A outer s H vs Q E hr h => ?_)
  · obtain ⟨a, ns, rfl, _⟩ := h
    rfl
  · obtain ⟨a, ns, rfl, ha, q⟩ := h
    refine ⟨_, ((pss_cons (ps_set (i := 1) sc_law.nd rfl (.inr rfl) (pcal G_law_pool hr pass0 (pa_cons (pv 0) pa_nil)))
      (pss_cons (ps_setLc (i := 2) (own := [("_law_k", 12)]) (g := gName 12) rfl sc_law.nd rfl rfl (sw_true rfl rfl rfl (by decide +kernel)) (pi_range1 (by rfl) B.b_range (pa_cons pe_int pa_nil)) (blkOk_by (own := [("_law_k", 12)]) (N := n_law) (sc := defScope s_law) (by decide +kernel)) (fun _ _ _ _ _ => pg_name (i := 12) sc_law.nd rfl (.inl rfl)) (fun _ _ _ _ _ => pts_nil) (fun _ _ _ _ _ => (pcal G_law_share hr pass0 (pa_cons (pv 1) pa_nil))))
      (pss_cons (ps_set (i := 3) sc_law.nd rfl (.inl rfl) (pe_ix ix_list (pv 2) (pcal G_law_take hr pass0 (pa_cons (pv 1) (pa_cons pe_int pa_nil))) (fun _ _ => rfl)))
      (pss_cons (ps_if (pt_cmpR op_eq (pcal G_law_take hr pass0 (pa_cons (pv 1) (pa_cons pe_int pa_nil))) pe_int (nomark _)) (pss_one (ps_set (i := 3) sc_law.nd rfl (.inl rfl) (pe_tup (pa_cons (pe_op op_add (pe_ix ix_tup (pv 3) pe_int (fun _ _ => rfl)) (pe_ix ix_tup (pv 3) pe_int (fun _ _ => rfl))) (pa_cons (pe_ix ix_tup (pv 3) pe_int (fun _ _ => rfl)) pa_nil))))) pss_nil)
      (pss_cons (ps_if (pt_cmpR op_le (pe_callB call_abs (by rfl) B.b_abs bt_abs (pa_cons (pe_ix ix_tup (pv 3) pe_int (fun _ _ => rfl)) pa_nil)) (pe_op op_pow pe_int pe_int) (nomark _)) (pss_one (ps_expr (pe_bm PySem.F.plainAttrs_list PySem.F.slot_list_append PySem.F.type_list_append mt_append (pv 2) (pa_cons (pv 3) pa_nil)))) pss_nil)
      (pss_cons (ps_set (i := 4) sc_law.nd rfl (.inl rfl) (pe_ix ix_list (pe_lst (pa_cons pe_int (pa_cons (pe_un un_neg pe_int) (pa_cons pe_int (pa_cons (pe_un un_neg pe_int) (pa_cons pe_int pa_nil)))))) (pcal G_law_take hr pass0 (pa_cons (pv 1) (pa_cons pe_int pa_nil))) (fun _ _ => rfl)))
      (pss_cons (ps_set (i := 5) sc_law.nd rfl (.inl rfl) (pe_op op_mulW (pcal G_law_take hr pass0 (pa_cons (pv 1) (pa_cons pe_int pa_nil))) (pv 4)))
      (pss_cons (ps_set (i := 6) sc_law.nd rfl (.inl rfl) (pe_op op_mulW (pe_op op_add pe_int (pcal G_law_take hr pass0 (pa_cons (pv 1) (pa_cons pe_int pa_nil)))) (pe_ix ix_list (pe_lst (pa_cons pe_int (pa_cons (pe_un un_neg pe_int) (pa_cons pe_int (pa_cons (pe_un un_neg pe_int) pa_nil))))) (pcal G_law_take hr pass0 (pa_cons (pv 1) (pa_cons pe_int pa_nil))) (fun _ _ => rfl))))
      (pss_cons (ps_if (pt_not (pt_val (pcal G_law_stands hr pass0 (pa_cons (pcal G_quotient_of hr passN (pa_cons (pv 5) (pa_cons (pv 6) pa_nil))) (pa_cons (pv 5) (pa_cons (pv 6) pa_nil)))))) (pss_one (ps_ret pe_bl)) pss_nil)
      (pss_cons (ps_if (pt_not (pt_val (pcal G_law_stands hr pass0 (pa_cons (pcalR K_quotient_of hr passN (pk_cons (pv 6) (pk_cons (pv 5) pk_nil))) (pa_cons (pv 5) (pa_cons (pv 6) pa_nil)))))) (pss_one (ps_ret pe_bl)) pss_nil)
      (pss_cons (ps_if (PW.pt (pw_and (pt_cmpR op_eq (pcal G_law_take hr pass0 (pa_cons (pv 1) (pa_cons pe_int pa_nil))) pe_int (nomark _)) (pw_and1 (pt_not (pt_val (pcal0 G_law_refusals hr pass0)))))) (pss_one (ps_ret pe_bl)) pss_nil)
      (pss_cons (ps_for PassesOwn.never rfl (pi_list (pv 2)) (pg_name (i := 7) sc_law.nd rfl (.inl rfl)) (pss_one (ps_for PassesOwn.never rfl (pi_list (pv 2)) (pg_name (i := 8) sc_law.nd rfl (.inl rfl)) (pss_one (ps_if (pt_not (pt_val (pcal G_law_pair hr pass0 (pa_cons (pv 7) (pa_cons (pv 8) pa_nil))))) (pss_one (ps_ret pe_bl)) pss_nil)))))
      (pss_cons (ps_asg (pcal G_law_number hr pass0 (pa_cons pe_str (pa_cons (pe_ix ix_list (pv 2) pe_int (fun _ _ => rfl)) (pa_cons (pe_ix ix_list (pv 2) pe_int (fun _ _ => rfl)) pa_nil)))) (pg_tup rfl (pgs_cons (pg_name (i := 5) sc_law.nd rfl (.inl rfl)) (pgs_cons (pg_name (i := 6) sc_law.nd rfl (.inl rfl)) pgs_nil))))
      (pss_cons (ps_if (pt_not (pt_val (pcal G_law_stands hr pass0 (pa_cons (pcalR K_minus hr passN (pk_cons (pe_ix ix_list (pv 2) pe_int (fun _ _ => rfl)) (pk_cons (pe_ix ix_list (pv 2) pe_int (fun _ _ => rfl)) pk_nil))) (pa_cons (pv 5) (pa_cons (pv 6) pa_nil)))))) (pss_one (ps_ret pe_bl)) pss_nil)
      (pss_cons (ps_if (pt_not (pt_val (pcal G_law_stands hr pass0 (pa_cons (pcalR K_minus hr passN (pk_cons (pe_tup (pa_cons pe_int (pa_cons pe_int pa_nil))) (pk_cons (pcalR K_times hr passN (pk_cons (pe_ix ix_list (pv 2) pe_int (fun _ _ => rfl)) (pk_cons (pe_tup (pa_cons pe_int (pa_cons pe_int pa_nil))) pk_nil))) pk_nil))) (pa_cons (pe_ix ix_tup (pe_ix ix_list (pv 2) pe_int (fun _ _ => rfl)) pe_int (fun _ _ => rfl)) (pa_cons (pe_ix ix_tup (pe_ix ix_list (pv 2) pe_int (fun _ _ => rfl)) pe_int (fun _ _ => rfl)) pa_nil)))))) (pss_one (ps_ret pe_bl)) pss_nil)
      (pss_cons (ps_if (pt_not (pt_val (pcal G_law_stands hr pass0 (pa_cons (pcalR K_plus hr passN (pk_cons (pcalR K_over hr passN (pk_cons (pe_tup (pa_cons pe_int (pa_cons pe_int pa_nil))) (pk_cons (pe_ix ix_list (pv 2) pe_int (fun _ _ => rfl)) pk_nil))) (pk_cons (pe_tup (pa_cons pe_int (pa_cons pe_int pa_nil))) pk_nil))) (pa_cons (pe_ix ix_tup (pe_ix ix_list (pv 2) pe_int (fun _ _ => rfl)) pe_int (fun _ _ => rfl)) (pa_cons (pe_ix ix_tup (pe_ix ix_list (pv 2) pe_int (fun _ _ => rfl)) pe_int (fun _ _ => rfl)) pa_nil)))))) (pss_one (ps_ret pe_bl)) pss_nil)
      (pss_cons (ps_if (PW.pt (pw_or (pt_cmpR op_notBl (pcalR K_less hr passN (pk_cons (pe_tup (pa_cons pe_int (pa_cons pe_int pa_nil))) (pk_cons (pe_tup (pa_cons pe_int (pa_cons pe_int pa_nil))) pk_nil))) pe_bl (nomark _)) (pw_or1 (pt_cmpR op_notBl (pcalR K_less hr passN (pk_cons (pe_tup (pa_cons pe_int (pa_cons pe_int pa_nil))) (pk_cons (pe_tup (pa_cons pe_int (pa_cons pe_int pa_nil))) pk_nil))) pe_bl (nomark _))))) (pss_one (ps_ret pe_bl)) pss_nil)
      (pss_cons (ps_if (pt_not (pt_val (pcal G_law_chain hr pass0 (pa_cons (pv 1) (pa_cons (pe_ix ix_list (pv 2) pe_int (fun _ _ => rfl)) pa_nil))))) (pss_one (ps_ret pe_bl)) pss_nil)
      (pss_cons (ps_set (i := 9) sc_law.nd rfl (.inl rfl) (pe_ix ix_list (pe_lst (pa_cons pe_int (pa_cons pe_int (pa_cons pe_int (pa_cons pe_int (pa_cons pe_int (pa_cons pe_int (pa_cons pe_int (pa_cons pe_int pa_nil))))))))) (pcal G_law_take hr pass0 (pa_cons (pv 1) (pa_cons pe_int pa_nil))) (fun _ _ => rfl)))
      (pss_cons (ps_set (i := 10) sc_law.nd rfl (.inl rfl) (pcal G_law_joined hr pass0 (pa_cons (pv 1) (pa_cons (pv 9) pa_nil))))
      (pss_cons (ps_set (i := 11) sc_law.nd rfl (.inl rfl) (pcal G_law_joined hr pass0 (pa_cons (pv 1) (pa_cons (pv 9) pa_nil))))
      (pss_cons (ps_if (pt_cmpR op_eq (pcal G_law_take hr pass0 (pa_cons (pv 1) (pa_cons pe_int pa_nil))) pe_int (nomark _)) (pss_one (ps_set (i := 11) sc_law.nd rfl (.inl rfl) (pv 10))) pss_nil)
      (pss_cons (ps_if (PW.pt (pw_or (pt_not (pt_val (pcal G_law_blocks hr pass0 (pa_cons (pv 1) (pa_cons (pv 9) (pa_cons (pv 10) pa_nil)))))) (pw_or1 (pt_not (pt_val (pcal G_law_blocks hr pass0 (pa_cons (pv 1) (pa_cons (pv 9) (pa_cons (pv 11) pa_nil))))))))) (pss_one (ps_ret pe_bl)) pss_nil)
      (pss_cons (ps_if (pt_not (pt_val (pcal G_law_both hr pass0 (pa_cons (pv 9) (pa_cons (pv 10) (pa_cons (pv 11) pa_nil)))))) (pss_one (ps_ret pe_bl)) pss_nil)
      (pss_one (ps_ret (pe_and (pcal G_law_listed hr pass0 (pa_cons (pcal G_law_take hr pass0 (pa_cons (pv 1) (pa_cons pe_int pa_nil))) pa_nil)) (pe_one (pcal G_law_listed hr pass0 (pa_cons pe_int pa_nil))))))))))))))))))))))))))))))), ?_⟩
    refine q_asgR (M := fun v H' => ∃ L, v = .ref L ∧ PoolAt H' L) ?_ fun v H2 hM => ?_
    · exact fun Q q => call_go (ea_cons (ev_var rfl) ea_nil) fun H1 e1 => ⟨a, ns, rfl, ex_l e1 ha, fun L H2 hL e2 hp => q _ _ ⟨L, rfl, hp⟩⟩
    obtain ⟨L, rfl, hp⟩ := hM
    refine q_asgR (M := fun v H' => ∃ R xs, v = .ref R ∧ Fx K H' L R xs ∧ xs.length = 3) ?_ fun v H3 hM => ?_
    · exact fun Q q => lc_shares (fun _ => rfl) (fun _ => rfl) hp fun R H' xs f l => q _ _ ⟨R, xs, rfl, f, l⟩
    obtain ⟨R, xs, rfl, fx, hl⟩ := hM
    -- one of the shares
    refine ⟨.ref R, rfl, take_go (ev_var rfl) ev_c fx.pool (by omega) fun r H4 r0 r1 st4 => ?_⟩
    obtain ⟨r', rfl⟩ : ∃ n : Nat, r = (n : Int) := ⟨r.toNat, by omega⟩
    have f4 := fx.stp st4
    obtain ⟨pn, c, e, hget, hpn, sh⟩ := f4.get (j := r') (by omega)
    refine ⟨R, xs, (r' : Int), .ref pn, rfl, rfl, sq_of f4.at_, atI_nat hget, ?_⟩
    refine q_ifM (M := fun σ' H' => ∃ (pn : Addr) (c e : Int), σ' = [some (.ref a), some (.ref L), some (.ref R), some (.ref pn), none, none, none, none, none, none, none, none, none] ∧ Fx K H' L R xs ∧ SqT K H' pn [.int c, .int e] ∧ 1 ≤ e ∧ Nat.gcd c.natAbs e.natAbs = 1 ∧ e.natAbs ≤ 1000000000000)
      (etp_take (ev_var rfl) ev_c f4.pool (by omega)) (fun H5 st5 D' kd => ?_) (fun H5 st5 => ⟨pn, c, e, rfl, f4.stp st5, st5.t f4.pool hpn, sh.b1, sh.cop, sh.lb⟩) fun σ5 H5 hM => ?_
    · have hpn5 := st5.t f4.pool hpn
      exact s_asgU (eu_tup (ea_cons (ev_op (ev_i0 (ev_var rfl) hpn5) (ev_i1 (ev_var rfl) hpn5) rv_I0) (ea_cons (ev_i1 (ev_var rfl) hpn5) ea_nil)) (by show 2 ≤ 100000; decide)) fun p2 H6 _ e6 hx =>
        kd _ _ ⟨p2, c + e, e, rfl, (f4.stp st5).ex e6, st_of hx, sh.b1, near_ok sh.b1 sh.cop, sh.lb⟩
    obtain ⟨pn, c, e, rfl, f5, hpn, b1, cop, lb⟩ := hM
    have e12 : (10 : Int) ^ (12 : Int).toNat = 1000000000000 := by decide
    refine q_ifM (M := fun σ' H' => ∃ (xs : List V), σ' = [some (.ref a), some (.ref L), some (.ref R), some (.ref pn), none, none, none, none, none, none, none, none, none] ∧ Fx K H' L R xs ∧ 3 ≤ xs.length)
      (etp_of (et_test (ev_op (ev_abs (ev_i0 (ev_var rfl) hpn)) (ev_op ev_c ev_c (rv_I ⟨by decide, by decide, by decide⟩)) rv_I0))) (fun H6 hb D' kd => ?_) (fun H6 hb => ⟨xs, rfl, f5.ex hb.2, by omega⟩) fun σ6 H6 hM => ?_
    · obtain ⟨z, e6⟩ := hb
      rw [e12] at z
      have z' := of_decide_eq_true z.symm
      refine s_app (f5.ex e6).at_ (ev_var rfl) (ev_var rfl) (by omega) fun H7 e7 => kd _ _ ⟨xs ++ [.ref pn], rfl, ?_, by rw [List.length_append]; omega⟩
      exact (f5.ex (e6.trans e7)).app ⟨pn, c, e, rfl, ex_t (e6.trans e7) hpn, ⟨b1, cop, by omega, lb⟩⟩
    obtain ⟨ys, rfl, f6, hl3⟩ := hM
    -- a scale
    refine pick_go (ns := [1, -1, 6, -35, 0]) (el_lst (ea_cons ev_c (ea_cons ev_neg (ea_cons ev_c (ea_cons ev_neg (ea_cons ev_c ea_nil))))) (by show 5 ≤ 100000; decide)) (ev_var rfl) f6.pool rfl (by omega) fun sc hsc H7 st7 => ?_
    have f7 := f6.stp st7
    have lsc : sc.natAbs ≤ 35 := (show ∀ s ∈ ([1, -1, 6, -35, 0] : List Int), s.natAbs ≤ 35 by decide) sc hsc
    refine take_go (ev_var rfl) ev_c f7.pool (by omega) fun r2 H8 l2 u2 st8 => ?_
    have f8 := f7.stp st8
    refine ⟨_, rfl, r2, sc, rfl, rfl, sm_mul (by unfold Sm; omega) (by unfold Sm; omega), ?_⟩
    refine take_go (ev_var rfl) ev_c f8.pool (by omega) fun r3 H9 l3 u3 st9 => ?_
    have f9 := f8.stp st9
    refine ⟨1, r3, rfl, rfl, ?_⟩
    refine pick_go (ns := [1, -1, 6, -35]) (el_lst (ea_cons ev_c (ea_cons ev_neg (ea_cons ev_c (ea_cons ev_neg ea_nil)))) (by show 4 ≤ 100000; decide)) (ev_var rfl) f9.pool rfl (by omega) fun sd hsd H10 st10 => ?_
    have f10 := f9.stp st10
    obtain ⟨lsd, nsd⟩ : sd.natAbs ≤ 35 ∧ sd ≠ 0 := (show ∀ s ∈ ([1, -1, 6, -35] : List Int), s.natAbs ≤ 35 ∧ s ≠ 0 by decide) sd hsd
    refine ⟨_, sd, rfl, rfl, sm_mul (by unfold Sm; omega) (by unfold Sm; omega), ?_⟩
    have hhi : (r2 * sc).natAbs < 2 ^ 128 := sm_prod (by unfold Sm; omega) (by unfold Sm; omega)
    have hlo : ((1 + r3) * sd).natAbs < 2 ^ 128 := sm_prod (by unfold Sm; omega) (by unfold Sm; omega)
    have nlo : (1 + r3) * sd ≠ 0 := Int.mul_ne_zero (by omega) nsd
    have dn : Dn (r2 * sc, (1 + r3) * sd) := ⟨nlo, by show (r2 * sc).natAbs < _; omega, by show ((1 + r3) * sd).natAbs < _; omega⟩
    have std := dn.std
    have b130 : ((1 + r3) * sd).natAbs < 2 ^ 130 := dn.l2
    refine q_when (et_not (et_test (ev_standsU (eu_quo (ev_var rfl) (ev_var rfl) nlo b130) (ev_var rfl) (ev_var rfl) std))) (fun z => Bool.noConfusion z) fun _ H11 e11 => ?_
    refine q_when (et_not (et_test (ev_standsU (eu_quoR (ev_var rfl) (ev_var rfl) nlo b130) (ev_var rfl) (ev_var rfl) std))) (fun z => Bool.noConfusion z) fun _ H12 e12' => ?_
    have f12 := f10.ex (e11.trans e12')
    refine q_ifMF (P := fun H' => Fx K H' L R ys) (etp_and (etp_take (ev_var rfl) ev_c f12.pool (by omega)) (fun H13 st13 Q' q' => ?_) fun H13 st13 => f12.stp st13) fun H13 f13 => ?_
    · exact call_go ea_nil fun H14 e14 => ⟨rfl, fun H15 e15 => ⟨true, rfl, q' false H15 ⟨rfl, (f12.stp st13).ex (e14.trans e15)⟩⟩⟩
    clear std dn
    generalize hh1 : some (V.int (r2 * sc)) = w5
    generalize hh2 : some (V.int ((1 + r3) * sd)) = w6
    -- every pair of shares
    refine q_forLn (ev_var rfl) (sq_of f13.at_) (fun i σ' H' => ∃ (y7 y8 : Option V), σ' = [some (.ref a), some (.ref L), some (.ref R), some (.ref pn), some (.int sc), w5, w6, y7, y8, none, none, none, none] ∧ Fx K H' L R ys)
      (fun H14 e14 => ⟨none, none, ?_, f13.ex e14⟩) (fun i σ' H' _ hP => by
        obtain ⟨_, _, _, f⟩ := hP
        exact sq_of f.at_) (fun i x σ' H' hx hP => ?_) fun σ14 H14 hP => ?_
    · rw [← hh1, ← hh2]
      rfl
    · obtain ⟨y7, y8, rfl, f⟩ := hP
      obtain ⟨p, c1, e1', hg1, hp1, s1⟩ := f.get (get_lt hx)
      have ex := Option.some.inj (hx.symm.trans hg1)
      subst ex
      refine s_forLn (ev_var rfl) (sq_of f.at_) (fun j σ' H2 => ∃ (y8 : Option V), σ' = [some (.ref a), some (.ref L), some (.ref R), some (.ref pn), some (.int sc), w5, w6, some (.ref p), y8, none, none, none, none] ∧ Fx K H2 L R ys ∧ Ex H' H2)
        (fun H2 e2 => ⟨y8, rfl, f.ex e2, e2⟩) (fun j σ' H2 _ hP => by
          obtain ⟨_, _, f, _⟩ := hP
          exact sq_of f.at_) (fun j x σ' H2 hx2 hP => ?_) fun σ' H2 hP => ?_
      · obtain ⟨y8, rfl, f2, e2⟩ := hP
        obtain ⟨p2, c2, e2', hg2, hp2, s2⟩ := f2.get (get_lt hx2)
        have ex := Option.some.inj (hx2.symm.trans hg2)
        subst ex
        refine s_when (et_not (et_test (ev_call (z := .bl true) (ea_cons (ev_var rfl) (ea_cons (ev_var rfl) ea_nil)) fun H3 e3 Q' q' E' => ⟨p, p2, c1, e1', c2, e2', rfl, ex_t (e2.trans e3) hp1, ex_t e3 hp2, s1, s2, q'⟩))) (fun z => Bool.noConfusion z) fun _ H3 e3 => ?_
        exact ⟨_, rfl, f2.ex e3, e2.trans e3⟩
      · obtain ⟨y8, rfl, f2, e2⟩ := hP
        exact ⟨_, _, rfl, f2⟩
    obtain ⟨y7, y8, rfl, f14⟩ := hP
    obtain ⟨p0, a0, b0, hg0, hp0, s0⟩ := f14.get (j := 0) (by omega)
    obtain ⟨p1, a1, b1', hg1, hp1, s1⟩ := f14.get (j := 1) (by omega)
    have at0 : atI ys 0 = some (.ref p0) := atI_nat (j := 0) hg0
    have at1 : atI ys 1 = some (.ref p1) := atI_nat (j := 1) hg1
    have v0 : ∀ {σ : L2.St} {H' : Hp} {t1 : TE}, Ex H14 H' → Ev t1 σ H' (.ref R) → Ev (tOp (rIxL K) t1 (tC (.int 0))) σ H' (.ref p0) := fun e h => ev_op h ev_c (rv_ixL (sq_of (e _ _ f14.at_)) at0)
    have v1 : ∀ {σ : L2.St} {H' : Hp} {t1 : TE}, Ex H14 H' → Ev t1 σ H' (.ref R) → Ev (tOp (rIxL K) t1 (tC (.int 1))) σ H' (.ref p1) := fun e h => ev_op h ev_c (rv_ixL (sq_of (e _ _ f14.at_)) at1)
    refine q_unpU (eu_number (d := .minus) ev_c (v1 (Ex.refl _) (ev_var rfl)) (v0 (Ex.refl _) (ev_var rfl)) hp1 hp0 s1 s0) fun H15 e15 => ?_
    refine q_when (et_not (et_test (ev_standsP (ep_q2R (ep_v (v0 e15 (ev_var rfl)) (ex_t e15 hp0)) (ep_v (v1 e15 (ev_var rfl)) (ex_t e15 hp1)) s1 s0 rfl) (ev_var rfl) (ev_var rfl) (dn_of (d := .minus) (fun z => by cases z) s1 s0).std))) (fun z => Bool.noConfusion z) fun _ H16 e16 => ?_
    have eA := e15.trans e16
    have hpA := ex_t eA hp0
    have o01 : Shr 0 1 := ⟨by omega, by decide, by decide, by decide⟩
    have o11 : Shr 1 1 := ⟨by omega, by decide, by decide, by decide⟩
    have o12 : Shr 1 2 := ⟨by omega, by decide, by decide, by decide⟩
    have o13 : Shr 1 3 := ⟨by omega, by decide, by decide, by decide⟩
    have lc := low_cop s0
    have ep1 := ep_q2R (C := C) (bad := never) (f := fTimes) (E := E0) (ep_v (v0 eA (ev_var (i := 2) (σ := [some (.ref a), some (.ref L), some (.ref R), some (.ref pn), some (.int sc), some (V.int (Deed.minus.f a1 b1' a0 b0).1), some (V.int (Deed.minus.f a1 b1' a0 b0).2), y7, y8, none, none, none, none]) rfl)) hpA) (ep_c (a := 1) (b := 1)) o11 s0 rfl
    have m1 : fTimes 1 1 a0 b0 = (a0, b0) := by
      unfold fTimes
      rw [Int.one_mul, Int.one_mul]
    rw [m1, lc] at ep1
    have ep2 := ep_q2R (C := C) (bad := never) (f := fMinus) (E := E0) (ep_c (a := 0) (b := 1)) ep1 s0 o01 rfl
    have m2 : fMinus a0 b0 0 1 = (a0, b0) := by
      unfold fMinus
      rw [Int.mul_one, Int.zero_mul, Int.sub_zero, Int.mul_one]
    rw [m2, lc] at ep2
    refine q_when (et_not (et_test (ev_standsP ep2 (ev_i0 (v0 eA (ev_var rfl)) hpA) (ev_i1 (v0 eA (ev_var rfl)) hpA) s0.std))) (fun z => Bool.noConfusion z) fun _ H17 e17 => ?_
    have eB := eA.trans e17
    have hpB := ex_t eB hp0
    have ep3 := ep_q2R (C := C) (bad := nought) (f := fOver) (E := E0) (ep_c (a := 1) (b := 1)) (ep_v (v0 eB (ev_var (i := 2) (σ := [some (.ref a), some (.ref L), some (.ref R), some (.ref pn), some (.int sc), some (V.int (Deed.minus.f a1 b1' a0 b0).1), some (V.int (Deed.minus.f a1 b1' a0 b0).2), y7, y8, none, none, none, none]) rfl)) hpB) s0 o11 rfl
    have m3 : fOver a0 b0 1 1 = (a0, b0) := by
      unfold fOver
      rw [Int.mul_one, Int.mul_one]
    rw [m3, lc] at ep3
    have ep4 := ep_q2R (C := C) (bad := never) (f := fPlus) (E := E0) ep3 (ep_c (a := 0) (b := 1)) o01 s0 rfl
    have m4 : fPlus 0 1 a0 b0 = (a0, b0) := by
      unfold fPlus
      rw [Int.zero_mul, Int.zero_add, Int.mul_one, Int.one_mul]
    rw [m4, lc] at ep4
    refine q_when (et_not (et_test (ev_standsP ep4 (ev_i0 (v0 eB (ev_var rfl)) hpB) (ev_i1 (v0 eB (ev_var rfl)) hpB) s0.std))) (fun z => Bool.noConfusion z) fun _ H18 e18 => ?_
    have eC := eB.trans e18
    refine q_ifF (et_is (et_or (et_test (ev_op (ev_lessR ep_c ep_c o13 o12) ev_c rv_notB)) fun _ => et_test (ev_op (ev_lessR ep_c ep_c o12 o13) ev_c rv_notB)) (by decide)) fun H19 e19 => ?_
    have eD := eC.trans e19
    have f19 := f14.ex eD
    refine q_ifMF (P := fun H' => PoolAt H' L) (fun Q' q' => call_go (ea_cons (ev_var rfl) (ea_cons (v0 eD (ev_var rfl)) ea_nil)) fun H20 e20 => ⟨L, p0, a0, b0, rfl, f19.pool.mono e20, ex_t (eD.trans e20) hp0, s0, fun H21 st21 => ⟨true, rfl, q' false H21 ⟨rfl, st21.pool⟩⟩⟩) fun H20 hp20 => ?_
    -- two joinings
    refine pick_go (ns := [3, 0, 1, 2, 4, 5, 9, 16]) (el_lst (ea_cons ev_c (ea_cons ev_c (ea_cons ev_c (ea_cons ev_c (ea_cons ev_c (ea_cons ev_c (ea_cons ev_c (ea_cons ev_c ea_nil)))))))) (by show 8 ≤ 100000; decide)) (ev_var rfl) hp20 rfl (by omega) fun mi hmi H21 st21 => ?_
    obtain ⟨m, rfl, hm⟩ : ∃ m : Nat, mi = (m : Int) ∧ m ≤ 16 := by
      obtain ⟨h1, h2⟩ : 0 ≤ mi ∧ mi ≤ 16 := (show ∀ s ∈ ([3, 0, 1, 2, 4, 5, 9, 16] : List Int), 0 ≤ s ∧ s ≤ 16 by decide) mi hmi
      exact ⟨mi.toNat, by omega, by omega⟩
    refine call_go (ea_cons (ev_var rfl) (ea_cons (ev_var rfl) ea_nil)) fun H22 e22 => ⟨L, m, rfl, st21.pool.mono e22, by omega, fun f pf H23 jf lf st23 hxf => ?_⟩
    have hsf : SqT K H23 pf (f.map nV) := st_of hxf
    refine call_go (ea_cons (ev_var rfl) (ea_cons (ev_var rfl) ea_nil)) fun H24 e24 => ⟨L, m, rfl, st23.pool.mono e24, by omega, fun g pg H25 jg lg st25 hxg => ?_⟩
    have hsf5 := st25.t (st23.pool.mono e24) (ex_t e24 hsf)
    have hsg : SqT K H25 pg (g.map nV) := st_of hxg
    refine q_ifM (M := fun σ' H' => ∃ (g : List Nat) (pg : Addr), σ' = [some (.ref a), some (.ref L), some (.ref R), some (.ref pn), some (.int sc), some (V.int (Deed.minus.f a1 b1' a0 b0).1), some (V.int (Deed.minus.f a1 b1' a0 b0).2), y7, y8, some (.int (m : Int)), some (.ref pf), some (.ref pg), none] ∧ PoolAt H' L ∧ SqT K H' pf (f.map nV) ∧ SqT K H' pg (g.map nV) ∧ JL g ∧ g.length = m)
      (etp_take (ev_var rfl) ev_c st25.pool (by omega)) (fun H26 st26 D' kd => ?_) (fun H26 st26 => ⟨g, pg, rfl, st26.pool, st26.t st25.pool hsf5, st26.t st25.pool hsg, jg, lg⟩) fun σ26 H26 hM => ?_
    · exact s_asg (ev_var rfl) fun H27 e27 => kd _ _ ⟨f, pf, rfl, st26.pool.mono e27, ex_t e27 (st26.t st25.pool hsf5), ex_t e27 (st26.t st25.pool hsf5), jf, lf⟩
    obtain ⟨g2, pg2, rfl, hp26, hf26, hg26, jg2, lg2⟩ := hM
    refine q_ifMF (P := fun H' => PoolAt H' L ∧ SqT K H' pf (f.map nV) ∧ SqT K H' pg2 (g2.map nV))
      (etp_or (P := fun H' => PoolAt H' L ∧ SqT K H' pf (f.map nV) ∧ SqT K H' pg2 (g2.map nV))
        (fun Q' q' => call_go (ea_cons (ev_var rfl) (ea_cons (ev_var rfl) (ea_cons (ev_var rfl) ea_nil))) fun H27 e27 => ⟨L, m, pf, f, rfl, hp26.mono e27, by omega, ex_t e27 hf26, jf, lf, fun H28 st28 => ⟨true, rfl, q' false H28 ⟨rfl, st28.pool, st28.t (hp26.mono e27) (ex_t e27 hf26), st28.t (hp26.mono e27) (ex_t e27 hg26)⟩⟩⟩)
        fun H28 hP Q' q' => call_go (ea_cons (ev_var rfl) (ea_cons (ev_var rfl) (ea_cons (ev_var rfl) ea_nil))) fun H29 e29 => ⟨L, m, pg2, g2, rfl, hP.1.mono e29, by omega, ex_t e29 hP.2.2, jg2, lg2, fun H30 st30 => ⟨true, rfl, q' false H30 ⟨rfl, st30.pool, st30.t (hP.1.mono e29) (ex_t e29 hP.2.1), st30.t (hP.1.mono e29) (ex_t e29 hP.2.2)⟩⟩⟩) fun H31 hP => ?_
    obtain ⟨hp31, hf31, hg31⟩ := hP
    refine q_when (et_not (et_test (ev_call (z := .bl true) (ea_cons (ev_var rfl) (ea_cons (ev_var rfl) (ea_cons (ev_var rfl) ea_nil))) fun H32 e32 Q' q' E' => ⟨m, pf, pg2, f, g2, rfl, by omega, ex_t e32 hf31, ex_t e32 hg31, jf, jg2, lf, lg2, q'⟩))) (fun z => Bool.noConfusion z) fun _ H32 e32 => ?_
    refine take_go (ev_var rfl) ev_c (hp31.mono e32) (by omega) fun rl H33 l33 u33 st33 => ?_
    obtain ⟨k, rfl⟩ : ∃ n : Nat, rl = (n : Int) := ⟨rl.toNat, by omega⟩
    refine ⟨k, rfl, by omega, fun H34 e34 => ⟨true, rfl, ?_⟩⟩
    exact ⟨2, rfl, by omega, fun H35 e35 => q H35⟩
end
end K1
namespace K1
open PySem PySem.Spec PyProof.Rows L2 Evl
/-! ### all defs together -/
theorem dfn_mk {K : PySem.W.Frag} {mg : Str → Option Value} {h : Heap} (X : K.In h) (G : h.Ns mainGlobals mg) {x : Str} {st : Stmt} {f : Addr} {oc : Value} {od an : Option Addr} {osl : Array (Option Value)} {kV doc pm cdv ct : Value} (a : PySem.W.nsIn K mainGlobals x = some (some (.ref f)))
    (l : K.lookup f = some ⟨oc, od, .func (PySem.W.fnOf x x (defArgs st) (defBody st) (defScope st) .none kV doc pm an cdv ct), osl⟩) (c : PySem.W.codeIn K cdv x = true) (k : PySem.W.keepIn K (.ref f) = true) : Dfn K mg x st := ⟨f, _, fun_mk l c k, PySem.W.mg_of X G a⟩
theorem all_law {P : Program} {w : World} {K : PySem.W.Frag} {mg : Str → Option Value} {base : Heap} {C fI cW cL cP fa : Addr} {fd fdI : FuncData} (B : Blt mg) (N : NuC K mg C fI cW cL cP) (FI : Fun K "__init__" "NotUsable.__init__" s_init fI fdI)
    (D_is_integer : Dfn K mg "is_integer" s_is_integer) (D_is_number : Dfn K mg "is_number" s_is_number) (D_common_divisor : Dfn K mg "common_divisor" s_common_divisor) (D_is_quotient : Dfn K mg "is_quotient" s_is_quotient) (D_is_lot : Dfn K mg "is_lot" s_is_lot) (D_is_joining : Dfn K mg "is_joining" s_is_joining) (D_need : Dfn K mg "need" s_need) (D_lowest : Dfn K mg "lowest" s_lowest) (D_need_two : Dfn K mg "need_two" s_need_two) (D_quotient_of : Dfn K mg "quotient_of" s_quotient_of) (D_plus : Dfn K mg "plus" s_plus) (D_minus : Dfn K mg "minus" s_minus) (D_times : Dfn K mg "times" s_times) (D_over : Dfn K mg "over" s_over) (D_less : Dfn K mg "less" s_less) (D_joinings_of : Dfn K mg "joinings_of" s_joinings_of) (D_blocks_of : Dfn K mg "blocks_of" s_blocks_of) (D_are_blocks : Dfn K mg "are_blocks" s_are_blocks) (D_joining_of : Dfn K mg "joining_of" s_joining_of) (D_joined_with : Dfn K mg "joined_with" s_joined_with) (D_law_pool : Dfn K mg "_law_pool" s_law_pool) (D_law_take : Dfn K mg "_law_take" s_law_take) (D_law_great : Dfn K mg "_law_great" s_law_great) (D_law_int : Dfn K mg "_law_int" s_law_int) (D_law_common : Dfn K mg "_law_common" s_law_common) (D_law_share : Dfn K mg "_law_share" s_law_share) (D_law_stands : Dfn K mg "_law_stands" s_law_stands) (D_law_deed : Dfn K mg "_law_deed" s_law_deed) (D_law_refused : Dfn K mg "_law_refused" s_law_refused) (D_law_number : Dfn K mg "_law_number" s_law_number) (D_law_pair : Dfn K mg "_law_pair" s_law_pair) (D_law_chain : Dfn K mg "_law_chain" s_law_chain) (D_law_joined : Dfn K mg "_law_joined" s_law_joined) (D_law_row : Dfn K mg "_law_row" s_law_row) (D_law_listed : Dfn K mg "_law_listed" s_law_listed) (D_law_blocks : Dfn K mg "_law_blocks" s_law_blocks) (D_law_both : Dfn K mg "_law_both" s_law_both) (D_law_refusals : Dfn K mg "_law_refusals" s_law_refusals)
    (F : Fun K "law" "law" s_law fa fd) : FnOk P w K mg base CX0 9 fa fd ["_law_script"] (spLaw K) := by
  have G_is_integer := ok_is_integer (P := P) (w := w) (base := base) B D_is_integer
  have G_is_number := ok_is_number D_is_number G_is_integer
  have G_common_divisor := ok_common_divisor (P := P) (w := w) (base := base) D_common_divisor
  have G_is_quotient := ok_is_quotient B D_is_quotient G_is_integer G_common_divisor
  have G_is_lot := ok_is_lot B D_is_lot G_is_integer
  have G_is_joining := ok_is_joining B D_is_joining G_is_number
  have G_need := ok_need (P := P) (w := w) (base := base) D_need N FI
  have G_lowest := ok_lowest B D_lowest G_common_divisor
  have G_need_two := ok_need_two D_need_two G_need G_is_quotient
  have G_quotient_of : Cal P w K mg base (L2N.CX P w) 4 "quotient_of" ["top", "bottom"] (spQuotientOf K C) := mkCal D_quotient_of (fun _ _ _ _ _ _ us hl => match us, hl with | [_, _], _ => rfl) fun f fd F => fn_quotient_of F G_need G_is_integer G_lowest
  have K_quotient_of : CalK P w K mg base (L2N.CX P w) 4 "quotient_of" ["top", "bottom"] ["bottom", "top"] (spQuotientOf K C) := mkCalK D_quotient_of (fun _ _ _ _ _ _ us hl => match us, hl with | [_, _], _ => rfl) fun f fd F => fn_quotient_of F G_need G_is_integer G_lowest
  have G_plus : Cal P w K mg base (L2N.CX P w) 5 "plus" ["one", "other"] (spQ2 K C never fPlus) := mkCal D_plus (fun _ _ _ _ _ _ us hl => match us, hl with | [_, _], _ => rfl) fun f fd F => fn_plus F G_need_two G_lowest
  have K_plus : CalK P w K mg base (L2N.CX P w) 5 "plus" ["one", "other"] ["other", "one"] (spQ2 K C never fPlus) := mkCalK D_plus (fun _ _ _ _ _ _ us hl => match us, hl with | [_, _], _ => rfl) fun f fd F => fn_plus F G_need_two G_lowest
  have G_minus : Cal P w K mg base (L2N.CX P w) 5 "minus" ["one", "other"] (spQ2 K C never fMinus) := mkCal D_minus (fun _ _ _ _ _ _ us hl => match us, hl with | [_, _], _ => rfl) fun f fd F => fn_minus F G_need_two G_lowest
  have K_minus : CalK P w K mg base (L2N.CX P w) 5 "minus" ["one", "other"] ["other", "one"] (spQ2 K C never fMinus) := mkCalK D_minus (fun _ _ _ _ _ _ us hl => match us, hl with | [_, _], _ => rfl) fun f fd F => fn_minus F G_need_two G_lowest
  have G_times : Cal P w K mg base (L2N.CX P w) 5 "times" ["one", "other"] (spQ2 K C never fTimes) := mkCal D_times (fun _ _ _ _ _ _ us hl => match us, hl with | [_, _], _ => rfl) fun f fd F => fn_times F G_need_two G_lowest
  have K_times : CalK P w K mg base (L2N.CX P w) 5 "times" ["one", "other"] ["other", "one"] (spQ2 K C never fTimes) := mkCalK D_times (fun _ _ _ _ _ _ us hl => match us, hl with | [_, _], _ => rfl) fun f fd F => fn_times F G_need_two G_lowest
  have G_over : Cal P w K mg base (L2N.CX P w) 5 "over" ["one", "other"] (spQ2 K C nought fOver) := mkCal D_over (fun _ _ _ _ _ _ us hl => match us, hl with | [_, _], _ => rfl) fun f fd F => fn_over F G_need G_need_two G_lowest
  have K_over : CalK P w K mg base (L2N.CX P w) 5 "over" ["one", "other"] ["other", "one"] (spQ2 K C nought fOver) := mkCalK D_over (fun _ _ _ _ _ _ us hl => match us, hl with | [_, _], _ => rfl) fun f fd F => fn_over F G_need G_need_two G_lowest
  have G_less : Cal P w K mg base (L2N.CX P w) 5 "less" ["one", "other"] (spLess K C) := mkCal D_less (fun _ _ _ _ _ _ us hl => match us, hl with | [_, _], _ => rfl) fun f fd F => fn_less F G_need_two
  have K_less : CalK P w K mg base (L2N.CX P w) 5 "less" ["one", "other"] ["other", "one"] (spLess K C) := mkCalK D_less (fun _ _ _ _ _ _ us hl => match us, hl with | [_, _], _ => rfl) fun f fd F => fn_less F G_need_two
  have G_joined_with : Cal P w K mg base (L2N.CX P w) 4 "joined_with" ["many", "joining", "other"] (spJoinedWith K C) := mkCal D_joined_with (fun _ _ _ _ _ _ us hl => match us, hl with | [_, _, _], _ => rfl) fun f fd F => fn_joined_with B F G_need G_is_joining
  have K_joined_with : CalK P w K mg base (L2N.CX P w) 4 "joined_with" ["many", "joining", "other"] ["other", "joining", "many"] (spJoinedWith K C) := mkCalK D_joined_with (fun _ _ _ _ _ _ us hl => match us, hl with | [_, _, _], _ => rfl) fun f fd F => fn_joined_with B F G_need G_is_joining
  have G_blocks_of : Cal P w K mg base (L2N.CX P w) 4 "blocks_of" ["many", "joining"] (spBlocksOf K C) := mkCal D_blocks_of (fun _ _ _ _ _ _ us hl => match us, hl with | [_, _], _ => rfl) fun f fd F => fn_blocks_of B F G_need G_is_joining
  have K_blocks_of : CalK P w K mg base (L2N.CX P w) 4 "blocks_of" ["many", "joining"] ["joining", "many"] (spBlocksOf K C) := mkCalK D_blocks_of (fun _ _ _ _ _ _ us hl => match us, hl with | [_, _], _ => rfl) fun f fd F => fn_blocks_of B F G_need G_is_joining
  have G_are_blocks := ok_are_blocks B D_are_blocks G_is_lot
  have G_joining_of : Cal P w K mg base (L2N.CX P w) 4 "joining_of" ["many", "lots"] (spJoiningOf K C) := mkCal D_joining_of (fun _ _ _ _ _ _ us hl => match us, hl with | [_, _], _ => rfl) fun f fd F => fn_joining_of B F G_need G_are_blocks
  have K_joining_of : CalK P w K mg base (L2N.CX P w) 4 "joining_of" ["many", "lots"] ["lots", "many"] (spJoiningOf K C) := mkCalK D_joining_of (fun _ _ _ _ _ _ us hl => match us, hl with | [_, _], _ => rfl) fun f fd F => fn_joining_of B F G_need G_are_blocks
  have G_joinings_of := ok_joinings_of (P := P) (w := w) (base := base) B D_joinings_of
  have G_law_take := ok_take (P := P) (w := w) (base := base) B D_law_take
  have G_law_great := ok_great B D_law_great G_law_take
  have G_law_int := ok_law_int (P := P) (w := w) (base := base) B D_law_int
  have H_law_int := ok_law_intH (P := P) (w := w) (base := base) B D_law_int
  have G_law_common := ok_common (P := P) (w := w) (base := base) B D_law_common
  have G_law_share := ok_share B D_law_share G_law_take G_law_great G_law_common
  have G_law_stands := ok_stands B D_law_stands G_law_int G_law_common
  have G_law_number := ok_number (P := P) (w := w) (base := base) D_law_number
  have G_law_deed := ok_deed D_law_deed G_plus G_minus G_times G_over G_less G_quotient_of G_blocks_of G_joining_of G_joined_with
  have G_law_refused := ok_refused B N D_law_refused G_law_deed H_law_int
  have G_law_row := ok_row B D_law_row G_law_int
  have G_law_joined := ok_joined B D_law_joined G_law_take
  have G_law_pair := ok_pair D_law_pair G_law_refused G_law_deed G_law_number G_law_stands G_less
  have G_law_chain := ok_chain B D_law_chain G_law_take G_law_common G_law_deed G_law_number G_law_stands
  have G_law_pool := ok_pool (P := P) (w := w) (base := base) B D_law_pool
  have G_law_both := ok_both B D_law_both G_law_row G_joined_with K_joined_with
  have G_law_blocks := ok_lawBlocks B D_law_blocks G_law_row G_law_take G_blocks_of G_joining_of K_blocks_of K_joining_of
  have G_law_listed := ok_listed B D_law_listed G_law_int G_joinings_of
  have G_law_refusals := ok_refusals D_law_refusals G_law_refused G_law_row G_joining_of G_quotient_of G_law_stands
  exact fn_law B F G_law_pool G_law_share G_law_take G_law_stands G_quotient_of K_quotient_of G_law_refusals G_law_pair G_law_number K_minus K_times K_plus K_over K_less G_law_chain G_law_joined G_law_blocks G_law_both G_law_listed
/-- an error of the class at S is what «except S» names -/
theorem exm_own {K : PySem.W.Frag} {S : Addr} (h1 : PySem.W.subIn K (.ref S) (.type "BaseException") = some true) (h2 : PySem.W.isClsIn K S = true) (h3 : PySem.W.typeIn K (.ref S) = some (.type "type")) (h4 : PySem.W.subIn K (.ref S) (.ref S) = some true) :
    PySem.W.exmOne K (.ref S) (.ref S) = some true := by
  have e1 : (PySem.W.subIn K (.ref S) (.type "BaseException") == some true) = true := by rw [h1] <;> rfl
  have e2 : ((PySem.W.clsIn K S).isSome && PySem.W.typeIn K (.ref S) == some (.type "type")) = true := by
    have h2' : (PySem.W.clsIn K S).isSome = true := h2
    rw [h2', h3] <;> rfl
  show (if (PySem.W.subIn K (.ref S) (.type "BaseException") == some true) = true then (if ((PySem.W.clsIn K S).isSome && PySem.W.typeIn K (.ref S) == some (.type "type")) = true then PySem.W.subIn K (.ref S) (.ref S) else none) else none) = some true
  rw [if_pos e1, if_pos e2]
  exact h4
theorem kit_ref {K : PySem.W.Frag} {C D : Addr} {b : Bool} (h1 : PySem.W.isClsIn K D = true) (h2 : PySem.W.typeIn K (.ref D) = some (.type "type")) (h3 : PySem.W.subIn K (.ref C) (.ref D) = some b) (hb : b = true ∨ (Value.ref C == Value.ref D) = false) : PySem.W.kitOne K (.ref C) (.ref D) = some b := by
  have e2 : ((PySem.W.clsIn K D).isSome && PySem.W.typeIn K (.ref D) == some (.type "type")) = true := by
    have h1' : (PySem.W.clsIn K D).isSome = true := h1
    rw [h1', h2] <;> rfl
  have e : PySem.W.kitCls K (.ref C) (.ref D) = some b := by
    show (if ((PySem.W.clsIn K D).isSome && PySem.W.typeIn K (.ref D) == some (.type "type")) = true then PySem.W.subIn K (.ref C) (.ref D) else none) = some b
    rw [if_pos e2]
    exact h3
  unfold PySem.W.kitOne
  rw [e]
  rcases hb with rfl | hb
  · split <;> rfl
  · rw [hb, if_neg (by decide)]
theorem kit_type {K : PySem.W.Frag} {C : Addr} {T : String} (h1 : PySem.W.kitMeta T = true) (h3 : PySem.W.subIn K (.ref C) (.type T) = some true) : PySem.W.kitOne K (.ref C) (.type T) = some true := by
  have e : PySem.W.kitCls K (.ref C) (.type T) = some true := by
    show (if PySem.W.kitMeta T = true then PySem.W.subIn K (.ref C) (.type T) else none) = some true
    rw [if_pos h1]
    exact h3
  unfold PySem.W.kitOne
  rw [e]
  split <;> rfl
theorem all_mk {P : Program} {w : World} {K : PySem.W.Frag} {mg : Str → Option Value} {h : Heap} {fa C cW cL cP fI : Addr} (X : K.In h) (G : h.Ns mainGlobals mg) (hfa : mg "law" = some (.ref fa))
    {nm q : Str} {Na : Addr} {bs bm : List Value} {sn : List Str} {sub : List Value} {ab : Bool} {col : Option Bool} {dd : Option Addr} {m0 m1 m2 m3 m5 : Option Value} {f_0 f_1 f_2 f_3 f_4 f_5 f_6 f_7 f_8 f_9 f_10 f_11 f_12 f_13 f_14 f_15 f_16 f_17 f_18 f_19 f_20 f_21 f_22 f_23 f_24 f_25 f_26 f_27 f_28 f_29 f_30 f_31 f_32 f_33 f_34 f_35 f_36 f_37 f_38 : Addr}
    {ocI kVI dcI pmI cdI ctI : Value} {odI anI : Option Addr} {slI : Array (Option Value)} {oc_0 kV_0 dc_0 pm_0 cd_0 ct_0 : Value} {od_0 an_0 : Option Addr} {sl_0 : Array (Option Value)} {oc_1 kV_1 dc_1 pm_1 cd_1 ct_1 : Value} {od_1 an_1 : Option Addr} {sl_1 : Array (Option Value)} {oc_2 kV_2 dc_2 pm_2 cd_2 ct_2 : Value} {od_2 an_2 : Option Addr} {sl_2 : Array (Option Value)} {oc_3 kV_3 dc_3 pm_3 cd_3 ct_3 : Value} {od_3 an_3 : Option Addr} {sl_3 : Array (Option Value)} {oc_4 kV_4 dc_4 pm_4 cd_4 ct_4 : Value} {od_4 an_4 : Option Addr} {sl_4 : Array (Option Value)} {oc_5 kV_5 dc_5 pm_5 cd_5 ct_5 : Value} {od_5 an_5 : Option Addr} {sl_5 : Array (Option Value)} {oc_6 kV_6 dc_6 pm_6 cd_6 ct_6 : Value} {od_6 an_6 : Option Addr} {sl_6 : Array (Option Value)} {oc_7 kV_7 dc_7 pm_7 cd_7 ct_7 : Value} {od_7 an_7 : Option Addr} {sl_7 : Array (Option Value)} {oc_8 kV_8 dc_8 pm_8 cd_8 ct_8 : Value} {od_8 an_8 : Option Addr} {sl_8 : Array (Option Value)} {oc_9 kV_9 dc_9 pm_9 cd_9 ct_9 : Value} {od_9 an_9 : Option Addr} {sl_9 : Array (Option Value)} {oc_10 kV_10 dc_10 pm_10 cd_10 ct_10 : Value} {od_10 an_10 : Option Addr} {sl_10 : Array (Option Value)} {oc_11 kV_11 dc_11 pm_11 cd_11 ct_11 : Value} {od_11 an_11 : Option Addr} {sl_11 : Array (Option Value)} {oc_12 kV_12 dc_12 pm_12 cd_12 ct_12 : Value} {od_12 an_12 : Option Addr} {sl_12 : Array (Option Value)} {oc_13 kV_13 dc_13 pm_13 cd_13 ct_13 : Value} {od_13 an_13 : Option Addr} {sl_13 : Array (Option Value)} {oc_14 kV_14 dc_14 pm_14 cd_14 ct_14 : Value} {od_14 an_14 : Option Addr} {sl_14 : Array (Option Value)} {oc_15 kV_15 dc_15 pm_15 cd_15 ct_15 : Value} {od_15 an_15 : Option Addr} {sl_15 : Array (Option Value)} {oc_16 kV_16 dc_16 pm_16 cd_16 ct_16 : Value} {od_16 an_16 : Option Addr} {sl_16 : Array (Option Value)} {oc_17 kV_17 dc_17 pm_17 cd_17 ct_17 : Value} {od_17 an_17 : Option Addr} {sl_17 : Array (Option Value)} {oc_18 kV_18 dc_18 pm_18 cd_18 ct_18 : Value} {od_18 an_18 : Option Addr} {sl_18 : Array (Option Value)} {oc_19 kV_19 dc_19 pm_19 cd_19 ct_19 : Value} {od_19 an_19 : Option Addr} {sl_19 : Array (Option Value)} {oc_20 kV_20 dc_20 pm_20 cd_20 ct_20 : Value} {od_20 an_20 : Option Addr} {sl_20 : Array (Option Value)} {oc_21 kV_21 dc_21 pm_21 cd_21 ct_21 : Value} {od_21 an_21 : Option Addr} {sl_21 : Array (Option Value)} {oc_22 kV_22 dc_22 pm_22 cd_22 ct_22 : Value} {od_22 an_22 : Option Addr} {sl_22 : Array (Option Value)} {oc_23 kV_23 dc_23 pm_23 cd_23 ct_23 : Value} {od_23 an_23 : Option Addr} {sl_23 : Array (Option Value)} {oc_24 kV_24 dc_24 pm_24 cd_24 ct_24 : Value} {od_24 an_24 : Option Addr} {sl_24 : Array (Option Value)} {oc_25 kV_25 dc_25 pm_25 cd_25 ct_25 : Value} {od_25 an_25 : Option Addr} {sl_25 : Array (Option Value)} {oc_26 kV_26 dc_26 pm_26 cd_26 ct_26 : Value} {od_26 an_26 : Option Addr} {sl_26 : Array (Option Value)} {oc_27 kV_27 dc_27 pm_27 cd_27 ct_27 : Value} {od_27 an_27 : Option Addr} {sl_27 : Array (Option Value)} {oc_28 kV_28 dc_28 pm_28 cd_28 ct_28 : Value} {od_28 an_28 : Option Addr} {sl_28 : Array (Option Value)} {oc_29 kV_29 dc_29 pm_29 cd_29 ct_29 : Value} {od_29 an_29 : Option Addr} {sl_29 : Array (Option Value)} {oc_30 kV_30 dc_30 pm_30 cd_30 ct_30 : Value} {od_30 an_30 : Option Addr} {sl_30 : Array (Option Value)} {oc_31 kV_31 dc_31 pm_31 cd_31 ct_31 : Value} {od_31 an_31 : Option Addr} {sl_31 : Array (Option Value)} {oc_32 kV_32 dc_32 pm_32 cd_32 ct_32 : Value} {od_32 an_32 : Option Addr} {sl_32 : Array (Option Value)} {oc_33 kV_33 dc_33 pm_33 cd_33 ct_33 : Value} {od_33 an_33 : Option Addr} {sl_33 : Array (Option Value)} {oc_34 kV_34 dc_34 pm_34 cd_34 ct_34 : Value} {od_34 an_34 : Option Addr} {sl_34 : Array (Option Value)} {oc_35 kV_35 dc_35 pm_35 cd_35 ct_35 : Value} {od_35 an_35 : Option Addr} {sl_35 : Array (Option Value)} {oc_36 kV_36 dc_36 pm_36 cd_36 ct_36 : Value} {od_36 an_36 : Option Addr} {sl_36 : Array (Option Value)} {oc_37 kV_37 dc_37 pm_37 cd_37 ct_37 : Value} {od_37 an_37 : Option Addr} {sl_37 : Array (Option Value)} {oc_38 kV_38 dc_38 pm_38 cd_38 ct_38 : Value} {od_38 an_38 : Option Addr} {sl_38 : Array (Option Value)}
    (b_len : PySem.W.nsIn K mainGlobals "len" = some none)
    (b_isinstance : PySem.W.nsIn K mainGlobals "isinstance" = some none)
    (b_abs : PySem.W.nsIn K mainGlobals "abs" = some none)
    (b_int : PySem.W.nsIn K mainGlobals "int" = some none)
    (b_bool : PySem.W.nsIn K mainGlobals "bool" = some none)
    (b_str : PySem.W.nsIn K mainGlobals "str" = some none)
    (b_list : PySem.W.nsIn K mainGlobals "list" = some none)
    (b_tuple : PySem.W.nsIn K mainGlobals "tuple" = some none)
    (b_min : PySem.W.nsIn K mainGlobals "min" = some none)
    (b_max : PySem.W.nsIn K mainGlobals "max" = some none)
    (b_sorted : PySem.W.nsIn K mainGlobals "sorted" = some none)
    (b_range : PySem.W.nsIn K mainGlobals "range" = some none)
    (b_enumerate : PySem.W.nsIn K mainGlobals "enumerate" = some none)
    (b_ValueError : PySem.W.nsIn K mainGlobals "ValueError" = some none)
    (gC : PySem.W.nsIn K mainGlobals "NotUsable" = some (some (.ref C)))
    (gW : PySem.W.nsIn K mainGlobals "WebError" = some (some (.ref cW)))
    (gL : PySem.W.nsIn K mainGlobals "LedError" = some (some (.ref cL)))
    (gP : PySem.W.nsIn K mainGlobals "PaperError" = some (some (.ref cP)))
    (xC : K.lookup C = some (excClassObj nm q C Na bs bm true sn sub ab col dd m0 m1 m2 m3 m5 "ValueError.__new__"))
    (rC : PySem.HandSPX.refsVE bm = true)
    (sa : PySem.W.findIn K (.ref C) "__setattr__" = some (some (.builtin "object.__setattr__")))
    (ga : PySem.W.findIn K (.ref C) "__getattribute__" = some (some (.builtin "BaseException.__getattribute__")))
    (gg : PySem.W.findIn K (.ref C) "__getattr__" = some none)
    (nw : PySem.W.findIn K (.ref C) "word" = some none)
    (na : PySem.W.findIn K (.ref C) "at" = some none)
    (a1 : PySem.W.findIn K (.ref C) "__init__" = some (some (.ref fI)))
    (t1 : PySem.W.typeIn K (.ref fI) = some (.type "function"))
    (eC : PySem.W.subIn K (.ref C) (.type "BaseException") = some true)
    (tC : PySem.W.typeIn K (.ref C) = some (.type "type"))
    (kC : PySem.W.keepIn K (.ref C) = true)
    (hC : PySem.W.hasDictIn K C = true)
    (iC : PySem.W.isClsIn K C = true)
    (sC : PySem.W.subIn K (.ref C) (.ref C) = some true)
    (ha : PySem.W.findIn K (.ref C) "__class__" = some (some (.builtin "object.__class__")))
    (hn : PySem.W.specialIn K (.builtin "object.__class__") "__get__" = some (some (.builtin "getset_descriptor.__get__")))
    (ht : PySem.W.takesIn K (.builtin "object.__class__") = some true)
    (hm : PySem.W.mroIn K C (.type "object") = some true)
    (iW : PySem.W.isClsIn K cW = true)
    (tW : PySem.W.typeIn K (.ref cW) = some (.type "type"))
    (sW : PySem.W.subIn K (.ref C) (.ref cW) = some true)
    (iL : PySem.W.isClsIn K cL = true)
    (tL : PySem.W.typeIn K (.ref cL) = some (.type "type"))
    (sL : PySem.W.subIn K (.ref C) (.ref cL) = some true)
    (iP : PySem.W.isClsIn K cP = true)
    (tP : PySem.W.typeIn K (.ref cP) = some (.type "type"))
    (sP : PySem.W.subIn K (.ref C) (.ref cP) = some false)
    (nP : (Value.ref C == Value.ref cP) = false)
    (sV : PySem.W.subIn K (.ref C) (.type "ValueError") = some true)
    (lI : K.lookup fI = some ⟨ocI, odI, .func (PySem.W.fnOf "__init__" "NotUsable.__init__" (defArgs s_init) (defBody s_init) (defScope s_init) .none kVI dcI pmI anI cdI ctI), slI⟩)
    (cI : PySem.W.codeIn K cdI "NotUsable.__init__" = true)
    (kI : PySem.W.keepIn K (.ref fI) = true)
    (a_0 : PySem.W.nsIn K mainGlobals "is_integer" = some (some (.ref f_0)))
    (l_0 : K.lookup f_0 = some ⟨oc_0, od_0, .func (PySem.W.fnOf "is_integer" "is_integer" (defArgs s_is_integer) (defBody s_is_integer) (defScope s_is_integer) .none kV_0 dc_0 pm_0 an_0 cd_0 ct_0), sl_0⟩)
    (c_0 : PySem.W.codeIn K cd_0 "is_integer" = true)
    (k_0 : PySem.W.keepIn K (.ref f_0) = true)
    (a_1 : PySem.W.nsIn K mainGlobals "is_number" = some (some (.ref f_1)))
    (l_1 : K.lookup f_1 = some ⟨oc_1, od_1, .func (PySem.W.fnOf "is_number" "is_number" (defArgs s_is_number) (defBody s_is_number) (defScope s_is_number) .none kV_1 dc_1 pm_1 an_1 cd_1 ct_1), sl_1⟩)
    (c_1 : PySem.W.codeIn K cd_1 "is_number" = true)
    (k_1 : PySem.W.keepIn K (.ref f_1) = true)
    (a_2 : PySem.W.nsIn K mainGlobals "common_divisor" = some (some (.ref f_2)))
    (l_2 : K.lookup f_2 = some ⟨oc_2, od_2, .func (PySem.W.fnOf "common_divisor" "common_divisor" (defArgs s_common_divisor) (defBody s_common_divisor) (defScope s_common_divisor) .none kV_2 dc_2 pm_2 an_2 cd_2 ct_2), sl_2⟩)
    (c_2 : PySem.W.codeIn K cd_2 "common_divisor" = true)
    (k_2 : PySem.W.keepIn K (.ref f_2) = true)
    (a_3 : PySem.W.nsIn K mainGlobals "is_quotient" = some (some (.ref f_3)))
    (l_3 : K.lookup f_3 = some ⟨oc_3, od_3, .func (PySem.W.fnOf "is_quotient" "is_quotient" (defArgs s_is_quotient) (defBody s_is_quotient) (defScope s_is_quotient) .none kV_3 dc_3 pm_3 an_3 cd_3 ct_3), sl_3⟩)
    (c_3 : PySem.W.codeIn K cd_3 "is_quotient" = true)
    (k_3 : PySem.W.keepIn K (.ref f_3) = true)
    (a_4 : PySem.W.nsIn K mainGlobals "is_lot" = some (some (.ref f_4)))
    (l_4 : K.lookup f_4 = some ⟨oc_4, od_4, .func (PySem.W.fnOf "is_lot" "is_lot" (defArgs s_is_lot) (defBody s_is_lot) (defScope s_is_lot) .none kV_4 dc_4 pm_4 an_4 cd_4 ct_4), sl_4⟩)
    (c_4 : PySem.W.codeIn K cd_4 "is_lot" = true)
    (k_4 : PySem.W.keepIn K (.ref f_4) = true)
    (a_5 : PySem.W.nsIn K mainGlobals "is_joining" = some (some (.ref f_5)))
    (l_5 : K.lookup f_5 = some ⟨oc_5, od_5, .func (PySem.W.fnOf "is_joining" "is_joining" (defArgs s_is_joining) (defBody s_is_joining) (defScope s_is_joining) .none kV_5 dc_5 pm_5 an_5 cd_5 ct_5), sl_5⟩)
    (c_5 : PySem.W.codeIn K cd_5 "is_joining" = true)
    (k_5 : PySem.W.keepIn K (.ref f_5) = true)
    (a_6 : PySem.W.nsIn K mainGlobals "need" = some (some (.ref f_6)))
    (l_6 : K.lookup f_6 = some ⟨oc_6, od_6, .func (PySem.W.fnOf "need" "need" (defArgs s_need) (defBody s_need) (defScope s_need) .none kV_6 dc_6 pm_6 an_6 cd_6 ct_6), sl_6⟩)
    (c_6 : PySem.W.codeIn K cd_6 "need" = true)
    (k_6 : PySem.W.keepIn K (.ref f_6) = true)
    (a_7 : PySem.W.nsIn K mainGlobals "lowest" = some (some (.ref f_7)))
    (l_7 : K.lookup f_7 = some ⟨oc_7, od_7, .func (PySem.W.fnOf "lowest" "lowest" (defArgs s_lowest) (defBody s_lowest) (defScope s_lowest) .none kV_7 dc_7 pm_7 an_7 cd_7 ct_7), sl_7⟩)
    (c_7 : PySem.W.codeIn K cd_7 "lowest" = true)
    (k_7 : PySem.W.keepIn K (.ref f_7) = true)
    (a_8 : PySem.W.nsIn K mainGlobals "need_two" = some (some (.ref f_8)))
    (l_8 : K.lookup f_8 = some ⟨oc_8, od_8, .func (PySem.W.fnOf "need_two" "need_two" (defArgs s_need_two) (defBody s_need_two) (defScope s_need_two) .none kV_8 dc_8 pm_8 an_8 cd_8 ct_8), sl_8⟩)
    (c_8 : PySem.W.codeIn K cd_8 "need_two" = true)
    (k_8 : PySem.W.keepIn K (.ref f_8) = true)
    (a_9 : PySem.W.nsIn K mainGlobals "quotient_of" = some (some (.ref f_9)))
    (l_9 : K.lookup f_9 = some ⟨oc_9, od_9, .func (PySem.W.fnOf "quotient_of" "quotient_of" (defArgs s_quotient_of) (defBody s_quotient_of) (defScope s_quotient_of) .none kV_9 dc_9 pm_9 an_9 cd_9 ct_9), sl_9⟩)
    (c_9 : PySem.W.codeIn K cd_9 "quotient_of" = true)
    (k_9 : PySem.W.keepIn K (.ref f_9) = true)
    (a_10 : PySem.W.nsIn K mainGlobals "plus" = some (some (.ref f_10)))
    (l_10 : K.lookup f_10 = some ⟨oc_10, od_10, .func (PySem.W.fnOf "plus" "plus" (defArgs s_plus) (defBody s_plus) (defScope s_plus) .none kV_10 dc_10 pm_10 an_10 cd_10 ct_10), sl_10⟩)
    (c_10 : PySem.W.codeIn K cd_10 "plus" = true)
    (k_10 : PySem.W.keepIn K (.ref f_10) = true)
    (a_11 : PySem.W.nsIn K mainGlobals "minus" = some (some (.ref f_11)))
    (l_11 : K.lookup f_11 = some ⟨oc_11, od_11, .func (PySem.W.fnOf "minus" "minus" (defArgs s_minus) (defBody s_minus) (defScope s_minus) .none kV_11 dc_11 pm_11 an_11 cd_11 ct_11), sl_11⟩)
    (c_11 : PySem.W.codeIn K cd_11 "minus" = true)
    (k_11 : PySem.W.keepIn K (.ref f_11) = true)
    (a_12 : PySem.W.nsIn K mainGlobals "times" = some (some (.ref f_12)))
    (l_12 : K.lookup f_12 = some ⟨oc_12, od_12, .func (PySem.W.fnOf "times" "times" (defArgs s_times) (defBody s_times) (defScope s_times) .none kV_12 dc_12 pm_12 an_12 cd_12 ct_12), sl_12⟩)
    (c_12 : PySem.W.codeIn K cd_12 "times" = true)
    (k_12 : PySem.W.keepIn K (.ref f_12) = true)
    (a_13 : PySem.W.nsIn K mainGlobals "over" = some (some (.ref f_13)))
    (l_13 : K.lookup f_13 = some ⟨oc_13, od_13, .func (PySem.W.fnOf "over" "over" (defArgs s_over) (defBody s_over) (defScope s_over) .none kV_13 dc_13 pm_13 an_13 cd_13 ct_13), sl_13⟩)
    (c_13 : PySem.W.codeIn K cd_13 "over" = true)
    (k_13 : PySem.W.keepIn K (.ref f_13) = true)
    (a_14 : PySem.W.nsIn K mainGlobals "less" = some (some (.ref f_14)))
    (l_14 : K.lookup f_14 = some ⟨oc_14, od_14, .func (PySem.W.fnOf "less" "less" (defArgs s_less) (defBody s_less) (defScope s_less) .none kV_14 dc_14 pm_14 an_14 cd_14 ct_14), sl_14⟩)
    (c_14 : PySem.W.codeIn K cd_14 "less" = true)
    (k_14 : PySem.W.keepIn K (.ref f_14) = true)
    (a_15 : PySem.W.nsIn K mainGlobals "joinings_of" = some (some (.ref f_15)))
    (l_15 : K.lookup f_15 = some ⟨oc_15, od_15, .func (PySem.W.fnOf "joinings_of" "joinings_of" (defArgs s_joinings_of) (defBody s_joinings_of) (defScope s_joinings_of) .none kV_15 dc_15 pm_15 an_15 cd_15 ct_15), sl_15⟩)
    (c_15 : PySem.W.codeIn K cd_15 "joinings_of" = true)
    (k_15 : PySem.W.keepIn K (.ref f_15) = true)
    (a_16 : PySem.W.nsIn K mainGlobals "blocks_of" = some (some (.ref f_16)))
    (l_16 : K.lookup f_16 = some ⟨oc_16, od_16, .func (PySem.W.fnOf "blocks_of" "blocks_of" (defArgs s_blocks_of) (defBody s_blocks_of) (defScope s_blocks_of) .none kV_16 dc_16 pm_16 an_16 cd_16 ct_16), sl_16⟩)
    (c_16 : PySem.W.codeIn K cd_16 "blocks_of" = true)
    (k_16 : PySem.W.keepIn K (.ref f_16) = true)
    (a_17 : PySem.W.nsIn K mainGlobals "are_blocks" = some (some (.ref f_17)))
    (l_17 : K.lookup f_17 = some ⟨oc_17, od_17, .func (PySem.W.fnOf "are_blocks" "are_blocks" (defArgs s_are_blocks) (defBody s_are_blocks) (defScope s_are_blocks) .none kV_17 dc_17 pm_17 an_17 cd_17 ct_17), sl_17⟩)
    (c_17 : PySem.W.codeIn K cd_17 "are_blocks" = true)
    (k_17 : PySem.W.keepIn K (.ref f_17) = true)
    (a_18 : PySem.W.nsIn K mainGlobals "joining_of" = some (some (.ref f_18)))
    (l_18 : K.lookup f_18 = some ⟨oc_18, od_18, .func (PySem.W.fnOf "joining_of" "joining_of" (defArgs s_joining_of) (defBody s_joining_of) (defScope s_joining_of) .none kV_18 dc_18 pm_18 an_18 cd_18 ct_18), sl_18⟩)
    (c_18 : PySem.W.codeIn K cd_18 "joining_of" = true)
    (k_18 : PySem.W.keepIn K (.ref f_18) = true)
    (a_19 : PySem.W.nsIn K mainGlobals "joined_with" = some (some (.ref f_19)))
    (l_19 : K.lookup f_19 = some ⟨oc_19, od_19, .func (PySem.W.fnOf "joined_with" "joined_with" (defArgs s_joined_with) (defBody s_joined_with) (defScope s_joined_with) .none kV_19 dc_19 pm_19 an_19 cd_19 ct_19), sl_19⟩)
    (c_19 : PySem.W.codeIn K cd_19 "joined_with" = true)
    (k_19 : PySem.W.keepIn K (.ref f_19) = true)
    (a_20 : PySem.W.nsIn K mainGlobals "_law_pool" = some (some (.ref f_20)))
    (l_20 : K.lookup f_20 = some ⟨oc_20, od_20, .func (PySem.W.fnOf "_law_pool" "_law_pool" (defArgs s_law_pool) (defBody s_law_pool) (defScope s_law_pool) .none kV_20 dc_20 pm_20 an_20 cd_20 ct_20), sl_20⟩)
    (c_20 : PySem.W.codeIn K cd_20 "_law_pool" = true)
    (k_20 : PySem.W.keepIn K (.ref f_20) = true)
    (a_21 : PySem.W.nsIn K mainGlobals "_law_take" = some (some (.ref f_21)))
    (l_21 : K.lookup f_21 = some ⟨oc_21, od_21, .func (PySem.W.fnOf "_law_take" "_law_take" (defArgs s_law_take) (defBody s_law_take) (defScope s_law_take) .none kV_21 dc_21 pm_21 an_21 cd_21 ct_21), sl_21⟩)
    (c_21 : PySem.W.codeIn K cd_21 "_law_take" = true)
    (k_21 : PySem.W.keepIn K (.ref f_21) = true)
    (a_22 : PySem.W.nsIn K mainGlobals "_law_great" = some (some (.ref f_22)))
    (l_22 : K.lookup f_22 = some ⟨oc_22, od_22, .func (PySem.W.fnOf "_law_great" "_law_great" (defArgs s_law_great) (defBody s_law_great) (defScope s_law_great) .none kV_22 dc_22 pm_22 an_22 cd_22 ct_22), sl_22⟩)
    (c_22 : PySem.W.codeIn K cd_22 "_law_great" = true)
    (k_22 : PySem.W.keepIn K (.ref f_22) = true)
    (a_23 : PySem.W.nsIn K mainGlobals "_law_int" = some (some (.ref f_23)))
    (l_23 : K.lookup f_23 = some ⟨oc_23, od_23, .func (PySem.W.fnOf "_law_int" "_law_int" (defArgs s_law_int) (defBody s_law_int) (defScope s_law_int) .none kV_23 dc_23 pm_23 an_23 cd_23 ct_23), sl_23⟩)
    (c_23 : PySem.W.codeIn K cd_23 "_law_int" = true)
    (k_23 : PySem.W.keepIn K (.ref f_23) = true)
    (a_24 : PySem.W.nsIn K mainGlobals "_law_common" = some (some (.ref f_24)))
    (l_24 : K.lookup f_24 = some ⟨oc_24, od_24, .func (PySem.W.fnOf "_law_common" "_law_common" (defArgs s_law_common) (defBody s_law_common) (defScope s_law_common) .none kV_24 dc_24 pm_24 an_24 cd_24 ct_24), sl_24⟩)
    (c_24 : PySem.W.codeIn K cd_24 "_law_common" = true)
    (k_24 : PySem.W.keepIn K (.ref f_24) = true)
    (a_25 : PySem.W.nsIn K mainGlobals "_law_share" = some (some (.ref f_25)))
    (l_25 : K.lookup f_25 = some ⟨oc_25, od_25, .func (PySem.W.fnOf "_law_share" "_law_share" (defArgs s_law_share) (defBody s_law_share) (defScope s_law_share) .none kV_25 dc_25 pm_25 an_25 cd_25 ct_25), sl_25⟩)
    (c_25 : PySem.W.codeIn K cd_25 "_law_share" = true)
    (k_25 : PySem.W.keepIn K (.ref f_25) = true)
    (a_26 : PySem.W.nsIn K mainGlobals "_law_stands" = some (some (.ref f_26)))
    (l_26 : K.lookup f_26 = some ⟨oc_26, od_26, .func (PySem.W.fnOf "_law_stands" "_law_stands" (defArgs s_law_stands) (defBody s_law_stands) (defScope s_law_stands) .none kV_26 dc_26 pm_26 an_26 cd_26 ct_26), sl_26⟩)
    (c_26 : PySem.W.codeIn K cd_26 "_law_stands" = true)
    (k_26 : PySem.W.keepIn K (.ref f_26) = true)
    (a_27 : PySem.W.nsIn K mainGlobals "_law_deed" = some (some (.ref f_27)))
    (l_27 : K.lookup f_27 = some ⟨oc_27, od_27, .func (PySem.W.fnOf "_law_deed" "_law_deed" (defArgs s_law_deed) (defBody s_law_deed) (defScope s_law_deed) .none kV_27 dc_27 pm_27 an_27 cd_27 ct_27), sl_27⟩)
    (c_27 : PySem.W.codeIn K cd_27 "_law_deed" = true)
    (k_27 : PySem.W.keepIn K (.ref f_27) = true)
    (a_28 : PySem.W.nsIn K mainGlobals "_law_refused" = some (some (.ref f_28)))
    (l_28 : K.lookup f_28 = some ⟨oc_28, od_28, .func (PySem.W.fnOf "_law_refused" "_law_refused" (defArgs s_law_refused) (defBody s_law_refused) (defScope s_law_refused) .none kV_28 dc_28 pm_28 an_28 cd_28 ct_28), sl_28⟩)
    (c_28 : PySem.W.codeIn K cd_28 "_law_refused" = true)
    (k_28 : PySem.W.keepIn K (.ref f_28) = true)
    (a_29 : PySem.W.nsIn K mainGlobals "_law_number" = some (some (.ref f_29)))
    (l_29 : K.lookup f_29 = some ⟨oc_29, od_29, .func (PySem.W.fnOf "_law_number" "_law_number" (defArgs s_law_number) (defBody s_law_number) (defScope s_law_number) .none kV_29 dc_29 pm_29 an_29 cd_29 ct_29), sl_29⟩)
    (c_29 : PySem.W.codeIn K cd_29 "_law_number" = true)
    (k_29 : PySem.W.keepIn K (.ref f_29) = true)
    (a_30 : PySem.W.nsIn K mainGlobals "_law_pair" = some (some (.ref f_30)))
    (l_30 : K.lookup f_30 = some ⟨oc_30, od_30, .func (PySem.W.fnOf "_law_pair" "_law_pair" (defArgs s_law_pair) (defBody s_law_pair) (defScope s_law_pair) .none kV_30 dc_30 pm_30 an_30 cd_30 ct_30), sl_30⟩)
    (c_30 : PySem.W.codeIn K cd_30 "_law_pair" = true)
    (k_30 : PySem.W.keepIn K (.ref f_30) = true)
    (a_31 : PySem.W.nsIn K mainGlobals "_law_chain" = some (some (.ref f_31)))
    (l_31 : K.lookup f_31 = some ⟨oc_31, od_31, .func (PySem.W.fnOf "_law_chain" "_law_chain" (defArgs s_law_chain) (defBody s_law_chain) (defScope s_law_chain) .none kV_31 dc_31 pm_31 an_31 cd_31 ct_31), sl_31⟩)
    (c_31 : PySem.W.codeIn K cd_31 "_law_chain" = true)
    (k_31 : PySem.W.keepIn K (.ref f_31) = true)
    (a_32 : PySem.W.nsIn K mainGlobals "_law_joined" = some (some (.ref f_32)))
    (l_32 : K.lookup f_32 = some ⟨oc_32, od_32, .func (PySem.W.fnOf "_law_joined" "_law_joined" (defArgs s_law_joined) (defBody s_law_joined) (defScope s_law_joined) .none kV_32 dc_32 pm_32 an_32 cd_32 ct_32), sl_32⟩)
    (c_32 : PySem.W.codeIn K cd_32 "_law_joined" = true)
    (k_32 : PySem.W.keepIn K (.ref f_32) = true)
    (a_33 : PySem.W.nsIn K mainGlobals "_law_row" = some (some (.ref f_33)))
    (l_33 : K.lookup f_33 = some ⟨oc_33, od_33, .func (PySem.W.fnOf "_law_row" "_law_row" (defArgs s_law_row) (defBody s_law_row) (defScope s_law_row) .none kV_33 dc_33 pm_33 an_33 cd_33 ct_33), sl_33⟩)
    (c_33 : PySem.W.codeIn K cd_33 "_law_row" = true)
    (k_33 : PySem.W.keepIn K (.ref f_33) = true)
    (a_34 : PySem.W.nsIn K mainGlobals "_law_listed" = some (some (.ref f_34)))
    (l_34 : K.lookup f_34 = some ⟨oc_34, od_34, .func (PySem.W.fnOf "_law_listed" "_law_listed" (defArgs s_law_listed) (defBody s_law_listed) (defScope s_law_listed) .none kV_34 dc_34 pm_34 an_34 cd_34 ct_34), sl_34⟩)
    (c_34 : PySem.W.codeIn K cd_34 "_law_listed" = true)
    (k_34 : PySem.W.keepIn K (.ref f_34) = true)
    (a_35 : PySem.W.nsIn K mainGlobals "_law_blocks" = some (some (.ref f_35)))
    (l_35 : K.lookup f_35 = some ⟨oc_35, od_35, .func (PySem.W.fnOf "_law_blocks" "_law_blocks" (defArgs s_law_blocks) (defBody s_law_blocks) (defScope s_law_blocks) .none kV_35 dc_35 pm_35 an_35 cd_35 ct_35), sl_35⟩)
    (c_35 : PySem.W.codeIn K cd_35 "_law_blocks" = true)
    (k_35 : PySem.W.keepIn K (.ref f_35) = true)
    (a_36 : PySem.W.nsIn K mainGlobals "_law_both" = some (some (.ref f_36)))
    (l_36 : K.lookup f_36 = some ⟨oc_36, od_36, .func (PySem.W.fnOf "_law_both" "_law_both" (defArgs s_law_both) (defBody s_law_both) (defScope s_law_both) .none kV_36 dc_36 pm_36 an_36 cd_36 ct_36), sl_36⟩)
    (c_36 : PySem.W.codeIn K cd_36 "_law_both" = true)
    (k_36 : PySem.W.keepIn K (.ref f_36) = true)
    (a_37 : PySem.W.nsIn K mainGlobals "_law_refusals" = some (some (.ref f_37)))
    (l_37 : K.lookup f_37 = some ⟨oc_37, od_37, .func (PySem.W.fnOf "_law_refusals" "_law_refusals" (defArgs s_law_refusals) (defBody s_law_refusals) (defScope s_law_refusals) .none kV_37 dc_37 pm_37 an_37 cd_37 ct_37), sl_37⟩)
    (c_37 : PySem.W.codeIn K cd_37 "_law_refusals" = true)
    (k_37 : PySem.W.keepIn K (.ref f_37) = true)
    (a_38 : PySem.W.nsIn K mainGlobals "law" = some (some (.ref f_38)))
    (l_38 : K.lookup f_38 = some ⟨oc_38, od_38, .func (PySem.W.fnOf "law" "law" (defArgs s_law) (defBody s_law) (defScope s_law) .none kV_38 dc_38 pm_38 an_38 cd_38 ct_38), sl_38⟩)
    (c_38 : PySem.W.codeIn K cd_38 "law" = true)
    (k_38 : PySem.W.keepIn K (.ref f_38) = true) :
    ∃ fd : FuncData, (∀ (s : Shared) (u : Value), BindsTo s fd ⟨[u], []⟩ [("_law_script", u)]) ∧ ∀ base : Heap, K.In base → base.Ns mainGlobals mg → FnOk P w K mg base CX0 9 fa fd ["_law_script"] (spLaw K) := by
  have e := hfa.symm.trans (PySem.W.mg_of X G a_38)
  cases e
  have B : Blt mg := ⟨PySem.W.mg_none_of X G b_len, PySem.W.mg_none_of X G b_isinstance, PySem.W.mg_none_of X G b_abs, PySem.W.mg_none_of X G b_int, PySem.W.mg_none_of X G b_bool, PySem.W.mg_none_of X G b_str, PySem.W.mg_none_of X G b_list, PySem.W.mg_none_of X G b_tuple, PySem.W.mg_none_of X G b_min, PySem.W.mg_none_of X G b_max, PySem.W.mg_none_of X G b_sorted, PySem.W.mg_none_of X G b_range, PySem.W.mg_none_of X G b_enumerate, PySem.W.mg_none_of X G b_ValueError⟩
  have N : NuC K mg C fI cW cL cP := {
    oex := ⟨⟨nm, q, Na, bs, bm, sn, sub, ab, col, dd, m0, m1, m2, m3, m5, xC, rC⟩, sa, eC, tC, kC⟩, iC := a1, tI := t1, no_word := nw, no_at := na, xf := ⟨ga, gg, eC, hC⟩, ha := ha, hn := hn, ht := ht, hm := hm, te := exm_own eC iC tC sC,
    gNotUsable := PySem.W.mg_of X G gC, gWebError := PySem.W.mg_of X G gW, gLedError := PySem.W.mg_of X G gL, gPaperError := PySem.W.mg_of X G gP, kW := kit_ref iW tW sW (.inl rfl), kL := kit_ref iL tL sL (.inl rfl), kV := kit_type (by decide +kernel) sV, kP := kit_ref iP tP sP (.inr nP) }
  exact ⟨_, fun s u => .of_eq rfl, fun base _ _ => all_law B N (fun_mk (st := s_init) lI cI kI) (dfn_mk X G a_0 l_0 c_0 k_0) (dfn_mk X G a_1 l_1 c_1 k_1) (dfn_mk X G a_2 l_2 c_2 k_2) (dfn_mk X G a_3 l_3 c_3 k_3) (dfn_mk X G a_4 l_4 c_4 k_4) (dfn_mk X G a_5 l_5 c_5 k_5) (dfn_mk X G a_6 l_6 c_6 k_6) (dfn_mk X G a_7 l_7 c_7 k_7) (dfn_mk X G a_8 l_8 c_8 k_8) (dfn_mk X G a_9 l_9 c_9 k_9) (dfn_mk X G a_10 l_10 c_10 k_10) (dfn_mk X G a_11 l_11 c_11 k_11) (dfn_mk X G a_12 l_12 c_12 k_12) (dfn_mk X G a_13 l_13 c_13 k_13) (dfn_mk X G a_14 l_14 c_14 k_14) (dfn_mk X G a_15 l_15 c_15 k_15) (dfn_mk X G a_16 l_16 c_16 k_16) (dfn_mk X G a_17 l_17 c_17 k_17) (dfn_mk X G a_18 l_18 c_18 k_18) (dfn_mk X G a_19 l_19 c_19 k_19) (dfn_mk X G a_20 l_20 c_20 k_20) (dfn_mk X G a_21 l_21 c_21 k_21) (dfn_mk X G a_22 l_22 c_22 k_22) (dfn_mk X G a_23 l_23 c_23 k_23) (dfn_mk X G a_24 l_24 c_24 k_24) (dfn_mk X G a_25 l_25 c_25 k_25) (dfn_mk X G a_26 l_26 c_26 k_26) (dfn_mk X G a_27 l_27 c_27 k_27) (dfn_mk X G a_28 l_28 c_28 k_28) (dfn_mk X G a_29 l_29 c_29 k_29) (dfn_mk X G a_30 l_30 c_30 k_30) (dfn_mk X G a_31 l_31 c_31 k_31) (dfn_mk X G a_32 l_32 c_32 k_32) (dfn_mk X G a_33 l_33 c_33 k_33) (dfn_mk X G a_34 l_34 c_34 k_34) (dfn_mk X G a_35 l_35 c_35 k_35) (dfn_mk X G a_36 l_36 c_36 k_36) (dfn_mk X G a_37 l_37 c_37 k_37) (fun_mk (st := s_law) l_38 c_38 k_38)⟩
end K1
open PySem PySem.W PyProof.Rows
set_option maxHeartbeats 0 in
open_top hd for PySem.Challenge.rw_howeverled_k01_whole_quotients_and_joini
set_option maxRecDepth 100000 in
set_option maxHeartbeats 0 in
theorem PySem.Challenge.cw_howeverled_k01_whole_quotients_and_joini_holds : PySem.Challenge.rw_howeverled_k01_whole_quotients_and_joini.Holds :=
  hd (by
  refine L2.walk_ofK (l := PySem.Challenge.rw_howeverled_k01_whole_quotients_and_joini) (n := 63) (k := 9) (x := "_law_script") (CX := L2.CX0) (sp := K1.spLaw) rfl (by decide) rfl ⟨rfl, by decide, by decide⟩ (fun w h Y => PySem.W.kIn_of Y) ?F ?S (fun _ _ _ _ z => z)
  case F =>
    intro w mg fa h KX G hmg
    refine' K1.all_mk KX G hmg ?b_len ?b_isinstance ?b_abs ?b_int ?b_bool ?b_str ?b_list ?b_tuple ?b_min ?b_max ?b_sorted ?b_range ?b_enumerate ?b_ValueError ?gC ?gW ?gL ?gP ?xC ?rC ?sa ?ga ?gg ?nw ?na ?a1 ?t1 ?eC ?tC ?kC ?hC ?iC ?sC ?ha ?hn ?ht ?hm ?iW ?tW ?sW ?iL ?tL ?sL ?iP ?tP ?sP ?nP ?sV ?lI ?cI ?kI ?a_0 ?l_0 ?c_0 ?k_0 ?a_1 ?l_1 ?c_1 ?k_1 ?a_2 ?l_2 ?c_2 ?k_2 ?a_3 ?l_3 ?c_3 ?k_3 ?a_4 ?l_4 ?c_4 ?k_4 ?a_5 ?l_5 ?c_5 ?k_5 ?a_6 ?l_6 ?c_6 ?k_6 ?a_7 ?l_7 ?c_7 ?k_7 ?a_8 ?l_8 ?c_8 ?k_8 ?a_9 ?l_9 ?c_9 ?k_9 ?a_10 ?l_10 ?c_10 ?k_10 ?a_11 ?l_11 ?c_11 ?k_11 ?a_12 ?l_12 ?c_12 ?k_12 ?a_13 ?l_13 ?c_13 ?k_13 ?a_14 ?l_14 ?c_14 ?k_14 ?a_15 ?l_15 ?c_15 ?k_15 ?a_16 ?l_16 ?c_16 ?k_16 ?a_17 ?l_17 ?c_17 ?k_17 ?a_18 ?l_18 ?c_18 ?k_18 ?a_19 ?l_19 ?c_19 ?k_19 ?a_20 ?l_20 ?c_20 ?k_20 ?a_21 ?l_21 ?c_21 ?k_21 ?a_22 ?l_22 ?c_22 ?k_22 ?a_23 ?l_23 ?c_23 ?k_23 ?a_24 ?l_24 ?c_24 ?k_24 ?a_25 ?l_25 ?c_25 ?k_25 ?a_26 ?l_26 ?c_26 ?k_26 ?a_27 ?l_27 ?c_27 ?k_27 ?a_28 ?l_28 ?c_28 ?k_28 ?a_29 ?l_29 ?c_29 ?k_29 ?a_30 ?l_30 ?c_30 ?k_30 ?a_31 ?l_31 ?c_31 ?k_31 ?a_32 ?l_32 ?c_32 ?k_32 ?a_33 ?l_33 ?c_33 ?k_33 ?a_34 ?l_34 ?c_34 ?k_34 ?a_35 ?l_35 ?c_35 ?k_35 ?a_36 ?l_36 ?c_36 ?k_36 ?a_37 ?l_37 ?c_37 ?k_37 ?a_38 ?l_38 ?c_38 ?k_38
    (case b_len => k_is); (case b_isinstance => k_is); (case b_abs => k_is); (case b_int => k_is)
    (case b_bool => k_is); (case b_str => k_is); (case b_list => k_is); (case b_tuple => k_is)
    (case b_min => k_is); (case b_max => k_is); (case b_sorted => k_is); (case b_range => k_is)
    (case b_enumerate => k_is); (case b_ValueError => k_is); (case gC => k_is); (case gW => k_is)
    (case gL => k_is); (case gP => k_is); (case xC => k_is); (case rC => first | decide +kernel | k_is)
    (case sa => k_is); (case ga => k_is); (case gg => k_is); (case nw => k_is)
    (case na => k_is); (case a1 => k_is); (case t1 => k_is); (case eC => k_is)
    (case tC => k_is); (case kC => k_is); (case hC => k_is); (case iC => k_is)
    (case sC => first | rfl | k_is); (case ha => k_is); (case hn => k_is); (case ht => k_is)
    (case hm => k_is); (case iW => k_is); (case tW => k_is); (case sW => k_is)
    (case iL => k_is); (case tL => k_is); (case sL => k_is); (case iP => k_is)
    (case tP => k_is); (case sP => k_is); (case nP => first | rfl | decide +kernel); (case sV => k_is)
    (case lI => k_is); (case cI => k_is); (case kI => k_is); (case a_0 => k_is)
    (case l_0 => k_is); (case c_0 => k_is); (case k_0 => k_is); (case a_1 => k_is)
    (case l_1 => k_is); (case c_1 => k_is); (case k_1 => k_is); (case a_2 => k_is)
    (case l_2 => k_is); (case c_2 => k_is); (case k_2 => k_is); (case a_3 => k_is)
    (case l_3 => k_is); (case c_3 => k_is); (case k_3 => k_is); (case a_4 => k_is)
    (case l_4 => k_is); (case c_4 => k_is); (case k_4 => k_is); (case a_5 => k_is)
    (case l_5 => k_is); (case c_5 => k_is); (case k_5 => k_is); (case a_6 => k_is)
    (case l_6 => k_is); (case c_6 => k_is); (case k_6 => k_is); (case a_7 => k_is)
    (case l_7 => k_is); (case c_7 => k_is); (case k_7 => k_is); (case a_8 => k_is)
    (case l_8 => k_is); (case c_8 => k_is); (case k_8 => k_is); (case a_9 => k_is)
    (case l_9 => k_is); (case c_9 => k_is); (case k_9 => k_is); (case a_10 => k_is)
    (case l_10 => k_is); (case c_10 => k_is); (case k_10 => k_is); (case a_11 => k_is)
    (case l_11 => k_is); (case c_11 => k_is); (case k_11 => k_is); (case a_12 => k_is)
    (case l_12 => k_is); (case c_12 => k_is); (case k_12 => k_is); (case a_13 => k_is)
    (case l_13 => k_is); (case c_13 => k_is); (case k_13 => k_is); (case a_14 => k_is)
    (case l_14 => k_is); (case c_14 => k_is); (case k_14 => k_is); (case a_15 => k_is)
    (case l_15 => k_is); (case c_15 => k_is); (case k_15 => k_is); (case a_16 => k_is)
    (case l_16 => k_is); (case c_16 => k_is); (case k_16 => k_is); (case a_17 => k_is)
    (case l_17 => k_is); (case c_17 => k_is); (case k_17 => k_is); (case a_18 => k_is)
    (case l_18 => k_is); (case c_18 => k_is); (case k_18 => k_is); (case a_19 => k_is)
    (case l_19 => k_is); (case c_19 => k_is); (case k_19 => k_is); (case a_20 => k_is)
    (case l_20 => k_is); (case c_20 => k_is); (case k_20 => k_is); (case a_21 => k_is)
    (case l_21 => k_is); (case c_21 => k_is); (case k_21 => k_is); (case a_22 => k_is)
    (case l_22 => k_is); (case c_22 => k_is); (case k_22 => k_is); (case a_23 => k_is)
    (case l_23 => k_is); (case c_23 => k_is); (case k_23 => k_is); (case a_24 => k_is)
    (case l_24 => k_is); (case c_24 => k_is); (case k_24 => k_is); (case a_25 => k_is)
    (case l_25 => k_is); (case c_25 => k_is); (case k_25 => k_is); (case a_26 => k_is)
    (case l_26 => k_is); (case c_26 => k_is); (case k_26 => k_is); (case a_27 => k_is)
    (case l_27 => k_is); (case c_27 => k_is); (case k_27 => k_is); (case a_28 => k_is)
    (case l_28 => k_is); (case c_28 => k_is); (case k_28 => k_is); (case a_29 => k_is)
    (case l_29 => k_is); (case c_29 => k_is); (case k_29 => k_is); (case a_30 => k_is)
    (case l_30 => k_is); (case c_30 => k_is); (case k_30 => k_is); (case a_31 => k_is)
    (case l_31 => k_is); (case c_31 => k_is); (case k_31 => k_is); (case a_32 => k_is)
    (case l_32 => k_is); (case c_32 => k_is); (case k_32 => k_is); (case a_33 => k_is)
    (case l_33 => k_is); (case c_33 => k_is); (case k_33 => k_is); (case a_34 => k_is)
    (case l_34 => k_is); (case c_34 => k_is); (case k_34 => k_is); (case a_35 => k_is)
    (case l_35 => k_is); (case c_35 => k_is); (case k_35 => k_is); (case a_36 => k_is)
    (case l_36 => k_is); (case c_36 => k_is); (case k_36 => k_is); (case a_37 => k_is)
    (case l_37 => k_is); (case c_37 => k_is); (case k_37 => k_is); (case a_38 => k_is)
    (case l_38 => k_is); (case c_38 => k_is); (case k_38 => k_is)
  case S =>
    intro K H a ns hl hO hs
    exact ⟨a, ns, rfl, hs, fun _ => rfl⟩)
