import PyProof.Rows.All
import Wide.All
import OpenK.AllK
import Wide.FinOn
import HandS.ForMost
import HandS.IsInst
import HandS.TupLe
import HandS.TupAny
import HandS.SortRule
import HandS.Conv
import HandS.Codes
import HandS.Walk
import HandS.Evl
import HandS.Deep
import KE.GoesEnum
import PyProof.Rows.SortShell
import PyProof.Rows.SortWalk
import KE.KDictSum
import KE.LtData
import PySem.Challenge.RW_littowers_k01_whole_shortest_ways
set_option Elab.async false
set_option maxRecDepth 100000
set_option linter.unusedVariables false
set_option maxHeartbeats 4000000
namespace Lt
open PySem L2
def top (i : Nat) : Stmt := PySem.Challenge.pw_littowers_k01_whole_shortest_ways.main.body.getD i (.Pass ⟨0, 0, 0, 0⟩)
abbrev sWhole : Stmt := top 7
abbrev sWithin : Stmt := top 8
abbrev sTupleOf : Stmt := top 9
abbrev sIsRod : Stmt := top 10
abbrev sNeedNet : Stmt := top 11
abbrev sNeedPlace : Stmt := top 12
abbrev sTable : Stmt := top 14
abbrev sNeigh : Stmt := top 15
abbrev sShort : Stmt := top 16
abbrev sNumber : Stmt := top 17
abbrev sWaysTo : Stmt := top 18
abbrev sNeedless : Stmt := top 19
abbrev sTaken : Stmt := top 21
abbrev sNet : Stmt := top 22
abbrev sPick : Stmt := top 23
abbrev sWays : Stmt := top 24
abbrev sAlike : Stmt := top 25
abbrev sFar : Stmt := top 26
abbrev sLaw : Stmt := top 27
theorem scWhole : FnScope ["value"] ["value"] (defScope sWhole) := ⟨rfl, rfl, rfl, by decide +kernel, rfl, by decide +kernel, by decide +kernel⟩
theorem scWithin : FnScope ["value", "low", "high"] ["value", "low", "high"] (defScope sWithin) := ⟨rfl, rfl, rfl, by decide +kernel, rfl, by decide +kernel, by decide +kernel⟩
theorem scTupleOf : FnScope ["value", "low", "high"] ["value", "low", "high"] (defScope sTupleOf) := ⟨rfl, rfl, rfl, by decide +kernel, rfl, by decide +kernel, by decide +kernel⟩
theorem scIsRod : FnScope ["many", "value", "told"] ["many", "value"] (defScope sIsRod) := ⟨rfl, rfl, rfl, by decide +kernel, rfl, by decide +kernel, by decide +kernel⟩
theorem scNeedNet : FnScope ["value", "many", "rods", "index", "rod", "seen", "turn", "one", "other", "length"] ["value"] (defScope sNeedNet) := ⟨rfl, rfl, rfl, by decide +kernel, rfl, by decide +kernel, by decide +kernel⟩
theorem scNeedPlace : FnScope ["net", "place"] ["net", "place"] (defScope sNeedPlace) := ⟨rfl, rfl, rfl, by decide +kernel, rfl, by decide +kernel, by decide +kernel⟩
theorem scTable : FnScope ["net", "many", "rods", "one", "other", "found", "length", "middle"] ["net"] (defScope sTable) := ⟨rfl, rfl, rfl, by decide +kernel, rfl, by decide +kernel, by decide +kernel⟩
theorem scNeigh : FnScope ["net", "place", "found", "one", "other", "length"] ["net", "place"] (defScope sNeigh) := ⟨rfl, rfl, rfl, by decide +kernel, rfl, by decide +kernel, by decide +kernel⟩
theorem scShort : FnScope ["net", "one", "other", "table", "found", "here", "place", "length"] ["net", "one", "other"] (defScope sShort) := ⟨rfl, rfl, rfl, by decide +kernel, rfl, by decide +kernel, by decide +kernel⟩
theorem scNumber : FnScope ["net", "one", "other"] ["net", "one", "other"] (defScope sNumber) := ⟨rfl, rfl, rfl, by decide +kernel, rfl, by decide +kernel, by decide +kernel⟩
theorem scWaysTo : FnScope ["net", "table", "one", "other", "total", "place", "length"] ["net", "table", "one", "other"] (defScope sWaysTo) := ⟨rfl, rfl, rfl, by decide +kernel, rfl, by decide +kernel, by decide +kernel⟩
theorem scNeedless : FnScope ["net", "found", "index", "one", "other", "length", "rest"] ["net"] (defScope sNeedless) := ⟨rfl, rfl, rfl, by decide +kernel, rfl, by decide +kernel, by decide +kernel⟩
theorem scTaken : FnScope ["_law_row", "_law_many", "_law_found", "_law_cell"] ["_law_row", "_law_many"] (defScope sTaken) := ⟨rfl, rfl, rfl, by decide +kernel, rfl, by decide +kernel, by decide +kernel⟩
theorem scNet : FnScope ["_law_row", "_law_most", "_law_long", "_law_many", "_law_rods", "_law_place", "_law_turn", "_law_one", "_law_other"] ["_law_row", "_law_most", "_law_long"] (defScope sNet) := ⟨rfl, rfl, rfl, by decide +kernel, rfl, by decide +kernel, by decide +kernel⟩
theorem scPick : FnScope ["_law_row", "_law_things"] ["_law_row", "_law_things"] (defScope sPick) := ⟨rfl, rfl, rfl, by decide +kernel, rfl, by decide +kernel, by decide +kernel⟩
theorem scWays : FnScope ["_law_net_here", "_law_one", "_law_other", "_law_found", "_law_rim", "_law_length", "_law_way", "_law_first", "_law_second", "_law_more", "_law_here", "_law_place"] ["_law_net_here", "_law_one", "_law_other"] (defScope sWays) := ⟨rfl, rfl, rfl, by decide +kernel, rfl, by decide +kernel, by decide +kernel⟩
theorem scAlike : FnScope ["_law_found", "_law_due", "_law_k"] ["_law_found", "_law_due"] (defScope sAlike) := ⟨rfl, rfl, rfl, by decide +kernel, rfl, by decide +kernel, by decide +kernel⟩
theorem scFar : FnScope ["_law_net_here", "_law_many", "_law_one", "_law_other", "_law_found", "_law_turn", "_law_length", "_law_place"] ["_law_net_here"] (defScope sFar) := ⟨rfl, rfl, rfl, by decide +kernel, rfl, by decide +kernel, by decide +kernel⟩
theorem scLaw : FnScope ["_law_script", "_law_row", "_law_net_here", "_law_many", "_law_one", "_law_other", "_law_ways_here", "_law_short", "_law_table", "_law_due", "_law_index", "_law_rest", "_law_length", "_law_way"] ["_law_script"] (defScope sLaw) := ⟨rfl, rfl, rfl, by decide +kernel, rfl, by decide +kernel, by decide +kernel⟩
end Lt
namespace Lt
open PySem L2
/-- a def of the text as the top has left it -/
def DefOf (K : PySem.W.Frag) (mg : Str → Option Value) (x : Str) (st : Stmt) (ps : List Str) : Prop := ∃ (f : Addr) (fd : FuncData), Fun K x x st f fd ∧ mg x = some (.ref f) ∧ Binds K fd ps []
theorem mk_def {K : PySem.W.Frag} {h : Heap} {mg : Str → Option Value} {x : Str} {st : Stmt} {ps : List Str} {f : Addr} {oc : Value} {od an : Option Addr} {osl : Array (Option Value)} {kV doc pm cdv ct : Value} (X : K.In h) (G : h.Ns mainGlobals mg)
    (a : PySem.W.nsIn K mainGlobals x = some (some (.ref f)))
    (l : K.lookup f = some ⟨oc, od, .func (PySem.W.fnOf x x (defArgs st) (defBody st) (defScope st) .none kV doc pm an cdv ct), osl⟩) (c : PySem.W.codeIn K cdv x = true) (k : PySem.W.keepIn K (.ref f) = true)
    (hb : ∀ (kV doc pm : Value) (an : Option Addr) (cdv ct : Value) (us : List Value), us.length = ps.length → bindArgs (PySem.W.fnOf x x (defArgs st) (defBody st) (defScope st) .none kV doc pm an cdv ct) ⟨us, []⟩ = pure (ps.zip us)) : DefOf K mg x st ps := by
  have F := fun_mk (st := st) l c k
  exact ⟨f, _, F, PySem.W.mg_of X G a, F.binds hb⟩
/-- what the walk asks of the text as its top has made it -/
structure Txt (K : PySem.W.Frag) (mg : Str → Option Value) : Prop where
  whole : DefOf K mg "whole" sWhole ["value"]
  within : DefOf K mg "within" sWithin ["value", "low", "high"]
  tupleOf : DefOf K mg "tuple_of" sTupleOf ["value", "low", "high"]
  isRod : DefOf K mg "is_rod" sIsRod ["many", "value"]
  needNet : DefOf K mg "need_net" sNeedNet ["value"]
  needPlace : DefOf K mg "need_place" sNeedPlace ["net", "place"]
  tableOf : DefOf K mg "table_of" sTable ["net"]
  neighbors : DefOf K mg "neighbors" sNeigh ["net", "place"]
  short : DefOf K mg "shortest_way" sShort ["net", "one", "other"]
  number : DefOf K mg "number_of_ways" sNumber ["net", "one", "other"]
  waysTo : DefOf K mg "ways_to" sWaysTo ["net", "table", "one", "other"]
  needless : DefOf K mg "needless_rods" sNeedless ["net"]
  taken : DefOf K mg "_law_taken" sTaken ["_law_row", "_law_many"]
  net : DefOf K mg "_law_net" sNet ["_law_row", "_law_most", "_law_long"]
  pick : DefOf K mg "_law_pick" sPick ["_law_row", "_law_things"]
  ways : DefOf K mg "_law_ways" sWays ["_law_net_here", "_law_one", "_law_other"]
  alike : DefOf K mg "_law_alike" sAlike ["_law_found", "_law_due"]
  far : DefOf K mg "_law_far" sFar ["_law_net_here"]
  mostP : ∃ t, mg "MOST_PLACES" = some (.int 8 t)
  mostL : ∃ t, mg "MOST_LENGTH" = some (.int 9 t)
  bIsinstance : mg "isinstance" = none
  bInt : mg "int" = none
  bBool : mg "bool" = none
  bTuple : mg "tuple" = none
  bList : mg "list" = none
  bStr : mg "str" = none
  bLen : mg "len" = none
  bAll : mg "all" = none
  bRange : mg "range" = none
  bEnumerate : mg "enumerate" = none
  bMin : mg "min" = none
  bMax : mg "max" = none
  bSorted : mg "sorted" = none
def spLaw (K : PySem.W.Frag) : Sp := fun vs H Q _ => ∃ (a : Addr) (ns : List Int), vs = [.ref a] ∧ SqL K H a (ns.map V.int) ∧ ns.length ≤ 63 ∧ ∀ H', Q (.bl true) H'
/-- what is to be shown of law -/
def LawOk (P : Program) (n : Nat) : Prop := ∀ (w : World) (K : PySem.W.Frag) (mg : Str → Option Value) (base : Heap) (f : Addr) (fd : FuncData), Txt K mg → Fun K "law" "law" sLaw f fd → FnOk P w K mg base CX0 n f fd ["_law_script"] (spLaw K)
end Lt
namespace Lt
open PySem L2
section
variable {P : Program} {w : World} {K : PySem.W.Frag} {mg : Str → Option Value} {base : Heap}
theorem q_bl {Q : VK} {H : Hp} {b c : Bool} (e : b = c) (q : Q (.bl c) H) : Q (.bl b) H := by rw [e]; exact q
theorem q_int {Q : VK} {H : Hp} {b c : Int} (e : b = c) (q : Q (.int c) H) : Q (.int b) H := by rw [e]; exact q
/-- a def keeps a promise -/
def OkOf (P : Program) (w : World) (K : PySem.W.Frag) (mg : Str → Option Value) (base : Heap) (k : Nat) (x : Str) (ps : List Str) (sp : Sp) : Prop :=
  ∃ (f : Addr) (fd : FuncData), FnOk P w K mg base CX0 k f fd ps sp ∧ mg x = some (.ref f) ∧ PySem.W.keepIn K (.ref f) = true ∧ Binds K fd ps []
theorem okOf {x : Str} {st : Stmt} {ps : List Str} {k : Nat} {sp : Sp} (D : DefOf K mg x st ps) (h : ∀ f fd, Fun K x x st f fd → FnOk P w K mg base CX0 k f fd ps sp) : OkOf P w K mg base k x ps sp := by
  obtain ⟨f, fd, F, m, b⟩ := D
  exact ⟨f, fd, h f fd F, m, F.kp, b⟩
def spWhole : Sp := fun vs H Q _ => ∃ i : Int, vs = [.int i] ∧ Q (.bl true) H
theorem ok_whole (T : Txt K mg) : OkOf P w K mg base 1 "whole" ["value"] spWhole := okOf T.whole fun f fd F => by
  refine F.ok scWhole (fun vs H Q E h => ?_) (fun cdv A outer s H vs Q E hr h => ?_)
  · obtain ⟨i, rfl, _⟩ := h
    rfl
  · obtain ⟨i, rfl, q⟩ := h
    refine ⟨_, pss_one (ps_ret (pe_and (pe_callB call_isi (by rfl) T.bIsinstance (by decide +kernel) (pa_cons (pv 0) (pa_cons (pe_bltn (v := .ty "int") (by rfl) T.bInt (by decide +kernel) rfl) pa_nil)))
      (pe_one (pe_not (pe_callB call_isi (by rfl) T.bIsinstance (by decide +kernel) (pa_cons (pv 0) (pa_cons (pe_bltn (v := .ty "bool") (by rfl) T.bBool (by decide +kernel) rfl) pa_nil))))))), ?_⟩
    refine ⟨_, rfl, .int i, .ty "int", .type "int", .type "int", true, rfl, .ty _, .base (.int i), kit_ty (by decide +kernel), true, rfl, iteT ?_⟩
    refine ⟨_, rfl, .int i, .ty "bool", .type "int", .type "bool", false, rfl, .ty _, .base (.int i), kit_ty (by decide +kernel), false, rfl, ?_⟩
    exact q
def spWithin : Sp := fun vs H Q _ => ∃ i lo hi : Int, vs = [.int i, .int lo, .int hi] ∧ Q (.bl (decide (lo ≤ i ∧ i ≤ hi))) H
theorem ok_within (T : Txt K mg) : OkOf P w K mg base 2 "within" ["value", "low", "high"] spWithin := okOf T.within fun f fd F => by
  obtain ⟨fw, fdw, Gw, mw, kw, bw⟩ := ok_whole (P := P) (w := w) (base := base) T
  refine F.ok scWithin (fun vs H Q E h => ?_) (fun cdv A outer s H vs Q E hr h => ?_)
  · obtain ⟨i, lo, hi, rfl, _⟩ := h
    rfl
  · obtain ⟨i, lo, hi, rfl, q⟩ := h
    refine ⟨_, pss_one (ps_ret (pe_and (pe_call Gw hr (by rfl) mw kw bw .nil pass0 (pa_cons (pv 0) pa_nil)) (pe_one (pe_chain op_le op_le (pv 1) (pv 0) (pv 2))))), ?_⟩
    refine ⟨_, rfl, i, rfl, true, rfl, iteT ?_⟩
    refine ⟨_, rfl, _, rfl, lo, i, rfl, rfl, _, rfl, ?_⟩
    refine ite2 (fun c => ?_) (fun c => ?_)
    · have c := of_decide_eq_true c
      refine ⟨_, rfl, i, hi, rfl, rfl, ?_⟩
      have e : decide (lo ≤ i ∧ i ≤ hi) = decide (i ≤ hi) := by simp [c]
      exact q_bl (b := decide (i ≤ hi)) e.symm q
    · have c : ¬ lo ≤ i := fun z => c (decide_eq_true z)
      have e : decide (lo ≤ i ∧ i ≤ hi) = false := by simp [c]
      exact q_bl (b := false) e.symm q
def spTupleOf (K : PySem.W.Frag) : Sp := fun vs H Q _ => ∃ (a : Addr) (xs : List V) (lo hi : Int), vs = [.ref a, .int lo, .int hi] ∧ SqT K H a xs ∧ lo ≤ (xs.length : Int) ∧ (xs.length : Int) ≤ hi ∧ Q (.bl true) H
theorem tyT {H : Hp} {a : Addr} {xs : List V} (h : SqT K H a xs) : TyX K H (.ref a) (.type "tuple") := by
  rcases h with (h | ⟨o, h⟩) | ⟨o, its, n, h, c, _⟩
  · exact .base (.tup h)
  · exact .fTuple h
  · exact .kTuple h c
theorem tyL {H : Hp} {a : Addr} {xs : List V} (h : SqL K H a xs) : TyX K H (.ref a) (.type "list") := by
  rcases h with (h | ⟨o, h⟩) | ⟨o, its, n, h, c, _⟩
  · exact .base (.lst h)
  · exact .base (.frz h)
  · exact .kList h c
theorem ok_tupleOf (T : Txt K mg) : OkOf P w K mg base 1 "tuple_of" ["value", "low", "high"] (spTupleOf K) := okOf T.tupleOf fun f fd F => by
  refine F.ok scTupleOf (fun vs H Q E h => ?_) (fun cdv A outer s H vs Q E hr h => ?_)
  · obtain ⟨a, xs, lo, hi, rfl, _⟩ := h
    rfl
  · obtain ⟨a, xs, lo, hi, rfl, hs, h1, h2, q⟩ := h
    refine ⟨_, pss_one (ps_ret (pe_and (pe_callB call_isi (by rfl) T.bIsinstance (by decide +kernel) (pa_cons (pv 0) (pa_cons (pe_bltn (v := .ty "tuple") (by rfl) T.bTuple (by decide +kernel) rfl) pa_nil)))
      (pe_one (pe_chain op_le op_le (pv 1) (pe_callB call_len_seq (by rfl) T.bLen PySem.boot_len (pa_cons (pv 0) pa_nil)) (pv 2))))), ?_⟩
    refine ⟨_, rfl, .ref a, .ty "tuple", .type "tuple", .type "tuple", true, rfl, .ty _, tyT hs, kit_ty (by decide +kernel), true, rfl, iteT ?_⟩
    refine ⟨_, rfl, _, rfl, a, xs, rfl, .inr hs, lo, _, rfl, rfl, _, rfl, ?_⟩
    rw [if_pos (decide_eq_true h1)]
    refine ⟨_, rfl, _, hi, rfl, rfl, ?_⟩
    exact q_bl (b := decide ((xs.length : Int) ≤ hi)) (decide_eq_true h2) q
def spNeedPlace (K : PySem.W.Frag) : Sp := fun vs H Q _ => ∃ (a : Addr) (n p : Int) (r : V), vs = [.ref a, .int p] ∧ SqT K H a [.int n, r] ∧ 0 ≤ p ∧ p < n ∧ Q .non H
theorem ok_needPlace (T : Txt K mg) : OkOf P w K mg base 3 "need_place" ["net", "place"] (spNeedPlace K) := okOf T.needPlace fun f fd F => by
  obtain ⟨fw, fdw, Gw, mw, kw, bw⟩ := ok_within (P := P) (w := w) (base := base) T
  refine F.ok scNeedPlace (fun vs H Q E h => ?_) (fun cdv A outer s H vs Q E hr h => ?_)
  · obtain ⟨a, n, p, r, rfl, _⟩ := h
    rfl
  · obtain ⟨a, n, p, r, rfl, hs, h1, h2, q⟩ := h
    refine ⟨_, pss_one (ps_if (pt_not (pt_val (pe_call Gw hr (by rfl) mw kw bw .nil pass0 (pa_cons (pv 1) (pa_cons pe_int (pa_cons (pe_op op_sub (pe_ix ix_tup (pv 0) pe_int (fun _ _ => rfl)) pe_int) pa_nil)))))) pss_never pss_nil), ?_⟩
    refine ⟨_, rfl, _, rfl, a, _, 0, .int n, rfl, rfl, hs, rfl, n, 1, rfl, rfl, p, 0, n - 1, rfl, _, rfl, ?_⟩
    have e : decide (0 ≤ p ∧ p ≤ n - 1) = true := decide_eq_true (by omega)
    rw [e]
    exact iteF q
end
end Lt
namespace Lt
open PySem L2 PyProof.Rows
section
variable {X : Cx} {ta tb tc td : TE}
/-- a op1 b op2 c op3 d -/
def tChain3 (r r' r2 : R2) (ta tb tc td : TE) : TE := fun σ H Q => ta σ H fun x H1 => tb σ H1 fun y H2 => r x y H2 fun z H3 => ∃ k, z = .bl k ∧
  (if k = true then tc σ H3 fun w' H4 => r' y w' H4 fun z' H5 => ∃ k', z' = .bl k' ∧ (if k' = true then td σ H5 fun v' H6 => r2 w' v' H6 Q else Q (.bl false) H5) else Q (.bl false) H3)
theorem pe_chain3 {op op' op2 : CmpOp} {r r' r2 : R2} {a b c d : Expr} {pos : Pos} (ho : OpR X (compareOp op) r) (ho' : OpR X (compareOp op') r') (ho2 : OpR X (compareOp op2) r2) (ha : PE X a ta) (hb : PE X b tb) (hc : PE X c tc) (hd : PE X d td)
    (hm : lastMarks [op, op', op2] [b, c, d] = false := by with_unfolding_all rfl) : PE X (.Compare a [op, op', op2] [b, c, d] pos) (tChain3 r r' r2 ta tb tc td) := by
  refine ⟨fun pins s σ H Q I h => ?_⟩
  refine Compare_chain (thn (ha.run pins s σ H _ I h) fun v s1 ⟨x, H1, I1, r1, q1⟩ => chain_link (thn (hb.run pins s1 σ H1 _ I1 q1) fun u s2 ⟨y, H2, I2, r2, q2⟩ =>
    thn (ho pins s2 σ H2 x y v u _ I2 r1 r2 q2) fun d s3 ⟨z, H3, I3, r3, k, e, q3⟩ => ?_)) hm
  subst e
  cases r3
  refine wpAny_truthy_bool ?_
  cases k with
  | false => exact ite_ff ⟨.bl false, H3, I3, rfl, q3⟩
  | true =>
    refine ite_tt (chain_link (thn (hc.run pins s3 σ H3 _ I3 q3) fun w' s4 ⟨z', H4, I4, r4, q4⟩ => thn (ho' pins s4 σ H4 y z' u w' _ I4 r2 r4 q4) fun d' s5 ⟨z2, H5, I5, r5, k2, e2, q5⟩ => ?_))
    subst e2
    cases r5
    refine wpAny_truthy_bool ?_
    cases k2 with
    | false => exact ite_ff ⟨.bl false, H5, I5, rfl, q5⟩
    | true => exact ite_tt (chain_last (thn (hd.run pins s5 σ H5 _ I5 q5) fun v' s6 ⟨z6, H6, I6, r6, q6⟩ => ho2 pins s6 σ H6 z' z6 w' v' Q I6 r4 r6 q6))
end
theorem _root_.L2.Same.seqT {K : PySem.W.Frag} {H H' : Hp} {a : Addr} {xs : List V} (e : Same H H') (h : SqT K H a xs) : SqT K H' a xs := by
  rcases h with (h | ⟨o, h⟩) | h
  · exact .inl (.inl (e _ _ h))
  · exact .inl (.inr ⟨o, e _ _ h⟩)
  · exact .inr h
theorem same_new {H : Hp} {p : Addr} {o : HO} (h : H p = none) : Same H (upd H p o) := fun b u q => by rw [upd_ne (ne_of_none q h)]; exact q
/-- an object that H does not know may change -/
theorem _root_.L2.Same.mut {H H' : Hp} {p : Addr} {o : HO} (e : Same H H') (h : H p = none) : Same H (upd H' p o) := fun a u ha => by
  rw [upd_ne (ne_of_none ha h)]
  exact e a u ha
section
variable {P : Program} {w : World} {K : PySem.W.Frag} {mg : Str → Option Value} {base : Heap}
def spIsRod (K : PySem.W.Frag) : Sp := fun vs H Q _ => ∃ (t : Addr) (n a b l : Int), vs = [.int n, .ref t] ∧ SqT K H t [.int a, .int b, .int l] ∧ 0 ≤ a ∧ a < b ∧ b < n ∧ 1 ≤ l ∧ l ≤ 9 ∧ ∀ H', Same H H' → Q (.bl true) H'
theorem ok_isRod (T : Txt K mg) : OkOf P w K mg base 2 "is_rod" ["many", "value"] (spIsRod K) := okOf T.isRod fun f fd F => by
  obtain ⟨fw, fdw, Gw, mw, kw, bw⟩ := ok_whole (P := P) (w := w) (base := base) T
  obtain ⟨ft, fdt, Gt, mt, kt, bt⟩ := ok_tupleOf (P := P) (w := w) (base := base) T
  obtain ⟨tk, mL⟩ := T.mostL
  refine F.ok scIsRod (fun vs H Q E h => ?_) (fun cdv A outer s H vs Q E hr h => ?_)
  · obtain ⟨t, n, a, b, l, rfl, _⟩ := h
    rfl
  · obtain ⟨t, n, a, b, l, rfl, hs, h1, h2, h3, h4, h5, q⟩ := h
    refine ⟨_, pss_cons (ps_if (PW.pt (pw_or (pt_not (pt_val (pe_call Gt hr (by rfl) mt kt bt .nil pass0 (pa_cons (pv 1) (pa_cons pe_int (pa_cons pe_int pa_nil))))))
        (pw_or1 (pt_not (pt_val (pe_callB (cr_all rfl) (by rfl) T.bAll (by decide +kernel) (pa_cons (pe_lc (own := [("told", 2)]) (g := gName 2) (tt := tYes) (by rfl) scIsRod.nd (pi_tup (pv 1))
          (blkOk_by (own := [("told", 2)]) (N := ["many", "value", "told"]) (sc := defScope sIsRod) (by decide +kernel)) (fun _ _ _ _ _ => pg_name (i := 2) scIsRod.nd rfl (Or.inl rfl)) (fun _ _ _ _ _ => pts_nil)
          (fun _ _ _ _ _ => pe_call Gw hr (by rfl) mw kw bw .nil pass0 (pa_cons (pv 2) pa_nil))) pa_nil))))))) pss_never pss_nil)
      (pss_one (ps_ret (pe_and (pe_chain3 op_le op_lt op_lt pe_int (pe_ix ix_tup (pv 1) pe_int (fun _ _ => rfl)) (pe_ix ix_tup (pv 1) pe_int (fun _ _ => rfl)) (pv 0))
        (pe_one (pe_chain op_le op_le pe_int (pe_ix ix_tup (pv 1) pe_int (fun _ _ => rfl)) (pe_glob (v := .int 9) rfl mL ⟨_, rfl⟩)))))), ?_⟩
    refine ⟨_, rfl, t, [.int a, .int b, .int l], 3, 3, rfl, hs, (by show (3 : Int) ≤ 3; decide), (by show (3 : Int) ≤ 3; decide), true, rfl, iteF ?_⟩
    refine ⟨_, rfl, t, rfl, ⟨_, hs⟩, fun D hD => lc_tup (K := K) (a := t) (xs := [.int a, .int b, .int l]) (fun i H' => Same H H' ∧ H' D = some (.lst ((List.replicate i true).map V.bl))) ⟨same_new hD, upd_same⟩
      (fun i H' _ p => p.1.seqT hs) (fun i x H' hx p => ?_) fun H' p => ?_⟩
    · obtain ⟨i, rfl⟩ : ∃ z : Int, x = .int z := by
        match i, hx with
        | 0, h => exact ⟨_, (Option.some.inj h).symm⟩
        | 1, h => exact ⟨_, (Option.some.inj h).symm⟩
        | 2, h => exact ⟨_, (Option.some.inj h).symm⟩
        | _ + 3, h => simp at h
      refine ⟨rfl, _, rfl, i, rfl, _, p.2, ?_, p.1.mut hD, ?_⟩
      · rw [List.length_map, List.length_replicate]
        have := (List.getElem?_eq_some_iff.mp hx).1
        exact Nat.lt_of_lt_of_le this (by show 3 ≤ sizeLine; decide)
      · rw [upd_same, List.replicate_succ', List.map_append]
        rfl
    · have p2 : SqL K H' D ([true, true, true].map V.bl) := SqL.of p.2
      refine ⟨D, [true, true, true], rfl, p2, true, rfl, iteF ?_⟩
      have hs' := p.1.seqT hs
      refine ⟨_, rfl, t, _, 0, .int a, rfl, rfl, hs', rfl, 0, a, rfl, rfl, decide (0 ≤ a), rfl, ?_⟩
      rw [if_pos (decide_eq_true h1)]
      refine ⟨_, rfl, t, _, 1, .int b, rfl, rfl, hs', rfl, a, b, rfl, rfl, decide (a < b), rfl, ?_⟩
      rw [if_pos (decide_eq_true h2)]
      refine ⟨_, rfl, b, n, rfl, rfl, decide (b < n), rfl, ?_⟩
      rw [if_pos (decide_eq_true h3)]
      refine ⟨_, rfl, t, _, 2, .int l, rfl, rfl, hs', rfl, 1, l, rfl, rfl, decide (1 ≤ l), rfl, ?_⟩
      rw [if_pos (decide_eq_true h4)]
      refine ⟨l, 9, rfl, rfl, ?_⟩
      exact q_bl (b := decide (l ≤ 9)) (decide_eq_true h5) (q _ p.1)
end
end Lt
/-! enumerate of a tuple -/
namespace PySem
set_option maxHeartbeats 1000000 in
theorem lt_meets_enumerate1 {v : Value} {o : Obj} {H : Heap → Prop} (B : Begins v o H) :
    Meets (Builtin.«enumerate.__new__» ⟨[.type "enumerate", v], []⟩) (fun _ R s => H s.heap ∧
      R (.ok (.ret (.ref (s.heap.push o).objs.size))) { s with heap := (s.heap.push o).push { cls := .type "enumerate", data := .fields #[.none, .bool false, .ref s.heap.objs.size, rawInt 0, .none, .none] } }) :=
  .of_wp fun prog w A R s h => by
    obtain ⟨hp, g, d, tk, os⟩ := s; obtain ⟨h1, h⟩ := h
    have hsub := sub_enumerate
    have q1 : ∀ {A' : Around} {E : Value → Shared → Prop} {Q : Value → Shared → Prop}, Q (.ref hp.objs.size) ⟨hp.push o, g, d, tk, os⟩ → wpAny (model prog w) A' (pyIter v) Q E ⟨hp, g, d, tk, os⟩ :=
      fun q => B.iter prog w _ _ ⟨hp, g, d, tk, os⟩ _ h1 q
    wp_walk using q1
    refine wpAny_stack_any fun st => wpAny_pure ?_
    split
    · rename_i c _ _ _ _ _
      cases (c == Value.type "enumerate")
      · wp_walk using q1
        exact ⟨_, rfl, h⟩
      · wp_walk using q1
        exact ⟨_, rfl, h⟩
    · wp_walk using q1
      exact ⟨_, rfl, h⟩
section
variable {prog : Program} {w : World} {A : Around} {E : Value → Shared → Prop} {s : Shared}
theorem lt_call_enumerate1 {v : Value} {o : Obj} {H : Heap → Prop} {Q : Value → Shared → Prop} (B : Begins v o H) (h1 : H s.heap)
    (h : ∀ h', IsEnum h' (s.heap.objs.size + 1) s.heap.objs.size 0 .none → h'.get? s.heap.objs.size = some o → h'.objs.size = s.heap.objs.size + 2 →
      (∀ b o, s.heap.get? b = some o → h'.get? b = some o) → Q (.ref (s.heap.objs.size + 1)) { s with heap := h' }) :
    wpAny (model prog w) A (call (.type "enumerate") [v]) Q E s := by
  refine callType_new F.called_enumerate (by decide) (F.typeCall_enumerate_1 _) (F.newCall_enumerate_1 _) (fun obj => F.args_object_init_2 obj _) F.entry_enumerate_new
    (lt_meets_enumerate1 B) ⟨h1, ?_⟩
  have hz : (s.heap.push o).objs.size = s.heap.objs.size + 1 := Heap.size_push ..
  show _ ∧ _
  rw [hz]
  have he : IsEnum ((s.heap.push o).push { cls := .type "enumerate", data := .fields #[.none, .bool false, .ref s.heap.objs.size, rawInt 0, .none, .none] }) (s.heap.objs.size + 1) s.heap.objs.size 0 .none := by
    have := Heap.get?_push_size (s.heap.push o) (o := { cls := .type "enumerate", data := .fields #[.none, .bool false, .ref s.heap.objs.size, rawInt 0, .none, .none] }) rfl
    rw [hz] at this; exact this
  refine ⟨⟨_, he, rfl⟩, h _ he (Heap.get?_push_of_some _ (Heap.get?_push_size _ B.free)) (by rw [Heap.size_push, hz]) fun b o x => Heap.get?_push_of_some _ (Heap.get?_push_of_some _ x)⟩
end
end PySem
namespace Lt
open PySem PySem.Spec PyProof.Rows L2
/-- the tuple at a, each item in a new pair -/
def IteT (K : PySem.W.Frag) (a : Addr) : It :=
  ⟨fun i H => ∃ (xs : List V) (x : V), SqT K H a xs ∧ xs[i]? = some x, fun i H v H' => ∃ T x, v = .ref T ∧ H T = none ∧ H' = upd H T (.tup [.int (i : Nat), x]) ∧ ∀ xs, SqT K H a xs → xs[i]? = some x, fun i H => ∃ xs : List V, SqT K H a xs ∧ xs.length ≤ i⟩
theorem turn_enumT {P : Program} {w : World} {K : PySem.W.Frag} {elts : List Expr} {kk : Nat} {tpos : Pos} (a e it : Addr) (items : Array Value) (hai : a ≠ it) (hae : a ≠ e) :
    Turn P w K (.Tuple elts kk tpos) (IteT K a) [e, it] e (fun i h => (∃ old, IsEnum h e it ((i : Nat) : Int) old) ∧ h.IsTupleIter it a i ∧ e ≠ it) where
  mem := by simp
  obj := fun i h st b hb => by
    obtain ⟨⟨old, he⟩, ⟨o, ho, hc, hd⟩, _⟩ := st
    have e' : b = e ∨ b = it := by simpa using hb
    rcases e' with z | z
    · rw [z]; exact ⟨_, he, fun v q => nomatch q⟩
    · rw [z]; exact ⟨o, ho, fun v q => by rw [hd] at q; cases q⟩
  keep := fun i h h' st k => let ⟨⟨old, he⟩, hi, hne⟩ := st; ⟨⟨old, k e (by simp) _ he⟩, hi.at fun o q => k it (by simp) o q, hne⟩
  item := by
    intro X hP hw hK hc i pins s σ H E I hf st hg
    subst hP hw hK
    obtain ⟨⟨old, he⟩, hit, hne⟩ := st
    obtain ⟨xs, x, hq, hx⟩ := hg
    obtain ⟨its, rv, p, hz⟩ := I.tuple hq
    obtain ⟨u, hu, ru⟩ := rv.get hx
    have hel : e < s.heap.objs.size := Heap.lt_size he
    have hil : it < s.heap.objs.size := by obtain ⟨_, q, _⟩ := hit; exact Heap.lt_size q
    have hlt : i < its.toArray.size := by
      have := (List.getElem?_eq_some_iff.mp hu).1
      simpa using this
    have D := Draws.tuple (prog := X.prog) (w := X.w) (A := X.A.in1) (I.ok.hd hc) it a hai its.toArray
    refine wpAny_pyNext_enum_itemD D he ⟨hit, p⟩ hlt hne (by simp [hne, Ne.symm hae]) fun y h' tk hy ho hst hT hsz hk => ?_
    have ey : y = u := by
      have hy : its.toArray[i]? = some y := hy
      have hu' : its.toArray[i]? = some u := by simpa using hu
      rw [hu'] at hy
      exact (Option.some.inj hy).symm
    subst ey
    refine ⟨_, rfl, wpAny_letOwnedTupleGo_enum (s := { s with heap := h', toks := tk + 1 }) ho fun h'' he' sb => ?_⟩
    have hT2 : h''.get? s.heap.objs.size = some { cls := .type "tuple", data := .seq #[.int i tk, y] } := (sb.2 _ (Nat.ne_of_gt hel)).trans hT
    have new : ObjOk X.prog X.w (upd H s.heap.objs.size (.tup [.int (i : Nat), x])) h'' s.heap.objs.size (.tup [.int (i : Nat), x]) :=
      ⟨by show 2 ≤ sizeLine; decide, [.int i tk, y], .cons ⟨_, rfl⟩ (.cons ru .nil), ⟨_, hT2, rfl, _, rfl⟩⟩
    have I1 : Inv X pins σ (upd H s.heap.objs.size (.tup [.int (i : Nat), x])) { s with heap := h'', toks := tk + 1 } :=
      I.turnedNew (ch := [e, it]) (fun b ob hb q => (sb.2 b (fun z => hb (by simp [z]))).trans (hk b ob (fun z => hb (by simp [z])) (fun z => hb (by simp [z])) q)) hf (Nat.le_refl _) new
    refine ⟨.ref s.heap.objs.size, _, I1, rfl, ⟨_, x, rfl, I.hok.fresh (Nat.le_refl _), rfl, fun ys hy => by rw [I.tuple_inj hy hq]; exact hx⟩, ⟨⟨y, ?_⟩, hst.1.at fun o q => (sb.2 it (Ne.symm hne)).trans q, hne⟩, fun b hb => ?_⟩
    · have e1 : ((i + 1 : Nat) : Int) = (i : Int) + 1 := by omega
      rw [e1]; exact he'
    · have hb' : b < s.heap.objs.size := by
        have e' : b = e ∨ b = it := by simpa using hb
        rcases e' with z | z
        · rw [z]; exact hel
        · rw [z]; exact hil
      rw [upd_ne (Nat.ne_of_lt hb')]
      exact (hf b hb).1
  done := by
    intro X hP hw hK hc i pins s σ H E I hf st hg
    subst hP hw hK
    obtain ⟨⟨old, he⟩, hit, hne⟩ := st
    obtain ⟨xs, hq, hx⟩ := hg
    obtain ⟨its, rv, p, hz⟩ := I.tuple hq
    obtain ⟨f0, f1, f2, f3, f4, f5⟩ := hf it (by simp)
    have hl := rv.length
    have hh := I.ok.hd hc
    have hT : s.TypeIs (.ref e) "enumerate" := ⟨_, he, rfl⟩
    have fin : ∀ h' : Heap, Heap.ExtBut it s.heap h' → (none : Option Value) = none ∧ Inv X pins σ H { s with heap := h' } := fun h' eb => ⟨rfl, I.turned (t' := s.toks) (fun b o hb q => eb b o hb q) f0 f1 f3 f4 f5⟩
    unfold pyNext
    refine wpAny_bind (wpAny_attempt (wpAny_callSpecial?_slot (name := Str.ofString "__next__") hT F.slot_enumerate_next
      (wpAny_call_entry F.slot_enumerate_next hT F.entry_enumerate_next ?_ (F.args_enumerate_next_1 _))))
    show wpAny _ _ (field (.ref e) 2 >>= _) _ _ _
    refine wpAny_bind (wpAny_field he rfl (x := .ref it) rfl ?_)
    refine wpAny_bind (wpAny_nextOf_tuple_end hh hit p (by simp; omega) fun h' x he' hx' => ?_)
    obtain ⟨o, ho, hc⟩ := hx'
    refine wpAny_bind (wpAny_isInstance (T := "StopIteration") (b := true) ⟨o, ho, hc⟩ isSubtype_stop ?_)
    exact wpAny_pure (fin _ he')
  self := fun A i s Q E st h => let ⟨⟨_, he⟩, _⟩ := st; wpAny_pyIter_enum he h
def iEnumT (K : PySem.W.Frag) (ta : TA) : TI := fun σ H R => ta σ H fun vs H1 => ∃ a xs, vs = [.ref a] ∧ SqT K H1 a xs ∧ R (IteT K a) H1
theorem pi_enumT {X : Cx} {e : Expr} {ta : TA} {p pos tpos : Pos} {elts : List Expr} {kk : Nat} (hg : Gl X "enumerate") (hm : X.mg "enumerate" = none) (ha : PA X [e] ta) (hs : starEach [e] X.env = [(false, eval e X.env)] := by rfl) :
    PI X (.Tuple elts kk tpos) (.Call (.Name "enumerate" p) [e] [] pos) (iEnumT X.K ta) := by
  refine ⟨fun pins s σ H R I h => ?_⟩
  refine Call_ (ld_blt I hg hm boot_enumerate (PyProof.Rows.callWith_type1 (thn (ha.run pos pins s σ H _ I h) fun us s1 ⟨vs, H1, I1, r1, q1⟩ => ?_) hs rfl))
  obtain ⟨a, xs, ex, hq, q⟩ := q1
  subst ex
  cases r1 with
  | cons r rr =>
    cases rr
    cases r
    obtain ⟨its, rv, p', hz⟩ := I1.tuple hq
    have hal : a < s1.heap.objs.size := p'.lt
    refine lt_call_enumerate1 (begins_tuple a its.toArray) p' fun h' he hit hsz hk => wpAny_pyIter_enum he ?_
    have I2 : Inv X pins σ H1 { s1 with heap := h' } := I1.kept (t' := s1.toks) hk
    refine ⟨s1.heap.objs.size + 1, [s1.heap.objs.size + 1, s1.heap.objs.size], _, _, H1, rfl, I2, turn_enumT a (s1.heap.objs.size + 1) s1.heap.objs.size its.toArray (Nat.ne_of_lt hal) (Nat.ne_of_lt (Nat.lt_succ_of_lt hal)), ⟨⟨.none, he⟩, ⟨_, hit, rfl, rfl⟩, Nat.succ_ne_self _⟩, fun b hb => ?_, q⟩
    have e' : b = s1.heap.objs.size + 1 ∨ b = s1.heap.objs.size := by simpa using hb
    have hle : s1.heap.objs.size ≤ b := by
      rcases e' with z | z
      · rw [z]; exact Nat.le_add_right _ _
      · rw [z]; exact Nat.le_refl _
    exact I1.fpOk hle (I1.hok.fresh hle)
/-- for i, x in enumerate(t): a new pair each turn -/
theorem for_enumT {K : PySem.W.Frag} {a : Addr} {xs : List V} {g : TG} {tb : TS} {D : Ends} {σ : L2.St} {H : Hp} (Pv : Nat → L2.St → Hp → Prop) (h0 : Pv 0 σ H) (hl : ∀ i σ H, i ≤ xs.length → Pv i σ H → SqT K H a xs)
    (hs : ∀ (i : Nat) (x : V) (T : Addr) (σ : L2.St) (H : Hp), xs[i]? = some x → Pv i σ H → H T = none → g (.ref T) σ (upd H T (.tup [.int (i : Nat), x])) fun σ2 H2 => tb { D with nx := Pv (i + 1), ct := Pv (i + 1), bk := D.nx } σ2 H2) (hd : ∀ σ H, Pv xs.length σ H → D.nx σ H) :
    ∃ W : Nat → Nat → L2.St → Hp → Prop, (∃ m, W 0 m σ H) ∧ ∀ i m σ H, W i m σ H →
      ((IteT K a).stop i H ∧ D.nx σ H) ∨ ((IteT K a).go i H ∧ ∃ N : L2.St → Hp → Prop, (∀ σ' H', N σ' H' → ∃ m', m' < m ∧ W (i + 1) m' σ' H') ∧ ∀ x H', (IteT K a).yld i H x H' → g x σ H' fun σ2 H2 => tb { D with nx := N, ct := N, bk := D.nx } σ2 H2) := by
  refine ⟨fun i m σ H => m = xs.length - i ∧ i ≤ xs.length ∧ Pv i σ H, ⟨xs.length, by simp, Nat.zero_le _, h0⟩, ?_⟩
  rintro i m σ H ⟨rfl, hi, p⟩
  have q := hl i σ H hi p
  by_cases hlt : i < xs.length
  · refine .inr ⟨⟨xs, xs[i], q, by simp [hlt]⟩, Pv (i + 1), fun σ' H' p' => ⟨xs.length - (i + 1), by omega, rfl, hlt, p'⟩, fun x H' y => ?_⟩
    obtain ⟨T, x, rfl, hT, rfl, y⟩ := y
    exact hs i x T σ H (y xs q) p hT
  · have e : i = xs.length := by omega
    subst e
    exact .inl ⟨⟨xs, q, Nat.le_refl _⟩, hd σ H p⟩
end Lt
namespace Lt
/-- a rod: one, other, length -/
abbrev Rod := Nat × Nat × Nat
/-- a table of lengths -/
abbrev Tab := Nat → Nat → Nat
structure Wf (n : Nat) (rods : List Rod) : Prop where
  n1 : 1 ≤ n
  n6 : n ≤ 6
  ok : ∀ r ∈ rods, r.1 < r.2.1 ∧ r.2.1 < n ∧ 1 ≤ r.2.2 ∧ r.2.2 ≤ 9
  asc : rods.Pairwise fun r s => r.1 < s.1 ∨ (r.1 = s.1 ∧ r.2.1 < s.2.1)
  few : rods.length ≤ 8
  tree : ∀ j, 1 ≤ j → j < n → ∃ p l, p < j ∧ (p, j, l) ∈ rods
/-- walks along rods, a rod may be used in both ways; they grow at the end -/
inductive Walk (rods : List Rod) (p : Nat) : Nat → Nat → Prop
  | nil : Walk rods p p 0
  | fwd {a b l m : Nat} : Walk rods p a m → (a, b, l) ∈ rods → Walk rods p b (m + l)
  | bwd {a b l m : Nat} : Walk rods p b m → (a, b, l) ∈ rods → Walk rods p a (m + l)
section
variable {rods : List Rod} {p x y z m k n : Nat}
theorem Walk.append (h : Walk rods p x m) (g : Walk rods x y k) : Walk rods p y (m + k) := by
  induction g with
  | nil => exact h
  | fwd _ hr ih => rw [← Nat.add_assoc]; exact .fwd ih hr
  | bwd _ hr ih => rw [← Nat.add_assoc]; exact .bwd ih hr
theorem Walk.one {a b l : Nat} (h : (a, b, l) ∈ rods) : Walk rods a b l := by
  have := Walk.fwd (Walk.nil (p := a)) h
  rwa [Nat.zero_add] at this
theorem Walk.one' {a b l : Nat} (h : (a, b, l) ∈ rods) : Walk rods b a l := by
  have := Walk.bwd (Walk.nil (p := b)) h
  rwa [Nat.zero_add] at this
theorem Walk.rev (h : Walk rods p x m) : Walk rods x p m := by
  induction h with
  | nil => exact .nil
  | fwd _ hr ih => rw [Nat.add_comm]; exact (Walk.one' hr).append ih
  | bwd _ hr ih => rw [Nat.add_comm]; exact (Walk.one hr).append ih
theorem Walk.sub {rods' : List Rod} (s : ∀ r ∈ rods, r ∈ rods') (h : Walk rods p x m) : Walk rods' p x m := by
  induction h with
  | nil => exact .nil
  | fwd _ hr ih => exact .fwd ih (s _ hr)
  | bwd _ hr ih => exact .bwd ih (s _ hr)
/-- rods have their ends among the places -/
def InN (n : Nat) (rods : List Rod) : Prop := ∀ r ∈ rods, r.1 < n ∧ r.2.1 < n ∧ 1 ≤ r.2.2 ∧ r.2.2 ≤ 9
theorem Walk.lt (hi : InN n rods) (hp : p < n) (h : Walk rods p x m) : x < n := by
  cases h with
  | nil => exact hp
  | fwd _ hr => exact (hi _ hr).2.1
  | bwd _ hr => exact (hi _ hr).1
theorem Wf.inN (w : Wf n rods) : InN n rods := fun r hr => by
  have := w.ok r hr
  omega
theorem InN.sub {rods' : List Rod} (s : ∀ r ∈ rods', r ∈ rods) (h : InN n rods) : InN n rods' := fun r hr => h r (s r hr)
/-- a table of distances, C where there is no way -/
def IsD (rods : List Rod) (n C : Nat) (T : Tab) : Prop := ∀ p x, p < n → x < n → T p x ≤ C ∧ (T p x = C ∨ Walk rods p x (T p x)) ∧ ∀ m, Walk rods p x m → T p x ≤ m
theorem IsD.uniq {C : Nat} {T U : Tab} (h : IsD rods n C T) (g : IsD rods n C U) (hp : p < n) (hx : x < n) : T p x = U p x := by
  obtain ⟨a1, a2, a3⟩ := h p x hp hx
  obtain ⟨b1, b2, b3⟩ := g p x hp hx
  rcases a2 with a2 | a2 <;> rcases b2 with b2 | b2
  · omega
  · have := a3 _ b2; omega
  · have := b3 _ a2; omega
  · have := a3 _ b2
    have := b3 _ a2
    omega
end
/-! ### rods that are not needed -/
theorem needless {n : Nat} {pre post : List Rod} {a b l : Nat} {F B B' : Tab} (hi : InN n (pre ++ (a, b, l) :: post)) (hF : IsD (pre ++ post) n 9999 F) (hB : IsD (pre ++ (a, b, l) :: post) n 999 B)
    (hB' : IsD (pre ++ post) n 999 B') : F a b ≤ l ↔ ∀ p x, p < n → x < n → B' p x = B p x := by
  have hr : (a, b, l) ∈ pre ++ (a, b, l) :: post := by simp
  obtain ⟨ha, hb, hl1, hl9⟩ := hi _ hr
  have ha' : a < n := ha
  have hb' : b < n := hb
  have hl : l ≤ 9 := hl9
  have s : ∀ r ∈ pre ++ post, r ∈ pre ++ (a, b, l) :: post := fun r h => by
    rcases List.mem_append.mp h with h | h
    · simp [h]
    · simp [h]
  constructor
  · intro hf
    obtain ⟨f1, f2, f3⟩ := hF a b ha' hb'
    have w : Walk (pre ++ post) a b (F a b) := by
      rcases f2 with f2 | f2
      · omega
      · exact f2
    refine fun p x hp hx => IsD.uniq (rods := pre ++ (a, b, l) :: post) (n := n) (C := 999) (fun p x hp hx => ?_) hB hp hx
    obtain ⟨b1, b2, b3⟩ := hB' p x hp hx
    refine ⟨b1, b2.imp id fun q => q.sub s, fun m hm => ?_⟩
    have key : ∀ y m, Walk (pre ++ (a, b, l) :: post) p y m → ∃ m', m' ≤ m ∧ Walk (pre ++ post) p y m' := by
      intro y m h
      induction h with
      | nil => exact ⟨0, Nat.le_refl _, .nil⟩
      | @fwd a' b' l' m0 _ hr' ih =>
        obtain ⟨m', hm', wm⟩ := ih
        by_cases e : (a', b', l') ∈ pre ++ post
        · exact ⟨m' + l', by omega, .fwd wm e⟩
        · have e2 : (a', b', l') = (a, b, l) := by
            simp only [List.mem_append, List.mem_cons] at hr' e
            rcases hr' with h | h | h
            · exact absurd (Or.inl h) e
            · exact h
            · exact absurd (Or.inr h) e
          cases e2
          exact ⟨m' + F a b, by omega, wm.append w⟩
      | @bwd a' b' l' m0 _ hr' ih =>
        obtain ⟨m', hm', wm⟩ := ih
        by_cases e : (a', b', l') ∈ pre ++ post
        · exact ⟨m' + l', by omega, .bwd wm e⟩
        · have e2 : (a', b', l') = (a, b, l) := by
            simp only [List.mem_append, List.mem_cons] at hr' e
            rcases hr' with h | h | h
            · exact absurd (Or.inl h) e
            · exact h
            · exact absurd (Or.inr h) e
          cases e2
          exact ⟨m' + F a b, by omega, wm.append w.rev⟩
    obtain ⟨m', hm', wm⟩ := key x m hm
    have := b3 m' wm
    omega
  · intro h
    obtain ⟨b1, b2, b3⟩ := hB a b ha' hb'
    have h1 := b3 l (Walk.one hr)
    have e := h a b ha' hb'
    obtain ⟨c1, c2, c3⟩ := hB' a b ha' hb'
    obtain ⟨f1, f2, f3⟩ := hF a b ha' hb'
    rcases c2 with c2 | c2
    · omega
    · have := f3 _ c2
      omega
/-! ### the program's table -/
def upT (T : Tab) (i j v : Nat) : Tab := fun a b => if a = i ∧ b = j then v else T a b
/-- behind the first k rods -/
structure F1 (rods : List Rod) (n k : Nat) (T : Tab) : Prop where
  dg : ∀ i, i < n → T i i = 0
  sy : ∀ i j, i < n → j < n → T i j = T j i
  le : ∀ i j, i < n → j < n → T i j ≤ 9999
  sd : ∀ i j, i < n → j < n → T i j = 9999 ∨ Walk rods i j (T i j)
  cl : ∀ (q : Nat) r, q < k → rods[q]? = some r → T r.1 r.2.1 ≤ r.2.2
theorem F1.start {rods : List Rod} {n : Nat} {T : Tab} (h : ∀ i j, i < n → j < n → T i j = if i = j then 0 else 9999) : F1 rods n 0 T where
  dg := fun i hi => by rw [h i i hi hi, if_pos rfl]
  sy := fun i j hi hj => by
    rw [h i j hi hj, h j i hj hi]
    by_cases e : i = j
    · rw [if_pos e, if_pos e.symm]
    · rw [if_neg e, if_neg (Ne.symm e)]
  le := fun i j hi hj => by rw [h i j hi hj]; split <;> omega
  sd := fun i j hi hj => by
    rw [h i j hi hj]
    by_cases e : i = j
    · rw [if_pos e, e]; exact .inr .nil
    · rw [if_neg e]; exact .inl rfl
  cl := fun q r hq => absurd hq (Nat.not_lt_zero q)
theorem F1.step {rods : List Rod} {n k a b l : Nat} {T : Tab} (hi : InN n rods) (hne : a ≠ b) (h : F1 rods n k T) (hr : rods[k]? = some (a, b, l)) :
    F1 rods n (k + 1) (upT (upT T a b (min (T a b) l)) b a (min (T a b) l)) := by
  have hm : (a, b, l) ∈ rods := List.mem_of_getElem? hr
  obtain ⟨ha, hb, _, hl⟩ := hi _ hm
  have ha : a < n := ha
  have hb : b < n := hb
  have hl : l ≤ 9 := hl
  have sd1 : min (T a b) l = 9999 ∨ Walk rods a b (min (T a b) l) := by
    rcases Nat.le_total (T a b) l with e | e
    · rw [Nat.min_eq_left e]; exact h.sd a b ha hb
    · rw [Nat.min_eq_right e]; exact .inr (Walk.one hm)
  have sy := h.sy a b ha hb
  refine ⟨fun i hi => ?_, fun i j hi hj => ?_, fun i j hi hj => ?_, fun i j hi hj => ?_, fun q r hq hqr => ?_⟩
  · unfold upT
    rw [if_neg (by omega), if_neg (by omega)]
    exact h.dg i hi
  · have := h.sy i j hi hj
    unfold upT
    by_cases e1 : i = b ∧ j = a
    · rw [if_pos e1, if_neg (by omega), if_pos (by omega)]
    · rw [if_neg e1]
      by_cases e2 : i = a ∧ j = b
      · rw [if_pos e2, if_pos (by omega)]
      · rw [if_neg e2, if_neg (by omega), if_neg (by omega), this]
  · have := h.le i j hi hj
    unfold upT
    split
    · omega
    · split
      · omega
      · exact this
  · unfold upT
    by_cases e1 : i = b ∧ j = a
    · rw [if_pos e1, e1.1, e1.2]
      exact sd1.imp id fun w => w.rev
    · rw [if_neg e1]
      by_cases e2 : i = a ∧ j = b
      · rw [if_pos e2, e2.1, e2.2]
        exact sd1
      · rw [if_neg e2]
        exact h.sd i j hi hj
  · unfold upT
    by_cases e1 : r.1 = b ∧ r.2.1 = a
    · rw [if_pos e1]
      by_cases hk : q = k
      · subst hk
        rw [hr] at hqr
        cases hqr
        omega
      · have := h.cl q r (by omega) hqr
        rw [e1.1, e1.2, h.sy b a hb ha] at this
        omega
    · rw [if_neg e1]
      by_cases e2 : r.1 = a ∧ r.2.1 = b
      · rw [if_pos e2]
        by_cases hk : q = k
        · subst hk
          rw [hr] at hqr
          cases hqr
          show _ ≤ l
          omega
        · have := h.cl q r (by omega) hqr
          rw [e2.1, e2.2] at this
          omega
      · rw [if_neg e2]
        by_cases hk : q = k
        · subst hk
          rw [hr] at hqr
          cases hqr
          exact absurd ⟨rfl, rfl⟩ e2
        · exact h.cl q r (by omega) hqr
/-- behind the first k middles -/
structure F2 (rods : List Rod) (n k : Nat) (T : Tab) : Prop where
  dg : ∀ i, i < n → T i i = 0
  le : ∀ i j, i < n → j < n → T i j ≤ 9999
  sd : ∀ i j, i < n → j < n → T i j = 9999 ∨ Walk rods i j (T i j)
  cl : ∀ r ∈ rods, T r.1 r.2.1 ≤ r.2.2 ∧ T r.2.1 r.1 ≤ r.2.2
  tr : ∀ m i j, m < k → i < n → j < n → T i j ≤ T i m + T m j
theorem F2.start {rods : List Rod} {n : Nat} {T : Tab} (hi : InN n rods) (h : F1 rods n rods.length T) : F2 rods n 0 T where
  dg := h.dg
  le := h.le
  sd := h.sd
  cl := fun r hr => by
    obtain ⟨q, hq, e⟩ := List.getElem_of_mem hr
    have := h.cl q r hq (by rw [List.getElem?_eq_getElem hq, e])
    obtain ⟨h1, h2, _⟩ := hi r hr
    exact ⟨this, by rw [h.sy _ _ h2 h1]; exact this⟩
  tr := fun m i j hm => absurd hm (Nat.not_lt_zero m)
theorem F2.step {rods : List Rod} {n k : Nat} {T U : Tab} (hi : InN n rods) (hk : k < n) (h : F2 rods n k T) (e : ∀ i j, i < n → j < n → U i j = min (T i j) (T i k + T k j)) : F2 rods n (k + 1) U where
  dg := fun i hi => by
    have := h.dg i hi
    rw [e i i hi hi]
    omega
  le := fun i j hi hj => by
    have := h.le i j hi hj
    rw [e i j hi hj]
    omega
  sd := fun i j hi hj => by
    rw [e i j hi hj]
    rcases Nat.le_total (T i j) (T i k + T k j) with q | q
    · rw [Nat.min_eq_left q]; exact h.sd i j hi hj
    · rw [Nat.min_eq_right q]
      have l1 := h.le i j hi hj
      rcases h.sd i k hi hk with a | a
      · left; omega
      · rcases h.sd k j hk hj with b | b
        · left; omega
        · exact .inr (a.append b)
  cl := fun r hr => by
    obtain ⟨h1, h2, _⟩ := hi r hr
    have := h.cl r hr
    rw [e _ _ h1 h2, e _ _ h2 h1]
    omega
  tr := fun m i j hm hi hj => by
    have hmn : m < n := by omega
    rw [e i j hi hj, e i m hi hmn, e m j hmn hj]
    have kk := h.dg k hk
    by_cases q : m = k
    · subst q
      omega
    · have t1 := h.tr m i j (by omega) hi hj
      have t2 := h.tr m k j (by omega) hk hj
      have t3 := h.tr m i k (by omega) hi hk
      have t4 := h.tr m k k (by omega) hk hk
      omega
theorem F2.isD {rods : List Rod} {n : Nat} {T : Tab} (hi : InN n rods) (h : F2 rods n n T) : IsD rods n 9999 T := fun p x hp hx => by
  refine ⟨h.le p x hp hx, h.sd p x hp hx, fun m hm => ?_⟩
  induction hm with
  | nil => rw [h.dg p hp]; exact Nat.le_refl _
  | @fwd a b l m0 _ hr ih =>
    obtain ⟨ha, hb, _⟩ := hi _ hr
    have := h.tr a p b ha hp hb
    have c := (h.cl _ hr).1
    have := ih ha
    dsimp only at c
    omega
  | @bwd a b l m0 _ hr ih =>
    obtain ⟨ha, hb, _⟩ := hi _ hr
    have := h.tr b p a hb hp ha
    have c := (h.cl _ hr).2
    have := ih hb
    dsimp only at c
    omega
/-- within the round of the middle k: F the table at its start -/
def Mid (F : Tab) (n k i j : Nat) (T : Tab) : Prop := ∀ x y, x < n → y < n → T x y = if x < i ∨ (x = i ∧ y < j) then min (F x y) (F x k + F k y) else F x y
theorem Mid.start {F : Tab} {n k : Nat} : Mid F n k 0 0 F := fun x y _ _ => by rw [if_neg (by omega)]
theorem Mid.row {F T : Tab} {n k i : Nat} (h : Mid F n k i n T) : Mid F n k (i + 1) 0 T := fun x y hx hy => by
  rw [h x y hx hy]
  by_cases q : x < i ∨ (x = i ∧ y < n)
  · rw [if_pos q, if_pos (by omega)]
  · rw [if_neg q, if_neg (by omega)]
theorem Mid.done {F T : Tab} {n k : Nat} (h : Mid F n k n 0 T) : ∀ i j, i < n → j < n → T i j = min (F i j) (F i k + F k j) := fun i j hi hj => by
  rw [h i j hi hj, if_pos (by omega)]
theorem Mid.step {F T : Tab} {n k i j : Nat} (dg : F k k = 0) (hk : k < n) (hi : i < n) (hj : j < n) (h : Mid F n k i j T) : Mid F n k i (j + 1) (upT T i j (min (T i j) (T i k + T k j))) := fun x y hx hy => by
  have e1 := h i j hi hj
  have e2 := h i k hi hk
  have e3 := h k j hk hj
  have e4 := h x y hx hy
  rw [if_neg (by omega)] at e1
  have f2 : T i k = F i k := by
    rw [e2]
    split
    · omega
    · rfl
  have f3 : T k j = F k j := by
    rw [e3]
    split
    · omega
    · rfl
  unfold upT
  by_cases q : x = i ∧ y = j
  · rw [if_pos q, if_pos (by omega), e1, f2, f3, q.1, q.2]
  · rw [if_neg q, e4]
    by_cases q2 : x < i ∨ (x = i ∧ y < j)
    · rw [if_pos q2, if_pos (by omega)]
    · rw [if_neg q2, if_neg (by omega)]
end Lt
namespace Lt
open Classical
/-- the law's table within its rounds: sound, never below the least, and what a walk of least length has already brought -/
structure B1 (rods : List Rod) (n : Nat) (T : Tab) : Prop where
  dg : ∀ i, i < n → T i i = 0
  le : ∀ i j, i < n → j < n → T i j ≤ 999
  sd : ∀ i j, i < n → j < n → T i j = 999 ∨ Walk rods i j (T i j)
def Least (rods : List Rod) (p x m : Nat) : Prop := Walk rods p x m ∧ ∀ m', Walk rods p x m' → m ≤ m'
theorem least_of {rods : List Rod} {p x : Nat} : ∀ (m : Nat), Walk rods p x m → ∃ m0, m0 ≤ m ∧ Least rods p x m0 := by
  intro m
  induction m using Nat.strongRecOn with
  | ind m ih =>
    intro h
    by_cases q : ∃ m', m' < m ∧ Walk rods p x m'
    · obtain ⟨m', h1, h2⟩ := q
      obtain ⟨m0, h3, h4⟩ := ih m' h1 h2
      exact ⟨m0, by omega, h4⟩
    · refine ⟨m, Nat.le_refl m, h, fun m' h' => ?_⟩
      by_cases c : m' < m
      · exact absurd ⟨m', c, h'⟩ q
      · omega
/-- how many places are nearer to p than m -/
noncomputable def rank (rods : List Rod) (n p m : Nat) : Nat := ((List.range n).filter fun y => decide (∃ m', m' < m ∧ Walk rods p y m')).length
theorem filter_lt {α : Type} {p q : α → Bool} : ∀ {l : List α} {y : α}, (∀ z ∈ l, p z = true → q z = true) → y ∈ l → p y = false → q y = true → (l.filter p).length < (l.filter q).length := by
  have le : ∀ {l : List α}, (∀ z ∈ l, p z = true → q z = true) → (l.filter p).length ≤ (l.filter q).length := by
    intro l
    induction l with
    | nil => intro _; exact Nat.le_refl _
    | cons a l ih =>
      intro h
      have := ih fun z hz => h z (List.mem_cons_of_mem _ hz)
      have ha := h a List.mem_cons_self
      rw [List.filter_cons, List.filter_cons]
      cases hp : p a with
      | true =>
        rw [ha hp]
        simp only [if_true, List.length_cons]
        omega
      | false =>
        simp only [Bool.false_eq_true, if_false]
        split
        · rw [List.length_cons]; omega
        · exact this
  intro l
  induction l with
  | nil => intro y _ hy; cases hy
  | cons a l ih =>
    intro y h hy hp hq
    have h' : ∀ z ∈ l, p z = true → q z = true := fun z hz => h z (List.mem_cons_of_mem _ hz)
    rw [List.filter_cons, List.filter_cons]
    rcases List.mem_cons.mp hy with e | hy
    · subst e
      rw [hp, hq]
      have := le h'
      simp only [if_true, Bool.false_eq_true, if_false, List.length_cons]
      omega
    · have := ih h' hy hp hq
      cases ha : p a with
      | true =>
        rw [h a List.mem_cons_self ha]
        simp only [if_true, List.length_cons]
        omega
      | false =>
        simp only [Bool.false_eq_true, if_false]
        split
        · rw [List.length_cons]; omega
        · exact this
theorem rank_le {rods : List Rod} {n p m : Nat} : rank rods n p m ≤ n := by
  unfold rank
  refine Nat.le_trans (List.length_filter_le _ _) ?_
  rw [List.length_range]
  exact Nat.le_refl _
theorem rank_lt {rods : List Rod} {n p y m1 m : Nat} (hy : y < n) (h : Least rods p y m1) (hm : m1 < m) : rank rods n p m1 < rank rods n p m := by
  refine filter_lt (y := y) (fun z _ hz => ?_) (List.mem_range.mpr hy) ?_ ?_
  · obtain ⟨m', h1, h2⟩ := of_decide_eq_true hz
    exact decide_eq_true ⟨m', by omega, h2⟩
  · refine decide_eq_false fun q => ?_
    obtain ⟨m', h1, h2⟩ := q
    have := h.2 m' h2
    omega
  · exact decide_eq_true ⟨m1, hm, h.1⟩
/-- behind t rounds -/
structure B2 (rods : List Rod) (n t : Nat) (T : Tab) : Prop extends B1 rods n T where
  rd : ∀ p x m, p < n → x < n → Least rods p x m → rank rods n p m ≤ t → T p x ≤ m
theorem B2.start {rods : List Rod} {n : Nat} {T : Tab} (hi : InN n rods) (h : ∀ i j, i < n → j < n → T i j = if i = j then 0 else 999) : B2 rods n 0 T where
  dg := fun i hi => by rw [h i i hi hi, if_pos rfl]
  le := fun i j hi hj => by rw [h i j hi hj]; split <;> omega
  sd := fun i j hi hj => by
    rw [h i j hi hj]
    by_cases e : i = j
    · rw [if_pos e, e]; exact .inr .nil
    · rw [if_neg e]; exact .inl rfl
  rd := fun p x m hp hx hl hr => by
    rw [h p x hp hx]
    by_cases e : p = x
    · rw [if_pos e]; omega
    · exfalso
      have hm : 0 < m := by
        have hw := hl.1
        cases hw with
        | nil => exact absurd rfl e
        | fwd _ h => have := (hi _ h).2.2.1; dsimp only at this; omega
        | bwd _ h => have := (hi _ h).2.2.1; dsimp only at this; omega
      have := rank_lt (m := m) hp (⟨.nil, fun _ _ => Nat.zero_le _⟩ : Least rods p p 0) hm
      omega
/-- within a round that began with F: the first k rods are done, of the next one the places below j -/
structure B3 (rods : List Rod) (n : Nat) (F : Tab) (k j : Nat) (T : Tab) : Prop extends B1 rods n T where
  dn : ∀ x y, x < n → y < n → T x y ≤ F x y
  cl : ∀ q r, q < k → rods[q]? = some r → ∀ p, p < n → T p r.1 ≤ F p r.2.1 + r.2.2 ∧ T p r.2.1 ≤ F p r.1 + r.2.2
  cj : ∀ r, rods[k]? = some r → ∀ p, p < j → T p r.1 ≤ F p r.2.1 + r.2.2 ∧ T p r.2.1 ≤ F p r.1 + r.2.2
theorem B3.start {rods : List Rod} {n : Nat} {F : Tab} (h : B1 rods n F) : B3 rods n F 0 0 F where
  toB1 := h
  dn := fun x y _ _ => Nat.le_refl _
  cl := fun q r hq => absurd hq (Nat.not_lt_zero q)
  cj := fun r _ p hp => absurd hp (Nat.not_lt_zero p)
theorem B3.next {rods : List Rod} {n k : Nat} {F T : Tab} (h : B3 rods n F k n T) : B3 rods n F (k + 1) 0 T where
  toB1 := h.toB1
  dn := h.dn
  cl := fun q r hq hr p hp => by
    by_cases e : q = k
    · subst e
      exact h.cj r hr p hp
    · exact h.cl q r (by omega) hr p hp
  cj := fun r _ p hp => absurd hp (Nat.not_lt_zero p)
theorem B3.step {rods : List Rod} {n k j a b l : Nat} {F T : Tab} (hi : InN n rods) (hj : j < n) (hr : rods[k]? = some (a, b, l)) (hne : a ≠ b) (h : B3 rods n F k j T) {U V : Tab}
    (hU : U = upT T j a (min (T j a) (T j b + l))) (hV : V = upT U j b (min (U j b) (U j a + l))) : B3 rods n F k (j + 1) V := by
  have hm : (a, b, l) ∈ rods := List.mem_of_getElem? hr
  obtain ⟨ha, hb, hl1, hl⟩ := hi _ hm
  have ha : a < n := ha
  have hb : b < n := hb
  have hl : l ≤ 9 := hl
  have hl1 : 1 ≤ l := hl1
  have vj : ∀ y, V j y = if y = b then min (T j b) (min (T j a) (T j b + l) + l) else if y = a then min (T j a) (T j b + l) else T j y := fun y => by
    rw [hV, hU]
    unfold upT
    by_cases e : y = b
    · rw [if_pos ⟨rfl, e⟩, if_pos e, if_neg (by omega), if_pos ⟨rfl, rfl⟩]
    · rw [if_neg (by omega), if_neg e]
      by_cases e2 : y = a
      · rw [if_pos ⟨rfl, e2⟩, if_pos e2]
      · rw [if_neg (by omega), if_neg e2]
  have vx : ∀ x y, x ≠ j → V x y = T x y := fun x y e => by
    rw [hV, hU]
    unfold upT
    rw [if_neg (by omega), if_neg (by omega)]
  have la := h.le j a hj ha
  have lb := h.le j b hj hb
  have da := h.dn j a hj ha
  have db := h.dn j b hj hb
  have dec : ∀ x y, x < n → y < n → V x y ≤ T x y := fun x y hx hy => by
    by_cases e : x = j
    · subst e
      rw [vj y]
      split
      · rename_i e2; subst e2; omega
      · split
        · rename_i e2; subst e2; omega
        · omega
    · rw [vx x y e]
      exact Nat.le_refl _
  have sa : min (T j a) (T j b + l) = 999 ∨ Walk rods j a (min (T j a) (T j b + l)) := by
    rcases Nat.le_total (T j a) (T j b + l) with q | q
    · rw [Nat.min_eq_left q]; exact h.sd j a hj ha
    · rw [Nat.min_eq_right q]
      rcases h.sd j b hj hb with s | s
      · left; omega
      · exact .inr (.bwd s hm)
  have sb : min (T j b) (min (T j a) (T j b + l) + l) = 999 ∨ Walk rods j b (min (T j b) (min (T j a) (T j b + l) + l)) := by
    rcases Nat.le_total (T j b) (min (T j a) (T j b + l) + l) with q | q
    · rw [Nat.min_eq_left q]; exact h.sd j b hj hb
    · rw [Nat.min_eq_right q]
      rcases sa with s | s
      · left; omega
      · exact .inr (.fwd s hm)
  refine ⟨⟨fun i hi => ?_, fun x y hx hy => Nat.le_trans (dec x y hx hy) (h.le x y hx hy), fun x y hx hy => ?_⟩, fun x y hx hy => Nat.le_trans (dec x y hx hy) (h.dn x y hx hy), fun q r hq hqr p hp => ?_, fun r hr' p hp => ?_⟩
  · have := dec i i hi hi
    have := h.dg i hi
    omega
  · by_cases e : x = j
    · subst e
      rw [vj y]
      split
      · rename_i e2; subst e2; exact sb
      · split
        · rename_i e2; subst e2; exact sa
        · exact h.sd x y hx hy
    · rw [vx x y e]
      exact h.sd x y hx hy
  · obtain ⟨h1, h2, _⟩ := hi _ (List.mem_of_getElem? hqr)
    have := h.cl q r hq hqr p hp
    have := dec p r.1 hp h1
    have := dec p r.2.1 hp h2
    omega
  · rw [hr] at hr'
    cases hr'
    have hp' : p < n := by omega
    by_cases e : p = j
    · subst e
      show V p a ≤ F p b + l ∧ V p b ≤ F p a + l
      rw [vj a, vj b, if_neg hne, if_pos rfl, if_pos rfl]
      omega
    · have := h.cj (a, b, l) hr p (by omega)
      have := dec p a hp' ha
      have := dec p b hp' hb
      dsimp only at *
      omega
theorem B3.done {rods : List Rod} {n t : Nat} {F T : Tab} (hi : InN n rods) (g : B2 rods n t F) (h : B3 rods n F rods.length 0 T) : B2 rods n (t + 1) T where
  toB1 := h.toB1
  rd := fun p x m hp hx hl hr => by
    have hw := hl.1
    cases hw with
    | nil =>
      rw [h.dg p hp]
      omega
    | @fwd a b l m0 w hr' =>
      obtain ⟨ha, hb, hl1, _⟩ := hi _ hr'
      have hl1 : 1 ≤ l := hl1
      have ha : a < n := ha
      have l0 : Least rods p a m0 := ⟨w, fun m' w' => by
        have := hl.2 _ (w'.fwd hr')
        omega⟩
      have := rank_lt (m := m0 + l) ha l0 (by omega)
      have f := g.rd p a m0 hp ha l0 (by omega)
      obtain ⟨q, hq, e⟩ := List.getElem_of_mem hr'
      have c := (h.cl q _ hq (by rw [List.getElem?_eq_getElem hq, e]) p hp).2
      dsimp only at c
      omega
    | @bwd a b l m0 w hr' =>
      obtain ⟨ha, hb, hl1, _⟩ := hi _ hr'
      have hl1 : 1 ≤ l := hl1
      have hb : b < n := hb
      have l0 : Least rods p b m0 := ⟨w, fun m' w' => by
        have := hl.2 _ (w'.bwd hr')
        omega⟩
      have := rank_lt (m := m0 + l) hb l0 (by omega)
      have f := g.rd p b m0 hp hb l0 (by omega)
      obtain ⟨q, hq, e⟩ := List.getElem_of_mem hr'
      have c := (h.cl q _ hq (by rw [List.getElem?_eq_getElem hq, e]) p hp).1
      dsimp only at c
      omega
theorem B2.isD {rods : List Rod} {n : Nat} {T : Tab} (h : B2 rods n n T) : IsD rods n 999 T := fun p x hp hx => by
  refine ⟨h.le p x hp hx, h.sd p x hp hx, fun m hm => ?_⟩
  obtain ⟨m0, h1, h2⟩ := least_of m hm
  have := h.rd p x m0 hp hx h2 rank_le
  omega
end Lt
namespace Lt
/-! ### the law's ways -/
def steps (rods : List Rod) : List Rod := rods.flatMap fun r => [(r.1, r.2.1, r.2.2), (r.2.1, r.1, r.2.2)]
/-- a way's end -/
def en (w : List Nat) : Nat := w.getLast?.getD 0
abbrev Wy := Nat × List Nat
def goes (x : Wy) (d : Rod) : Bool := decide (d.1 = en x.2 ∧ d.2.1 ∉ x.2)
def onward (x : Wy) (d : Rod) : Wy := (x.1 + d.2.2, x.2 ++ [d.2.1])
def ext (rods : List Rod) (x : Wy) : List Wy := ((steps rods).filter (goes x)).map (onward x)
def dfs (rods : List Rod) (t : Nat) : Nat → Wy → List Wy
  | 0, _ => []
  | k + 1, x => if en x.2 = t then [x] else (ext rods x).reverse.flatMap (dfs rods t k)
def cnt (rods : List Rod) (t : Nat) : Nat → Wy → Nat
  | 0, _ => 0
  | k + 1, x => if en x.2 = t then 1 else 1 + ((ext rods x).map (cnt rods t k)).sum
structure WfW (n : Nat) (w : List Nat) : Prop where
  ne : w ≠ []
  nd : w.Nodup
  lt : ∀ q ∈ w, q < n
theorem en_snoc (w : List Nat) (q : Nat) : en (w ++ [q]) = q := by
  unfold en
  rw [List.getLast?_concat] <;> rfl
theorem en_cons (q r : Nat) (w : List Nat) : en (q :: r :: w) = en (r :: w) := by
  unfold en
  rw [List.getLast?_cons_cons]
theorem en_app (w s : List Nat) (h : s ≠ []) : en (w ++ s) = en s := by
  unfold en
  rw [List.getLast?_append]
  cases e : s.getLast? with
  | none => exact absurd (List.getLast?_eq_none_iff.mp e) h
  | some v => rfl
theorem en_mem {w : List Nat} (h : w ≠ []) : en w ∈ w := by
  unfold en
  rw [List.getLast?_eq_some_getLast h]
  exact List.getLast_mem h
/-- unlike numbers below n are at most n -/
theorem nd_le : ∀ {n : Nat} {w : List Nat}, w.Nodup → (∀ q ∈ w, q < n) → w.length ≤ n
  | 0, [], _, _ => Nat.le_refl _
  | 0, a :: w, _, h => absurd (h a List.mem_cons_self) (Nat.not_lt_zero _)
  | n + 1, w, hn, h => by
    have h1 : (w.filter (fun q => decide (q ≠ n))).length ≤ n := nd_le (hn.filter _) fun q hq => by
      obtain ⟨h1, h2⟩ := List.mem_filter.mp hq
      have := h q h1
      have := of_decide_eq_true h2
      omega
    have h2 : ∀ {w : List Nat}, w.Nodup → w.length ≤ (w.filter (fun q => decide (q ≠ n))).length + 1 := by
      intro w
      induction w with
      | nil => intro _; exact Nat.zero_le _
      | cons a w ih =>
        intro hn
        obtain ⟨ha, hw⟩ := List.nodup_cons.mp hn
        rw [List.filter_cons]
        by_cases e : a = n
        · subst e
          have : w.filter (fun q => decide (q ≠ a)) = w := List.filter_eq_self.mpr fun q hq => decide_eq_true fun e => ha (e ▸ hq)
          rw [if_neg (by simp), this, List.length_cons]
          exact Nat.le_refl _
        · have := ih hw
          simp only [decide_eq_true e, if_true, List.length_cons]
          omega
    have := h2 hn
    omega
theorem WfW.len {n : Nat} {w : List Nat} (h : WfW n w) : w.length ≤ n := nd_le h.nd h.lt
theorem mem_steps {rods : List Rod} {d : Rod} : d ∈ steps rods ↔ (d.1, d.2.1, d.2.2) ∈ rods ∨ (d.2.1, d.1, d.2.2) ∈ rods := by
  obtain ⟨a, b, l⟩ := d
  unfold steps
  rw [List.mem_flatMap]
  constructor
  · rintro ⟨⟨c, d, m⟩, hr, h⟩
    simp only [List.mem_cons, List.not_mem_nil, or_false, Prod.mk.injEq] at h
    rcases h with ⟨rfl, rfl, rfl⟩ | ⟨rfl, rfl, rfl⟩
    · exact .inl hr
    · exact .inr hr
  · rintro (h | h)
    · exact ⟨_, h, by simp⟩
    · exact ⟨_, h, by simp⟩
theorem steps_in {n : Nat} {rods : List Rod} (hi : InN n rods) {d : Rod} (h : d ∈ steps rods) : d.1 < n ∧ d.2.1 < n ∧ 1 ≤ d.2.2 ∧ d.2.2 ≤ 9 := by
  rcases mem_steps.mp h with h | h
  · exact hi _ h
  · have := hi _ h
    dsimp only at this
    exact ⟨this.2.1, this.1, this.2.2⟩
theorem steps_len (rods : List Rod) : (steps rods).length = 2 * rods.length := by
  unfold steps
  induction rods with
  | nil => rfl
  | cons r rods ih => rw [List.flatMap_cons, List.length_append, ih, List.length_cons]; simp; omega
theorem ext_len {rods : List Rod} {x : Wy} : (ext rods x).length ≤ 2 * rods.length := by
  unfold ext
  rw [List.length_map, ← steps_len]
  exact List.length_filter_le _ _
theorem mem_ext {rods : List Rod} {x y : Wy} : y ∈ ext rods x ↔ ∃ q l, (en x.2, q, l) ∈ steps rods ∧ q ∉ x.2 ∧ y = (x.1 + l, x.2 ++ [q]) := by
  unfold ext
  rw [List.mem_map]
  constructor
  · rintro ⟨⟨a, b, l⟩, h, rfl⟩
    obtain ⟨h1, h2⟩ := List.mem_filter.mp h
    obtain ⟨h3, h4⟩ := of_decide_eq_true h2
    dsimp only at h3 h4
    subst h3
    exact ⟨b, l, h1, h4, rfl⟩
  · rintro ⟨q, l, h1, h2, rfl⟩
    exact ⟨(en x.2, q, l), List.mem_filter.mpr ⟨h1, decide_eq_true ⟨rfl, h2⟩⟩, rfl⟩
theorem ext_wf {n : Nat} {rods : List Rod} {x y : Wy} (hi : InN n rods) (h : WfW n x.2) (hy : y ∈ ext rods x) : WfW n y.2 ∧ y.2.length = x.2.length + 1 := by
  obtain ⟨q, l, h1, h2, rfl⟩ := mem_ext.mp hy
  refine ⟨⟨by simp, ?_, fun z hz => ?_⟩, by simp⟩
  · exact List.nodup_append.mpr ⟨h.nd, by simp, fun a ha b hb e => by
      have : b = q := by simpa using hb
      subst this
      subst e
      exact h2 ha⟩
  · rcases List.mem_append.mp hz with hz | hz
    · exact h.lt z hz
    · have : z = q := by simpa using hz
      subst this
      exact (steps_in hi h1).2.1
/-- the ways on from a way, the law's order -/
def wys (rods : List Rod) (n t : Nat) (x : Wy) : List Wy := dfs rods t (n + 1 - x.2.length) x
def num (rods : List Rod) (n t : Nat) (x : Wy) : Nat := cnt rods t (n + 1 - x.2.length) x
theorem flatMap_same {α β : Type} {f g : α → List β} : ∀ {l : List α}, (∀ a ∈ l, f a = g a) → l.flatMap f = l.flatMap g
  | [], _ => rfl
  | a :: l, h => by rw [List.flatMap_cons, List.flatMap_cons, h a List.mem_cons_self, flatMap_same fun b hb => h b (List.mem_cons_of_mem _ hb)]
theorem wys_eq {n t : Nat} {rods : List Rod} {x : Wy} (hi : InN n rods) (h : WfW n x.2) : wys rods n t x = if en x.2 = t then [x] else (ext rods x).reverse.flatMap (wys rods n t) := by
  have hl := h.len
  obtain ⟨k, hk⟩ : ∃ k, n + 1 - x.2.length = k + 1 := ⟨n - x.2.length, by omega⟩
  unfold wys
  rw [hk]
  show (if en x.2 = t then [x] else (ext rods x).reverse.flatMap (dfs rods t k)) = _
  split
  · rfl
  · refine flatMap_same fun y hy => ?_
    have := (ext_wf hi h (List.mem_reverse.mp hy)).2
    have e : n + 1 - y.2.length = k := by omega
    rw [e]
theorem num_eq {n t : Nat} {rods : List Rod} {x : Wy} (hi : InN n rods) (h : WfW n x.2) : num rods n t x = if en x.2 = t then 1 else 1 + ((ext rods x).map (num rods n t)).sum := by
  have hl := h.len
  obtain ⟨k, hk⟩ : ∃ k, n + 1 - x.2.length = k + 1 := ⟨n - x.2.length, by omega⟩
  unfold num
  rw [hk]
  show (if en x.2 = t then 1 else 1 + ((ext rods x).map (cnt rods t k)).sum) = _
  split
  · rfl
  · have : (ext rods x).map (cnt rods t k) = (ext rods x).map fun y => cnt rods t (n + 1 - y.2.length) y := by
      refine List.map_congr_left fun y hy => ?_
      have := (ext_wf hi h hy).2
      have e : n + 1 - y.2.length = k := by omega
      rw [e]
    rw [this]
theorem num_pos {n t : Nat} {rods : List Rod} {x : Wy} (hi : InN n rods) (h : WfW n x.2) : 1 ≤ num rods n t x := by
  rw [num_eq hi h]
  split <;> omega
def bnd : Nat → Nat
  | 0 => 0
  | k + 1 => 1 + 16 * bnd k
theorem sum_le {α : Type} {f : α → Nat} {b : Nat} : ∀ {l : List α}, (∀ a ∈ l, f a ≤ b) → (l.map f).sum ≤ l.length * b
  | [], _ => by simp
  | a :: l, h => by
    have := sum_le (f := f) (b := b) (l := l) fun c hc => h c (List.mem_cons_of_mem _ hc)
    have := h a List.mem_cons_self
    rw [List.map_cons, List.sum_cons, List.length_cons, Nat.add_mul]
    omega
theorem sum_ge {α : Type} {f : α → Nat} : ∀ {l : List α}, (∀ a ∈ l, 1 ≤ f a) → l.length ≤ (l.map f).sum
  | [], _ => by simp
  | a :: l, h => by
    have := sum_ge (f := f) (l := l) fun c hc => h c (List.mem_cons_of_mem _ hc)
    have := h a List.mem_cons_self
    rw [List.map_cons, List.sum_cons, List.length_cons]
    omega
theorem cnt_le {rods : List Rod} {t : Nat} (hl : rods.length ≤ 8) : ∀ (k : Nat) (x : Wy), cnt rods t k x ≤ bnd k
  | 0, _ => Nat.le_refl _
  | k + 1, x => by
    show (if en x.2 = t then 1 else 1 + ((ext rods x).map (cnt rods t k)).sum) ≤ 1 + 16 * bnd k
    have h1 := sum_le (l := ext rods x) (f := cnt rods t k) (b := bnd k) fun y _ => cnt_le hl k y
    have h2 : (ext rods x).length ≤ 16 := Nat.le_trans ext_len (by omega)
    have h3 : (ext rods x).length * bnd k ≤ 16 * bnd k := Nat.mul_le_mul_right _ h2
    split <;> omega
theorem bnd_mono : ∀ {k j : Nat}, k ≤ j → bnd k ≤ bnd j
  | 0, _, _ => Nat.zero_le _
  | k + 1, 0, h => absurd h (by omega)
  | k + 1, j + 1, h => by
    have := bnd_mono (k := k) (j := j) (by omega)
    show 1 + 16 * bnd k ≤ 1 + 16 * bnd j
    omega
theorem num_le {n t : Nat} {rods : List Rod} {x : Wy} (w : Wf n rods) (hx : x.2 ≠ []) : num rods n t x ≤ 1118481 := by
  have h1 := cnt_le (rods := rods) (t := t) w.few (n + 1 - x.2.length) x
  have h2 : 0 < x.2.length := List.length_pos_iff.mpr hx
  have := w.n6
  have h3 : bnd (n + 1 - x.2.length) ≤ bnd 6 := bnd_mono (by omega)
  have h4 : bnd 6 = 1118481 := by decide
  unfold num
  omega
/-- the walk's invariant: found, the rim, what is begun with -/
structure Rim (rods : List Rod) (n t : Nat) (x0 : Wy) (found rim : List Wy) : Prop where
  wf : ∀ x ∈ rim, WfW n x.2
  eq : found ++ rim.reverse.flatMap (wys rods n t) = wys rods n t x0
  nm : found.length + (rim.map (num rods n t)).sum ≤ num rods n t x0
theorem Rim.start {rods : List Rod} {n t : Nat} {x0 : Wy} (h : WfW n x0.2) : Rim rods n t x0 [] [x0] where
  wf := fun x hx => by
    have : x = x0 := by simpa using hx
    subst this
    exact h
  eq := by simp
  nm := by simp
theorem Rim.hit {rods : List Rod} {n t : Nat} {x0 x : Wy} {found rim : List Wy} (hi : InN n rods) (h : Rim rods n t x0 found (rim ++ [x])) (e : en x.2 = t) : Rim rods n t x0 (found ++ [x]) rim where
  wf := fun y hy => h.wf y (List.mem_append_left _ hy)
  eq := by
    have hx := h.wf x (by simp)
    have := h.eq
    rw [List.reverse_append, List.reverse_singleton, List.singleton_append, List.flatMap_cons, wys_eq hi hx, if_pos e] at this
    rw [List.append_assoc]
    exact this
  nm := by
    have hx := h.wf x (by simp)
    have := h.nm
    rw [List.map_append, List.sum_append, List.map_cons, List.map_nil, List.sum_cons, List.sum_nil, num_eq hi hx, if_pos e] at this
    rw [List.length_append, List.length_singleton]
    omega
theorem Rim.on {rods : List Rod} {n t : Nat} {x0 x : Wy} {found rim : List Wy} (hi : InN n rods) (h : Rim rods n t x0 found (rim ++ [x])) (e : ¬ en x.2 = t) : Rim rods n t x0 found (rim ++ ext rods x) where
  wf := fun y hy => by
    rcases List.mem_append.mp hy with hy | hy
    · exact h.wf y (List.mem_append_left _ hy)
    · exact (ext_wf hi (h.wf x (by simp)) hy).1
  eq := by
    have hx := h.wf x (by simp)
    have := h.eq
    rw [List.reverse_append, List.reverse_singleton, List.singleton_append, List.flatMap_cons, wys_eq hi hx, if_neg e] at this
    rw [List.reverse_append, List.flatMap_append]
    exact this
  nm := by
    have hx := h.wf x (by simp)
    have := h.nm
    rw [List.map_append, List.sum_append, List.map_cons, List.map_nil, List.sum_cons, List.sum_nil, num_eq hi hx, if_neg e] at this
    rw [List.map_append, List.sum_append]
    omega
theorem Rim.len {rods : List Rod} {n t : Nat} {x0 : Wy} {found rim : List Wy} (hi : InN n rods) (h : Rim rods n t x0 found rim) : found.length + rim.length ≤ num rods n t x0 := by
  have := h.nm
  have := sum_ge (l := rim) (f := num rods n t) fun x hx => num_pos hi (h.wf x hx)
  omega
theorem Rim.sum_hit {rods : List Rod} {n t : Nat} {x : Wy} {rim : List Wy} (hi : InN n rods) (hx : WfW n x.2) : (rim.map (num rods n t)).sum < ((rim ++ [x]).map (num rods n t)).sum := by
  have := num_pos (t := t) hi hx
  rw [List.map_append, List.sum_append, List.map_cons, List.map_nil, List.sum_cons, List.sum_nil]
  omega
theorem Rim.sum_on {rods : List Rod} {n t : Nat} {x : Wy} {rim : List Wy} (hi : InN n rods) (hx : WfW n x.2) (e : ¬ en x.2 = t) : ((rim ++ ext rods x).map (num rods n t)).sum < ((rim ++ [x]).map (num rods n t)).sum := by
  rw [List.map_append, List.sum_append, List.map_append, List.sum_append, List.map_cons, List.map_nil, List.sum_cons, List.sum_nil, num_eq hi hx, if_neg e]
  omega
/-! ### what the ways are -/
inductive Along (rods : List Rod) : Nat → List Nat → Nat → Prop
  | nil {e : Nat} : Along rods e [] 0
  | cons {e q l m : Nat} {s : List Nat} : (e, q, l) ∈ steps rods → Along rods q s m → Along rods e (q :: s) (l + m)
theorem dfs_sound {rods : List Rod} {t : Nat} : ∀ {k : Nat} {x y : Wy}, x.2.Nodup → x.2 ≠ [] → y ∈ dfs rods t k x → ∃ s m, y = (x.1 + m, x.2 ++ s) ∧ Along rods (en x.2) s m ∧ (x.2 ++ s).Nodup ∧ en (x.2 ++ s) = t
  | 0, _, _, _, _, h => by cases h
  | k + 1, x, y, hn, hne, h => by
    have h : y ∈ (if en x.2 = t then [x] else (ext rods x).reverse.flatMap (dfs rods t k)) := h
    by_cases e : en x.2 = t
    · rw [if_pos e] at h
      have : y = x := by simpa using h
      subst this
      exact ⟨[], 0, by simp, .nil, by simpa using hn, by simpa using e⟩
    · rw [if_neg e] at h
      obtain ⟨z, hz, hy⟩ := List.mem_flatMap.mp h
      obtain ⟨q, l, h1, h2, rfl⟩ := mem_ext.mp (List.mem_reverse.mp hz)
      have hn2 : (x.2 ++ [q]).Nodup := List.nodup_append.mpr ⟨hn, by simp, fun a ha b hb e => by
        have : b = q := by simpa using hb
        subst this
        subst e
        exact h2 ha⟩
      obtain ⟨s, m, rfl, a1, a2, a3⟩ := dfs_sound (k := k) hn2 (by simp) hy
      dsimp only at a1 a2 a3 ⊢
      rw [en_snoc] at a1
      rw [List.append_assoc, List.singleton_append] at a2 a3
      exact ⟨q :: s, l + m, by rw [List.append_assoc, List.singleton_append, Nat.add_assoc], .cons h1 a1, a2, a3⟩
theorem dfs_complete {rods : List Rod} {t : Nat} : ∀ {k : Nat} {x : Wy} {s : List Nat} {m : Nat}, x.2 ≠ [] → s.length < k → Along rods (en x.2) s m → (x.2 ++ s).Nodup → en (x.2 ++ s) = t → (x.1 + m, x.2 ++ s) ∈ dfs rods t k x
  | 0, _, _, _, _, h, _, _, _ => absurd h (Nat.not_lt_zero _)
  | k + 1, x, s, m, hne, hk, ha, hn, he => by
    show _ ∈ (if en x.2 = t then [x] else (ext rods x).reverse.flatMap (dfs rods t k))
    generalize hx : en x.2 = e at ha
    cases ha with
    | nil =>
      rw [List.append_nil] at he ⊢
      rw [hx] at he
      rw [if_pos he, Nat.add_zero]
      exact List.mem_singleton.mpr rfl
    | @cons _ q l m s hs ha =>
      have hq : q ∉ x.2 := fun hq => (List.nodup_append.mp hn).2.2 q hq q List.mem_cons_self rfl
      have net : ¬ e = t := fun e1 => by
        have h1 : en x.2 ∈ x.2 := en_mem hne
        have h2 : en (x.2 ++ q :: s) ∈ q :: s := by
          rw [en_app _ _ (by simp)]
          exact en_mem (by simp)
        rw [he, ← e1, ← hx] at h2
        exact (List.nodup_append.mp hn).2.2 _ h1 _ h2 rfl
      rw [if_neg net]
      refine List.mem_flatMap.mpr ⟨(x.1 + l, x.2 ++ [q]), List.mem_reverse.mpr (mem_ext.mpr ⟨q, l, by rw [hx]; exact hs, hq, rfl⟩), ?_⟩
      have e2 : x.2 ++ q :: s = (x.2 ++ [q]) ++ s := by rw [List.append_assoc, List.singleton_append]
      rw [e2] at hn he ⊢
      rw [← Nat.add_assoc]
      exact dfs_complete (x := (x.1 + l, x.2 ++ [q])) (by simp) (by rw [List.length_cons] at hk; omega) (by rw [en_snoc]; exact ha) hn he
/-- rods as the net has them: no two between the same places -/
theorem steps_apart {n : Nat} {rods : List Rod} (w : Wf n rods) : (steps rods).Pairwise fun d d' => ¬ (d.1 = d'.1 ∧ d.2.1 = d'.2.1) := by
  have h1 := w.ok
  have h2 := w.asc
  clear w
  unfold steps
  induction rods with
  | nil => exact List.Pairwise.nil
  | cons r rods ih =>
    obtain ⟨ha, hp⟩ := List.pairwise_cons.mp h2
    rw [List.flatMap_cons]
    have hr := h1 r List.mem_cons_self
    refine List.pairwise_append.mpr ⟨?_, ih (fun s hs => h1 s (List.mem_cons_of_mem _ hs)) hp, fun d hd d' hd' => ?_⟩
    · refine List.pairwise_cons.mpr ⟨fun d hd => ?_, List.pairwise_singleton _ _⟩
      have : d = (r.2.1, r.1, r.2.2) := by simpa using hd
      subst this
      dsimp only
      omega
    · obtain ⟨s, hs, hd'⟩ := List.mem_flatMap.mp hd'
      have := ha s hs
      have hs' := h1 s (List.mem_cons_of_mem _ hs)
      simp only [List.mem_cons, List.not_mem_nil, or_false] at hd hd'
      rcases hd with rfl | rfl <;> rcases hd' with rfl | rfl <;> dsimp only <;> omega
theorem ext_apart {n : Nat} {rods : List Rod} (w : Wf n rods) (x : Wy) : (ext rods x).Pairwise fun y z => ∃ q r, y.2 = x.2 ++ [q] ∧ z.2 = x.2 ++ [r] ∧ q ≠ r := by
  unfold ext
  rw [List.pairwise_map]
  have h := (steps_apart w).filter (goes x)
  refine h.imp_of_mem fun {d d'} hd hd' hne => ?_
  have h1 := of_decide_eq_true (List.mem_filter.mp hd).2
  have h2 := of_decide_eq_true (List.mem_filter.mp hd').2
  exact ⟨d.2.1, d'.2.1, rfl, rfl, fun e => hne ⟨by rw [h1.1, h2.1], e⟩⟩
theorem dfs_apart {n : Nat} {rods : List Rod} {t : Nat} (w : Wf n rods) : ∀ {k : Nat} {x : Wy}, WfW n x.2 → (dfs rods t k x).Pairwise fun y z => y.2 ≠ z.2
  | 0, _, _ => List.Pairwise.nil
  | k + 1, x, hx => by
    show (if en x.2 = t then [x] else (ext rods x).reverse.flatMap (dfs rods t k)).Pairwise _
    split
    · exact List.pairwise_singleton _ _
    · refine List.pairwise_flatMap.mpr ⟨fun y hy => dfs_apart w (ext_wf w.inN hx (List.mem_reverse.mp hy)).1, ?_⟩
      have hp := List.pairwise_reverse.mpr ((ext_apart w x).imp (S := fun y z => ∃ q r, z.2 = x.2 ++ [q] ∧ y.2 = x.2 ++ [r] ∧ q ≠ r) fun {y z} h => by
        obtain ⟨q, r, h1, h2, h3⟩ := h
        exact ⟨r, q, h2, h1, Ne.symm h3⟩)
      refine hp.imp_of_mem fun {y z} hy hz h => ?_
      obtain ⟨q, r, h1, h2, h3⟩ := h
      have wy := (ext_wf w.inN hx (List.mem_reverse.mp hy)).1
      have wz := (ext_wf w.inN hx (List.mem_reverse.mp hz)).1
      intro u hu v hv e
      obtain ⟨s, m, rfl, _⟩ := dfs_sound wy.nd wy.ne hu
      obtain ⟨s', m', rfl, _⟩ := dfs_sound wz.nd wz.ne hv
      dsimp only at e
      rw [h1, h2, List.append_assoc, List.append_assoc] at e
      have e2 := List.append_cancel_left e
      rw [List.singleton_append, List.singleton_append] at e2
      exact h3 (List.cons.inj e2).1
end Lt
namespace Lt
/-! ### the shortest ways, by the program's road -/
/-- (place, length) of the rods at a place, ascending -/
def nb (rods : List Rod) (n h : Nat) : List (Nat × Nat) := (List.range n).flatMap fun q => ((steps rods).filter fun d => decide (d.1 = h ∧ d.2.1 = q)).map fun d => (q, d.2.2)
/-- as the program finds them -/
def rawNb (rods : List Rod) (h : Nat) : List (Nat × Nat) := ((steps rods).filter fun d => decide (d.1 = h)).map fun d => (d.2.1, d.2.2)
def sw (rods : List Rod) (n : Nat) (D : Nat → Nat) (t : Nat) : Nat → Nat → List (List Nat)
  | 0, _ => []
  | k + 1, h => if h = t then [[t]] else (nb rods n h).flatMap fun p => if p.2 + D p.1 = D h then (sw rods n D t k p.1).map (h :: ·) else []
theorem mem_nb {rods : List Rod} {n h : Nat} (hi : InN n rods) {p : Nat × Nat} : p ∈ nb rods n h ↔ (h, p.1, p.2) ∈ steps rods := by
  unfold nb
  rw [List.mem_flatMap]
  constructor
  · rintro ⟨q, _, hp⟩
    obtain ⟨d, hd, rfl⟩ := List.mem_map.mp hp
    obtain ⟨h1, h2⟩ := List.mem_filter.mp hd
    obtain ⟨h3, h4⟩ := of_decide_eq_true h2
    dsimp only
    rw [← h3, ← h4]
    exact h1
  · intro hp
    exact ⟨p.1, List.mem_range.mpr (steps_in hi hp).2.1, List.mem_map.mpr ⟨(h, p.1, p.2), List.mem_filter.mpr ⟨hp, decide_eq_true ⟨rfl, rfl⟩⟩, rfl⟩⟩
theorem mem_rawNb {rods : List Rod} {h : Nat} {p : Nat × Nat} : p ∈ rawNb rods h ↔ (h, p.1, p.2) ∈ steps rods := by
  unfold rawNb
  constructor
  · intro hp
    obtain ⟨d, hd, rfl⟩ := List.mem_map.mp hp
    obtain ⟨h1, h2⟩ := List.mem_filter.mp hd
    have h3 := of_decide_eq_true h2
    dsimp only
    rw [← h3]
    exact h1
  · intro hp
    exact List.mem_map.mpr ⟨(h, p.1, p.2), List.mem_filter.mpr ⟨hp, decide_eq_true rfl⟩, rfl⟩
theorem rawNb_apart {rods : List Rod} {n h : Nat} (w : Wf n rods) : (rawNb rods h).Pairwise fun p q => p.1 ≠ q.1 := by
  unfold rawNb
  rw [List.pairwise_map]
  refine ((steps_apart w).filter _).imp_of_mem fun {d d'} hd hd' hne => ?_
  have h1 := of_decide_eq_true (List.mem_filter.mp hd).2
  have h2 := of_decide_eq_true (List.mem_filter.mp hd').2
  exact fun e => hne ⟨by rw [h1, h2], e⟩
theorem nb_asc {rods : List Rod} {n h : Nat} (w : Wf n rods) : (nb rods n h).Pairwise fun p q => p.1 < q.1 := by
  unfold nb
  refine List.pairwise_flatMap.mpr ⟨fun q _ => ?_, List.pairwise_lt_range.imp fun {a b} hab => fun x hx y hy => ?_⟩
  · rw [List.pairwise_map]
    refine ((steps_apart w).filter _).imp_of_mem fun {d d'} hd hd' hne => ?_
    have h1 := of_decide_eq_true (List.mem_filter.mp hd).2
    have h2 := of_decide_eq_true (List.mem_filter.mp hd').2
    exact absurd ⟨by rw [h1.1, h2.1], by rw [h1.2, h2.2]⟩ hne
  · obtain ⟨d, _, rfl⟩ := List.mem_map.mp hx
    obtain ⟨d', _, rfl⟩ := List.mem_map.mp hy
    exact hab
/-- ascending lists of the same things are one -/
theorem asc_uniq {α : Type} {r : α → α → Prop} (asy : ∀ a b, r a b → ¬ r b a) : ∀ {l m : List α}, l.Pairwise r → m.Pairwise r → (∀ x, x ∈ l ↔ x ∈ m) → l = m
  | [], [], _, _, _ => rfl
  | [], b :: m, _, _, h => absurd ((h b).mpr List.mem_cons_self) (by simp)
  | a :: l, [], _, _, h => absurd ((h a).mp List.mem_cons_self) (by simp)
  | a :: l, b :: m, hl, hm, h => by
    obtain ⟨h1, h2⟩ := List.pairwise_cons.mp hl
    obtain ⟨h3, h4⟩ := List.pairwise_cons.mp hm
    have e : a = b := by
      rcases List.mem_cons.mp ((h a).mp List.mem_cons_self) with e | ha
      · exact e
      · rcases List.mem_cons.mp ((h b).mpr List.mem_cons_self) with e | hb
        · exact e.symm
        · exact absurd (h1 b hb) (asy _ _ (h3 a ha))
    subst e
    have irr : ∀ x, r a x → x ≠ a := fun x hx e => by subst e; exact asy _ _ hx hx
    rw [asc_uniq asy h2 h4 fun x => ?_]
    constructor
    · intro hx
      rcases List.mem_cons.mp ((h x).mp (List.mem_cons_of_mem _ hx)) with e | hx'
      · exact absurd e (irr x (h1 x hx))
      · exact hx'
    · intro hx
      rcases List.mem_cons.mp ((h x).mpr (List.mem_cons_of_mem _ hx)) with e | hx'
      · exact absurd e (irr x (h3 x hx))
      · exact hx'
/-- what sorted makes of the program's finds -/
theorem nb_sorted {rods : List Rod} {n h : Nat} (w : Wf n rods) {l : List (Nat × Nat)} (hp : l.Perm (rawNb rods h)) (hs : l.Pairwise fun p q => ¬ (q.1 < p.1 ∨ (q.1 = p.1 ∧ q.2 < p.2))) : l = nb rods n h := by
  refine asc_uniq (r := fun p q => p.1 < q.1) (fun a b h => by omega) ?_ (nb_asc w) fun x => ?_
  · have hne : l.Pairwise fun p q => p.1 ≠ q.1 := (rawNb_apart w).perm hp.symm fun h => Ne.symm h
    exact (hs.and hne).imp fun {p q} h => by
      obtain ⟨h1, h2⟩ := h
      omega
  · rw [hp.mem_iff, mem_rawNb, mem_nb w.inN]
/-- what is asked of the lengths to t -/
structure Dst (rods : List Rod) (n t : Nat) (D : Nat → Nat) : Prop where
  z : D t = 0
  up : ∀ h q l, (h, q, l) ∈ steps rods → D h ≤ l + D q
  dn : ∀ h, h < n → h ≠ t → ∃ q l, (h, q, l) ∈ steps rods ∧ l + D q = D h
  sm : ∀ h, h < n → D h < 100
theorem tree_walk {n : Nat} {rods : List Rod} (w : Wf n rods) : ∀ (j : Nat), j < n → ∃ m, m ≤ 9 * j ∧ Walk rods 0 j m := by
  intro j
  induction j using Nat.strongRecOn with
  | ind j ih =>
    intro hj
    by_cases e : j = 0
    · subst e
      exact ⟨0, Nat.le_refl _, .nil⟩
    · obtain ⟨p, l, hp, hr⟩ := w.tree j (by omega) hj
      obtain ⟨m, hm, hw⟩ := ih p hp (by omega)
      have := (w.ok _ hr).2.2.2
      dsimp only at this
      exact ⟨m + l, by omega, hw.fwd hr⟩
theorem any_walk {n : Nat} {rods : List Rod} (w : Wf n rods) {i j : Nat} (hi : i < n) (hj : j < n) : ∃ m, m ≤ 90 ∧ Walk rods i j m := by
  obtain ⟨a, ha, wa⟩ := tree_walk w i hi
  obtain ⟨b, hb, wb⟩ := tree_walk w j hj
  have := w.n6
  exact ⟨a + b, by omega, wa.rev.append wb⟩
theorem IsD.dst {n : Nat} {rods : List Rod} {F : Tab} (w : Wf n rods) (hF : IsD rods n 9999 F) {t : Nat} (ht : t < n) : Dst rods n t (fun h => F h t) := by
  have lt : ∀ h, h < n → F h t < 100 ∧ Walk rods h t (F h t) := fun h hh => by
    obtain ⟨m, hm, hw⟩ := any_walk w hh ht
    obtain ⟨h1, h2, h3⟩ := hF h t hh ht
    have := h3 m hw
    refine ⟨by omega, ?_⟩
    rcases h2 with h2 | h2
    · omega
    · exact h2
  refine ⟨?_, fun h q l hs => ?_, fun h hh hne => ?_, fun h hh => (lt h hh).1⟩
  · have := (hF t t ht ht).2.2 0 .nil
    show F t t = 0
    omega
  · obtain ⟨hh, hq, _⟩ := steps_in w.inN hs
    have hh : h < n := hh
    have hq : q < n := hq
    have w1 : Walk rods h q l := by
      rcases mem_steps.mp hs with hs | hs
      · exact .one hs
      · exact .one' hs
    exact (hF h t hh ht).2.2 _ (w1.append (lt q hq).2)
  · have hw := (lt h hh).2.rev
    have key : ∀ {m}, Walk rods t h m → m = F h t → ∃ q l, (h, q, l) ∈ steps rods ∧ l + F q t = F h t := fun {m} hw e => by
      cases hw with
      | nil => exact absurd rfl hne
      | @fwd a b l m0 hw hr =>
        have ha : a < n := (w.inN _ hr).1
        have h1 := (hF a t ha ht).2.2 m0 hw.rev
        have h2 := (hF h t hh ht).2.2 (l + F a t) ((Walk.one' hr).append (lt a ha).2)
        exact ⟨a, l, mem_steps.mpr (.inr hr), by omega⟩
      | @bwd a b l m0 hw hr =>
        have hb : b < n := (w.inN _ hr).2.1
        have h1 := (hF b t hb ht).2.2 m0 hw.rev
        have h2 := (hF h t hh ht).2.2 (l + F b t) ((Walk.one hr).append (lt b hb).2)
        exact ⟨b, l, mem_steps.mpr (.inl hr), by omega⟩
    exact key hw rfl
section
variable {rods : List Rod} {n t : Nat} {D : Nat → Nat}
theorem Dst.least (d : Dst rods n t D) {h m : Nat} {s : List Nat} (ha : Along rods h s m) (he : en (h :: s) = t) : D h ≤ m := by
  induction ha with
  | @nil e =>
    have : e = t := by simpa [en] using he
    subst this
    rw [d.z]
    exact Nat.le_refl _
  | @cons e q l m s hs _ ih =>
    rw [en_cons] at he
    have := ih he
    have := d.up _ _ _ hs
    omega
theorem mem_sw (w : Wf n rods) (d : Dst rods n t D) : ∀ {k h : Nat} {y : List Nat}, h < n → D h < k → (y ∈ sw rods n D t k h ↔ ∃ s, y = h :: s ∧ Along rods h s (D h) ∧ en (h :: s) = t)
  | 0, _, _, _, hk => absurd hk (Nat.not_lt_zero _)
  | k + 1, h, y, hh, hk => by
    show y ∈ (if h = t then [[t]] else (nb rods n h).flatMap fun p => if p.2 + D p.1 = D h then (sw rods n D t k p.1).map (h :: ·) else []) ↔ _
    by_cases e : h = t
    · rw [if_pos e]
      subst e
      constructor
      · intro hy
        have : y = [h] := by simpa using hy
        subst this
        exact ⟨[], rfl, by rw [d.z]; exact .nil, rfl⟩
      · rintro ⟨s, rfl, ha, he⟩
        rw [d.z] at ha
        generalize hz : 0 = z at ha
        cases ha with
        | nil => exact List.mem_singleton.mpr rfl
        | cons hs _ =>
          have := (steps_in w.inN hs).2.2.1
          dsimp only at this
          omega
    · rw [if_neg e, List.mem_flatMap]
      constructor
      · rintro ⟨p, hp, hy⟩
        have hs := (mem_nb w.inN).mp hp
        obtain ⟨_, hq, hl, _⟩ := steps_in w.inN hs
        have hq : p.1 < n := hq
        have hl : 1 ≤ p.2 := hl
        by_cases c : p.2 + D p.1 = D h
        · rw [if_pos c] at hy
          obtain ⟨y', hy', rfl⟩ := List.mem_map.mp hy
          obtain ⟨s, rfl, ha, he⟩ := (mem_sw w d hq (by omega)).mp hy'
          exact ⟨p.1 :: s, rfl, by rw [← c]; exact .cons hs ha, by rw [en_cons]; exact he⟩
        · rw [if_neg c] at hy
          cases hy
      · rintro ⟨s, rfl, ha, he⟩
        generalize hm : D h = m at ha
        cases ha with
        | nil => exact absurd (by simpa [en] using he) e
        | @cons _ q l m s hs ha =>
          rw [en_cons] at he
          obtain ⟨_, hq, hl, _⟩ := steps_in w.inN hs
          have hq : q < n := hq
          have hl : 1 ≤ l := hl
          have h1 := d.least ha he
          have h2 := d.up _ _ _ hs
          have e2 : m = D q := by omega
          subst e2
          refine ⟨(q, l), (mem_nb w.inN).mpr hs, ?_⟩
          rw [if_pos (show (q, l).2 + D (q, l).1 = l + D q from rfl)]
          exact List.mem_map.mpr ⟨q :: s, (mem_sw w d hq (by omega)).mpr ⟨s, rfl, ha, he⟩, rfl⟩
theorem sw_ne (w : Wf n rods) (d : Dst rods n t D) : ∀ {k h : Nat}, h < n → D h < k → ∃ y ys, sw rods n D t k h = y :: ys
  | 0, _, _, hk => absurd hk (Nat.not_lt_zero _)
  | k + 1, h, hh, hk => by
    by_cases e : h = t
    · exact ⟨[t], [], if_pos e⟩
    · obtain ⟨q, l, hs, c⟩ := d.dn h hh e
      obtain ⟨_, hq, hl, _⟩ := steps_in w.inN hs
      have hq : q < n := hq
      have hl : 1 ≤ l := hl
      obtain ⟨y, ys, hy⟩ := sw_ne (k := k) w d hq (by omega)
      have hm : h :: y ∈ sw rods n D t (k + 1) h := by
        show _ ∈ (if h = t then [[t]] else (nb rods n h).flatMap fun p => if p.2 + D p.1 = D h then (sw rods n D t k p.1).map (h :: ·) else [])
        rw [if_neg e]
        refine List.mem_flatMap.mpr ⟨(q, l), (mem_nb w.inN).mpr hs, ?_⟩
        dsimp only
        rw [if_pos c]
        exact List.mem_map.mpr ⟨y, by rw [hy]; exact List.mem_cons_self, rfl⟩
      cases hz : sw rods n D t (k + 1) h with
      | nil => rw [hz] at hm; cases hm
      | cons a as => exact ⟨a, as, rfl⟩
/-- Python's order of tuples of ints -/
def lexN : List Nat → List Nat → Bool
  | [], [] => false
  | [], _ :: _ => true
  | _ :: _, [] => false
  | x :: xs, y :: ys => if x = y then lexN xs ys else decide (x < y)
theorem lexN_asy : ∀ {a b : List Nat}, lexN a b = true → ¬ lexN b a = true
  | [], [], h => by cases h
  | [], _ :: _, _ => by simp [lexN]
  | _ :: _, [], h => by cases h
  | x :: xs, y :: ys, h => by
    have h : (if x = y then lexN xs ys else decide (x < y)) = true := h
    show ¬ (if y = x then lexN ys xs else decide (y < x)) = true
    by_cases e : x = y
    · rw [if_pos e] at h
      rw [if_pos e.symm]
      exact lexN_asy h
    · rw [if_neg e] at h
      rw [if_neg (Ne.symm e)]
      have := of_decide_eq_true h
      simp
      omega
theorem lexN_tot : ∀ {a b : List Nat}, ¬ lexN b a = true → a ≠ b → lexN a b = true
  | [], [], _, h => absurd rfl h
  | [], _ :: _, _, _ => rfl
  | _ :: _, [], h, _ => absurd rfl h
  | x :: xs, y :: ys, h, hne => by
    have h : ¬ (if y = x then lexN ys xs else decide (y < x)) = true := h
    show (if x = y then lexN xs ys else decide (x < y)) = true
    by_cases e : x = y
    · rw [if_pos e.symm] at h
      rw [if_pos e]
      exact lexN_tot h fun q => hne (by rw [e, q])
    · rw [if_neg (Ne.symm e)] at h
      rw [if_neg e]
      have : ¬ y < x := fun q => h (decide_eq_true q)
      exact decide_eq_true (by omega)
theorem sw_head : ∀ {k h : Nat} {y : List Nat}, y ∈ sw rods n D t k h → ∃ s, y = h :: s
  | 0, _, _, hy => by cases hy
  | k + 1, h, y, hy => by
    have hy : y ∈ (if h = t then [[t]] else (nb rods n h).flatMap fun p => if p.2 + D p.1 = D h then (sw rods n D t k p.1).map (h :: ·) else []) := hy
    split at hy
    · rename_i e
      have : y = [t] := by simpa using hy
      subst this
      exact ⟨[], by rw [e]⟩
    · obtain ⟨p, _, hy⟩ := List.mem_flatMap.mp hy
      split at hy
      · obtain ⟨s, _, rfl⟩ := List.mem_map.mp hy
        exact ⟨s, rfl⟩
      · cases hy
theorem lexN_cons (x : Nat) (a b : List Nat) : lexN (x :: a) (x :: b) = lexN a b := if_pos rfl
theorem sw_asc (w : Wf n rods) : ∀ {k h : Nat}, (sw rods n D t k h).Pairwise fun a b => lexN a b = true
  | 0, _ => List.Pairwise.nil
  | k + 1, h => by
    show (if h = t then [[t]] else (nb rods n h).flatMap fun p => if p.2 + D p.1 = D h then (sw rods n D t k p.1).map (h :: ·) else []).Pairwise _
    split
    · exact List.pairwise_singleton _ _
    · refine List.pairwise_flatMap.mpr ⟨fun p _ => ?_, (nb_asc w).imp fun {p q} hpq x hx y hy => ?_⟩
      · split
        · rw [List.pairwise_map]
          exact (sw_asc w).imp fun {a b} hab => by rw [lexN_cons]; exact hab
        · exact List.Pairwise.nil
      · split at hx
        · split at hy
          · obtain ⟨x', hx', rfl⟩ := List.mem_map.mp hx
            obtain ⟨y', hy', rfl⟩ := List.mem_map.mp hy
            obtain ⟨s, rfl⟩ := sw_head hx'
            obtain ⟨s', rfl⟩ := sw_head hy'
            rw [lexN_cons]
            show (if p.1 = q.1 then _ else decide (p.1 < q.1)) = true
            rw [if_neg (by omega)]
            exact decide_eq_true hpq
          · cases hy
        · cases hx
/-- a shortest way has no place twice -/
theorem Dst.nodup (w : Wf n rods) (d : Dst rods n t D) {h m : Nat} {s : List Nat} (ha : Along rods h s m) : m = D h → en (h :: s) = t → (h :: s).Nodup ∧ ∀ q ∈ s, D q < D h := by
  induction ha with
  | nil => exact fun _ _ => ⟨by simp, fun q hq => by cases hq⟩
  | @cons e q l m s hs ha ih =>
    intro hm he
    rw [en_cons] at he
    have hl := (steps_in w.inN hs).2.2.1
    dsimp only at hl
    have h1 := d.least ha he
    have h2 := d.up _ _ _ hs
    obtain ⟨h3, h4⟩ := ih (by omega) he
    have h5 : ∀ z ∈ q :: s, D z < D e := fun z hz => by
      rcases List.mem_cons.mp hz with rfl | hz
      · omega
      · have := h4 z hz
        omega
    refine ⟨List.nodup_cons.mpr ⟨fun hz => ?_, h3⟩, h5⟩
    have := h5 e hz
    omega
/-- THE LAW of the ways: the least and the number of the shortest ones of all ways -/
theorem short_eq (w : Wf n rods) (d : Dst rods n t D) {one k : Nat} (h1 : one < n) (hk : D one < k) {S : List Wy} (hp : S.Perm (wys rods n t (0, [one])))
    (hs : S.Pairwise fun a b => ¬ lexN (b.1 :: b.2) (a.1 :: a.2) = true) : ∃ x S', S = x :: S' ∧ ((S.filter fun y => decide (y.1 = x.1)).map fun y => y.2) = sw rods n D t k one := by
  have wf : WfW n ([one] : List Nat) := ⟨by simp, by simp, fun q hq => by
    have : q = one := by simpa using hq
    subst this
    exact h1⟩
  have hsound : ∀ y ∈ S, ∃ s, y.2 = one :: s ∧ Along rods one s y.1 ∧ en (one :: s) = t := fun y hy => by
    obtain ⟨s, m, rfl, ha, hn, he⟩ := dfs_sound wf.nd wf.ne (hp.mem_iff.mp hy)
    exact ⟨s, rfl, by rw [Nat.zero_add]; exact ha, he⟩
  have hcomp : ∀ s, Along rods one s (D one) → en (one :: s) = t → (D one, one :: s) ∈ S := fun s ha he => by
    have hn := (d.nodup w ha rfl he).1
    have hlt : ∀ q ∈ one :: s, q < n := fun q hq => by
      have key : ∀ {h m s}, Along rods h s m → ∀ q ∈ s, q < n := fun {h m s} ha => by
        induction ha with
        | nil => exact fun q hq => by cases hq
        | cons hs _ ih =>
          intro q hq
          rcases List.mem_cons.mp hq with rfl | hq
          · exact (steps_in w.inN hs).2.1
          · exact ih q hq
      rcases List.mem_cons.mp hq with rfl | hq
      · exact h1
      · exact key ha q hq
    have hl := nd_le hn hlt
    rw [List.length_cons] at hl
    have := dfs_complete (rods := rods) (t := t) (k := n + 1 - 1) (x := (0, [one])) (s := s) (m := D one) (by simp) (by omega) (by exact ha) (by exact hn) (by exact he)
    rw [Nat.zero_add] at this
    exact hp.mem_iff.mpr this
  obtain ⟨y0, ys, hy0⟩ := sw_ne w d h1 hk
  obtain ⟨s0, rfl, ha0, he0⟩ := (mem_sw w d h1 hk).mp (by rw [hy0]; exact List.mem_cons_self : y0 ∈ sw rods n D t k one)
  have hm0 := hcomp s0 ha0 he0
  cases hS : S with
  | nil => rw [hS] at hm0; cases hm0
  | cons x S' =>
    refine ⟨x, S', rfl, ?_⟩
    rw [← hS]
    have hx : x ∈ S := by rw [hS]; exact List.mem_cons_self
    have ex : x.1 = D one := by
      obtain ⟨s, _, ha, he⟩ := hsound x hx
      have g1 := d.least ha he
      rw [hS] at hm0
      rcases List.mem_cons.mp hm0 with e | hm0
      · rw [← e]
      · rw [hS] at hs
        have g2 := (List.pairwise_cons.mp hs).1 _ hm0
        have g2 : ¬ (if D one = x.1 then _ else decide (D one < x.1)) = true := g2
        by_cases c : D one = x.1
        · exact c.symm
        · rw [if_neg c] at g2
          have : ¬ D one < x.1 := fun q => g2 (decide_eq_true q)
          omega
    refine asc_uniq (r := fun a b => lexN a b = true) (fun a b h => lexN_asy h) ?_ (sw_asc w) fun y => ?_
    · rw [List.pairwise_map]
      have hne : S.Pairwise fun y z => y.2 ≠ z.2 := (dfs_apart w (x := (0, [one])) wf).perm hp.symm fun h => Ne.symm h
      refine ((hs.and hne).filter _).imp_of_mem fun {a b} ha hb h => ?_
      have e1 := of_decide_eq_true (List.mem_filter.mp ha).2
      have e2 := of_decide_eq_true (List.mem_filter.mp hb).2
      obtain ⟨g1, g2⟩ := h
      rw [e1, e2, lexN_cons] at g1
      exact lexN_tot g1 g2
    · rw [List.mem_map, mem_sw w d h1 hk]
      constructor
      · rintro ⟨z, hz, rfl⟩
        obtain ⟨hz, ez⟩ := List.mem_filter.mp hz
        have ez := of_decide_eq_true ez
        obtain ⟨s, e, ha, he⟩ := hsound z hz
        exact ⟨s, e, by rw [← ex, ← ez]; exact ha, he⟩
      · rintro ⟨s, rfl, ha, he⟩
        exact ⟨(D one, one :: s), List.mem_filter.mpr ⟨hcomp s ha he, decide_eq_true ex.symm⟩, rfl⟩
/-- one step of the least way -/
theorem sw_step (w : Wf n rods) (d : Dst rods n t D) {k h : Nat} {pre post : List (Nat × Nat)} {p : Nat × Nat} (hh : h < n) (hk : D h < k + 1) (hne : h ≠ t) (e : nb rods n h = pre ++ p :: post) (hpre : ∀ q ∈ pre, q.2 + D q.1 ≠ D h)
    (hp : p.2 + D p.1 = D h) : p.1 < n ∧ D p.1 < k ∧ (sw rods n D t (k + 1) h).head? = (sw rods n D t k p.1).head?.map (h :: ·) := by
  have hs := (mem_nb w.inN).mp (by rw [e]; simp : p ∈ nb rods n h)
  obtain ⟨_, hq, hl, _⟩ := steps_in w.inN hs
  have hq : p.1 < n := hq
  have hl : 1 ≤ p.2 := hl
  obtain ⟨y, ys, hy⟩ := sw_ne (k := k) w d hq (by omega)
  refine ⟨hq, by omega, ?_⟩
  show (if h = t then [[t]] else (nb rods n h).flatMap fun p => if p.2 + D p.1 = D h then (sw rods n D t k p.1).map (h :: ·) else []).head? = _
  rw [if_neg hne, e, List.flatMap_append, List.flatMap_cons, if_pos hp, hy]
  have : pre.flatMap (fun p => if p.2 + D p.1 = D h then (sw rods n D t k p.1).map (h :: ·) else []) = [] := List.flatMap_eq_nil_iff.mpr fun q hq => if_neg (hpre q hq)
  rw [this]
  rfl
theorem sw_some (w : Wf n rods) (d : Dst rods n t D) {h : Nat} (hh : h < n) (hne : h ≠ t) : ∃ p ∈ nb rods n h, p.2 + D p.1 = D h := by
  obtain ⟨q, l, hs, c⟩ := d.dn h hh hne
  exact ⟨(q, l), (mem_nb w.inN).mpr hs, c⟩
theorem nb_lt (w : Wf n rods) {h : Nat} {p : Nat × Nat} (hp : p ∈ nb rods n h) : p.1 < n ∧ 1 ≤ p.2 := by
  have := steps_in w.inN ((mem_nb w.inN).mp hp)
  exact ⟨this.2.1, this.2.2.1⟩
end
end Lt
namespace Lt
open PySem L2
section
variable {K : PySem.W.Frag} {H H' : Hp}
/-- tuples of rods -/
def RodsAt (K : PySem.W.Frag) (H : Hp) (ts : List Addr) (rods : List Rod) : Prop := ts.length = rods.length ∧ ∀ (i : Nat) (t : Addr) (r : Rod), ts[i]? = some t → rods[i]? = some r → SqT K H t [.int (r.1 : Nat), .int (r.2.1 : Nat), .int (r.2.2 : Nat)]
/-- a net's tuple -/
def NetAt (K : PySem.W.Frag) (H : Hp) (a : Addr) (n : Nat) (rods : List Rod) : Prop := ∃ (r : Addr) (ts : List Addr), SqT K H a [.int (n : Nat), .ref r] ∧ SqT K H r (ts.map V.ref) ∧ RodsAt K H ts rods
theorem RodsAt.same {ts : List Addr} {rods : List Rod} (h : RodsAt K H ts rods) (e : Same H H') : RodsAt K H' ts rods := ⟨h.1, fun i t r a b => e.seqT (h.2 i t r a b)⟩
theorem NetAt.same {a : Addr} {n : Nat} {rods : List Rod} (h : NetAt K H a n rods) (e : Same H H') : NetAt K H' a n rods := by
  obtain ⟨r, ts, h1, h2, h3⟩ := h
  exact ⟨r, ts, e.seqT h1, e.seqT h2, h3.same e⟩
/-- the i-th of a tuple of addresses -/
theorem RodsAt.at {ts : List Addr} {rods : List Rod} (h : RodsAt K H ts rods) {i : Nat} {x : V} (hx : (ts.map V.ref)[i]? = some x) : ∃ (t : Addr) (r : Rod), x = .ref t ∧ ts[i]? = some t ∧ rods[i]? = some r ∧ SqT K H t [.int (r.1 : Nat), .int (r.2.1 : Nat), .int (r.2.2 : Nat)] := by
  rw [List.getElem?_map] at hx
  cases e : ts[i]? with
  | none => rw [e] at hx; cases hx
  | some t =>
    rw [e] at hx
    have hl : i < rods.length := by
      have := (List.getElem?_eq_some_iff.mp e).1
      rw [h.1] at this
      exact this
    exact ⟨t, rods[i], (Option.some.inj hx).symm, rfl, List.getElem?_eq_getElem hl, h.2 i t _ e (List.getElem?_eq_getElem hl)⟩
theorem RodsAt.len {ts : List Addr} {rods : List Rod} (h : RodsAt K H ts rods) : (ts.map V.ref).length = rods.length := by rw [List.length_map, h.1]
/-- ints of numbers -/
abbrev iv (n : Nat) : V := .int (n : Int)
theorem inV_iv (a : Nat) (S : List Nat) : inV (iv a) (S.map iv) = decide (a ∈ S) := by
  unfold inV
  induction S with
  | nil => simp
  | cons b S ih =>
    rw [List.map_cons, List.any_cons, ih]
    show ((b : Int) == (a : Int) || decide (a ∈ S)) = decide (a ∈ b :: S)
    by_cases e : a = b
    · subst e
      simp
    · have h1 : ((b : Int) == (a : Int)) = false := by simp; omega
      rw [h1]
      simp [e]
theorem flat_iv (S : List Nat) : (S.map iv).all flatV = true := by
  simp [flatV]
theorem sizeS {n : Nat} (h : n < 16777216) : n < sizeLine := Nat.lt_of_lt_of_le h (by decide)
theorem sizeL {n : Nat} (h : n ≤ 16777216) : n ≤ sizeLine := Nat.le_trans h (by decide)
theorem sub_len : ∀ {l S : List Nat}, l.Nodup → (∀ z ∈ l, z ∈ S) → l.length ≤ S.length
  | [], _, _, _ => Nat.zero_le _
  | a :: l, S, hn, h => by
    obtain ⟨ha, hl⟩ := List.nodup_cons.mp hn
    have h1 : a ∈ S := h a List.mem_cons_self
    have := sub_len (l := l) (S := S.erase a) hl fun z hz => (List.mem_erase_of_ne (show z ≠ a from fun e => ha (by rw [← e]; exact hz))).mpr (h z (List.mem_cons_of_mem _ hz))
    rw [List.length_erase_of_mem h1] at this
    have := List.length_pos_of_mem h1
    rw [List.length_cons]
    omega
theorem iv_inj {a b : Nat} : iv a = iv b ↔ a = b := by
  constructor
  · intro h
    have := V.int.inj h
    omega
  · intro h
    rw [h]
end
end Lt
namespace Lt
open PySem L2 PyProof.Rows
section
variable {P : Program} {w : World} {K : PySem.W.Frag} {mg : Str → Option Value} {base : Heap}
def spNeedNet (K : PySem.W.Frag) : Sp := fun vs H Q _ => ∃ (a : Addr) (n : Nat) (rods : List Rod), vs = [.ref a] ∧ Wf n rods ∧ NetAt K H a n rods ∧ ∀ H', Same H H' → Q .non H'
theorem ok_needNet (T : Txt K mg) : OkOf P w K mg base 3 "need_net" ["value"] (spNeedNet K) := okOf T.needNet fun f fd F => by
  obtain ⟨fw, fdw, Gw, mw, kw, bw⟩ := ok_within (P := P) (w := w) (base := base) T
  obtain ⟨ft, fdt, Gt, mt, kt, bt⟩ := ok_tupleOf (P := P) (w := w) (base := base) T
  obtain ⟨fr, fdr, Gr, mr, kr, br⟩ := ok_isRod (P := P) (w := w) (base := base) T
  obtain ⟨tk, mP⟩ := T.mostP
  refine F.ok scNeedNet (fun vs H Q E h => ?_) (fun cdv A outer s H vs Q E hr h => ?_)
  · obtain ⟨a, n, rods, rfl, _⟩ := h
    rfl
  · obtain ⟨a, n, rods, rfl, wf, ⟨r, ts, hA, hR, hT⟩, q⟩ := h
    have hr1 : Room 1 _ := hr.mono (by decide)
    have nd := scNeedNet.nd
    refine ⟨_, pss_cons (ps_if (PW.pt (pw_or (pt_not (pt_val (pe_call Gt hr1 (by rfl) mt kt bt .nil pass0 (pa_cons (pv 0) (pa_cons pe_int (pa_cons pe_int pa_nil))))))
        (pw_or (pt_not (pt_val (pe_call Gw hr (by rfl) mw kw bw .nil pass0 (pa_cons (pe_ix ix_tup (pv 0) pe_int (fun _ _ => rfl)) (pa_cons pe_int (pa_cons (pe_glob (v := .int 8) rfl mP ⟨_, rfl⟩) pa_nil))))))
        (pw_or1 (pt_not (pt_val (pe_call Gt hr1 (by rfl) mt kt bt .nil pass0 (pa_cons (pe_ix ix_tup (pv 0) pe_int (fun _ _ => rfl)) (pa_cons pe_int (pa_cons pe_int pa_nil)))))))))) pss_never pss_nil)
      (pss_cons (ps_asg (pv 0) (pg_tup (by rfl) (pgs_cons (pg_name (i := 1) nd rfl (.inl rfl)) (pgs_cons (pg_name (i := 2) nd rfl (.inl rfl)) pgs_nil))))
      (pss_cons (ps_for PassesOwn.never rfl (pi_enumT rfl T.bEnumerate (pa_cons (pv 2) pa_nil)) (pg_tup (by rfl) (pgs_cons (pg_name (i := 3) nd rfl (.inl rfl)) (pgs_cons (pg_name (i := 4) nd rfl (.inl rfl)) pgs_nil)))
        (pss_one (ps_if (PW.pt (pw_or (pt_not (pt_val (pe_call Gr hr (by rfl) mr kr br .nil pass0 (pa_cons (pv 1) (pa_cons (pv 4) pa_nil)))))
          (pw_or1 (PW.pt (pw_and (pt_cmpR op_gt (pv 3) pe_int (nomark _)) (pw_and1 (pt_cmpR (op_leT hr.units0) (pe_slice sl_tupA (pv 4) po_none (po_some pe_int))
            (pe_slice sl_tupA (pe_ix ix_tup (pv 2) (pe_op op_sub (pv 3) pe_int) (fun _ _ => rfl)) po_none (po_some pe_int)) (nomark _)))))))) pss_never pss_nil)))
      (pss_cons (ps_set (i := 5) nd rfl (.inl rfl) (pe_lst (pa_cons pe_int pa_nil)))
      (pss_cons (ps_for PassesOwn.never rfl (pi_range1 rfl T.bRange (pa_cons (pv 1) pa_nil)) (pg_name (i := 6) nd rfl (.inl rfl))
        (pss_one (ps_for PassesOwn.never rfl (pi_tup (pv 2)) (pg_tup (by rfl) (pgs_cons (pg_name (i := 7) nd rfl (.inl rfl)) (pgs_cons (pg_name (i := 8) nd rfl (.inl rfl)) (pgs_cons (pg_name (i := 9) nd rfl (.inl rfl)) pgs_nil))))
          (pss_one (ps_if (pt_cmpR op_ne (pe_cmpR op_in_seq (pv 7) (pv 5) (by rfl)) (pe_cmpR op_in_seq (pv 8) (pv 5) (by rfl)) (nomark _))
            (pss_one (ps_expr (pe_bm PySem.F.plainAttrs_list PySem.F.slot_list_append PySem.F.type_list_append mt_append (pv 5) (pa_cons (pe_ifExp (pt_cmpR op_in_seq (pv 7) (pv 5) (by rfl)) (pv 8) (pv 7)) pa_nil)))) pss_nil)))))
      (pss_one (ps_if (pt_cmpR op_lt (pe_callB call_len_seq (by rfl) T.bLen PySem.boot_len (pa_cons (pv 5) pa_nil)) (pv 1) (nomark _)) pss_never pss_nil)))))), ?_⟩
    have hn1 := wf.n1
    have hn6 := wf.n6
    have hfew := wf.few
    -- the first test
    refine ⟨_, rfl, a, _, 2, 2, rfl, hA, (by show (2 : Int) ≤ 2; decide), (by show (2 : Int) ≤ 2; decide), true, rfl, iteF ?_⟩
    refine ⟨_, rfl, a, _, 0, _, rfl, rfl, hA, rfl, (n : Int), 1, 8, rfl, _, rfl, ?_⟩
    have e1 : decide ((1 : Int) ≤ (n : Int) ∧ (n : Int) ≤ 8) = true := decide_eq_true (by omega)
    rw [e1]
    refine iteF ?_
    refine ⟨_, rfl, a, _, 1, .ref r, rfl, rfl, hA, rfl, r, _, 0, 28, rfl, hR, Int.natCast_nonneg _, (by rw [hT.len]; omega), true, rfl, iteF ?_⟩
    -- many, rods = value
    refine ⟨_, rfl, a, _, rfl, hA, rfl, _, _, rfl, _, _, rfl, rfl, ?_⟩
    -- the rods ascend
    refine ⟨_, rfl, r, _, rfl, hR, for_enumT (K := K) (a := r) (xs := ts.map V.ref) (fun i σ H' => ∃ v3 v4 : Option V, σ = [some (.ref a), some (iv n), some (.ref r), v3, v4, none, none, none, none, none] ∧ Same H H')
      ⟨none, none, rfl, Same.refl H⟩ (fun i σ H' _ p => by obtain ⟨_, _, _, p⟩ := p; exact p.seqT hR) ?_ ?_⟩
    · rintro i x T' σ H' hx ⟨v3, v4, rfl, sm⟩ hT'
      obtain ⟨t, ⟨ra, rb, rl⟩, rfl, ht, hrod, hS⟩ := hT.at hx
      have hok := wf.ok _ (List.mem_of_getElem? hrod)
      dsimp only at hok hS
      have sm1 : Same H' (upd H' T' (.tup [.int (i : Nat), .ref t])) := same_new hT'
      refine ⟨T', _, rfl, SqT.of upd_same, rfl, _, _, rfl, _, _, rfl, rfl, ?_⟩
      have sm2 := sm.trans sm1
      refine ⟨_, rfl, _, rfl, t, (n : Int), (ra : Int), (rb : Int), (rl : Int), rfl, sm2.seqT hS, by omega, by omega, by omega, by omega, by omega, fun H1 sm3 => ⟨true, rfl, iteF ?_⟩⟩
      have sm4 := sm2.trans sm3
      refine ⟨_, rfl, (i : Int), 0, rfl, rfl, _, rfl, ite2 (fun c => ?_) (fun c => ?_)⟩
      · have hi0 : 0 < i := by
          have : (0 : Int) < (i : Int) := of_decide_eq_true c
          omega
        obtain ⟨j, rfl⟩ : ∃ j, i = j + 1 := ⟨i - 1, by omega⟩
        have hjl : j < ts.length := by
          have := (List.getElem?_eq_some_iff.mp ht).1
          omega
        obtain ⟨t', ⟨ra', rb', rl'⟩, e', ht', hrod', hS'⟩ := hT.at (i := j) (x := .ref ts[j]) (by rw [List.getElem?_map, List.getElem?_eq_getElem hjl]; rfl)
        have e'' : ts[j] = t' := V.ref.inj e'
        refine ⟨_, rfl, 2, rfl, t, _, rfl, sm4.seqT hS, fun z => absurd z.2 (by show ¬ (2 : Nat) = 3; decide), fun _ p hp => ?_⟩
        have sm5 := sm4.trans (same_new (o := .tup [.int (ra : Nat), .int (rb : Nat)]) hp)
        refine ⟨_, rfl, _, rfl, ((j + 1 : Nat) : Int), 1, rfl, rfl, r, _, _, .ref ts[j], rfl, rfl, sm5.seqT hR, at_of (j := j) (by omega) (by rw [List.getElem?_map, List.getElem?_eq_getElem hjl]; rfl), 2, rfl, ts[j], _, rfl, by rw [e'']; exact sm5.seqT hS', fun z => absurd z.2 (by show ¬ (2 : Nat) = 3; decide), fun _ p' hp' => ?_⟩
        have q1 := (same_new (o := .tup [.int (ra' : Nat), .int (rb' : Nat)]) hp') _ _ (upd_same (H := H1) (a := p) (o := .tup [.int (ra : Nat), .int (rb : Nat)]))
        refine ⟨p, p', [(ra : Int), (rb : Int)], [(ra' : Int), (rb' : Int)], rfl, rfl, SqT.of q1, SqT.of upd_same, _, rfl, ?_⟩
        have hasc : ra' < ra ∨ (ra' = ra ∧ rb' < rb) := by
          have h1 := List.getElem?_eq_some_iff.mp hrod'
          have h2 := List.getElem?_eq_some_iff.mp hrod
          obtain ⟨h1, h1'⟩ := h1
          obtain ⟨h2, h2'⟩ := h2
          have := (List.pairwise_iff_getElem.mp wf.asc) j (j + 1) h1 h2 (by omega)
          rw [h1', h2'] at this
          exact this
        have e3 : Ob.lexAt (fun j => decide (([(ra : Int), (rb : Int)]).getD j 0 = ([(ra' : Int), (rb' : Int)]).getD j 0)) (fun j => decide (([(ra : Int), (rb : Int)]).getD j 0 ≤ ([(ra' : Int), (rb' : Int)]).getD j 0)) (decide (([(ra : Int), (rb : Int)]).length ≤ ([(ra' : Int), (rb' : Int)]).length)) 0 (min ([(ra : Int), (rb : Int)]).length ([(ra' : Int), (rb' : Int)]).length) = false := by
          show (if decide ((ra : Int) = (ra' : Int)) = true then (if decide ((rb : Int) = (rb' : Int)) = true then _ else decide ((rb : Int) ≤ (rb' : Int))) else decide ((ra : Int) ≤ (ra' : Int))) = false
          by_cases c1 : (ra : Int) = (ra' : Int)
          · rw [if_pos (decide_eq_true c1), if_neg (by simp; omega)]
            exact decide_eq_false (by omega)
          · rw [if_neg (by simpa using c1)]
            exact decide_eq_false (by omega)
        rw [e3]
        refine iteF ?_
        exact ⟨_, _, rfl, (sm5.trans (same_new hp'))⟩
      · exact iteF ⟨_, _, rfl, sm4⟩
    · rintro σ H0 ⟨v3, v4, rfl, sm0⟩
      -- seen = [0]
      refine ⟨(by show 1 ≤ sizeLine; decide), fun S0 hS0 => ?_⟩
      have smS : Same H (upd H0 S0 (.lst [.int 0])) := sm0.mut (sm0.free hS0)
      have hfree := sm0.free hS0
      refine ⟨_, rfl, (n : Int), rfl, by omega, by omega, for_range (lo := 0) (n := (n : Int).toNat) (fun k σ H' => ∃ (v6 v7 v8 v9 : Option V) (S : List Nat), σ = [some (.ref a), some (iv n), some (.ref r), v3, v4, some (.ref S0), v6, v7, v8, v9] ∧ Same H H' ∧ H' S0 = some (.lst (S.map iv)) ∧ (∀ j, j ≤ k → j < n → j ∈ S) ∧ S.length ≤ 1 + k * 8)
        ⟨none, none, none, none, [0], rfl, smS, upd_same, fun j hj _ => List.mem_singleton.mpr (Nat.le_zero.mp hj), Nat.le_refl _⟩ ?_ ?_⟩
      · rintro k σ H' hk ⟨v6, v7, v8, v9, S, rfl, sm, hS, hin, hlen⟩
        have hkn : k < n := by omega
        refine ⟨_, rfl, r, rfl, ⟨_, sm.seqT hR⟩, for_tup (K := K) (a := r) (xs := ts.map V.ref) (fun q σ H' => ∃ (v7 v8 v9 : Option V) (S : List Nat), σ = [some (.ref a), some (iv n), some (.ref r), v3, v4, some (.ref S0), some (.int (0 + (k : Int))), v7, v8, v9] ∧ Same H H' ∧ H' S0 = some (.lst (S.map iv)) ∧ (∀ j, j ≤ k → j < n → j ∈ S) ∧
            (∀ (p : Nat) (a b l : Nat), p < q → rods[p]? = some (a, b, l) → a ≤ k → b ∈ S) ∧ S.length ≤ 1 + k * 8 + q)
          ⟨v7, v8, v9, S, rfl, sm, hS, hin, fun p _ _ _ hp => absurd hp (Nat.not_lt_zero p), by omega⟩ (fun i σ H' _ p => by obtain ⟨_, _, _, _, _, p, _⟩ := p; exact p.seqT hR) ?_ ?_⟩
        · rintro q x σ H' hx ⟨v7, v8, v9, S, rfl, sm, hS, hin, hdone, hlen⟩
          obtain ⟨t, ⟨ra, rb, rl⟩, rfl, ht, hrod, hTt⟩ := hT.at hx
          have hok := wf.ok _ (List.mem_of_getElem? hrod)
          dsimp only at hok hTt
          have hq8 : q < 8 := by
            have := (List.getElem?_eq_some_iff.mp hrod).1
            omega
          refine ⟨t, _, rfl, sm.seqT hTt, rfl, _, _, rfl, _, _, rfl, _, _, rfl, rfl, ?_⟩
          have sq : SqL K H' S0 (S.map iv) := SqL.of hS
          refine ⟨_, rfl, _, rfl, S0, _, rfl, .inl sq, rfl, flat_iv S, _, rfl, _, rfl, S0, _, rfl, .inl sq, rfl, flat_iv S, rfl, _, rfl, ?_⟩
          show if (!decide (V.bl (inV (iv ra) (S.map iv)) = V.bl (inV (iv rb) (S.map iv)))) = true then _ else _
          rw [inV_iv, inV_iv]
          refine ite2 (fun c => ?_) (fun c => ?_)
          · refine ⟨_, rfl, .inl ⟨rfl, _, sq⟩, _, rfl, _, rfl, S0, _, rfl, .inl sq, rfl, flat_iv S, _, rfl, ?_⟩
            show if (if false = true then !(inV (iv ra) (S.map iv)) else inV (iv ra) (S.map iv)) = true then _ else _
            rw [if_neg (by decide : ¬ false = true), inV_iv]
            have next : ∀ z : Nat, (ra ≤ k → rb = z) → ∃ (v7 v8 v9 : Option V) (S' : List Nat), [some (V.ref a), some (iv n), some (.ref r), v3, v4, some (.ref S0), some (.int (0 + (k : Int))), some (iv ra), some (iv rb), some (iv rl)] = [some (.ref a), some (iv n), some (.ref r), v3, v4, some (.ref S0), some (.int (0 + (k : Int))), v7, v8, v9] ∧
                Same H (upd H' S0 (.lst (S.map iv ++ [iv z]))) ∧ (upd H' S0 (.lst (S.map iv ++ [iv z]))) S0 = some (.lst (S'.map iv)) ∧ (∀ j, j ≤ k → j < n → j ∈ S') ∧ (∀ (p : Nat) (a b l : Nat), p < q + 1 → rods[p]? = some (a, b, l) → a ≤ k → b ∈ S') ∧ S'.length ≤ 1 + k * 8 + (q + 1) := fun z hz => by
              refine ⟨_, _, _, S ++ [z], rfl, sm.mut hfree, by rw [upd_same, List.map_append]; rfl, fun j h1 h2 => List.mem_append_left _ (hin j h1 h2), fun p a b l hp hr' ha => ?_, by rw [List.length_append, List.length_singleton]; omega⟩
              by_cases e : p = q
              · subst e
                rw [hrod] at hr'
                cases hr'
                rw [hz ha]
                simp
              · exact List.mem_append_left _ (hdone p a b l (by omega) hr' ha)
            have hsz : (S.map iv).length < sizeLine := by rw [List.length_map]; exact sizeS (by omega)
            refine ite2 (fun c2 => ?_) (fun c2 => ?_)
            · have c2 : ra ∈ S := of_decide_eq_true c2
              refine ⟨_, rfl, S0, _, _, rfl, rfl, hS, hsz, ?_⟩
              exact next rb (fun _ => rfl)
            · have c2 : ¬ ra ∈ S := fun z => c2 (decide_eq_true z)
              refine ⟨_, rfl, S0, _, _, rfl, rfl, hS, hsz, ?_⟩
              exact next ra (fun ha => absurd (hin ra ha (by omega)) c2)
          · have c : decide (ra ∈ S) = decide (rb ∈ S) := by
              have c : decide (V.bl (decide (ra ∈ S)) = V.bl (decide (rb ∈ S))) = true := by simpa using c
              exact V.bl.inj (of_decide_eq_true c)
            refine ⟨_, _, _, S, rfl, sm, hS, hin, fun p a b l hp hr' ha => ?_, by omega⟩
            by_cases e : p = q
            · subst e
              rw [hrod] at hr'
              cases hr'
              have := hin ra ha (by omega)
              rw [decide_eq_true this] at c
              exact of_decide_eq_true c.symm
            · exact hdone p a b l (by omega) hr' ha
        · rintro σ H' ⟨v7, v8, v9, S, rfl, sm, hS, hin, hdone, hlen⟩
          refine ⟨_, _, _, _, S, rfl, sm, hS, fun j hj hjn => ?_, by rw [hT.len] at hlen; omega⟩
          by_cases e : j ≤ k
          · exact hin j e hjn
          · have e : j = k + 1 := by omega
            subst e
            obtain ⟨p, l, hp, hr'⟩ := wf.tree (k + 1) (by omega) hjn
            obtain ⟨i, hi, ei⟩ := List.getElem_of_mem hr'
            exact hdone i p (k + 1) l (by rw [hT.len]; exact hi) (by rw [List.getElem?_eq_getElem hi, ei]) (by omega)
      · rintro σ H' ⟨v6, v7, v8, v9, S, rfl, sm, hS, hin, hlen⟩
        refine ⟨_, rfl, S0, _, rfl, .inl (SqL.of hS), _, rfl, _, (n : Int), rfl, rfl, _, rfl, ?_⟩
        have hge : n ≤ S.length := by
          have key : (List.range n).length ≤ S.length := by
            exact sub_len List.nodup_range fun z hz => hin z (by have := List.mem_range.mp hz; omega) (List.mem_range.mp hz)
          rw [List.length_range] at key
          exact key
        have e5 : decide (((S.map iv).length : Int) < (n : Int)) = false := decide_eq_false (by rw [List.length_map]; omega)
        show if decide (((S.map iv).length : Int) < (n : Int)) = true then _ else _
        rw [e5]
        exact iteF (q _ sm)
end
end Lt
namespace Lt
open PySem L2 PyProof.Rows
section
variable {K : PySem.W.Frag} {H H' H0 : Hp}
def rowV (n : Nat) (f : Nat → Nat) : List V := (List.range n).map fun j => iv (f j)
theorem rowV_len (n : Nat) (f : Nat → Nat) : (rowV n f).length = n := by rw [rowV, List.length_map, List.length_range]
theorem rowV_get {n j : Nat} {f : Nat → Nat} (h : j < n) : (rowV n f)[j]? = some (iv (f j)) := by
  rw [rowV, List.getElem?_map, List.getElem?_range h]
  rfl
theorem rowV_congr {n : Nat} {f g : Nat → Nat} (h : ∀ j, j < n → f j = g j) : rowV n f = rowV n g := by
  unfold rowV
  exact List.map_congr_left fun j hj => by rw [h j (List.mem_range.mp hj)]
theorem rowV_set {n i j z : Nat} {T : Tab} (h : j < n) : (rowV n (T i)).set j (iv z) = rowV n (upT T i j z i) := by
  refine List.ext_getElem? fun k => ?_
  by_cases hk : k < n
  · rw [rowV_get hk, List.getElem?_set]
    by_cases e : j = k
    · subst e
      rw [if_pos rfl, rowV_len, if_pos hk]
      unfold upT
      rw [if_pos ⟨rfl, rfl⟩]
    · rw [if_neg e, rowV_get hk]
      unfold upT
      rw [if_neg (fun q => e q.2.symm)]
  · rw [List.getElem?_eq_none (by rw [List.length_set, rowV_len]; omega), List.getElem?_eq_none (by rw [rowV_len]; omega)]
/-- a table: a list of lists of numbers -/
structure TabAt (H : Hp) (p : Addr) (rs : List Addr) (n : Nat) (T : Tab) : Prop where
  lst : H p = some (.lst (rs.map V.ref))
  len : rs.length = n
  nd : rs.Nodup
  np : p ∉ rs
  row : ∀ (i : Nat) (r : Addr), rs[i]? = some r → H r = some (.lst (rowV n (T i)))
theorem TabAt.same {p : Addr} {rs : List Addr} {n : Nat} {T : Tab} (h : TabAt H p rs n T) (e : Same H H') : TabAt H' p rs n T := ⟨e _ _ h.lst, h.len, h.nd, h.np, fun i r hr => e _ _ (h.row i r hr)⟩
theorem TabAt.congr {p : Addr} {rs : List Addr} {n : Nat} {T U : Tab} (h : TabAt H p rs n T) (e : ∀ i j, i < n → j < n → T i j = U i j) : TabAt H p rs n U := ⟨h.lst, h.len, h.nd, h.np, fun i r hr => by
  rw [h.row i r hr, rowV_congr fun j hj => e i j (by have := (List.getElem?_eq_some_iff.mp hr).1; rw [h.len] at this; exact this) hj]⟩
/-- a table that is new since H0 -/
structure TabIn (H0 H : Hp) (p : Addr) (rs : List Addr) (n : Nat) (T : Tab) : Prop extends TabAt H p rs n T where
  sm : Same H0 H
  p0 : H0 p = none
  r0 : ∀ r ∈ rs, H0 r = none
theorem TabIn.set {p : Addr} {rs : List Addr} {n i j z : Nat} {T : Tab} (h : TabIn H0 H p rs n T) (hj : j < n) {r : Addr} (hr : rs[i]? = some r) : TabIn H0 (upd H r (.lst ((rowV n (T i)).set j (iv z)))) p rs n (upT T i j z) where
  lst := by rw [upd_ne fun e => h.np (by rw [e]; exact List.mem_of_getElem? hr)]; exact h.lst
  len := h.len
  nd := h.nd
  np := h.np
  row := fun k q hq => by
    by_cases e : k = i
    · subst e
      rw [hr] at hq
      cases hq
      rw [upd_same, rowV_set hj]
    · have ne : q ≠ r := fun z => by
        subst z
        exact e (nd_ix h.nd hq hr)
      rw [upd_ne ne, h.row k q hq]
      have : upT T i j z k = T k := by
        funext y
        unfold upT
        rw [if_neg (fun q => e q.1)]
      rw [this]
  sm := h.sm.mut (h.r0 r (List.mem_of_getElem? hr))
  p0 := h.p0
  r0 := h.r0
theorem TabAt.get {p : Addr} {rs : List Addr} {n i : Nat} {T : Tab} (h : TabAt H p rs n T) (hi : i < n) : ∃ r, rs[i]? = some r ∧ (rs.map V.ref)[i]? = some (.ref r) ∧ H r = some (.lst (rowV n (T i))) := by
  have hl : i < rs.length := by rw [h.len]; exact hi
  exact ⟨rs[i], List.getElem?_eq_getElem hl, by rw [List.getElem?_map, List.getElem?_eq_getElem hl]; rfl, h.row i _ (List.getElem?_eq_getElem hl)⟩
/-- found[a][b] -/
theorem tab_read {σ : L2.St} {Q : VK} {f a b i j : Nat} {p : Addr} {rs : List Addr} {n : Nat} {T : Tab} (h : TabAt H p rs n T) (hf : σ[f]? = some (some (.ref p))) (ha : σ[a]? = some (some (iv i))) (hb : σ[b]? = some (some (iv j))) (hi : i < n) (hj : j < n) (q : Q (iv (T i j)) H) :
    tOp (rIxL K) (tOp (rIxL K) (tVar f) (tVar a)) (tVar b) σ H Q := by
  obtain ⟨r, h1, h2, h3⟩ := h.get hi
  exact ⟨_, hf, _, ha, p, _, _, _, rfl, rfl, SqL.of h.lst, atI_nat h2, _, hb, r, _, _, _, rfl, rfl, SqL.of h3, atI_nat (rowV_get hj), q⟩
/-- found[a][b] = z -/
theorem tab_write {σ : L2.St} {Q : L2.St → Hp → Prop} {f a b i j z : Nat} {v : V} {p : Addr} {rs : List Addr} {n : Nat} {T : Tab} (h : TabIn H0 H p rs n T) (hf : σ[f]? = some (some (.ref p))) (ha : σ[a]? = some (some (iv i))) (hb : σ[b]? = some (some (iv j))) (hi : i < n) (hj : j < n) (hv : v = iv z)
    (q : ∀ H', TabIn H0 H' p rs n (upT T i j z) → Q σ H') : gSub (tOp (rIxL K) (tVar f) (tVar a)) (tVar b) rSetL v σ H Q := by
  obtain ⟨r, h1, h2, h3⟩ := h.get hi
  subst hv
  refine ⟨_, hf, _, ha, p, _, _, _, rfl, rfl, SqL.of h.lst, atI_nat h2, _, hb, r, _, _, j, rfl, rfl, h3, ?_, q _ (h.set hj h1)⟩
  rw [rowV_len]
  unfold ixN
  rw [if_pos (by omega), if_pos (by omega), Int.toNat_natCast]
theorem min_iv (x y : Nat) : (if ((y : Nat) : Int) < ((x : Nat) : Int) then ((y : Nat) : Int) else ((x : Nat) : Int)) = ((min x y : Nat) : Int) := by
  split <;> omega
end
theorem nx_seq {t u : TS} {D : Ends} {σ : L2.St} {H : Hp} (h : t { D with nx := u D } σ H) : tSeq t u D σ H := h
theorem asg_ {te : TE} {g : TG} {D : Ends} {σ : L2.St} {H : Hp} (h : te σ H fun x H1 => g x σ H1 D.nx) : tAsg te g D σ H := h
theorem yes_then {σ : L2.St} {H : Hp} {A B : Hp → Prop} (h : A H) : tYes σ H (fun b H3 => if b = true then A H3 else B H3) := by
  show if true = true then A H else B H
  rw [if_pos rfl]
  exact h
/-- [[0 if a == b else c for b in range(many)] for a in range(many)] -/
theorem tab_init {σ : L2.St} {H : Hp} {Q : VK} {m s1 s2 n c : Nat} (hm : σ[m]? = some (some (iv n))) (h1 : s1 < σ.length) (h2 : s2 < σ.length) (h12 : s1 ≠ s2) (m1 : m ≠ s1) (m2 : m ≠ s2) (hn : n ≤ 1000)
    (q : ∀ (p : Addr) (rs : List Addr) (H' : Hp), TabIn H H' p rs n (fun i j => if i = j then 0 else c) → Q (.ref p) H') :
    tLc (iRng1 (tCons (tVar m) tNil)) (gName s1) tYes (tLc (iRng1 (tCons (tVar m) tNil)) (gName s2) tYes (tIf (tTest (tOp rEq (tVar s1) (tVar s2))) (tC (.int 0)) (tC (.int (c : Nat)))) [s2]) [s1] σ H Q := by
  refine ⟨_, hm, (n : Int), rfl, by omega, by omega, fun D hD => ?_⟩
  refine lc_range (lo := 0) (n := (n : Int).toNat) (fun i H' => Same H H' ∧ ∃ rs : List Addr, rs.length = i ∧ H' D = some (.lst (rs.map V.ref)) ∧ rs.Nodup ∧ D ∉ rs ∧ (∀ r ∈ rs, H r = none) ∧ ∀ (k : Nat) (r : Addr), rs[k]? = some r → H' r = some (.lst (rowV n fun j => if k = j then 0 else c)))
    ⟨same_new hD, [], rfl, upd_same, List.nodup_nil, List.not_mem_nil, fun r hr => absurd hr List.not_mem_nil, fun k r hr => absurd (List.mem_of_getElem? hr) List.not_mem_nil⟩ ?_ ?_
  · rintro i H' hi ⟨sm, rs, hl, hL, hnd, hDn, hr0, hrow⟩
    have w1 : wipe σ [s1] = σ.set s1 none := rfl
    have ei : (0 : Int) + ((i : Nat) : Int) = ((i : Nat) : Int) := by omega
    show gName s1 _ _ _ _
    refine ⟨?_, ?_⟩
    · show ((σ.set s1 none).set s1 _).set s1 none = σ.set s1 none
      rw [List.set_set, List.set_set]
    refine yes_then ?_
    rw [w1, ei, List.set_set]
    have hm' : (σ.set s1 (some (iv i)))[m]? = some (some (iv n)) := by rw [List.getElem?_set_ne (Ne.symm m1)]; exact hm
    refine ⟨_, hm', (n : Int), rfl, by omega, by omega, fun D2 hD2 => ?_⟩
    have hD2H : H D2 = none := sm.free hD2
    have hD2D : D2 ≠ D := fun e => by
      rw [e, hL] at hD2
      cases hD2
    refine lc_range (lo := 0) (n := (n : Int).toNat) (fun j H2 => Same H' H2 ∧ H2 D2 = some (.lst (rowV j fun o => if i = o then 0 else c))) ⟨same_new hD2, upd_same⟩ ?_ ?_
    · rintro j H2 hj ⟨sm2, hrow2⟩
      have ej : (0 : Int) + ((j : Nat) : Int) = ((j : Nat) : Int) := by omega
      refine ⟨?_, ?_⟩
      · show (((σ.set s1 (some (iv i))).set s2 none).set s2 _).set s2 none = (σ.set s1 (some (iv i))).set s2 none
        rw [List.set_set, List.set_set]
      have w2 : wipe (σ.set s1 (some (iv i))) [s2] = (σ.set s1 (some (iv i))).set s2 none := rfl
      refine yes_then ?_
      rw [w2, ej, List.set_set]
      have hx : ((σ.set s1 (some (iv i))).set s2 (some (iv j)))[s1]? = some (some (iv i)) := by
        rw [List.getElem?_set_ne (Ne.symm h12), List.getElem?_set_self h1]
      have hy : ((σ.set s1 (some (iv i))).set s2 (some (iv j)))[s2]? = some (some (iv j)) := by
        rw [List.getElem?_set_self (by rw [List.length_set]; exact h2)]
      refine ⟨_, hx, _, hy, rfl, _, rfl, ?_⟩
      have step : ∀ z : Nat, z = (if i = j then 0 else c) → ∃ acc, H2 D2 = some (.lst acc) ∧ acc.length < sizeLine ∧ Same H' (upd H2 D2 (.lst (acc ++ [iv z]))) ∧ (upd H2 D2 (.lst (acc ++ [iv z]))) D2 = some (.lst (rowV (j + 1) fun o => if i = o then 0 else c)) := fun z hz => by
        refine ⟨_, hrow2, by rw [rowV_len]; exact sizeS (by omega), sm2.mut hD2, ?_⟩
        rw [upd_same, hz]
        unfold rowV
        rw [List.range_succ, List.map_append]
        rfl
      refine ite2 (fun e => ?_) (fun e => ?_)
      · have e : iv i = iv j := of_decide_eq_true e
        exact step 0 (by rw [if_pos (iv_inj.mp e)])
      · exact step c (by rw [if_neg fun z => e (decide_eq_true (by rw [z]))])
    · rintro H2 ⟨sm2, hrow2⟩
      have ne : D ≠ D2 := Ne.symm hD2D
      refine ⟨_, sm2 _ _ hL, ?_, (sm.trans sm2).mut hD, rs ++ [D2], ?_, ?_, ?_, ?_, ?_, ?_⟩
      · rw [List.length_map, hl]
        exact sizeS (by omega)
      · rw [List.length_append, hl, List.length_singleton]
      · rw [upd_same, List.map_append]
        rfl
      · refine List.nodup_append.mpr ⟨hnd, by simp, fun a ha b hb e => ?_⟩
        have : b = D2 := by simpa using hb
        subst this
        subst e
        obtain ⟨k, hk, ek⟩ := List.getElem_of_mem ha
        have := hrow k a (by rw [List.getElem?_eq_getElem hk, ek])
        rw [hD2] at this
        cases this
      · intro hm
        rcases List.mem_append.mp hm with hm | hm
        · exact hDn hm
        · exact hD2D (List.mem_singleton.mp hm).symm
      · intro r hr
        rcases List.mem_append.mp hr with hr | hr
        · exact hr0 r hr
        · rw [List.mem_singleton.mp hr]
          exact hD2H
      · intro k r hr
        have hrD : r ≠ D := fun e => by
          subst e
          have := List.mem_of_getElem? hr
          rcases List.mem_append.mp this with hm | hm
          · exact hDn hm
          · exact hD2D (List.mem_singleton.mp hm).symm
        rw [upd_ne hrD]
        by_cases hk : k < rs.length
        · rw [List.getElem?_append_left hk] at hr
          exact sm2 _ _ (hrow k r hr)
        · rw [List.getElem?_append_right (by omega)] at hr
          have hk0 : k - rs.length = 0 := by
            have := (List.getElem?_eq_some_iff.mp hr).1
            rw [List.length_singleton] at this
            omega
          rw [hk0] at hr
          have : r = D2 := (Option.some.inj hr).symm
          subst this
          have : k = i := by omega
          subst this
          rw [hrow2, Int.toNat_natCast]
  · rintro H' ⟨sm, rs, hl, hL, hnd, hDn, hr0, hrow⟩
    exact q D rs H' ⟨⟨hL, by rw [hl, Int.toNat_natCast], hnd, hDn, hrow⟩, sm, hD, hr0⟩
end Lt
namespace Lt
open PySem L2 PyProof.Rows
/-- the scope of a comprehension that a statement stores -/
def lcSc (st : Stmt) : Scope := match st with
  | .Assign _ (.ListComp _ _ sc _) _ => sc
  | _ => { kind := .function, names := [], isGenerator := false, isCoroutine := false }
section
variable {P : Program} {w : World} {K : PySem.W.Frag} {mg : Str → Option Value} {base : Heap}
def spTable (K : PySem.W.Frag) : Sp := fun vs H Q _ => ∃ (a : Addr) (n : Nat) (rods : List Rod), vs = [.ref a] ∧ InN n rods ∧ (∀ r ∈ rods, r.1 ≠ r.2.1) ∧ n ≤ 6 ∧ NetAt K H a n rods ∧ ∀ (H' : Hp) (p : Addr) (rs : List Addr) (T : Tab), TabIn H H' p rs n T → IsD rods n 9999 T → Q (.ref p) H'
theorem ok_table (T : Txt K mg) : OkOf P w K mg base 1 "table_of" ["net"] (spTable K) := okOf T.tableOf fun f fd F => by
  refine F.ok scTable (fun vs H Q E h => ?_) (fun cdv A outer s H vs Q E hr h => ?_)
  · obtain ⟨a, n, rods, rfl, _⟩ := h
    rfl
  · obtain ⟨a, n, rods, rfl, hi, hne, hn6, ⟨r, ts, hA, hR, hT⟩, q⟩ := h
    have nd := scTable.nd
    refine ⟨_, pss_cons (ps_asg (pv 0) (pg_tup (by rfl) (pgs_cons (pg_name (i := 1) nd rfl (.inr rfl)) (pgs_cons (pg_name (i := 2) nd rfl (.inl rfl)) pgs_nil))))
      (pss_cons (ps_setLc (i := 5) (own := [("one", 3)]) (g := gName 3) (tt := tYes) (by rfl) nd rfl rfl (sw_true rfl rfl rfl (by decide +kernel)) (pi_range1 rfl T.bRange (pa_cons (pv 1) pa_nil))
          (blkOk_by (own := [("one", 3)]) (N := ["net", "many", "rods", "one", "other", "found", "length", "middle"]) (sc := defScope sTable) (by decide +kernel)) (fun _ _ _ _ _ => pg_name (i := 3) nd rfl (Or.inr rfl)) (fun _ _ _ _ _ => pts_nil)
          (fun _ _ _ _ _ => pe_lc (own := [("other", 4)]) (g := gName 4) (tt := tYes) (by rfl) nd (pi_range1 rfl T.bRange (pa_cons (pv 1) pa_nil))
            (blkOk_by (own := [("other", 4)]) (N := ["net", "many", "rods", "one", "other", "found", "length", "middle"]) (sc := relS (lcSc ((defBody sTable).getD 1 (.Pass ⟨0, 0, 0, 0⟩))) (defScope sTable)) (by decide +kernel)) (fun _ _ _ _ _ => pg_name (i := 4) nd rfl (Or.inl rfl)) (fun _ _ _ _ _ => pts_nil)
            (fun _ _ _ _ _ => pe_ifExp (pt_cmpR op_eq (pv 3) (pv 4) (nomark _)) pe_int pe_int)))
      (pss_cons (ps_for PassesOwn.never rfl (pi_tup (pv 2)) (pg_tup (by rfl) (pgs_cons (pg_name (i := 3) nd rfl (.inl rfl)) (pgs_cons (pg_name (i := 4) nd rfl (.inl rfl)) (pgs_cons (pg_name (i := 6) nd rfl (.inl rfl)) pgs_nil))))
        (pss_cons (ps_asg (pe_callB (call_min2 rfl) (by rfl) T.bMin (by decide +kernel) (pa_cons (pe_ix ix_list (pe_ix ix_list (pv 5) (pv 3) (fun _ _ => rfl)) (pv 4) (fun _ _ => rfl)) (pa_cons (pv 6) pa_nil))) (pg_sub (pe_ix ix_list (pv 5) (pv 3) (fun _ _ => rfl)) (pv 4) set_list))
        (pss_one (ps_asg (pe_ix ix_list (pe_ix ix_list (pv 5) (pv 3) (fun _ _ => rfl)) (pv 4) (fun _ _ => rfl)) (pg_sub (pe_ix ix_list (pv 5) (pv 4) (fun _ _ => rfl)) (pv 3) set_list)))))
      (pss_cons (ps_for PassesOwn.never rfl (pi_range1 rfl T.bRange (pa_cons (pv 1) pa_nil)) (pg_name (i := 7) nd rfl (.inl rfl))
        (pss_one (ps_for PassesOwn.never rfl (pi_range1 rfl T.bRange (pa_cons (pv 1) pa_nil)) (pg_name (i := 3) nd rfl (.inl rfl))
          (pss_one (ps_for PassesOwn.never rfl (pi_range1 rfl T.bRange (pa_cons (pv 1) pa_nil)) (pg_name (i := 4) nd rfl (.inl rfl))
            (pss_one (ps_asg (pe_callB (call_min2 rfl) (by rfl) T.bMin (by decide +kernel) (pa_cons (pe_ix ix_list (pe_ix ix_list (pv 5) (pv 3) (fun _ _ => rfl)) (pv 4) (fun _ _ => rfl))
              (pa_cons (pe_op op_add (pe_ix ix_list (pe_ix ix_list (pv 5) (pv 3) (fun _ _ => rfl)) (pv 7) (fun _ _ => rfl)) (pe_ix ix_list (pe_ix ix_list (pv 5) (pv 7) (fun _ _ => rfl)) (pv 4) (fun _ _ => rfl))) pa_nil)))
              (pg_sub (pe_ix ix_list (pv 5) (pv 3) (fun _ _ => rfl)) (pv 4) set_list))))))))
      (pss_one (ps_ret (pv 5)))))), ?_⟩
    -- many, rods = net
    refine ⟨_, rfl, a, _, rfl, hA, rfl, _, _, rfl, _, _, rfl, rfl, ?_⟩
    -- found = [[..]]
    dsimp only
    refine nx_seq (asg_ ?_)
    refine tab_init (m := 1) (s1 := 3) (s2 := 4) (n := n) (c := 9999) (by rfl) (by show 3 < 8; decide) (by show 4 < 8; decide) (by decide) (by decide) (by decide) (by omega) fun p rs H1 tb1 => ?_
    -- the rods
    refine ⟨_, rfl, r, rfl, ⟨_, tb1.sm.seqT hR⟩, for_tup (K := K) (a := r) (xs := ts.map V.ref) (fun k σ H' => ∃ (v3 v4 v6 : Option V) (U : Tab), σ = [some (.ref a), some (iv n), some (.ref r), v3, v4, some (.ref p), v6, none] ∧ TabIn H H' p rs n U ∧ F1 rods n k U)
      ⟨none, none, none, _, rfl, tb1, F1.start fun i j _ _ => rfl⟩ (fun i σ H' _ p => by obtain ⟨_, _, _, _, _, p, _⟩ := p; exact p.sm.seqT hR) ?_ ?_⟩
    · rintro k x σ H' hx ⟨v3, v4, v6, U, rfl, tb, f1⟩
      obtain ⟨t, ⟨ra, rb, rl⟩, rfl, ht, hrod, hS⟩ := hT.at hx
      obtain ⟨ha, hb, _, _⟩ := hi _ (List.mem_of_getElem? hrod)
      have ha : ra < n := ha
      have hb : rb < n := hb
      have hab : ra ≠ rb := hne _ (List.mem_of_getElem? hrod)
      refine ⟨t, _, rfl, tb.sm.seqT hS, rfl, _, _, rfl, _, _, rfl, _, _, rfl, rfl, ?_⟩
      refine tab_read tb.toTabAt rfl rfl rfl ha hb ⟨_, rfl, _, _, rfl, ?_⟩
      refine tab_write tb rfl rfl rfl ha hb (congrArg V.int (min_iv _ _)) fun H2 tb2 => ?_
      refine tab_read tb2.toTabAt rfl rfl rfl ha hb ?_
      have e : upT U ra rb (min (U ra rb) rl) ra rb = min (U ra rb) rl := by unfold upT; rw [if_pos ⟨rfl, rfl⟩]
      refine tab_write tb2 rfl rfl rfl hb ha (by rw [e]) fun H3 tb3 => ?_
      exact ⟨_, _, _, _, rfl, tb3, f1.step hi hab hrod⟩
    · rintro σ H' ⟨v3, v4, v6, U, rfl, tb, f1⟩
      rw [hT.len] at f1
      refine ⟨_, rfl, (n : Int), rfl, by omega, by omega, for_range (lo := 0) (n := (n : Int).toNat) (fun k σ H' => ∃ (v3 v4 v7 : Option V) (U : Tab), σ = [some (.ref a), some (iv n), some (.ref r), v3, v4, some (.ref p), v6, v7] ∧ TabIn H H' p rs n U ∧ F2 rods n k U)
        ⟨v3, v4, none, U, rfl, tb, F2.start hi f1⟩ ?_ ?_⟩
      · rintro k σ H' hk ⟨v3, v4, v7, U, rfl, tb, f2⟩
        have hkn : k < n := by omega
        have ek : (0 : Int) + ((k : Nat) : Int) = ((k : Nat) : Int) := by omega
        rw [ek]
        refine ⟨_, rfl, (n : Int), rfl, by omega, by omega, for_range (lo := 0) (n := (n : Int).toNat) (fun i σ H' => ∃ (v3 v4 : Option V) (V' : Tab), σ = [some (.ref a), some (iv n), some (.ref r), v3, v4, some (.ref p), v6, some (iv k)] ∧ TabIn H H' p rs n V' ∧ Mid U n k i 0 V')
          ⟨v3, v4, U, rfl, tb, Mid.start⟩ ?_ ?_⟩
        · rintro i σ H' hi' ⟨v3, v4, V', rfl, tb, mid⟩
          have hin : i < n := by omega
          have ei : (0 : Int) + ((i : Nat) : Int) = ((i : Nat) : Int) := by omega
          rw [ei]
          refine ⟨_, rfl, (n : Int), rfl, by omega, by omega, for_range (lo := 0) (n := (n : Int).toNat) (fun j σ H' => ∃ (v4 : Option V) (V' : Tab), σ = [some (.ref a), some (iv n), some (.ref r), some (iv i), v4, some (.ref p), v6, some (iv k)] ∧ TabIn H H' p rs n V' ∧ Mid U n k i j V')
            ⟨v4, V', rfl, tb, mid⟩ ?_ ?_⟩
          · rintro j σ H' hj ⟨v4, V', rfl, tb, mid⟩
            have hjn : j < n := by omega
            have ej : (0 : Int) + ((j : Nat) : Int) = ((j : Nat) : Int) := by omega
            rw [ej]
            refine tab_read (i := i) (j := j) tb.toTabAt rfl rfl rfl hin hjn ?_
            refine tab_read (i := i) (j := k) tb.toTabAt rfl rfl rfl hin hkn ?_
            refine tab_read (i := k) (j := j) tb.toTabAt rfl rfl rfl hkn hjn ?_
            refine ⟨_, _, rfl, rfl, _, _, rfl, ?_⟩
            refine tab_write (z := min (V' i j) (V' i k + V' k j)) (i := i) (j := j) tb rfl rfl rfl hin hjn (congrArg V.int (min_iv (V' i j) (V' i k + V' k j))) fun H2 tb2 => ?_
            exact ⟨_, _, rfl, tb2, mid.step (f2.dg k hkn) hkn hin hjn⟩
          · rintro σ H' ⟨v4, V', rfl, tb, mid⟩
            rw [Int.toNat_natCast] at mid
            exact ⟨_, _, _, rfl, tb, mid.row⟩
        · rintro σ H' ⟨v3, v4, V', rfl, tb, mid⟩
          rw [Int.toNat_natCast] at mid
          exact ⟨_, _, _, _, rfl, tb, f2.step hi hkn mid.done⟩
      · rintro σ H' ⟨v3, v4, v7, U, rfl, tb, f2⟩
        rw [Int.toNat_natCast] at f2
        exact ⟨_, rfl, q _ _ _ _ tb (f2.isD hi)⟩
end
end Lt
namespace Lt
open PySem L2 PyProof.Rows
section
variable {P : Program} {w : World} {K : PySem.W.Frag} {mg : Str → Option Value} {base : Heap}
def spFar (K : PySem.W.Frag) : Sp := fun vs H Q _ => ∃ (a : Addr) (n : Nat) (rods : List Rod), vs = [.ref a] ∧ InN n rods ∧ (∀ r ∈ rods, r.1 ≠ r.2.1) ∧ n ≤ 6 ∧ NetAt K H a n rods ∧ ∀ (H' : Hp) (p : Addr) (rs : List Addr) (T : Tab), TabIn H H' p rs n T → IsD rods n 999 T → Q (.ref p) H'
theorem ok_far (T : Txt K mg) : OkOf P w K mg base 1 "_law_far" ["_law_net_here"] (spFar K) := okOf T.far fun f fd F => by
  refine F.ok scFar (fun vs H Q E h => ?_) (fun cdv A outer s H vs Q E hr h => ?_)
  · obtain ⟨a, n, rods, rfl, _⟩ := h
    rfl
  · obtain ⟨a, n, rods, rfl, hi, hne, hn6, ⟨r, ts, hA, hR, hT⟩, q⟩ := h
    have nd := scFar.nd
    refine ⟨_, pss_cons (ps_set (i := 1) nd rfl (.inr rfl) (pe_ix ix_tup (pv 0) pe_int (fun _ _ => rfl)))
      (pss_cons (ps_setLc (i := 4) (own := [("_law_one", 2)]) (g := gName 2) (tt := tYes) (by rfl) nd rfl rfl (sw_true rfl rfl rfl (by decide +kernel)) (pi_range1 rfl T.bRange (pa_cons (pv 1) pa_nil))
          (blkOk_by (own := [("_law_one", 2)]) (N := ["_law_net_here", "_law_many", "_law_one", "_law_other", "_law_found", "_law_turn", "_law_length", "_law_place"]) (sc := defScope sFar) (by decide +kernel)) (fun _ _ _ _ _ => pg_name (i := 2) nd rfl (Or.inr rfl)) (fun _ _ _ _ _ => pts_nil)
          (fun _ _ _ _ _ => pe_lc (own := [("_law_other", 3)]) (g := gName 3) (tt := tYes) (by rfl) nd (pi_range1 rfl T.bRange (pa_cons (pv 1) pa_nil))
            (blkOk_by (own := [("_law_other", 3)]) (N := ["_law_net_here", "_law_many", "_law_one", "_law_other", "_law_found", "_law_turn", "_law_length", "_law_place"]) (sc := relS (lcSc ((defBody sFar).getD 1 (.Pass ⟨0, 0, 0, 0⟩))) (defScope sFar)) (by decide +kernel)) (fun _ _ _ _ _ => pg_name (i := 3) nd rfl (Or.inl rfl)) (fun _ _ _ _ _ => pts_nil)
            (fun _ _ _ _ _ => pe_ifExp (pt_cmpR op_eq (pv 2) (pv 3) (nomark _)) pe_int pe_int)))
      (pss_cons (ps_for PassesOwn.never rfl (pi_range1 rfl T.bRange (pa_cons (pv 1) pa_nil)) (pg_name (i := 5) nd rfl (.inl rfl))
        (pss_one (ps_for PassesOwn.never rfl (pi_tup (pe_ix ix_tup (pv 0) pe_int (fun _ _ => rfl))) (pg_tup (by rfl) (pgs_cons (pg_name (i := 2) nd rfl (.inl rfl)) (pgs_cons (pg_name (i := 3) nd rfl (.inl rfl)) (pgs_cons (pg_name (i := 6) nd rfl (.inl rfl)) pgs_nil))))
          (pss_one (ps_for PassesOwn.never rfl (pi_range1 rfl T.bRange (pa_cons (pv 1) pa_nil)) (pg_name (i := 7) nd rfl (.inl rfl))
            (pss_cons (ps_asg (pe_callB (call_min2 rfl) (by rfl) T.bMin (by decide +kernel) (pa_cons (pe_ix ix_list (pe_ix ix_list (pv 4) (pv 7) (fun _ _ => rfl)) (pv 2) (fun _ _ => rfl))
              (pa_cons (pe_op op_add (pe_ix ix_list (pe_ix ix_list (pv 4) (pv 7) (fun _ _ => rfl)) (pv 3) (fun _ _ => rfl)) (pv 6)) pa_nil))) (pg_sub (pe_ix ix_list (pv 4) (pv 7) (fun _ _ => rfl)) (pv 2) set_list))
            (pss_one (ps_asg (pe_callB (call_min2 rfl) (by rfl) T.bMin (by decide +kernel) (pa_cons (pe_ix ix_list (pe_ix ix_list (pv 4) (pv 7) (fun _ _ => rfl)) (pv 3) (fun _ _ => rfl))
              (pa_cons (pe_op op_add (pe_ix ix_list (pe_ix ix_list (pv 4) (pv 7) (fun _ _ => rfl)) (pv 2) (fun _ _ => rfl)) (pv 6)) pa_nil))) (pg_sub (pe_ix ix_list (pv 4) (pv 7) (fun _ _ => rfl)) (pv 3) set_list)))))))))
      (pss_one (ps_ret (pv 4))))), ?_⟩
    refine ⟨_, rfl, a, _, 0, _, rfl, rfl, hA, rfl, ?_⟩
    dsimp only
    refine nx_seq (asg_ ?_)
    refine tab_init (m := 1) (s1 := 2) (s2 := 3) (n := n) (c := 999) (by rfl) (by show 2 < 8; decide) (by show 3 < 8; decide) (by decide) (by decide) (by decide) (by omega) fun p rs H1 tb1 => ?_
    refine ⟨_, rfl, (n : Int), rfl, by omega, by omega, for_range (lo := 0) (n := (n : Int).toNat) (fun k σ H' => ∃ (v2 v3 v5 v6 v7 : Option V) (U : Tab), σ = [some (.ref a), some (iv n), v2, v3, some (.ref p), v5, v6, v7] ∧ TabIn H H' p rs n U ∧ B2 rods n k U)
      ⟨none, none, none, none, none, _, rfl, tb1, B2.start hi fun i j _ _ => rfl⟩ ?_ ?_⟩
    · rintro k σ H' hk ⟨v2, v3, v5, v6, v7, U, rfl, tb, b2⟩
      refine ⟨_, rfl, a, _, 1, _, rfl, rfl, tb.sm.seqT hA, rfl, r, rfl, ⟨_, tb.sm.seqT hR⟩, for_tup (K := K) (a := r) (xs := ts.map V.ref) (fun q σ H' => ∃ (v2 v3 v6 v7 : Option V) (V' : Tab), σ = [some (.ref a), some (iv n), v2, v3, some (.ref p), some (.int (0 + (k : Int))), v6, v7] ∧ TabIn H H' p rs n V' ∧ B3 rods n U q 0 V')
        ⟨v2, v3, v6, v7, U, rfl, tb, B3.start b2.toB1⟩ (fun i σ H' _ p => by obtain ⟨_, _, _, _, _, _, p, _⟩ := p; exact p.sm.seqT hR) ?_ ?_⟩
      · rintro q x σ H' hx ⟨v2, v3, v6, v7, V', rfl, tb, b3⟩
        obtain ⟨t, ⟨ra, rb, rl⟩, rfl, ht, hrod, hS⟩ := hT.at hx
        obtain ⟨ha, hb, _, _⟩ := hi _ (List.mem_of_getElem? hrod)
        have ha : ra < n := ha
        have hb : rb < n := hb
        have hab : ra ≠ rb := hne _ (List.mem_of_getElem? hrod)
        refine ⟨t, _, rfl, tb.sm.seqT hS, rfl, _, _, rfl, _, _, rfl, _, _, rfl, rfl, ?_⟩
        refine ⟨_, rfl, (n : Int), rfl, by omega, by omega, for_range (lo := 0) (n := (n : Int).toNat) (fun j σ H' => ∃ (v7 : Option V) (V' : Tab), σ = [some (.ref a), some (iv n), some (iv ra), some (iv rb), some (.ref p), some (.int (0 + (k : Int))), some (iv rl), v7] ∧ TabIn H H' p rs n V' ∧ B3 rods n U q j V')
          ⟨v7, V', rfl, tb, b3⟩ ?_ ?_⟩
        · rintro j σ H' hj ⟨v7, V', rfl, tb, b3⟩
          have hjn : j < n := by omega
          have ej : (0 : Int) + ((j : Nat) : Int) = ((j : Nat) : Int) := by omega
          rw [ej]
          refine tab_read (i := j) (j := ra) tb.toTabAt rfl rfl rfl hjn ha ?_
          refine tab_read (i := j) (j := rb) tb.toTabAt rfl rfl rfl hjn hb ?_
          refine ⟨_, rfl, _, _, rfl, rfl, _, _, rfl, ?_⟩
          refine tab_write (z := min (V' j ra) (V' j rb + rl)) (i := j) (j := ra) tb rfl rfl rfl hjn ha (congrArg V.int (min_iv (V' j ra) (V' j rb + rl))) fun H2 tb2 => ?_
          refine tab_read (i := j) (j := rb) tb2.toTabAt rfl rfl rfl hjn hb ?_
          refine tab_read (i := j) (j := ra) tb2.toTabAt rfl rfl rfl hjn ha ?_
          refine ⟨_, rfl, _, _, rfl, rfl, _, _, rfl, ?_⟩
          refine tab_write (i := j) (j := rb) tb2 rfl rfl rfl hjn hb (congrArg V.int (min_iv _ (_ + rl))) fun H3 tb3 => ?_
          exact ⟨_, _, rfl, tb3, b3.step hi hjn hrod hab rfl rfl⟩
        · rintro σ H' ⟨v7, V', rfl, tb, b3⟩
          rw [Int.toNat_natCast] at b3
          exact ⟨_, _, _, _, _, rfl, tb, b3.next⟩
      · rintro σ H' ⟨v2, v3, v6, v7, V', rfl, tb, b3⟩
        rw [hT.len] at b3
        exact ⟨_, _, _, _, _, _, rfl, tb, b3.done hi b2⟩
    · rintro σ H' ⟨v2, v3, v5, v6, v7, U, rfl, tb, b2⟩
      rw [Int.toNat_natCast] at b2
      exact ⟨_, rfl, q _ _ _ _ tb b2.isD⟩
end
end Lt
namespace Lt
open PySem L2 PyProof.Rows
/-- tuples of two numbers -/
def PairsAt (H : Hp) (ts : List Addr) (prs : List (Nat × Nat)) : Prop := ts.length = prs.length ∧ ∀ (i : Nat) (t : Addr) (p : Nat × Nat), ts[i]? = some t → prs[i]? = some p → H t = some (.tup [iv p.1, iv p.2])
theorem PairsAt.same {H H' : Hp} {ts : List Addr} {prs : List (Nat × Nat)} (h : PairsAt H ts prs) (e : Same H H') : PairsAt H' ts prs := ⟨h.1, fun i t p a b => e _ _ (h.2 i t p a b)⟩
theorem PairsAt.snoc {H : Hp} {ts : List Addr} {prs : List (Nat × Nat)} {t : Addr} {p : Nat × Nat} (h : PairsAt H ts prs) (ht : H t = some (.tup [iv p.1, iv p.2])) : PairsAt H (ts ++ [t]) (prs ++ [p]) := by
  refine ⟨by rw [List.length_append, List.length_append, h.1]; rfl, fun i u q hu hq => ?_⟩
  by_cases hi : i < ts.length
  · rw [List.getElem?_append_left hi] at hu
    rw [List.getElem?_append_left (by rw [← h.1]; exact hi)] at hq
    exact h.2 i u q hu hq
  · rw [List.getElem?_append_right (by omega)] at hu
    rw [List.getElem?_append_right (by rw [← h.1]; omega), ← h.1] at hq
    have h0 : i - ts.length = 0 := by
      have := (List.getElem?_eq_some_iff.mp hu).1
      rw [List.length_singleton] at this
      omega
    rw [h0] at hu hq
    cases hu
    cases hq
    exact ht
theorem PairsAt.at {H : Hp} {ts : List Addr} {prs : List (Nat × Nat)} (h : PairsAt H ts prs) {i : Nat} {x : V} (hx : (ts.map V.ref)[i]? = some x) : ∃ (t : Addr) (p : Nat × Nat), x = .ref t ∧ ts[i]? = some t ∧ prs[i]? = some p ∧ H t = some (.tup [iv p.1, iv p.2]) := by
  rw [List.getElem?_map] at hx
  cases e : ts[i]? with
  | none => rw [e] at hx; cases hx
  | some t =>
    rw [e] at hx
    have hl : i < prs.length := by
      have := (List.getElem?_eq_some_iff.mp e).1
      rw [h.1] at this
      exact this
    exact ⟨t, prs[i], (Option.some.inj hx).symm, rfl, List.getElem?_eq_getElem hl, h.2 i t _ e (List.getElem?_eq_getElem hl)⟩
theorem rawNb_snoc {l : List Rod} {a b c h : Nat} (hab : a ≠ b) : rawNb (l ++ [(a, b, c)]) h = rawNb l h ++ (if h = a ∨ h = b then [(if h = a then b else a, c)] else []) := by
  unfold rawNb steps
  rw [List.flatMap_append, List.filter_append, List.map_append]
  congr 1
  rw [List.flatMap_cons, List.flatMap_nil, List.append_nil]
  by_cases e1 : h = a
  · subst e1
    simp [List.filter_cons, Ne.symm hab]
  · by_cases e2 : h = b
    · subst e2
      simp [List.filter_cons, hab, e1]
    · simp [List.filter_cons, e1, e2, Ne.symm e1, Ne.symm e2]
/-- what a reference's pair says -/
def keyP (H : Hp) (x : V) : Int × Int := match x with
  | .ref t => match H t with
    | some (.tup [.int a, .int b]) => (a, b)
    | _ => (0, 0)
  | _ => (0, 0)
theorem keyP_of {H : Hp} {t : Addr} {a b : Int} (h : H t = some (.tup [.int a, .int b])) : keyP H (.ref t) = (a, b) := by
  unfold keyP
  simp only [h]
theorem PairsAt.perm {H : Hp} {ts : List Addr} {prs : List (Nat × Nat)} (h : PairsAt H ts prs) {ys : List V} (hp : ys.Perm (ts.map V.ref)) : ∃ (ts' : List Addr) (prs' : List (Nat × Nat)), ys = ts'.map V.ref ∧ prs'.Perm prs ∧ PairsAt H ts' prs' ∧ prs' = ys.map fun x => ((keyP H x).1.toNat, (keyP H x).2.toNat) := by
  have e1 : ∀ x ∈ ys, ∃ t, x = V.ref t := fun x hx => by
    obtain ⟨t, _, e⟩ := List.mem_map.mp (hp.mem_iff.mp hx)
    exact ⟨t, e.symm⟩
  have e2 : ys = (ys.map fun x => match x with | .ref t => t | _ => 0).map V.ref := by
    rw [List.map_map]
    conv => lhs; rw [← List.map_id ys]
    refine List.map_congr_left fun x hx => ?_
    obtain ⟨t, rfl⟩ := e1 x hx
    rfl
  have e3 : prs = (ts.map V.ref).map fun x => ((keyP H x).1.toNat, (keyP H x).2.toNat) := by
    refine List.ext_getElem? fun i => ?_
    rw [List.getElem?_map, List.getElem?_map]
    by_cases hi : i < ts.length
    · have hi' : i < prs.length := by rw [← h.1]; exact hi
      rw [List.getElem?_eq_getElem hi, List.getElem?_eq_getElem hi']
      have := h.2 i _ _ (List.getElem?_eq_getElem hi) (List.getElem?_eq_getElem hi')
      show some prs[i] = some ((keyP H (V.ref ts[i])).1.toNat, (keyP H (V.ref ts[i])).2.toNat)
      rw [keyP_of this]
      simp
    · rw [List.getElem?_eq_none (l := prs) (by rw [← h.1]; omega), List.getElem?_eq_none (l := ts) (by omega)]
      rfl
  refine ⟨_, ys.map fun x => ((keyP H x).1.toNat, (keyP H x).2.toNat), e2, ?_, ⟨by rw [List.length_map, List.length_map], fun i t p ht hpr => ?_⟩, rfl⟩
  · rw [e3]
    exact hp.map _
  · rw [List.getElem?_map] at ht hpr
    cases ey : ys[i]? with
    | none => rw [ey] at ht; cases ht
    | some y =>
      rw [ey] at ht hpr
      have hm := hp.mem_iff.mp (List.mem_of_getElem? ey)
      obtain ⟨j, hj, ej⟩ := List.getElem_of_mem hm
      obtain ⟨u, q, rfl, hu, hq, hH⟩ := h.at (i := j) (x := y) (by rw [List.getElem?_eq_getElem hj, ej])
      have ht : u = t := Option.some.inj ht
      subst ht
      have hpr : p = ((keyP H (V.ref u)).1.toNat, (keyP H (V.ref u)).2.toNat) := (Option.some.inj hpr).symm
      rw [keyP_of hH] at hpr
      subst hpr
      simp only [Int.toNat_natCast]
      exact hH
section
variable {P : Program} {w : World} {K : PySem.W.Frag} {mg : Str → Option Value} {base : Heap}
def spNeigh (K : PySem.W.Frag) : Sp := fun vs H Q _ => ∃ (a : Addr) (n : Nat) (rods : List Rod) (h : Nat), vs = [.ref a, iv h] ∧ Wf n rods ∧ NetAt K H a n rods ∧ ∀ (H' : Hp) (p : Addr) (ts : List Addr), Same H H' → H p = none → H' p = some (.lst (ts.map V.ref)) → PairsAt H' ts (nb rods n h) → Q (.ref p) H'
theorem ok_neigh (T : Txt K mg) : OkOf P w K mg base 1 "neighbors" ["net", "place"] (spNeigh K) := okOf T.neighbors fun f fd F => by
  refine F.ok scNeigh (fun vs H Q E h => ?_) (fun cdv A outer s H vs Q E hr h => ?_)
  · obtain ⟨a, n, rods, h, rfl, _⟩ := h
    rfl
  · obtain ⟨a, n, rods, h, rfl, wf, ⟨r, ts, hA, hR, hT⟩, q⟩ := h
    have nd := scNeigh.nd
    refine ⟨_, pss_cons (ps_set (i := 2) nd rfl (.inl rfl) (pe_lst pa_nil))
      (pss_cons (ps_for PassesOwn.never rfl (pi_tup (pe_ix ix_tup (pv 0) pe_int (fun _ _ => rfl))) (pg_tup (by rfl) (pgs_cons (pg_name (i := 3) nd rfl (.inl rfl)) (pgs_cons (pg_name (i := 4) nd rfl (.inl rfl)) (pgs_cons (pg_name (i := 5) nd rfl (.inl rfl)) pgs_nil))))
        (pss_one (ps_if (pt_cmpR op_in_seq (pv 1) (pe_tup (pa_cons (pv 3) (pa_cons (pv 4) pa_nil))) (by rfl))
          (pss_one (ps_expr (pe_bm PySem.F.plainAttrs_list PySem.F.slot_list_append PySem.F.type_list_append mt_append (pv 2) (pa_cons (pe_tup (pa_cons (pe_ifExp (pt_cmpR op_eq (pv 1) (pv 3) (nomark _)) (pv 4) (pv 3)) (pa_cons (pv 5) pa_nil))) pa_nil)))) pss_nil)))
      (pss_one (ps_ret (pe_callB cr_sortedPO (by rfl) T.bSorted (by decide +kernel) (pa_cons (pv 2) pa_nil))))), ?_⟩
    refine ⟨Nat.zero_le _, fun L hL => ?_⟩
    have sm0 : Same H (upd H L (.lst [])) := same_new hL
    refine ⟨_, rfl, a, _, 1, _, rfl, rfl, sm0.seqT hA, rfl, r, rfl, ⟨_, sm0.seqT hR⟩, for_tup (K := K) (a := r) (xs := ts.map V.ref) (fun k σ H' => ∃ (v3 v4 v5 : Option V) (fs : List Addr), σ = [some (.ref a), some (iv h), some (.ref L), v3, v4, v5] ∧ Same H H' ∧ H' L = some (.lst (fs.map V.ref)) ∧ PairsAt H' fs (rawNb (rods.take k) h) ∧ fs.length ≤ k)
      ⟨none, none, none, [], rfl, sm0, upd_same, ⟨rfl, fun i t p ht _ => absurd (List.mem_of_getElem? ht) List.not_mem_nil⟩, Nat.le_refl _⟩ (fun i σ H' _ p => by obtain ⟨_, _, _, _, _, p, _⟩ := p; exact p.seqT hR) ?_ ?_⟩
    · rintro k x σ H' hx ⟨v3, v4, v5, fs, rfl, sm, hf, hP, hlen⟩
      obtain ⟨t, ⟨ra, rb, rl⟩, rfl, ht, hrod, hS⟩ := hT.at hx
      have hok := wf.ok _ (List.mem_of_getElem? hrod)
      dsimp only at hok hS
      have hk8 : k < 8 := by
        have := (List.getElem?_eq_some_iff.mp hrod).1
        have := wf.few
        omega
      have htake : rods.take (k + 1) = rods.take k ++ [(ra, rb, rl)] := by
        rw [List.take_add_one, hrod]
        rfl
      refine ⟨t, _, rfl, sm.seqT hS, rfl, _, _, rfl, _, _, rfl, _, _, rfl, rfl, ?_⟩
      refine ⟨_, rfl, _, rfl, _, rfl, (by show 2 ≤ sizeLine; decide), fun p hp => ?_⟩
      have sm1 := sm.trans (same_new (o := .tup [iv ra, iv rb]) hp)
      have hf1 : (upd H' p (.tup [iv ra, iv rb])) L = some (.lst (fs.map V.ref)) := by rw [upd_ne (ne_of_none hf hp)]; exact hf
      have hP1 := hP.same (same_new (o := .tup [iv ra, iv rb]) hp)
      refine ⟨p, _, rfl, .inr (SqT.of upd_same), rfl, rfl, _, rfl, ?_⟩
      show if inV (iv h) ([ra, rb].map iv) = true then _ else _
      rw [inV_iv]
      refine ite2 (fun c => ?_) (fun c => ?_)
      · have c : h ∈ [ra, rb] := of_decide_eq_true c
        have c' : h = ra ∨ h = rb := by simpa using c
        refine ⟨_, rfl, .inl ⟨rfl, _, SqL.of hf1⟩, _, rfl, _, rfl, rfl, _, rfl, ?_⟩
        have fin : ∀ z : Nat, z = (if h = ra then rb else ra) → (∃ x, ([some (V.ref a), some (iv h), some (.ref L), some (iv ra), some (iv rb), some (iv rl)] : L2.St)[5]? = some (some x) ∧ [iv z, x].length ≤ sizeLine ∧ ∀ (p_1 : Addr), upd H' p (HO.tup [iv ra, iv rb]) p_1 = none →
            ∃ l xs y, V.ref L = V.ref l ∧ [V.ref p_1] = [y] ∧ upd (upd H' p (HO.tup [iv ra, iv rb])) p_1 (HO.tup [iv z, x]) l = some (HO.lst xs) ∧ xs.length < sizeLine ∧
              ∃ (v3 v4 v5 : Option V) (fs : List Addr), ([some (V.ref a), some (iv h), some (.ref L), some (iv ra), some (iv rb), some (iv rl)] : L2.St) = [some (.ref a), some (iv h), some (.ref L), v3, v4, v5] ∧ Same H (upd (upd (upd H' p (HO.tup [iv ra, iv rb])) p_1 (HO.tup [iv z, x])) l (HO.lst (xs ++ [y]))) ∧
                (upd (upd (upd H' p (HO.tup [iv ra, iv rb])) p_1 (HO.tup [iv z, x])) l (HO.lst (xs ++ [y]))) L = some (.lst (fs.map V.ref)) ∧ PairsAt (upd (upd (upd H' p (HO.tup [iv ra, iv rb])) p_1 (HO.tup [iv z, x])) l (HO.lst (xs ++ [y]))) fs (rawNb (rods.take (k + 1)) h) ∧ fs.length ≤ k + 1) := fun z hz => by
          refine ⟨_, rfl, (by show 2 ≤ sizeLine; decide), fun p2 hp2 => ?_⟩
          have sm2 := sm1.trans (same_new (o := .tup [iv z, iv rl]) hp2)
          have hf2 : (upd (upd H' p (.tup [iv ra, iv rb])) p2 (.tup [iv z, iv rl])) L = some (.lst (fs.map V.ref)) := by rw [upd_ne (ne_of_none hf1 hp2)]; exact hf1
          have hP2 := hP1.same (same_new (o := .tup [iv z, iv rl]) hp2)
          refine ⟨L, _, _, rfl, rfl, hf2, by rw [List.length_map]; exact sizeS (by omega), _, _, _, fs ++ [p2], rfl, sm2.mut hL, by rw [upd_same, List.map_append]; rfl, ?_, by rw [List.length_append, List.length_singleton]; omega⟩
          rw [htake, rawNb_snoc (by omega), if_pos c', ← hz]
          have key := hP2.snoc (t := p2) (p := (z, rl)) upd_same
          refine ⟨key.1, fun i u v hu hv => ?_⟩
          have := key.2 i u v hu hv
          rw [upd_ne (show u ≠ L from fun e => by rw [e, hf2] at this; cases this)]
          exact this
        refine ite2 (fun c2 => ?_) (fun c2 => ?_)
        · have c2 : iv h = iv ra := of_decide_eq_true c2
          refine ⟨_, rfl, ?_⟩
          exact fin rb (by rw [if_pos (iv_inj.mp c2)])
        · refine ⟨_, rfl, ?_⟩
          exact fin ra (by rw [if_neg fun z => c2 (decide_eq_true (by rw [z]))])
      · have c : ¬ (h = ra ∨ h = rb) := fun z => c (decide_eq_true (by simpa using z))
        refine ⟨_, _, _, fs, rfl, sm1, hf1, ?_, by omega⟩
        rw [htake, rawNb_snoc (by omega), if_neg c, List.append_nil]
        exact hP1
    · rintro σ H' ⟨v3, v4, v5, fs, rfl, sm, hf, hP, hlen⟩
      rw [hT.len, List.take_length] at hP
      refine ⟨_, rfl, L, _, keyP H', rfl, SqL.of hf, fun x hx => ?_, fun ys p hs hb hp => ?_⟩
      · obtain ⟨i, hi, ei⟩ := List.getElem_of_mem hx
        obtain ⟨u, v, rfl, _, _, hH⟩ := hP.at (i := i) (x := x) (by rw [List.getElem?_eq_getElem hi, ei])
        exact ⟨u, rfl, by rw [keyP_of hH]; exact hH⟩
      · obtain ⟨ts', prs', rfl, hpp, hP', epr⟩ := hP.perm hb.perm
        have enb : prs' = nb rods n h := by
          refine nb_sorted wf hpp ?_
          rw [epr, List.pairwise_map]
          refine hs.imp_of_mem fun {x y} hx hy hlt => ?_
          obtain ⟨i, hi, ei⟩ := List.getElem_of_mem hx
          obtain ⟨u, v, rfl, _, _, hH⟩ := hP'.at (i := i) (x := x) (by rw [List.getElem?_eq_getElem hi, ei])
          obtain ⟨j, hj, ej⟩ := List.getElem_of_mem hy
          obtain ⟨u', v', rfl, _, _, hH'⟩ := hP'.at (i := j) (x := y) (by rw [List.getElem?_eq_getElem hj, ej])
          have hlt := SrtO.lexB_no.mp hlt
          rw [keyP_of hH, keyP_of hH'] at hlt ⊢
          simp only [Int.toNat_natCast] at hlt ⊢
          omega
        rw [enb] at hP'
        refine q _ p ts' (sm.trans (same_new hp)) (sm.free hp) upd_same (hP'.same (same_new hp))
end
end Lt
namespace Lt
open PySem L2 PyProof.Rows
section
variable {P : Program} {w : World} {K : PySem.W.Frag} {mg : Str → Option Value} {base : Heap}
theorem Wf.ne {n : Nat} {rods : List Rod} (wf : Wf n rods) : ∀ r ∈ rods, r.1 ≠ r.2.1 := fun r hr => by
  have := wf.ok r hr
  omega
def spShort (K : PySem.W.Frag) : Sp := fun vs H Q _ => ∃ (a : Addr) (n : Nat) (rods : List Rod) (one t : Nat), vs = [.ref a, iv one, iv t] ∧ Wf n rods ∧ NetAt K H a n rods ∧ one < n ∧ t < n ∧
  ∀ (H' : Hp) (l : Addr) (y : List Nat) (F : Tab), Same H H' → H' l = some (.tup (y.map iv)) → IsD rods n 9999 F → (sw rods n (fun h => F h t) t 100 one).head? = some y → Q (.ref l) H'
theorem ok_short (T : Txt K mg) : OkOf P w K mg base 4 "shortest_way" ["net", "one", "other"] (spShort K) := okOf T.short fun f fd F => by
  obtain ⟨fn, fdn, Gn, mn, kn, bn⟩ := ok_needNet (P := P) (w := w) (base := base) T
  obtain ⟨fp, fdp, Gp, mp, kp, bp⟩ := ok_needPlace (P := P) (w := w) (base := base) T
  obtain ⟨ft, fdt, Gt, mt, kt, bt⟩ := ok_table (P := P) (w := w) (base := base) T
  obtain ⟨fb, fdb, Gb, mb, kb, bb⟩ := ok_neigh (P := P) (w := w) (base := base) T
  refine F.ok scShort (fun vs H Q E h => ?_) (fun cdv A outer s H vs Q E hr h => ?_)
  · obtain ⟨a, n, rods, one, t, rfl, _⟩ := h
    rfl
  · obtain ⟨a, n, rods, one, t, rfl, wf, hnet, h1, ht, q⟩ := h
    have hr1 : Room 1 _ := hr.mono (by decide)
    have nd := scShort.nd
    refine ⟨_, pss_cons (ps_expr (pe_call Gn hr (by rfl) mn kn bn .nil pass0 (pa_cons (pv 0) pa_nil)))
      (pss_cons (ps_expr (pe_call Gp hr (by rfl) mp kp bp .nil pass0 (pa_cons (pv 0) (pa_cons (pv 1) pa_nil))))
      (pss_cons (ps_expr (pe_call Gp hr (by rfl) mp kp bp .nil pass0 (pa_cons (pv 0) (pa_cons (pv 2) pa_nil))))
      (pss_cons (ps_par (i := 3) (j := 4) (by rfl) nd rfl rfl (by decide) rfl rfl (pa_cons (pe_call Gt hr1 (by rfl) mt kt bt .nil pass0 (pa_cons (pv 0) pa_nil)) (pa_cons (pe_lst (pa_cons (pv 1) pa_nil)) pa_nil)) (by rfl))
      (pss_cons (ps_while PassesOwn.never (pt_cmpR op_ne (pe_ix ix_list (pv 4) (pe_un un_neg pe_int) (fun _ _ => rfl)) (pv 2) (nomark _))
        (pss_cons (ps_set (i := 5) nd rfl (.inl rfl) (pe_ix ix_list (pv 4) (pe_un un_neg pe_int) (fun _ _ => rfl)))
        (pss_one (ps_for PassesOwn.never rfl (pi_list (pe_call Gb hr1 (by rfl) mb kb bb .nil pass0 (pa_cons (pv 0) (pa_cons (pv 5) pa_nil)))) (pg_tup (by rfl) (pgs_cons (pg_name (i := 6) nd rfl (.inl rfl)) (pgs_cons (pg_name (i := 7) nd rfl (.inl rfl)) pgs_nil)))
          (pss_one (ps_if (pt_cmpR op_eq (pe_op op_add (pv 7) (pe_ix ix_list (pe_ix ix_list (pv 3) (pv 6) (fun _ _ => rfl)) (pv 2) (fun _ _ => rfl))) (pe_ix ix_list (pe_ix ix_list (pv 3) (pv 5) (fun _ _ => rfl)) (pv 2) (fun _ _ => rfl)) (nomark _))
            (pss_cons (ps_expr (pe_bm PySem.F.plainAttrs_list PySem.F.slot_list_append PySem.F.type_list_append mt_append (pv 4) (pa_cons (pv 6) pa_nil))) (pss_one ps_break)) pss_nil))))))
      (pss_one (ps_ret (pe_callTy call_tuple_of (by rfl) T.bTuple (by decide +kernel) (pa_cons (pv 4) pa_nil)))))))), ?_⟩
    have hnet0 := hnet
    obtain ⟨r, ts, hA, hR, hT⟩ := hnet0
    refine ⟨_, rfl, a, n, rods, rfl, wf, hnet, fun H1 sm1 => ?_⟩
    refine ⟨_, rfl, _, rfl, a, (n : Int), (one : Int), _, rfl, sm1.seqT hA, by omega, by omega, ?_⟩
    refine ⟨_, rfl, _, rfl, a, (n : Int), (t : Int), _, rfl, sm1.seqT hA, by omega, by omega, ?_⟩
    refine ⟨_, rfl, a, n, rods, rfl, wf.inN, wf.ne, wf.n6, hnet.same sm1, fun H2 p rs Tb tb hD => ?_⟩
    have sm2 := sm1.trans tb.sm
    refine ⟨_, rfl, (by show 1 ≤ sizeLine; decide), fun L hL => ?_⟩
    have d := hD.dst wf ht
    refine ⟨_, _, rfl, fun m σ H' => ∃ (v5 v6 v7 : Option V) (pre : List Nat) (h : Nat), σ = [some (.ref a), some (iv one), some (iv t), some (.ref p), some (.ref L), v5, v6, v7] ∧ Same H2 H' ∧ H' L = some (.lst ((pre ++ [h]).map iv)) ∧ h < n ∧ Tb h t < m ∧ pre.length + m ≤ 100 ∧
        (sw rods n (fun h => Tb h t) t 100 one).head? = (sw rods n (fun h => Tb h t) t m h).head?.map (pre ++ ·), ⟨100, none, none, none, [], one, rfl, same_new hL, upd_same, h1, d.sm one h1, Nat.le_refl _, by simp⟩, ?_⟩
    rintro m σ H' ⟨v5, v6, v7, pre, h, rfl, sm, hf, hh, hm, hlen, hsw⟩
    have hlast : atI ((pre ++ [h]).map iv) (-1) = some (iv h) := by rw [List.map_append]; exact atI_last _ _
    refine ⟨_, rfl, 1, rfl, L, _, _, _, rfl, rfl, SqL.of hf, hlast, _, rfl, rfl, _, rfl, ?_⟩
    obtain ⟨k, rfl⟩ : ∃ k, m = k + 1 := ⟨m - 1, by omega⟩
    refine ite2 (fun c => ?_) (fun c => ?_)
    · have hne : h ≠ t := fun e => by
        rw [e] at c
        have : (!decide (iv t = iv t)) = true := c
        simp at this
      refine ⟨fun σ' H' => ∃ m', m' < k + 1 ∧ ∃ (v5 v6 v7 : Option V) (pre : List Nat) (h : Nat), σ' = [some (.ref a), some (iv one), some (iv t), some (.ref p), some (.ref L), v5, v6, v7] ∧ Same H2 H' ∧ H' L = some (.lst ((pre ++ [h]).map iv)) ∧ h < n ∧ Tb h t < m' ∧ pre.length + m' ≤ 100 ∧
        (sw rods n (fun h => Tb h t) t 100 one).head? = (sw rods n (fun h => Tb h t) t m' h).head?.map (pre ++ ·), fun σ' H' z => z, ?_⟩
      refine ⟨_, rfl, 1, rfl, L, _, _, _, rfl, rfl, SqL.of hf, hlast, ?_⟩
      refine ⟨_, rfl, _, rfl, a, n, rods, h, rfl, wf, hnet.same (sm2.trans sm), fun H3 pl ns sm3 hpl hl hP => ?_⟩
      have hf3 := sm3 _ _ hf
      have tb3 := tb.toTabAt.same (sm.trans sm3)
      refine ⟨pl, rfl, ⟨_, SqL.of hl⟩, for_list (K := K) (a := pl) (xs := ns.map V.ref) (fun i σ H' => H' = H3 ∧ ∃ (v6 v7 : Option V), σ = [some (.ref a), some (iv one), some (iv t), some (.ref p), some (.ref L), some (iv h), v6, v7] ∧ ∀ q ∈ (nb rods n h).take i, q.2 + Tb q.1 t ≠ Tb h t)
        ⟨rfl, v6, v7, rfl, fun q hq => absurd hq List.not_mem_nil⟩ (fun i σ H' _ p => by obtain ⟨rfl, _⟩ := p; exact SqL.of hl) ?_ ?_⟩
      · rintro i x σ H' hx ⟨rfl, v6, v7, rfl, hno⟩
        obtain ⟨u, ⟨pq, pl'⟩, rfl, hu, hpr, hU⟩ := hP.at hx
        have hlt := nb_lt wf (List.mem_of_getElem? hpr)
        have hq : pq < n := hlt.1
        refine ⟨u, _, rfl, SqT.of hU, rfl, _, _, rfl, _, _, rfl, rfl, ?_⟩
        refine ⟨_, rfl, ?_⟩
        refine tab_read (i := pq) (j := t) tb3 rfl rfl rfl hq ht ⟨_, _, rfl, rfl, ?_⟩
        refine tab_read (i := h) (j := t) tb3 rfl rfl rfl hh ht ⟨rfl, _, rfl, ?_⟩
        refine ite2 (fun c => ?_) (fun c => ?_)
        · have c : V.int ((pl' : Int) + (Tb pq t : Int)) = iv (Tb h t) := of_decide_eq_true c
          have c := V.int.inj c
          refine ⟨_, rfl, .inl ⟨rfl, _, SqL.of hf3⟩, _, rfl, L, _, _, rfl, rfl, hf3, by rw [List.length_map, List.length_append, List.length_singleton]; exact sizeS (by omega), ?_⟩
          have hsp : nb rods n h = (nb rods n h).take i ++ (pq, pl') :: (nb rods n h).drop (i + 1) := by
            have hi : i < (nb rods n h).length := (List.getElem?_eq_some_iff.mp hpr).1
            have e := (List.getElem?_eq_some_iff.mp hpr).2
            have := List.take_append_drop i (nb rods n h)
            rw [List.drop_eq_getElem_cons hi, e] at this
            exact this.symm
          obtain ⟨s1, s2, s3⟩ := sw_step wf d hh hm hne hsp hno (show pl' + Tb pq t = Tb h t by omega)
          refine ⟨k, Nat.lt_succ_self k, _, _, _, pre ++ [h], pq, rfl, (sm.trans sm3).mut hL, by rw [upd_same, List.map_append (l₁ := pre ++ [h])]; rfl, s1, s2, by rw [List.length_append, List.length_singleton]; omega, ?_⟩
          rw [hsw, s3, Option.map_map]
          congr 1
          funext z
          simp
        · refine ⟨rfl, _, _, rfl, fun q hq => ?_⟩
          rw [List.take_add_one, hpr] at hq
          rcases List.mem_append.mp hq with hq | hq
          · exact hno q hq
          · have : q = (pq, pl') := by simpa using hq
            subst this
            exact fun e => c (decide_eq_true (by
              show V.int ((pl' : Int) + (Tb pq t : Int)) = iv (Tb h t)
              have e : pl' + Tb pq t = Tb h t := e
              congr 1
              omega))
      · rintro σ H' ⟨rfl, v6, v7, rfl, hno⟩
        exfalso
        obtain ⟨q, hq, e⟩ := sw_some wf d hh hne
        have el : (ns.map V.ref).length = (nb rods n h).length := by rw [List.length_map, hP.1]
        rw [el, List.take_length] at hno
        exact hno q hq e
    · have e : h = t := by
        have c : ¬ (!decide (iv h = iv t)) = true := c
        have c : decide (iv h = iv t) = true := by simpa using c
        exact iv_inj.mp (of_decide_eq_true c)
      subst e
      refine ⟨_, rfl, L, _, rfl, .inl ⟨SqL.of hf, fun l hl => ?_⟩⟩
      refine q _ l (pre ++ [h]) Tb (sm2.trans (sm.trans (same_new hl))) upd_same hD ?_
      rw [hsw]
      show ((if h = h then [[h]] else _ : List (List Nat)).head?).map _ = _
      rw [if_pos rfl]
      rfl
end
end Lt
namespace Lt
open PySem L2 PyProof.Rows
section
variable {P : Program} {w : World} {K : PySem.W.Frag} {mg : Str → Option Value} {base : Heap}
def spWaysTo (K : PySem.W.Frag) (m : Nat) : Sp := fun vs H Q _ => ∃ (a p : Addr) (n : Nat) (rods : List Rod) (rs : List Addr) (h t : Nat) (F : Tab), vs = [.ref a, .ref p, iv h, iv t] ∧ Wf n rods ∧ NetAt K H a n rods ∧ TabAt H p rs n F ∧ h < n ∧ t < n ∧ IsD rods n 9999 F ∧ F h t < m ∧
  ∀ (H' : Hp), Same H H' → Q (iv (sw rods n (fun h => F h t) t m h).length) H'
theorem waysTo_step {f : Addr} {fd : FuncData} {m : Nat} (T : Txt K mg) (F : Fun K "ways_to" "ways_to" sWaysTo f fd) (mf : mg "ways_to" = some (.ref f)) (bf : Binds K fd ["net", "table", "one", "other"] []) (G : FnOk P w K mg base CX0 (m + 1) f fd ["net", "table", "one", "other"] (spWaysTo K m)) :
    FnOk P w K mg base CX0 (m + 2) f fd ["net", "table", "one", "other"] (spWaysTo K (m + 1)) := by
  obtain ⟨fb, fdb, Gb, mb, kb, bb⟩ := ok_neigh (P := P) (w := w) (base := base) T
  refine F.ok scWaysTo (fun vs H Q E h => ?_) (fun cdv A outer s H vs Q E hr h => ?_)
  · obtain ⟨a, p, n, rods, rs, h, t, F, rfl, _⟩ := h
    rfl
  · obtain ⟨a, p, n, rods, rs, h, t, F', rfl, wf, hnet, tb, hh, ht, hD, hm, q⟩ := h
    have hr1 : Room 1 _ := hr.mono (by omega)
    have nd := scWaysTo.nd
    have d := hD.dst wf ht
    refine ⟨_, pss_cons (ps_if (pt_cmpR op_eq (pv 2) (pv 3) (nomark _)) (pss_one (ps_ret pe_int)) pss_nil)
      (pss_cons (ps_set (i := 4) nd rfl (.inl rfl) pe_int)
      (pss_cons (ps_for PassesOwn.never rfl (pi_list (pe_call Gb hr1 (by rfl) mb kb bb .nil pass0 (pa_cons (pv 0) (pa_cons (pv 2) pa_nil)))) (pg_tup (by rfl) (pgs_cons (pg_name (i := 5) nd rfl (.inl rfl)) (pgs_cons (pg_name (i := 6) nd rfl (.inl rfl)) pgs_nil)))
        (pss_one (ps_if (pt_cmpR op_eq (pe_op op_add (pv 6) (pe_ix ix_list (pe_ix ix_list (pv 1) (pv 5) (fun _ _ => rfl)) (pv 3) (fun _ _ => rfl))) (pe_ix ix_list (pe_ix ix_list (pv 1) (pv 2) (fun _ _ => rfl)) (pv 3) (fun _ _ => rfl)) (nomark _))
          (pss_one (ps_aug (i := 4) nd rfl (.inl rfl) (pe_call G hr (by rfl) mf F.kp bf .nil pass0 (pa_cons (pv 0) (pa_cons (pv 1) (pa_cons (pv 5) (pa_cons (pv 3) pa_nil))))) ip_add)) pss_nil)))
      (pss_one (ps_ret (pv 4))))), ?_⟩
    refine ⟨_, rfl, _, rfl, rfl, _, rfl, ?_⟩
    refine ite2 (fun c => ?_) (fun c => ?_)
    · have e : h = t := iv_inj.mp (of_decide_eq_true c)
      have := q H (Same.refl H)
      have e2 : (sw rods n (fun h => F' h t) t (m + 1) h).length = 1 := by
        show (if h = t then [[t]] else _ : List (List Nat)).length = 1
        rw [if_pos e]
        rfl
      rw [e2] at this
      exact this
    · have hne : h ≠ t := fun e => c (decide_eq_true (by rw [e]))
      have esw : sw rods n (fun h => F' h t) t (m + 1) h = (nb rods n h).flatMap fun p => if p.2 + F' p.1 t = F' h t then (sw rods n (fun h => F' h t) t m p.1).map (h :: ·) else [] := if_neg hne
      refine ⟨_, rfl, _, rfl, a, n, rods, h, rfl, wf, hnet, fun H1 pl ns sm1 hpl hl hP => ?_⟩
      refine ⟨pl, rfl, ⟨_, SqL.of hl⟩, for_list (K := K) (a := pl) (xs := ns.map V.ref) (fun i σ H' => Same H1 H' ∧ ∃ (v5 v6 : Option V), σ = [some (.ref a), some (.ref p), some (iv h), some (iv t), some (iv (((nb rods n h).take i).flatMap fun p => if p.2 + F' p.1 t = F' h t then (sw rods n (fun h => F' h t) t m p.1).map (h :: ·) else []).length), v5, v6])
        ⟨Same.refl H1, none, none, rfl⟩ (fun i σ H' _ p => p.1.seq (SqL.of hl)) ?_ ?_⟩
      · rintro i x σ H' hx ⟨sm, v5, v6, rfl⟩
        obtain ⟨u, ⟨pq, pl'⟩, rfl, hu, hpr, hU⟩ := (hP.same sm).at hx
        have hlt := nb_lt wf (List.mem_of_getElem? hpr)
        have hq : pq < n := hlt.1
        have hl1 : 1 ≤ pl' := hlt.2
        have smH := sm1.trans sm
        have tb3 := tb.same smH
        have etk : (nb rods n h).take (i + 1) = (nb rods n h).take i ++ [(pq, pl')] := by
          rw [List.take_add_one, hpr]
          rfl
        refine ⟨u, _, rfl, SqT.of hU, rfl, _, _, rfl, _, _, rfl, rfl, ?_⟩
        refine ⟨_, rfl, ?_⟩
        refine tab_read (i := pq) (j := t) tb3 rfl rfl rfl hq ht ⟨_, _, rfl, rfl, ?_⟩
        refine tab_read (i := h) (j := t) tb3 rfl rfl rfl hh ht ⟨rfl, _, rfl, ?_⟩
        refine ite2 (fun c => ?_) (fun c => ?_)
        · have c : V.int ((pl' : Int) + (F' pq t : Int)) = iv (F' h t) := of_decide_eq_true c
          have c := V.int.inj c
          have c' : pl' + F' pq t = F' h t := by omega
          refine ⟨_, rfl, _, rfl, _, rfl, _, rfl, _, rfl, a, p, n, rods, rs, pq, t, F', rfl, wf, hnet.same smH, tb3, hq, ht, hD, by omega, fun H2 sm2 => ⟨_, _, rfl, rfl, sm.trans sm2, some (iv pq), some (iv pl'), ?_⟩⟩
          rw [etk, List.flatMap_append, List.length_append, List.flatMap_cons, List.flatMap_nil, List.append_nil]
          dsimp only
          rw [if_pos c', List.length_map]
          rfl
        · have c' : ¬ pl' + F' pq t = F' h t := fun e => c (decide_eq_true (by
            show V.int ((pl' : Int) + (F' pq t : Int)) = iv (F' h t)
            congr 1
            omega))
          refine ⟨sm, some (iv pq), some (iv pl'), ?_⟩
          rw [etk, List.flatMap_append, List.length_append, List.flatMap_cons, List.flatMap_nil, List.append_nil]
          dsimp only
          rw [if_neg c']
          rfl
      · rintro σ H' ⟨sm, v5, v6, rfl⟩
        have el : (ns.map V.ref).length = (nb rods n h).length := by rw [List.length_map, hP.1]
        rw [el, List.take_length, ← esw]
        exact ⟨_, rfl, q _ (sm1.trans sm)⟩
theorem waysTo_none {f : Addr} {fd : FuncData} {k : Nat} : FnOk P w K mg base CX0 k f fd ["net", "table", "one", "other"] (spWaysTo K 0) := by
  have no : ∀ vs H Q E, ¬ spWaysTo K 0 vs H Q E := fun vs H Q E h => by
    obtain ⟨a, p, n, rods, rs, h, t, F, _, _, _, _, _, _, _, hm, _⟩ := h
    omega
  exact ⟨fun vs H Q E h => absurd h (no vs H Q E), fun A outer s H args us vs Q E _ _ _ _ h => absurd h (no vs H Q E)⟩
theorem waysTo_all {f : Addr} {fd : FuncData} (T : Txt K mg) (F : Fun K "ways_to" "ways_to" sWaysTo f fd) (mf : mg "ways_to" = some (.ref f)) (bf : Binds K fd ["net", "table", "one", "other"] []) : ∀ m, FnOk P w K mg base CX0 (m + 1) f fd ["net", "table", "one", "other"] (spWaysTo K m)
  | 0 => waysTo_none
  | m + 1 => waysTo_step T F mf bf (waysTo_all T F mf bf m)
theorem ok_waysTo (T : Txt K mg) : OkOf P w K mg base 101 "ways_to" ["net", "table", "one", "other"] (spWaysTo K 100) := by
  obtain ⟨f, fd, F, mf, bf⟩ := T.waysTo
  exact ⟨f, fd, waysTo_all T F mf bf 100, mf, F.kp, bf⟩
def spNumber (K : PySem.W.Frag) : Sp := fun vs H Q _ => ∃ (a : Addr) (n : Nat) (rods : List Rod) (one t : Nat), vs = [.ref a, iv one, iv t] ∧ Wf n rods ∧ NetAt K H a n rods ∧ one < n ∧ t < n ∧
  ∀ (H' : Hp) (F : Tab), Same H H' → IsD rods n 9999 F → Q (iv (sw rods n (fun h => F h t) t 100 one).length) H'
theorem ok_number (T : Txt K mg) : OkOf P w K mg base 102 "number_of_ways" ["net", "one", "other"] (spNumber K) := okOf T.number fun f fd F => by
  obtain ⟨fn, fdn, Gn, mn, kn, bn⟩ := ok_needNet (P := P) (w := w) (base := base) T
  obtain ⟨fp, fdp, Gp, mp, kp, bp⟩ := ok_needPlace (P := P) (w := w) (base := base) T
  obtain ⟨ft, fdt, Gt, mt, kt, bt⟩ := ok_table (P := P) (w := w) (base := base) T
  obtain ⟨fy, fdy, Gy, my, ky, bY⟩ := ok_waysTo (P := P) (w := w) (base := base) T
  refine F.ok scNumber (fun vs H Q E h => ?_) (fun cdv A outer s H vs Q E hr h => ?_)
  · obtain ⟨a, n, rods, one, t, rfl, _⟩ := h
    rfl
  · obtain ⟨a, n, rods, one, t, rfl, wf, hnet, h1, ht, q⟩ := h
    have hr1 : Room 1 _ := hr.mono (by decide)
    have hr3 : Room 3 _ := hr.mono (by decide)
    refine ⟨_, pss_cons (ps_expr (pe_call Gn hr3 (by rfl) mn kn bn .nil pass0 (pa_cons (pv 0) pa_nil)))
      (pss_cons (ps_expr (pe_call Gp hr3 (by rfl) mp kp bp .nil pass0 (pa_cons (pv 0) (pa_cons (pv 1) pa_nil))))
      (pss_cons (ps_expr (pe_call Gp hr3 (by rfl) mp kp bp .nil pass0 (pa_cons (pv 0) (pa_cons (pv 2) pa_nil))))
      (pss_one (ps_ret (pe_call Gy hr (by rfl) my ky bY .nil pass0 (pa_cons (pv 0) (pa_cons (pe_call Gt hr1 (by rfl) mt kt bt .nil pass0 (pa_cons (pv 0) pa_nil)) (pa_cons (pv 1) (pa_cons (pv 2) pa_nil))))))))), ?_⟩
    have hnet0 := hnet
    obtain ⟨r, ts, hA, hR, hT⟩ := hnet0
    refine ⟨_, rfl, a, n, rods, rfl, wf, hnet, fun H1 sm1 => ?_⟩
    refine ⟨_, rfl, _, rfl, a, (n : Int), (one : Int), _, rfl, sm1.seqT hA, by omega, by omega, ?_⟩
    refine ⟨_, rfl, _, rfl, a, (n : Int), (t : Int), _, rfl, sm1.seqT hA, by omega, by omega, ?_⟩
    refine ⟨_, rfl, _, rfl, a, n, rods, rfl, wf.inN, wf.ne, wf.n6, hnet.same sm1, fun H2 p rs Tb tb hD => ?_⟩
    have d := hD.dst wf ht
    refine ⟨_, rfl, _, rfl, a, p, n, rods, rs, one, t, Tb, rfl, wf, hnet.same (sm1.trans tb.sm), tb.toTabAt, h1, ht, hD, d.sm one h1, fun H3 sm3 => ?_⟩
    exact q _ Tb ((sm1.trans tb.sm).trans sm3) hD
end
end Lt
namespace Lt
open PySem L2 PyProof.Rows
section
variable {K : PySem.W.Frag} {H H' : Hp} {Q : VK}
/-- a tuple's slice: the tuple itself, or a new one -/
theorem slA {a : Addr} {xs : List V} {lo hi : Option Int} (h : SqT K H a xs) (hlo : HT.sIx xs.length 0 lo ≤ xs.length) (q : ∀ (p : Addr) (H' : Hp), Same H H' → SqT K H' p (cutV xs lo hi) → Q (.ref p) H') : rSlA K (.ref a) lo hi H Q := by
  refine ⟨a, xs, rfl, h, fun hw => ?_, fun _ p hp => q p _ (same_new hp) (SqT.of upd_same)⟩
  refine q a H (Same.refl H) ?_
  have e : cutV xs lo hi = xs := by
    unfold cutV
    rw [hw.1, hw.2, List.drop_zero, Nat.sub_zero, List.take_length]
  rw [e]
  exact h
theorem catA {a b : Addr} {xs ys : List V} (ha : SqT K H a xs) (hb : SqT K H b ys) (hz : xs.length + ys.length ≤ sizeLine) (q : ∀ (p : Addr) (H' : Hp), Same H H' → SqT K H' p (xs ++ ys) → Q (.ref p) H') : rCatA K (.ref a) (.ref b) H Q := by
  refine ⟨a, b, xs, ys, rfl, rfl, ha, hb, hz, fun e => ?_, fun _ e => ?_, fun _ _ p hp => q p _ (same_new hp) (SqT.of upd_same)⟩
  · refine q b H (Same.refl H) ?_
    rw [e]
    exact hb
  · refine q a H (Same.refl H) ?_
    rw [e, List.append_nil]
    exact ha
theorem cut_take (xs : List V) (i : Nat) : cutV xs none (some (i : Int)) = xs.take i := by
  unfold cutV
  rw [HT.sIx_none, HT.sIx_nat, List.drop_zero, Nat.sub_zero]
  by_cases h : i ≤ xs.length
  · rw [Nat.min_eq_left h]
  · rw [Nat.min_eq_right (by omega), List.take_length, List.take_of_length_le (by omega)]
theorem cut_drop (xs : List V) (i : Nat) : cutV xs (some (i : Int)) none = xs.drop i := by
  unfold cutV
  rw [HT.sIx_none, HT.sIx_nat]
  by_cases h : i ≤ xs.length
  · rw [Nat.min_eq_left h, List.take_of_length_le (by rw [List.length_drop]; exact Nat.le_refl _)]
  · rw [Nat.min_eq_right (by omega), Nat.sub_self, List.take_zero, List.drop_of_length_le (by omega)]
theorem RodsAt.cut {ts : List Addr} {rods : List Rod} (h : RodsAt K H ts rods) (i : Nat) : RodsAt K H (ts.take i ++ ts.drop (i + 1)) (rods.take i ++ rods.drop (i + 1)) := by
  have hl := h.1
  refine ⟨by simp [hl], fun j t r ht hr => ?_⟩
  by_cases hj : j < (ts.take i).length
  · rw [List.getElem?_append_left hj] at ht
    have hj' : j < (rods.take i).length := by rw [List.length_take] at hj ⊢; omega
    rw [List.getElem?_append_left hj'] at hr
    have hji : j < i := by rw [List.length_take] at hj; omega
    rw [List.getElem?_take_of_lt hji] at ht hr
    exact h.2 j t r ht hr
  · have e : (ts.take i).length = (rods.take i).length := by rw [List.length_take, List.length_take, hl]
    rw [List.getElem?_append_right (by omega)] at ht hr
    rw [← e] at hr
    rw [List.getElem?_drop] at ht hr
    exact h.2 _ t r ht hr
end
/-- a rod is not needed -/
def Ndl (n : Nat) (rods : List Rod) (i : Nat) : Prop := ∃ (a b l : Nat) (F : Tab), rods[i]? = some (a, b, l) ∧ IsD (rods.take i ++ rods.drop (i + 1)) n 9999 F ∧ F a b ≤ l
open Classical in
noncomputable def ndl (n : Nat) (rods : List Rod) (k : Nat) : List Nat := (List.range k).filter fun i => decide (Ndl n rods i)
open Classical in
theorem ndl_succ (n : Nat) (rods : List Rod) (k : Nat) : (Ndl n rods k → ndl n rods (k + 1) = ndl n rods k ++ [k]) ∧ (¬ Ndl n rods k → ndl n rods (k + 1) = ndl n rods k) := by
  unfold ndl
  rw [List.range_succ, List.filter_append]
  constructor
  · intro h
    rw [List.filter_cons_of_pos (by simpa using h)]
    rfl
  · intro h
    rw [List.filter_cons_of_neg (by simpa using h), List.filter_nil, List.append_nil]
theorem ndl_len (n : Nat) (rods : List Rod) (k : Nat) : (ndl n rods k).length ≤ k := by
  unfold ndl
  refine Nat.le_trans (List.length_filter_le _ _) ?_
  rw [List.length_range]
  exact Nat.le_refl _
theorem rest_sub {rods : List Rod} {i : Nat} : ∀ r ∈ rods.take i ++ rods.drop (i + 1), r ∈ rods := fun r hr => by
  rcases List.mem_append.mp hr with h | h
  · exact List.mem_of_mem_take h
  · exact List.mem_of_mem_drop h
theorem ndl_iff {n : Nat} {rods : List Rod} {i a b l : Nat} {F : Tab} (hi : InN n rods) (hr : rods[i]? = some (a, b, l)) (hF : IsD (rods.take i ++ rods.drop (i + 1)) n 9999 F) : Ndl n rods i ↔ F a b ≤ l := by
  obtain ⟨ha, hb, _⟩ := hi _ (List.mem_of_getElem? hr)
  constructor
  · rintro ⟨a', b', l', F', h1, h2, h3⟩
    rw [hr] at h1
    cases h1
    rw [hF.uniq h2 ha hb]
    exact h3
  · intro h
    exact ⟨a, b, l, F, hr, hF, h⟩
section
variable {P : Program} {w : World} {K : PySem.W.Frag} {mg : Str → Option Value} {base : Heap}
def spNeedless (K : PySem.W.Frag) : Sp := fun vs H Q _ => ∃ (a : Addr) (n : Nat) (rods : List Rod), vs = [.ref a] ∧ Wf n rods ∧ NetAt K H a n rods ∧
  ∀ (H' : Hp) (l : Addr), Same H H' → H' l = some (.tup ((ndl n rods rods.length).map iv)) → Q (.ref l) H'
theorem ok_needless (T : Txt K mg) : OkOf P w K mg base 4 "needless_rods" ["net"] (spNeedless K) := okOf T.needless fun f fd F => by
  obtain ⟨fn, fdn, Gn, mn, kn, bn⟩ := ok_needNet (P := P) (w := w) (base := base) T
  obtain ⟨ft, fdt, Gt, mt, kt, bt⟩ := ok_table (P := P) (w := w) (base := base) T
  refine F.ok scNeedless (fun vs H Q E h => ?_) (fun cdv A outer s H vs Q E hr h => ?_)
  · obtain ⟨a, n, rods, rfl, _⟩ := h
    rfl
  · obtain ⟨a, n, rods, rfl, wf, hnet, q⟩ := h
    have hr1 : Room 1 _ := hr.mono (by decide)
    have nd := scNeedless.nd
    refine ⟨_, pss_cons (ps_expr (pe_call Gn hr (by rfl) mn kn bn .nil pass0 (pa_cons (pv 0) pa_nil)))
      (pss_cons (ps_set (i := 1) nd rfl (.inl rfl) (pe_lst pa_nil))
      (pss_cons (ps_for PassesOwn.never rfl (pi_enumT rfl T.bEnumerate (pa_cons (pe_ix ix_tup (pv 0) pe_int (fun _ _ => rfl)) pa_nil)) (pg_tup (by rfl) (pgs_cons (pg_name (i := 2) nd rfl (.inl rfl)) (pgs_cons (pg_tup (by rfl) (pgs_cons (pg_name (i := 3) nd rfl (.inl rfl)) (pgs_cons (pg_name (i := 4) nd rfl (.inl rfl)) (pgs_cons (pg_name (i := 5) nd rfl (.inl rfl)) pgs_nil)))) pgs_nil)))
        (pss_cons (ps_set (i := 6) nd rfl (.inl rfl) (pe_tup (pa_cons (pe_ix ix_tup (pv 0) pe_int (fun _ _ => rfl)) (pa_cons (pe_op op_catA (pe_slice sl_tupA (pe_ix ix_tup (pv 0) pe_int (fun _ _ => rfl)) po_none (po_some (pv 2)))
            (pe_slice sl_tupA (pe_ix ix_tup (pv 0) pe_int (fun _ _ => rfl)) (po_some (pe_op op_add (pv 2) pe_int)) po_none)) pa_nil))))
        (pss_one (ps_if (pt_cmpR op_le (pe_ix ix_list (pe_ix ix_list (pe_call Gt hr1 (by rfl) mt kt bt .nil pass0 (pa_cons (pv 6) pa_nil)) (pv 3) (fun _ _ => rfl)) (pv 4) (fun _ _ => rfl)) (pv 5) (nomark _))
          (pss_one (ps_expr (pe_bm PySem.F.plainAttrs_list PySem.F.slot_list_append PySem.F.type_list_append mt_append (pv 1) (pa_cons (pv 2) pa_nil)))) pss_nil))))
      (pss_one (ps_ret (pe_callTy call_tuple_of (by rfl) T.bTuple (by decide +kernel) (pa_cons (pv 1) pa_nil)))))), ?_⟩
    have hnet0 := hnet
    obtain ⟨r, ts, hA, hR, hT⟩ := hnet0
    have hfew := wf.few
    refine ⟨_, rfl, a, n, rods, rfl, wf, hnet, fun H1 sm1 => ?_⟩
    refine ⟨Nat.zero_le _, fun L hL => ?_⟩
    have hLH : H L = none := sm1.free hL
    have smL : Same H (upd H1 L (.lst [])) := sm1.mut hLH
    refine ⟨_, rfl, a, _, 1, _, rfl, rfl, smL.seqT hA, rfl, r, _, rfl, smL.seqT hR, for_enumT (K := K) (a := r) (xs := ts.map V.ref) (fun i σ H' => ∃ (v2 v3 v4 v5 v6 : Option V), σ = [some (.ref a), some (.ref L), v2, v3, v4, v5, v6] ∧ Same H H' ∧ H' L = some (.lst ((ndl n rods i).map iv)))
      ⟨none, none, none, none, none, rfl, smL, upd_same⟩ (fun i σ H' _ p => by obtain ⟨_, _, _, _, _, _, p, _⟩ := p; exact p.seqT hR) ?_ ?_⟩
    · rintro i x T' σ H' hx ⟨v2, v3, v4, v5, v6, rfl, sm, hf⟩ hT'
      obtain ⟨t, ⟨ra, rb, rl⟩, rfl, ht, hrod, hS⟩ := hT.at hx
      obtain ⟨ha, hb, _, _⟩ := wf.inN _ (List.mem_of_getElem? hrod)
      have ha : ra < n := ha
      have hb : rb < n := hb
      have hi : i < rods.length := (List.getElem?_eq_some_iff.mp hrod).1
      have sm0 := sm.trans (same_new (o := .tup [.int (i : Nat), .ref t]) hT')
      have hf0 := same_new (o := .tup [.int (i : Nat), .ref t]) hT' _ _ hf
      refine ⟨T', _, rfl, SqT.of upd_same, rfl, _, _, rfl, _, _, rfl, ⟨t, _, rfl, sm0.seqT hS, rfl, _, _, rfl, _, _, rfl, _, _, rfl, rfl, rfl, ?_⟩⟩
      -- rest
      refine ⟨_, rfl, a, _, 0, _, rfl, rfl, sm0.seqT hA, rfl, ?_⟩
      refine ⟨_, rfl, a, _, 1, _, rfl, rfl, sm0.seqT hA, rfl, _, rfl, (i : Int), rfl, ?_⟩
      refine slA (sm0.seqT hR) (by rw [HT.sIx_none]; exact Nat.zero_le _) fun p1 H2 sm2 hp1 => ?_
      have sm2' := sm0.trans sm2
      refine ⟨_, rfl, a, _, 1, _, rfl, rfl, sm2'.seqT hA, rfl, _, rfl, _, _, rfl, rfl, _, rfl, ?_⟩
      rw [cut_take] at hp1
      have ei : ((i : Int) + 1) = ((i + 1 : Nat) : Int) := by omega
      unfold tNoPart
      dsimp only
      rw [ei]
      refine slA (sm2'.seqT hR) (HT.sIx_le _ _ (Nat.zero_le _) _) fun p2 H3 sm3 hp2 => ?_
      rw [cut_drop] at hp2
      refine catA (sm3.seqT hp1) hp2 (by rw [List.length_take, List.length_drop, List.length_map, hT.1]; exact sizeL (by omega)) fun p3 H4 sm4 hp3 => ?_
      refine ⟨(by show 2 ≤ sizeLine; decide), fun p4 hp4 => ?_⟩
      have sm4' := sm2'.trans (sm3.trans sm4)
      have sm5 := sm4'.trans (same_new (o := .tup [.int (n : Int), .ref p3]) hp4)
      have hf5 : (upd H4 p4 (.tup [.int (n : Int), .ref p3])) L = some (.lst ((ndl n rods i).map iv)) := (same_new (o := .tup [.int (n : Int), .ref p3]) hp4) _ _ (sm4 _ _ (sm3 _ _ (sm2 _ _ hf0)))
      have hrest : NetAt K (upd H4 p4 (.tup [.int (n : Int), .ref p3])) p4 n (rods.take i ++ rods.drop (i + 1)) := by
        refine ⟨p3, ts.take i ++ ts.drop (i + 1), SqT.of upd_same, ?_, (hT.same sm5).cut i⟩
        rw [List.map_append, List.map_take, List.map_drop]
        exact (same_new hp4).seqT hp3
      refine ⟨_, rfl, p4, n, _, rfl, wf.inN.sub rest_sub, fun r hr => wf.ne r (rest_sub r hr), wf.n6, hrest, fun H6 pt rs Tb tb hD => ?_⟩
      have hiff := ndl_iff wf.inN hrod hD
      obtain ⟨rr, g1, g2, g3⟩ := tb.toTabAt.get ha
      refine ⟨_, rfl, pt, _, _, _, rfl, rfl, SqL.of tb.lst, atI_nat g2, _, rfl, rr, _, _, _, rfl, rfl, SqL.of g3, atI_nat (rowV_get hb), _, rfl, _, _, rfl, rfl, _, rfl, ?_⟩
      have hf6 := tb.sm _ _ hf5
      have sm6 := sm5.trans tb.sm
      refine ite2 (fun c => ?_) (fun c => ?_)
      · have c : ((Tb ra rb : Nat) : Int) ≤ ((rl : Nat) : Int) := of_decide_eq_true c
        refine ⟨_, rfl, .inl ⟨rfl, _, SqL.of hf6⟩, _, rfl, L, _, _, rfl, rfl, hf6, ?_, ?_⟩
        · rw [List.length_map]
          have := ndl_len n rods i
          exact sizeS (by omega)
        · refine ⟨_, _, _, _, _, rfl, sm6.mut hLH, ?_⟩
          rw [upd_same, (ndl_succ n rods i).1 (hiff.mpr (by omega)), List.map_append]
          rfl
      · have c : ¬ ((Tb ra rb : Nat) : Int) ≤ ((rl : Nat) : Int) := fun z => c (decide_eq_true z)
        refine ⟨_, _, _, _, _, rfl, sm6, ?_⟩
        rw [(ndl_succ n rods i).2 fun z => c (by have := hiff.mp z; omega)]
        exact hf6
    · rintro σ H' ⟨v2, v3, v4, v5, v6, rfl, sm, hf⟩
      rw [hT.len] at hf
      refine ⟨_, rfl, L, _, rfl, .inl ⟨SqL.of hf, fun l hl => ?_⟩⟩
      exact q _ l (sm.trans (same_new hl)) upd_same
end
end Lt
namespace Lt
open PySem L2 PyProof.Rows
/-- all but the object at p is as it was -/
def But (p : Addr) (H H' : Hp) : Prop := ∀ b o, b ≠ p → H b = some o → H' b = some o
section
variable {K : PySem.W.Frag} {H H' H2 : Hp} {p : Addr}
theorem But.upd {o : HO} : But p H (upd H p o) := fun b u hb h => by rw [upd_ne hb]; exact h
theorem But.trans (a : But p H H') (b : But p H' H2) : But p H H2 := fun x o hx h => b x o hx (a x o hx h)
theorem But.refl : But p H H := fun _ _ _ h => h
theorem But.seq (e : But p H H') {a : Addr} {xs : List V} (hn : a ≠ p) (h : SqL K H a xs) : SqL K H' a xs := by
  rcases h with (h | ⟨o, h⟩) | h
  · exact .inl (.inl (e _ _ hn h))
  · exact .inl (.inr ⟨o, e _ _ hn h⟩)
  · exact .inr h
/-- the script, beside the row -/
def ScAt (K : PySem.W.Frag) (H : Hp) (row sa : Addr) (xs : List V) : Prop := (Rd H sa (.lst xs) ∧ sa ≠ row) ∨
  ∃ (o : Obj) (its : Array Value) (n : Nat), K.lookup sa = some o ∧ o.cls = .type "list" ∧ o.dict = none ∧ o.data = .seq its n ∧ its.size ≤ sizeLine ∧ Vals xs its.toList
theorem ScAt.sq {row sa : Addr} {xs : List V} (h : ScAt K H row sa xs) : SqL K H sa xs := h.imp (fun z => z.1) id
theorem ScAt.but {row sa : Addr} {xs : List V} (h : ScAt K H row sa xs) (e : But row H H') : ScAt K H' row sa xs := by
  rcases h with ⟨h | ⟨o, h⟩, hn⟩ | h
  · exact .inl ⟨.inl (e _ _ hn h), hn⟩
  · exact .inl ⟨.inr ⟨o, e _ _ hn h⟩, hn⟩
  · exact .inr h
theorem ScAt.same {row sa : Addr} {xs : List V} (h : ScAt K H row sa xs) (e : Same H H') : ScAt K H' row sa xs := h.but fun b o _ q => e b o q
/-- the law's row of draws -/
def RowAt (K : PySem.W.Frag) (H : Hp) (row : Addr) : Prop := ∃ (sa : Addr) (ns : List Int) (z1 z2 z3 : Int), H row = some (.lst [.ref sa, .int z1, .int z2, .int z3]) ∧ ScAt K H row sa (ns.map V.int) ∧ 0 ≤ z1 ∧ 0 ≤ z2 ∧ z2 < 2147483647
/-- the same, kept by what makes new objects -/
theorem RowAt.same {row : Addr} (h : RowAt K H row) (e : Same H H') : RowAt K H' row := by
  obtain ⟨sa, ns, z1, z2, z3, h1, h2, h3⟩ := h
  exact ⟨sa, ns, z1, z2, z3, e _ _ h1, h2.same e, h3⟩
end
section
variable {P : Program} {w : World} {K : PySem.W.Frag} {mg : Str → Option Value} {base : Heap}
def spTaken (K : PySem.W.Frag) : Sp := fun vs H Q _ => ∃ (row : Addr) (m : Nat), vs = [.ref row, iv m] ∧ RowAt K H row ∧ 1 ≤ m ∧ m ≤ 1000 ∧ ∀ (H' : Hp) (v : Nat), v < m → RowAt K H' row → But row H H' → Q (iv v) H'
theorem ok_taken (T : Txt K mg) : OkOf P w K mg base 1 "_law_taken" ["_law_row", "_law_many"] (spTaken K) := okOf T.taken fun f fd F => by
  refine F.ok scTaken (fun vs H Q E h => ?_) (fun cdv A outer s H vs Q E hr h => ?_)
  · obtain ⟨row, m, rfl, _⟩ := h
    rfl
  · obtain ⟨row, m, rfl, ⟨sa, ns, z1, z2, z3, hrow, hsc, h1, h2, h2'⟩, hm1, hm2, q⟩ := h
    have hs := hsc.sq
    have nd := scTaken.nd
    have R : ∀ {i : Nat}, True := trivial
    refine ⟨_, pss_cons (ps_if (pt_cmpR op_gt (pe_ix ix_list (pv 0) pe_int (fun _ _ => rfl)) pe_int (nomark _))
        (pss_cons (ps_set (i := 2) nd rfl (.inl rfl) (pe_op op_mod (pe_callTy call_int1 (by rfl) T.bInt (by decide +kernel) (pa_cons (pe_ix ix_list (pv 0) pe_int (fun _ _ => rfl)) pa_nil)) (pv 1)))
        (pss_cons (ps_asg (pe_op op_fdiv (pe_ix ix_list (pv 0) pe_int (fun _ _ => rfl)) (pv 1)) (pg_sub (pv 0) pe_int set_list))
        (pss_one (ps_ret (pv 2))))) pss_nil)
      (pss_cons (ps_asg (pe_op op_add (pe_ix ix_list (pv 0) pe_int (fun _ _ => rfl)) pe_int) (pg_sub (pv 0) pe_int set_list))
      (pss_cons (ps_if (pt_cmpR op_gt (pe_ix ix_list (pv 0) pe_int (fun _ _ => rfl)) (pe_callB call_len_seq (by rfl) T.bLen PySem.boot_len (pa_cons (pe_ix ix_list (pv 0) pe_int (fun _ _ => rfl)) pa_nil)) (nomark _))
        (pss_cons (ps_asg (pe_op op_mod (pe_callTy call_int1 (by rfl) T.bInt (by decide +kernel) (pa_cons (pe_op op_add (pe_op op_mul (pe_ix ix_list (pv 0) pe_int (fun _ _ => rfl)) pe_int) pe_int) pa_nil)) pe_int) (pg_sub (pv 0) pe_int set_list))
        (pss_one (ps_ret (pe_op op_mod (pe_callTy call_int1 (by rfl) T.bInt (by decide +kernel) (pa_cons (pe_op op_fdiv (pe_ix ix_list (pv 0) pe_int (fun _ _ => rfl)) pe_int) pa_nil)) (pv 1))))) pss_nil)
      (pss_cons (ps_set (i := 3) nd rfl (.inl rfl) (pe_ix ix_list (pe_ix ix_list (pv 0) pe_int (fun _ _ => rfl)) (pe_op op_sub (pe_ix ix_list (pv 0) pe_int (fun _ _ => rfl)) pe_int) (fun _ _ => rfl)))
      (pss_cons (ps_asg (pe_op op_mod (pe_callTy call_int1 (by rfl) T.bInt (by decide +kernel) (pa_cons (pe_op op_add (pe_op op_add (pe_op op_mul (pe_ix ix_list (pv 0) pe_int (fun _ _ => rfl)) pe_int) (pv 3)) pe_int) pa_nil)) pe_int) (pg_sub (pv 0) pe_int set_list))
      (pss_cons (ps_if (pt_cmpR op_ge (pv 3) (pe_op op_pow pe_int pe_int) (nomark _)) (pss_one (ps_asg (pe_op op_fdiv (pv 3) (pv 1)) (pg_sub (pv 0) pe_int set_list))) pss_nil)
      (pss_one (ps_ret (pe_op op_mod (pe_callTy call_int1 (by rfl) T.bInt (by decide +kernel) (pa_cons (pv 3) pa_nil)) (pv 1))))))))), ?_⟩
    have hm0 : (0 : Int) < (m : Int) := by omega
    have hmb : (m : Int) < 1073741824 := by omega
    -- the ends
    have fin : ∀ (z : Int) (H' : Hp) (z1 z2 z3 : Int), H' row = some (.lst [.ref sa, .int z1, .int z2, .int z3]) → But row H H' → 0 ≤ z1 → 0 ≤ z2 → z2 < 2147483647 → Q (.int (z % (m : Int))) H' := fun z H' z1 z2 z3 e1 e2 e3 e4 e5 => by
      have p0 : 0 ≤ z % (m : Int) := Int.emod_nonneg _ (by omega)
      have p1 : z % (m : Int) < (m : Int) := Int.emod_lt_of_pos _ hm0
      have e : z % (m : Int) = (((z % (m : Int)).toNat : Nat) : Int) := by omega
      rw [e]
      exact q H' _ (by omega) ⟨sa, ns, z1, z2, z3, e1, hsc.but e2, e3, e4, e5⟩ e2
    have md : ∀ z : Int, 0 ≤ z % 2147483647 ∧ z % 2147483647 < 2147483647 := fun z => ⟨Int.emod_nonneg _ (by decide), Int.emod_lt_of_pos _ (by decide)⟩
    refine ⟨_, rfl, row, _, 3, _, rfl, rfl, SqL.of hrow, rfl, z3, 0, rfl, rfl, _, rfl, ?_⟩
    refine ite2 (fun c => ?_) (fun c => ?_)
    · refine ⟨_, rfl, row, _, 3, _, rfl, rfl, SqL.of hrow, rfl, .inl ⟨z3, rfl, _, rfl, _, _, rfl, rfl, hm0, ?_⟩⟩
      refine ⟨_, rfl, row, _, 3, _, rfl, rfl, SqL.of hrow, rfl, _, rfl, _, _, rfl, rfl, ⟨hm0, hmb⟩, _, rfl, row, _, 3, 3, rfl, rfl, hrow, rfl, _, rfl, ?_⟩
      exact fin z3 _ z1 z2 _ upd_same But.upd h1 h2 h2'
    · refine ⟨_, rfl, row, _, 1, _, rfl, rfl, SqL.of hrow, rfl, z1, 1, rfl, rfl, _, rfl, row, _, 1, 1, rfl, rfl, hrow, rfl, ?_⟩
      have hrow1 : (upd H row (.lst [.ref sa, .int (z1 + 1), .int z2, .int z3])) row = some (.lst [.ref sa, .int (z1 + 1), .int z2, .int z3]) := upd_same
      have b1 : But row H (upd H row (.lst [.ref sa, .int (z1 + 1), .int z2, .int z3])) := But.upd
      have hs1 := (hsc.but b1).sq
      refine ⟨_, rfl, row, _, 1, _, rfl, rfl, SqL.of hrow1, rfl, _, rfl, row, _, 0, _, rfl, rfl, SqL.of hrow1, rfl, sa, _, rfl, .inl hs1, z1 + 1, _, rfl, rfl, _, rfl, ?_⟩
      refine ite2 (fun c => ?_) (fun c => ?_)
      · refine ⟨_, rfl, row, _, 2, _, rfl, rfl, SqL.of hrow1, rfl, z2, 48271, rfl, rfl, .inl ⟨by omega, by omega⟩, _, 11, rfl, rfl, .inl ⟨_, rfl, _, 2147483647, rfl, rfl, (by show (0 : Int) < 2147483647; decide), _, rfl, row, _, 2, 2, rfl, rfl, hrow1, rfl, ?_⟩⟩
        have b2 := b1.trans (But.upd (o := .lst [.ref sa, .int (z1 + 1), .int ((z2 * 48271 + 11) % 2147483647), .int z3]))
        refine ⟨_, rfl, row, _, 2, _, rfl, rfl, SqL.of upd_same, rfl, _, 7, rfl, rfl, ⟨by decide, by decide⟩, .inl ⟨_, rfl, _, rfl, _, _, rfl, rfl, hm0, ?_⟩⟩
        exact fin _ _ _ _ _ upd_same b2 (by omega) (md _).1 (md _).2
      · have c : ¬ (((ns.map V.int).length : Int) < z1 + 1) := fun z => c (decide_eq_true z)
        rw [List.length_map] at c
        obtain ⟨j, rfl⟩ : ∃ j : Nat, z1 = (j : Int) := ⟨z1.toNat, by omega⟩
        have hj : j < ns.length := by omega
        have hget : (ns.map V.int)[j]? = some (.int ns[j]) := by rw [List.getElem?_map, List.getElem?_eq_getElem hj]; rfl
        refine ⟨_, rfl, row, _, 0, _, rfl, rfl, SqL.of hrow1, rfl, _, rfl, row, _, 1, _, rfl, rfl, SqL.of hrow1, rfl, _, 1, rfl, rfl, sa, _, _, .int ns[j], rfl, rfl, hs1, at_of (j := j) (by omega) hget, ?_⟩
        refine ⟨_, rfl, row, _, 2, _, rfl, rfl, SqL.of hrow1, rfl, z2, 48271, rfl, rfl, .inl ⟨by omega, by omega⟩, _, rfl, _, _, rfl, rfl, _, 11, rfl, rfl, .inl ⟨_, rfl, _, 2147483647, rfl, rfl, (by show (0 : Int) < 2147483647; decide), _, rfl, row, _, 2, 2, rfl, rfl, hrow1, rfl, ?_⟩⟩
        have hrow2 : (upd (upd H row (.lst [.ref sa, .int ((j : Int) + 1), .int z2, .int z3])) row (.lst [.ref sa, .int ((j : Int) + 1), .int ((z2 * 48271 + ns[j] + 11) % 2147483647), .int z3])) row = some (.lst [.ref sa, .int ((j : Int) + 1), .int ((z2 * 48271 + ns[j] + 11) % 2147483647), .int z3]) := upd_same
        have b2 := b1.trans (But.upd (o := .lst [.ref sa, .int ((j : Int) + 1), .int ((z2 * 48271 + ns[j] + 11) % 2147483647), .int z3]))
        refine ⟨_, rfl, 10, 18, rfl, rfl, ⟨by decide, by decide, by decide⟩, _, _, rfl, rfl, _, rfl, ?_⟩
        refine ite2 (fun c => ?_) (fun c => ?_)
        · refine ⟨_, rfl, _, rfl, _, _, rfl, rfl, ⟨hm0, hmb⟩, _, rfl, row, _, 3, 3, rfl, rfl, hrow2, rfl, ?_⟩
          refine ⟨_, rfl, .inl ⟨_, rfl, _, rfl, _, _, rfl, rfl, hm0, ?_⟩⟩
          exact fin _ _ _ _ _ upd_same (b2.trans But.upd) (by omega) (md _).1 (md _).2
        · refine ⟨_, rfl, .inl ⟨_, rfl, _, rfl, _, _, rfl, rfl, hm0, ?_⟩⟩
          exact fin _ _ _ _ _ hrow2 b2 (by omega) (md _).1 (md _).2
def spPick (K : PySem.W.Frag) : Sp := fun vs H Q _ => ∃ (row l : Addr) (xs : List V), vs = [.ref row, .ref l] ∧ RowAt K H row ∧ H l = some (.lst xs) ∧ l ≠ row ∧ 1 ≤ xs.length ∧ xs.length ≤ 1000 ∧ ∀ (H' : Hp) (x : V), x ∈ xs → RowAt K H' row → But row H H' → Q x H'
theorem ok_pick (T : Txt K mg) : OkOf P w K mg base 2 "_law_pick" ["_law_row", "_law_things"] (spPick K) := okOf T.pick fun f fd F => by
  obtain ⟨ft, fdt, Gt, mt, kt, bt⟩ := ok_taken (P := P) (w := w) (base := base) T
  refine F.ok scPick (fun vs H Q E h => ?_) (fun cdv A outer s H vs Q E hr h => ?_)
  · obtain ⟨row, l, xs, rfl, _⟩ := h
    rfl
  · obtain ⟨row, l, xs, rfl, hrow, hl, hne, h1, h2, q⟩ := h
    refine ⟨_, pss_one (ps_ret (pe_ix ix_list (pv 1) (pe_call Gt hr (by rfl) mt kt bt .nil pass0 (pa_cons (pv 0) (pa_cons (pe_callB call_len_seq (by rfl) T.bLen PySem.boot_len (pa_cons (pv 1) pa_nil)) pa_nil))) (fun _ _ => rfl))), ?_⟩
    refine ⟨_, rfl, _, rfl, _, rfl, l, _, rfl, .inl (SqL.of hl), row, xs.length, rfl, hrow, h1, h2, fun H' v hv hrow' hb => ?_⟩
    exact ⟨l, xs, _, xs[v], rfl, rfl, SqL.of (hb _ _ hne hl), atI_nat (List.getElem?_eq_getElem hv), q _ _ (List.getElem_mem hv) hrow' hb⟩
end
end Lt
namespace Lt
open PySem PySem.Spec PyProof.Rows L2
section
variable {X : Cx}
/-- sorted(d), the keys pairs of ints -/
def rSortedDT : List V → Hp → VK → Prop := fun xs H Q => ∃ (a : Addr) (kvs : List (List Key × V)), xs = [.ref a] ∧ Rd H a (.dT kvs) ∧ (∀ p ∈ kvs, ∃ i j : Int, p.1 = [Sum.inl i, Sum.inl j]) ∧
  ∀ (bs : List Addr) (ys : List V) (p : Addr), IsKeys H kvs bs → ys.Perm (bs.map V.ref) → SrtO.Srtd (ltP (keyP H)) ys → H p = none → Q (.ref p) (upd H p (.lst ys))
theorem isKeys_at {H : Hp} : ∀ {kvs : List (List Key × V)} {bs : List Addr}, IsKeys H kvs bs → ∀ b ∈ bs, ∃ p ∈ kvs, H b = some (.tup (p.1.map kV))
  | _, _, .nil, b, hb => by cases hb
  | _, _, .cons (a := p) h t, b, hb => by
    rcases List.mem_cons.mp hb with e | hb
    · subst e
      exact ⟨_, List.mem_cons_self, h⟩
    · obtain ⟨q, hq, e⟩ := isKeys_at t b hb
      exact ⟨q, List.mem_cons_of_mem _ hq, e⟩
theorem cr_sortedDT (hc : X.calm = true) : CallR X (.builtin "sorted") rSortedDT := by
  intro pins s σ H xs us Q I r h
  obtain ⟨d, kvs, rfl, hd, hpair, q⟩ := h
  obtain ⟨u, rfl, rx⟩ := r.one
  cases rx
  obtain ⟨z, hs, ks, pr, o, es, ep, ho, hx, hdt, he, hn⟩ := (show ObjOk X.prog X.w H s.heap d (.dT kvs) from hd.ok I.hok)
  have l1 : es.size = ks.length := size_of_entries he
  have l2 : kvs.length = ks.length := Paired.length pr
  have h16 : es.size ≤ sizeLine := by omega
  refine Calls.call_function_entry PyProof.Rows.kind_sorted PyProof.Rows.plain_sorted PyProof.Rows.entry_sorted (PyProof.Rows.args_sorted1 _) ?_
  unfold Builtin.«sorted»
  refine wpAny_bind (m := checkCount "sorted" 1 1 _) (wpAny_pure ?_)
  refine wpAny_bind (PySem.W.kdu_collect (A := X.A.in1) (kdl_raw hs hx hdt) (I.ok.hd hc) ho h16 fun h' tk acc' kp it => ?_)
  have ea : acc'.toList = ks.map fun x => Value.ref x.2.1 := by
    have hl : acc'.toList.length = ks.length := by rw [Array.length_toList, it.1]; exact l1
    apply List.ext_getElem?
    intro j
    rw [List.getElem?_map]
    cases hj : acc'.toList[j]? with
    | none =>
      have h1 := List.getElem?_eq_none_iff.mp hj
      rw [List.getElem?_eq_none (by omega)]
      all_goals rfl
    | some v =>
      obtain ⟨en, hen, hv⟩ := it.2 j v (by rw [← Array.getElem?_toList]; exact hj)
      have qe := entry_at he j
      rw [hen] at qe
      cases hb : ks[j]? with
      | none =>
        rw [hb] at qe
        exact nomatch (show some en = none from qe)
      | some b =>
        rw [hb] at qe
        have e2 : en = entryOfKey (tupleKind (mixKind X.prog X.w)) b := Option.some.inj qe
        rw [hv, e2]
        all_goals rfl
  have hkeys := isKeys_of pr
  generalize hbs : (ks.map fun x => x.2.1) = bs at hkeys
  have eb : acc'.toList = bs.map Value.ref := by rw [ea, ← hbs, List.map_map]; all_goals rfl
  have hlen : acc'.toList.length ≤ sizeLine := by rw [ea, List.length_map]; omega
  have I1 : Inv X pins σ H { s with heap := h', toks := tk } := I.kept kp
  refine wpAny_bind (wpAny_newList ?_ hlen)
  have hoL : (h'.push (seqObj "list" acc'.toList.toArray 0)).get? h'.objs.size = some (seqObj "list" acc'.toList.toArray 0) := Heap.get?_push_size _ rfl
  show wpAny _ _ _ _ _ { s with heap := h'.push (seqObj "list" acc'.toList.toArray 0), toks := tk }
  have hpairs : ∀ v ∈ acc'.toList, Srt.IsPair h' v (keyP H (backV v)).1 (keyP H (backV v)).2 := fun v hv => by
    rw [eb] at hv
    obtain ⟨b, hb, rfl⟩ := List.mem_map.mp hv
    obtain ⟨p, hp, hH⟩ := isKeys_at hkeys b hb
    obtain ⟨i, j, ep⟩ := hpair p hp
    rw [ep] at hH
    have hH : H b = some (.tup [.int i, .int j]) := hH
    obtain ⟨_, its2, r2, ob, hob, hcb, n, hdb⟩ := (show ObjOk X.prog X.w H h' b (.tup [.int i, .int j]) from I1.hok b _ hH)
    obtain ⟨u1, u2, rfl, ri, rj⟩ := vals2 r2
    obtain ⟨t1, rfl⟩ := ri
    obtain ⟨t2, rfl⟩ := rj
    have ek : keyP H (backV (Value.ref b)) = (i, j) := keyP_of hH
    rw [ek]
    exact ⟨b, ob, t1, t2, n, rfl, hob, hcb, hdb⟩
  have eback : acc'.toList.map backV = bs.map V.ref := by rw [eb, List.map_map]; rfl
  refine wpAny_bind (wpAny_holding (wpAny_call_entry PyProof.Rows.slot_list_sort ⟨_, hoL, rfl⟩ PyProof.Rows.entry_list_sort
    (SrtO.list_sort_ord (s := { s with heap := h'.push (seqObj "list" acc'.toList.toArray 0), toks := tk }) (ltv := fun v u => SrtO.lexB (keyP H (backV v)) (keyP H (backV u))) (SrtO.swo_lex _) hoL hlen
      (fun h2 => SrtO.pairs_sortableO (by omega) (fun v hv => (hpairs v hv).keeps fun b ob e _ => Heap.get?_push_of_some _ e) fun ob e c => ?_) fun out h1 h2 => ⟨_, rfl, ?_⟩) (PyProof.Rows.args_list_sort _)))
  · have e' := e.symm.trans hoL
    cases e'
    exact absurd (Value.type.inj c) (by decide)
  obtain ⟨e', he'⟩ := PyProof.Rows.sortedHeap_at (vs := acc'.toList) (out := out.toArray) hoL
  have hperm : (out.map backV).Perm (bs.map V.ref) := by
    rw [← eback]
    exact h2.perm.map _
  have h3 : ∀ u ∈ out, ∃ a, u = Value.ref a := fun u hu => by
    have := h2.perm.mem_iff.mp hu
    rw [eb] at this
    obtain ⟨b, _, e⟩ := List.mem_map.mp this
    exact ⟨b, e.symm⟩
  have hl2 : (out.map backV).length ≤ sizeLine := by
    rw [hperm.length_eq, List.length_map]
    have := congrArg List.length eb
    rw [List.length_map] at this
    omega
  refine wpAny_pure ⟨_, rfl, .ref h'.objs.size, upd H h'.objs.size (.lst (out.map backV)), I1.laid (t' := tk) (fun b u e => ?_) (Nat.le_refl _)
    (show ObjOk X.prog X.w _ _ _ (.lst (out.map backV)) from ⟨hl2, out, e', vals_back h3, he'⟩), rfl, q bs _ _ hkeys hperm (SrtO.srtd_map (f := backV) h1) (I1.hok.fresh (Nat.le_refl _))⟩
  have hb : b < h'.objs.size := Heap.lt_size e
  rw [PyProof.Rows.sortedHeap_old (Nat.ne_of_lt hb) (by rw [size_push']; exact Nat.lt_succ_of_lt hb)]
  exact Heap.get?_push_of_some _ e
end
end Lt
namespace Lt
open PySem PySem.Spec PyProof.Rows L2
theorem readsAll_ints {h : Heap} : ∀ {vs : List Value} {ns : List Int}, IntsAre vs ns → ∃ as, ReadsAll h vs (ns.map PyData.int) as
  | _, _, .nil => ⟨_, .nil⟩
  | _, _, .cons _ _ r => by
    obtain ⟨as, q⟩ := readsAll_ints (h := h) r
    exact ⟨_, .cons (.int _ _) q⟩
theorem eqvAll_ints : ∀ ns ms : List Int, PyData.eqvAll (ns.map PyData.int) (ms.map PyData.int) = decide (ns = ms)
  | [], [] => by simp [PyData.eqvAll]
  | [], _ :: _ => by simp [PyData.eqvAll]
  | _ :: _, [] => by simp [PyData.eqvAll]
  | x :: xs, y :: ys => by
    rw [List.map_cons, List.map_cons, PyData.eqvAll, eqvAll_ints xs ys]
    show ((x == y) && decide (xs = ys)) = decide (x :: xs = y :: ys)
    by_cases e : x = y
    · subst e; simp
    · simp [e]
theorem alikeAll_ints : ∀ ns ms : List Int, PySem.W.alikeAll (ns.map PyData.int) (ms.map PyData.int) = true
  | [], [] => by simp [PySem.W.alikeAll]
  | [], _ :: _ => by simp [PySem.W.alikeAll]
  | _ :: _, [] => by simp [PySem.W.alikeAll]
  | x :: xs, y :: ys => by
    rw [List.map_cons, List.map_cons, PySem.W.alikeAll, alikeAll_ints xs ys]
    simp [PySem.W.alike]
theorem depthAll_ints : ∀ ns : List Int, PyData.depthAll (ns.map PyData.int) ≤ 1
  | [] => by simp [PyData.depthAll]
  | x :: xs => by
    have := depthAll_ints xs
    simp only [List.map_cons, PyData.depthAll, PyData.depth]
    omega
theorem lexLt_irr : ∀ ns : List Int, HT.lexLt ns ns = false
  | [] => rfl
  | x :: xs => by rw [HT.lexLt_cons, if_pos rfl, lexLt_irr xs]
theorem lexLt_asy : ∀ {a b : List Int}, HT.lexLt a b = true → HT.lexLt b a = false
  | [], [], h => rfl
  | [], _ :: _, _ => rfl
  | _ :: _, [], h => by cases h
  | x :: xs, y :: ys, h => by
    rw [HT.lexLt_cons] at h ⊢
    by_cases e : x = y
    · rw [if_pos e] at h
      rw [if_pos e.symm]
      exact lexLt_asy h
    · rw [if_neg e] at h
      rw [if_neg (Ne.symm e)]
      have := of_decide_eq_true h
      exact decide_eq_false (by omega)
/-- b is not before a, c is not before b: c is not before a -/
theorem lexLt_tr : ∀ {a b c : List Int}, HT.lexLt b a = false → HT.lexLt c b = false → HT.lexLt c a = false
  | [], [], [], _, _ => rfl
  | [], [], _ :: _, _, _ => rfl
  | [], _ :: _, [], _, h => by cases h
  | [], _ :: _, _ :: _, _, _ => rfl
  | _ :: _, [], _, h, _ => by cases h
  | _ :: _, _ :: _, [], _, h => by cases h
  | x :: xs, y :: ys, z :: zs, h1, h2 => by
    rw [HT.lexLt_cons] at h1 h2 ⊢
    by_cases e1 : y = x
    · rw [if_pos e1] at h1
      by_cases e2 : z = y
      · rw [if_pos e2] at h2
        rw [if_pos (e2.trans e1)]
        exact lexLt_tr h1 h2
      · rw [if_neg e2] at h2
        rw [if_neg (by rw [← e1]; exact e2), ← e1]
        exact h2
    · rw [if_neg e1] at h1
      have h1 := of_decide_eq_false h1
      by_cases e2 : z = y
      · rw [if_neg (by omega)]
        exact decide_eq_false (by omega)
      · rw [if_neg e2] at h2
        have h2 := of_decide_eq_false h2
        rw [if_neg (by omega)]
        exact decide_eq_false (by omega)
theorem swo_lexL {α : Type} (k : α → List Int) : SrtO.Swo fun v u => HT.lexLt (k v) (k u) := ⟨fun x y h => lexLt_asy h, fun x y z h1 h2 => lexLt_tr h1 h2⟩
/-- (a length, a way) -/
def IsWy (h : Heap) (v : Value) (k : List Int) : Prop := ∃ (a : Addr) (o : Obj) (l : Int) (t : Tok) (u : Addr) (n : Nat) (its : Array Value) (w : List Int), v = .ref a ∧ h.get? a = some o ∧ o.cls = .type "tuple" ∧ o.data = .seq #[.int l t, .ref u] n ∧ IsTup h u its ∧ IntsAre its.toList w ∧ k = l :: w
theorem IsWy.keeps {h h' : Heap} {v : Value} {k : List Int} (p : IsWy h v k) (hk : ∀ b o, h.get? b = some o → o.cls = .type "tuple" → h'.get? b = some o) : IsWy h' v k := by
  obtain ⟨a, o, l, t, u, n, its, w, e, ho, hc, hd, ⟨ob, hob, hcb, m, hdb⟩, hi, hk'⟩ := p
  exact ⟨a, o, l, t, u, n, its, w, e, hk _ _ ho hc, hc, hd, ⟨ob, hk _ _ hob hcb, hcb, m, hdb⟩, hi, hk'⟩
section
variable {prog : Program} {w : World} {A : Around} {E : Value → Shared → Prop} {s : Shared}
theorem wy_cmp {vs : List Value} {k : Value → List Int} (hu : A.units + 8 < cLine) (hp : ∀ v ∈ vs, IsWy s.heap v (k v)) : SrtO.Cmp prog w A s (tuples' true) (fun p => p.1 ∈ vs) (SrtO.lt2 fun v u => HT.lexLt (k v) (k u)) := by
  intro p q hm hm'
  have h1 := hp _ hm
  have h2 := hp _ hm'
  show wpAny (model prog w) A (keyLt' (tuples' true) p.1 q.1) (fun r s' => s' = s ∧ r = HT.lexLt (k p.1) (k q.1)) (fun _ _ => False) s
  obtain ⟨a, o, l, t, u, n, its, wy, e, ho, hc, hd, hT, hi, ek⟩ := h1
  obtain ⟨a', o', l', t', u', n', its', wy', e', ho', hc', hd', hT', hi', ek'⟩ := h2
  rw [ek, ek', e, e', HT.lexLt_cons]
  refine PySem.W.kat_lt ho hd ho' hd' ?_
  show PySem.W.KatLex prog w A true (decide (2 < 2)) _ [(.int l t, .int l' t'), (.ref u, .ref u')] 0 s
  refine PySem.W.kat_cons (SeqAt.EqAt.int_int l t l' t' prog w _ _ ?_)
  refine PySem.W.kat_go (fun e1 => ?_) (fun e1 => ?_)
  · have ex : l = l' := by simpa using e1
    rw [if_pos ex]
    have hT0 := hT
    have hT0' := hT'
    obtain ⟨ob, hob, hcb, m, hdb⟩ := hT0
    obtain ⟨ob', hob', hcb', m', hdb'⟩ := hT0'
    obtain ⟨as, r1⟩ := readsAll_ints (h := s.heap) hi
    obtain ⟨bs, r2⟩ := readsAll_ints (h := s.heap) hi'
    have ra : Reads s.heap (.ref u) (.tuple (wy.map PyData.int)) as := .tuple hob hcb hdb r1
    have rb : Reads s.heap (.ref u') (.tuple (wy'.map PyData.int)) bs := .tuple hob' hcb' hdb' r2
    have eq := PySem.W.eqAt_alike _ _ A s (.ref u) (.ref u') as bs ra rb (by show PySem.W.alike (.tuple _) (.tuple _) = true; rw [PySem.W.alike]; exact alikeAll_ints _ _) (by
      have := depthAll_ints wy
      simp only [PyData.depth]
      omega)
    have ev : PyData.eqv (.tuple (wy.map PyData.int)) (.tuple (wy'.map PyData.int)) = decide (wy = wy') := by rw [PyData.eqv]; exact eqvAll_ints _ _
    rw [ev] at eq
    refine PySem.W.kat_yes (PySem.W.kat_cons (eq prog w _ _ ?_))
    refine PySem.W.kat_go (fun e2 => ?_) (fun e2 => ?_)
    · have ey : wy = wy' := of_decide_eq_true e2
      rw [ey, lexLt_irr]
      exact PySem.W.kat_yes (PySem.W.kat_nil ⟨rfl, rfl⟩)
    · refine PySem.W.kat_no (PySem.W.kat_one _ _ (HT.lt_tupInts hT hT' hi hi' (by omega) ?_))
      exact (show s = s ∧ HT.lexLt wy wy' = HT.lexLt wy wy' from ⟨rfl, rfl⟩)
  · have ex : ¬ l = l' := by simpa using e1
    rw [if_neg ex]
    exact PySem.W.kat_no (oneLt_int ⟨rfl, rfl⟩)
theorem wy_sortableO {a : Addr} {vs : List Value} {k : Value → List Int} (hu : A.units + 8 < cLine) (h0 : 0 < vs.length) (hp : ∀ v ∈ vs, IsWy s.heap v (k v)) (ha : ∀ o, s.heap.get? a = some o → o.cls ≠ .type "tuple") : SrtO.SortableO prog w A s a vs fun v u => HT.lexLt (k v) (k u) := by
  intro h' keep
  have hp' : ∀ v ∈ vs, IsWy h' v (k v) := fun v hm => (hp v hm).keeps fun b o e c => keep b o (fun z => by subst z; exact ha o e c) e
  have hf : ∀ l : List Value, (∀ v ∈ l, IsWy h' v (k v)) → ∃ fs, PySem.W.KatTups h' l fs ∧ fs.length = l.length ∧ ∀ f ∈ fs, ∃ x t, f = Value.int x t := by
    intro l
    induction l with
    | nil => exact fun _ => ⟨[], PySem.W.KatTups.nil, rfl, fun f hf => by cases hf⟩
    | cons v l ih =>
      intro hl
      obtain ⟨fs, g1, g2, g3⟩ := ih fun v hv => hl v (List.mem_cons_of_mem _ hv)
      obtain ⟨a, o, x, t, u, n, its, wy, e, ho, hc, hd, _⟩ := hl v List.mem_cons_self
      subst e
      refine ⟨.int x t :: fs, PySem.W.KatTups.cons ho hc hd (by rfl) g1, by rw [List.length_cons, g2, List.length_cons], fun f hf => ?_⟩
      rcases List.mem_cons.mp hf with rfl | hf
      · exact ⟨x, t, rfl⟩
      · exact g3 f hf
  obtain ⟨fs, h1, h2, h3⟩ := hf vs hp'
  refine ⟨tuples' true, fun Q E hq => ?_, wy_cmp hu hp'⟩
  refine PySem.W.kat_kind (T := .type "int") h1 (by omega) (fun f hm => ?_) (by rfl) ?_
  · obtain ⟨x, t, rfl⟩ := h3 f hm
    exact PySem.W.Looks.now
  · have e : (Value.type "int" != Value.type "tuple") = true := by first | decide +kernel | rfl | decide
    rw [e]
    exact hq
end
section
variable {X : Cx}
/-- sorted(ways) -/
def rSortedW (K : PySem.W.Frag) : List V → Hp → VK → Prop := fun vs H Q => ∃ (a : Addr) (xs : List V) (k : V → List Int), vs = [V.ref a] ∧ SqL K H a xs ∧
  (∀ x ∈ xs, ∃ (t u : Addr) (l : Int) (w : List Int), x = V.ref t ∧ H t = some (.tup [.int l, .ref u]) ∧ H u = some (.tup (w.map V.int)) ∧ k x = l :: w) ∧
  ∀ (ys : List V) (p : Addr), ys.Perm xs → SrtO.Srtd (fun x y => HT.lexLt (k x) (k y)) ys → H p = none → Q (.ref p) (upd H p (.lst ys))
theorem cr_sortedW (hu : X.A.units + 64 < cLine) : CallR X (.builtin "sorted") (rSortedW X.K) := by
  intro pins s σ H vs us Q I r h
  obtain ⟨a, xs, k, rfl, hs, hx, q⟩ := h
  obtain ⟨its, rv, hl, hz⟩ := I.list hs
  obtain ⟨u, rfl, ru⟩ := vals1 r
  obtain rfl : u = Value.ref a := ru
  obtain ⟨e1, e2⟩ := refs_back rv fun x m => by
    obtain ⟨t, _, _, _, e, _⟩ := hx x m
    exact ⟨t, e⟩
  have hway : ∀ v ∈ its, IsWy s.heap v (k (backV v)) := fun v hv => by
    obtain ⟨t, rfl⟩ := e2 v hv
    have hm : V.ref t ∈ xs := by rw [e1]; exact List.mem_map.mpr ⟨_, hv, rfl⟩
    obtain ⟨t', u, l, w, e, ht, hw, ek⟩ := hx _ hm
    cases e
    obtain ⟨_, its2, r2, o, ho, hc, n, hd⟩ := I.hok _ _ ht
    obtain ⟨u1, u2, rfl, ri, rj⟩ := vals2 r2
    obtain ⟨t1, rfl⟩ := ri
    cases rj
    obtain ⟨_, its3, r3, p3⟩ := (show ObjOk X.prog X.w H s.heap u (.tup (w.map V.int)) from I.hok _ _ hw)
    have hk : k (backV (Value.ref t)) = l :: w := ek
    rw [hk]
    exact ⟨t, o, l, t1, u, n, its3.toArray, w, rfl, ho, hc, hd, p3, L2.intsAre_of r3, rfl⟩
  refine SrtO.sorted_ord (ltv := fun v u => HT.lexLt (k (backV v)) (k (backV u))) (swo_lexL _) hl.isList (by rw [← rv.length]; exact hz) (fun h2 h₁ b hb kk => ?_) fun out h1 h2 => ?_
  · refine wy_sortableO (s := { s with heap := h₁ }) (by show X.A.units + 1 + 1 + 8 < cLine; omega) (by omega) (fun v hm => (hway v hm).keeps fun b o e _ => (kk b o e).2) fun o e c => ?_
    have e' : some o = some (seqObj "list" its.toArray 0) := e.symm.trans hb
    cases e'
    exact absurd (Value.type.inj c) (by decide)
  · have h3 : ∀ u ∈ out, ∃ a, u = Value.ref a := fun u hu => e2 u (h2.perm.mem_iff.mp hu)
    obtain ⟨n, hn⟩ := PyProof.Rows.sortedAll_at s.heap its out.toArray
    have hb : (out.map backV).Perm xs := by
      rw [e1]
      exact h2.perm.map _
    refine ⟨.ref (s.heap.objs.size + 1), upd H (s.heap.objs.size + 1) (.lst (out.map backV)), I.laid (t' := s.toks) (fun b o e => PyProof.Rows.sortedAll_old e) (Nat.le_succ _) ⟨?_, out, n, vals_back h3, hn⟩, rfl, q _ _ hb (SrtO.srtd_map (f := backV) h1) (I.hok.fresh (Nat.le_succ _))⟩
    rw [hb.length_eq]
    exact hz
end
end Lt
namespace Lt
open PySem L2 PyProof.Rows
abbrev keyR (a b : Nat) : List Key := [Sum.inl (a : Int), Sum.inl (b : Int)]
/-- the dict of rods -/
def kvOf (rs : List Rod) : List (List Key × V) := rs.map fun r => (keyR r.1 r.2.1, iv r.2.2)
def putR (rs : List Rod) (a b l : Nat) : List Rod := if (rs.any fun r => decide (r.1 = a ∧ r.2.1 = b)) = true then rs.map fun r => if r.1 = a ∧ r.2.1 = b then (a, b, l) else r else rs ++ [(a, b, l)]
theorem keyR_inj {a b c d : Nat} : keyR a b = keyR c d ↔ a = c ∧ b = d := by
  constructor
  · intro h
    have h1 := (List.cons.inj h).1
    have h2 := (List.cons.inj (List.cons.inj h).2).1
    have h1 := Sum.inl.inj h1
    have h2 := Sum.inl.inj h2
    omega
  · rintro ⟨rfl, rfl⟩
    rfl
theorem putK_kvOf (rs : List Rod) (a b l : Nat) : putK (kvOf rs) (keyR a b) (iv l) = kvOf (putR rs a b l) := by
  have e : ((kvOf rs).any fun kv => decide (kv.1 = keyR a b)) = rs.any fun r => decide (r.1 = a ∧ r.2.1 = b) := by
    unfold kvOf
    rw [List.any_map]
    congr 1
    funext r
    show decide (keyR r.1 r.2.1 = keyR a b) = _
    simp only [keyR_inj]
  unfold putK putR
  rw [e]
  split
  · unfold kvOf
    rw [List.map_map, List.map_map]
    refine List.map_congr_left fun r _ => ?_
    show (if keyR r.1 r.2.1 = keyR a b then (keyR r.1 r.2.1, iv l) else (keyR r.1 r.2.1, iv r.2.2)) = _
    simp only [keyR_inj, Function.comp]
    by_cases c : r.1 = a ∧ r.2.1 = b
    · rw [if_pos c, if_pos c, c.1, c.2]
    · rw [if_neg c, if_neg c]
  · unfold kvOf
    rw [List.map_append]
    rfl
/-- rods as the dict holds them -/
structure OkR (n : Nat) (rs : List Rod) : Prop where
  ok : ∀ r ∈ rs, r.1 < r.2.1 ∧ r.2.1 < n ∧ 1 ≤ r.2.2 ∧ r.2.2 ≤ 9
  ap : rs.Pairwise fun r s => ¬ (r.1 = s.1 ∧ r.2.1 = s.2.1)
theorem putR_len (rs : List Rod) (a b l : Nat) : (putR rs a b l).length ≤ rs.length + 1 := by
  unfold putR
  split
  · rw [List.length_map]; omega
  · rw [List.length_append]; exact Nat.le_refl _
theorem putR_new (rs : List Rod) (a b l : Nat) : (a, b, l) ∈ putR rs a b l := by
  unfold putR
  split
  · rename_i h
    obtain ⟨r, hr, e⟩ := List.any_eq_true.mp h
    exact List.mem_map.mpr ⟨r, hr, if_pos (of_decide_eq_true e)⟩
  · simp
theorem putR_old {rs : List Rod} {a b l : Nat} {c d m : Nat} (h : (c, d, m) ∈ rs) : ∃ m', (c, d, m') ∈ putR rs a b l := by
  unfold putR
  split
  · by_cases e : c = a ∧ d = b
    · exact ⟨l, List.mem_map.mpr ⟨_, h, by rw [if_pos e, e.1, e.2]⟩⟩
    · exact ⟨m, List.mem_map.mpr ⟨_, h, if_neg e⟩⟩
  · exact ⟨m, List.mem_append_left _ h⟩
theorem OkR.put {n : Nat} {rs : List Rod} (h : OkR n rs) {a b l : Nat} (hab : a < b) (hb : b < n) (h1 : 1 ≤ l) (h9 : l ≤ 9) : OkR n (putR rs a b l) := by
  unfold putR
  split
  · refine ⟨fun r hr => ?_, ?_⟩
    · obtain ⟨q, hq, rfl⟩ := List.mem_map.mp hr
      split
      · exact ⟨hab, hb, h1, h9⟩
      · exact h.ok q hq
    · rw [List.pairwise_map]
      refine h.ap.imp fun {r s} hrs => ?_
      split
      · rename_i c1
        split
        · rename_i c2
          exact absurd ⟨c1.1.trans c2.1.symm, c1.2.trans c2.2.symm⟩ hrs
        · rename_i c2
          exact fun e => c2 ⟨e.1.symm, e.2.symm⟩
      · rename_i c1
        split
        · rename_i c2
          exact fun e => c1 ⟨e.1, e.2⟩
        · exact hrs
  · rename_i hn
    refine ⟨fun r hr => ?_, ?_⟩
    · rcases List.mem_append.mp hr with hr | hr
      · exact h.ok r hr
      · have : r = (a, b, l) := by simpa using hr
        subst this
        exact ⟨hab, hb, h1, h9⟩
    · refine List.pairwise_append.mpr ⟨h.ap, List.pairwise_singleton _ _, fun r hr s hs => ?_⟩
      have : s = (a, b, l) := by simpa using hs
      subst this
      intro e
      exact hn (List.any_eq_true.mpr ⟨r, hr, decide_eq_true e⟩)
theorem valV_kvOf {n : Nat} : ∀ {rs : List Rod}, OkR n rs → ∀ {r : Rod}, r ∈ rs → valV (kvOf rs) (keyR r.1 r.2.1) = some (iv r.2.2)
  | [], _, r, hr => by cases hr
  | q :: rs, h, r, hr => by
    show valV ((keyR q.1 q.2.1, iv q.2.2) :: kvOf rs) (keyR r.1 r.2.1) = _
    obtain ⟨h1, h2⟩ := List.pairwise_cons.mp h.ap
    rcases List.mem_cons.mp hr with rfl | hr'
    · rw [valV_pos rfl]
    · rw [valV_neg (fun e => h1 r hr' (keyR_inj.mp e))]
      exact valV_kvOf ⟨fun s hs => h.ok s (List.mem_cons_of_mem _ hs), h2⟩ hr'
/-- the rod that a key's reference tells -/
def rodOf (H : Hp) (kvs : List (List Key × V)) (x : V) : Rod := ((keyP H x).1.toNat, (keyP H x).2.toNat, match valV kvs [Sum.inl (keyP H x).1, Sum.inl (keyP H x).2] with
  | some (.int l) => l.toNat
  | _ => 0)
theorem rodOf_key {H : Hp} {n : Nat} {rs : List Rod} (h : OkR n rs) {r : Rod} (hr : r ∈ rs) {b : Addr} (hb : H b = some (.tup ((keyR r.1 r.2.1).map kV))) : rodOf H (kvOf rs) (.ref b) = r ∧ H b = some (.tup [iv r.1, iv r.2.1]) := by
  have hb : H b = some (.tup [iv r.1, iv r.2.1]) := hb
  refine ⟨?_, hb⟩
  unfold rodOf
  rw [keyP_of hb]
  dsimp only
  have := valV_kvOf h hr
  rw [this]
  simp
theorem isKeys_get {H : Hp} : ∀ {kvs : List (List Key × V)} {bs : List Addr}, IsKeys H kvs bs → bs.length = kvs.length ∧ ∀ (i : Nat) (b : Addr) (p : List Key × V), bs[i]? = some b → kvs[i]? = some p → H b = some (.tup (p.1.map kV))
  | _, _, .nil => ⟨rfl, fun i b p hb _ => by simp at hb⟩
  | _, _, .cons h t => by
    obtain ⟨h1, h2⟩ := isKeys_get t
    refine ⟨by rw [List.length_cons, List.length_cons, h1], fun i b p hb hp => ?_⟩
    cases i with
    | zero =>
      have hb := Option.some.inj hb
      have hp := Option.some.inj hp
      subst hb hp
      exact h
    | succ i => exact h2 i b p (by simpa using hb) (by simpa using hp)
theorem keys_rods {H : Hp} {n : Nat} {rs : List Rod} {bs : List Addr} (h : OkR n rs) (hk : IsKeys H (kvOf rs) bs) : (bs.map V.ref).map (rodOf H (kvOf rs)) = rs := by
  obtain ⟨h1, h2⟩ := isKeys_get hk
  have hl : bs.length = rs.length := by rw [h1]; unfold kvOf; rw [List.length_map]
  refine List.ext_getElem? fun i => ?_
  rw [List.getElem?_map, List.getElem?_map]
  by_cases hi : i < rs.length
  · have hib : i < bs.length := by omega
    rw [List.getElem?_eq_getElem hi, List.getElem?_eq_getElem hib]
    have hH := h2 i bs[i] (keyR (rs[i]).1 (rs[i]).2.1, iv (rs[i]).2.2) (List.getElem?_eq_getElem hib) (by unfold kvOf; rw [List.getElem?_map, List.getElem?_eq_getElem hi]; rfl)
    show some (rodOf H (kvOf rs) (V.ref bs[i])) = some rs[i]
    rw [(rodOf_key h (List.getElem_mem hi) hH).1]
  · rw [List.getElem?_eq_none (l := bs) (by omega), List.getElem?_eq_none (l := rs) (by omega)]
    rfl
/-- the net out of the sorted keys -/
theorem net_wf {H : Hp} {n : Nat} {rs : List Rod} {bs : List Addr} {ys : List V} (h : OkR n rs) (hk : IsKeys H (kvOf rs) bs) (hp : ys.Perm (bs.map V.ref)) (hs : SrtO.Srtd (ltP (keyP H)) ys) (hn1 : 1 ≤ n) (hn6 : n ≤ 6) (hfew : rs.length ≤ 8)
    (htree : ∀ j, 1 ≤ j → j < n → ∃ p l, p < j ∧ (p, j, l) ∈ rs) : Wf n (ys.map (rodOf H (kvOf rs))) ∧ ∀ (i : Nat) (y : V), ys[i]? = some y → ∃ (b : Addr) (r : Rod), y = .ref b ∧ r ∈ rs ∧ rodOf H (kvOf rs) y = r ∧ H b = some (.tup [iv r.1, iv r.2.1]) := by
  have hperm : (ys.map (rodOf H (kvOf rs))).Perm rs := by
    have := hp.map (rodOf H (kvOf rs))
    rw [keys_rods h hk] at this
    exact this
  have hat : ∀ y ∈ ys, ∃ (b : Addr) (r : Rod), y = .ref b ∧ r ∈ rs ∧ rodOf H (kvOf rs) y = r ∧ H b = some (.tup [iv r.1, iv r.2.1]) := fun y hy => by
    obtain ⟨b, hb, rfl⟩ := List.mem_map.mp (hp.mem_iff.mp hy)
    obtain ⟨p, hp', hH⟩ := isKeys_at hk b hb
    obtain ⟨r, hr, rfl⟩ := List.mem_map.mp hp'
    obtain ⟨e1, e2⟩ := rodOf_key h hr hH
    exact ⟨b, r, rfl, hr, e1, e2⟩
  refine ⟨⟨hn1, hn6, fun r hr => h.ok r (hperm.mem_iff.mp hr), ?_, by rw [hperm.length_eq]; exact hfew, fun j h1 h2 => ?_⟩, fun i y hy => hat y (List.mem_of_getElem? hy)⟩
  · have hap : (ys.map (rodOf H (kvOf rs))).Pairwise fun r s => ¬ (r.1 = s.1 ∧ r.2.1 = s.2.1) := h.ap.perm hperm.symm fun {r s} hrs e => hrs ⟨e.1.symm, e.2.symm⟩
    rw [List.pairwise_map] at hap ⊢
    refine (hap.and hs).imp_of_mem fun {x y} hx hy hxy => ?_
    obtain ⟨b, r, rfl, _, e1, e2⟩ := hat x hx
    obtain ⟨c, q, rfl, _, e3, e4⟩ := hat y hy
    obtain ⟨g1, g2⟩ := hxy
    have g2 := SrtO.lexB_no.mp g2
    rw [e1, e3] at g1 ⊢
    rw [keyP_of e2, keyP_of e4] at g2
    dsimp only at g2
    omega
  · obtain ⟨p, l, g1, g2⟩ := htree j h1 h2
    exact ⟨p, l, g1, hperm.mem_iff.mpr g2⟩
end Lt
namespace Lt
open PySem L2 PyProof.Rows
section
variable {K : PySem.W.Frag} {H H' H2 : Hp} {p : Addr}
theorem But.same (a : But p H H') (e : Same H' H2) : But p H H2 := fun x o hx h => e _ _ (a x o hx h)
theorem But.mut (a : But p H H') {d : Addr} {o : HO} (hd : H d = none) : But p H (L2.upd H' d o) := fun x u hx h => by
  rw [upd_ne (ne_of_none h hd)]
  exact a x u hx h
theorem But.free (a : But p H H') {d : Addr} (hd : H' d = none) (hn : d ≠ p) : H d = none := by
  cases e : H d with
  | none => rfl
  | some o =>
    have := a d o hn e
    rw [hd] at this
    cases this
theorem RowAt.some (h : RowAt K H p) : ∃ xs, H p = some (.lst xs) := by
  obtain ⟨sa, ns, z1, z2, z3, h1, _⟩ := h
  exact ⟨_, h1⟩
theorem RowAt.ne (h : RowAt K H p) {d : Addr} (hd : H d = none) : d ≠ p := fun e => by
  subst e
  obtain ⟨xs, e⟩ := h.some
  rw [hd] at e
  cases e
/-- a change elsewhere, at what is no list that is read -/
theorem RowAt.put {d : Addr} {o : HO} (h : RowAt K H p) (hd : d ≠ p) (hs : ∀ xs, ¬ Rd H d (.lst xs)) : RowAt K (L2.upd H d o) p := by
  obtain ⟨sa, ns, z1, z2, z3, h1, h2, h3⟩ := h
  refine ⟨sa, ns, z1, z2, z3, by rw [upd_ne (Ne.symm hd)]; exact h1, ?_, h3⟩
  rcases h2 with ⟨h2, hn⟩ | h2
  · have hne : sa ≠ d := fun e => hs _ (by rw [← e]; exact h2)
    rcases h2 with h2 | ⟨ob, h2⟩
    · exact .inl ⟨.inl (by rw [upd_ne hne]; exact h2), hn⟩
    · exact .inl ⟨.inr ⟨ob, by rw [upd_ne hne]; exact h2⟩, hn⟩
  · exact .inr h2
end
section
variable {P : Program} {w : World} {K : PySem.W.Frag} {mg : Str → Option Value} {base : Heap}
/-- a for over range(a if c else b), the two ways joined -/
theorem for_if {c : TT} {ta tb : TE} {g : TG} {body : TS} {D : Ends} {σ : L2.St} {H : Hp} (P : Nat → Hp → Prop) (h1 : ∀ Q : VK, (∀ (n : Nat) (H' : Hp), n ≤ 1000 → P n H' → Q (iv n) H') → tIf c ta tb σ H Q)
    (h2 : ∀ (n : Nat) (H' : Hp), n ≤ 1000 → P n H' → ∃ W : Nat → Nat → L2.St → Hp → Prop, (∃ m, W 0 m σ H') ∧ ∀ i m σ H, W i m σ H →
      ((Itr 0 n).stop i H ∧ D.nx σ H) ∨ ((Itr 0 n).go i H ∧ ∃ N : L2.St → Hp → Prop, (∀ σ' H', N σ' H' → ∃ m', m' < m ∧ W (i + 1) m' σ' H') ∧ ∀ x H', (Itr 0 n).yld i H x H' → g x σ H' fun σ2 H2 => body { D with nx := N, ct := N, bk := D.nx } σ2 H2)) :
    tFor (iRng1 (tCons (tIf c ta tb) tNil)) g body D σ H := by
  refine h1 _ fun n H' hn hP => ?_
  refine ⟨(n : Int), rfl, by omega, by omega, ?_⟩
  rw [Int.toNat_natCast]
  exact h2 n H' hn hP
theorem no_lst {H : Hp} {d : Addr} {kvs : List (List Key × V)} (h : H d = some (.dT kvs)) (xs : List V) : ¬ Rd H d (.lst xs) := fun z => by
  rcases z with z | ⟨o, z⟩
  · rw [h] at z; cases z
  · rw [h] at z; cases z
def spNet (K : PySem.W.Frag) : Sp := fun vs H Q _ => ∃ (row : Addr) (m : Nat), vs = [.ref row, .int 6, iv m] ∧ RowAt K H row ∧ 1 ≤ m ∧ m ≤ 9 ∧
  ∀ (H' : Hp) (a : Addr) (n : Nat) (rods : List Rod), Wf n rods → NetAt K H' a n rods → RowAt K H' row → But row H H' → Q (.ref a) H'
theorem ok_net (T : Txt K mg) : OkOf P w K mg base 2 "_law_net" ["_law_row", "_law_most", "_law_long"] (spNet K) := okOf T.net fun f fd F => by
  obtain ⟨ft, fdt, Gt, mt, kt, bt⟩ := ok_taken (P := P) (w := w) (base := base) T
  refine F.ok scNet (fun vs H Q E h => ?_) (fun cdv A outer s H vs Q E hr h => ?_)
  · obtain ⟨row, m, rfl, _⟩ := h
    rfl
  · obtain ⟨row, m, rfl, hrow, hm1, hm9, q⟩ := h
    have nd := scNet.nd
    have hu := hu_of hr
    refine ⟨_, pss_cons (ps_asg (pe_tup (pa_cons (pe_op op_add pe_int (pe_call Gt hr (by rfl) mt kt bt .nil pass0 (pa_cons (pv 0) (pa_cons (pv 1) pa_nil)))) (pa_cons pe_dnewT pa_nil)))
        (pg_tup (by rfl) (pgs_cons (pg_name (i := 3) nd rfl (.inl rfl)) (pgs_cons (pg_name (i := 4) nd rfl (.inr rfl)) pgs_nil))))
      (pss_cons (ps_for PassesOwn.never rfl (pi_range2 rfl T.bRange (pa_cons pe_int (pa_cons (pv 3) pa_nil))) (pg_name (i := 5) nd rfl (.inl rfl))
        (pss_one (ps_dput hu (pv 4) (pe_tup (pa_cons (pe_call Gt hr (by rfl) mt kt bt .nil pass0 (pa_cons (pv 0) (pa_cons (pv 5) pa_nil))) (pa_cons (pv 5) pa_nil)))
          (pe_op op_add pe_int (pe_call Gt hr (by rfl) mt kt bt .nil pass0 (pa_cons (pv 0) (pa_cons (pv 2) pa_nil)))) rfl)))
      (pss_cons (ps_for PassesOwn.never rfl (pi_range1 rfl T.bRange (pa_cons (pe_ifExp (pt_cmpR op_gt (pv 3) pe_int (nomark _)) (pe_call Gt hr (by rfl) mt kt bt .nil pass0 (pa_cons (pv 0) (pa_cons pe_int pa_nil))) pe_int) pa_nil)) (pg_name (i := 6) nd rfl (.inl rfl))
        (pss_cons (ps_par (i := 7) (j := 8) (by rfl) nd rfl rfl (by decide) rfl rfl (pa_cons (pe_call Gt hr (by rfl) mt kt bt .nil pass0 (pa_cons (pv 0) (pa_cons (pv 3) pa_nil))) (pa_cons (pe_call Gt hr (by rfl) mt kt bt .nil pass0 (pa_cons (pv 0) (pa_cons (pv 3) pa_nil))) pa_nil)) (by rfl))
        (pss_one (ps_if (pt_cmpR op_ne (pv 7) (pv 8) (nomark _))
          (pss_one (ps_dput hu (pv 4) (pe_tup (pa_cons (pe_callB (call_min2 rfl) (by rfl) T.bMin (by decide +kernel) (pa_cons (pv 7) (pa_cons (pv 8) pa_nil))) (pa_cons (pe_callB (call_max2 rfl) (by rfl) T.bMax (by decide +kernel) (pa_cons (pv 7) (pa_cons (pv 8) pa_nil))) pa_nil)))
            (pe_op op_add pe_int (pe_call Gt hr (by rfl) mt kt bt .nil pass0 (pa_cons (pv 0) (pa_cons (pv 2) pa_nil)))) rfl)) pss_nil))))
      (pss_one (ps_ret (pe_tup (pa_cons (pv 3) (pa_cons (pe_callTy call_tuple_of (by rfl) T.bTuple (by decide +kernel) (pa_cons
        (pe_lc (own := [("_law_one", 7), ("_law_other", 8)]) (g := gTup K 2 (gCons (gName 7) (gCons (gName 8) gNil))) (tt := tYes) (by rfl) nd (pi_list (pe_callB (cr_sortedDT rfl) (by rfl) T.bSorted (by decide +kernel) (pa_cons (pv 4) pa_nil)))
          (blkOk_by (own := [("_law_one", 7), ("_law_other", 8)]) (N := ["_law_row", "_law_most", "_law_long", "_law_many", "_law_rods", "_law_place", "_law_turn", "_law_one", "_law_other"]) (sc := defScope sNet) (by decide +kernel))
          (fun _ _ _ _ _ => pg_tup (by rfl) (pgs_cons (pg_name (i := 7) nd rfl (Or.inl rfl)) (pgs_cons (pg_name (i := 8) nd rfl (Or.inl rfl)) pgs_nil))) (fun _ _ _ _ _ => pts_nil)
          (fun _ _ _ _ _ => pe_tup (pa_cons (pv 7) (pa_cons (pv 8) (pa_cons (pe_dget hu (pv 4) (pe_tup (pa_cons (pv 7) (pa_cons (pv 8) pa_nil))) (fun _ _ => rfl)) pa_nil))))) pa_nil)) pa_nil))))))), ?_⟩
    -- many, rods = 1 + taken, {}
    refine ⟨_, rfl, _, rfl, row, 6, rfl, hrow, by decide, by decide, fun H1 v hv hrow1 hb1 => ?_⟩
    obtain ⟨n, hn⟩ : ∃ n : Nat, n = 1 + v := ⟨_, rfl⟩
    have en : (1 : Int) + ((v : Nat) : Int) = ((n : Nat) : Int) := by omega
    refine ⟨_, _, rfl, rfl, fun d hd => ?_⟩
    have hdr : d ≠ row := hrow1.ne hd
    have hdH : H d = none := hb1.free hd hdr
    have hrow2 := hrow1.same (same_new (o := .dT []) hd)
    have hb2 := hb1.same (same_new (o := .dT []) hd)
    refine ⟨(by show 2 ≤ sizeLine; decide), fun t0 ht0 => ?_⟩
    have hd2 := (same_new (o := .tup [iv n, .ref d]) ht0) _ _ (upd_same (H := H1) (a := d) (o := .dT []))
    have hrow3 := hrow2.same (same_new (o := .tup [iv n, .ref d]) ht0)
    have hb3 := hb2.same (same_new (o := .tup [iv n, .ref d]) ht0)
    dsimp only
    rw [en]
    refine ⟨t0, _, rfl, SqT.of upd_same, rfl, _, _, rfl, _, _, rfl, rfl, ?_⟩
    -- a step of the dict
    have step : ∀ (H' : Hp) (rs : List Rod) (a b l : Nat) (kt : Addr), H' kt = none → H' d = some (.dT (kvOf rs)) → RowAt K H' row → But row H H' → rs.length ≤ 1000 →
        ∃ H4, DPut (upd H' kt (.tup [iv a, iv b])) d (.ref kt) (iv l) H4 ∧ H4 d = some (.dT (kvOf (putR rs a b l))) ∧ RowAt K H4 row ∧ But row H H4 := fun H' rs a b l kt hkt hd' hrow' hb' hl => by
      have e1 := (same_new (o := .tup [iv a, iv b]) hkt) _ _ hd'
      refine ⟨_, DPut.t (k := keyR a b) e1 upd_same (by unfold kvOf; rw [List.length_map]; exact sizeS (by omega)), ?_, ?_, ?_⟩
      · rw [upd_same, putK_kvOf]
      · exact (hrow'.same (same_new hkt)).put hdr (no_lst e1)
      · exact (hb'.same (same_new hkt)).mut hdH
    -- the tree
    refine ⟨_, rfl, 1, (n : Int), rfl, ⟨by omega, by omega, by omega, by omega⟩, for_range (lo := 1) (n := ((n : Int) - 1).toNat) (fun k σ H' => ∃ (v5 : Option V) (rs : List Rod), σ = [some (.ref row), some (.int 6), some (iv m), some (iv n), some (.ref d), v5, none, none, none] ∧ RowAt K H' row ∧ But row H H' ∧
        H' d = some (.dT (kvOf rs)) ∧ OkR n rs ∧ rs.length ≤ k ∧ ∀ j, 1 ≤ j → j ≤ k → ∃ p l, p < j ∧ (p, j, l) ∈ rs)
      ⟨none, [], rfl, hrow3, hb3, hd2, ⟨fun r hr => absurd hr List.not_mem_nil, List.Pairwise.nil⟩, Nat.le_refl _, fun j h1 h2 => absurd h1 (by omega)⟩ ?_ ?_⟩
    · rintro k σ H' hk ⟨v5, rs, rfl, hrow', hb', hd', hok, hlen, htree⟩
      have ek : (1 : Int) + ((k : Nat) : Int) = ((k + 1 : Nat) : Int) := by omega
      rw [ek]
      refine ⟨_, rfl, _, rfl, row, m, rfl, hrow', hm1, by omega, fun H4 l hl hrow4 hb4 => ?_⟩
      refine ⟨1, ((l : Nat) : Int), rfl, rfl, ?_⟩
      refine ⟨_, rfl, _, rfl, _, rfl, row, k + 1, rfl, hrow4, by omega, by omega, fun H5 p hp hrow5 hb5 => ⟨_, rfl, (by show 2 ≤ sizeLine; decide), fun kt hkt => ?_⟩⟩
      have hd5 := hb5 _ _ hdr (hb4 _ _ hdr hd')
      obtain ⟨H6, g1, g2, g3, g4⟩ := step H5 rs p (k + 1) (1 + l) kt hkt hd5 hrow5 ((hb'.trans hb4).trans hb5) (by omega)
      have el : V.int (1 + ((l : Nat) : Int)) = iv (1 + l) := by congr 1
      refine ⟨d, H6, rfl, ?_, _, putR rs p (k + 1) (1 + l), rfl, g3, g4, g2, hok.put (by omega) (by omega) (by omega) (by omega), by have := putR_len rs p (k + 1) (1 + l); omega, fun j h1 h2 => ?_⟩
      · rw [← el] at g1
        exact g1
      · by_cases e : j = k + 1
        · subst e
          exact ⟨p, 1 + l, hp, putR_new _ _ _ _⟩
        · obtain ⟨p', l', q1, q2⟩ := htree j h1 (by omega)
          obtain ⟨l2, q3⟩ := putR_old (a := p) (b := k + 1) (l := 1 + l) q2
          exact ⟨p', l2, q1, q3⟩
    · rintro σ H6 ⟨v5, rs, rfl, hrow6, hb6, hd6, hok, hlen, htree⟩
      have ek : ((n : Int) - 1).toNat = n - 1 := by omega
      rw [ek] at hlen htree
      -- more rods
      dsimp only
      refine nx_seq (for_if (P := fun c H7 => c ≤ 3 ∧ (0 < c → 3 ≤ n) ∧ RowAt K H7 row ∧ But row H H7 ∧ H7 d = some (.dT (kvOf rs))) ?_ ?_)
      · intro Q' hQ'
        refine ⟨_, rfl, _, _, rfl, rfl, _, rfl, ?_⟩
        refine ite2 (fun c => ?_) (fun c => ?_)
        · have c : (2 : Int) < (n : Int) := of_decide_eq_true c
          refine ⟨_, rfl, row, 4, rfl, hrow6, by decide, by decide, fun H7 z hz hrow7 hb7 => ?_⟩
          exact hQ' z H7 (by omega) ⟨by omega, fun _ => by omega, hrow7, hb6.trans hb7, hb7 _ _ hdr hd6⟩
        · exact hQ' 0 H6 (by omega) ⟨by omega, fun z => absurd z (by omega), hrow6, hb6, hd6⟩
      · rintro c H7 _ ⟨hc3, hcn, hrow7, hb7, hd7⟩
        refine for_range (lo := 0) (n := c) (fun k σ H' => ∃ (v6 v7 v8 : Option V) (rs : List Rod), σ = [some (.ref row), some (.int 6), some (iv m), some (iv n), some (.ref d), v5, v6, v7, v8] ∧ RowAt K H' row ∧ But row H H' ∧
          H' d = some (.dT (kvOf rs)) ∧ OkR n rs ∧ rs.length ≤ n - 1 + k ∧ ∀ j, 1 ≤ j → j ≤ n - 1 → ∃ p l, p < j ∧ (p, j, l) ∈ rs) ⟨none, none, none, rs, rfl, hrow7, hb7, hd7, hok, by omega, htree⟩ ?_ ?_
        · rintro k σ H' hk ⟨v6, v7, v8, rs, rfl, hrow', hb', hd', hok, hlen, htree⟩
          refine ⟨_, rfl, _, rfl, row, n, rfl, hrow', by omega, by omega, fun H8 x hx hrow8 hb8 => ?_⟩
          refine ⟨_, rfl, _, rfl, row, n, rfl, hrow8, by omega, by omega, fun H9 y hy hrow9 hb9 => ?_⟩
          have hd9 := hb9 _ _ hdr (hb8 _ _ hdr hd')
          have hb9' := (hb'.trans hb8).trans hb9
          refine ⟨_, _, rfl, _, rfl, _, rfl, rfl, _, rfl, ?_⟩
          refine ite2 (fun c => ?_) (fun c => ?_)
          · have hne : x ≠ y := fun e => by
              rw [e] at c
              have : (!decide (iv y = iv y)) = true := c
              simp at this
            refine ⟨_, rfl, _, rfl, row, m, rfl, hrow9, hm1, by omega, fun H10 l hl hrow10 hb10 => ?_⟩
            refine ⟨1, ((l : Nat) : Int), rfl, rfl, ?_⟩
            refine ⟨_, rfl, _, rfl, _, rfl, _, _, rfl, _, rfl, _, rfl, _, _, rfl, (by show 2 ≤ sizeLine; decide), fun kt hkt => ?_⟩
            obtain ⟨H11, g1, g2, g3, g4⟩ := step H10 rs (min x y) (max x y) (1 + l) kt hkt (hb10 _ _ hdr hd9) hrow10 (hb9'.trans hb10) (by omega)
            refine ⟨d, H11, rfl, ?_, _, _, _, putR rs (min x y) (max x y) (1 + l), rfl, g3, g4, g2, hok.put (by omega) (by omega) (by omega) (by omega), by have := putR_len rs (min x y) (max x y) (1 + l); omega, fun j h1 h2 => ?_⟩
            · have e1 : V.int (if ((y : Nat) : Int) < ((x : Nat) : Int) then ((y : Nat) : Int) else ((x : Nat) : Int)) = iv (min x y) := congrArg V.int (min_iv x y)
              have e2 : V.int (if ((y : Nat) : Int) > ((x : Nat) : Int) then ((y : Nat) : Int) else ((x : Nat) : Int)) = iv (max x y) := by
                congr 1
                split <;> omega
              have e3 : V.int (1 + ((l : Nat) : Int)) = iv (1 + l) := by congr 1
              rw [← e1, ← e2, ← e3] at g1
              exact g1
            · obtain ⟨p', l', q1, q2⟩ := htree j h1 (by omega)
              obtain ⟨l2, q3⟩ := putR_old (a := min x y) (b := max x y) (l := 1 + l) q2
              exact ⟨p', l2, q1, q3⟩
          · exact ⟨_, _, _, rs, rfl, hrow9, hb9', hd9, hok, by omega, htree⟩
        · rintro σ H8 ⟨v6, v7, v8, rs, rfl, hrow8, hb8, hd8, hok, hlen, htree⟩
          have hlen8 : rs.length ≤ 8 := by omega
          refine ⟨_, rfl, _, rfl, d, kvOf rs, rfl, .inl hd8, fun p hp => ?_, fun bs ys L hk hperm hs hL => ?_⟩
          · obtain ⟨r, _, rfl⟩ := List.mem_map.mp hp
            exact ⟨_, _, rfl⟩
          obtain ⟨wf, hat⟩ := net_wf hok hk hperm hs (by omega) (by omega) hlen8 (fun j h1 h2 => htree j h1 (by omega))
          have hlys : ys.length ≤ 8 := by
            have := wf.few
            rw [List.length_map] at this
            exact this
          have sL := same_new (o := .lst ys) hL
          refine ⟨L, rfl, ⟨_, SqL.of upd_same⟩, fun D hD => ?_⟩
          have sD := sL.trans (same_new (o := .lst []) hD)
          refine lc_list (K := K) (a := L) (xs := ys) (fun i H' => ∃ ts : List Addr, Same (upd H8 L (.lst ys)) H' ∧ H' D = some (.lst (ts.map V.ref)) ∧ RodsAt K H' ts ((ys.map (rodOf H8 (kvOf rs))).take i))
            ⟨[], same_new hD, upd_same, rfl, fun i t r ht _ => absurd (List.mem_of_getElem? ht) List.not_mem_nil⟩ (fun i H' _ p => by obtain ⟨_, p, _⟩ := p; exact SqL.of (p _ _ upd_same)) ?_ ?_
          · rintro i y H' hy ⟨ts, sm, hts, hR⟩
            obtain ⟨b, r, rfl, hr, er, hb⟩ := hat i y hy
            have hb' := sm _ _ (sL _ _ hb)
            have hi8 : i < ys.length := (List.getElem?_eq_some_iff.mp hy).1
            refine ⟨b, _, rfl, SqT.of hb', rfl, _, _, rfl, _, _, rfl, rfl, rfl, ?_⟩
            refine ⟨_, rfl, _, rfl, _, rfl, _, rfl, _, rfl, (by show 2 ≤ sizeLine; decide), fun kt hkt => ?_⟩
            have hd9 := (same_new (o := .tup [iv r.1, iv r.2.1]) hkt) _ _ (sm _ _ (sL _ _ hd8))
            refine ⟨d, iv r.2.2, rfl, ?_, (by show 3 ≤ sizeLine; decide), fun u hu => ?_⟩
            · have := DGet.t (k := keyR r.1 r.2.1) hd9 (upd_same (H := H') (a := kt) (o := .tup [iv r.1, iv r.2.1]))
              rw [valV_kvOf hok hr] at this
              exact this
            have sm2 := same_new (o := .tup [iv r.1, iv r.2.1]) hkt
            have sm3 := sm2.trans (same_new (o := .tup [iv r.1, iv r.2.1, iv r.2.2]) hu)
            have hts3 := sm3 _ _ hts
            have hl3 : ts.length ≤ 8 := by
              rw [hR.1, List.length_take, List.length_map]
              omega
            have hDn : (upd H8 L (.lst ys)) D = none := hD
            refine ⟨_, hts3, by rw [List.length_map]; exact sizeS (by omega), ts ++ [u], (sm.trans sm3).mut hDn, by rw [upd_same, List.map_append]; rfl, ?_⟩
            have etk : (ys.map (rodOf H8 (kvOf rs))).take (i + 1) = (ys.map (rodOf H8 (kvOf rs))).take i ++ [r] := by
              rw [List.take_add_one, List.getElem?_map, hy]
              show _ ++ [rodOf H8 (kvOf rs) (V.ref b)] = _
              rw [er]
            rw [etk]
            have hR3 := (hR.same sm3)
            refine ⟨by rw [List.length_append, List.length_append, hR.1]; rfl, fun j t' r' ht hr' => ?_⟩
            have key : SqT K (upd (upd H' kt (.tup [iv r.1, iv r.2.1])) u (.tup [iv r.1, iv r.2.1, iv r.2.2])) t' [.int (r'.1 : Nat), .int (r'.2.1 : Nat), .int (r'.2.2 : Nat)] := by
              by_cases hj : j < ts.length
              · rw [List.getElem?_append_left hj] at ht
                rw [List.getElem?_append_left (by rw [← hR.1]; exact hj)] at hr'
                exact hR3.2 j t' r' ht hr'
              · rw [List.getElem?_append_right (by omega)] at ht
                rw [List.getElem?_append_right (by rw [← hR.1]; omega), ← hR.1] at hr'
                have h0 : j - ts.length = 0 := by
                  have := (List.getElem?_eq_some_iff.mp ht).1
                  rw [List.length_singleton] at this
                  omega
                rw [h0] at ht hr'
                cases ht
                cases hr'
                exact SqT.of upd_same
            rcases key with (key | ⟨o, key⟩) | key
            · exact .inl (.inl (by rw [upd_ne (show t' ≠ D from fun e => by rw [e, hts3] at key; cases key)]; exact key))
            · exact .inl (.inr ⟨o, by rw [upd_ne (show t' ≠ D from fun e => by rw [e, hts3] at key; cases key)]; exact key⟩)
            · exact .inr key
          · rintro H' ⟨ts, sm, hts, hR⟩
            rw [List.take_of_length_le (by rw [List.length_map]; exact Nat.le_refl _)] at hR
            refine ⟨D, _, rfl, .inl ⟨SqL.of hts, fun l hl => ?_⟩⟩
            refine ⟨(by show 2 ≤ sizeLine; decide), fun a ha => ?_⟩
            have sm2 := (same_new (o := .tup (ts.map V.ref)) hl)
            have sm3 := sm2.trans (same_new (o := .tup [iv n, .ref l]) ha)
            refine q _ a n _ wf ⟨l, ts, SqT.of upd_same, (same_new ha).seqT (SqT.of upd_same), hR.same sm3⟩ (hrow8.same ((sL.trans sm).trans sm3)) (hb8.same ((sL.trans sm).trans sm3))
end
end Lt
namespace Lt
open PySem L2 PyProof.Rows
/-- the pair (length, way) -/
def WyAt (H : Hp) (t : Addr) (x : Wy) : Prop := ∃ u, H t = some (.tup [iv x.1, .ref u]) ∧ H u = some (.tup (x.2.map iv))
def WysAt (H : Hp) (ts : List Addr) (xs : List Wy) : Prop := ts.length = xs.length ∧ ∀ (i : Nat) (t : Addr) (x : Wy), ts[i]? = some t → xs[i]? = some x → WyAt H t x
section
variable {K : PySem.W.Frag} {H H' : Hp} {ts : List Addr} {xs : List Wy} {t : Addr} {x : Wy}
theorem WyAt.same (h : WyAt H t x) (e : Same H H') : WyAt H' t x := by
  obtain ⟨u, h1, h2⟩ := h
  exact ⟨u, e _ _ h1, e _ _ h2⟩
theorem WysAt.same (h : WysAt H ts xs) (e : Same H H') : WysAt H' ts xs := ⟨h.1, fun i t x a b => (h.2 i t x a b).same e⟩
/-- a list changes: no tuple does -/
theorem WyAt.mut {l : Addr} {vs ws : List V} (h : WyAt H t x) (hl : H l = some (.lst vs)) : WyAt (upd H l (.lst ws)) t x := by
  obtain ⟨u, h1, h2⟩ := h
  refine ⟨u, ?_, ?_⟩
  · rw [upd_ne (fun e => by rw [e, hl] at h1; cases h1)]; exact h1
  · rw [upd_ne (fun e => by rw [e, hl] at h2; cases h2)]; exact h2
theorem WysAt.mut {l : Addr} {vs ws : List V} (h : WysAt H ts xs) (hl : H l = some (.lst vs)) : WysAt (upd H l (.lst ws)) ts xs := ⟨h.1, fun i t x a b => (h.2 i t x a b).mut hl⟩
theorem WysAt.nil : WysAt H [] [] := ⟨rfl, fun i t x h _ => absurd (List.mem_of_getElem? h) List.not_mem_nil⟩
theorem WysAt.snoc (h : WysAt H ts xs) (ht : WyAt H t x) : WysAt H (ts ++ [t]) (xs ++ [x]) := by
  refine ⟨by rw [List.length_append, List.length_append, h.1]; rfl, fun i u q hu hq => ?_⟩
  by_cases hi : i < ts.length
  · rw [List.getElem?_append_left hi] at hu
    rw [List.getElem?_append_left (by rw [← h.1]; exact hi)] at hq
    exact h.2 i u q hu hq
  · rw [List.getElem?_append_right (by omega)] at hu
    rw [List.getElem?_append_right (by rw [← h.1]; omega), ← h.1] at hq
    have h0 : i - ts.length = 0 := by
      have := (List.getElem?_eq_some_iff.mp hu).1
      rw [List.length_singleton] at this
      omega
    rw [h0] at hu hq
    cases hu
    cases hq
    exact ht
theorem WysAt.back (h : WysAt H (ts ++ [t]) (xs ++ [x])) : WysAt H ts xs ∧ WyAt H t x := by
  have hl : ts.length = xs.length := by
    have := h.1
    rw [List.length_append, List.length_append] at this
    simp at this
    exact this
  refine ⟨⟨hl, fun i u q hu hq => ?_⟩, ?_⟩
  · have hi := (List.getElem?_eq_some_iff.mp hu).1
    exact h.2 i u q (by rw [List.getElem?_append_left hi]; exact hu) (by rw [List.getElem?_append_left (by omega)]; exact hq)
  · exact h.2 ts.length t x (by simp) (by rw [hl]; simp)
theorem snoc_of {α : Type} {l : List α} (h : l ≠ []) : ∃ l' a, l = l' ++ [a] := ⟨l.dropLast, l.getLast h, (List.dropLast_concat_getLast h).symm⟩
def datW (x : Wy) : PyData := .tuple [.int (x.1 : Nat), .tuple (x.2.map fun (q : Nat) => .int (q : Int))]
theorem dpAll_iv (w : List Nat) : DpAll K H (w.map iv) (w.map fun (q : Nat) => .int (q : Int)) := by
  induction w with
  | nil => exact .nil
  | cons a w ih => exact .cons (.int _) ih
theorem WyAt.dp (h : WyAt H t x) : Dp K H (.ref t) (datW x) := by
  obtain ⟨u, h1, h2⟩ := h
  exact .tup (SqT.of h1) (.cons (.int _) (.cons (.tup (SqT.of h2) (dpAll_iv _)) .nil))
theorem WysAt.dp : ∀ {ts : List Addr} {xs : List Wy}, WysAt H ts xs → DpAll K H (ts.map V.ref) (xs.map datW)
  | [], [], _ => .nil
  | [], _ :: _, h => absurd h.1 (by simp)
  | _ :: _, [], h => absurd h.1 (by simp)
  | t :: ts, x :: xs, h => by
    refine .cons (h.2 0 t x rfl rfl).dp (WysAt.dp ⟨by have := h.1; simpa using this, fun i u q hu hq => h.2 (i + 1) u q (by simpa using hu) (by simpa using hq)⟩)
theorem canLayAll_ivs (w : List Nat) : PyData.canLayAll0 (w.map fun (q : Nat) => PyData.int (q : Int)) = true := by
  induction w with
  | nil => simp [PyData.canLayAll0]
  | cons a w ih => simp [PyData.canLayAll0, PyData.canLay0, ih]
theorem depthAll_ivs (w : List Nat) : PyData.depthAll (w.map fun (q : Nat) => PyData.int (q : Int)) = 0 := by
  induction w with
  | nil => simp [PyData.depthAll]
  | cons a w ih => simp [PyData.depthAll, PyData.depth, ih]
theorem canLayAll_dat (xs : List Wy) : PyData.canLayAll0 (xs.map datW) = true := by
  induction xs with
  | nil => simp [PyData.canLayAll0]
  | cons a w ih => simp [PyData.canLayAll0, PyData.canLay0, datW, ih, canLayAll_ivs]
theorem depthAll_dat (xs : List Wy) : PyData.depthAll (xs.map datW) ≤ 2 := by
  induction xs with
  | nil => simp [PyData.depthAll]
  | cons a w ih =>
    simp only [List.map_cons, PyData.depthAll, PyData.depth, datW, depthAll_ivs]
    omega
theorem shaped_dat (xs : List Wy) : SeqAt.shaped (.list (xs.map datW)) = true := by
  unfold SeqAt.shaped
  have := depthAll_dat xs
  simp only [PyData.canLay0, canLayAll_dat, PyData.depth, Bool.true_and]
  exact decide_eq_true (by omega)
theorem eqv_nil (xs : List Wy) : PyData.eqv (.list (xs.map datW)) (.list []) = xs.isEmpty := by
  cases xs with
  | nil => simp [PyData.eqv, PyData.eqvAll]
  | cons a w => simp [PyData.eqv, PyData.eqvAll]
theorem shaped_nil : SeqAt.shaped (.list []) = true := by
  unfold SeqAt.shaped
  simp [PyData.canLay0, PyData.canLayAll0, PyData.depth, PyData.depthAll]
theorem atI_en {w : List Nat} (h : w ≠ []) : atI (w.map iv) (-1) = some (iv (en w)) := by
  obtain ⟨w', a, rfl⟩ := snoc_of h
  rw [List.map_append, en_snoc]
  exact atI_last _ _
end
/-- what some directed rods give -/
def exd (ds : List Rod) (x : Wy) : List Wy := (ds.filter (goes x)).map (onward x)
theorem exd_all (rods : List Rod) (x : Wy) : exd (steps rods) x = ext rods x := rfl
theorem exd_snoc (ds : List Rod) (d : Rod) (x : Wy) : exd (ds ++ [d]) x = exd ds x ++ (if goes x d = true then [onward x d] else []) := by
  unfold exd
  rw [List.filter_append, List.map_append]
  congr 1
  rw [List.filter_cons]
  split <;> rfl
theorem steps_snoc (l : List Rod) (r : Rod) : steps (l ++ [r]) = (steps l ++ [(r.1, r.2.1, r.2.2)]) ++ [(r.2.1, r.1, r.2.2)] := by
  unfold steps
  rw [List.flatMap_append, List.append_assoc]
  rfl
theorem exd_len (ds : List Rod) (x : Wy) : (exd ds x).length ≤ ds.length := by
  unfold exd
  rw [List.length_map]
  exact List.length_filter_le _ _
section
variable {P : Program} {w : World} {K : PySem.W.Frag} {mg : Str → Option Value} {base : Heap}
def spWays (K : PySem.W.Frag) : Sp := fun vs H Q _ => ∃ (a : Addr) (n : Nat) (rods : List Rod) (one t : Nat), vs = [.ref a, iv one, iv t] ∧ Wf n rods ∧ NetAt K H a n rods ∧ one < n ∧
  ∀ (H' : Hp) (p : Addr) (ts : List Addr), Same H H' → H' p = some (.lst (ts.map V.ref)) → WysAt H' ts (wys rods n t (0, [one])) → ts.length ≤ 1118481 → Q (.ref p) H'
theorem ok_ways (T : Txt K mg) : OkOf P w K mg base 1 "_law_ways" ["_law_net_here", "_law_one", "_law_other"] (spWays K) := okOf T.ways fun f fd F => by
  refine F.ok scWays (fun vs H Q E h => ?_) (fun cdv A outer s H vs Q E hr h => ?_)
  · obtain ⟨a, n, rods, one, t, rfl, _⟩ := h
    rfl
  · obtain ⟨a, n, rods, one, t, rfl, wf, ⟨r, ts, hA, hR, hT⟩, h1, q⟩ := h
    have nd := scWays.nd
    refine ⟨_, pss_cons (ps_par (i := 3) (j := 4) (by rfl) nd rfl rfl (by decide) rfl rfl (pa_cons (pe_lst pa_nil) (pa_cons (pe_lst (pa_cons (pe_tup (pa_cons pe_int (pa_cons (pe_tup (pa_cons (pv 1) pa_nil)) pa_nil))) pa_nil)) pa_nil)) (by rfl))
      (pss_cons (ps_while PassesOwn.never (pt_cmpR (op_neD hr.units) (pv 4) (pe_lst pa_nil) (nomark _))
        (pss_cons (ps_asg (pe_bm0 PySem.F.plainAttrs_list PySem.F.slot_list_pop PySem.F.type_list_pop mt_pop (pv 4)) (pg_tup (by rfl) (pgs_cons (pg_name (i := 5) nd rfl (.inl rfl)) (pgs_cons (pg_name (i := 6) nd rfl (.inl rfl)) pgs_nil))))
        (pss_one (ps_if (pt_cmpR op_eq (pe_ix ix_tup (pv 6) (pe_un un_neg pe_int) (fun _ _ => rfl)) (pv 2) (nomark _))
          (pss_one (ps_expr (pe_bm PySem.F.plainAttrs_list PySem.F.slot_list_append PySem.F.type_list_append mt_append (pv 3) (pa_cons (pe_tup (pa_cons (pv 5) (pa_cons (pv 6) pa_nil))) pa_nil))))
          (pss_one (ps_for PassesOwn.never rfl (pi_tup (pe_ix ix_tup (pv 0) pe_int (fun _ _ => rfl))) (pg_tup (by rfl) (pgs_cons (pg_name (i := 7) nd rfl (.inl rfl)) (pgs_cons (pg_name (i := 8) nd rfl (.inl rfl)) (pgs_cons (pg_name (i := 9) nd rfl (.inl rfl)) pgs_nil))))
            (pss_one (ps_for PassesOwn.never rfl (pi_list (pe_lst (pa_cons (pe_tup (pa_cons (pv 7) (pa_cons (pv 8) pa_nil))) (pa_cons (pe_tup (pa_cons (pv 8) (pa_cons (pv 7) pa_nil))) pa_nil)))) (pg_tup (by rfl) (pgs_cons (pg_name (i := 10) nd rfl (.inl rfl)) (pgs_cons (pg_name (i := 11) nd rfl (.inl rfl)) pgs_nil)))
              (pss_one (ps_if (PW.pt (pw_and (pt_cmpR op_eq (pv 10) (pe_ix ix_tup (pv 6) (pe_un un_neg pe_int) (fun _ _ => rfl)) (nomark _)) (pw_and1 (pt_cmpR op_notIn_seq (pv 11) (pv 6) (by rfl)))))
                (pss_one (ps_expr (pe_bm PySem.F.plainAttrs_list PySem.F.slot_list_append PySem.F.type_list_append mt_append (pv 4) (pa_cons (pe_tup (pa_cons (pe_op op_add (pv 5) (pv 9)) (pa_cons (pe_op op_catT (pv 6) (pe_tup (pa_cons (pv 11) pa_nil))) pa_nil))) pa_nil)))) pss_nil))))))))))
      (pss_one (ps_ret (pv 3)))), ?_⟩
    have hi := wf.inN
    have hfew := wf.few
    have hn6 := wf.n6
    have wf0 : WfW n ([one] : List Nat) := ⟨by simp, by simp, fun q hq => by
      have : q = one := by simpa using hq
      subst this
      exact h1⟩
    have hnum : num rods n t (0, [one]) ≤ 1118481 := num_le wf (by simp)
    -- found, rim
    refine ⟨Nat.zero_le _, fun Fd hFd => ?_⟩
    have s0 := same_new (o := .lst []) hFd
    refine ⟨_, rfl, (by show 1 ≤ sizeLine; decide), fun u hu => ⟨(by show 2 ≤ sizeLine; decide), fun t0 ht0 => ?_⟩⟩
    have s1 := s0.trans (same_new (o := .tup [iv one]) hu)
    have s2 := s1.trans (same_new (o := .tup [.int 0, .ref u]) ht0)
    refine ⟨(by show 1 ≤ sizeLine; decide), fun Rm hRm => ?_⟩
    have hRmH : H Rm = none := s2.free hRm
    have s3 := s2.trans (same_new (o := .lst [.ref t0]) hRm)
    have hFd3 : (upd (upd (upd (upd H Fd (.lst [])) u (.tup [iv one])) t0 (.tup [.int 0, .ref u])) Rm (.lst [.ref t0])) Fd = some (.lst []) := by
      refine (same_new hRm) _ _ ((same_new ht0) _ _ ((same_new hu) _ _ upd_same))
    have hne : Fd ≠ Rm := fun e => by
      rw [← e] at hRm
      have := (same_new (o := .tup [.int 0, .ref u]) ht0) _ _ ((same_new (o := .tup [iv one]) hu) _ _ (upd_same (H := H) (a := Fd) (o := .lst [])))
      rw [hRm] at this
      cases this
    have hw0 : WyAt (upd (upd (upd (upd H Fd (.lst [])) u (.tup [iv one])) t0 (.tup [.int 0, .ref u])) Rm (.lst [.ref t0])) t0 (0, [one]) :=
      ⟨u, (same_new hRm) _ _ upd_same, (same_new hRm) _ _ ((same_new ht0) _ _ upd_same)⟩
    refine ⟨_, _, rfl, fun m σ H' => ∃ (v5 v6 v7 v8 v9 v10 v11 : Option V) (found rim : List Wy) (ft rt : List Addr), σ = [some (.ref a), some (iv one), some (iv t), some (.ref Fd), some (.ref Rm), v5, v6, v7, v8, v9, v10, v11] ∧ Same H H' ∧
        H' Fd = some (.lst (ft.map V.ref)) ∧ H' Rm = some (.lst (rt.map V.ref)) ∧ WysAt H' ft found ∧ WysAt H' rt rim ∧ Rim rods n t (0, [one]) found rim ∧ (rim.map (num rods n t)).sum ≤ m,
      ⟨_, none, none, none, none, none, none, none, [], [(0, [one])], [], [t0], rfl, s3, hFd3, upd_same, WysAt.nil, WysAt.snoc (ts := []) (xs := []) WysAt.nil hw0, Rim.start wf0, Nat.le_refl _⟩, ?_⟩
    rintro m σ H' ⟨v5, v6, v7, v8, v9, v10, v11, found, rim, ft, rt, rfl, sm, hf, hr', wF, wR, inv, hm⟩
    have hlen := inv.len hi
    refine ⟨_, rfl, Nat.zero_le _, fun e0 he0 => ?_⟩
    have se := same_new (o := .lst []) he0
    refine ⟨.list (rim.map datW), .list [], .lst (SqL.of (se _ _ hr')) (wR.same se).dp, .lst (SqL.of upd_same) .nil, shaped_dat rim, shaped_nil, _, rfl, ?_⟩
    rw [eqv_nil]
    refine ite2 (fun c => ?_) (fun c => ?_)
    · have hrne : rim ≠ [] := fun e => by rw [e] at c; cases c
      obtain ⟨rim', x, rfl⟩ := snoc_of hrne
      have hrtne : rt ≠ [] := fun e => by
        have := wR.1
        rw [e] at this
        simp at this
      obtain ⟨rt', t1, rfl⟩ := snoc_of hrtne
      obtain ⟨wR', wx⟩ := WysAt.back (wR.same se)
      obtain ⟨ux, hx1, hx2⟩ := id wx
      have wfx := inv.wf x (by simp)
      have hxl := wfx.len
      have sme := sm.trans se
      have hf1 := se _ _ hf
      have hr1 := se _ _ hr'
      have hlen1 : rt'.length = rim'.length := wR'.1
      have hlen2 : ft.length = found.length := wF.1
      rw [List.length_append, List.length_singleton] at hlen
      refine ⟨fun σ' H' => ∃ m', m' < m ∧ ∃ (v5 v6 v7 v8 v9 v10 v11 : Option V) (found rim : List Wy) (ft rt : List Addr), σ' = [some (.ref a), some (iv one), some (iv t), some (.ref Fd), some (.ref Rm), v5, v6, v7, v8, v9, v10, v11] ∧ Same H H' ∧
        H' Fd = some (.lst (ft.map V.ref)) ∧ H' Rm = some (.lst (rt.map V.ref)) ∧ WysAt H' ft found ∧ WysAt H' rt rim ∧ Rim rods n t (0, [one]) found rim ∧ (rim.map (num rods n t)).sum ≤ m', fun σ' H' z => z, ?_⟩
      -- pop
      refine ⟨_, rfl, .inl ⟨rfl, _, SqL.of hr1⟩, Rm, _, .ref t1, rfl, rfl, hr1, by simp, ?_⟩
      have edl : ((rt' ++ [t1]).map V.ref).dropLast = rt'.map V.ref := by rw [List.map_append]; exact List.dropLast_concat
      rw [edl]
      have hFR : (upd (upd H' e0 (.lst [])) Rm (.lst (rt'.map V.ref))) Fd = some (.lst (ft.map V.ref)) := by rw [upd_ne hne]; exact hf1
      have wx2 : WyAt (upd (upd H' e0 (.lst [])) Rm (.lst (rt'.map V.ref))) t1 x := wx.mut hr1
      have wR2 : WysAt (upd (upd H' e0 (.lst [])) Rm (.lst (rt'.map V.ref))) rt' rim' := wR'.mut hr1
      have wF2 : WysAt (upd (upd H' e0 (.lst [])) Rm (.lst (rt'.map V.ref))) ft found := (wF.same se).mut hr1
      have sm2 : Same H (upd (upd H' e0 (.lst [])) Rm (.lst (rt'.map V.ref))) := sme.mut hRmH
      have hR2 : (upd (upd H' e0 (.lst [])) Rm (.lst (rt'.map V.ref))) Rm = some (.lst (rt'.map V.ref)) := upd_same
      generalize (upd (upd H' e0 (.lst [])) Rm (.lst (rt'.map V.ref))) = G at hFR wx2 wR2 wF2 sm2 hR2
      obtain ⟨ux, hx1, hx2⟩ := wx2
      refine ⟨t1, _, rfl, SqT.of hx1, rfl, _, _, rfl, _, _, rfl, rfl, ?_⟩
      have hlast := atI_en wfx.ne
      refine ⟨_, rfl, 1, rfl, ux, _, _, _, rfl, rfl, SqT.of hx2, hlast, _, rfl, rfl, _, rfl, ?_⟩
      refine ite2 (fun c => ?_) (fun c => ?_)
      · have e : en x.2 = t := iv_inj.mp (of_decide_eq_true c)
        refine ⟨_, rfl, .inl ⟨rfl, _, SqL.of hFR⟩, _, rfl, _, rfl, (by show 2 ≤ sizeLine; decide), fun t2 ht2 => ?_⟩
        have s4 := same_new (o := .tup [iv x.1, .ref ux]) ht2
        refine ⟨Fd, _, _, rfl, rfl, s4 _ _ hFR, by rw [List.length_map]; exact sizeS (by omega), ?_⟩
        have hsum := Rim.sum_hit (t := t) (rim := rim') hi wfx
        refine ⟨_, Nat.lt_of_lt_of_le hsum hm, _, _, _, _, _, _, _, found ++ [x], rim', ft ++ [t2], rt', rfl, (sm2.trans s4).mut hFd, by rw [upd_same, List.map_append]; rfl, by rw [upd_ne (Ne.symm hne)]; exact s4 _ _ hR2, ?_, (wR2.same s4).mut (s4 _ _ hFR), inv.hit hi e, Nat.le_refl _⟩
        refine WysAt.snoc ((wF2.same s4).mut (s4 _ _ hFR)) (WyAt.mut ?_ (s4 _ _ hFR))
        exact ⟨ux, upd_same, s4 _ _ hx2⟩
      · have hne' : ¬ en x.2 = t := fun e => c (decide_eq_true (by rw [e]))
        have hsum := Rim.sum_on (rim := rim') hi wfx hne'
        refine ⟨_, rfl, a, _, 1, _, rfl, rfl, sm2.seqT hA, rfl, r, rfl, ⟨_, sm2.seqT hR⟩, for_tup (K := K) (a := r) (xs := ts.map V.ref) (fun k σ H' => ∃ (v7 v8 v9 v10 v11 : Option V) (et : List Addr), σ = [some (.ref a), some (iv one), some (iv t), some (.ref Fd), some (.ref Rm), some (iv x.1), some (.ref ux), v7, v8, v9, v10, v11] ∧ Same H H' ∧
            H' Fd = some (.lst (ft.map V.ref)) ∧ H' Rm = some (.lst (et.map V.ref)) ∧ WysAt H' ft found ∧ WysAt H' et (rim' ++ exd (steps (rods.take k)) x) ∧ H' ux = some (.tup (x.2.map iv)))
          ⟨v7, v8, v9, v10, v11, rt', rfl, sm2, hFR, hR2, wF2, by show WysAt G rt' (rim' ++ []); rw [List.append_nil]; exact wR2, hx2⟩ (fun i σ H' _ p => by obtain ⟨_, _, _, _, _, _, _, p, _⟩ := p; exact p.seqT hR) ?_ ?_⟩
        · rintro k y σ H' hy ⟨v7, v8, v9, v10, v11, et, rfl, sm, hf, hr', wF, wE, hux⟩
          obtain ⟨u7, ⟨ra, rb, rl⟩, rfl, hu7, hrod, hS⟩ := hT.at hy
          have hk8 : k < rods.length := (List.getElem?_eq_some_iff.mp hrod).1
          have etk : rods.take (k + 1) = rods.take k ++ [(ra, rb, rl)] := by rw [List.take_add_one, hrod]; rfl
          refine ⟨u7, _, rfl, sm.seqT hS, rfl, _, _, rfl, _, _, rfl, _, _, rfl, rfl, ?_⟩
          refine ⟨_, rfl, _, rfl, (by show 2 ≤ sizeLine; decide), fun p1 hp1 => ⟨_, rfl, _, rfl, (by show 2 ≤ sizeLine; decide), fun p2 hp2 => ⟨(by show 2 ≤ sizeLine; decide), fun LL hLL => ?_⟩⟩⟩
          have g1 := same_new (o := .tup [iv ra, iv rb]) hp1
          have g2 := g1.trans (same_new (o := .tup [iv rb, iv ra]) hp2)
          have g3 := g2.trans (same_new (o := .lst [.ref p1, .ref p2]) hLL)
          have b1 : (upd (upd (upd H' p1 (.tup [iv ra, iv rb])) p2 (.tup [iv rb, iv ra])) LL (.lst [.ref p1, .ref p2])) p1 = some (.tup [iv ra, iv rb]) := (same_new hLL) _ _ ((same_new hp2) _ _ upd_same)
          have b2 : (upd (upd (upd H' p1 (.tup [iv ra, iv rb])) p2 (.tup [iv rb, iv ra])) LL (.lst [.ref p1, .ref p2])) p2 = some (.tup [iv rb, iv ra]) := (same_new hLL) _ _ upd_same
          have b3 : (upd (upd (upd H' p1 (.tup [iv ra, iv rb])) p2 (.tup [iv rb, iv ra])) LL (.lst [.ref p1, .ref p2])) LL = some (.lst [.ref p1, .ref p2]) := upd_same
          have hLR : LL ≠ Rm := fun e => by
            rw [e] at hLL
            have := g2 _ _ hr'
            rw [hLL] at this
            cases this
          have c1 := sm.trans g3
          have c2 := g3 _ _ hf
          have c3 := g3 _ _ hr'
          have c4 := wF.same g3
          have c5 := wE.same g3
          have c6 := g3 _ _ hux
          generalize (upd (upd (upd H' p1 (.tup [iv ra, iv rb])) p2 (.tup [iv rb, iv ra])) LL (.lst [.ref p1, .ref p2])) = G2 at b1 b2 b3 c1 c2 c3 c4 c5 c6
          -- one of the two directions
          refine ⟨LL, rfl, ⟨_, SqL.of b3⟩, for_list (K := K) (a := LL) (xs := [.ref p1, .ref p2]) (fun j σ H' => ∃ (v10 v11 : Option V) (et : List Addr), σ = [some (.ref a), some (iv one), some (iv t), some (.ref Fd), some (.ref Rm), some (iv x.1), some (.ref ux), some (iv ra), some (iv rb), some (iv rl), v10, v11] ∧ Same H H' ∧
              H' Fd = some (.lst (ft.map V.ref)) ∧ H' Rm = some (.lst (et.map V.ref)) ∧ WysAt H' ft found ∧ WysAt H' et (rim' ++ exd (steps (rods.take k) ++ [(ra, rb, rl), (rb, ra, rl)].take j) x) ∧ H' ux = some (.tup (x.2.map iv)) ∧
              H' p1 = some (.tup [iv ra, iv rb]) ∧ H' p2 = some (.tup [iv rb, iv ra]) ∧ H' LL = some (.lst [.ref p1, .ref p2]))
            ⟨v10, v11, et, rfl, c1, c2, c3, c4, by show WysAt G2 et (rim' ++ exd (steps (rods.take k) ++ []) x); rw [List.append_nil]; exact c5, c6, b1, b2, b3⟩ (fun i σ H' _ p => by obtain ⟨_, _, _, _, _, _, _, _, _, _, _, _, p⟩ := p; exact SqL.of p) ?_ ?_⟩
          · rintro j y σ H' hy ⟨v10, v11, et, rfl, sm, hf, hr', wF, wE, hux, hp1, hp2, hLl⟩
            -- the pair
            obtain ⟨pj, hh, qq, rfl, hpj, ej⟩ : ∃ (pj : Addr) (hh qq : Nat), y = .ref pj ∧ H' pj = some (.tup [iv hh, iv qq]) ∧ [(ra, rb, rl), (rb, ra, rl)].take (j + 1) = [(ra, rb, rl), (rb, ra, rl)].take j ++ [(hh, qq, rl)] := by
              match j, hy with
              | 0, hy => exact ⟨p1, ra, rb, (Option.some.inj hy).symm, hp1, rfl⟩
              | 1, hy => exact ⟨p2, rb, ra, (Option.some.inj hy).symm, hp2, rfl⟩
              | _ + 2, hy => simp at hy
            have hj2 : j < 2 := (List.getElem?_eq_some_iff.mp hy).1
            refine ⟨pj, _, rfl, SqT.of hpj, rfl, _, _, rfl, _, _, rfl, rfl, ?_⟩
            have hexl := exd_len (steps (rods.take k) ++ [(ra, rb, rl), (rb, ra, rl)].take j) x
            rw [List.length_append, steps_len, List.length_take, List.length_take] at hexl
            have hexl2 : (exd (steps (rods.take k) ++ [(ra, rb, rl), (rb, ra, rl)].take j) x).length ≤ 18 := by
              have : ([(ra, rb, rl), (rb, ra, rl)] : List Rod).length = 2 := rfl
              omega
            have het : et.length ≤ 1118481 + 18 := by
              rw [wE.1, List.length_append]
              omega
            have eexd : exd (steps (rods.take k) ++ [(ra, rb, rl), (rb, ra, rl)].take (j + 1)) x = exd (steps (rods.take k) ++ [(ra, rb, rl), (rb, ra, rl)].take j) x ++ (if goes x (hh, qq, rl) = true then [onward x (hh, qq, rl)] else []) := by
              rw [ej, ← List.append_assoc, exd_snoc]
            have skip : goes x (hh, qq, rl) = false → ∃ (v10 v11 : Option V) (et : List Addr), ([some (.ref a), some (iv one), some (iv t), some (.ref Fd), some (.ref Rm), some (iv x.1), some (.ref ux), some (iv ra), some (iv rb), some (iv rl), some (iv hh), some (iv qq)] : L2.St) = [some (.ref a), some (iv one), some (iv t), some (.ref Fd), some (.ref Rm), some (iv x.1), some (.ref ux), some (iv ra), some (iv rb), some (iv rl), v10, v11] ∧ Same H H' ∧
              H' Fd = some (.lst (ft.map V.ref)) ∧ H' Rm = some (.lst (et.map V.ref)) ∧ WysAt H' ft found ∧ WysAt H' et (rim' ++ exd (steps (rods.take k) ++ [(ra, rb, rl), (rb, ra, rl)].take (j + 1)) x) ∧ H' ux = some (.tup (x.2.map iv)) ∧
              H' p1 = some (.tup [iv ra, iv rb]) ∧ H' p2 = some (.tup [iv rb, iv ra]) ∧ H' LL = some (.lst [.ref p1, .ref p2]) := fun hg => by
              refine ⟨_, _, et, rfl, sm, hf, hr', wF, ?_, hux, hp1, hp2, hLl⟩
              rw [eexd, hg, if_neg (by decide), List.append_nil]
              exact wE
            refine ⟨_, rfl, _, rfl, 1, rfl, ux, _, _, _, rfl, rfl, SqT.of hux, hlast, rfl, _, rfl, ?_⟩
            refine ite2 (fun c => ?_) (fun c => ?_)
            · have c : hh = en x.2 := iv_inj.mp (of_decide_eq_true c)
              refine ⟨_, rfl, _, rfl, ux, _, rfl, .inr (SqT.of hux), rfl, flat_iv x.2, _, rfl, ?_⟩
              show if (!inV (iv qq) (x.2.map iv)) = true then _ else _
              rw [inV_iv]
              refine ite2 (fun c2 => ?_) (fun c2 => ?_)
              · have c2 : ¬ qq ∈ x.2 := by simpa using c2
                have hg : goes x (hh, qq, rl) = true := decide_eq_true ⟨c, c2⟩
                refine ⟨_, rfl, .inl ⟨rfl, _, SqL.of hr'⟩, _, rfl, _, rfl, _, _, rfl, rfl, _, rfl, _, rfl, (by show 1 ≤ sizeLine; decide), fun p3 hp3 => ?_⟩
                have k1 := same_new (o := .tup [iv qq]) hp3
                refine ⟨ux, p3, _, _, rfl, rfl, SqT.of (k1 _ _ hux), SqT.of upd_same, by simp [wfx.ne], by rw [List.length_map]; exact sizeL (by show x.2.length + 1 ≤ _; omega), fun z => absurd z (List.cons_ne_nil _ _), fun _ p4 hp4 => ?_⟩
                have k2 := k1.trans (same_new (o := .tup (x.2.map iv ++ [iv qq])) hp4)
                refine ⟨(by show 2 ≤ sizeLine; decide), fun p5 hp5 => ?_⟩
                have k3 := k2.trans (same_new (o := .tup [.int (((x.1 : Nat) : Int) + ((rl : Nat) : Int)), .ref p4]) hp5)
                have hr3 := k3 _ _ hr'
                refine ⟨Rm, _, _, rfl, rfl, hr3, by rw [List.length_map]; exact sizeS (by omega), ?_⟩
                refine ⟨_, _, et ++ [p5], rfl, (sm.trans k3).mut hRmH, by rw [upd_ne hne]; exact k3 _ _ hf, by rw [upd_same, List.map_append]; rfl, (wF.same k3).mut hr3, ?_, by rw [upd_ne (fun e => by rw [e, hr'] at hux; cases hux)]; exact k3 _ _ hux,
                  by rw [upd_ne (fun e => by rw [e, hr'] at hp1; cases hp1)]; exact k3 _ _ hp1, by rw [upd_ne (fun e => by rw [e, hr'] at hp2; cases hp2)]; exact k3 _ _ hp2, by rw [upd_ne hLR]; exact k3 _ _ hLl⟩
                rw [eexd, hg, if_pos rfl, ← List.append_assoc]
                refine WysAt.snoc ((wE.same k3).mut hr3) (WyAt.mut ⟨p4, ?_, ?_⟩ hr3)
                · rw [upd_same]
                  rfl
                · refine (same_new hp5) _ _ ?_
                  rw [upd_same]
                  show some (HO.tup (x.2.map iv ++ [iv qq])) = some (HO.tup ((x.2 ++ [qq]).map iv))
                  rw [List.map_append]
                  rfl
              · have c2 : qq ∈ x.2 := by
                  by_cases z : qq ∈ x.2
                  · exact z
                  · exact absurd (by simp [z]) c2
                exact skip (decide_eq_false fun z => z.2 c2)
            · have c : ¬ hh = en x.2 := fun e => c (decide_eq_true (by rw [e]))
              exact iteF (skip (decide_eq_false fun z => c z.1))
          · rintro σ H' ⟨v10, v11, et, rfl, sm, hf, hr', wF, wE, hux, hp1, hp2, hLl⟩
            refine ⟨_, _, _, _, _, et, rfl, sm, hf, hr', wF, ?_, hux⟩
            rw [etk, steps_snoc, List.append_assoc]
            exact wE
        · rintro σ H' ⟨v7, v8, v9, v10, v11, et, rfl, sm, hf, hr', wF, wE, hux⟩
          rw [hT.len, List.take_length, exd_all] at wE
          exact ⟨_, Nat.lt_of_lt_of_le hsum hm, _, _, _, _, _, _, _, found, rim' ++ ext rods x, ft, et, rfl, sm, hf, hr', wF, wE, inv.on hi hne', Nat.le_refl _⟩
    · have hrim : rim = [] := by
        cases rim with
        | nil => rfl
        | cons y ys => exact absurd rfl c
      subst hrim
      have := inv.eq
      simp only [List.reverse_nil, List.flatMap_nil, List.append_nil] at this
      refine ⟨_, rfl, q _ Fd ft (sm.trans se) (se _ _ hf) ?_ ?_⟩
      · rw [← this]
        exact wF.same se
      · rw [wF.1]
        omega
end
end Lt
namespace Lt
open PySem L2 PyProof.Rows
/-- two values of the same numbers in the same lists and tuples -/
def Alk (K : PySem.W.Frag) (H : Hp) : Nat → V → V → Prop
  | 0, x, y => ∃ i : Int, x = .int i ∧ y = .int i
  | k + 1, x, y => (∃ i : Int, x = .int i ∧ y = .int i) ∨ ∃ (a b : Addr) (xs ys : List V), x = .ref a ∧ y = .ref b ∧ ((SqL K H a xs ∧ SqL K H b ys) ∨ (SqT K H a xs ∧ SqT K H b ys)) ∧ xs.length = ys.length ∧ ys.length ≤ 1000 ∧
      ∀ (i : Nat) (u v : V), xs[i]? = some u → ys[i]? = some v → Alk K H k u v
theorem Alk.int {K : PySem.W.Frag} {H : Hp} (k : Nat) (i : Int) : Alk K H k (.int i) (.int i) := by
  cases k with
  | zero => exact ⟨i, rfl, rfl⟩
  | succ k => exact .inl ⟨i, rfl, rfl⟩
theorem Alk.same {K : PySem.W.Frag} {H H' : Hp} (e : Same H H') : ∀ {k : Nat} {x y : V}, Alk K H k x y → Alk K H' k x y
  | 0, _, _, h => h
  | k + 1, _, _, h => by
    rcases h with h | ⟨a, b, xs, ys, e1, e2, h1, h2, h3, h4⟩
    · exact .inl h
    · exact .inr ⟨a, b, xs, ys, e1, e2, h1.imp (fun z => ⟨e.seq z.1, e.seq z.2⟩) (fun z => ⟨e.seqT z.1, e.seqT z.2⟩), h2, h3, fun i u v g1 g2 => Alk.same e (h4 i u v g1 g2)⟩
theorem kit_int {K : PySem.W.Frag} : PySem.W.kitAny K (.type "int") [.type "tuple", .type "list"] = some false :=
  kitAny_cons (kit_ty (r := false) (by decide +kernel)) (fun _ => kitAny_cons (kit_ty (r := false) (by decide +kernel)) (fun _ => kitAny_nil) (fun h => by cases h)) (fun h => by cases h)
theorem kit_tuple {K : PySem.W.Frag} : PySem.W.kitAny K (.type "tuple") [.type "tuple", .type "list"] = some true :=
  kitAny_cons (kit_ty (r := true) (by decide +kernel)) (fun h => by cases h) (fun _ => rfl)
theorem kit_list {K : PySem.W.Frag} : PySem.W.kitAny K (.type "list") [.type "tuple", .type "list"] = some true :=
  kitAny_cons (kit_ty (r := false) (by decide +kernel)) (fun _ => kitAny_cons (kit_ty (r := true) (by decide +kernel)) (fun h => by cases h) (fun _ => rfl)) (fun h => by cases h)
section
variable {P : Program} {w : World} {K : PySem.W.Frag} {mg : Str → Option Value} {base : Heap}
def spAlike (K : PySem.W.Frag) (m : Nat) : Sp := fun vs H Q _ => ∃ (k : Nat) (x y : V), m = k + 1 ∧ vs = [x, y] ∧ Alk K H k x y ∧ ∀ H', Same H H' → Q (.bl true) H'
theorem alike_step {f : Addr} {fd : FuncData} {m : Nat} (T : Txt K mg) (F : Fun K "_law_alike" "_law_alike" sAlike f fd) (mf : mg "_law_alike" = some (.ref f)) (bf : Binds K fd ["_law_found", "_law_due"] []) (G : FnOk P w K mg base CX0 m f fd ["_law_found", "_law_due"] (spAlike K m)) :
    FnOk P w K mg base CX0 (m + 1) f fd ["_law_found", "_law_due"] (spAlike K (m + 1)) := by
  refine F.ok scAlike (fun vs H Q E h => ?_) (fun cdv A outer s H vs Q E hr h => ?_)
  · obtain ⟨k, x, y, _, rfl, _⟩ := h
    rfl
  · obtain ⟨k, x, y, ek, rfl, hal, q⟩ := h
    have ek : m = k := by omega
    subst ek
    have nd := scAlike.nd
    refine ⟨_, pss_cons (ps_if (pt_val (pe_callB call_isiT (by rfl) T.bIsinstance (by decide +kernel) (pa_cons (pv 1) (pa_cons (pe_tup (pa_cons (pe_bltn (v := .ty "tuple") (by rfl) T.bTuple (by decide +kernel) rfl) (pa_cons (pe_bltn (v := .ty "list") (by rfl) T.bList (by decide +kernel) rfl) pa_nil))) pa_nil))))
        (pss_cons (ps_if (PW.pt (pw_or (pt_not (pt_val (pe_callB call_isiT (by rfl) T.bIsinstance (by decide +kernel) (pa_cons (pv 0) (pa_cons (pe_tup (pa_cons (pe_bltn (v := .ty "tuple") (by rfl) T.bTuple (by decide +kernel) rfl) (pa_cons (pe_bltn (v := .ty "list") (by rfl) T.bList (by decide +kernel) rfl) pa_nil))) pa_nil)))))
            (pw_or1 (pt_cmpR op_ne (pe_callB call_isi (by rfl) T.bIsinstance (by decide +kernel) (pa_cons (pv 0) (pa_cons (pe_bltn (v := .ty "list") (by rfl) T.bList (by decide +kernel) rfl) pa_nil)))
              (pe_callB call_isi (by rfl) T.bIsinstance (by decide +kernel) (pa_cons (pv 1) (pa_cons (pe_bltn (v := .ty "list") (by rfl) T.bList (by decide +kernel) rfl) pa_nil))) (nomark _))))) pss_never pss_nil)
        (pss_cons (ps_if (pt_cmpR op_ne (pe_callB call_len_seq (by rfl) T.bLen PySem.boot_len (pa_cons (pv 0) pa_nil)) (pe_callB call_len_seq (by rfl) T.bLen PySem.boot_len (pa_cons (pv 1) pa_nil)) (nomark _)) pss_never pss_nil)
        (pss_one (ps_ret (pe_cmpR (op_eqD hr.units) (pe_lc (own := [("_law_k", 2)]) (g := gName 2) (by rfl) nd (pi_range1 rfl T.bRange (pa_cons (pe_callB call_len_seq (by rfl) T.bLen PySem.boot_len (pa_cons (pv 1) pa_nil)) pa_nil))
            (blkOk_by (own := [("_law_k", 2)]) (N := ["_law_found", "_law_due", "_law_k"]) (sc := defScope sAlike) (by decide +kernel)) (fun _ _ _ _ _ => pg_name (i := 2) nd rfl (Or.inl rfl))
            (fun _ _ _ _ _ => pts_one (pt_not (pt_val (pe_call G hr (by rfl) mf F.kp bf .nil pass0 (pa_cons (pe_ix (show IxR _ (rIx K) from ix_seq) (pv 0) (pv 2) (fun _ _ => rfl)) (pa_cons (pe_ix (show IxR _ (rIx K) from ix_seq) (pv 1) (pv 2) (fun _ _ => rfl)) pa_nil)))))) (fun _ _ _ _ _ => pv 2))
          (pe_lst pa_nil) (nomark _)))))) pss_nil)
      (pss_cons (ps_if (PW.pt (pw_or (pt_cmpR op_isN (pv 1) pe_non (nomark _)) (pw_or1 (pt_val (pe_callB call_isi (by rfl) T.bIsinstance (by decide +kernel) (pa_cons (pv 1) (pa_cons (pe_bltn (v := .ty "str") (by rfl) T.bStr (by decide +kernel) rfl) pa_nil))))))) pss_never pss_nil)
      (pss_one (ps_ret (pe_and (pe_callB call_isi (by rfl) T.bIsinstance (by decide +kernel) (pa_cons (pv 0) (pa_cons (pe_bltn (v := .ty "int") (by rfl) T.bInt (by decide +kernel) rfl) pa_nil)))
        (pe_and (pe_cmpR op_eq (pe_callB call_isi (by rfl) T.bIsinstance (by decide +kernel) (pa_cons (pv 0) (pa_cons (pe_bltn (v := .ty "bool") (by rfl) T.bBool (by decide +kernel) rfl) pa_nil)))
          (pe_callB call_isi (by rfl) T.bIsinstance (by decide +kernel) (pa_cons (pv 1) (pa_cons (pe_bltn (v := .ty "bool") (by rfl) T.bBool (by decide +kernel) rfl) pa_nil))) (nomark _))
        (pe_one (pe_cmpR op_eq (pv 0) (pv 1) (nomark _)))))))), ?_⟩
    have hcls : Paired ClsV [V.ty "tuple", V.ty "list"] [Value.type "tuple", Value.type "list"] := .cons (.ty _) (.cons (.ty _) .nil)
    have cas : (∃ i : Int, x = .int i ∧ y = .int i) ∨ ∃ (k : Nat), m = k + 1 ∧ ∃ (a b : Addr) (xs ys : List V), x = .ref a ∧ y = .ref b ∧ ((SqL K H a xs ∧ SqL K H b ys) ∨ (SqT K H a xs ∧ SqT K H b ys)) ∧ xs.length = ys.length ∧ ys.length ≤ 1000 ∧
        ∀ (i : Nat) (u v : V), xs[i]? = some u → ys[i]? = some v → Alk K H k u v := by
      cases m with
      | zero => exact .inl hal
      | succ k => exact hal.imp id fun z => ⟨k, rfl, z⟩
    refine ⟨_, rfl, (by show 2 ≤ sizeLine; decide), fun tp htp => ?_⟩
    have s1 := same_new (o := .tup [.ty "tuple", .ty "list"]) htp
    rcases cas with ⟨i, rfl, rfl⟩ | ⟨k, rfl, a, b, xs, ys, rfl, rfl, hsq, hlen, hle, hall⟩
    · refine ⟨_, tp, _, .type "int", _, false, rfl, upd_same, hcls, .base (.int i), kit_int, false, rfl, iteF ?_⟩
      refine ⟨_, rfl, rfl, _, rfl, iteF ?_⟩
      refine ⟨_, rfl, .int i, .ty "str", .type "int", .type "str", false, rfl, .ty _, .base (.int i), kit_ty (by decide +kernel), false, rfl, iteF ?_⟩
      refine ⟨_, rfl, .int i, .ty "int", .type "int", .type "int", true, rfl, .ty _, .base (.int i), kit_ty (by decide +kernel), true, rfl, iteT ?_⟩
      refine ⟨_, rfl, .int i, .ty "bool", .type "int", .type "bool", false, rfl, .ty _, .base (.int i), kit_ty (by decide +kernel), ?_⟩
      refine ⟨_, rfl, .int i, .ty "bool", .type "int", .type "bool", false, rfl, .ty _, .base (.int i), kit_ty (by decide +kernel), rfl, true, rfl, iteT ?_⟩
      refine ⟨_, rfl, _, rfl, rfl, ?_⟩
      exact q_bl (b := decide (V.int i = V.int i)) (decide_eq_true rfl) (q _ s1)
    · have hsq1 : (SqL K (upd H tp (.tup [.ty "tuple", .ty "list"])) a xs ∧ SqL K (upd H tp (.tup [.ty "tuple", .ty "list"])) b ys) ∨ (SqT K (upd H tp (.tup [.ty "tuple", .ty "list"])) a xs ∧ SqT K (upd H tp (.tup [.ty "tuple", .ty "list"])) b ys) :=
        hsq.imp (fun z => ⟨s1.seq z.1, s1.seq z.2⟩) (fun z => ⟨s1.seqT z.1, s1.seqT z.2⟩)
      -- the types
      have ty : ∃ (n : String) (c : Bool), PySem.W.kitAny K (.type n) [.type "tuple", .type "list"] = some true ∧ PySem.W.kitOne K (.type n) (.type "list") = some c ∧
          ∀ H', Same H H' → TyX K H' (.ref a) (.type n) ∧ TyX K H' (.ref b) (.type n) := by
        rcases hsq with ⟨z1, z2⟩ | ⟨z1, z2⟩
        · exact ⟨"list", true, kit_list, kit_ty (by decide +kernel), fun H' e => ⟨tyL (e.seq z1), tyL (e.seq z2)⟩⟩
        · exact ⟨"tuple", false, kit_tuple, kit_ty (by decide +kernel), fun H' e => ⟨tyT (e.seqT z1), tyT (e.seqT z2)⟩⟩
      obtain ⟨nm, cc, ka, ko, hty⟩ := ty
      have sqs : ∀ H', Same H H' → (SqL K H' a xs ∨ SqT K H' a xs) ∧ (SqL K H' b ys ∨ SqT K H' b ys) := fun H' e => by
        rcases hsq with ⟨z1, z2⟩ | ⟨z1, z2⟩
        · exact ⟨.inl (e.seq z1), .inl (e.seq z2)⟩
        · exact ⟨.inr (e.seqT z1), .inr (e.seqT z2)⟩
      refine ⟨_, tp, _, .type nm, _, true, rfl, upd_same, hcls, (hty _ s1).2, ka, true, rfl, iteT ?_⟩
      refine ⟨_, rfl, (by show 2 ≤ sizeLine; decide), fun tp2 htp2 => ?_⟩
      have s2 := s1.trans (same_new (o := .tup [.ty "tuple", .ty "list"]) htp2)
      refine ⟨_, tp2, _, .type nm, _, true, rfl, upd_same, hcls, (hty _ s2).1, ka, true, rfl, iteF ?_⟩
      refine ⟨_, rfl, .ref a, .ty "list", .type nm, .type "list", cc, rfl, .ty _, (hty _ s2).1, ko, ?_⟩
      refine ⟨_, rfl, .ref b, .ty "list", .type nm, .type "list", cc, rfl, .ty _, (hty _ s2).2, ko, ?_⟩
      refine ⟨by cases cc <;> rfl, _, rfl, ?_⟩
      have ecc : (!decide (V.bl cc = V.bl cc)) = false := by simp
      rw [ecc]
      refine iteF ?_
      refine ⟨_, rfl, a, xs, rfl, (sqs _ s2).1, _, rfl, b, ys, rfl, (sqs _ s2).2, rfl, _, rfl, ?_⟩
      have el : (!decide (V.int ((xs.length : Nat) : Int) = V.int ((ys.length : Nat) : Int))) = false := by rw [hlen]; simp
      rw [el]
      refine iteF ?_
      refine ⟨_, rfl, b, ys, rfl, (sqs _ s2).2, ((ys.length : Nat) : Int), rfl, by omega, by omega, fun D hD => ?_⟩
      have s3 := s2.trans (same_new (o := .lst []) hD)
      have hDH : H D = none := s2.free hD
      refine lc_range (lo := 0) (n := ((ys.length : Nat) : Int).toNat) (fun i H' => Same H H' ∧ H' D = some (.lst [])) ⟨s3, upd_same⟩ ?_ ?_
      · rintro i H' hi ⟨sm, hd⟩
        rw [Int.toNat_natCast] at hi
        have ei : (0 : Int) + ((i : Nat) : Int) = ((i : Nat) : Int) := by omega
        have h1 : xs[i]? = some xs[i] := List.getElem?_eq_getElem (by omega)
        have h2 : ys[i]? = some ys[i] := List.getElem?_eq_getElem hi
        refine ⟨rfl, ?_⟩
        have ix : ∀ (c : Addr) (zs : List V) (z : V), (SqL K H' c zs ∨ SqT K H' c zs) → zs[i]? = some z → ∀ Q : VK, Q z H' → rIx K (.ref c) (.int (0 + ((i : Nat) : Int))) H' Q := fun c zs z hz hzi Q hQ => by
          rcases hz with hz | hz
          · exact .inl ⟨c, zs, _, z, rfl, rfl, hz, at_of (j := i) ei hzi, hQ⟩
          · exact .inr (.inl ⟨c, zs, _, z, rfl, rfl, hz, at_of (j := i) ei hzi, hQ⟩)
        refine ⟨_, rfl, _, rfl, ix a xs xs[i] (sqs _ sm).1 h1 _ ?_⟩
        refine ⟨_, rfl, _, rfl, ix b ys ys[i] (sqs _ sm).2 h2 _ ?_⟩
        refine ⟨k, _, _, rfl, rfl, Alk.same sm (hall i _ _ h1 h2), fun H2 sm2 => ⟨true, rfl, ?_⟩⟩
        exact iteF ⟨sm.trans sm2, sm2 _ _ hd⟩
      · rintro H' ⟨sm, hd⟩
        refine ⟨Nat.zero_le _, fun e0 he0 => ?_⟩
        have se := same_new (o := .lst []) he0
        refine ⟨.list [], .list [], .lst (SqL.of (se _ _ hd)) .nil, .lst (SqL.of upd_same) .nil, shaped_nil, shaped_nil, ?_⟩
        have e : PyData.eqv (.list []) (.list []) = true := by simp [PyData.eqv, PyData.eqvAll]
        rw [e]
        exact q _ (sm.trans se)
theorem alike_none {f : Addr} {fd : FuncData} {k : Nat} : FnOk P w K mg base CX0 k f fd ["_law_found", "_law_due"] (spAlike K 0) := by
  have no : ∀ vs H Q E, ¬ spAlike K 0 vs H Q E := fun vs H Q E h => by
    obtain ⟨k, x, y, e, _⟩ := h
    omega
  exact ⟨fun vs H Q E h => absurd h (no vs H Q E), fun A outer s H args us vs Q E _ _ _ _ h => absurd h (no vs H Q E)⟩
theorem alike_all {f : Addr} {fd : FuncData} (T : Txt K mg) (F : Fun K "_law_alike" "_law_alike" sAlike f fd) (mf : mg "_law_alike" = some (.ref f)) (bf : Binds K fd ["_law_found", "_law_due"] []) : ∀ m, FnOk P w K mg base CX0 m f fd ["_law_found", "_law_due"] (spAlike K m)
  | 0 => alike_none
  | m + 1 => alike_step T F mf bf (alike_all T F mf bf m)
theorem ok_alike (T : Txt K mg) (m : Nat) : OkOf P w K mg base m "_law_alike" ["_law_found", "_law_due"] (spAlike K m) := by
  obtain ⟨f, fd, F, mf, bf⟩ := T.alike
  exact ⟨f, fd, alike_all T F mf bf m, mf, F.kp, bf⟩
end
end Lt
namespace Lt
open PySem L2 PyProof.Rows
/-! ### a table of distances exists -/
open Classical in
theorem isD_exists (rods : List Rod) (n C : Nat) : ∃ F : Tab, IsD rods n C F := by
  refine ⟨fun p x => if h : ∃ m, Least rods p x m then min h.choose C else C, fun p x hp hx => ?_⟩
  dsimp only
  by_cases h : ∃ m, Least rods p x m
  · rw [dif_pos h]
    have hc := h.choose_spec
    refine ⟨Nat.min_le_right _ _, ?_, fun m hm => Nat.le_trans (Nat.min_le_left _ _) (hc.2 m hm)⟩
    rcases Nat.le_total h.choose C with q | q
    · rw [Nat.min_eq_left q]
      exact .inr hc.1
    · rw [Nat.min_eq_right q]
      exact .inl rfl
  · rw [dif_neg h]
    refine ⟨Nat.le_refl _, .inl rfl, fun m hm => ?_⟩
    obtain ⟨m0, _, h0⟩ := least_of m hm
    exact absurd ⟨m0, h0⟩ h
theorem split_at {α : Type} {l : List α} {i : Nat} {x : α} (h : l[i]? = some x) : l = l.take i ++ x :: l.drop (i + 1) := by
  obtain ⟨hi, e⟩ := List.getElem?_eq_some_iff.mp h
  have := List.take_append_drop i l
  rw [List.drop_eq_getElem_cons hi, e] at this
  exact this.symm
/-- the law's way to ask of a rod -/
theorem ndl_far {n : Nat} {rods : List Rod} {i : Nat} {r : Rod} {B B' : Tab} (hi : InN n rods) (hr : rods[i]? = some r) (hB : IsD rods n 999 B) (hB' : IsD (rods.take i ++ rods.drop (i + 1)) n 999 B') : Ndl n rods i ↔ ∀ p x, p < n → x < n → B' p x = B p x := by
  obtain ⟨a, b, l⟩ := r
  obtain ⟨F, hF⟩ := isD_exists (rods.take i ++ rods.drop (i + 1)) n 9999
  rw [ndl_iff hi hr hF]
  have e := split_at hr
  have h1 : InN n (rods.take i ++ (a, b, l) :: rods.drop (i + 1)) := by rw [← e]; exact hi
  have h2 : IsD (rods.take i ++ (a, b, l) :: rods.drop (i + 1)) n 999 B := by rw [← e]; exact hB
  exact needless h1 hF h2 hB'
/-! ### the order of the ways -/
theorem lexLt_cast : ∀ a b : List Nat, HT.lexLt (a.map Int.ofNat) (b.map Int.ofNat) = lexN a b
  | [], [] => rfl
  | [], _ :: _ => rfl
  | _ :: _, [] => rfl
  | x :: xs, y :: ys => by
    rw [List.map_cons, List.map_cons, HT.lexLt_cons]
    show _ = if x = y then lexN xs ys else decide (x < y)
    by_cases e : x = y
    · rw [if_pos e, if_pos (by rw [e]), lexLt_cast xs ys]
    · rw [if_neg e, if_neg (fun z => e (Int.ofNat.inj z))]
      congr 1
      exact propext Int.ofNat_lt
/-- what a reference's way says -/
def keyW (H : Hp) (x : V) : List Int := match x with
  | .ref t => match H t with
    | some (.tup [.int l, .ref u]) => l :: (match H u with
      | some (.tup vs) => vs.map fun v => match v with
        | .int i => i
        | _ => 0
      | _ => [])
    | _ => []
  | _ => []
def wyOf (l : List Int) : Wy := ((l.headD 0).toNat, l.tail.map Int.toNat)
theorem keyW_of {H : Hp} {t : Addr} {x : Wy} (h : WyAt H t x) : keyW H (.ref t) = (x.1 :: x.2).map Int.ofNat := by
  obtain ⟨u, h1, h2⟩ := h
  unfold keyW
  simp only [h1, h2]
  rw [List.map_cons, List.map_map]
  rfl
theorem wyOf_key {H : Hp} {t : Addr} {x : Wy} (h : WyAt H t x) : wyOf (keyW H (.ref t)) = x := by
  rw [keyW_of h]
  unfold wyOf
  obtain ⟨l, w⟩ := x
  simp only [List.map_cons, List.headD_cons, List.tail_cons, List.map_map]
  congr 1
  conv => rhs; rw [← List.map_id w]
  refine List.map_congr_left fun a _ => ?_
  rfl
theorem WysAt.at {H : Hp} {ts : List Addr} {xs : List Wy} (h : WysAt H ts xs) {i : Nat} {x : V} (hx : (ts.map V.ref)[i]? = some x) : ∃ (t : Addr) (p : Wy), x = .ref t ∧ ts[i]? = some t ∧ xs[i]? = some p ∧ WyAt H t p := by
  rw [List.getElem?_map] at hx
  cases e : ts[i]? with
  | none => rw [e] at hx; cases hx
  | some t =>
    rw [e] at hx
    have hl : i < xs.length := by
      have := (List.getElem?_eq_some_iff.mp e).1
      rw [h.1] at this
      exact this
    exact ⟨t, xs[i], (Option.some.inj hx).symm, rfl, List.getElem?_eq_getElem hl, h.2 i t _ e (List.getElem?_eq_getElem hl)⟩
theorem WysAt.perm {H : Hp} {ts : List Addr} {xs : List Wy} (h : WysAt H ts xs) {ys : List V} (hp : ys.Perm (ts.map V.ref)) : ∃ (ts' : List Addr) (S : List Wy), ys = ts'.map V.ref ∧ S.Perm xs ∧ WysAt H ts' S ∧ S = ys.map fun x => wyOf (keyW H x) := by
  have e1 : ∀ x ∈ ys, ∃ t, x = V.ref t := fun x hx => by
    obtain ⟨t, _, e⟩ := List.mem_map.mp (hp.mem_iff.mp hx)
    exact ⟨t, e.symm⟩
  have e2 : ys = (ys.map fun x => match x with | .ref t => t | _ => 0).map V.ref := by
    rw [List.map_map]
    conv => lhs; rw [← List.map_id ys]
    refine List.map_congr_left fun x hx => ?_
    obtain ⟨t, rfl⟩ := e1 x hx
    rfl
  have e3 : xs = (ts.map V.ref).map fun x => wyOf (keyW H x) := by
    refine List.ext_getElem? fun i => ?_
    rw [List.getElem?_map, List.getElem?_map]
    by_cases hi : i < ts.length
    · have hi' : i < xs.length := by rw [← h.1]; exact hi
      rw [List.getElem?_eq_getElem hi, List.getElem?_eq_getElem hi']
      have := h.2 i _ _ (List.getElem?_eq_getElem hi) (List.getElem?_eq_getElem hi')
      show some xs[i] = some (wyOf (keyW H (V.ref ts[i])))
      rw [wyOf_key this]
    · rw [List.getElem?_eq_none (l := xs) (by rw [← h.1]; omega), List.getElem?_eq_none (l := ts) (by omega)]
      rfl
  refine ⟨_, ys.map fun x => wyOf (keyW H x), e2, ?_, ⟨by rw [List.length_map, List.length_map], fun i t p ht hpr => ?_⟩, rfl⟩
  · rw [e3]
    exact hp.map _
  · rw [List.getElem?_map] at ht hpr
    cases ey : ys[i]? with
    | none => rw [ey] at ht; cases ht
    | some y =>
      rw [ey] at ht hpr
      have hm := hp.mem_iff.mp (List.mem_of_getElem? ey)
      obtain ⟨j, hj, ej⟩ := List.getElem_of_mem hm
      obtain ⟨u, q, rfl, hu, hq, hH⟩ := h.at (i := j) (x := y) (by rw [List.getElem?_eq_getElem hj, ej])
      have ht : u = t := Option.some.inj ht
      subst ht
      have hpr : p = wyOf (keyW H (V.ref u)) := (Option.some.inj hpr).symm
      rw [wyOf_key hH] at hpr
      subst hpr
      exact hH
theorem ways_sorted {H : Hp} {ts : List Addr} {S : List Wy} (h : WysAt H ts S) (hs : SrtO.Srtd (fun x y => HT.lexLt (keyW H x) (keyW H y)) (ts.map V.ref)) : S.Pairwise fun a b => ¬ lexN (b.1 :: b.2) (a.1 :: a.2) = true := by
  have hs := List.pairwise_iff_getElem.mp hs
  refine List.pairwise_iff_getElem.mpr fun i j hi hj hij => ?_
  have hi' : i < ts.length := by rw [h.1]; exact hi
  have hj' : j < ts.length := by rw [h.1]; exact hj
  have := hs i j (by rw [List.length_map]; exact hi') (by rw [List.length_map]; exact hj') hij
  rw [List.getElem_map, List.getElem_map] at this
  dsimp only at this
  rw [keyW_of (h.2 i _ _ (List.getElem?_eq_getElem hi') (List.getElem?_eq_getElem hi)), keyW_of (h.2 j _ _ (List.getElem?_eq_getElem hj') (List.getElem?_eq_getElem hj)), lexLt_cast] at this
  rw [this]
  decide
/-- tuples of places -/
def TupsAt (H : Hp) (us : List Addr) (ws : List (List Nat)) : Prop := us.length = ws.length ∧ ∀ (i : Nat) (u : Addr) (w : List Nat), us[i]? = some u → ws[i]? = some w → H u = some (.tup (w.map iv))
theorem TupsAt.same {H H' : Hp} {us : List Addr} {ws : List (List Nat)} (h : TupsAt H us ws) (e : Same H H') : TupsAt H' us ws := ⟨h.1, fun i u w a b => e _ _ (h.2 i u w a b)⟩
theorem TupsAt.mut {H : Hp} {us : List Addr} {ws : List (List Nat)} {l : Addr} {vs vs' : List V} (h : TupsAt H us ws) (hl : H l = some (.lst vs)) : TupsAt (upd H l (.lst vs')) us ws := ⟨h.1, fun i u w a b => by
  have := h.2 i u w a b
  rw [upd_ne (fun e => by rw [e, hl] at this; cases this)]
  exact this⟩
theorem TupsAt.snoc {H : Hp} {us : List Addr} {ws : List (List Nat)} {u : Addr} {w : List Nat} (h : TupsAt H us ws) (hu : H u = some (.tup (w.map iv))) : TupsAt H (us ++ [u]) (ws ++ [w]) := by
  refine ⟨by rw [List.length_append, List.length_append, h.1]; rfl, fun i v q hv hq => ?_⟩
  by_cases hi : i < us.length
  · rw [List.getElem?_append_left hi] at hv
    rw [List.getElem?_append_left (by rw [← h.1]; exact hi)] at hq
    exact h.2 i v q hv hq
  · rw [List.getElem?_append_right (by omega)] at hv
    rw [List.getElem?_append_right (by rw [← h.1]; omega), ← h.1] at hq
    have h0 : i - us.length = 0 := by
      have := (List.getElem?_eq_some_iff.mp hv).1
      rw [List.length_singleton] at this
      omega
    rw [h0] at hv hq
    cases hv
    cases hq
    exact hu
/-! ### tables as data -/
def rowD (n : Nat) (f : Nat → Nat) : PyData := .list ((List.range n).map fun j => .int (f j : Nat))
def tabD (n : Nat) (T : Tab) : PyData := .list ((List.range n).map fun i => rowD n (T i))
theorem dpAll_map {K : PySem.W.Frag} {H : Hp} {f : Nat → V} {g : Nat → PyData} : ∀ {l : List Nat}, (∀ i ∈ l, Dp K H (f i) (g i)) → DpAll K H (l.map f) (l.map g)
  | [], _ => .nil
  | a :: l, h => .cons (h a List.mem_cons_self) (dpAll_map fun i hi => h i (List.mem_cons_of_mem _ hi))
theorem TabAt.dp {K : PySem.W.Frag} {H : Hp} {p : Addr} {rs : List Addr} {n : Nat} {T : Tab} (h : TabAt H p rs n T) : Dp K H (.ref p) (tabD n T) := by
  refine .lst (SqL.of h.lst) ?_
  have e : rs.map V.ref = (List.range n).map fun i => V.ref (rs.getD i 0) := by
    refine List.ext_getElem? fun i => ?_
    rw [List.getElem?_map, List.getElem?_map]
    by_cases hi : i < n
    · rw [List.getElem?_range hi]
      have hl : i < rs.length := by rw [h.len]; exact hi
      rw [List.getElem?_eq_getElem hl]
      show some (V.ref rs[i]) = some (V.ref (rs.getD i 0))
      rw [List.getD_eq_getElem?_getD, List.getElem?_eq_getElem hl]
      rfl
    · rw [List.getElem?_eq_none (l := rs) (by rw [h.len]; omega), List.getElem?_eq_none (l := List.range n) (by rw [List.length_range]; omega)]
      rfl
  rw [e]
  refine dpAll_map fun i hi => ?_
  have hi := List.mem_range.mp hi
  have hl : i < rs.length := by rw [h.len]; exact hi
  have e2 : rs.getD i 0 = rs[i] := by rw [List.getD_eq_getElem?_getD, List.getElem?_eq_getElem hl]; rfl
  rw [e2]
  refine .lst (SqL.of (h.row i _ (List.getElem?_eq_getElem hl))) ?_
  unfold rowV
  exact dpAll_map fun j _ => .int _
theorem eqvAll_map {f g : Nat → PyData} : ∀ {l : List Nat}, PyData.eqvAll (l.map f) (l.map g) = l.all fun i => PyData.eqv (f i) (g i)
  | [] => by simp [PyData.eqvAll]
  | a :: l => by
    rw [List.map_cons, List.map_cons, PyData.eqvAll, eqvAll_map, List.all_cons]
theorem eqv_tab {n : Nat} {T U : Tab} : PyData.eqv (tabD n T) (tabD n U) = true ↔ ∀ i j, i < n → j < n → T i j = U i j := by
  unfold tabD
  rw [PyData.eqv, eqvAll_map, List.all_eq_true]
  constructor
  · intro h i j hi hj
    have := h i (List.mem_range.mpr hi)
    unfold rowD at this
    rw [PyData.eqv, eqvAll_map, List.all_eq_true] at this
    have := this j (List.mem_range.mpr hj)
    rw [PyData.eqv] at this
    have := of_decide_eq_true this
    omega
  · intro h i hi
    unfold rowD
    rw [PyData.eqv, eqvAll_map, List.all_eq_true]
    intro j hj
    rw [h i j (List.mem_range.mp hi) (List.mem_range.mp hj), PyData.eqv]
    exact decide_eq_true rfl
theorem canLayAll_map {f : Nat → PyData} : ∀ {l : List Nat}, (∀ i ∈ l, (f i).canLay0 = true) → PyData.canLayAll0 (l.map f) = true
  | [], _ => by simp [PyData.canLayAll0]
  | a :: l, h => by
    rw [List.map_cons, PyData.canLayAll0, h a List.mem_cons_self, canLayAll_map fun i hi => h i (List.mem_cons_of_mem _ hi)]
    rfl
theorem depthAll_map {f : Nat → PyData} {d : Nat} : ∀ {l : List Nat}, (∀ i ∈ l, (f i).depth ≤ d) → PyData.depthAll (l.map f) ≤ d
  | [], _ => by simp [PyData.depthAll]
  | a :: l, h => by
    have h1 := h a List.mem_cons_self
    have h2 := depthAll_map (d := d) fun i hi => h i (List.mem_cons_of_mem _ hi)
    rw [List.map_cons, PyData.depthAll]
    omega
theorem shaped_tab (n : Nat) (T : Tab) : SeqAt.shaped (tabD n T) = true := by
  have h1 : ∀ i, (rowD n (T i)).canLay0 = true := fun i => by
    unfold rowD
    rw [PyData.canLay0]
    exact canLayAll_map fun j _ => by rw [PyData.canLay0]
  have h2 : ∀ i, (rowD n (T i)).depth ≤ 1 := fun i => by
    unfold rowD
    rw [PyData.depth]
    have := depthAll_map (l := List.range n) (f := fun j => PyData.int (T i j : Nat)) (d := 0) fun j _ => by rw [PyData.depth]; exact Nat.le_refl _
    omega
  unfold SeqAt.shaped tabD
  rw [PyData.canLay0, PyData.depth, canLayAll_map fun i _ => h1 i, Bool.true_and]
  have := depthAll_map (l := List.range n) (d := 1) fun i _ => h2 i
  exact decide_eq_true (by omega)
section
variable {K : PySem.W.Frag} {H H' : Hp} {p : Addr}
theorem But.seqT {a : Addr} {xs ys : List V} (e : But p H H') (hp : H p = some (.lst ys)) (h : SqT K H a xs) : SqT K H' a xs := by
  rcases h with (h | ⟨o, h⟩) | h
  · exact .inl (.inl (e _ _ (fun z => by rw [z, hp] at h; cases h) h))
  · exact .inl (.inr ⟨o, e _ _ (fun z => by rw [z, hp] at h; cases h) h⟩)
  · exact .inr h
theorem NetAt.but {a : Addr} {n : Nat} {rods : List Rod} {ys : List V} (h : NetAt K H a n rods) (e : But p H H') (hp : H p = some (.lst ys)) : NetAt K H' a n rods := by
  obtain ⟨r, ts, h1, h2, h3⟩ := h
  exact ⟨r, ts, e.seqT hp h1, e.seqT hp h2, h3.1, fun i t r a b => e.seqT hp (h3.2 i t r a b)⟩
end
end Lt
namespace Lt
open PySem L2 PyProof.Rows
theorem ok_law {P : Program} {w : World} {K : PySem.W.Frag} {mg : Str → Option Value} {base : Heap} {f : Addr} {fd : FuncData} (T : Txt K mg) (F : Fun K "law" "law" sLaw f fd) : FnOk P w K mg base CX0 110 f fd ["_law_script"] (spLaw K) := by
  obtain ⟨fk, fdk, Gk, mk, kk, bk⟩ := ok_taken (P := P) (w := w) (base := base) T
  obtain ⟨fp, fdp, Gp, mp, kp, bp⟩ := ok_pick (P := P) (w := w) (base := base) T
  obtain ⟨fn, fdn, Gn, mn, kn, bn⟩ := ok_net (P := P) (w := w) (base := base) T
  obtain ⟨fw, fdw, Gw, mw, kw, bw⟩ := ok_ways (P := P) (w := w) (base := base) T
  obtain ⟨fa, fda, Ga, ma, ka, ba⟩ := ok_alike (P := P) (w := w) (base := base) T 3
  obtain ⟨fs, fds, Gs, ms, ks, bs⟩ := ok_short (P := P) (w := w) (base := base) T
  obtain ⟨fb, fdb, Gb, mb, kb, bb⟩ := ok_number (P := P) (w := w) (base := base) T
  obtain ⟨ff, fdf, Gf, mf, kf, bf⟩ := ok_far (P := P) (w := w) (base := base) T
  obtain ⟨fl, fdl, Gl', ml, kl, bl⟩ := ok_needless (P := P) (w := w) (base := base) T
  refine F.ok scLaw (fun vs H Q E h => ?_) (fun cdv A outer s H vs Q E hr h => ?_)
  · obtain ⟨a, ns, rfl, _⟩ := h
    rfl
  · obtain ⟨sa, ns, rfl, hS, _, q⟩ := h
    have nd := scLaw.nd
    have hr1 : Room 1 _ := hr.mono (by decide)
    have hr2 : Room 2 _ := hr.mono (by decide)
    have hr3 : Room 3 _ := hr.mono (by decide)
    have hr4 : Room 4 _ := hr.mono (by decide)
    have hr102 : Room 102 _ := hr.mono (by decide)
    refine ⟨_, pss_cons (ps_set (i := 1) nd rfl (.inl rfl) (pe_lst (pa_cons (pv 0) (pa_cons pe_int (pa_cons pe_int (pa_cons pe_int pa_nil))))))
      (pss_cons (ps_set (i := 2) nd rfl (.inl rfl) (pe_call Gn hr2 (by rfl) mn kn bn .nil pass0 (pa_cons (pv 1) (pa_cons pe_int (pa_cons (pe_call Gp hr2 (by rfl) mp kp bp .nil pass0 (pa_cons (pv 1) (pa_cons (pe_lst (pa_cons pe_int (pa_cons pe_int (pa_cons pe_int pa_nil)))) pa_nil))) pa_nil)))))
      (pss_cons (ps_set (i := 3) nd rfl (.inl rfl) (pe_ix ix_tup (pv 2) pe_int (fun _ _ => rfl)))
      (pss_cons (ps_par (i := 4) (j := 5) (by rfl) nd rfl rfl (by decide) rfl rfl (pa_cons (pe_call Gk hr1 (by rfl) mk kk bk .nil pass0 (pa_cons (pv 1) (pa_cons (pv 3) pa_nil))) (pa_cons (pe_call Gk hr1 (by rfl) mk kk bk .nil pass0 (pa_cons (pv 1) (pa_cons (pv 3) pa_nil))) pa_nil)) (by rfl))
      (pss_cons (ps_set (i := 6) nd rfl (.inr rfl) (pe_callB (cr_sortedW hr.units) (by rfl) T.bSorted (by decide +kernel) (pa_cons (pe_call Gw hr1 (by rfl) mw kw bw .nil pass0 (pa_cons (pv 2) (pa_cons (pv 4) (pa_cons (pv 5) pa_nil)))) pa_nil)))
      (pss_cons (ps_setLc (i := 7) (own := [("_law_length", 12), ("_law_way", 13)]) (g := gTup K 2 (gCons (gName 12) (gCons (gName 13) gNil))) (by rfl) nd rfl rfl (sw_true rfl rfl rfl (by decide +kernel)) (pi_list (pv 6))
          (blkOk_by (own := [("_law_length", 12), ("_law_way", 13)]) (N := ["_law_script", "_law_row", "_law_net_here", "_law_many", "_law_one", "_law_other", "_law_ways_here", "_law_short", "_law_table", "_law_due", "_law_index", "_law_rest", "_law_length", "_law_way"]) (sc := defScope sLaw) (by decide +kernel))
          (fun _ _ _ _ _ => pg_tup (by rfl) (pgs_cons (pg_name (i := 12) nd rfl (Or.inl rfl)) (pgs_cons (pg_name (i := 13) nd rfl (Or.inl rfl)) pgs_nil)))
          (fun _ _ _ _ _ => pts_one (pt_cmpR op_eq (pv 12) (pe_ix (show IxR _ (rIxT K) from ix_tup) (pe_ix (show IxR _ (rIxL K) from ix_list) (pv 6) pe_int (fun _ _ => rfl)) pe_int (fun _ _ => rfl)) (nomark _))) (fun _ _ _ _ _ => pv 13))
      (pss_cons (ps_if (pt_not (pt_val (pe_call Ga hr3 (by rfl) ma ka ba .nil pass0 (pa_cons (pe_lst (pa_cons (pe_call Gs hr4 (by rfl) ms ks bs .nil pass0 (pa_cons (pv 2) (pa_cons (pv 4) (pa_cons (pv 5) pa_nil)))) (pa_cons (pe_call Gb hr102 (by rfl) mb kb bb .nil pass0 (pa_cons (pv 2) (pa_cons (pv 4) (pa_cons (pv 5) pa_nil)))) pa_nil)))
          (pa_cons (pe_lst (pa_cons (pe_ix ix_list (pv 7) pe_int (fun _ _ => rfl)) (pa_cons (pe_callB call_len_seq (by rfl) T.bLen PySem.boot_len (pa_cons (pv 7) pa_nil)) pa_nil))) pa_nil))))) pss_never pss_nil)
      (pss_cons (ps_par (i := 8) (j := 9) (by rfl) nd rfl rfl (by decide) rfl rfl (pa_cons (pe_call Gf hr1 (by rfl) mf kf bf .nil pass0 (pa_cons (pv 2) pa_nil)) (pa_cons (pe_lst pa_nil) pa_nil)) (by rfl))
      (pss_cons (ps_for PassesOwn.never rfl (pi_range1 rfl T.bRange (pa_cons (pe_callB call_len_seq (by rfl) T.bLen PySem.boot_len (pa_cons (pe_ix ix_tup (pv 2) pe_int (fun _ _ => rfl)) pa_nil)) pa_nil)) (pg_name (i := 10) nd rfl (.inl rfl))
        (pss_cons (ps_set (i := 11) nd rfl (.inl rfl) (pe_tup (pa_cons (pv 3) (pa_cons (pe_op op_catA (pe_slice sl_tupA (pe_ix ix_tup (pv 2) pe_int (fun _ _ => rfl)) po_none (po_some (pv 10)))
            (pe_slice sl_tupA (pe_ix ix_tup (pv 2) pe_int (fun _ _ => rfl)) (po_some (pe_op op_add (pv 10) pe_int)) po_none)) pa_nil))))
        (pss_one (ps_if (pt_cmpR (op_eqD hr.units) (pe_call Gf hr1 (by rfl) mf kf bf .nil pass0 (pa_cons (pv 11) pa_nil)) (pv 8) (nomark _))
          (pss_one (ps_expr (pe_bm PySem.F.plainAttrs_list PySem.F.slot_list_append PySem.F.type_list_append mt_append (pv 9) (pa_cons (pv 10) pa_nil)))) pss_nil))))
      (pss_one (ps_ret (pe_call Ga hr3 (by rfl) ma ka ba .nil pass0 (pa_cons (pe_call Gl' hr4 (by rfl) ml kl bl .nil pass0 (pa_cons (pv 2) pa_nil)) (pa_cons (pe_callTy call_tuple_of (by rfl) T.bTuple (by decide +kernel) (pa_cons (pv 9) pa_nil)) pa_nil))))))))))))), ?_⟩
    -- the row
    refine ⟨_, rfl, (by show 4 ≤ sizeLine; decide), fun row hrow0 => ?_⟩
    have hsc : ScAt K (upd H row (.lst [.ref sa, .int 0, .int 6801, .int 0])) row sa (ns.map V.int) := by
      have s0 := same_new (o := .lst [.ref sa, .int 0, .int 6801, .int 0]) hrow0
      rcases hS with hS | hS
      · have hne : sa ≠ row := fun e => by
          rw [e] at hS
          rcases hS with hS | ⟨o, hS⟩
          · rw [hrow0] at hS; cases hS
          · rw [hrow0] at hS; cases hS
        rcases hS with hS | ⟨o, hS⟩
        · exact .inl ⟨.inl (s0 _ _ hS), hne⟩
        · exact .inl ⟨.inr ⟨o, s0 _ _ hS⟩, hne⟩
      · exact .inr hS
    have hrow1 : RowAt K (upd H row (.lst [.ref sa, .int 0, .int 6801, .int 0])) row := ⟨sa, ns, 0, 6801, 0, upd_same, hsc, by decide, by decide, by decide⟩
    generalize (upd H row (.lst [.ref sa, .int 0, .int 6801, .int 0])) = H1 at hrow1 hsc
    -- the net
    refine ⟨_, rfl, _, rfl, (by show 3 ≤ sizeLine; decide), fun l0 hl0 => ?_⟩
    have hrow2 := hrow1.same (same_new (o := .lst [.int 2, .int 4, .int 9]) hl0)
    refine ⟨row, l0, _, rfl, hrow2, upd_same, hrow1.ne hl0, (by show 1 ≤ 3; decide), (by show 3 ≤ 1000; decide), fun H2 x hx hrow3 _ => ?_⟩
    obtain ⟨m, rfl, hm1, hm9⟩ : ∃ m : Nat, x = iv m ∧ 1 ≤ m ∧ m ≤ 9 := by
      have hx : x = V.int 2 ∨ x = V.int 4 ∨ x = V.int 9 := by simpa using hx
      rcases hx with hx | hx | hx
      · exact ⟨2, hx, by decide, by decide⟩
      · exact ⟨4, hx, by decide, by decide⟩
      · exact ⟨9, hx, by decide, by decide⟩
    refine ⟨row, m, rfl, hrow3, hm1, hm9, fun H3 a n rods wf hnet hrow4 _ => ?_⟩
    have hnet0 := hnet
    obtain ⟨r, ts, hA, hR, hT⟩ := hnet0
    have hn1 := wf.n1
    have hn6 := wf.n6
    have hfew := wf.few
    refine ⟨_, rfl, a, _, 0, _, rfl, rfl, hA, rfl, ?_⟩
    -- two places
    obtain ⟨xs4, e4⟩ := hrow4.some
    refine ⟨_, rfl, _, rfl, row, n, rfl, hrow4, hn1, by omega, fun H4 one h1 hrow5 hb5 => ?_⟩
    have hnet5 := hnet.but hb5 e4
    obtain ⟨xs5, e5⟩ := hrow5.some
    refine ⟨_, rfl, _, rfl, row, n, rfl, hrow5, hn1, by omega, fun H5 t ht hrow6 hb6 => ?_⟩
    have hnet6 := hnet5.but hb6 e5
    clear hrow0 hrow1 hrow2 hrow3 hrow4 hrow5 hnet hnet5 hA hR hT hb5 hb6 e4 e5 hl0 hsc
    obtain ⟨r, ts, hA, hR, hT⟩ := id hnet6
    refine ⟨_, _, rfl, ?_⟩
    -- the ways, sorted
    refine ⟨_, rfl, _, rfl, _, rfl, a, n, rods, one, t, rfl, wf, hnet6, h1, fun H6 pw tw sm6 hpw hW hWl => ?_⟩
    refine ⟨pw, _, keyW H6, rfl, SqL.of hpw, fun x hx => ?_, fun ys pS hperm hsrt hpS => ?_⟩
    · obtain ⟨i, hi, ei⟩ := List.getElem_of_mem hx
      obtain ⟨u, p, rfl, _, _, hwy⟩ := hW.at (i := i) (x := x) (by rw [List.getElem?_eq_getElem hi, ei])
      obtain ⟨v, g1, g2⟩ := id hwy
      refine ⟨u, v, (p.1 : Int), p.2.map Int.ofNat, rfl, g1, ?_, ?_⟩
      · rw [g2, List.map_map]
        rfl
      · rw [keyW_of hwy]
        rfl
    obtain ⟨tS, S, rfl, hSp, hWS, _⟩ := hW.perm hperm
    have hSs := ways_sorted hWS hsrt
    have hSl : S.length ≤ 1118481 := by rw [hSp.length_eq, ← hW.1]; exact hWl
    have s7 := same_new (o := .lst (tS.map V.ref)) hpS
    have sm7 := sm6.trans s7
    have hWS7 := hWS.same s7
    have hpS7 : (upd H6 pS (.lst (tS.map V.ref))) pS = some (.lst (tS.map V.ref)) := upd_same
    clear hW hperm hsrt hpw hWS
    generalize (upd H6 pS (.lst (tS.map V.ref))) = H7 at hpS7 hWS7 sm7 s7
    -- the short ones
    dsimp only
    refine nx_seq (asg_ ?_)
    refine ⟨_, rfl, pS, rfl, ⟨_, SqL.of hpS7⟩, fun D hD => ?_⟩
    obtain ⟨L0, hL0⟩ : ∃ L0 : Nat, ∀ x S', S = x :: S' → L0 = x.1 := by
      cases S with
      | nil => exact ⟨0, fun x S' e => by cases e⟩
      | cons x S' => exact ⟨x.1, fun y S2 e => by cases e; rfl⟩
    refine lc_list (K := K) (a := pS) (xs := tS.map V.ref) (fun i H' => Same H7 H' ∧ ∃ us : List Addr, H' D = some (.lst (us.map V.ref)) ∧ us.length ≤ i ∧ TupsAt H' us (((S.take i).filter fun y => decide (y.1 = L0)).map fun y => y.2))
      ⟨same_new hD, [], upd_same, Nat.le_refl _, rfl, fun i u w hu _ => absurd (List.mem_of_getElem? hu) List.not_mem_nil⟩ (fun i H' _ p => SqL.of (p.1 _ _ hpS7)) ?_ ?_
    · rintro i y H' hy ⟨sm, us, hus, hul, hU⟩
      obtain ⟨u, p, rfl, hu, hp, hwy⟩ := (hWS7.same sm).at hy
      obtain ⟨v, g1, g2⟩ := id hwy
      have hiS : i < S.length := (List.getElem?_eq_some_iff.mp hp).1
      obtain ⟨x0, S', eS⟩ : ∃ x0 S', S = x0 :: S' := by
        cases S with
        | nil => exact absurd hiS (Nat.not_lt_zero _)
        | cons x0 S' => exact ⟨x0, S', rfl⟩
      obtain ⟨t0, tS', eT⟩ : ∃ t0 tS', tS = t0 :: tS' := by
        cases tS with
        | nil => exact absurd (List.mem_of_getElem? hu) List.not_mem_nil
        | cons t0 tS' => exact ⟨t0, tS', rfl⟩
      obtain ⟨v0, g3, g4⟩ := (hWS7.same sm).2 0 t0 x0 (by rw [eT]; rfl) (by rw [eS]; rfl)
      have eL := hL0 x0 S' eS
      have etk : S.take (i + 1) = S.take i ++ [p] := by rw [List.take_add_one, hp]; rfl
      refine ⟨u, _, rfl, SqT.of g1, rfl, _, _, rfl, _, _, rfl, rfl, rfl, ?_⟩
      refine ⟨_, rfl, _, rfl, pS, _, 0, .ref t0, rfl, rfl, SqL.of (sm _ _ hpS7), (atI_nat (j := 0) (by rw [eT]; rfl)), t0, _, 0, iv x0.1, rfl, rfl, SqT.of g3, rfl, rfl, _, rfl, ?_⟩
      refine ite2 (fun c => ?_) (fun c => ?_)
      · have c : p.1 = x0.1 := iv_inj.mp (of_decide_eq_true c)
        refine ⟨_, rfl, _, hus, by rw [List.length_map]; exact sizeS (by omega), sm.mut hD, us ++ [v], by rw [upd_same, List.map_append]; rfl, by rw [List.length_append, List.length_singleton]; omega, ?_⟩
        rw [etk, List.filter_append, List.map_append, List.filter_cons_of_pos (p := fun y : Nat × List Nat => decide (y.1 = L0)) (decide_eq_true (c.trans eL.symm)), List.filter_nil]
        exact (hU.mut hus).snoc (by rw [upd_ne (fun e => by rw [e, hus] at g2; cases g2)]; exact g2)
      · have c : ¬ p.1 = x0.1 := fun e => c (decide_eq_true (by rw [e]))
        refine ⟨sm, us, hus, by omega, ?_⟩
        rw [etk, List.filter_append, List.filter_cons_of_neg (p := fun y : Nat × List Nat => decide (y.1 = L0)) (by rw [eL]; simpa using c), List.filter_nil, List.append_nil]
        exact hU
    rintro H8 ⟨sm8, us, hus, hul, hU⟩
    have elS : (tS.map V.ref).length = S.length := by rw [List.length_map, hWS7.1]
    rw [elS, List.take_length] at hU
    have sm8' := sm7.trans sm8
    have hnet8 := hnet6.same sm8'
    -- what the ways say
    have key : ∀ F : Tab, IsD rods n 9999 F → ((S.filter fun y => decide (y.1 = L0)).map fun y => y.2) = sw rods n (fun h => F h t) t 100 one := fun F hF => by
      have d := hF.dst wf ht
      obtain ⟨x, S', e1, e2⟩ := short_eq wf d h1 (d.sm one h1) hSp hSs
      rw [hL0 x S' e1]
      exact e2
    generalize ((S.filter fun y => decide (y.1 = L0)).map fun y => y.2) = ws at hU key
    -- the first comparison
    refine ⟨_, rfl, _, rfl, _, rfl, a, n, rods, one, t, rfl, wf, hnet8, h1, ht, fun H9 l y F1 sm9 hl hF1 hhead => ?_⟩
    refine ⟨_, rfl, _, rfl, _, rfl, a, n, rods, one, t, rfl, wf, hnet8.same sm9, h1, ht, fun H10 F2 sm10 hF2 => ?_⟩
    refine ⟨(by show 2 ≤ sizeLine; decide), fun la hla => ?_⟩
    have s11 := same_new (o := .lst [.ref l, iv (sw rods n (fun h => F2 h t) t 100 one).length]) hla
    have sm11 := (sm9.trans sm10).trans s11
    have hus11 := sm11 _ _ hus
    have hU11 := hU.same sm11
    rw [← key F1 hF1] at hhead
    obtain ⟨ws', ew⟩ : ∃ ws', ws = y :: ws' := by
      cases ws with
      | nil => cases hhead
      | cons z zs => exact ⟨zs, by rw [Option.some.inj hhead]⟩
    obtain ⟨u0, us', eu⟩ : ∃ u0 us', us = u0 :: us' := by
      cases us with
      | nil => have := hU.1; rw [ew] at this; cases this
      | cons z zs => exact ⟨z, zs, rfl⟩
    have hu0 := hU11.2 0 u0 y (by rw [eu]; rfl) (by rw [ew]; rfl)
    refine ⟨_, rfl, D, _, 0, .ref u0, rfl, rfl, SqL.of hus11, (atI_nat (j := 0) (by rw [eu]; rfl)), ?_⟩
    refine ⟨_, rfl, D, _, rfl, .inl (SqL.of hus11), (by show 2 ≤ sizeLine; decide), fun lb hlb => ?_⟩
    have elen : ((us.map V.ref).length : Int) = (((sw rods n (fun h => F2 h t) t 100 one).length : Nat) : Int) := by
      rw [List.length_map, hU.1, key F2 hF2]
    have s12 := same_new (o := .lst [.ref u0, .int (((us.map V.ref).length : Nat) : Int)]) hlb
    refine ⟨2, _, _, rfl, rfl, .inr ⟨la, lb, _, _, rfl, rfl, .inl ⟨SqL.of (s12 _ _ upd_same), SqL.of upd_same⟩, rfl, (by show 2 ≤ 1000; decide), fun i u v hu hv => ?_⟩, fun H13 sm13 => ⟨true, rfl, iteF ?_⟩⟩
    · match i, hu, hv with
      | 0, hu, hv =>
        have hu : V.ref l = u := Option.some.inj hu
        have hv : V.ref u0 = v := Option.some.inj hv
        subst hu hv
        refine .inr ⟨l, u0, _, _, rfl, rfl, .inr ⟨SqT.of (s12 _ _ (s11 _ _ (sm10 _ _ hl))), SqT.of (s12 _ _ hu0)⟩, rfl, ?_, fun j p p' hp hp' => ?_⟩
        · rw [List.length_map]
          have d := hF1.dst wf ht
          have hy : y ∈ sw rods n (fun h => F1 h t) t 100 one := by rw [← key F1 hF1, ew]; exact List.mem_cons_self
          obtain ⟨s', rfl, ha, he⟩ := (mem_sw wf d h1 (d.sm one h1)).mp hy
          have hn := (d.nodup wf ha rfl he).1
          have hlt : ∀ q ∈ one :: s', q < n := fun q hq => by
            have key2 : ∀ {h m s}, Along rods h s m → ∀ q ∈ s, q < n := fun {h m s} ha => by
              induction ha with
              | nil => exact fun q hq => by cases hq
              | cons hs _ ih =>
                intro q hq
                rcases List.mem_cons.mp hq with rfl | hq
                · exact (steps_in wf.inN hs).2.1
                · exact ih q hq
            rcases List.mem_cons.mp hq with rfl | hq
            · exact h1
            · exact key2 ha q hq
          have := nd_le hn hlt
          omega
        · rw [hp] at hp'
          cases hp'
          rw [List.getElem?_map] at hp
          cases e : y[j]? with
          | none => rw [e] at hp; cases hp
          | some z =>
            rw [e] at hp
            have hp := Option.some.inj hp
            subst hp
            exact Alk.int 0 _
      | 1, hu, hv =>
        have hu := Option.some.inj hu
        have hv := Option.some.inj hv
        subst hu hv
        show Alk K _ 1 (V.int _) (V.int _)
        rw [elen]
        exact Alk.int 1 _
      | i + 2, hu, hv => simp at hu
    have sm13' := sm8'.trans ((sm11.trans s12).trans sm13)
    have hnet13 := hnet6.same sm13'
    clear key hU hU11 hus hus11 hhead hu0 sm9 sm10 sm11 s11 s12 sm8 hl hF1 hF2 hWS7 hSp hSs hL0 hpS7 hla hlb elen
    -- the table
    refine ⟨_, rfl, a, n, rods, rfl, wf.inN, wf.ne, hn6, hnet13, fun H14 pt rt B tb hB => ?_⟩
    refine ⟨Nat.zero_le _, fun Du hDu => ⟨_, _, rfl, ?_⟩⟩
    have sm14 := sm13'.trans tb.sm
    have hA14 := sm14.seqT hA
    have hR14 := sm14.seqT hR
    have hT14 := hT.same sm14
    have sDu := same_new (o := .lst []) hDu
    refine ⟨_, rfl, a, _, 1, _, rfl, rfl, sDu.seqT hA14, rfl, r, _, rfl, .inr (sDu.seqT hR14), _, rfl, by omega, by rw [hT.len]; omega, for_range (lo := 0) (n := (((ts.map V.ref).length : Nat) : Int).toNat) (fun i σ H' => ∃ (v10 v11 : Option V), σ = [some (.ref sa), some (.ref row), some (.ref a), some (iv n), some (iv one), some (iv t), some (.ref pS), some (.ref D), some (.ref pt), some (.ref Du), v10, v11, none, none] ∧
        Same H14 H' ∧ H' Du = some (.lst ((ndl n rods i).map iv))) ⟨none, none, rfl, sDu, upd_same⟩ ?_ ?_⟩
    · rintro i σ H' hi ⟨v10, v11, rfl, sm, hf⟩
      rw [Int.toNat_natCast, hT.len] at hi
      have ei : (0 : Int) + ((i : Nat) : Int) = ((i : Nat) : Int) := by omega
      rw [ei]
      have hrod : rods[i]? = some rods[i] := List.getElem?_eq_getElem hi
      refine ⟨_, rfl, _, rfl, a, _, 1, _, rfl, rfl, sm.seqT hA14, rfl, _, rfl, (i : Int), rfl, ?_⟩
      refine slA (sm.seqT hR14) (by rw [HT.sIx_none]; exact Nat.zero_le _) fun p1 G2 sg2 hp1 => ?_
      have sg2' := sm.trans sg2
      refine ⟨_, rfl, a, _, 1, _, rfl, rfl, sg2'.seqT hA14, rfl, _, rfl, _, _, rfl, rfl, _, rfl, ?_⟩
      rw [cut_take] at hp1
      have ei1 : ((i : Int) + 1) = ((i + 1 : Nat) : Int) := by omega
      unfold tNoPart
      dsimp only
      rw [ei1]
      refine slA (sg2'.seqT hR14) (HT.sIx_le _ _ (Nat.zero_le _) _) fun p2 G3 sg3 hp2 => ?_
      rw [cut_drop] at hp2
      refine catA (sg3.seqT hp1) hp2 (by rw [List.length_take, List.length_drop, List.length_map, hT.1]; exact sizeL (by omega)) fun p3 G4 sg4 hp3 => ?_
      refine ⟨(by show 2 ≤ sizeLine; decide), fun p4 hp4 => ?_⟩
      have sg4' := sg2'.trans (sg3.trans sg4)
      have sg5 := sg4'.trans (same_new (o := .tup [.int (n : Int), .ref p3]) hp4)
      have hf5 : (upd G4 p4 (.tup [.int (n : Int), .ref p3])) Du = some (.lst ((ndl n rods i).map iv)) := (same_new (o := .tup [.int (n : Int), .ref p3]) hp4) _ _ (sg4 _ _ (sg3 _ _ (sg2 _ _ hf)))
      have hrest : NetAt K (upd G4 p4 (.tup [.int (n : Int), .ref p3])) p4 n (rods.take i ++ rods.drop (i + 1)) := by
        refine ⟨p3, ts.take i ++ ts.drop (i + 1), SqT.of upd_same, ?_, (hT14.same sg5).cut i⟩
        rw [List.map_append, List.map_take, List.map_drop]
        exact (same_new hp4).seqT hp3
      refine ⟨_, rfl, p4, n, _, rfl, wf.inN.sub rest_sub, fun r hr => wf.ne r (rest_sub r hr), hn6, hrest, fun G6 pt' rs' B' tb' hB' => ?_⟩
      have sg6 := sg5.trans tb'.sm
      have hf6 := tb'.sm _ _ hf5
      have hiff := ndl_far wf.inN hrod hB hB'
      refine ⟨_, rfl, tabD n B', tabD n B, tb'.toTabAt.dp, (tb.toTabAt.same sg6).dp, shaped_tab n B', shaped_tab n B, _, rfl, ?_⟩
      refine ite2 (fun c => ?_) (fun c => ?_)
      · have c := eqv_tab.mp c
        refine ⟨_, rfl, .inl ⟨rfl, _, SqL.of hf6⟩, _, rfl, Du, _, _, rfl, rfl, hf6, ?_, ?_⟩
        · rw [List.length_map]
          have := ndl_len n rods i
          exact sizeS (by omega)
        · refine ⟨_, _, rfl, sg6.mut hDu, ?_⟩
          rw [upd_same, (ndl_succ n rods i).1 (hiff.mpr c), List.map_append]
          rfl
      · refine ⟨_, _, rfl, sg6, ?_⟩
        rw [(ndl_succ n rods i).2 fun z => c (eqv_tab.mpr (hiff.mp z))]
        exact hf6
    · rintro σ H' ⟨v10, v11, rfl, sm, hf⟩
      rw [Int.toNat_natCast, hT.len] at hf
      -- the last comparison
      refine ⟨_, rfl, a, n, rods, rfl, wf, hnet6.same (sm14.trans sm), fun H15 l sm15 hl => ?_⟩
      refine ⟨_, rfl, Du, _, rfl, .inl ⟨SqL.of (sm15 _ _ hf), fun l2 hl2 => ?_⟩⟩
      have s16 := same_new (o := .tup ((ndl n rods rods.length).map iv)) hl2
      refine ⟨2, _, _, rfl, rfl, .inr ⟨l, l2, _, _, rfl, rfl, .inr ⟨SqT.of (s16 _ _ hl), SqT.of upd_same⟩, rfl, ?_, fun j p p' hp hp' => ?_⟩, fun H17 _ => q H17⟩
      · rw [List.length_map]
        have := ndl_len n rods rods.length
        omega
      · rw [hp] at hp'
        cases hp'
        rw [List.getElem?_map] at hp
        cases e : (ndl n rods rods.length)[j]? with
        | none => rw [e] at hp; cases hp
        | some z =>
          rw [e] at hp
          have hp := Option.some.inj hp
          subst hp
          exact Alk.int 1 _
theorem law_ok {P : Program} : LawOk P 110 := fun w K mg base f fd T F => ok_law T F
end Lt
namespace Lt
open PySem L2
theorem fin {l : PySem.W.OpenLaw} {w : World} {K : PySem.W.Frag} {h : Heap} {mg : Str → Option Value} {fa : Addr} {n : Nat} (_ : K.In h) (hmg : mg "law" = some (.ref fa)) (hl : LawOk l.prog n) (T : Txt K mg) (D : DefOf K mg "law" sLaw ["_law_script"]) :
    ∃ fd : FuncData, (∀ (s : Shared) (v : Value), BindsTo s fd ⟨[v], []⟩ [("_law_script", v)]) ∧ ∀ base : Heap, K.In base → base.Ns mainGlobals mg → FnOk l.prog w K mg base CX0 n fa fd ["_law_script"] (spLaw K) := by
  obtain ⟨f, fd, F, em, _⟩ := D
  have e := hmg.symm.trans em
  cases e
  have F' := F
  obtain ⟨oc, od, kV, doc, pm, an, cdv, ct, osl, rfl, lk, hcd⟩ := F'.ex
  exact ⟨_, fun s v => .of_eq rfl, fun base _ _ => hl w K mg base _ _ T F⟩
end Lt
open PySem PySem.W PyProof.Rows
set_option maxRecDepth 100000 in
set_option maxHeartbeats 0 in
theorem PySem.Challenge.cw_littowers_k01_whole_shortest_ways_holds : PySem.Challenge.rw_littowers_k01_whole_shortest_ways.Holds := by
  w_on; o_law; k_head; (case hw => w_witness2)
  k_fill
  refine L2.walk_of (l := PySem.Challenge.rw_littowers_k01_whole_shortest_ways) (n := 63) (k := 110) (x := "_law_script") (CX := fun _ => L2.CX0) (sp := fun w => Lt.spLaw _) rfl (by decide) rfl ⟨rfl, by decide, by decide⟩ (fun w h Y => PySem.W.kIn_of Y) ?F (fun _ _ a ns hl _ hS => ⟨a, ns, rfl, hS, hl, fun _ => rfl⟩) (fun _ _ _ _ _ h => h)
  case F =>
    intro w mg fa h KX G hmg
    refine Lt.fin KX hmg Lt.law_ok ?T ?D
    case T =>
      constructor
      case whole => refine' Lt.mk_def KX G ?awhole ?lwhole ?cwhole ?kwhole (fun _ _ _ _ _ _ us hl => match us, hl with | [_], _ => rfl); (case awhole => k_is); (case lwhole => k_is); (case cwhole => k_is); (case kwhole => k_is)
      case within => refine' Lt.mk_def KX G ?awithin ?lwithin ?cwithin ?kwithin (fun _ _ _ _ _ _ us hl => match us, hl with | [_, _, _], _ => rfl); (case awithin => k_is); (case lwithin => k_is); (case cwithin => k_is); (case kwithin => k_is)
      case tupleOf => refine' Lt.mk_def KX G ?atupleOf ?ltupleOf ?ctupleOf ?ktupleOf (fun _ _ _ _ _ _ us hl => match us, hl with | [_, _, _], _ => rfl); (case atupleOf => k_is); (case ltupleOf => k_is); (case ctupleOf => k_is); (case ktupleOf => k_is)
      case isRod => refine' Lt.mk_def KX G ?aisRod ?lisRod ?cisRod ?kisRod (fun _ _ _ _ _ _ us hl => match us, hl with | [_, _], _ => rfl); (case aisRod => k_is); (case lisRod => k_is); (case cisRod => k_is); (case kisRod => k_is)
      case needNet => refine' Lt.mk_def KX G ?aneedNet ?lneedNet ?cneedNet ?kneedNet (fun _ _ _ _ _ _ us hl => match us, hl with | [_], _ => rfl); (case aneedNet => k_is); (case lneedNet => k_is); (case cneedNet => k_is); (case kneedNet => k_is)
      case needPlace => refine' Lt.mk_def KX G ?aneedPlace ?lneedPlace ?cneedPlace ?kneedPlace (fun _ _ _ _ _ _ us hl => match us, hl with | [_, _], _ => rfl); (case aneedPlace => k_is); (case lneedPlace => k_is); (case cneedPlace => k_is); (case kneedPlace => k_is)
      case tableOf => refine' Lt.mk_def KX G ?atableOf ?ltableOf ?ctableOf ?ktableOf (fun _ _ _ _ _ _ us hl => match us, hl with | [_], _ => rfl); (case atableOf => k_is); (case ltableOf => k_is); (case ctableOf => k_is); (case ktableOf => k_is)
      case neighbors => refine' Lt.mk_def KX G ?aneighbors ?lneighbors ?cneighbors ?kneighbors (fun _ _ _ _ _ _ us hl => match us, hl with | [_, _], _ => rfl); (case aneighbors => k_is); (case lneighbors => k_is); (case cneighbors => k_is); (case kneighbors => k_is)
      case short => refine' Lt.mk_def KX G ?ashort ?lshort ?cshort ?kshort (fun _ _ _ _ _ _ us hl => match us, hl with | [_, _, _], _ => rfl); (case ashort => k_is); (case lshort => k_is); (case cshort => k_is); (case kshort => k_is)
      case number => refine' Lt.mk_def KX G ?anumber ?lnumber ?cnumber ?knumber (fun _ _ _ _ _ _ us hl => match us, hl with | [_, _, _], _ => rfl); (case anumber => k_is); (case lnumber => k_is); (case cnumber => k_is); (case knumber => k_is)
      case waysTo => refine' Lt.mk_def KX G ?awaysTo ?lwaysTo ?cwaysTo ?kwaysTo (fun _ _ _ _ _ _ us hl => match us, hl with | [_, _, _, _], _ => rfl); (case awaysTo => k_is); (case lwaysTo => k_is); (case cwaysTo => k_is); (case kwaysTo => k_is)
      case needless => refine' Lt.mk_def KX G ?aneedless ?lneedless ?cneedless ?kneedless (fun _ _ _ _ _ _ us hl => match us, hl with | [_], _ => rfl); (case aneedless => k_is); (case lneedless => k_is); (case cneedless => k_is); (case kneedless => k_is)
      case taken => refine' Lt.mk_def KX G ?ataken ?ltaken ?ctaken ?ktaken (fun _ _ _ _ _ _ us hl => match us, hl with | [_, _], _ => rfl); (case ataken => k_is); (case ltaken => k_is); (case ctaken => k_is); (case ktaken => k_is)
      case net => refine' Lt.mk_def KX G ?anet ?lnet ?cnet ?knet (fun _ _ _ _ _ _ us hl => match us, hl with | [_, _, _], _ => rfl); (case anet => k_is); (case lnet => k_is); (case cnet => k_is); (case knet => k_is)
      case pick => refine' Lt.mk_def KX G ?apick ?lpick ?cpick ?kpick (fun _ _ _ _ _ _ us hl => match us, hl with | [_, _], _ => rfl); (case apick => k_is); (case lpick => k_is); (case cpick => k_is); (case kpick => k_is)
      case ways => refine' Lt.mk_def KX G ?aways ?lways ?cways ?kways (fun _ _ _ _ _ _ us hl => match us, hl with | [_, _, _], _ => rfl); (case aways => k_is); (case lways => k_is); (case cways => k_is); (case kways => k_is)
      case alike => refine' Lt.mk_def KX G ?aalike ?lalike ?calike ?kalike (fun _ _ _ _ _ _ us hl => match us, hl with | [_, _], _ => rfl); (case aalike => k_is); (case lalike => k_is); (case calike => k_is); (case kalike => k_is)
      case far => refine' Lt.mk_def KX G ?afar ?lfar ?cfar ?kfar (fun _ _ _ _ _ _ us hl => match us, hl with | [_], _ => rfl); (case afar => k_is); (case lfar => k_is); (case cfar => k_is); (case kfar => k_is)
      case mostP => refine' ⟨_, (PySem.W.mg_of KX G ?amostP).trans ?emostP⟩; (case amostP => k_is); (case emostP => rfl)
      case mostL => refine' ⟨_, (PySem.W.mg_of KX G ?amostL).trans ?emostL⟩; (case amostL => k_is); (case emostL => rfl)
      case bIsinstance => refine PySem.W.mg_none_of KX G ?abIsinstance; (case abIsinstance => k_is)
      case bInt => refine PySem.W.mg_none_of KX G ?abInt; (case abInt => k_is)
      case bBool => refine PySem.W.mg_none_of KX G ?abBool; (case abBool => k_is)
      case bTuple => refine PySem.W.mg_none_of KX G ?abTuple; (case abTuple => k_is)
      case bList => refine PySem.W.mg_none_of KX G ?abList; (case abList => k_is)
      case bStr => refine PySem.W.mg_none_of KX G ?abStr; (case abStr => k_is)
      case bLen => refine PySem.W.mg_none_of KX G ?abLen; (case abLen => k_is)
      case bAll => refine PySem.W.mg_none_of KX G ?abAll; (case abAll => k_is)
      case bRange => refine PySem.W.mg_none_of KX G ?abRange; (case abRange => k_is)
      case bEnumerate => refine PySem.W.mg_none_of KX G ?abEnumerate; (case abEnumerate => k_is)
      case bMin => refine PySem.W.mg_none_of KX G ?abMin; (case abMin => k_is)
      case bMax => refine PySem.W.mg_none_of KX G ?abMax; (case abMax => k_is)
      case bSorted => refine PySem.W.mg_none_of KX G ?abSorted; (case abSorted => k_is)
    case D => refine' Lt.mk_def KX G ?aD ?lD ?cD ?kD (fun _ _ _ _ _ _ us hl => match us, hl with | [_], _ => rfl); (case aD => k_is); (case lD => k_is); (case cD => k_is); (case kD => k_is)
