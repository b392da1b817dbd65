import PyProof.Rows.All
import Wide.All
import OpenK.AllK
import Wide.FinOn
import HandS.ForMost
import HandS.ForExc
import HandS.Evl
import HandS.IsInst
import HandS.StrMore
import HandS.Style
import HandS.SortInts
import HandS.SortRule
import HandS.SortKw
import HandS.RevRange
import HandS.SetFor
import HandS.Strs
import HandS.More
import HandS.ExcIs
import HandS.ExcCtx
import HandS.HotCalls
import HandS.Dict
import HandS.Hot
import PyProof.Rows.SortShellAny
import PyProof.Rows.StrMeet
import KE.KRevSl
import KE.DataMinMax
import PyProof.StrOps2
import KE.LtSeq
import HandS.TupLe
import PySem.Challenge.RW_tworeadings_k06_answers_by_hand
import KE.KSortTupAny
import HandS.Lambda
import HandS.Nested
import HandS.Conv
import KE.KLam
import HandS.EndTab
import KE.KNestM
set_option Elab.async false
set_option linter.all false
set_option maxRecDepth 100000
set_option maxHeartbeats 4000000
/-! TrA: defs that may be called (Cal, DefAt), texts as lists of codes, pure expressions. -/
namespace Tr
open PySem PySem.Spec PyProof.Rows L2 Evl

/-! ### defs -/
section
variable {P : Program} {w : World} {K : PySem.W.Frag} {mg : Str → Option Value} {base : Heap}
/-- a def that may be called by its name -/
structure Cal (P : Program) (w : World) (K : PySem.W.Frag) (mg : Str → Option Value) (base : Heap) (k : Nat) (x : Str) (sp : Sp) : Prop where
  ex : ∃ (f : Addr) (fd : FuncData) (ps : List Str), FnOk P w K mg base (L2N.CX P w) k f fd ps sp ∧ mg x = some (.ref f) ∧ PySem.W.keepIn K (.ref f) = true ∧ Binds K fd ps []
/-- a def as the top has left it -/
structure DefAt (K : PySem.W.Frag) (mg : Str → Option Value) (x : Str) (st : Stmt) (ps : List Str) : Prop where
  ex : ∃ (f : Addr) (fd : FuncData), Fun K x x st f fd ∧ mg x = some (.ref f) ∧ Binds K fd ps []
theorem cal_of {x : Str} {st : Stmt} {N ps : List Str} {k : Nat} {sp : Sp} (D : DefAt K mg x st ps) (S : FnScope N ps (defScope st)) (len : ∀ vs H Q E, sp vs H Q E → vs.length = ps.length)
    (hbody : ∀ (f : Addr) (cdv : Value) (A : Around) (outer : List Env) (s : Shared) (H : Hp) (vs : List V) (Q : VK) (E : XK), Room k (A.deeper (envOfC x (defScope st) s.heap.objs.size f cdv)) → sp vs H Q E →
      ∃ t, PSs (cxOf (L2N.CX P w) P w K mg base N x (defScope st) f cdv A outer s H E).nox (defBody st) t ∧ t { nx := fun _ H' => Q .non H', rt := Q } (start N vs) H) : Cal P w K mg base (k + 1) x sp := by
  obtain ⟨f, fd, F, m, b⟩ := D.ex
  obtain ⟨oc, od, kV, doc, pm, an, cdv, ct, osl, rfl, lk, hcd⟩ := F.ex
  refine ⟨f, _, ps, fn_of lk hcd S len fun A outer s H vs Q E hr hsp => ?_, m, F.kp, b⟩
  obtain ⟨t, h, q⟩ := hbody f cdv A outer s H vs Q E hr hsp
  exact ⟨t, h.nox, q⟩
/-- .. of the law itself -/
theorem fnok_of {x : Str} {st : Stmt} {N ps : List Str} {k : Nat} {sp : Sp} {f : Addr} {fd : FuncData} (F : Fun K x x st f fd) (S : FnScope N ps (defScope st)) (len : ∀ vs H Q E, sp vs H Q E → vs.length = ps.length)
    (hbody : ∀ (f : Addr) (cdv : Value) (A : Around) (outer : List Env) (s : Shared) (H : Hp) (vs : List V) (Q : VK) (E : XK), Room k (A.deeper (envOfC x (defScope st) s.heap.objs.size f cdv)) → sp vs H Q E →
      ∃ t, PSs (cxOf (L2N.CX P w) P w K mg base N x (defScope st) f cdv A outer s H E).nox (defBody st) t ∧ t { nx := fun _ H' => Q .non H', rt := Q } (start N vs) H) : FnOk P w K mg base (L2N.CX P w) (k + 1) f fd ps sp := by
  obtain ⟨oc, od, kV, doc, pm, an, cdv, ct, osl, rfl, lk, hcd⟩ := F.ex
  refine fn_of lk hcd S len fun A outer s H vs Q E hr hsp => ?_
  obtain ⟨t, h, q⟩ := hbody f cdv A outer s H vs Q E hr hsp
  exact ⟨t, h.nox, q⟩
/-- .. of a def that may raise -/
theorem calX_of {x : Str} {st : Stmt} {N ps : List Str} {k : Nat} {sp : Sp} (D : DefAt K mg x st ps) (S : FnScope N ps (defScope st)) (len : ∀ vs H Q E, sp vs H Q E → vs.length = ps.length)
    (hbody : ∀ (f : Addr) (cdv : Value) (A : Around) (outer : List Env) (s : Shared) (H : Hp) (vs : List V) (Q : VK) (E : XK), Room k (A.deeper (envOfC x (defScope st) s.heap.objs.size f cdv)) → sp vs H Q E →
      ∃ t, PSs (cxOf (L2N.CX P w) P w K mg base N x (defScope st) f cdv A outer s H E) (defBody st) t ∧ t { nx := fun _ H' => Q .non H', rt := Q } (start N vs) H) : Cal P w K mg base (k + 1) x sp := by
  obtain ⟨f, fd, F, m, b⟩ := D.ex
  obtain ⟨oc, od, kV, doc, pm, an, cdv, ct, osl, rfl, lk, hcd⟩ := F.ex
  exact ⟨f, _, ps, fn_of lk hcd S len fun A outer s H vs Q E hr hsp => hbody f cdv A outer s H vs Q E hr hsp, m, F.kp, b⟩
end
section
variable {X : Cx} {k j : Nat} {x : Str} {sp : Sp} {p pos : Pos} {e : Expr} {es : List Expr} {t : TA}
theorem passN : Passes (L2N.CX X.prog X.w) X E0 := fun _ _ _ _ _ _ _ c => by
  obtain ⟨_, _, _, _, _, _, _, _, _, _, _, _, z⟩ := c
  exact False.elim z
/-- f(e, ..), nothing raised -/
theorem pe_c (c : Cal X.prog X.w X.K X.mg X.base k x sp) (hr : Room j X.A) (hk : k ≤ j) (hg : Gl X x) (ha : PA X (e :: es) t) (hdb : (x == ("__debug__" : Str)) = false := by decide)
    (he : starEach (e :: es) X.env = (false, eval e X.env) :: starEach es X.env := by rfl) (hpl : (backTo pos (starEach es X.env)).any (·.1) = false := by rfl) : PE X (.Call (.Name x p) (e :: es) [] pos) (tCall sp [] E0 t) := by
  obtain ⟨f, fd, ps, F, m, kp, b⟩ := c.ex
  exact pe_call F (hr.mono hk) hg m kp b .nil passN ha hdb he hpl
/-- f(e, ..), what it raises leaves this def too -/
theorem pe_cX {E : XK} (tk : L2N.Takes X fun cls d _ H => E cls d H) (c : Cal X.prog X.w X.K X.mg X.base k x sp) (hr : Room j X.A) (hk : k ≤ j) (hg : Gl X x) (ha : PA X (e :: es) t) (hdb : (x == ("__debug__" : Str)) = false := by decide)
    (he : starEach (e :: es) X.env = (false, eval e X.env) :: starEach es X.env := by rfl) (hpl : (backTo pos (starEach es X.env)).any (·.1) = false := by rfl) : PE X (.Call (.Name x p) (e :: es) [] pos) (tCall sp [] E t) := by
  obtain ⟨f, fd, ps, F, m, kp, b⟩ := c.ex
  exact pe_call F (hr.mono hk) hg m kp b .nil (L2N.passes_call tk fun _ _ _ _ h => h) ha hdb he hpl
/-- f(e, ..) within a try: what it raises is looked at there -/
theorem pe_cT {W : WX} (tk : L2N.Takes X W) (c : Cal X.prog X.w X.K X.mg X.base k x sp) (hr : Room j X.A) (hk : k ≤ j) (hg : Gl X x) (ha : PA X (e :: es) t) (hdb : (x == ("__debug__" : Str)) = false := by decide)
    (he : starEach (e :: es) X.env = (false, eval e X.env) :: starEach es X.env := by rfl) (hpl : (backTo pos (starEach es X.env)).any (·.1) = false := by rfl) : PE X (.Call (.Name x p) (e :: es) [] pos) (tCallS sp (WE W) t) := by
  obtain ⟨f, fd, ps, F, m, kp, b⟩ := c.ex
  exact pe_callS F (hr.mono hk) hg m kp b (fun σ => L2N.passAt tk σ) ha hdb he hpl
theorem takes0N : L2N.Takes X (fun _ _ _ _ => False) := fun _ _ x => by
  obtain ⟨_, _, _, _, _, _, _, _, _, _, _, _, _, _, _, _, z⟩ := x
  exact z.elim
end

/-! ### exception classes of the text -/
structure ExcAt (K : PySem.W.Frag) (mg : Str → Option Value) (x : Str) (C : Addr) : Prop where
  g : mg x = some (.ref C)
  xin : PySem.W.excIn K C [.type "ValueError", .type "Exception", .type "BaseException", .type "object"] "ValueError.__new__" = true
  kp : PySem.W.keepIn K (.ref C) = true
  sb : PySem.W.subIn K (.ref C) (.type "BaseException") = some true
  ty : PySem.W.typeIn K (.ref C) = some (.type "type")
theorem pmk_c {X : Cx} {K : PySem.W.Frag} {mg : Str → Option Value} {x m : Str} {C : Addr} {j : Nat} {p p2 pos : Pos} (hK : X.K = K) (hm : X.mg = mg) (A : ExcAt K mg x C) (hg : Gl X x) (hdb : (x == ("__debug__" : Str)) = false := by decide) :
    L2N.PMk X (.Call (.Name x p) [.Constant (.str m) j p2] [] pos) (fun _ H Q => Q (.ref C) none H) := by
  subst hK hm
  exact L2N.pmk_own PySem.F.excBase_ValueError A.xin A.g A.kp (raises_own A.sb A.ty) hg hdb
theorem pe_exc {X : Cx} {mg : Str → Option Value} {x : Str} {C : Addr} {pos : Pos} (hm : X.mg = mg) (g : mg x = some (.ref C)) (hg : Gl X x) (hdb : (x == ("__debug__" : Str)) = false := by decide) : PE X (.Name x pos) (tC (.ref C)) := by
  subst hm
  exact pe_glob hg g rfl hdb
/-! ### the rules that name the written part, with it as a letter -/
section
variable {X : Cx} {K : PySem.W.Frag}
theorem ix_listK (h : X.K = K) : IxR X (rIxL K) := h ▸ ix_list
theorem ix_tupK (h : X.K = K) : IxR X (rIxT K) := h ▸ ix_tup
theorem call_isiK' (h : X.K = K) : CallR X (.builtin "isinstance") (rIsi K) := h ▸ call_isi
theorem cr_allK (h : X.K = K) (hc : X.calm = true) : CallR X (.builtin "all") (rAll K) := h ▸ cr_all hc
theorem cr_anyK (h : X.K = K) (hc : X.calm = true) : CallR X (.builtin "any") (rAny K) := h ▸ cr_any hc
theorem cr_sumK (h : X.K = K) (hc : X.calm = true) : CallR X (.builtin "sum") (rSum K) := h ▸ cr_sum hc
theorem cr_sortedIK (h : X.K = K) : CallR X (.builtin "sorted") (rSortedI K) := h ▸ cr_sortedI
theorem cr_sortedSK (h : X.K = K) : CallR X (.builtin "sorted") (rSortedS K) := h ▸ cr_sortedS
theorem cr_sortedPOK (h : X.K = K) : CallR X (.builtin "sorted") (rSortedPO K) := h ▸ cr_sortedPO
theorem op_in_seqK (h : X.K = K) : OpR X (compareOp .In) (rIn K false) := h ▸ op_in_seq
theorem op_notIn_seqK (h : X.K = K) : OpR X (compareOp .NotIn) (rIn K true) := h ▸ op_notIn_seq
theorem op_eqDK (h : X.K = K) (hu : X.A.units + 64 < cLine) : OpR X (compareOp .Eq) (rEqD K) := h ▸ op_eqD hu
theorem op_neDK (h : X.K = K) (hu : X.A.units + 64 < cLine) : OpR X (compareOp .NotEq) (rNeD K) := h ▸ op_neD hu
theorem sl_listK (h : X.K = K) : SlR X (rSlL K) := h ▸ sl_list
/-- len of a list or a tuple -/
def rLenQ (K : PySem.W.Frag) : List V → Hp → VK → Prop := fun xs H Q => ∃ p ys, xs = [.ref p] ∧ (SqL K H p ys ∨ SqT K H p ys) ∧ Q (.int ys.length) H
theorem call_len_seqK (h : X.K = K) : CallR X (.builtin "len") (rLenQ K) := h ▸ call_len_seq
def rListQ (K : PySem.W.Frag) : List V → Hp → VK → Prop := fun xs H Q => ∃ p ys, xs = [.ref p] ∧ (SqL K H p ys ∨ SqT K H p ys) ∧ ∀ l, H l = none → Q (.ref l) (upd H l (.lst ys))
theorem call_list_ofK (h : X.K = K) : CallR X (.type "list") (rListQ K) := h ▸ call_list_of
theorem mt_lcountK (h : X.K = K) : MtR X "list.count" (rCntI K) := h ▸ mt_lcount
theorem pi_listK {tg l : Expr} {tl : TE} (h : X.K = K) (hl : PE X l tl) : PI X tg l (iList K tl) := h ▸ pi_list hl
theorem pi_enumK {e : Expr} {ta : TA} {p pos tpos : Pos} {elts : List Expr} {kk : Nat} (h : X.K = K) (hg : Gl X "enumerate") (hm : X.mg "enumerate" = none) (ha : PA X [e] ta) (hs : starEach [e] X.env = (false, eval e X.env) :: starEach [] X.env := by rfl) :
    PI X (.Tuple elts kk tpos) (.Call (.Name "enumerate" p) [e] [] pos) (iEnum K ta) := h ▸ pi_enum hg hm ha hs
theorem pg_tupK {es : List Expr} {k : Nat} {t : TGs} {n : Nat} {pos : Pos} (h : X.K = K) (hc : X.calm = true) (hp : PGs X es t) (hn : (assignEach es X.env).length = n := by rfl) (hst : (assignEach es X.env).findIdx? (·.1) = none := by rfl) : PG X (.Tuple es k pos) (gTup K n t) := h ▸ pg_tup hc hp hn hst
theorem pe_fldK {e : Expr} {f : Str} {pos : Pos} {ta : TE} (h : X.K = K) (he : PE X e ta) (hb : attributeBase e f X.env (eval e X.env) = eval e X.env := by rfl) : PE X (.Attribute e f pos) (tFld K ta f) := h ▸ pe_fld he hb
theorem ps_fldK {o value : Expr} {f : Str} {pos pos' : Pos} {ta tv : TE} (h : X.K = K) (ha : PE X o ta) (hv : PE X value tv) (hs : swapsWith value (some (.Attribute o f pos')) pos.line X.env = pure false := by rfl) : PS X (.Assign [.Attribute o f pos'] value pos) (sFld K ta tv f) := h ▸ ps_fld ha hv hs
theorem pe_revLK {e : Expr} {te : TE} {k : Nat} {p1 p2 p3 pos : Pos} (h : X.K = K) (he : PE X e te) : PE X (.Subscript e (.Slice none none (some (.UnaryOp .USub (.Constant (.int 1) k p1) p2)) p3) pos) (tRevL K te) := h ▸ pe_revL he
def rJoin (K : PySem.W.Frag) : V → List V → Hp → VK → Prop := fun x xs H Q => ∃ a p, ∃ ys : List Str, x = .str a ∧ xs = [.ref p] ∧ (SqL K H p (ys.map V.str) ∨ SqT K H p (ys.map V.str)) ∧ (ys.map (·.length)).sum + ys.length * a.length ≤ 16777216 ∧ Q (.str (Txt.join a ys)) H
theorem pe_joinK {o e : Expr} {to te : TE} {apos pos : Pos} (h : X.K = K) (ho : PE X o to) (he : PE X e te) (hs : starEach [e] X.env = [(false, eval e X.env)] := by rfl) (hbase : attributeBase o "join" X.env (eval o X.env) = eval o X.env := by rfl)
    (hline : (apos.endLine == pos.line) = true := by rfl) : PE X (.Call (.Attribute o "join" apos) [e] [] pos) (tM1 (rJoin K) to te) := h ▸ pe_join ho he hs hbase hline
theorem pe_appK {o e : Expr} {to : TE} {t : TA} {apos cpos : Pos} (h : X.K = K) (ho : PE X o to) (ha : PA X [e] t) (h1 : PE X (.Call (.Attribute o "append" apos) [e] [] cpos) (tBM X.K "list" rAppend to t)) : PE X (.Call (.Attribute o "append" apos) [e] [] cpos) (tBM K "list" rAppend to t) := h ▸ h1
end
/-! ### texts by their codes -/
abbrev Wd := List Nat
def S (a : Wd) : Str := ⟨a.toArray⟩
def tx (a : Wd) : V := .str (S a)
theorem S_len (a : Wd) : (S a).length = a.length := by
  show a.toArray.size = a.length
  simp
theorem S_cps (a : Wd) : (S a).cps.toList = a := by simp [S]
theorem S_inj {a b : Wd} (h : S a = S b) : a = b := by
  have := congrArg (fun x : Str => x.cps.toList) h
  simpa [S] using this
theorem S_app (a b : Wd) : S a ++ S b = S (a ++ b) := by
  apply TL.ext_tl
  rw [TL.tl_append]
  simp [S, TL.tl]
theorem tx_eq (a b : Wd) : decide (tx a = tx b) = decide (a = b) := by
  by_cases h : a = b
  · subst h; simp
  · have : ¬ tx a = tx b := fun e => h (S_inj (V.str.inj e))
    simp [h, this]
theorem tx_inj {a b : Wd} (h : tx a = tx b) : a = b := S_inj (V.str.inj h)
theorem S_get (a : Wd) (i : Nat) : (S a).cps[i]? = a[i]? := by simp [S]
theorem S_cut (a : Wd) (lo hi : Option Int) : cutS (S a) lo hi = S ((a.drop (HT.sIx a.length 0 lo)).take (HT.sIx a.length a.length hi - HT.sIx a.length 0 lo)) := by
  unfold cutS
  rw [S_len, S_cps]
  rfl
/-- the signs of b alone -/
theorem strip_iff (a b : Wd) : (Txt.stripChars (S a) (S b) = S []) ↔ ∀ c ∈ a, c ∈ b := by
  unfold Txt.stripChars
  rw [PyProof.Rows.stripBy_eq]
  obtain ⟨l1, l2, l3⟩ := PyProof.Rows.lo_facts (S b).cps.contains (S a)
  obtain ⟨h1, h2, h3, h4⟩ := PyProof.Rows.hi_facts (S b).cps.contains (S a) _ l1
  generalize stripLo (S b).cps.contains true (S a) = lo at *
  generalize stripHi (S b).cps.contains true (S a) lo = hi at *
  have hg : ∀ k, k < a.length → (S a).cps.getD k 0 = a.getD k 0 := fun k hk => by
    simp [S, Array.getD, List.getD, hk]
  have hc : ∀ c, (S b).cps.contains c = decide (c ∈ b) := fun c => by simp [S]
  rw [S_len] at l1 l3 h2 h3
  have e : TL.tl (PySem.Builtin.Str.strSub (S a) lo hi) = (a.drop lo).take (hi - lo) := by
    rw [TL.tl_strSub]; simp [S, TL.tl]
  constructor
  · intro h c hm
    have e2 : (a.drop lo).take (hi - lo) = [] := by
      rw [← e, h]; simp [S, TL.tl]
    have hl : min (hi - lo) (a.length - lo) = 0 := by
      have := congrArg List.length e2
      simpa using this
    obtain ⟨k, hk, rfl⟩ := List.getElem_of_mem hm
    have hgo : (S b).cps.contains ((S a).cps.getD k 0) = true := by
      rcases Nat.lt_or_ge k lo with h0 | h0
      · exact l2 k h0
      · exact h3 k (by omega) hk
    rw [hg k hk, hc] at hgo
    have : a.getD k 0 = a[k] := by simp [List.getD, hk]
    rw [this] at hgo
    exact of_decide_eq_true hgo
  · intro h
    apply TL.ext_tl
    rw [e]
    have hlo : lo = a.length := by
      rcases l3 with h0 | h0
      · exact h0
      · rcases Nat.lt_or_ge lo a.length with hk | hk
        · rw [hg lo hk, hc] at h0
          have : a.getD lo 0 = a[lo] := by simp [List.getD, hk]
          rw [this] at h0
          have := h a[lo] (List.getElem_mem hk)
          simp [this] at h0
        · omega
    rw [hlo]
    simp [S, TL.tl]
def codes (s : Str) : Wd := s.cps.toList
theorem S_codes (s : Str) : S (codes s) = s := TL.ext_tl (by simp [S, TL.tl, codes])
theorem codes_S (a : Wd) : codes (S a) = a := by simp [S, codes]

/-! ### expressions -/
section
variable {K : PySem.W.Frag} {σ : L2.St} {H H' : Hp} {ta tb te tx' : TE} {t u : TT} {x y z v : V}
theorem ev_cS {s : Str} : Ev (tC (.str s)) σ H (tx (codes s)) := by
  unfold tx; rw [S_codes]; exact ev_c
theorem rv_add {i j : Int} : RV (rI0 fun i j => .int (i + j)) (.int i) (.int j) H (.int (i + j)) := rv_I0
theorem rv_sub {i j : Int} : RV (rI0 fun i j => .int (i - j)) (.int i) (.int j) H (.int (i - j)) := rv_I0
theorem rv_mul {i j : Int} (h : CMul i j) : RV (rI CMul fun i j => .int (i * j)) (.int i) (.int j) H (.int (i * j)) := rv_I h
theorem rv_fdiv {i j : Int} (h : CDiv i j) : RV (rI CDiv fun i j => .int (i / j)) (.int i) (.int j) H (.int (i / j)) := rv_I h
theorem rv_mod {i j : Int} (h : 0 < j) : RV (rI (fun _ j => 0 < j) fun i j => .int (i % j)) (.int i) (.int j) H (.int (i % j)) := rv_I (C := fun _ j => 0 < j) h
theorem rv_lt {i j : Int} : RV (rI0 fun i j => .bl (decide (i < j))) (.int i) (.int j) H (.bl (decide (i < j))) := rv_I0 (g := fun i j => V.bl (decide (i < j)))
theorem rv_le {i j : Int} : RV (rI0 fun i j => .bl (decide (i ≤ j))) (.int i) (.int j) H (.bl (decide (i ≤ j))) := rv_I0 (g := fun i j => V.bl (decide (i ≤ j)))
theorem rv_gt {i j : Int} : RV (rI0 fun i j => .bl (decide (j < i))) (.int i) (.int j) H (.bl (decide (j < i))) := rv_I0 (g := fun i j => V.bl (decide (j < i)))
theorem rv_ge {i j : Int} : RV (rI0 fun i j => .bl (decide (j ≤ i))) (.int i) (.int j) H (.bl (decide (j ≤ i))) := rv_I0 (g := fun i j => V.bl (decide (j ≤ i)))
theorem rv_eqI {i j : Int} : RV rEq (.int i) (.int j) H (.bl (decide (i = j))) := by
  have h := rv_eq (x := V.int i) (y := V.int j) (H := H) rfl
  have e : decide (V.int i = V.int j) = decide (i = j) := by simp
  rw [e] at h; exact h
theorem rv_eqB {i j : Bool} : RV rEq (.bl i) (.bl j) H (.bl (decide (i = j))) := by
  have h := rv_eq (x := V.bl i) (y := V.bl j) (H := H) rfl
  have e : decide (V.bl i = V.bl j) = decide (i = j) := by simp
  rw [e] at h; exact h
theorem rv_eqS {a b : Wd} : RV rEq (tx a) (tx b) H (.bl (decide (a = b))) := by
  have h := rv_eq (x := tx a) (y := tx b) (H := H) rfl
  rw [tx_eq] at h; exact h
theorem rv_neI {i j : Int} : RV rNe (.int i) (.int j) H (.bl (!decide (i = j))) := by
  have h := rv_ne (x := V.int i) (y := V.int j) (H := H) rfl
  have e : decide (V.int i = V.int j) = decide (i = j) := by simp
  rw [e] at h; exact h
theorem rv_neB {i j : Bool} : RV rNe (.bl i) (.bl j) H (.bl (!decide (i = j))) := by
  have h := rv_ne (x := V.bl i) (y := V.bl j) (H := H) rfl
  have e : decide (V.bl i = V.bl j) = decide (i = j) := by simp
  rw [e] at h; exact h
theorem rv_neS {a b : Wd} : RV rNe (tx a) (tx b) H (.bl (!decide (a = b))) := by
  have h := rv_ne (x := tx a) (y := tx b) (H := H) rfl
  rw [tx_eq] at h; exact h
theorem rv_addS {a b : Wd} (h : a.length + b.length ≤ 100000) : RV (fun x y H Q => ∃ i j, x = .str i ∧ y = .str j ∧ i.length + j.length ≤ sizeLine ∧ Q (.str (i ++ j)) H) (tx a) (tx b) H (tx (a ++ b)) := fun H1 _ Q q =>
  ⟨S a, S b, rfl, rfl, sz_of (by rw [S_len, S_len]; exact h), by rw [S_app]; exact q H1 (Ex.refl H1)⟩
theorem rv_ixW {a : Wd} {i : Int} {c : Nat} (h : a.length ≤ 100000) (ha : atI a i = some c) : RV rIxS (tx a) (.int i) H (tx [c]) := fun H1 _ _ q =>
  ⟨S a, i, c, rfl, rfl, sz_of (by rw [S_len]; exact h), by rw [S_cps]; exact ha, q H1 (Ex.refl H1)⟩
theorem rv_isB {a b : Bool} : RV rIsB (.bl a) (.bl b) H (.bl (decide (a = b))) := fun H1 _ _ q => ⟨a, b, rfl, rfl, q H1 (Ex.refl H1)⟩
theorem rv_notB {a b : Bool} : RV rNotB (.bl a) (.bl b) H (.bl (!decide (a = b))) := fun H1 _ _ q => ⟨a, b, rfl, rfl, q H1 (Ex.refl H1)⟩
/-- slices of texts -/
def cutW (a : Wd) (lo hi : Option Int) : Wd := (a.drop (HT.sIx a.length 0 lo)).take (HT.sIx a.length a.length hi - HT.sIx a.length 0 lo)
theorem ev_slS {a : Wd} {lo hi : Option Int} {tl th : TO} (h : Ev te σ H (tx a)) (h1 : EvO tl σ H lo) (h2 : EvO th σ H hi) (hs : a.length ≤ 100000) : Ev (tSl rSlS te tl th) σ H (tx (cutW a lo hi)) := fun H1 e _ q =>
  h H1 e _ fun H2 e2 => h1 H2 (e.trans e2) _ fun H3 e3 => h2 H3 ((e.trans e2).trans e3) _ fun H4 e4 =>
    ⟨S a, rfl, sz_of (by rw [S_len]; exact hs), by rw [S_cut]; exact q H4 ((e2.trans e3).trans e4)⟩
theorem sIx_nat' (n d : Nat) (i : Int) (k : Nat) (h : i = k) : HT.sIx n d (some i) = min k n := by
  subst h; exact HT.sIx_nat n d k
theorem drop_min (a : Wd) (i : Nat) : a.drop (min i a.length) = a.drop i := by
  rcases Nat.le_total i a.length with h | h
  · rw [Nat.min_eq_left h]
  · rw [Nat.min_eq_right h, List.drop_length, List.drop_eq_nil_of_le h]
theorem cut_nn (a : Wd) (i j : Nat) : cutW a (some (i : Int)) (some (j : Int)) = (a.drop i).take (j - i) := by
  unfold cutW
  rw [HT.sIx_nat, HT.sIx_nat, drop_min]
  rcases Nat.le_total i a.length with h | h
  · rcases Nat.le_total j a.length with h2 | h2
    · rw [Nat.min_eq_left h, Nat.min_eq_left h2]
    · rw [Nat.min_eq_left h, Nat.min_eq_right h2, List.take_of_length_le (by simp), List.take_of_length_le (by simp; omega)]
  · rw [List.drop_eq_nil_of_le h]; simp
theorem cut_from (a : Wd) (i : Nat) : cutW a (some (i : Int)) none = a.drop i := by
  unfold cutW
  rw [HT.sIx_nat, HT.sIx_none, drop_min]
  exact List.take_of_length_le (by simp; omega)
theorem cut_to (a : Wd) (j : Nat) : cutW a none (some (j : Int)) = a.take j := by
  unfold cutW
  rw [HT.sIx_nat, HT.sIx_none]
  show (a.drop 0).take (min j a.length - 0) = _
  rw [List.drop_zero, Nat.sub_zero]
  rcases Nat.le_total j a.length with h | h
  · rw [Nat.min_eq_left h]
  · rw [Nat.min_eq_right h, List.take_of_length_le (Nat.le_refl _), List.take_of_length_le h]
/-- len of a text -/
theorem ev_lenS {a : Wd} (h : Ev ta σ H (tx a)) (hs : a.length ≤ 100000) : Ev (tCB (fun xs H Q => ∃ x : Str, xs = [.str x] ∧ x.length ≤ sizeLine ∧ Q (.int x.length) H) (tCons ta tNil)) σ H (.int (a.length : Int)) := fun H1 e Q q =>
  h H1 e _ fun H2 e2 => ⟨S a, rfl, sz_of (by rw [S_len]; exact hs), by rw [S_len]; exact q H2 e2⟩
/-- strip -/
theorem ev_strip {a b : Wd} (h : Ev ta σ H (tx a)) (hb : Ev tb σ H (tx b)) (hs : a.length ≤ 100000) : Ev (tM1 (fun x xs H Q => ∃ a b, x = .str a ∧ xs = [.str b] ∧ a.length ≤ sizeLine ∧ Q (.str (Txt.stripChars a b)) H) ta tb) σ H (tx (codes (Txt.stripChars (S a) (S b)))) := fun H1 e Q q =>
  h H1 e _ fun H2 e2 => ⟨⟨S a, rfl⟩, hb H2 (e.trans e2) _ fun H3 e3 => ⟨S a, S b, rfl, rfl, sz_of (by rw [S_len]; exact hs), by
    have := q H3 (e2.trans e3)
    unfold tx at this; rw [S_codes] at this; exact this⟩⟩
/-- all, any, sum of a new list; len of one -/
theorem ev_all {bs : List Bool} (h : EvL ta σ H (bs.map V.bl)) : Ev (tCB (rAll K) (tCons ta tNil)) σ H (.bl (bs.all id)) := fun H1 e Q q =>
  h H1 e _ fun p H2 _ e2 h2 => ⟨p, bs, rfl, sq_of h2, q H2 e2⟩
theorem ev_any {bs : List Bool} (h : EvL ta σ H (bs.map V.bl)) : Ev (tCB (rAny K) (tCons ta tNil)) σ H (.bl (bs.any id)) := fun H1 e Q q =>
  h H1 e _ fun p H2 _ e2 h2 => ⟨p, bs, rfl, sq_of h2, q H2 e2⟩
theorem ev_sumN {ns : List Int} (h : EvL ta σ H (ns.map V.int)) : Ev (tCB (rSum K) (tCons ta tNil)) σ H (.int ns.sum) := fun H1 e Q q =>
  h H1 e _ fun p H2 _ e2 h2 => ⟨p, ns, rfl, sq_of h2, q H2 e2⟩
theorem ev_sum {ns : List Int} {p : Addr} (h : Ev ta σ H (.ref p)) (hs : SqL K H p (ns.map V.int)) : Ev (tCB (rSum K) (tCons ta tNil)) σ H (.int ns.sum) := fun H1 e Q q =>
  h H1 e _ fun H2 e2 => ⟨p, ns, rfl, ex_l (e.trans e2) hs, q H2 e2⟩
theorem ev_len' {p : Addr} {xs : List V} (ha : Ev ta σ H (.ref p)) (h : SqL K H p xs) : Ev (tCB (rLenQ K) (tCons ta tNil)) σ H (.int (xs.length : Int)) := fun H1 e Q q =>
  ha H1 e _ fun H2 e2 => ⟨p, xs, rfl, Or.inl (ex_l (e.trans e2) h), q H2 e2⟩
theorem ev_listOf {p : Addr} {xs : List V} (ha : Ev ta σ H (.ref p)) (h : SqL K H p xs) : EvL (tCB (rListQ K) (tCons ta tNil)) σ H xs := el_list ha h
theorem ev_lenL {xs : List V} (ha : EvL ta σ H xs) : Ev (tCB (rLenQ K) (tCons ta tNil)) σ H (.int (xs.length : Int)) := ev_lenN ha
/-- isinstance of a scalar -/
theorem ev_isi {T : String} {tv : Value} {b : Bool} (h : Ev ta σ H x) (hc : Ev tb σ H (.ty T)) (hx : ∀ H1, Ex H H1 → TyX K H1 x tv) (e : PySem.W.kitOne K tv (.type T) = some b) : Ev (tCB (rIsi K) (tCons ta (tCons tb tNil))) σ H (.bl b) := fun H1 e1 Q q =>
  h H1 e1 _ fun H2 e2 => hc H2 (e1.trans e2) _ fun H3 e3 => ⟨x, .ty T, tv, .type T, b, rfl, .ty T, hx H3 ((e1.trans e2).trans e3), e, q H3 (e2.trans e3)⟩
theorem ty_list {p : Addr} {xs : List V} (h : SqL K H p xs) : ∀ H1, Ex H H1 → TyX K H1 (.ref p) (.type "list") := fun H1 e => by
  rcases h with (h | ⟨o, h⟩) | ⟨o, its, n, h, hc, _⟩
  · exact .base (.lst (e p _ h))
  · exact .base (.frz (e p _ h))
  · exact .kList h hc
theorem ty_int {i : Int} : ∀ H1, Ex H H1 → TyX K H1 (.int i) (.type "int") := fun _ _ => .base (.int i)
theorem ty_bl {i : Bool} : ∀ H1, Ex H H1 → TyX K H1 (.bl i) (.type "bool") := fun _ _ => .base (.bl i)
theorem ty_str {a : Wd} : ∀ H1, Ex H H1 → TyX K H1 (tx a) (.type "str") := fun _ _ => .base (.str (S a))
/-- comparisons chained -/
theorem ev_chain {r r' : R2} {a b : Bool} (ha : Ev ta σ H x) (hb : Ev tb σ H y) (hc : Ev te σ H z) (h1 : RV r x y H (.bl a)) (h2 : a = true → RV r' y z H (.bl b)) : Ev (tChain r r' ta tb te) σ H (.bl (a && b)) := fun H1 e Q q =>
  ha H1 e _ fun H2 e2 => hb H2 (e.trans e2) _ fun H3 e3 => h1 H3 ((e.trans e2).trans e3) _ fun H4 e4 => ⟨a, rfl, by
    have e04 := ((e.trans e2).trans e3).trans e4
    cases a with
    | true =>
      show te σ H4 _
      exact hc H4 e04 _ fun H5 e5 => h2 rfl H5 (e04.trans e5) Q fun H6 e6 => q H6 ((((e2.trans e3).trans e4).trans e5).trans e6)
    | false =>
      show Q (.bl false) H4
      exact q H4 ((e2.trans e3).trans e4)⟩
/-! comprehensions over lists -/
theorem given_all {α : Type} (ys : List α) (g : α → V) (v : Nat → V) (hv : ∀ i y, ys[i]? = some y → v i = g y) : given ys.length (fun _ => true) v = ys.map g := by
  unfold given
  rw [List.filter_eq_self.mpr (fun _ _ => rfl)]
  apply List.ext_getElem?
  intro i
  rw [List.getElem?_map, List.getElem?_map]
  rcases Nat.lt_or_ge i ys.length with h | h
  · rw [List.getElem?_range h, List.getElem?_eq_getElem h]
    show some (v i) = some (g ys[i])
    rw [hv i ys[i] (List.getElem?_eq_getElem h)]
  · rw [List.getElem?_eq_none (by simpa using h), List.getElem?_eq_none h]; rfl
theorem given_take {α : Type} (ys : List α) (p : α → Bool) (g : α → V) (f : Nat → Bool) (v : Nat → V) (h : ∀ i y, ys[i]? = some y → f i = p y ∧ v i = g y) : ∀ n, n ≤ ys.length → given n f v = ((ys.take n).filter p).map g
  | 0, _ => by simp [given]
  | n + 1, hn => by
    have ih := given_take ys p g f v h n (by omega)
    have hy := h n ys[n] (List.getElem?_eq_getElem (by omega))
    rw [List.take_succ, List.getElem?_eq_getElem (show n < ys.length by omega), List.filter_append, List.map_append]
    cases hp : p ys[n] with
    | true =>
      rw [given_yes (by rw [hy.1, hp]), ih, hy.2]
      simp [hp]
    | false =>
      rw [given_no (by rw [hy.1, hp]), ih]
      simp [hp]
theorem given_filter {α : Type} (ys : List α) (p : α → Bool) (g : α → V) (f : Nat → Bool) (v : Nat → V) (h : ∀ i y, ys[i]? = some y → f i = p y ∧ v i = g y) : given ys.length f v = (ys.filter p).map g := by
  rw [given_take ys p g f v h ys.length (Nat.le_refl _), List.take_length]
theorem el_map {α : Type} {a : Addr} {ys : List α} {tl : TE} {j : Nat} {vs : List Nat} (φ g : α → V) (h : Ev tl σ H (.ref a)) (hx : SqL K H a (ys.map φ)) (hz : ys.length ≤ 40000) (hw : ∀ x, wipe ((wipe σ vs).set j (some x)) vs = wipe σ vs)
    (he : ∀ y, y ∈ ys → Ev te ((wipe σ vs).set j (some (φ y))) H (g y)) : EvL (tLc (iList K tl) (gName j) tYes te vs) σ H (ys.map g) := by
  rcases Nat.eq_zero_or_pos ys.length with hn | hn
  · have e0 : ys = [] := List.eq_nil_of_length_eq_zero hn
    subst e0
    have := el_lcL (t := tYes) (te := te) (j := j) (vs := vs) (fun _ => true) (fun _ => V.non) h hx (by simp) hw (fun i x H1 _ hi => by simp at hi) (fun i x H1 _ hi => by simp at hi)
    simpa [given] using this
  · let y0 := ys[0]
    have := el_lcL (t := tYes) (te := te) (j := j) (vs := vs) (fun _ => true) (fun i => g (ys.getD i y0)) h hx (by simpa using hz) hw (fun i x H1 _ hi H2 e2 Q q => q H2 (Ex.refl H2)) (fun i x H1 e1 hi _ => by
      rw [List.getElem?_map] at hi
      cases hy : ys[i]? with
      | none => rw [hy] at hi; cases hi
      | some y =>
        rw [hy] at hi
        have ex : φ y = x := Option.some.inj hi
        subst ex
        have eg : ys.getD i y0 = y := by simp [List.getD, hy]
        rw [eg]
        exact (he y (List.mem_of_getElem? hy)).mono e1)
    rw [List.length_map, given_all ys g _ (fun i y hy => by simp [List.getD, hy])] at this
    exact this
theorem el_filter {α : Type} {a : Addr} {ys : List α} {tl : TE} {j : Nat} {vs : List Nat} (φ g : α → V) (p : α → Bool) (h : Ev tl σ H (.ref a)) (hx : SqL K H a (ys.map φ)) (hz : ys.length ≤ 40000) (hw : ∀ x, wipe ((wipe σ vs).set j (some x)) vs = wipe σ vs)
    (ht : ∀ y, y ∈ ys → EvT t ((wipe σ vs).set j (some (φ y))) H (p y)) (he : ∀ y, y ∈ ys → p y = true → Ev te ((wipe σ vs).set j (some (φ y))) H (g y)) : EvL (tLc (iList K tl) (gName j) t te vs) σ H ((ys.filter p).map g) := by
  rcases Nat.eq_zero_or_pos ys.length with hn | hn
  · have e0 : ys = [] := List.eq_nil_of_length_eq_zero hn
    subst e0
    have := el_lcL (t := t) (te := te) (j := j) (vs := vs) (fun _ => true) (fun _ => V.non) h hx (by simp) hw (fun i x H1 _ hi => by simp at hi) (fun i x H1 _ hi => by simp at hi)
    simpa [given] using this
  · let y0 := ys[0]
    have key : ∀ (i : Nat) (x : V), (ys.map φ)[i]? = some x → ∃ y, y ∈ ys ∧ ys[i]? = some y ∧ φ y = x ∧ ys.getD i y0 = y := fun i x hi => by
      rw [List.getElem?_map] at hi
      cases hy : ys[i]? with
      | none => rw [hy] at hi; cases hi
      | some y =>
        rw [hy] at hi
        exact ⟨y, List.mem_of_getElem? hy, rfl, Option.some.inj hi, by simp [List.getD, hy]⟩
    have := el_lcL (t := t) (te := te) (j := j) (vs := vs) (fun i => p (ys.getD i y0)) (fun i => g (ys.getD i y0)) h hx (by simpa using hz) hw (fun i x H1 e1 hi => by
      obtain ⟨y, hm, _, rfl, eg⟩ := key i x hi
      rw [eg]; exact (ht y hm).mono e1) (fun i x H1 e1 hi hf => by
      obtain ⟨y, hm, _, rfl, eg⟩ := key i x hi
      rw [eg] at hf ⊢
      exact (he y hm hf).mono e1)
    rw [List.length_map, given_filter ys p g _ _ (fun i y hy => ⟨by simp [List.getD, hy], by simp [List.getD, hy]⟩)] at this
    exact this
/-- over a new list -/
theorem el_mapN {α : Type} {ys : List α} {tl : TE} {j : Nat} {vs : List Nat} (φ g : α → V) (h : EvL tl σ H (ys.map φ)) (hz : ys.length ≤ 40000) (hw : ∀ x, wipe ((wipe σ vs).set j (some x)) vs = wipe σ vs)
    (he : ∀ y, y ∈ ys → Ev te ((wipe σ vs).set j (some (φ y))) H (g y)) : EvL (tLc (iList K tl) (gName j) tYes te vs) σ H (ys.map g) := by
  rcases Nat.eq_zero_or_pos ys.length with hn | hn
  · have e0 : ys = [] := List.eq_nil_of_length_eq_zero hn
    subst e0
    have := el_lcNL (K := K) (t := tYes) (te := te) (j := j) (vs := vs) (fun _ => true) (fun _ => V.non) h (by simp) hw (fun i x H1 _ hi => by simp at hi) (fun i x H1 _ hi => by simp at hi)
    simpa [given] using this
  · let y0 := ys[0]
    have := el_lcNL (K := K) (t := tYes) (te := te) (j := j) (vs := vs) (fun _ => true) (fun i => g (ys.getD i y0)) h (by simpa using hz) hw (fun i x H1 _ hi H2 e2 Q q => q H2 (Ex.refl H2)) (fun i x H1 e1 hi _ => by
      rw [List.getElem?_map] at hi
      cases hy : ys[i]? with
      | none => rw [hy] at hi; cases hi
      | some y =>
        rw [hy] at hi
        have ex : φ y = x := Option.some.inj hi
        subst ex
        have eg : ys.getD i y0 = y := by simp [List.getD, hy]
        rw [eg]
        exact (he y (List.mem_of_getElem? hy)).mono e1)
    rw [List.length_map, given_all ys g _ (fun i y hy => by simp [List.getD, hy])] at this
    exact this
/-- over a range from 0 -/
theorem el_range {ta : TA} {j : Nat} {vs : List Nat} (n : Nat) (g : Nat → V) (h : EvA ta σ H [.int (n : Int)]) (hn : n ≤ 40000) (hw : ∀ x, wipe ((wipe σ vs).set j (some x)) vs = wipe σ vs)
    (he : ∀ i, i < n → Ev te ((wipe σ vs).set j (some (.int (i : Int)))) H (g i)) : EvL (tLc (iRng1 ta) (gName j) tYes te vs) σ H ((List.range n).map g) := by
  have := el_lcR1 (t := tYes) (te := te) (j := j) (vs := vs) (fun _ => true) g h ⟨by omega, by omega⟩ hw (fun i H1 _ hi H2 e2 Q q => q H2 (Ex.refl H2)) (fun i H1 e1 hi _ => (he i (by omega)).mono e1)
  have e : (n : Int).toNat = n := by omega
  rw [e] at this
  unfold given at this
  rw [List.filter_eq_self.mpr (fun _ _ => rfl)] at this
  exact this
/-! .. by the kind of the items -/
section
variable {α : Type} {a : Addr} {ys : List α} {tl : TE} {j : Nat} {vs : List Nat} {φ : α → V}
theorem el_mapB {g : α → Bool} (h : Ev tl σ H (.ref a)) (hx : SqL K H a (ys.map φ)) (hz : ys.length ≤ 40000) (hw : ∀ x, wipe ((wipe σ vs).set j (some x)) vs = wipe σ vs)
    (he : ∀ y, y ∈ ys → Ev te ((wipe σ vs).set j (some (φ y))) H (.bl (g y))) : EvL (tLc (iList K tl) (gName j) tYes te vs) σ H ((ys.map g).map V.bl) := by
  rw [List.map_map]; exact el_map φ (V.bl ∘ g) h hx hz hw he
theorem el_mapI {g : α → Int} (h : Ev tl σ H (.ref a)) (hx : SqL K H a (ys.map φ)) (hz : ys.length ≤ 40000) (hw : ∀ x, wipe ((wipe σ vs).set j (some x)) vs = wipe σ vs)
    (he : ∀ y, y ∈ ys → Ev te ((wipe σ vs).set j (some (φ y))) H (.int (g y))) : EvL (tLc (iList K tl) (gName j) tYes te vs) σ H ((ys.map g).map V.int) := by
  rw [List.map_map]; exact el_map φ (V.int ∘ g) h hx hz hw he
theorem el_mapS {g : α → Wd} (h : Ev tl σ H (.ref a)) (hx : SqL K H a (ys.map φ)) (hz : ys.length ≤ 40000) (hw : ∀ x, wipe ((wipe σ vs).set j (some x)) vs = wipe σ vs)
    (he : ∀ y, y ∈ ys → Ev te ((wipe σ vs).set j (some (φ y))) H (tx (g y))) : EvL (tLc (iList K tl) (gName j) tYes te vs) σ H ((ys.map g).map tx) := by
  rw [List.map_map]; exact el_map φ (tx ∘ g) h hx hz hw he
theorem el_mapNB {g : α → Bool} (h : EvL tl σ H (ys.map φ)) (hz : ys.length ≤ 40000) (hw : ∀ x, wipe ((wipe σ vs).set j (some x)) vs = wipe σ vs)
    (he : ∀ y, y ∈ ys → Ev te ((wipe σ vs).set j (some (φ y))) H (.bl (g y))) : EvL (tLc (iList K tl) (gName j) tYes te vs) σ H ((ys.map g).map V.bl) := by
  rw [List.map_map]; exact el_mapN φ (V.bl ∘ g) h hz hw he
theorem el_mapNS {g : α → Wd} (h : EvL tl σ H (ys.map φ)) (hz : ys.length ≤ 40000) (hw : ∀ x, wipe ((wipe σ vs).set j (some x)) vs = wipe σ vs)
    (he : ∀ y, y ∈ ys → Ev te ((wipe σ vs).set j (some (φ y))) H (tx (g y))) : EvL (tLc (iList K tl) (gName j) tYes te vs) σ H ((ys.map g).map tx) := by
  rw [List.map_map]; exact el_mapN φ (tx ∘ g) h hz hw he
theorem el_filterI {g : α → Int} {p : α → Bool} (h : Ev tl σ H (.ref a)) (hx : SqL K H a (ys.map φ)) (hz : ys.length ≤ 40000) (hw : ∀ x, wipe ((wipe σ vs).set j (some x)) vs = wipe σ vs)
    (ht : ∀ y, y ∈ ys → EvT t ((wipe σ vs).set j (some (φ y))) H (p y)) (he : ∀ y, y ∈ ys → p y = true → Ev te ((wipe σ vs).set j (some (φ y))) H (.int (g y))) : EvL (tLc (iList K tl) (gName j) t te vs) σ H (((ys.filter p).map g).map V.int) := by
  rw [List.map_map]; exact el_filter φ (V.int ∘ g) p h hx hz hw ht he
end
theorem el_rangeB {ta : TA} {j : Nat} {vs : List Nat} {n : Nat} {g : Nat → Bool} (h : EvA ta σ H [.int (n : Int)]) (hn : n ≤ 40000) (hw : ∀ x, wipe ((wipe σ vs).set j (some x)) vs = wipe σ vs)
    (he : ∀ i, i < n → Ev te ((wipe σ vs).set j (some (.int (i : Int)))) H (.bl (g i))) : EvL (tLc (iRng1 ta) (gName j) tYes te vs) σ H (((List.range n).map g).map V.bl) := by
  rw [List.map_map]; exact el_range n (V.bl ∘ g) h hn hw he
/-! ### straight code that gives back a value -/
def SEv (ts : TS) (σ : L2.St) (H : Hp) (v : V) : Prop := ∀ H1, Ex H H1 → ∀ D : Ends, (∀ H2, Ex H1 H2 → D.rt v H2) → ts D σ H1
theorem sev_run {ts : TS} {D : Ends} (h : SEv ts σ H v) (q : ∀ H2, Ex H H2 → D.rt v H2) : ts D σ H := h H (Ex.refl H) D q
theorem sev_is {ts : TS} {w : V} (h : SEv ts σ H v) (e : v = w) : SEv ts σ H w := by rw [← e]; exact h
theorem sev_ret (h : Ev te σ H v) : SEv (tRet te) σ H v := fun H1 e D k => h H1 e _ k
theorem sev_asg {i : Nat} {tz : TS} (h : Ev te σ H x) (k : SEv tz (σ.set i (some x)) H v) : SEv (tSeq (tAsg te (gName i)) tz) σ H v := fun H1 e D q =>
  h H1 e _ fun H2 e2 => k H2 (e.trans e2) D fun H3 e3 => q H3 (e2.trans e3)
theorem sev_when {b : Bool} {tu tz : TS} (h : EvT t σ H b) (k1 : b = true → SEv tu σ H v) (k2 : b = false → SEv tz σ H v) : SEv (tSeq (tIfS t tu tNext) tz) σ H v := fun H1 e D q =>
  h H1 e _ fun H2 e2 => by
    cases b with
    | true => exact k1 rfl H2 (e.trans e2) { D with nx := tz D } fun H3 e3 => q H3 (e2.trans e3)
    | false => exact k2 rfl H2 (e.trans e2) D fun H3 e3 => q H3 (e2.trans e3)
theorem sev_drop {tz : TS} (h : Ev te σ H x) (k : SEv tz σ H v) : SEv (tSeq (tDrop te) tz) σ H v := fun H1 e D q =>
  h H1 e _ fun H2 e2 => k H2 (e.trans e2) D fun H3 e3 => q H3 (e2.trans e3)
/-- code that falls through -/
def SNx (ts : TS) (σ : L2.St) (H : Hp) : Prop := ∀ H1, Ex H H1 → ∀ D : Ends, (∀ H2, Ex H1 H2 → D.nx σ H2) → ts D σ H1
theorem snx_skip {tu : TS} (h : EvT t σ H false) : SNx (tIfS t tu tNext) σ H := fun H1 e D q => h H1 e _ fun H2 e2 => q H2 e2
theorem snx_run {ts : TS} {D : Ends} (h : SNx ts σ H) (q : ∀ H2, Ex H H2 → D.nx σ H2) : ts D σ H := h H (Ex.refl H) D q
theorem sev_skip {tu tz : TS} (h : EvT t σ H false) (k : SEv tz σ H v) : SEv (tSeq (tIfS t tu tNext) tz) σ H v := fun H1 e D q =>
  h H1 e _ fun H2 e2 => k H2 (e.trans e2) D fun H3 e3 => q H3 (e2.trans e3)
/-- sep.join of a new list, the empty sep -/
theorem join_S (ys : List Wd) : Txt.join (S []) (ys.map S) = S ys.flatten := by
  apply TL.ext_tl
  rw [TL.join_eq, TL.tl_join, List.map_map]
  have h1 : TL.tl (S []) = [] := by simp [S, TL.tl]
  have h2 : ∀ zs : List Wd, TL.joinL [] zs = zs.flatten := by
    intro zs
    induction zs with
    | nil => rfl
    | cons z r ih =>
      cases r with
      | nil => simp [TL.joinL]
      | cons y r =>
        show z ++ ([] ++ TL.joinL [] (y :: r)) = _
        rw [ih]
        rfl
  have h3 : ys.map (TL.tl ∘ S) = ys := by
    have : (TL.tl ∘ S) = id := by funext a; simp [S, TL.tl]
    rw [this, List.map_id]
  rw [h1, h3, h2]
  simp [S, TL.tl]
theorem ev_join {ys : List Wd} (ha : Ev ta σ H (tx [])) (hb : EvL tb σ H (ys.map tx)) (hz : ys.flatten.length ≤ 100000) :
    Ev (tM1 (rJoin K) ta tb) σ H (tx ys.flatten) := fun H1 e Q q =>
  ha H1 e _ fun H2 e2 => ⟨⟨S [], rfl⟩, hb H2 (e.trans e2) _ fun p H3 hp e3 h3 => ⟨S [], p, ys.map S, rfl, rfl, .inl (sq_of (by rw [h3, List.map_map]; rfl)), by
    have h1 : (S []).length = 0 := by rw [S_len]; rfl
    have h2 : ((ys.map S).map (·.length)).sum = ys.flatten.length := by
      rw [List.map_map, List.length_flatten]
      exact congrArg List.sum (List.map_congr_left fun a _ => S_len a)
    rw [h1, h2]; omega, by rw [join_S]; exact q H3 (e2.trans e3)⟩⟩
/-! ### further loops -/
section
variable {D : Ends} {tu : TS}
theorem s_forRev {j : Nat} {n : Nat} (h : Ev ta σ H (.int (n : Int))) (hn : n ≤ 100000) (Pv : Nat → L2.St → Hp → Prop) (h0 : ∀ H1, Ex H H1 → Pv 0 σ H1)
    (hs : ∀ i σ' H', i < n → Pv i σ' H' → tu { D with nx := Pv (i + 1), ct := Pv (i + 1), bk := D.nx } (σ'.set j (some (.int ((n - 1 - i : Nat) : Int)))) H') (hd : ∀ σ' H', Pv n σ' H' → D.nx σ' H') :
    tFor (iRevR (tRg1 ta)) (gName j) tu D σ H :=
  h H (Ex.refl H) _ fun H1 e => ⟨(n : Int), rfl, by decide, by decide, by omega, by omega, by
    have e0 : ((n : Int) - 0).toNat = n := by omega
    rw [e0]
    refine for_rangeC Pv (h0 H1 e) (fun i σ' H' hi p => ?_) hd
    have e1 : (0 : Int) + (n : Int) - 1 + (i : Int) * (-1) = ((n - 1 - i : Nat) : Int) := by omega
    show tu _ (σ'.set j (some (.int ((0 : Int) + (n : Int) - 1 + (i : Int) * (-1))))) H'
    rw [e1]
    exact hs i σ' H' hi p⟩
theorem s_forEnum {i1 i2 : Nat} {a : Addr} {xs : List V} (h : Ev ta σ H (.ref a)) (hx : SqL K H a xs) (Pv : Nat → L2.St → Hp → Prop) (h0 : ∀ H1, Ex H H1 → Pv 0 σ H1) (hl : ∀ i σ' H', Pv i σ' H' → SqL K H' a xs)
    (hm : ∀ i σ' H' H'', Pv i σ' H' → Ex H' H'' → Pv i σ' H'')
    (hs : ∀ i x σ' H', xs[i]? = some x → Pv i σ' H' → tu { D with nx := Pv (i + 1), ct := Pv (i + 1), bk := D.nx } ((σ'.set i1 (some (.int (i : Int)))).set i2 (some x)) H') (hd : ∀ σ' H', Pv xs.length σ' H' → D.nx σ' H') :
    tFor (iEnum K (tCons ta tNil)) (gTup K 2 (gCons (gName i1) (gCons (gName i2) gNil))) tu D σ H :=
  h H (Ex.refl H) _ fun H1 e => ⟨a, xs, rfl, ex_l e hx, fun i m σ' H' => Pv i σ' H' ∧ i + m = xs.length, ⟨xs.length, h0 H1 e, by omega⟩, fun i m σ' H' hw => by
    obtain ⟨p, em⟩ := hw
    rcases Nat.lt_or_ge i xs.length with hi | hi
    · have hx' : xs[i]? = some xs[i] := List.getElem?_eq_getElem hi
      refine .inr ⟨⟨xs, xs[i], hl i σ' H' p, hx'⟩, Pv (i + 1), fun σ2 H2 p2 => ⟨m - 1, by omega, p2, by omega⟩, fun x H2 hy => ?_⟩
      obtain ⟨T, y, rfl, nT, rfl, f⟩ := hy
      have ey : y = xs[i] := Option.some.inj ((f xs (hl i σ' H' p)).symm.trans hx')
      subst ey
      refine ⟨T, [.int (i : Int), xs[i]], rfl, st_of upd_same, rfl, _, _, rfl, _, _, rfl, rfl, ?_⟩
      exact hs i xs[i] σ' _ hx' (hm i σ' H' _ p (Ex.new nT))
    · have ei : i = xs.length := by omega
      subst ei
      exact .inl ⟨⟨xs, hl _ σ' H' p, Nat.le_refl _⟩, hd σ' H' p⟩⟩
variable {tz : TS}
theorem q_forRev {j : Nat} {n : Nat} (h : Ev ta σ H (.int (n : Int))) (hn : n ≤ 100000) (Pv : Nat → L2.St → Hp → Prop) (h0 : ∀ H1, Ex H H1 → Pv 0 σ H1)
    (hs : ∀ i σ' H', i < n → Pv i σ' H' → tu { D with nx := Pv (i + 1), ct := Pv (i + 1), bk := tz D } (σ'.set j (some (.int ((n - 1 - i : Nat) : Int)))) H') (hd : ∀ σ' H', Pv n σ' H' → tz D σ' H') :
    tSeq (tFor (iRevR (tRg1 ta)) (gName j) tu) tz D σ H := s_forRev (D := { D with nx := tz D }) h hn Pv h0 hs hd
theorem q_forEnum {i1 i2 : Nat} {a : Addr} {xs : List V} (h : Ev ta σ H (.ref a)) (hx : SqL K H a xs) (Pv : Nat → L2.St → Hp → Prop) (h0 : ∀ H1, Ex H H1 → Pv 0 σ H1) (hl : ∀ i σ' H', Pv i σ' H' → SqL K H' a xs)
    (hm : ∀ i σ' H' H'', Pv i σ' H' → Ex H' H'' → Pv i σ' H'')
    (hs : ∀ i x σ' H', xs[i]? = some x → Pv i σ' H' → tu { D with nx := Pv (i + 1), ct := Pv (i + 1), bk := tz D } ((σ'.set i1 (some (.int (i : Int)))).set i2 (some x)) H') (hd : ∀ σ' H', Pv xs.length σ' H' → tz D σ' H') :
    tSeq (tFor (iEnum K (tCons ta tNil)) (gTup K 2 (gCons (gName i1) (gCons (gName i2) gNil))) tu) tz D σ H := s_forEnum (D := { D with nx := tz D }) h hx Pv h0 hl hm hs hd
/-- a list handed out by an own def, straight on -/
theorem q_dropS {tz : TS} (h : Ev te σ H x) (k : ∀ H1, Ex H H1 → tz D σ H1) : tSeq (tDrop te) tz D σ H := q_drop h k
theorem q_skip {t : TT} (h : EvT t σ H false) (k : ∀ H1, Ex H H1 → tz D σ H1) : tSeq (tIfS t tu tNext) tz D σ H := h H (Ex.refl H) _ fun H1 e => k H1 e
end
end
end Tr

set_option Elab.async false
set_option linter.all false
set_option maxRecDepth 100000
set_option maxHeartbeats 4000000
/-! TrD: dicts, lists of one kind compared, by Ev. -/
namespace Tr
open PySem PySem.Spec PyProof.Rows L2 Evl
section
variable {K : PySem.W.Frag} {σ : L2.St} {H H' : Hp} {ta tb te td ty tx' : TE} {t u : TT} {x y z v : V} {D : Ends} {tz tu : TS}
/-! ### dicts -/
theorem ev_dget {a : Addr} {kvs : List (Key × V)} {k : Key} (hd : Ev td σ H (.ref a)) (hi : Ev ty σ H (kV k)) (he : Rd H a (.dK kvs)) (hv : valV kvs k = some v) : Ev (tDGet td ty) σ H v := fun H1 e Q q =>
  hd H1 e _ fun H2 e2 => hi H2 (e.trans e2) _ fun H3 e3 => ⟨a, v, rfl, .inl ⟨kvs, k, ex_rd ((e.trans e2).trans e3) he, rfl, hv.symm⟩, q H3 (e2.trans e3)⟩
theorem ev_dget2 {a : Addr} {kvs : List (Key × V)} {k : Key} (hd : Ev td σ H (.ref a)) (hi : Ev ty σ H (kV k)) (hx : Ev tx' σ H x) (he : Rd H a (.dK kvs)) : Ev (tDGet2 td ty tx') σ H ((valV kvs k).getD x) := fun H1 e Q q =>
  hd H1 e _ fun H2 e2 => ⟨a, rfl, .inl ⟨kvs, ex_rd (e.trans e2) he⟩, hi H2 (e.trans e2) _ fun H3 e3 => hx H3 ((e.trans e2).trans e3) _ fun H4 e4 =>
    ⟨_, .inl ⟨kvs, k, ex_rd (((e.trans e2).trans e3).trans e4) he, rfl, rfl⟩, q H4 ((e2.trans e3).trans e4)⟩⟩
theorem ev_din {a : Addr} {kvs : List (Key × V)} {k : Key} (hi : Ev ty σ H (kV k)) (hd : Ev td σ H (.ref a)) (he : Rd H a (.dK kvs)) : Ev (tDIn ty td) σ H (.bl (valV kvs k).isSome) := fun H1 e Q q =>
  hi H1 e _ fun H2 e2 => hd H2 (e.trans e2) _ fun H3 e3 => ⟨a, _, rfl, .inl ⟨kvs, k, ex_rd ((e.trans e2).trans e3) he, rfl, rfl⟩, q H3 (e2.trans e3)⟩
theorem ev_dnotin {a : Addr} {kvs : List (Key × V)} {k : Key} (hi : Ev ty σ H (kV k)) (hd : Ev td σ H (.ref a)) (he : Rd H a (.dK kvs)) : Ev (tDNotIn ty td) σ H (.bl (!(valV kvs k).isSome)) := fun H1 e Q q =>
  hi H1 e _ fun H2 e2 => hd H2 (e.trans e2) _ fun H3 e3 => ⟨a, _, rfl, .inl ⟨kvs, k, ex_rd ((e.trans e2).trans e3) he, rfl, rfl⟩, q H3 (e2.trans e3)⟩
theorem s_dput {a : Addr} {kvs : List (Key × V)} {k : Key} {tv : TE} (hk : H a = some (.dK kvs)) (hv : Ev tv σ H v) (hd : Ev td σ H (.ref a)) (hi : Ev ty σ H (kV k)) (hz : kvs.length < 100000)
    (q : ∀ H1, Ex H H1 → D.nx σ (upd H1 a (.dK (putK kvs k v)))) : sDPut td ty tv D σ H := hv H (Ex.refl H) _ fun H1 e1 => hd H1 e1 _ fun H2 e2 => hi H2 (e1.trans e2) _ fun H3 e3 =>
  ⟨a, _, rfl, DPut.k (((e1.trans e2).trans e3) a _ hk) (sz_lt hz), q H3 ((e1.trans e2).trans e3)⟩
theorem q_dput {a : Addr} {kvs : List (Key × V)} {k : Key} {tv : TE} (hk : H a = some (.dK kvs)) (hv : Ev tv σ H v) (hd : Ev td σ H (.ref a)) (hi : Ev ty σ H (kV k)) (hz : kvs.length < 100000)
    (q : ∀ H1, Ex H H1 → tz D σ (upd H1 a (.dK (putK kvs k v)))) : tSeq (sDPut td ty tv) tz D σ H := s_dput (D := { D with nx := tz D }) hk hv hd hi hz q
theorem putK_len {κ : Type} [DecidableEq κ] (kvs : List (κ × V)) (k : κ) (v : V) : (putK kvs k v).length ≤ kvs.length + 1 := by
  unfold putK
  split
  · rw [List.length_map]; omega
  · rw [List.length_append]; simp
/-- x = {k: v} -/
theorem q_asgD1 {i : Nat} {k : Key} {tk tv : TE} (hk : Ev tk σ H (kV k)) (hv : Ev tv σ H v) (q : ∀ p H1, H p = none → Ex H H1 → H1 p = some (.dK [(k, v)]) → tz D (σ.set i (some (.ref p))) H1) : tSeq (tAsg (tDisp [(tk, tv)]) (gName i)) tz D σ H := fun p hp => by
  have e0 : Ex H (upd H p (.dK [])) := Ex.new hp
  refine hk _ e0 _ fun H2 e2 => hv H2 (e0.trans e2) _ fun H3 e3 => ?_
  have ep : H3 p = some (.dK []) := (e2.trans e3) p _ upd_same
  refine ⟨ep, [(k, v)], rfl, by simp, ?_⟩
  have em : mergeK [] [(k, v)] = [(k, v)] := by simp [mergeK, putK]
  rw [em]
  exact q p _ hp (Ex.mut ((e0.trans e2).trans e3) hp) upd_same
/-- x = {} -/
theorem q_asgD0 {i : Nat} (q : ∀ p, H p = none → tz D (σ.set i (some (.ref p))) (upd H p (.dK []))) : tSeq (tAsg tDNewK (gName i)) tz D σ H := fun p hp => q p hp
/-- if t: xs.append(e) -/
theorem q_ifApp {b : Bool} {l : Addr} {xs : List V} (hl : H l = some (.lst xs)) (h : EvT t σ H b) (ha : Ev ta σ H (.ref l)) (hx : b = true → Ev te σ H v) (hz : xs.length < 100000)
    (k : ∀ H0, Ex H H0 → tz D σ (upd H0 l (.lst (if b = true then xs ++ [v] else xs)))) : tSeq (tIfS t (tDrop (tBM K "list" rAppend ta (tCons te tNil))) tNext) tz D σ H := by
  refine q_when h (fun hb H1 e1 => ?_) (fun hb H1 e1 => ?_)
  · refine s_app (e1 l _ hl) (ha.mono e1) ((hx hb).mono e1) hz fun H2 e2 => ?_
    have := k H2 (e1.trans e2)
    rw [if_pos hb] at this
    exact this
  · have := k H1 e1
    rw [if_neg (by rw [hb]; decide)] at this
    have e : upd H1 l (.lst xs) = H1 := by
      funext a
      by_cases ha : a = l
      · subst ha; rw [upd_same, e1 _ _ hl]
      · rw [upd_ne ha]
    rw [e] at this
    exact this
/-! ### a value that is a list by now -/
def EvQ (K : PySem.W.Frag) (te : TE) (σ : L2.St) (H : Hp) (xs : List V) : Prop := ∀ H1, Ex H H1 → ∀ Q : VK, (∀ p H2, Ex H1 H2 → SqL K H2 p xs → Q (.ref p) H2) → te σ H1 Q
theorem eq_at {p : Addr} {xs : List V} (h : Ev te σ H (.ref p)) (hs : SqL K H p xs) : EvQ K te σ H xs := fun H1 e Q q => h H1 e _ fun H2 e2 => q p H2 e2 (ex_l (e.trans e2) hs)
theorem eq_new {xs : List V} (h : EvL te σ H xs) : EvQ K te σ H xs := fun H1 e Q q => h H1 e _ fun p H2 _ e2 h2 => q p H2 e2 (sq_of h2)
theorem EvQ.mono {xs : List V} (e : Ex H H') (h : EvQ K te σ H xs) : EvQ K te σ H' xs := fun H1 a Q q => h H1 (e.trans a) Q q
/-! ### data of one kind -/
structure Enc {α : Type} [DecidableEq α] (φ : α → V) (δ : α → PyData) (ok : α → Prop) : Prop where
  dp : ∀ (K : PySem.W.Frag) (H : Hp) a, Dp K H (φ a) (δ a)
  lay : ∀ a, ok a → (δ a).canLay0 = true
  depth : ∀ a, (δ a).depth = 0
  eqv : ∀ a b, PyData.eqv (δ a) (δ b) = decide (a = b)
theorem enc_int : Enc V.int PyData.int (fun _ => True) := ⟨fun _ _ i => .int i, fun _ _ => by simp [PyData.canLay0], fun _ => by simp [PyData.depth], fun a b => by
  simp only [PyData.eqv]; by_cases h : a = b <;> simp [h]⟩
theorem enc_bl : Enc V.bl PyData.bool (fun _ => True) := ⟨fun _ _ i => .bl i, fun _ _ => by simp [PyData.canLay0], fun _ => by simp [PyData.depth], fun a b => by
  simp only [PyData.eqv]; by_cases h : a = b <;> simp [h]⟩
def okC (a : Wd) : Prop := ∀ c ∈ a, c < 0x110000
theorem enc_tx : Enc tx (fun a => PyData.str (S a)) okC := ⟨fun _ _ a => .str (S a), fun a h => by
    rw [PyData.canLay0]
    unfold PyData.strOk
    rw [Array.all_eq_true_iff_forall_mem]
    intro c hc
    exact decide_eq_true (h c (by simpa [S] using hc)), fun _ => by simp [PyData.depth], fun a b => by
  simp only [PyData.eqv]
  by_cases h : a = b
  · subst h; simp
  · have : ¬ S a = S b := fun e => h (S_inj e)
    simp [h, this]⟩
section
variable {α : Type} [DecidableEq α] {φ : α → V} {δ : α → PyData} {ok : α → Prop}
theorem enc_all (E : Enc φ δ ok) (K : PySem.W.Frag) (H : Hp) : ∀ xs : List α, DpAll K H (xs.map φ) (xs.map δ)
  | [] => .nil
  | x :: xs => .cons (E.dp K H x) (enc_all E K H xs)
theorem enc_lay (E : Enc φ δ ok) : ∀ xs : List α, (∀ x ∈ xs, ok x) → PyData.canLayAll0 (xs.map δ) = true
  | [], _ => by simp [PyData.canLayAll0]
  | x :: xs, h => by
    rw [List.map_cons, PyData.canLayAll0, E.lay x (h x (by simp)), enc_lay E xs fun y hy => h y (by simp [hy])]
    rfl
theorem enc_depth (E : Enc φ δ ok) : ∀ xs : List α, PyData.depthAll (xs.map δ) = 0
  | [] => by simp [PyData.depthAll]
  | x :: xs => by
    rw [List.map_cons, PyData.depthAll, E.depth x, enc_depth E xs]
    rfl
theorem enc_eqv (E : Enc φ δ ok) : ∀ xs ys : List α, PyData.eqvAll (xs.map δ) (ys.map δ) = decide (xs = ys)
  | [], [] => by simp [PyData.eqvAll]
  | [], _ :: _ => by simp [PyData.eqvAll]
  | _ :: _, [] => by simp [PyData.eqvAll]
  | x :: xs, y :: ys => by
    rw [List.map_cons, List.map_cons, PyData.eqvAll, E.eqv x y, enc_eqv E xs ys]
    by_cases h1 : x = y <;> by_cases h2 : xs = ys <;> simp [h1, h2]
theorem enc_shaped (E : Enc φ δ ok) (xs : List α) (h : ∀ x ∈ xs, ok x) : SeqAt.shaped (.list (xs.map δ)) = true := by
  unfold SeqAt.shaped
  rw [PyData.canLay0, enc_lay E xs h, PyData.depth, enc_depth E xs]
  rfl
theorem rv_eqLs {a b : Addr} {xs ys : List α} (E : Enc φ δ ok) (ha : SqL K H a (xs.map φ)) (hb : SqL K H b (ys.map φ)) (h1 : ∀ x ∈ xs, ok x) (h2 : ∀ x ∈ ys, ok x) : RV (rEqD K) (.ref a) (.ref b) H (.bl (decide (xs = ys))) := fun H1 e Q q =>
  ⟨.list (xs.map δ), .list (ys.map δ), .lst (ex_l e ha) (enc_all E K H1 xs), .lst (ex_l e hb) (enc_all E K H1 ys), enc_shaped E xs h1, enc_shaped E ys h2, by
    rw [PyData.eqv, enc_eqv E xs ys]
    exact q H1 (Ex.refl H1)⟩
theorem rv_neLs {a b : Addr} {xs ys : List α} (E : Enc φ δ ok) (ha : SqL K H a (xs.map φ)) (hb : SqL K H b (ys.map φ)) (h1 : ∀ x ∈ xs, ok x) (h2 : ∀ x ∈ ys, ok x) : RV (rNeD K) (.ref a) (.ref b) H (.bl (!decide (xs = ys))) := fun H1 e Q q =>
  ⟨.list (xs.map δ), .list (ys.map δ), .lst (ex_l e ha) (enc_all E K H1 xs), .lst (ex_l e hb) (enc_all E K H1 ys), enc_shaped E xs h1, enc_shaped E ys h2, by
    rw [PyData.eqv, enc_eqv E xs ys]
    exact q H1 (Ex.refl H1)⟩
theorem ev_eqQ {xs ys : List α} (E : Enc φ δ ok) (ha : EvQ K ta σ H (xs.map φ)) (hb : EvQ K tb σ H (ys.map φ)) (h1 : ∀ x ∈ xs, ok x) (h2 : ∀ x ∈ ys, ok x) : Ev (tOp (rEqD K) ta tb) σ H (.bl (decide (xs = ys))) := fun H1 e Q q =>
  ha H1 e _ fun p H2 e2 s2 => hb H2 (e.trans e2) _ fun p3 H3 e3 s3 => rv_eqLs E (ex_l e3 s2) s3 h1 h2 H3 (Ex.refl H3) Q fun H4 e4 => q H4 ((e2.trans e3).trans e4)
theorem ev_neQ {xs ys : List α} (E : Enc φ δ ok) (ha : EvQ K ta σ H (xs.map φ)) (hb : EvQ K tb σ H (ys.map φ)) (h1 : ∀ x ∈ xs, ok x) (h2 : ∀ x ∈ ys, ok x) : Ev (tOp (rNeD K) ta tb) σ H (.bl (!decide (xs = ys))) := fun H1 e Q q =>
  ha H1 e _ fun p H2 e2 s2 => hb H2 (e.trans e2) _ fun p3 H3 e3 s3 => rv_neLs E (ex_l e3 s2) s3 h1 h2 H3 (Ex.refl H3) Q fun H4 e4 => q H4 ((e2.trans e3).trans e4)
end
/-- a new list of what follows -/
theorem el_lst0 : EvL (tLst tNil) σ H [] := el_lst ea_nil (by simp)
end
end Tr

set_option Elab.async false
set_option linter.all false
set_option maxRecDepth 100000
set_option maxHeartbeats 4000000
/-! TrH: any(list) and isinstance within an except suite. -/
namespace Tr
open PySem PySem.Spec PyProof.Rows L2 Evl HotX L2H
section
variable {prog : Program} {w : World} {A : Around} {E : Value → Shared → Prop} {s : Shared}
theorem list_end_hot {it l x1 : Addr} {i : Nat} {items : Array Value} {Q : Option Value → Shared → Prop} (hot : HotAt A x1 s.heap) (hne : it ≠ x1)
    (hit : s.heap.IsListIter it l i) (hl : s.heap.IsList l items) (hx : items[i]? = none)
    (hQ : ∀ h', Heap.ExtBut it s.heap h' → Q none { s with heap := h' }) : wpAny (model prog w) A (pyNext (.ref it)) Q E s := by
  obtain ⟨o, ho, hc, hd⟩ := id hit
  obtain ⟨ol, hol, _, nl, hdl⟩ := hl
  obtain ⟨hh, o1, vs1, h1, d1, c1⟩ := hot
  unfold pyNext
  refine wpAny_bind (wpAny_attempt (wpAny_callSpecial?_slot (name := Str.ofString "__next__") hit.typeIs slot_listiter_next
    (wpAny_call_entry slot_listiter_next hit.typeIs entry_listiter_next ?_ (args_listiter_next _))))
  show wpAny _ _ (field (.ref it) 0 >>= _) _ _ s
  refine wpAny_bind (wpAny_field ho hd (x := .ref l) rfl ?_)
  show wpAny _ _ (if (Value.ref l == Value.none) = true then _ else _) _ _ s
  rw [if_neg (show ¬ ((Value.ref l == Value.none) = true) from Bool.false_ne_true)]
  show wpAny _ _ (field (.ref it) 1 >>= _) _ _ s
  refine wpAny_bind (wpAny_field ho hd (x := .int i 0) rfl ?_)
  show wpAny _ _ (seqItems? (.ref l) >>= _) _ _ s
  refine wpAny_bind (wpAny_seqItems hol hdl ?_)
  simp only [Int.toNat_natCast, hx]
  refine wpAny_bind (wpAny_rule (wpAny_bind (wpAny_setField ho hd (by simp) ?_)))
  have h1' : (s.heap.update it (Obj.mapFields (·.setIfInBounds 0 Value.none))).get? x1 = some o1 := by
    rw [Heap.get?_update_other _ _ hne]; exact h1
  have sb : Heap.ExtBut it s.heap (s.heap.update it (Obj.mapFields (·.setIfInBounds 0 Value.none))) := (Heap.SameBut.update ..).extBut
  generalize s.heap.update it (Obj.mapFields (·.setIfInBounds 0 Value.none)) = hp at *
  show wpAny _ _ (newExc (.type "StopIteration") [] >>= _) _ _ _
  refine wpAny_bind ?_
  simp only [newExc, newTuple]
  refine wpAny_bind (wpAny_newObj_type ?_ (by size_fits))
  refine wpAny_bind (m := firstArgMember _ _) (wpAny_of_eq (a := Value.none) (by first | rfl | (simp only [firstArgMember]; rfl)) ?_)
  refine wpAny_newObj_type ?_ (by size_fits)
  refine raiseNew_hot ⟨hh, o1, vs1, Heap.get?_push_of_some _ (Heap.get?_push_of_some _ h1'), d1, c1⟩ (Nat.ne_of_lt (Heap.lt_size (Heap.get?_push_of_some _ h1'))) (Heap.get?_push_size _ rfl) rfl (by first | (simp; done) | (simp; omega) | (simp only [Array.size_append]; simp; omega)) ?_
  refine wpAny_bind (wpAny_isInstance (T := "StopIteration") (b := true) ⟨_, Heap.get?_update_self _ (Heap.get?_push_size _ rfl) rfl, rfl⟩ isSubtype_stop ?_)
  refine wpAny_pure (hQ _ fun b o hb e => ?_)
  have e2 := sb b o hb e
  rw [Heap.get?_update_other _ _ (Nat.ne_of_gt (Heap.lt_size (Heap.get?_push_of_some _ e2)))]
  exact Heap.get?_push_of_some _ (Heap.get?_push_of_some _ e2)
theorem walks_listHot (x1 : Addr) (hA : A.handled = some (.ref x1)) (I ax : Addr) (hne : ax ≠ I) (hI : I ≠ x1) (items : Array Value) :
    Walks prog w A I [I, ax, x1] [I] items.size (fun i v => items[i]? = some v) (fun i h => h.IsListIter I ax i ∧ h.IsList ax items ∧ HotAt A x1 h) where
  sub := fun b hb => by simp at hb; simp [hb]
  frame := fun _ _ _ st hk => ⟨st.1.at fun o e => hk I (by simp) o e, st.2.1.at fun o e => hk ax (by simp) o e, by
    obtain ⟨hh, o1, vs1, h1, d1, c1⟩ := st.2.2
    exact ⟨hh, o1, vs1, hk x1 (by simp) _ h1, d1, c1⟩⟩
  item := fun i s Q E hi st hQ => by
    refine wpAny_pyNext_list_item st.1 st.2.1 (x := items[i]) (by simp [hi]) fun h' hit' hs' => ?_
    refine hQ _ h' s.toks (by simp [hi]) ⟨hit', st.2.1.extBut hs'.extBut hne, ?_⟩ fun b o hb e => hs'.extBut b o (fun h => hb (by simp [h])) e
    obtain ⟨hh, o1, vs1, h1, d1, c1⟩ := st.2.2
    exact ⟨hh, o1, vs1, hs'.extBut x1 o1 (Ne.symm hI) h1, d1, c1⟩
  done := fun s Q E st hQ => list_end_hot st.2.2 hI st.1 st.2.1 (by simp) fun h' he' => hQ h' s.toks fun b o hb e => he' b o (fun h => hb (by simp [h])) e
  self := fun _ _ _ _ st hQ => wpAny_pyIter_listiter st.1 hQ
end
theorem cr_anyH {X : Cx} {K : PySem.W.Frag} (hK : X.K = K) (c : HotC X) : CallR X (.builtin "any") (rAny K) := by
  subst hK
  intro pins s σ H vs us Q I r h
  obtain ⟨a, bs, rfl, hs, q⟩ := h
  obtain ⟨its, rv, hl, _⟩ := I.list hs
  obtain ⟨x1, hh, o1, vs1, h1, d1, c1⟩ := c.at I
  rw [Vals.ref1 r]
  have hb := rv.bls
  refine call_any_walk (iter_any hl.isList fun s₂ e2 st hne => ?_)
  subst e2
  have hI : s.heap.objs.size ≠ x1 := Nat.ne_of_gt (Heap.lt_size h1)
  refine ⟨_, _, _, _, _, _, _, rfl, walks_listHot (A := X.A.in1) x1 hh _ a hne hI its.toArray, ⟨st.1, st.2, hh, o1, vs1, Heap.get?_push_of_some _ h1, d1, c1⟩, truth_bools hb, fun h' tk hk => ?_⟩
  refine ⟨.bl _, H, I.kept fun b o eo => hk b o (fun hmem => ?_) (Heap.get?_push_of_some _ eo), ?_, q⟩
  · rcases List.mem_cons.mp hmem with e1 | hmem
    · exact absurd (e1 ▸ Heap.lt_size eo) (Nat.lt_irrefl _)
    · cases hmem
  · show Value.bool _ = Value.bool _
    rw [← L2.any_range, hb, List.size_toArray, List.length_map]
/-! ### isinstance of what the suite has caught -/
theorem hotC_of {X : Cx} {a : Addr} {oe : Obj} {cls : Value} {d : Option Addr} {pn : List (Addr × Obj)} (hz : L2N.Zn cls d oe) (hf : ∃ vs, oe.data = .fields vs) : HotC (X.suite a ((a, oe) :: pn)) := by
  obtain ⟨vs, hv⟩ := hf
  exact ⟨(a, oe), ⟨rfl, vs, hv, hz.2.2 vs hv⟩, List.mem_cons_self⟩
def rIsA (K : PySem.W.Frag) (cls : Value) (d : Option Addr) (a : Addr) : List V → Hp → VK → Prop := fun xs H Q => ∃ (D : Addr) (c : V) (cv : Value) (b : Bool), cls = .ref D ∧ d = none ∧ ExcC K D ∧ xs = [.ref a, c] ∧ (∀ u, RelV c u → u = cv) ∧ PySem.W.kitOne K (.ref D) cv = some b ∧ Q (.bl b) H
theorem call_isA {X : Cx} {K : PySem.W.Frag} {a : Addr} {oe : Obj} {cls : Value} {d : Option Addr} {pn : List (Addr × Obj)} (hK : X.K = K) (hz : L2N.Zn cls d oe) (hf : ∃ vs, oe.data = .fields vs) : CallR (X.suite a ((a, oe) :: pn)) (.builtin "isinstance") (rIsA K cls d a) := by
  subst hK
  intro pins s σ H xs us Q I r h
  obtain ⟨D, c, cv, b, rfl, rfl, C, e, h1, h2, q⟩ := h
  exact call_isE C hz.zc hf pins s σ H xs us Q I r ⟨c, cv, b, e, h1, h2, q⟩
section
variable {K : PySem.W.Frag} {σ : L2.St} {H : Hp} {ta tb : TE}
theorem ev_isA {D a : Addr} {c : V} {cv : Value} {b : Bool} (C : ExcC K D) (ha : Ev ta σ H (.ref a)) (hc : Ev tb σ H c) (hv : ∀ u, RelV c u → u = cv) (e : PySem.W.kitOne K (.ref D) cv = some b) : Ev (tCB (rIsA K (.ref D) none a) (tCons ta (tCons tb tNil))) σ H (.bl b) := fun H1 e1 Q q =>
  ha H1 e1 _ fun H2 e2 => hc H2 (e1.trans e2) _ fun H3 e3 => ⟨D, c, cv, b, rfl, rfl, C, rfl, hv, e, q H3 (e2.trans e3)⟩
theorem ev_anyA {bs : List Bool} {p : Addr} (h : Ev ta σ H (.ref p)) (hs : SqL K H p (bs.map V.bl)) : Ev (tCB (rAny K) (tCons ta tNil)) σ H (.bl (bs.any id)) := fun H1 e Q q =>
  h H1 e _ fun H2 e2 => ⟨p, bs, rfl, ex_l (e.trans e2) hs, q H2 e2⟩
/-- try: f(..) except c as n: what f raises, of one class alone, is caught -/
theorem q_tryCall {sp : Sp} {tz : TS} {ta : TA} {vs : List V} {c : Value} {i : Nat} {ts : Addr → Value → Option Addr → TS} {Wout : WX} {D : Ends} (C : Addr) (ha : EvA ta σ H vs) (hc : PySem.W.exmOne K (.ref C) c = some true)
    (h : ∀ H1, Ex H H1 → ∀ (Q : VK) (E : XK), (∀ H2, Ex H1 H2 → E (.ref C) none H2) → sp vs H1 Q E)
    (k : ∀ H1, Ex H H1 → ∀ a, H1 a = none → ts a (.ref C) none { nx := fun σ' H' => tz D (σ'.set i none) H', rt := D.rt, bk := fun σ' H' => D.bk (σ'.set i none) H', ct := fun σ' H' => D.ct (σ'.set i none) H' } (σ.set i (some (.ref a))) H1) :
    tSeq (fun D σ H => tDrop (tCallS sp (WE (wAs K c i ts Wout D)) ta) D σ H) tz D σ H := ha H (Ex.refl _) _ fun H1 e1 => h H1 e1 _ _ fun H2 e2 =>
  ⟨true, hc, fun _ a na => k H2 (e1.trans e2) a na, fun z => nomatch z⟩
end
end Tr

set_option Elab.async false
set_option linter.all false
set_option maxRecDepth 100000
set_option maxHeartbeats 4000000
/-! TrE: values told by a property (EvP), calls of what an expression gives, raising calls within a try. -/
namespace Tr
open PySem PySem.Spec PyProof.Rows L2 Evl
/-! ### a call f(e, ..) where f is a subscript -/
theorem arm_call_sub (a b : Expr) (sp : Pos) (args : List Expr) (keywords : List Keyword) (pos : Pos) (env : Env) : eval (.Call (.Subscript a b sp) args keywords pos) env = (do
    callWith pos (← eval (.Subscript a b sp) env) [] (backTo pos (starEach args env)) (backToKw pos (keywordEach keywords env))) := rfl
structure HeldE (P : Program) (w : World) (K : PySem.W.Frag) (mg : Str → Option Value) (base : Heap) (j : Nat) (f : Addr) (sp : Sp) : Prop where
  ex : ∃ (k : Nat) (fd : FuncData) (ps : List Str), k ≤ j ∧ FnOk P w K mg base (L2N.CX P w) k f fd ps sp ∧ PySem.W.keepIn K (.ref f) = true ∧ Binds K fd ps []
def tCallE (HD : Addr → Sp → Prop) (E : XK) (tf : TE) (t : TA) : TE := fun σ H Q => tf σ H fun v H1 => ∃ f sp, v = .ref f ∧ HD f sp ∧ t σ H1 fun vs H2 => sp vs H2 Q E
section
variable {X : Cx} {j : Nat} {p pos spos : Pos} {a b e : Expr} {es : List Expr} {t : TA} {tf : TE}
theorem pe_callE {E : XK} (tk : L2N.Takes X fun cls d _ H => E cls d H) (hr : Room j X.A) (hf : PE X (.Subscript a b spos) tf) (ha : PA X (e :: es) t)
    (he : starEach (e :: es) X.env = (false, eval e X.env) :: starEach es X.env := by rfl) (hpl : (backTo pos (starEach es X.env)).any (·.1) = false := by rfl) :
    PE X (.Call (.Subscript a b spos) (e :: es) [] pos) (tCallE (HeldE X.prog X.w X.K X.mg X.base j) E tf t) := by
  refine ⟨fun pins s σ H Q I h => ?_⟩
  rw [arm_call_sub]
  refine wpAny_bind (thn (hf.run pins s σ H _ I h) fun u s1 ⟨v, H1, I1, r1, f, sp, ev, hd, ht⟩ => ?_)
  subst ev
  cases r1
  obtain ⟨k, fd, ps, hkj, F, hk, hb⟩ := hd.ex
  refine PySem.W.callWith_K (h₀ := X.base) I1.ok.mod.kin hk (thn (ha.run pos pins s1 σ H1 _ I1 ht) fun us s2 ⟨vs, H2, I2, r, q⟩ => ⟨I2.kIn, ?_⟩) he hpl
  exact run_fn F (hr.mono hkj) hb .nil (L2N.passes_call tk fun _ _ _ _ h => h) I2 r (by rw [List.append_nil]; exact q)
end
section
variable {K : PySem.W.Frag} {σ : L2.St} {H H' : Hp} {ta tb te : TE} {t tr : TA} {v : V} {D : Ends} {tz : TS} {B C : Hp → V → Prop}
/-! ### values told by a property -/
def EvP (te : TE) (σ : L2.St) (H : Hp) (B : Hp → V → Prop) : Prop := ∀ H1, Ex H H1 → ∀ Q : VK, (∀ v H2, Ex H1 H2 → B H2 v → Q v H2) → te σ H1 Q
def EvAQ (ta : TA) (σ : L2.St) (H : Hp) (B : Hp → List V → Prop) : Prop := ∀ H1, Ex H H1 → ∀ Q : List V → Hp → Prop, (∀ vs H2, Ex H1 H2 → B H2 vs → Q vs H2) → ta σ H1 Q
def Up {α : Type} (B : Hp → α → Prop) : Prop := ∀ H H' v, Ex H H' → B H v → B H' v
theorem EvP.mono (e : Ex H H') (h : EvP te σ H B) : EvP te σ H' B := fun H1 a Q q => h H1 (e.trans a) Q q
theorem ep_ev (h : Ev te σ H v) (hb : ∀ H1, Ex H H1 → B H1 v) : EvP te σ H B := fun H1 e Q q => h H1 e _ fun H2 e2 => q v H2 e2 (hb H2 (e.trans e2))
theorem ep_el {xs : List V} (h : EvL te σ H xs) (hb : ∀ p H1, Ex H H1 → H1 p = some (.lst xs) → B H1 (.ref p)) : EvP te σ H B := fun H1 e Q q => h H1 e _ fun p H2 _ e2 hp => q _ H2 e2 (hb p H2 (e.trans e2) hp)
theorem ep_eu {xs : List V} (h : EvU te σ H xs) (hb : ∀ p H1, Ex H H1 → H1 p = some (.tup xs) → B H1 (.ref p)) : EvP te σ H B := fun H1 e Q q => h H1 e _ fun p H2 _ e2 hp => q _ H2 e2 (hb p H2 (e.trans e2) hp)
theorem ep_weak (h : EvP te σ H B) (hb : ∀ H1 v, Ex H H1 → B H1 v → C H1 v) : EvP te σ H C := fun H1 e Q q => h H1 e _ fun v H2 e2 b => q v H2 e2 (hb H2 v (e.trans e2) b)
theorem eaq_weak {B C : Hp → List V → Prop} (h : EvAQ t σ H B) (hb : ∀ H1 v, Ex H H1 → B H1 v → C H1 v) : EvAQ t σ H C := fun H1 e Q q => h H1 e _ fun v H2 e2 b => q v H2 e2 (hb H2 v (e.trans e2) b)
theorem eaq_nil : EvAQ tNil σ H (fun _ vs => vs = []) := fun H1 _ Q q => q [] H1 (Ex.refl H1) rfl
theorem eaq_cons {P : Hp → List V → Prop} (u : Up B) (h : EvP te σ H B) (hr : EvAQ tr σ H P) : EvAQ (tCons te tr) σ H (fun H vs => ∃ v r, vs = v :: r ∧ B H v ∧ P H r) := fun H1 e Q q =>
  h H1 e _ fun v H2 e2 b => hr H2 (e.trans e2) _ fun vs H3 e3 hp => q _ H3 (e2.trans e3) ⟨v, vs, rfl, u _ _ _ e3 b, hp⟩
/-- n items, each of them so -/
def LB (n : Nat) (C : Hp → V → Prop) : Hp → V → Prop := fun H v => ∃ p vs, v = .ref p ∧ H p = some (.lst vs) ∧ vs.length = n ∧ ∀ u ∈ vs, C H u
def TB (n : Nat) (C : Hp → V → Prop) : Hp → V → Prop := fun H v => ∃ p vs, v = .ref p ∧ H p = some (.tup vs) ∧ vs.length = n ∧ ∀ u ∈ vs, C H u
def AB (n : Nat) (C : Hp → V → Prop) : Hp → List V → Prop := fun H vs => vs.length = n ∧ ∀ u ∈ vs, C H u
theorem up_LB {n : Nat} (u : Up C) : Up (LB n C) := fun H H' v e ⟨p, vs, h1, h2, h3, h4⟩ => ⟨p, vs, h1, e p _ h2, h3, fun x hx => u _ _ _ e (h4 x hx)⟩
theorem ab_nil : EvAQ tNil σ H (AB 0 C) := eaq_weak eaq_nil fun H1 vs _ h => by subst h; exact ⟨rfl, by simp⟩
theorem ab_cons {n : Nat} (u : Up C) (h : EvP te σ H C) (hr : EvAQ tr σ H (AB n C)) : EvAQ (tCons te tr) σ H (AB (n + 1) C) := eaq_weak (eaq_cons u h hr) fun H1 vs _ ⟨v, r, e, hv, hl, hr⟩ => by
  subst e
  refine ⟨by rw [List.length_cons, hl], fun x hx => ?_⟩
  rcases List.mem_cons.mp hx with rfl | hx
  · exact hv
  · exact hr x hx
theorem ep_lst {n : Nat} (u : Up C) (h : EvAQ t σ H (AB n C)) (hn : n ≤ 100000) : EvP (tLst t) σ H (LB n C) := fun H1 e Q q =>
  h H1 e _ fun vs H2 e2 ⟨hl, hc⟩ => ⟨sz_of (by rw [hl]; exact hn), fun p hp => q _ _ (e2.trans (Ex.new hp)) ⟨p, vs, rfl, upd_same, hl, fun x hx => u _ _ _ (Ex.new hp) (hc x hx)⟩⟩
theorem ep_tup {n : Nat} (u : Up C) (h : EvAQ t σ H (AB n C)) (hn : n ≤ 100000) : EvP (tTup t) σ H (TB n C) := fun H1 e Q q =>
  h H1 e _ fun vs H2 e2 ⟨hl, hc⟩ => ⟨sz_of (by rw [hl]; exact hn), fun p hp => q _ _ (e2.trans (Ex.new hp)) ⟨p, vs, rfl, upd_same, hl, fun x hx => u _ _ _ (Ex.new hp) (hc x hx)⟩⟩
theorem ep_cat {n m : Nat} (u : Up C) (ha : EvP ta σ H (LB n C)) (hb : EvP tb σ H (LB m C)) (hz : n + m ≤ 100000) : EvP (tOp rCat ta tb) σ H (LB (n + m) C) := fun H1 e Q q =>
  ha H1 e _ fun v H2 e2 ⟨p, xs, e3, hp, hl, hx⟩ => hb H2 (e.trans e2) _ fun v2 H3 e4 ⟨p2, ys, e5, hp2, hl2, hy⟩ =>
    ⟨p, p2, xs, ys, e3, e5, e4 p _ hp, hp2, sz_of (by omega), fun r hr => q _ _ ((e2.trans e4).trans (Ex.new hr)) ⟨r, xs ++ ys, rfl, upd_same, by rw [List.length_append, hl, hl2], fun x hx' => by
      rcases List.mem_append.mp hx' with h | h
      · exact u _ _ _ (e4.trans (Ex.new hr)) (hx x h)
      · exact u _ _ _ (Ex.new hr) (hy x h)⟩⟩
theorem at_some {xs : List V} {i : Int} (h0 : 0 ≤ i) (h1 : i < (xs.length : Int)) : ∃ u, u ∈ xs ∧ atI xs i = some u := by
  have hl : i.toNat < xs.length := by omega
  refine ⟨xs[i.toNat], List.getElem_mem hl, ?_⟩
  have e : i = ((i.toNat : Nat) : Int) := by omega
  conv => lhs; rw [e]
  exact atI_nat (List.getElem?_eq_getElem hl)
theorem ep_pick {n : Nat} {i : Int} (u : Up C) (h : EvP te σ H (LB n C)) (hi : Ev tb σ H (.int i)) (h0 : 0 ≤ i) (h1 : i < (n : Int)) : EvP (tOp (rIxL K) te tb) σ H C := fun H1 e Q q =>
  h H1 e _ fun v H2 e2 ⟨p, vs, e3, hp, hl, hc⟩ => hi H2 (e.trans e2) _ fun H3 e4 => by
    obtain ⟨x, hx, ha⟩ := at_some (xs := vs) h0 (by omega)
    exact ⟨p, vs, i, x, e3, rfl, sq_of (e4 p _ hp), ha, q x H3 (e2.trans e4) (u _ _ _ e4 (hc x hx))⟩
theorem ep_pickT {n : Nat} {i : Int} (u : Up C) (h : EvP te σ H (TB n C)) (hi : Ev tb σ H (.int i)) (h0 : 0 ≤ i) (h1 : i < (n : Int)) : EvP (tOp (rIxT K) te tb) σ H C := fun H1 e Q q =>
  h H1 e _ fun v H2 e2 ⟨p, vs, e3, hp, hl, hc⟩ => hi H2 (e.trans e2) _ fun H3 e4 => by
    obtain ⟨x, hx, ha⟩ := at_some (xs := vs) h0 (by omega)
    exact ⟨p, vs, i, x, e3, rfl, st_of (e4 p _ hp), ha, q x H3 (e2.trans e4) (u _ _ _ e4 (hc x hx))⟩
/-- xs * k -/
theorem el_rep {xs : List V} {k : Int} (h : EvL ta σ H xs) (hi : Ev tb σ H (.int k)) (h0 : 0 ≤ k) (h1 : k ≤ 1000) (hz : xs.length ≤ 100) : EvL (tOp rRep ta tb) σ H (List.replicate k.toNat xs).flatten := fun H1 e Q q =>
  h H1 e _ fun p H2 np e2 hp => hi H2 (e.trans e2) _ fun H3 e3 => ⟨p, k, xs, rfl, rfl, e3 p _ hp, by omega, by omega, by
    have := Nat.mul_le_mul hz (show k.toNat ≤ 1000 by omega)
    exact sz_of (by omega), fun r hr => q r _ (fresh_back (e2.trans e3) hr) ((e2.trans e3).trans (Ex.new hr)) upd_same⟩
/-! ### statements -/
theorem q_asgP {i : Nat} (h : EvP te σ H B) (k : ∀ v H1, Ex H H1 → B H1 v → tz D (σ.set i (some v)) H1) : tSeq (tAsg te (gName i)) tz D σ H := h H (Ex.refl H) _ fun v H1 e b => k v H1 e b
theorem s_retC {sp : Sp} {E : XK} {P : Hp → List V → Prop} (ha : EvAQ t σ H P) (h : ∀ H1 vs, Ex H H1 → P H1 vs → sp vs H1 D.rt E) : tRet (tCall sp [] E t) D σ H := ha H (Ex.refl H) _ fun vs H1 e hp => by
  rw [List.append_nil]
  exact h H1 vs e hp
theorem s_retE {HD : Addr → Sp → Prop} {tf : TE} {E : XK} {F : V → Prop} {P : Hp → List V → Prop} (hf : EvP tf σ H (fun _ v => F v)) (ha : EvAQ t σ H P)
    (h : ∀ v, F v → ∃ f sp, v = .ref f ∧ HD f sp ∧ ∀ H1 vs, Ex H H1 → P H1 vs → sp vs H1 D.rt E) : tRet (tCallE HD E tf t) D σ H := hf H (Ex.refl H) _ fun v H1 e hv => by
  obtain ⟨f, sp, ev, hd, hs⟩ := h v hv
  exact ⟨f, sp, ev, hd, ha H1 e _ fun vs H2 e2 hp => hs H2 vs (e.trans e2) hp⟩
theorem s_dropC {sp : Sp} {E : XK} {vs : List V} (ha : EvA t σ H vs) (h : ∀ H1, Ex H H1 → sp vs H1 (fun _ H2 => D.nx σ H2) E) : tDrop (tCall sp [] E t) D σ H := ha H (Ex.refl H) _ fun H1 e => by
  rw [List.append_nil]
  exact h H1 e
theorem q_dropC {sp : Sp} {E : XK} {vs : List V} (ha : EvA t σ H vs) (h : ∀ H1, Ex H H1 → sp vs H1 (fun _ H2 => tz D σ H2) E) : tSeq (tDrop (tCall sp [] E t)) tz D σ H := s_dropC (D := { D with nx := tz D }) ha h
/-- within a try .. except c as n: what f raises, of one class alone, is caught -/
theorem s_callW {sp : Sp} {vs : List V} {c : Value} {i : Nat} {ts : Addr → Value → Option Addr → TS} {Wout : WX} {D D0 : Ends} (C : Addr) (ha : EvA t σ H vs) (hc : PySem.W.exmOne K (.ref C) c = some true)
    (h : ∀ H1, Ex H H1 → ∀ (Q : VK) (E : XK), (∀ H2, Ex H1 H2 → E (.ref C) none H2) → sp vs H1 Q E)
    (k : ∀ H1, Ex H H1 → ∀ a, H1 a = none → ts a (.ref C) none { nx := fun σ' H' => D0.nx (σ'.set i none) H', rt := D0.rt, bk := fun σ' H' => D0.bk (σ'.set i none) H', ct := fun σ' H' => D0.ct (σ'.set i none) H' } (σ.set i (some (.ref a))) H1) :
    tDrop (tCallS sp (WE (wAs K c i ts Wout D0)) t) D σ H := ha H (Ex.refl _) _ fun H1 e1 => h H1 e1 _ _ fun H2 e2 =>
  ⟨true, hc, fun _ a na => k H2 (e1.trans e2) a na, fun z => nomatch z⟩
end
end Tr

set_option Elab.async false
set_option linter.all false
set_option maxRecDepth 100000
set_option maxHeartbeats 4000000
/-! TrO: objects of own classes: made, asked for a field, their methods called. -/
namespace Tr
open PySem PySem.Spec PyProof.Rows L2 Evl
section
variable {P : Program} {w : World} {K : PySem.W.Frag} {mg : Str → Option Value} {base : Heap}
/-- a class whose instances are plain; isinstance of them -/
structure ClsI (K : PySem.W.Frag) (C : Addr) : Prop where
  cl : Cls K C
  ha : PySem.W.findIn K (.ref C) "__class__" = some (some (.builtin "object.__class__"))
  hn : PySem.W.specialIn K (.builtin "object.__class__") "__get__" = some (some (.builtin "getset_descriptor.__get__"))
  ht : PySem.W.takesIn K (.builtin "object.__class__") = some true
  hm : PySem.W.mroIn K C (.type "object") = some true
/-- a class that may be called -/
structure MkAt (P : Program) (w : World) (K : PySem.W.Frag) (mg : Str → Option Value) (base : Heap) (k : Nat) (x : Str) (C : Addr) (sp : Sp) : Prop where
  ex : ∃ (f : Addr) (fd : FuncData) (ps : List Str), FnOk P w K mg base (L2N.CX P w) k f fd ps sp ∧ Mk K C f ∧ Binds K fd ps []
  g : mg x = some (.ref C)
/-- a method -/
structure MCal (P : Program) (w : World) (K : PySem.W.Frag) (mg : Str → Option Value) (base : Heap) (k : Nat) (C : Addr) (m : Str) (sp : Sp) : Prop where
  ex : ∃ (f : Addr) (fd : FuncData) (ps : List Str), FnOk P w K mg base (L2N.CX P w) k f fd ps sp ∧ Meth K C m f ∧ Binds K fd ps []
  cl : Cls K C
structure IniAt (K : PySem.W.Frag) (C : Addr) (q : Str) (st : Stmt) (ps : List Str) : Prop where
  ex : ∃ (f : Addr) (fd : FuncData), Fun K "__init__" q st f fd ∧ Mk K C f ∧ Binds K fd ps []
structure MthAt (K : PySem.W.Frag) (C : Addr) (m q : Str) (st : Stmt) (ps : List Str) : Prop where
  ex : ∃ (f : Addr) (fd : FuncData), Fun K m q st f fd ∧ Meth K C m f ∧ Binds K fd ps []
theorem fnq_of {x qq : Str} {st : Stmt} {N ps : List Str} {k : Nat} {sp : Sp} {f : Addr} {fd : FuncData} (F : Fun K x qq st f fd) (S : FnScope N ps (defScope st)) (len : ∀ vs H Q E, sp vs H Q E → vs.length = ps.length)
    (hbody : ∀ (f : Addr) (cdv : Value) (A : Around) (outer : List Env) (s : Shared) (H : Hp) (vs : List V) (Q : VK) (E : XK), Room k (A.deeper (envOfC qq (defScope st) s.heap.objs.size f cdv)) → sp vs H Q E →
      ∃ t, PSs (cxOf (L2N.CX P w) P w K mg base N qq (defScope st) f cdv A outer s H E).nox (defBody st) t ∧ t { nx := fun _ H' => Q .non H', rt := Q } (start N vs) H) : FnOk P w K mg base (L2N.CX P w) (k + 1) f fd ps sp := by
  obtain ⟨oc, od, kV, doc, pm, an, cdv, ct, osl, rfl, lk, hcd⟩ := F.ex
  refine fn_of lk hcd S len fun A outer s H vs Q E hr hsp => ?_
  obtain ⟨t, h, q⟩ := hbody f cdv A outer s H vs Q E hr hsp
  exact ⟨t, h.nox, q⟩
theorem mk_ofI {x qq : Str} {C : Addr} {st : Stmt} {N ps : List Str} {k : Nat} {sp : Sp} (g : mg x = some (.ref C)) (D : IniAt K C qq st ps) (S : FnScope N ps (defScope st)) (len : ∀ vs H Q E, sp vs H Q E → vs.length = ps.length)
    (hbody : ∀ (f : Addr) (cdv : Value) (A : Around) (outer : List Env) (s : Shared) (H : Hp) (vs : List V) (Q : VK) (E : XK), Room k (A.deeper (envOfC qq (defScope st) s.heap.objs.size f cdv)) → sp vs H Q E →
      ∃ t, PSs (cxOf (L2N.CX P w) P w K mg base N qq (defScope st) f cdv A outer s H E).nox (defBody st) t ∧ t { nx := fun _ H' => Q .non H', rt := Q } (start N vs) H) : MkAt P w K mg base (k + 1) x C sp := by
  obtain ⟨f, fd, F, M, b⟩ := D.ex
  exact ⟨⟨f, fd, ps, fnq_of F S len hbody, M, b⟩, g⟩
theorem mcal_of {m qq : Str} {C : Addr} {st : Stmt} {N ps : List Str} {k : Nat} {sp : Sp} (cl : Cls K C) (D : MthAt K C m qq st ps) (S : FnScope N ps (defScope st)) (len : ∀ vs H Q E, sp vs H Q E → vs.length = ps.length)
    (hbody : ∀ (f : Addr) (cdv : Value) (A : Around) (outer : List Env) (s : Shared) (H : Hp) (vs : List V) (Q : VK) (E : XK), Room k (A.deeper (envOfC qq (defScope st) s.heap.objs.size f cdv)) → sp vs H Q E →
      ∃ t, PSs (cxOf (L2N.CX P w) P w K mg base N qq (defScope st) f cdv A outer s H E).nox (defBody st) t ∧ t { nx := fun _ H' => Q .non H', rt := Q } (start N vs) H) : MCal P w K mg base (k + 1) C m sp := by
  obtain ⟨f, fd, F, M, b⟩ := D.ex
  exact ⟨⟨f, fd, ps, fnq_of F S len hbody, M, b⟩, cl⟩
end
section
variable {X : Cx} {k j : Nat} {x m : Str} {sp : Sp} {p pos apos : Pos} {o e : Expr} {es : List Expr} {t : TA} {to : TE} {C : Addr}
theorem pe_mk (c : MkAt X.prog X.w X.K X.mg X.base k x C sp) (hr : Room j X.A) (hk : k + 1 ≤ j) (hg : Gl X x) (ha : PA X (e :: es) t) (hdb : (x == ("__debug__" : Str)) = false := by decide)
    (he : starEach (e :: es) X.env = (false, eval e X.env) :: starEach es X.env := by rfl) (hpl : (backTo pos (starEach es X.env)).any (·.1) = false := by rfl) : PE X (.Call (.Name x p) (e :: es) [] pos) (tMake C sp [] E0 t) := by
  obtain ⟨f, fd, ps, F, M, b⟩ := c.ex
  exact pe_make M F (hr.mono hk) hg c.g b .nil passN ha hdb he hpl
theorem pe_mth {pl : Sem Bool} (c : MCal X.prog X.w X.K X.mg X.base k C m sp) (hr : Room j X.A) (hk : k ≤ j) (ho : PE X o to) (ha : PA X (e :: es) t)
    (hst : starEach (e :: es) X.env = (false, eval e X.env) :: starEach es X.env := by rfl) (hpl : (backTo pos (starEach es X.env)).any (·.1) = false := by rfl)
    (ht : eval (.Call (.Attribute o m apos) (e :: es) [] pos) X.env = (do
      let ov ← eval o X.env
      standAt apos.atName
      let (f, first) ← holding [ov] (getMethod ov m pl)
      callWith pos f first (backTo pos (starEach (e :: es) X.env)) (backToKw pos (keywordEach [] X.env))) := by rfl) : PE X (.Call (.Attribute o m apos) (e :: es) [] pos) (tMeth C m sp [] E0 to t) := by
  obtain ⟨f, fd, ps, F, M, b⟩ := c.ex
  exact pe_meth ho c.cl M F (hr.mono hk) b .nil passN ha hst hpl ht
/-- this way or that -/
def tAlt (t u : TE) : TE := fun σ H Q => t σ H Q ∨ u σ H Q
theorem pe_alt {t1 t2 : TE} (h1 : PE X e t1) (h2 : PE X e t2) : PE X e (tAlt t1 t2) := ⟨fun pins s σ H Q I h => by
  rcases h with h | h
  · exact h1.run pins s σ H Q I h
  · exact h2.run pins s σ H Q I h⟩
end
section
variable {K : PySem.W.Frag} {σ : L2.St} {H H' : Hp} {ta tb te tl : TE} {t : TA} {x v : V} {D : Ends} {tz tu : TS} {C o dx : Addr} {fs : List (Str × V)}
theorem ev_altL (h : Ev ta σ H v) : Ev (tAlt ta tb) σ H v := fun H1 e Q q => .inl (h H1 e Q q)
theorem ev_altR (h : Ev tb σ H v) : Ev (tAlt ta tb) σ H v := fun H1 e Q q => .inr (h H1 e Q q)
theorem ev_fld {f : Str} (h : Ev ta σ H (.ref o)) (ho : H o = some (.ins C dx fs)) (c : Cls K C) (n : NoAttr K C f) (l : fs.lookup f = some v) : Ev (tFld K ta f) σ H v := fun H1 e Q q =>
  h H1 e _ fun H2 e2 => ⟨o, C, dx, fs, v, rfl, (e.trans e2) o _ ho, c, n, l, q H2 e2⟩
theorem ev_mth {m : Str} {sp : Sp} {vs : List V} (h : Ev ta σ H (.ref o)) (ho : H o = some (.ins C dx fs)) (l : fs.lookup m = none) (ha : EvA t σ H vs) (hs : SpV sp (.ref o :: vs) H v) : Ev (tMeth C m sp [] E0 ta t) σ H v := fun H1 e Q q =>
  h H1 e _ fun H2 e2 => ⟨o, dx, fs, rfl, (e.trans e2) o _ ho, l, ha H2 (e.trans e2) _ fun H3 e3 => by
    rw [List.append_nil]
    exact hs H3 ((e.trans e2).trans e3) Q (fun H4 e4 => q H4 ((e2.trans e3).trans e4)) E0⟩
theorem ty_ins (c : ClsI K C) (ho : H o = some (.ins C dx fs)) : ∀ H1, Ex H H1 → TyX K H1 (.ref o) (.ref C) := fun H1 e => .base (.ins (e o _ ho) c.cl c.ha c.hn c.ht c.hm)
/-- isinstance of an own class -/
theorem ev_isC {T : Addr} {tv : Value} {b : Bool} (h : Ev ta σ H x) (hc : Ev tb σ H (.ref T)) (hx : ∀ H1, Ex H H1 → TyX K H1 x tv) (e : PySem.W.kitOne K tv (.ref T) = some b) : Ev (tCB (rIsi K) (tCons ta (tCons tb tNil))) σ H (.bl b) := fun H1 e1 Q q =>
  h H1 e1 _ fun H2 e2 => hc H2 (e1.trans e2) _ fun H3 e3 => ⟨x, .ref T, tv, .ref T, b, rfl, .own T, hx H3 ((e1.trans e2).trans e3), e, q H3 (e2.trans e3)⟩
/-- a list, not told more than by a property -/
def EvQX (K : PySem.W.Frag) (te : TE) (σ : L2.St) (H : Hp) (P : List V → Prop) : Prop := ∀ H1, Ex H H1 → ∀ Q : VK, (∀ p H2 xs, P xs → Ex H1 H2 → SqL K H2 p xs → Q (.ref p) H2) → te σ H1 Q
theorem eqx_of {xs : List V} (h : EvQ K te σ H xs) : EvQX K te σ H (fun ys => ys = xs) := fun H1 e Q q => h H1 e Q fun p H2 e2 h2 => q p H2 xs rfl e2 h2
theorem eqx_call {sp : Sp} {E : XK} {vs : List V} {P : List V → Prop} (h : EvA t σ H vs) (hs : ∀ H1, Ex H H1 → ∀ Q : VK, (∀ p H2 xs, P xs → Ex H1 H2 → SqL K H2 p xs → Q (.ref p) H2) → sp vs H1 Q E) : EvQX K (tCall sp [] E t) σ H P := fun H1 e Q q =>
  h H1 e _ fun H2 e2 => by
    rw [List.append_nil]
    exact hs H2 (e.trans e2) Q fun p H3 xs hP e3 h3 => q p H3 xs hP (e2.trans e3) h3
/-- a new object of C with one field, a new list -/
def EvB (te : TE) (σ : L2.St) (H : Hp) (C : Addr) (f : Str) (P : List V → Prop) : Prop := ∀ H1, Ex H H1 → ∀ Q : VK, (∀ o dx l H2 xs, P xs → H1 o = none → H1 l = none → l ≠ o → Ex H1 H2 → H2 o = some (.ins C dx [(f, .ref l)]) → H2 l = some (.lst xs) → Q (.ref o) H2) → te σ H1 Q
/-- .. of its __init__ -/
def spIni1 (K : PySem.W.Frag) (C : Addr) (f : Str) : Sp := fun vs H Q _ => ∃ (p q dx : Addr) (xs : List V), vs = [.ref p, .ref q] ∧ H p = some (.ins C dx []) ∧ SqL K H q xs ∧
  ∀ l H', l ≠ p → H l = none → (∀ b u, b ≠ p → H b = some u → H' b = some u) → H' p = some (.ins C dx [(f, .ref l)]) → H' l = some (.lst xs) → Q .non H'
theorem eb_make {f : Str} {P : List V → Prop} (h : EvQX K te σ H P) : EvB (tMake C (spIni1 K C f) [] E0 (tCons te tNil)) σ H C f P := fun H1 e Q q =>
  h H1 e _ fun p H2 xs hP e2 h2 => fun x dx nx nd ne => by
    have nu : upd H2 dx (.own x) x = none := by rw [upd_ne (Ne.symm ne)]; exact nx
    have ex : Ex H2 (upd (upd H2 dx (.own x)) x (.ins C dx [])) := (Ex.new nd).trans (Ex.new nu)
    refine ⟨x, p, dx, xs, rfl, upd_same, ex_l ex h2, fun l H' hlx nl kp hx hl => ⟨rfl, ?_⟩⟩
    have nl2 : H2 l = none := fresh_back ex nl
    refine q x dx l H' xs hP (fresh_back e2 nx) (fresh_back e2 nl2) hlx (fun b u hb => ?_) hx hl
    have hb2 := e2 b u hb
    have hbx : b ≠ x := fun z => by rw [z, nx] at hb2; cases hb2
    exact kp b u hbx (ex b u hb2)
theorem s_retB {f : Str} {P : List V → Prop} (h : EvB te σ H C f P) (k : ∀ o dx l H2 xs, P xs → H o = none → H l = none → l ≠ o → Ex H H2 → H2 o = some (.ins C dx [(f, .ref l)]) → H2 l = some (.lst xs) → D.rt (.ref o) H2) : tRet te D σ H := h H (Ex.refl H) _ k
theorem look1 (f : Str) (v : V) : ([(f, v)] : List (Str × V)).lookup f = some v := by simp [List.lookup]
theorem call_run {sp : Sp} {vs : List V} {E : XK} {Q : VK} (h : EvA t σ H vs) (hs : ∀ H1, Ex H H1 → sp vs H1 Q E) : tCall sp [] E t σ H Q := h H (Ex.refl H) _ fun H1 e1 => by
  rw [List.append_nil]; exact hs H1 e1
theorem look_no {f m : Str} {v : V} (h : (m == f) = false) : ([(f, v)] : List (Str × V)).lookup m = none := by simp [List.lookup, h]
theorem q_ifTo {t : TT} {tu tw : TS} {b : Bool} {l : Addr} {xs : List V} {z : V} (h : EvT t σ H b) (k : ∀ H1, Ex H H1 → tz D σ (upd H1 l (.lst (xs ++ [z])))) (h1 : b = true → (∀ H1, Ex H H1 → tz D σ (upd H1 l (.lst (xs ++ [z])))) → ∀ H1, Ex H H1 → tu { D with nx := tz D } σ H1)
    (h2 : b = false → (∀ H1, Ex H H1 → tz D σ (upd H1 l (.lst (xs ++ [z])))) → ∀ H1, Ex H H1 → tw { D with nx := tz D } σ H1) : tSeq (tIfS t tu tw) tz D σ H := q_if h (fun e => h1 e k) (fun e => h2 e k)
theorem q_asgX {i : Nat} (h : te σ H fun v H1 => tz D (σ.set i (some v)) H1) : tSeq (tAsg te (gName i)) tz D σ H := h
/-- self.f = list(a), straight -/
theorem ini1_run {f : Str} {p q : Addr} {xs : List V} {σ : L2.St} (c : Cls K C) (n : NoAttr K C f) (hp : H p = some (.ins C dx [])) (hq : SqL K H q xs) (h0 : σ[0]? = some (some (.ref p))) (h1 : σ[1]? = some (some (.ref q)))
    (k : ∀ l H', l ≠ p → H l = none → (∀ b u, b ≠ p → H b = some u → H' b = some u) → H' p = some (.ins C dx [(f, .ref l)]) → H' l = some (.lst xs) → D.nx σ H') :
    sFld K (tVar 0) (tCB (rListQ K) (tCons (tVar 1) tNil)) f D σ H := (ev_listOf (ev_var h1) hq) H (Ex.refl H) _ fun l H1 nl e1 hl => (ev_var h0) H1 (Ex.refl _) _ fun H2 e2 => by
  have hp2 := (e1.trans e2) p _ hp
  have hlp : l ≠ p := fun z => by rw [z, hp] at nl; cases nl
  refine ⟨p, C, dx, [], rfl, hp2, c, n, by decide, k l _ hlp nl (fun b u hb hu => by rw [upd_ne hb]; exact (e1.trans e2) b u hu) ?_ (by rw [upd_ne hlp]; exact e2 l _ hl)⟩
  rw [upd_same]; rfl
end
end Tr

set_option Elab.async false
set_option linter.all false
set_option maxRecDepth 100000
set_option maxHeartbeats 4000000
/-! TrF: C() of a class without __init__, xs[::2], sorted(texts) of any length, comprehensions over enumerate, loops over lists told by a property. -/
namespace Tr
open PySem PySem.Spec PyProof.Rows L2 Evl
/-! ### C() of a class without an own __init__ -/
structure Mk0At (K : PySem.W.Frag) (mg : Str → Option Value) (x : Str) (C : Addr) : Prop where
  g : mg x = some (.ref C)
  makes : PySem.W.makesIn K C = true
  init : PySem.W.findIn K (.ref C) "__init__" = some (some (.builtin "object.__init__"))
  kp : PySem.W.keepIn K (.ref C) = true
theorem run_mk0 {X : Cx} {pins : List (Addr × Obj)} {σ : L2.St} {H : Hp} {s : Shared} {Q : VK} {C : Addr} (hm : PySem.W.makesIn X.K C = true) (hi : PySem.W.findIn X.K (.ref C) "__init__" = some (some (.builtin "object.__init__"))) (I : Inv X pins σ H s)
    (h : ∀ x dx, H x = none → H dx = none → dx ≠ x → Q (.ref x) (upd (upd H dx (.own x)) x (.ins C dx []))) : wpAny (model X.prog X.w) X.A (call (.ref C) []) (EP X pins σ Q) X.xe s := by
  have hq := h (s.heap.objs.size + 1) s.heap.objs.size (I.hok.fresh (Nat.le_succ _)) (I.hok.fresh (Nat.le_refl _)) (Nat.ne_of_lt (Nat.lt_succ_self _))
  have I2 := Inv.made (C := C) I
  have Y := PySem.W.makes_of (M := model X.prog X.w) I.kIn hm
  have li := PySem.W.looks_findIn (M := model X.prog X.w) I.kIn hi
  obtain ⟨hh, g, d, t, os⟩ := s
  refine wpAny_call (PySem.W.make_core Y li (fun self => PySem.W.Looks.of_pure (PySem.W.oi_bind self)) (.inr ⟨rfl, rfl⟩) ?_)
  have hx : ((hh.push PySem.W.emptyDict).push (PySem.W.instObj C hh.objs.size)).get? (hh.objs.size + 1) = some (PySem.W.instObj C hh.objs.size) := by heap_get
  have t1 : PySem.W.Looks (model X.prog X.w) ((hh.push PySem.W.emptyDict).push (PySem.W.instObj C hh.objs.size)) (typeOf (.ref (hh.objs.size + 1))) (.ref C) := (PySem.W.Looks.ld hx).andThen .now
  have t2 : PySem.W.Looks (model X.prog X.w) ((hh.push PySem.W.emptyDict).push (PySem.W.instObj C hh.objs.size)) (isInstance (.ref (hh.objs.size + 1)) (.type "object")) true := t1.andThen (Y.top.keeps fun b o e => Heap.get?_push_of_some _ (Heap.get?_push_of_some _ e))
  refine codeAny_call_builtin PySem.W.oi_plain PySem.W.entry_oi (@PySem.W.check_slot (model X.prog X.w) _ _ _ "object.__init__" "object" "__init__" (.ref (hh.objs.size + 1)) [] [] _ PySem.W.oi_kind PySem.W.oi_split t2 (PySem.W.oi_args (.ref (hh.objs.size + 1))) ?_)
  rw [PySem.W.oi_run]
  exact wpAny_pure (And.intro rfl ⟨V.ref (hh.objs.size + 1), _, I2, rfl, hq⟩)
def tMk0 (C : Addr) : TE := fun _ H Q => ∀ x dx, H x = none → H dx = none → dx ≠ x → Q (.ref x) (upd (upd H dx (.own x)) x (.ins C dx []))
theorem pe_mk0 {X : Cx} {x : Str} {C : Addr} {p pos : Pos} (c : Mk0At X.K X.mg x C) (hg : Gl X x) (hdb : (x == ("__debug__" : Str)) = false := by decide) : PE X (.Call (.Name x p) [] [] pos) (tMk0 C) := by
  refine ⟨fun pins s σ H Q I h => ?_⟩
  refine wpAny_Call_Name_kw (ld_glob I hg c.g ?_ hdb)
  exact PySem.W.callWith_K0 I.kIn c.kp (run_mk0 c.makes c.init I h)
section
variable {K : PySem.W.Frag} {σ : L2.St} {H H' : Hp} {ta tb te tl : TE} {t : TA} {v : V} {D : Ends} {tu tz : TS}
def MB (C : Addr) : Hp → V → Prop := fun H v => ∃ o dx, v = .ref o ∧ H o = some (.ins C dx [])
theorem up_MB {C : Addr} : Up (MB C) := fun _ _ _ e ⟨o, dx, h1, h2⟩ => ⟨o, dx, h1, e o _ h2⟩
theorem ep_mk0 {C : Addr} : EvP (tMk0 C) σ H (MB C) := fun H1 e Q q x dx nx nd ne => by
  have nu : upd H1 dx (.own x) x = none := by rw [upd_ne (Ne.symm ne)]; exact nx
  exact q _ _ ((Ex.new nd).trans (Ex.new nu)) ⟨x, dx, rfl, upd_same⟩
/-! ### xs[::2] -/
def ks2 (n : Nat) : List Nat := sliceRange 0 n 2
def step2 {α : Type} (xs : List α) : List α := (ks2 xs.length).filterMap (xs[·]?)
theorem ks2_len (n : Nat) : (ks2 n).length ≤ n := sliceRange_length_le 0 n 2 n (fun _ => ⟨Int.le_refl 0, Int.le_refl _⟩) (fun h => absurd (by decide) h)
theorem step2_len {α : Type} (xs : List α) : (step2 xs).length ≤ xs.length := Nat.le_trans (List.length_filterMap_le _ _) (ks2_len _)
theorem step2_mem {α : Type} {xs : List α} {x : α} (h : x ∈ step2 xs) : x ∈ xs := by
  obtain ⟨k, _, hk⟩ := List.mem_filterMap.mp h
  exact List.mem_of_getElem? hk
theorem step2_map {α β : Type} (f : α → β) (xs : List α) : step2 (xs.map f) = (step2 xs).map f := by
  unfold step2
  rw [List.map_filterMap, List.length_map]
  congr 1
  funext k
  rw [List.getElem?_map]
theorem vals_pick {xs : List V} {us : List Value} (r : Vals xs us) : ∀ ks : List Nat, Vals (ks.filterMap (xs[·]?)) (ks.filterMap (us[·]?))
  | [] => .nil
  | k :: ks => by
    have ih := vals_pick r ks
    rw [List.filterMap_cons, List.filterMap_cons]
    cases hk : xs[k]? with
    | none => rw [r.none_of hk]; exact ih
    | some x =>
      obtain ⟨u, hu, ru⟩ := r.get hk
      rw [hu]
      exact .cons ru ih
def tStep2L (K : PySem.W.Frag) (te : TE) : TE := fun σ H Q => te σ H fun x H1 => ∃ a xs, x = .ref a ∧ SqL K H1 a xs ∧ ∀ p, H1 p = none → Q (.ref p) (upd H1 p (.lst (step2 xs)))
theorem pick2 (items : Array Value) : slicePick items none none (some 2) = ((ks2 items.size).filterMap (items[·]?)).toArray := by
  unfold slicePick ks2
  have e : sliceBounds none none (some 2) items.size = (0, (items.size : Int), 2) := by first | rfl | simp [sliceBounds]
  rw [e]
theorem pe_step2 {X : Cx} {e : Expr} {te : TE} {k : Nat} {p1 p3 pos : Pos} (he : PE X e te) : PE X (.Subscript e (.Slice none none (some (.Constant (.int 2) k p1)) p3) pos) (tStep2L X.K te) := by
  refine ⟨fun pins s σ H Q I h => ?_⟩
  refine Subscript_ (thn (he.run pins s σ H _ I h) fun v s1 ⟨x, H1, I1, r1, q1⟩ => ?_)
  obtain ⟨a, xs, ex, hx, q⟩ := q1
  subst ex
  cases r1
  have hst : PO X (some (.Constant (.int 2) k p1)) (tPart (tC (.int 2))) := po_some pe_int
  refine wpAny_Slice (thn (po_none.run pins s1 σ H1 (fun o H2 => o = none ∧ H2 = H1) I1 ⟨rfl, rfl⟩) fun vl s2 ⟨l, H2, I2, pl, el, e2⟩ => ?_)
  subst el e2
  refine thn (po_none.run pins s2 σ H2 (fun o H3 => o = none ∧ H3 = H2) I2 ⟨rfl, rfl⟩) fun vu s3 ⟨u, H3, I3, pu, eu, e3⟩ => ?_
  subst eu e3
  refine thn (hst.run pins s3 σ H3 (fun o H4 => o = some 2 ∧ H4 = H3) I3 ⟨2, rfl, rfl, rfl⟩) fun vs s4 ⟨o, H4, I4, ps, eo, e4⟩ => ?_
  subst eo e4
  have I5 : Inv X pins σ H4 { s4 with heap := s4.heap.push { cls := .type "slice", data := .fields #[vl, vu, vs] } } := I4.kept (t' := s4.toks) fun b ob q => Heap.get?_push_of_some _ q
  obtain ⟨its, r, ht, hz⟩ := I5.list hx
  have hlen := r.length
  show wpAny (model X.prog X.w) X.A (subscriptTail e (.Slice none none (some (.Constant (.int 2) k p1)) p3) (.ref a) (.ref s4.heap.objs.size)) (EP X pins σ Q) X.xe { s4 with heap := s4.heap.push { cls := .type "slice", data := .fields #[vl, vu, vs] } }
  refine tail_any (ops := [.ref a, .ref s4.heap.objs.size]) ht.isList.typeIs (PySem.slot_list_getitem.lookup) ?_ (by with_unfolding_all rfl)
  refine wpAny_getItem_list_slice ht.isList (Heap.IsSliceOf.new _ vl vu vs) pl pu ps (by decide) ?_ (by rw [List.size_toArray]; omega)
  rw [pick2]
  refine ⟨.ref _, _, I5.laid (t' := s4.toks) (o := .lst (step2 xs)) (fun b ob q => Heap.get?_push_of_some _ q) (Nat.le_refl _) ?_, rfl, q _ (I5.hok.fresh (Nat.le_refl _))⟩
  have e9 : (ks2 its.toArray.size).filterMap (its.toArray[·]?) = (ks2 xs.length).filterMap (its[·]?) := by
    rw [List.size_toArray, hlen]
    congr 1
    funext k
    simp
  rw [e9]
  exact ⟨Nat.le_trans (step2_len xs) hz, _, 0, vals_pick r _, Heap.get?_push_size _ rfl⟩
theorem pe_step2L {X : Cx} {K : PySem.W.Frag} {e : Expr} {te : TE} {k : Nat} {p1 p3 pos : Pos} (h : X.K = K) (he : PE X e te) : PE X (.Subscript e (.Slice none none (some (.Constant (.int 2) k p1)) p3) pos) (tStep2L K te) := h ▸ pe_step2 he
theorem el_step2 {a : Addr} {xs : List V} (h : Ev te σ H (.ref a)) (hx : SqL K H a xs) : EvL (tStep2L K te) σ H (step2 xs) := fun H1 e Q q =>
  h H1 e _ fun H2 e2 => ⟨a, xs, rfl, ex_l (e.trans e2) hx, fun p np => q p _ (fresh_back e2 np) (e2.trans (Ex.new np)) upd_same⟩
/-! ### sorted(texts), any number -/
def rSortedSA (K : PySem.W.Frag) : List V → Hp → VK → Prop := fun vs H Q => ∃ (a : Addr) (xs : List Str), vs = [V.ref a] ∧ SqL K H a (xs.map V.str) ∧ ∀ (ys : List Str) (p : Addr), ys.Perm xs → sortedS ys = true → H p = none → Q (.ref p) (upd H p (.lst (ys.map V.str)))
theorem cr_sortedSA {X : Cx} {K : PySem.W.Frag} (h : X.K = K) : CallR X (.builtin "sorted") (rSortedSA K) := by
  subst h
  intro pins s σ H vs us Q I r h
  obtain ⟨a, xs, rfl, hs, q⟩ := h
  obtain ⟨its, rv, hl, hz⟩ := I.list hs
  rw [Vals.ref1 r]
  have hlen0 := rv.length
  refine PyProof.Rows.sorted_strsAny hl.isList rv.strs (by rw [← hlen0]; exact hz) fun out ys h1 h2 h3 => ?_
  obtain ⟨ep, he'⟩ := PyProof.Rows.sortedAll_at s.heap its out
  have hlen : (ys.map V.str).length ≤ sizeLine := by rw [List.length_map, h2.length_eq]; rw [List.length_map] at hz; exact hz
  exact ⟨.ref _, upd H (s.heap.objs.size + 1) (.lst (ys.map V.str)), I.laid (t' := s.toks) (fun _ _ => PyProof.Rows.sortedAll_old) (Nat.le_succ _) ⟨hlen, out.toList, ep, vals_of_strs h1, he'⟩, rfl, q ys _ h2 h3 (I.hok.fresh (Nat.le_succ _))⟩
/-- ss holds ws, in order -/
def Rises (ss : List Wd) : Prop := ss.Pairwise fun a b => ¬ b < a
structure SortOf (ws ss : List Wd) : Prop where
  perm : ss.Perm ws
  rises : Rises ss
theorem rises_of : ∀ {ss : List Str}, sortedS ss = true → Rises (ss.map codes) := by
  have key : ∀ (r : List Str) (x : Str), risingS x r = true → Rises ((x :: r).map codes) := by
    intro r
    induction r with
    | nil => intro x _; exact List.pairwise_singleton _ _
    | cons y r ih =>
      intro x h
      unfold risingS at h
      rw [Bool.and_eq_true, PyProof.Rows.ltCps_eq] at h
      have h1 : ¬ codes y < codes x := by simpa [codes] using h.1
      have h2 := ih y h.2
      refine List.pairwise_cons.mpr ⟨fun z hz => ?_, h2⟩
      rw [List.map_cons] at hz
      rcases List.mem_cons.mp hz with rfl | hz
      · exact h1
      · have h3 := (List.pairwise_cons.mp h2).1 z hz
        exact List.not_lt.mpr (List.le_trans (List.not_lt.mp h1) (List.not_lt.mp h3))
  intro ss h
  cases ss with
  | nil => exact List.Pairwise.nil
  | cons x r => exact key r x h
theorem sort_uniq : ∀ {ws ss us : List Wd}, SortOf ws ss → SortOf ws us → ss = us := by
  have key : ∀ (ss us : List Wd), ss.Perm us → Rises ss → Rises us → ss = us := by
    intro ss
    induction ss with
    | nil => intro us hp _ _; exact (hp.symm.eq_nil).symm
    | cons x r ih =>
      intro us hp h1 h2
      cases us with
      | nil => exact absurd hp.length_eq (by simp)
      | cons y q =>
        obtain ⟨a1, a2⟩ := List.pairwise_cons.mp h1
        obtain ⟨b1, b2⟩ := List.pairwise_cons.mp h2
        have e : x = y := by
          have hx : ¬ x < y := by
            rcases List.mem_cons.mp (hp.mem_iff.mp (List.mem_cons_self (a := x) (l := r))) with e | hx
            · rw [e]; exact List.lt_irrefl _
            · exact b1 x hx
          have hy : ¬ y < x := by
            rcases List.mem_cons.mp (hp.mem_iff.mpr (List.mem_cons_self (a := y) (l := q))) with e | hy
            · rw [e]; exact List.lt_irrefl _
            · exact a1 y hy
          exact List.le_antisymm (List.not_lt.mp hy) (List.not_lt.mp hx)
        subst e
        rw [ih q hp.cons_inv a2 b2]
  intro ws ss us h1 h2
  exact key ss us (h1.perm.trans h2.perm.symm) h1.rises h2.rises
/-- sorted(a list of words) -/
def EvX (te : TE) (σ : L2.St) (H : Hp) (R : Hp → List V → Prop) : Prop := ∀ H1, Ex H H1 → ∀ Q : VK, (∀ p H2 vs, H1 p = none → Ex H1 H2 → H2 p = some (.lst vs) → R H2 vs → Q (.ref p) H2) → te σ H1 Q
theorem ex_sorted {a : Addr} {ws : List Wd} (h : Ev ta σ H (.ref a)) (hx : SqL K H a (ws.map tx)) : EvX (tCB (rSortedSA K) (tCons ta tNil)) σ H (fun _ vs => ∃ ss, SortOf ws ss ∧ vs = ss.map tx) := fun H1 e Q q =>
  h H1 e _ fun H2 e2 => ⟨a, ws.map S, rfl, by
    have : (ws.map S).map V.str = ws.map tx := by rw [List.map_map]; rfl
    rw [this]; exact ex_l (e.trans e2) hx, fun ys p hp hs np => q p _ (ys.map V.str) (fresh_back e2 np) (e2.trans (Ex.new np)) upd_same ⟨ys.map codes, ⟨by
      have h2 := hp.map codes
      rw [List.map_map] at h2
      have h3 : ws.map (codes ∘ S) = ws := by
        have : codes ∘ S = id := by funext x; exact codes_S x
        rw [this, List.map_id]
      rw [h3] at h2; exact h2, rises_of hs⟩, by
      rw [List.map_map]
      exact (List.map_congr_left fun y _ => by show V.str y = .str (S (codes y)); rw [S_codes]).trans rfl⟩⟩
theorem q_asgXs {i : Nat} {R : Hp → List V → Prop} (h : EvX te σ H R) (k : ∀ p H1 vs, H p = none → Ex H H1 → H1 p = some (.lst vs) → R H1 vs → tz D (σ.set i (some (.ref p))) H1) : tSeq (tAsg te (gName i)) tz D σ H := h H (Ex.refl H) _ fun p H1 vs np e hp r => k p H1 vs np e hp r
/-! ### [.. for i, x in enumerate(xs)], tuples -/
def EvLT (te : TE) (σ : L2.St) (H : Hp) (n : Nat) (f : Nat → List V) : Prop := EvX te σ H fun H2 vs => ∃ ts : List Addr, vs = ts.map V.ref ∧ ts.length = n ∧ ∀ (i : Nat) (t : Addr), ts[i]? = some t → H2 t = some (.tup (f i))
theorem elt_enum {a : Addr} {xs : List V} {j1 j2 : Nat} {vs : List Nat} (f : Nat → List V) (h : Ev ta σ H (.ref a)) (hx : SqL K H a xs) (hz : xs.length ≤ 40000) (hw : ∀ x y, wipe (((wipe σ vs).set j1 (some x)).set j2 (some y)) vs = wipe σ vs)
    (he : ∀ (i : Nat) x, xs[i]? = some x → EvU te (((wipe σ vs).set j1 (some (.int (i : Int)))).set j2 (some x)) H (f i)) : EvLT (tLc (iEnum K (tCons ta tNil)) (gTup K 2 (gCons (gName j1) (gCons (gName j2) gNil))) tYes te vs) σ H xs.length f := fun H0 e0 Q q =>
  h H0 e0 _ fun H1 e1 => ⟨a, xs, rfl, ex_l (e0.trans e1) hx, fun Dl hD => ⟨fun i m H' => i + m = xs.length ∧ Ex H1 H' ∧ ∃ ts : List Addr, H' Dl = some (.lst (ts.map V.ref)) ∧ ts.length = i ∧ ∀ (k : Nat) (t : Addr), ts[k]? = some t → H' t = some (.tup (f k)),
    ⟨xs.length, by omega, Ex.new hD, [], upd_same, rfl, fun k t hk => by simp at hk⟩, fun i m H' hW => by
    obtain ⟨hm, ex, ts, hDl, hl, ht⟩ := hW
    rcases Nat.lt_or_ge i xs.length with hi | hi
    · have hx' : xs[i]? = some xs[i] := List.getElem?_eq_getElem hi
      refine .inr ⟨⟨xs, xs[i], ex_l ((e0.trans e1).trans ex) hx, hx'⟩, fun H2 => (i + 1) + (m - 1) = xs.length ∧ Ex H1 H2 ∧ ∃ ts : List Addr, H2 Dl = some (.lst (ts.map V.ref)) ∧ ts.length = i + 1 ∧ ∀ (k : Nat) (t : Addr), ts[k]? = some t → H2 t = some (.tup (f k)), fun H2 p2 => ⟨m - 1, by omega, p2⟩, fun x H2 hy => ?_⟩
      obtain ⟨T, y, rfl, nT, rfl, fy⟩ := hy
      have ey : y = xs[i] := Option.some.inj ((fy xs (ex_l ((e0.trans e1).trans ex) hx)).symm.trans hx')
      subst ey
      refine ⟨T, [.int (i : Int), xs[i]], rfl, st_of upd_same, rfl, _, _, rfl, _, _, rfl, rfl, ?_⟩
      refine ⟨hw _ _, ?_⟩
      have eT : Ex H' (upd H' T (.tup [.int (i : Int), xs[i]])) := Ex.new nT
      show te _ _ _
      refine he i xs[i] hx' _ (((e0.trans e1).trans ex).trans eT) _ fun p2 H4 np2 e4 hp2 => ?_
      have eA := eT.trans e4
      refine ⟨ts.map V.ref, eA Dl _ hDl, sz_lt (by rw [List.length_map]; omega), by omega, Ex.mut (ex.trans eA) hD, ts ++ [p2], by rw [upd_same, List.map_append]; rfl, by rw [List.length_append, hl]; rfl, fun k t hk => ?_⟩
      have hne : ∀ t', H4 t' = some (.tup (f k)) → t' ≠ Dl := fun t' h' z => by rw [z, eA Dl _ hDl] at h'; cases h'
      rcases Nat.lt_or_ge k ts.length with hkl | hkl
      · rw [List.getElem?_append_left hkl] at hk
        have h4 := eA t _ (ht k t hk)
        rw [upd_ne (hne t h4)]; exact h4
      · rw [List.getElem?_append_right hkl] at hk
        have ek : k = ts.length := by
          rcases Nat.lt_or_ge (k - ts.length) 1 with z | z
          · omega
          · rw [List.getElem?_eq_none (by simpa using z)] at hk; cases hk
        subst ek
        rw [Nat.sub_self] at hk
        cases hk
        rw [hl] at hne ⊢
        rw [upd_ne (hne p2 hp2)]; exact hp2
    · have ei : i = xs.length := by omega
      refine .inl ⟨⟨xs, ex_l ((e0.trans e1).trans ex) hx, hi⟩, q Dl H' _ (fresh_back e1 hD) (e1.trans ex) hDl ⟨ts, rfl, by rw [hl, ei], ht⟩⟩⟩⟩
/-! ### sorted of pairs -/
def pairK (H : Hp) (v : V) : Int × Int := match v with
  | .ref t => match H t with
    | some (.tup [.int a, .int b]) => (a, b)
    | _ => (0, 0)
  | _ => (0, 0)
theorem pairK_of {H : Hp} {t : Addr} {a b : Int} (h : H t = some (.tup [.int a, .int b])) : pairK H (.ref t) = (a, b) := by simp [pairK, h]
/-- the pairs of a list, in order: told by their values -/
theorem ex_sortedP {n : Nat} {f : Nat → Int × Int} (h : EvLT ta σ H n (fun i => [.int (f i).1, .int (f i).2])) : EvX (tCB (rSortedPO K) (tCons ta tNil)) σ H (fun H2 vs => ∃ (ts : List Addr) (ps : List (Int × Int)), vs = ts.map V.ref ∧ ts.length = ps.length ∧ ps.Perm ((List.range n).map f) ∧ ps.Pairwise (fun p q => SrtO.lexB q p = false) ∧
    ∀ (i : Nat) (t : Addr) (p : Int × Int), ts[i]? = some t → ps[i]? = some p → H2 t = some (.tup [.int p.1, .int p.2])) := fun H1 e Q q =>
  h H1 e _ fun p H2 vs np e2 hp ⟨ts, ev, hl, ht⟩ => by
    subst ev
    have hk : ∀ x ∈ ts.map V.ref, ∃ t, x = V.ref t ∧ H2 t = some (.tup [.int (pairK H2 x).1, .int (pairK H2 x).2]) := fun x hx => by
      obtain ⟨t, hm, rfl⟩ := List.mem_map.mp hx
      obtain ⟨i, hi, rfl⟩ := List.getElem_of_mem hm
      have h1 := ht i ts[i] (List.getElem?_eq_getElem hi)
      refine ⟨ts[i], rfl, ?_⟩
      rw [pairK_of h1]; exact h1
    refine ⟨p, ts.map V.ref, pairK H2, rfl, sq_of hp, hk, fun ys p2 hS hB np2 => ?_⟩
    have hperm := hB.perm
    have hys : ∃ us : List Addr, ys = us.map V.ref := by
      refine ⟨ys.map fun v => match v with | .ref t => t | _ => p, ?_⟩
      rw [List.map_map]
      conv => lhs; rw [← List.map_id ys]
      apply List.map_congr_left
      intro v hv
      obtain ⟨t, _, rfl⟩ := List.mem_map.mp (hperm.mem_iff.mp hv)
      rfl
    obtain ⟨us, rfl⟩ := hys
    have eN : Ex H2 (upd H2 p2 (.lst (us.map V.ref))) := Ex.new np2
    refine q p2 _ (us.map V.ref) (fresh_back e2 np2) (e2.trans eN) upd_same ⟨us, us.map fun t => pairK H2 (.ref t), rfl, by rw [List.length_map], ?_, ?_, fun i t pp h1 h2 => ?_⟩
    · have h5 := hperm.map (pairK H2)
      rw [List.map_map, List.map_map] at h5
      refine h5.trans (List.Perm.of_eq ?_)
      apply List.ext_getElem?
      intro i
      rw [List.getElem?_map, List.getElem?_map]
      rcases Nat.lt_or_ge i ts.length with hi | hi
      · rw [List.getElem?_eq_getElem hi, List.getElem?_range (by omega)]
        show some (pairK H2 (.ref ts[i])) = some (f i)
        rw [pairK_of (ht i ts[i] (List.getElem?_eq_getElem hi))]
      · rw [List.getElem?_eq_none hi, List.getElem?_eq_none (by rw [List.length_range]; omega)]
        rfl
    · rw [List.pairwise_map]
      exact List.pairwise_map.mp hS
    · rw [List.getElem?_map, h1] at h2
      cases h2
      have hm : V.ref t ∈ us.map V.ref := List.mem_map.mpr ⟨t, List.mem_of_getElem? h1, rfl⟩
      obtain ⟨t', e', h6⟩ := hk _ (hperm.mem_iff.mp hm)
      cases e'
      exact eN t _ h6
theorem q_forX {g : TG} {R : Hp → List V → Prop} (h : EvX te σ H R) (k : ∀ p H1 vs, H p = none → Ex H H1 → H1 p = some (.lst vs) → R H1 vs → tFor (iList K (tC (.ref p))) g tu { D with nx := tz D } σ H1) : tSeq (tFor (iList K te) g tu) tz D σ H :=
  h H (Ex.refl H) _ fun p H1 vs np e hp r => k p H1 vs np e hp r
/-! ### for x in a list told by a property -/
theorem q_forP {n j : Nat} {C : Hp → V → Prop} (u : Up C) (h : EvP tl σ H (LB n C)) (Sv : L2.St → Prop) (h0 : Sv σ) (hs : ∀ v σ' H', Ex H H' → Sv σ' → C H' v → ∀ D' : Ends, (∀ σ2 H2, Ex H' H2 → Sv σ2 → D'.nx σ2 H2) → D'.rt = D.rt → tu D' (σ'.set j (some v)) H')
    (hd : ∀ σ' H', Ex H H' → Sv σ' → tz D σ' H') : tSeq (tFor (iList K tl) (gName j) tu) tz D σ H := h H (Ex.refl H) _ fun v0 H1 e1 ⟨p, vs, ev, hp, hl, hc⟩ => by
  subst ev
  refine ⟨p, rfl, ⟨vs, sq_of hp⟩, ?_⟩
  refine for_list (D := { D with nx := tz D }) (fun i σ' H' => Ex H1 H' ∧ Sv σ') ⟨Ex.refl _, h0⟩ (fun i σ' H' _ hP => sq_of (hP.1 p _ hp)) (fun i x σ' H' hx hP => ?_) (fun σ' H' hP => hd σ' H' (e1.trans hP.1) hP.2)
  exact hs x σ' H' (e1.trans hP.1) hP.2 (u _ _ _ hP.1 (hc x (List.mem_of_getElem? hx))) _ (fun σ2 H2 e2 h2 => ⟨hP.1.trans e2, h2⟩) rfl
end
end Tr

set_option Elab.async false
set_option linter.all false
set_option maxRecDepth 100000
set_option maxHeartbeats 4000000
/-! TrN: xs[a::c], tuples compared, a loop that appends to each of some lists, calls with one list made on the way. -/
namespace Tr
open PySem PySem.Spec PyProof.Rows L2 Evl
/-! ### xs[a::c] -/
def ksN (a c : Int) (n : Nat) : List Nat := sliceRange (max 0 (min a (n : Int))) n c
def pickN {α : Type} (a c : Int) (xs : List α) : List α := (ksN a c xs.length).filterMap (xs[·]?)
theorem ksN_len {a c : Int} (hc : 0 < c) (n : Nat) : (ksN a c n).length ≤ n := sliceRange_length_le _ _ c n (fun _ => ⟨Int.le_max_left _ _, Int.le_refl _⟩) (fun h => absurd hc h)
theorem pickN_len {α : Type} {a c : Int} (hc : 0 < c) (xs : List α) : (pickN a c xs).length ≤ xs.length := Nat.le_trans (List.length_filterMap_le _ _) (ksN_len hc _)
theorem pickN_mem {α : Type} {a c : Int} {xs : List α} {x : α} (h : x ∈ pickN a c xs) : x ∈ xs := by
  obtain ⟨k, _, hk⟩ := List.mem_filterMap.mp h
  exact List.mem_of_getElem? hk
def tStepN (K : PySem.W.Frag) (a c : Int) (te : TE) : TE := fun σ H Q => te σ H fun x H1 => ∃ b xs, x = .ref b ∧ SqL K H1 b xs ∧ ∀ p, H1 p = none → Q (.ref p) (upd H1 p (.lst (pickN a c xs)))
theorem pick_n {a c : Int} (ha : 0 ≤ a) (hc : 0 < c) (items : Array Value) : slicePick items (some a) none (some c) = ((ksN a c items.size).filterMap (items[·]?)).toArray := by
  unfold slicePick ksN
  have e : sliceBounds (some a) none (some c) items.size = (max 0 (min a (items.size : Int)), (items.size : Int), c) := by
    unfold sliceBounds
    have h1 : ¬ a < 0 := by omega
    simp [h1, hc]
  rw [e]
theorem pe_stepN {X : Cx} {K : PySem.W.Frag} {e : Expr} {te : TE} {a c : Int} {k k2 : Nat} {p0 p1 p3 pos : Pos} (h : X.K = K) (ha : 0 ≤ a) (hc : 0 < c) (he : PE X e te) : PE X (.Subscript e (.Slice (some (.Constant (.int a) k2 p0)) none (some (.Constant (.int c) k p1)) p3) pos) (tStepN K a c te) := by
  subst h
  refine ⟨fun pins s σ H Q I h => ?_⟩
  refine Subscript_ (thn (he.run pins s σ H _ I h) fun v s1 ⟨x, H1, I1, r1, q1⟩ => ?_)
  obtain ⟨b, xs, ex, hx, q⟩ := q1
  subst ex
  cases r1
  have hst : PO X (some (.Constant (.int c) k p1)) (tPart (tC (.int c))) := po_some pe_int
  have hlo : PO X (some (.Constant (.int a) k2 p0)) (tPart (tC (.int a))) := po_some pe_int
  refine wpAny_Slice (thn (hlo.run pins s1 σ H1 (fun o H2 => o = some a ∧ H2 = H1) I1 ⟨a, rfl, rfl, rfl⟩) fun vl s2 ⟨l, H2, I2, pl, el, e2⟩ => ?_)
  subst el e2
  refine thn (po_none.run pins s2 σ H2 (fun o H3 => o = none ∧ H3 = H2) I2 ⟨rfl, rfl⟩) fun vu s3 ⟨u, H3, I3, pu, eu, e3⟩ => ?_
  subst eu e3
  refine thn (hst.run pins s3 σ H3 (fun o H4 => o = some c ∧ H4 = H3) I3 ⟨c, rfl, rfl, rfl⟩) fun vs s4 ⟨o, H4, I4, ps, eo, e4⟩ => ?_
  subst eo e4
  have I5 : Inv X pins σ H4 { s4 with heap := s4.heap.push { cls := .type "slice", data := .fields #[vl, vu, vs] } } := I4.kept (t' := s4.toks) fun b ob q => Heap.get?_push_of_some _ q
  obtain ⟨its, r, ht, hz⟩ := I5.list hx
  have hlen := r.length
  show wpAny (model X.prog X.w) X.A (subscriptTail e (.Slice (some (.Constant (.int a) k2 p0)) none (some (.Constant (.int c) k p1)) p3) (.ref b) (.ref s4.heap.objs.size)) (EP X pins σ Q) X.xe { s4 with heap := s4.heap.push { cls := .type "slice", data := .fields #[vl, vu, vs] } }
  refine tail_any (ops := [.ref b, .ref s4.heap.objs.size]) ht.isList.typeIs (PySem.slot_list_getitem.lookup) ?_ (by with_unfolding_all rfl)
  refine wpAny_getItem_list_slice ht.isList (Heap.IsSliceOf.new _ vl vu vs) pl pu ps (by simp; omega) ?_ (by rw [List.size_toArray]; omega)
  rw [pick_n ha hc]
  refine ⟨.ref _, _, I5.laid (t' := s4.toks) (o := .lst (pickN a c xs)) (fun b ob q => Heap.get?_push_of_some _ q) (Nat.le_refl _) ?_, rfl, q _ (I5.hok.fresh (Nat.le_refl _))⟩
  have e9 : (ksN a c its.toArray.size).filterMap (its.toArray[·]?) = (ksN a c xs.length).filterMap (its[·]?) := by
    rw [List.size_toArray, hlen]
    congr 1
    funext k
    simp
  rw [e9]
  exact ⟨Nat.le_trans (pickN_len hc xs) hz, _, 0, vals_pick r _, Heap.get?_push_size _ rfl⟩
section
variable {K : PySem.W.Frag} {σ : L2.St} {H H' : Hp} {ta tb te tl tq : TE} {t : TA} {x v : V} {D : Ends} {tu tz : TS} {C o dx : Addr} {fs : List (Str × V)}
theorem el_stepN {a c : Int} {p : Addr} {xs : List V} (h : Ev te σ H (.ref p)) (hx : SqL K H p xs) : EvL (tStepN K a c te) σ H (pickN a c xs) := fun H1 e Q q =>
  h H1 e _ fun H2 e2 => ⟨p, xs, rfl, ex_l (e.trans e2) hx, fun p np => q p _ (fresh_back e2 np) (e2.trans (Ex.new np)) upd_same⟩
/-! ### tuples of one kind compared -/
theorem enc_shapedT {α : Type} [DecidableEq α] {φ : α → V} {δ : α → PyData} {ok : α → Prop} (E : Enc φ δ ok) (xs : List α) (h : ∀ x ∈ xs, ok x) : SeqAt.shaped (.tuple (xs.map δ)) = true := by
  unfold SeqAt.shaped
  rw [PyData.canLay0, enc_lay E xs h, PyData.depth, enc_depth E xs]
  rfl
theorem ev_neU {α : Type} [DecidableEq α] {φ : α → V} {δ : α → PyData} {ok : α → Prop} {xs ys : List α} (E : Enc φ δ ok) (ha : EvU ta σ H (xs.map φ)) (hb : EvU tb σ H (ys.map φ)) (h1 : ∀ x ∈ xs, ok x) (h2 : ∀ x ∈ ys, ok x) : Ev (tOp (rNeD K) ta tb) σ H (.bl (!decide (xs = ys))) := fun H1 e Q q =>
  ha H1 e _ fun p H2 _ e2 s2 => hb H2 (e.trans e2) _ fun p3 H3 _ e3 s3 => ⟨.tuple (xs.map δ), .tuple (ys.map δ), .tup (st_of (e3 p _ s2)) (enc_all E K H3 xs), .tup (st_of s3) (enc_all E K H3 ys), enc_shapedT E xs h1, enc_shapedT E ys h2, by
    rw [PyData.eqv, enc_eqv E xs ys]
    exact q H3 (e2.trans e3)⟩
/-! ### a list, whatever way it comes, in a call -/
theorem ev_mthQ {m : Str} {sp : Sp} {xs : List V} (h : Ev ta σ H (.ref o)) (ho : H o = some (.ins C dx fs)) (l : fs.lookup m = none) (hq : EvQ K tq σ H xs) (hs : ∀ q H1, Ex H H1 → SqL K H1 q xs → SpV sp [.ref o, .ref q] H1 v) : Ev (tMeth C m sp [] E0 ta (tCons tq tNil)) σ H v := fun H1 e Q q =>
  h H1 e _ fun H2 e2 => ⟨o, dx, fs, rfl, (e.trans e2) o _ ho, l, hq H2 (e.trans e2) _ fun p H3 e3 hp => by
    have := hs p H3 ((e.trans e2).trans e3) hp H3 (Ex.refl H3) Q (fun H4 e4 => q H4 ((e2.trans e3).trans e4)) E0
    exact this⟩
theorem ev_callQ1 {sp : Sp} {E : XK} {xs : List V} (hq : EvQ K tq σ H xs) (hb : Ev tb σ H x) (hs : ∀ q H1, Ex H H1 → SqL K H1 q xs → SpV sp [.ref q, x] H1 v) : Ev (tCall sp [] E (tCons tq (tCons tb tNil))) σ H v := fun H1 e Q q =>
  hq H1 e _ fun p H2 e2 hp => hb H2 (e.trans e2) _ fun H3 e3 => by
    have := hs p H3 ((e.trans e2).trans e3) (ex_l e3 hp) H3 (Ex.refl H3) Q (fun H4 e4 => q H4 ((e2.trans e3).trans e4)) E
    exact this
theorem el_revL {a : Addr} {xs : List V} (h : Ev te σ H (.ref a)) (hs : SqL K H a xs) : EvL (tRevL K te) σ H xs.reverse := fun H1 e Q q =>
  h H1 e _ fun H2 e2 => ⟨a, xs, rfl, ex_l (e.trans e2) hs, fun p np => q p _ (fresh_back e2 np) (e2.trans (Ex.new np)) upd_same⟩
theorem call1L {sp : Sp} {E : XK} {Q : VK} {xs : List V} (h : EvL ta σ H xs) (hs : ∀ q H1, H q = none → Ex H H1 → H1 q = some (.lst xs) → sp [.ref q] H1 Q E) : tCall sp [] E (tCons ta tNil) σ H Q := h H (Ex.refl H) _ fun q H1 nq e1 hq => hs q H1 nq e1 hq
theorem ev_callL1 {sp : Sp} {E : XK} {xs : List V} (h : EvL ta σ H xs) (hs : ∀ q H1, Ex H H1 → H1 q = some (.lst xs) → SpV sp [.ref q] H1 v) : Ev (tCall sp [] E (tCons ta tNil)) σ H v := fun H1 e Q q =>
  h H1 e _ fun p H2 _ e2 hp => by
    have := hs p H2 (e.trans e2) hp H2 (Ex.refl H2) Q (fun H4 e4 => q H4 (e2.trans e4)) E
    exact this
/-! ### for x in lists: x.append(v) -/
theorem q_forApp {j : Nat} {hh : Addr} {hs : List Addr} {K0 : Hp} {y : V} (h : Ev tl σ H (.ref hh)) (e0 : Ex K0 H) (hK : K0 hh = some (.lst (hs.map V.ref))) (hn : hs.length ≤ 100) (hl : ∀ a ∈ hs, K0 a = none ∧ ∃ xs, H a = some (.lst xs) ∧ xs.length ≤ 50000) (hj : j < σ.length)
    (hv : ∀ (σ' : L2.St) (H' : Hp), Ev te σ' H' y) (hd : ∀ s H', Ex K0 H' → tz D (σ.set j s) H') (hsame : ∃ s, σ = σ.set j s) :
    tSeq (tFor (iList K tl) (gName j) (tDrop (tBM K "list" rAppend (tVar j) (tCons te tNil)))) tz D σ H := by
  refine q_forLn (a := hh) (xs := hs.map V.ref) h (sq_of (e0 hh _ hK)) (fun i σ' H' => (∃ s, σ' = σ.set j s) ∧ Ex K0 H' ∧ ∀ a ∈ hs, ∃ xs, H' a = some (.lst xs) ∧ xs.length ≤ 50000 + i)
    (fun H1 e1 => ⟨hsame, e0.trans e1, fun a ha => by obtain ⟨_, xs, h1, h2⟩ := hl a ha; exact ⟨xs, e1 a _ h1, by omega⟩⟩) (fun i σ' H' _ hP => sq_of (hP.2.1 hh _ hK)) (fun i x σ' H' hx hP => ?_) (fun σ' H' hP => ?_)
  · obtain ⟨⟨s, rfl⟩, ex, hall⟩ := hP
    rw [List.getElem?_map] at hx
    cases ha : hs[i]? with
    | none => rw [ha] at hx; cases hx
    | some a =>
      rw [ha] at hx
      have hx : V.ref a = x := Option.some.inj hx
      subst hx
      have ham := List.mem_of_getElem? ha
      have hi : i < hs.length := (List.getElem?_eq_some_iff.mp ha).1
      obtain ⟨xs, h1, h2⟩ := hall a ham
      refine s_app (l := a) (xs := xs) (v := y) h1 (ev_var (by rw [List.set_set]; simp [hj])) (hv _ _) (by omega) fun H2 e2 => ?_
      refine ⟨⟨some (.ref a), by rw [List.set_set]⟩, Ex.mut (ex.trans e2) (hl a ham).1, fun b hb => ?_⟩
      by_cases hba : b = a
      · rw [hba]
        exact ⟨xs ++ [y], upd_same, by rw [List.length_append, List.length_singleton]; omega⟩
      · obtain ⟨ys, h3, h4⟩ := hall b hb
        exact ⟨ys, by rw [upd_ne hba]; exact e2 b _ h3, by omega⟩
  · obtain ⟨⟨s, rfl⟩, ex, _⟩ := hP
    exact hd s H' ex
/-- the heap without some addresses -/
def less (H : Hp) (hs : List Addr) : Hp := fun b => if b ∈ hs then none else H b
theorem less_ex {hs : List Addr} : Ex (less H hs) H := fun b u e => by
  unfold less at e
  split at e
  · cases e
  · exact e
theorem less_at {hs : List Addr} {b : Addr} (h : b ∉ hs) : less H hs b = H b := if_neg h
theorem less_no {hs : List Addr} {b : Addr} (h : b ∈ hs) : less H hs b = none := if_pos h
end
end Tr

set_option Elab.async false
set_option linter.all false
set_option maxRecDepth 100000
set_option maxHeartbeats 4000000
/-! TrC: lists put together, tuples taken apart, walks over the keys of a dict. -/
namespace Tr
open PySem PySem.Spec PyProof.Rows L2 Evl
section
variable {K : PySem.W.Frag} {σ : L2.St} {H H' : Hp} {ta tb te tl : TE} {t : TA} {x v : V} {D : Ends} {tz tu : TS}
/-- xs + ys -/
theorem el_cat {a : Addr} {xs ys : List V} (ha : Ev ta σ H (.ref a)) (hx : H a = some (.lst xs)) (hb : EvL tb σ H ys) (hz : xs.length + ys.length ≤ 100000) : EvL (tOp rCat ta tb) σ H (xs ++ ys) := fun H1 e Q q =>
  ha H1 e _ fun H2 e2 => hb H2 (e.trans e2) _ fun p H3 np e3 h3 => ⟨a, p, xs, ys, rfl, rfl, ((e.trans e2).trans e3) a _ hx, h3, sz_of hz, fun p2 np2 => q p2 _ (fresh_back (e2.trans e3) np2) ((e2.trans e3).trans (Ex.new np2)) upd_same⟩
theorem el_cat2 {a b : Addr} {xs ys : List V} (ha : Ev ta σ H (.ref a)) (hx : H a = some (.lst xs)) (hb : Ev tb σ H (.ref b)) (hy : H b = some (.lst ys)) (hz : xs.length + ys.length ≤ 100000) : EvL (tOp rCat ta tb) σ H (xs ++ ys) := fun H1 e Q q =>
  ha H1 e _ fun H2 e2 => hb H2 (e.trans e2) _ fun H3 e3 => ⟨a, b, xs, ys, rfl, rfl, ((e.trans e2).trans e3) a _ hx, ((e.trans e2).trans e3) b _ hy, sz_of hz, fun p2 np2 => q p2 _ (fresh_back (e2.trans e3) np2) ((e2.trans e3).trans (Ex.new np2)) upd_same⟩
theorem el_catN {xs ys : List V} (ha : EvL ta σ H xs) (hb : EvL tb σ H ys) (hz : xs.length + ys.length ≤ 100000) : EvL (tOp rCat ta tb) σ H (xs ++ ys) := fun H1 e Q q =>
  ha H1 e _ fun a H2 na e2 h2 => hb H2 (e.trans e2) _ fun p H3 np e3 h3 => ⟨a, p, xs, ys, rfl, rfl, e3 a _ h2, h3, sz_of hz, fun p2 np2 => q p2 _ (fresh_back (e2.trans e3) np2) ((e2.trans e3).trans (Ex.new np2)) upd_same⟩
/-- a, b, c = a tuple -/
theorem q_tup3 {i j k : Nat} {T : Addr} {x y z : V} (h : Ev te σ H (.ref T)) (hT : H T = some (.tup [x, y, z])) (q : ∀ H1, Ex H H1 → tz D (((σ.set i (some x)).set j (some y)).set k (some z)) H1) :
    tSeq (tAsg te (gTup K 3 (gCons (gName i) (gCons (gName j) (gCons (gName k) gNil))))) tz D σ H := h H (Ex.refl H) _ fun H1 e => ⟨T, [x, y, z], rfl, st_of (e T _ hT), rfl, _, _, rfl, _, _, rfl, _, _, rfl, rfl, q H1 e⟩
/-- all but d stands as it was -/
def ExB (d : Addr) (H H' : Hp) : Prop := ∀ a u, a ≠ d → H a = some u → H' a = some u
theorem sq_but {d p : Addr} {kvs : List (Key × V)} {xs : List V} (hd : H d = some (.dK kvs)) (e : ExB d H H') (h : SqL K H p xs) : SqL K H' p xs := by
  rcases h with (h | ⟨o, h⟩) | h
  · exact .inl (.inl (e p _ (fun z => by rw [z, hd] at h; cases h) h))
  · exact .inl (.inr ⟨o, e p _ (fun z => by rw [z, hd] at h; cases h) h⟩)
  · exact .inr h
/-- for k in d, nothing written to what stood -/
theorem s_forKeys {d : Addr} {kvs : List (Key × V)} {i0 j : Nat} (h : σ[i0]? = some (some (.ref d))) (hd : H d = some (.dK kvs)) (Pv : Nat → L2.St → Prop) (h0 : Pv 0 σ)
    (hs : ∀ i k σ' H' (D' : Ends), (kvs.map (·.1))[i]? = some k → Pv i σ' → Rd H' d (.dK kvs) → ExB d H H' → (∀ σ2 H2, Ex H' H2 → Pv (i + 1) σ2 → D'.nx σ2 H2) → (∀ v H2, Ex H' H2 → (∀ H3, Ex H H3 → D.rt v H3) → D'.rt v H2) → tu D' (σ'.set j (some (kV k))) H')
    (hd2 : ∀ σ' H', Ex H H' → Pv kvs.length σ' → D.nx σ' H') : tLock (tFor (iKeys (tVar i0)) (gName j) tu) D σ H := by
  refine ⟨d, .dK kvs, hd, trivial, fun od => ⟨.ref d, h, d, od, rfl, .inl ⟨kvs, upd_same, fun i m σ' H' => Pv i σ' ∧ Ex (upd H d (.frz od (.dK kvs))) H' ∧ i + m = kvs.length, ⟨kvs.length, h0, Ex.refl _, by omega⟩, fun i m σ' H' hw => ?_⟩⟩⟩
  obtain ⟨hp, ex, em⟩ := hw
  have hd' : H' d = some (.frz od (.dK kvs)) := ex d _ upd_same
  have back : ∀ H2, Ex (upd H d (.frz od (.dK kvs))) H2 → Ex H (upd H2 d (.dK kvs)) := fun H2 e a u ha => by
    by_cases z : a = d
    · subst z; rw [upd_same, ← hd, ha]
    · rw [upd_ne z]; exact e a u (by rw [upd_ne z]; exact ha)
  rcases Nat.lt_or_ge i kvs.length with hi | hi
  · have hk : kvs[i]? = some kvs[i] := List.getElem?_eq_getElem hi
    refine .inr ⟨⟨hd', hi⟩, fun σ2 H2 => Pv (i + 1) σ2 ∧ Ex (upd H d (.frz od (.dK kvs))) H2, fun σ2 H2 p2 => ⟨m - 1, by omega, p2.1, p2.2, by omega⟩, fun x H2 hy => ?_⟩
    obtain ⟨rfl, k, v, e1, rfl⟩ := hy
    refine hs i k σ' _ _ (by rw [List.getElem?_map, e1]; rfl) hp (.inr ⟨od, hd'⟩) (fun a u z ha => ex a u (by rw [upd_ne z]; exact ha)) (fun σ2 H3 e3 p3 => ⟨p3, ex.trans e3⟩) (fun v2 H3 e3 r3 => ⟨e3 d _ hd', r3 _ (back H3 (ex.trans e3))⟩)
  · have ei : i = kvs.length := by omega
    subst ei
    exact .inl ⟨⟨hd', Nat.le_refl _⟩, hd', hd2 σ' _ (back _ ex) hp⟩
end
end Tr

set_option Elab.async false
set_option linter.all false
set_option maxRecDepth 100000
set_option maxHeartbeats 4000000
/-! TrM: max(list of counts, default=0). -/
namespace Tr
open PySem PySem.Spec PyProof.Rows L2 Evl
def maxN (ns : List Nat) : Nat := ns.foldl max 0
theorem le_foldl (ns : List Nat) : ∀ a : Nat, a ≤ ns.foldl max a ∧ ∀ n ∈ ns, n ≤ ns.foldl max a := by
  induction ns with
  | nil => intro a; simp
  | cons x r ih =>
    intro a
    obtain ⟨h1, h2⟩ := ih (max a x)
    refine ⟨Nat.le_trans (Nat.le_max_left _ _) h1, fun n hn => ?_⟩
    rcases List.mem_cons.mp hn with rfl | hn
    · exact Nat.le_trans (Nat.le_max_right _ _) h1
    · exact h2 n hn
theorem le_maxN {ns : List Nat} {n : Nat} (h : n ∈ ns) : n ≤ maxN ns := (le_foldl ns 0).2 n h
theorem maxN_le {ns : List Nat} {b : Nat} (h : ∀ n ∈ ns, n ≤ b) : maxN ns ≤ b := by
  have : ∀ (ms : List Nat) (a : Nat), (∀ n ∈ ms, n ≤ b) → a ≤ b → ms.foldl max a ≤ b := by
    intro ms
    induction ms with
    | nil => intro a _ ha; exact ha
    | cons x r ih =>
      intro a hm ha
      exact ih (max a x) (fun n hn => hm n (by simp [hn])) (Nat.max_le.mpr ⟨ha, hm x (by simp)⟩)
  exact this ns 0 h (Nat.zero_le _)
theorem maxD_nat : ∀ (ns : List Nat) (a : Nat), PySem.W.maxD (.int (a : Int)) (ns.map fun n : Nat => PyData.int (n : Int)) = .int ((ns.foldl max a : Nat) : Int)
  | [], a => rfl
  | n :: r, a => by
    have ih := maxD_nat r (max a n)
    unfold PySem.W.maxD at ih ⊢
    rw [List.map_cons, List.foldl_cons, List.foldl_cons, ← ih]
    congr 1
    have e : PySem.W.dataLt (.int (a : Int)) (.int (n : Int)) = decide ((a : Int) < (n : Int)) := by
      exact PySem.W.dataLt_int _ _
    rw [e]
    by_cases h : a < n
    · rw [decide_eq_true (by omega), if_pos rfl, Nat.max_eq_right (by omega)]
    · rw [decide_eq_false (by omega), if_neg (by decide), Nat.max_eq_left (by omega)]
def rMaxD (K : PySem.W.Frag) : List V → List V → Hp → VK → Prop := fun vs zs H Q => ∃ (a : Addr) (ns : List Nat), vs = [.ref a] ∧ zs = [.int 0] ∧ SqL K H a (ns.map fun n : Nat => V.int (n : Int)) ∧ Q (.int ((maxN ns : Nat) : Int)) H
theorem cr_maxD {X : Cx} {K : PySem.W.Frag} (hK : X.K = K) (hc : X.calm = true) (hu : X.A.units + 1 < cLine) : CallRK X (.builtin "max") [Str.ofString "default"] (rMaxD K) := by
  subst hK
  intro pins s σ H vs zs us ws Q I r rz h
  obtain ⟨a, ns, rfl, rfl, hs, q⟩ := h
  obtain rfl := Vals.ref1 r
  obtain ⟨w1, rfl, e1⟩ := vals1 rz
  obtain ⟨tk0, rfl⟩ := (show ∃ t, w1 = Value.int 0 t from e1)
  obtain ⟨its, rv, hl, hz⟩ := I.list hs
  have hall : DpAll X.K H (ns.map fun n : Nat => V.int (n : Int)) (ns.map fun n : Nat => PyData.int (n : Int)) := by
    have := enc_all enc_int X.K H (List.map (fun n : Nat => (n : Int)) ns)
    rwa [List.map_map, List.map_map] at this
  obtain ⟨as, hr⟩ := Dp.readsAll I _ _ _ hall rv
  have hdep : PyData.depthAll (ns.map fun n : Nat => PyData.int (n : Int)) = 0 := by
    have := enc_depth enc_int (List.map (fun n : Nat => (n : Int)) ns)
    rwa [List.map_map] at this
  refine PySem.W.max_list_default (vs := its.toArray) (xs := ns.map fun n : Nat => PyData.int (n : Int)) (as := as) (I.ok.hd hc) hl.isList hr ⟨fun x hx y hy => ?_, fun x hx e => ?_⟩ (by rw [hdep]; exact hu) (fun h0 h' tk k => ?_) (fun y ys i v h' tk bs hxs _ hrd k => ?_)
  · obtain ⟨n, _, rfl⟩ := List.mem_map.mp hx
    obtain ⟨m, _, rfl⟩ := List.mem_map.mp hy
    first | rfl | simp [PySem.W.alike]
  · obtain ⟨n, _, rfl⟩ := List.mem_map.mp hx
    cases e
  · have hn : ns = [] := List.map_eq_nil_iff.mp h0
    subst hn
    exact ⟨.int 0, H, I.kept k, ⟨tk0, rfl⟩, q⟩
  · cases ns with
    | nil => cases hxs
    | cons n r =>
      rw [List.map_cons] at hxs
      obtain ⟨rfl, rfl⟩ := List.cons.inj hxs
      rw [maxD_nat] at hrd
      have e : n :: r ≠ [] := by simp
      have em : maxN (n :: r) = r.foldl max n := by
        unfold maxN; rw [List.foldl_cons, Nat.max_eq_right (Nat.zero_le n)]
      rw [em] at q
      cases hrd
      exact ⟨.int ((r.foldl max n : Nat) : Int), H, I.kept k, ⟨_, rfl⟩, q⟩
theorem ev_maxD {K : PySem.W.Frag} {σ : L2.St} {H : Hp} {ta tb : TE} {a : Addr} {ns : List Nat} (h : Ev ta σ H (.ref a)) (hs : SqL K H a (ns.map fun n : Nat => V.int (n : Int))) (hb : Ev tb σ H (.int 0)) : Ev (tCKw (rMaxD K) (tCons ta tNil) (tCons tb tNil)) σ H (.int ((maxN ns : Nat) : Int)) := fun H1 e Q q =>
  h H1 e _ fun H2 e2 => hb H2 (e.trans e2) _ fun H3 e3 => ⟨a, ns, rfl, rfl, ex_l ((e.trans e2).trans e3) hs, q H3 (e2.trans e3)⟩
end Tr

set_option Elab.async false
set_option linter.all false
set_option maxRecDepth 100000
set_option maxHeartbeats 4000000
/-! TrB: rules that the layer lacks: text * int, text[::-1], set(list of ints), list >= list of ints. -/
namespace Tr
open PySem PySem.Spec PyProof.Rows L2 Evl
/-! ### a text times an int -/
def repW (a : Wd) (n : Int) : Wd := (List.replicate n.toNat a).flatten
theorem fold_rep (a : Wd) (k : Nat) : ∀ acc : Wd, List.foldl (fun x y => x ++ y) acc.toArray (List.replicate k a.toArray) = (acc ++ (List.replicate k a).flatten).toArray := by
  induction k with
  | zero => intro acc; simp
  | succ k ih =>
    intro acc
    rw [List.replicate_succ, List.foldl_cons]
    have : acc.toArray ++ a.toArray = (acc ++ a).toArray := by simp
    rw [this, ih, List.replicate_succ, List.flatten_cons, List.append_assoc]
def rRepS : R2 := fun x y H Q => ∃ (a : Wd) (n : Int), x = tx a ∧ y = .int n ∧ -1000 ≤ n ∧ n ≤ 1000 ∧ a.length ≤ 1000 ∧ Q (tx (repW a n)) H
theorem op_rep_str {X : Cx} : OpR X (binaryOp .Mult) rRepS := by
  intro pins s σ H x y v u Q I rx ry h
  obtain ⟨a, n, rfl, rfl, h1, h2, h3, q⟩ := h
  obtain ⟨t, rfl⟩ := rx
  obtain ⟨t', rfl⟩ := ry
  have hmul : a.length * n.toNat ≤ 1000 * 1000 := Nat.mul_le_mul h3 (by omega)
  refine P.mul_str ?_ ?_ ?_ ?_
  · have e1 : ¬ n < -(2 ^ 63 : Int) := by omega
    have e2 : ¬ n ≥ 2 ^ 63 := by omega
    rw [decide_eq_false e1, decide_eq_false e2]; rfl
  · intro hn _ hc
    rw [S_len] at hc
    have e3 : (1000 : Int) ≤ (2 ^ 63 - 1) / n := by
      rw [Int.le_ediv_iff_mul_le (by omega)]; omega
    omega
  · intro hn _
    rw [S_len]
    unfold Builtin.Str.tooLong
    exact decide_eq_false (by rw [sizeLine_eq]; omega)
  · have fin : ∀ (b : Wd) (k : Tok) (tk : Tok), b = repW a n → EP X pins σ Q (.str (S b) k) { s with toks := tk } := fun b k tk e => ⟨tx (repW a n), H, I.tok _, ⟨k, by rw [e]⟩, q⟩
    by_cases hn : n < 1
    · rw [if_pos hn]
      refine ⟨by decide, ?_⟩
      have e0 : repW a n = [] := by
        unfold repW
        have : n.toNat = 0 := by omega
        rw [this]; rfl
      exact fin [] _ _ e0.symm
    · rw [if_neg hn]
      by_cases h4 : (n == 1 || (S a).length == 0) = true
      · rw [if_pos h4]
        have e0 : repW a n = a := by
          unfold repW
          rw [Bool.or_eq_true, beq_iff_eq, beq_iff_eq, S_len] at h4
          rcases h4 with h4 | h4
          · subst h4; simp
          · have : a = [] := List.eq_nil_of_length_eq_zero h4
            subst this
            have hh : ∀ k, (List.replicate k ([] : Wd)).flatten = [] := fun k => by induction k with
              | zero => rfl
              | succ k ih => rw [List.replicate_succ, List.flatten_cons, ih]; rfl
            exact hh _
        exact fin a t s.toks e0.symm
      · rw [if_neg h4]
        have e0 : (⟨(List.replicate n.toNat (S a).cps).foldl (· ++ ·) #[]⟩ : Str) = S (repW a n) := by
          show Str.mk (List.foldl (fun x y => x ++ y) ([] : Wd).toArray (List.replicate n.toNat a.toArray)) = _
          rw [fold_rep]; rfl
        rw [e0]
        refine ⟨by rw [S_len]; unfold repW; rw [List.length_flatten, List.map_replicate, List.sum_replicate_nat, Nat.mul_comm]; rw [sizeLine_eq]; omega, ?_⟩
        exact fin _ _ _ rfl
theorem rv_repS {H : Hp} {a : Wd} {n : Int} (h : (-1000 ≤ n ∧ n ≤ 1000) ∧ a.length ≤ 1000) : RV rRepS (tx a) (.int n) H (tx (repW a n)) := fun H1 _ Q q => ⟨a, n, rfl, rfl, h.1.1, h.1.2, h.2, q H1 (Ex.refl H1)⟩
/-! ### text[::-1] -/
def tRevS (te : TE) : TE := fun σ H Q => te σ H fun x H1 => ∃ a : Wd, x = tx a ∧ a.length ≤ 100000 ∧ Q (tx a.reverse) H1
theorem rev_indices (a : Wd) : (Builtin.Str.strSliceIndices none none (-1) (S a).length).filterMap ((S a).cps[·]?) = a.reverse := by
  have h1 : Builtin.Str.strSliceIndices none none (-1) (S a).length = sliceRange (((S a).length : Int) - 1) (-1) (-1) := rfl
  have h2 : (S a).length = a.toArray.size := rfl
  rw [h1, h2, PySem.W.krv_sliceRange, PySem.W.krv_range, List.filterMap_reverse]
  have h3 := PySem.W.krv_all a.toArray
  exact congrArg List.reverse (by simpa [S] using h3)
theorem pe_revS {X : Cx} {e : Expr} {te : TE} {k : Nat} {p1 p2 p3 pos : Pos} (he : PE X e te) : PE X (.Subscript e (.Slice none none (some (.UnaryOp .USub (.Constant (.int 1) k p1) p2)) p3) pos) (tRevS te) := by
  refine ⟨fun pins s σ H Q I h => Subscript_ (thn (he.run pins s σ H _ I h) fun v s1 ⟨x, H1, I1, r1, a, ex, hz, q⟩ => ?_)⟩
  subst ex
  obtain ⟨t, rfl⟩ := r1
  have hst : PO X (some (.UnaryOp .USub (.Constant (.int 1) k p1) p2)) (tPart (tUn (rU fun i => .int (-i)) (tC (.int 1)))) := po_some (pe_un un_neg pe_int)
  refine wpAny_Slice (thn (po_none.run pins s1 σ H1 (fun o H2 => o = none ∧ H2 = H1) I1 ⟨rfl, rfl⟩) fun vl s2 ⟨o2, H2, I2, pl, e2, e3⟩ => ?_)
  subst e2 e3
  refine thn (po_none.run pins s2 σ H2 (fun o H3 => o = none ∧ H3 = H2) I2 ⟨rfl, rfl⟩) fun vu s3 ⟨o3, H3, I3, pu, e4, e5⟩ => ?_
  subst e4 e5
  refine thn (hst.run pins s3 σ H3 (fun o H4 => o = some (-1) ∧ H4 = H3) I3 ⟨1, rfl, -1, rfl, rfl, rfl⟩) fun vs s4 ⟨o4, H4, I4, ps, e6, e7⟩ => ?_
  subst e6 e7
  obtain ⟨pl', rfl, hl⟩ := IsPart.raw pl
  obtain ⟨pu', rfl, hu⟩ := IsPart.raw pu
  obtain ⟨ps', rfl, hs⟩ := IsPart.raw ps
  have I5 : Inv X pins σ H4 { s4 with heap := s4.heap.push { cls := .type "slice", data := .fields #[partValue pl', partValue pu', partValue ps'] } } := I4.kept (t' := s4.toks) fun b ob q => Heap.get?_push_of_some _ q
  show wpAny (model X.prog X.w) X.A (subscriptTail e (.Slice none none (some (.UnaryOp .USub (.Constant (.int 1) k p1) p2)) p3) (.str (S a) t) (.ref s4.heap.objs.size)) (EP X pins σ Q) X.xe { s4 with heap := s4.heap.push { cls := .type "slice", data := .fields #[partValue pl', partValue pu', partValue ps'] } }
  refine tail_any (ops := [.str (S a) t, .ref s4.heap.objs.size]) (typeIs_str _ _ _) F.slot_str_getitem.lookup ?_ (by with_unfolding_all rfl)
  refine wpAny_getItem_str_slice (l := pl') (u := pu') (st := ps') ⟨_, Heap.get?_push_size _ rfl, rfl, rfl⟩ (by rw [hs]; rfl) ?_
  unfold sliceMade slicePicked
  rw [hs, hl, hu]
  show Made.post (if ((-1 : Int) == 1 && _) = true then _ else Made.str ⟨((Builtin.Str.strSliceIndices none none (-1) (S a).length).filterMap ((S a).cps[·]?)).toArray⟩) (EP X pins σ Q) _
  rw [if_neg (by simp)]
  show Made.post (Made.str ⟨((Builtin.Str.strSliceIndices none none (-1) (S a).length).filterMap ((S a).cps[·]?)).toArray⟩) (EP X pins σ Q) _
  rw [rev_indices]
  refine ⟨?_, tx a.reverse, H4, I5.tok _, ⟨_, rfl⟩, q⟩
  show (S a.reverse).length ≤ sizeLine
  rw [S_len, List.length_reverse]
  exact sz_of hz
theorem ev_revS {te : TE} {σ : L2.St} {H : Hp} {a : Wd} (h : Ev te σ H (tx a)) (hz : a.length ≤ 100000) : Ev (tRevS te) σ H (tx a.reverse) := fun H1 e Q q => h H1 e _ fun H2 e2 => ⟨a, rfl, hz, q H2 e2⟩
/-! ### list >= list of ints -/
end Tr
namespace TrG
open PySem PySem.SeqAt
open PySem.AutoSeq1 (wpAny_loadPart')
open PySem.MeetsSeq PySem.MeetsSeq2 PySem.MeetsSeq3 PySem.SeqRoads2
abbrev LObj (dd : Option Addr) (xs : Array Value) (n : Nat) (sl : Array (Option Value)) : Obj := { cls := .type "list", dict := dd, data := .seq xs n, slots := sl }
theorem ge_loop (l b : Addr) (xs ys : Array Value) (n n2 : Nat) (dd dd2 : Option Addr) (sl sl2 : Array (Option Value)) (e r : Nat → Bool) : ∀ (k i : Nat), min xs.size ys.size - i = k →
    Meets (Builtin.«list.__eq__.loop» ⟨[.ref l, .ref b, rawInt i, rawInt 5], []⟩) fun A R s =>
      s.heap.get? l = some (LObj dd xs n sl) ∧ s.heap.get? b = some (LObj dd2 ys n2 sl2) ∧ (∀ j (h1 : j < xs.size) (h2 : j < ys.size), EqAt A.in1 s xs[j] ys[j] (e j)) ∧
      (∀ j (h1 : j < xs.size) (h2 : j < ys.size), e j = false → Ob.RcOp .GtE A.in1 s xs[j] ys[j] (r j)) ∧ R (.ok (.ret (.bool (Ob.lexAt e r (decide (xs.size ≥ ys.size)) i k)))) s
  | 0, i, hk => fun prog w A R s h => by
    obtain ⟨h0, g, d, tk, os⟩ := s
    obtain ⟨hl, hb, he, hr, h⟩ := h
    wp_walk using wpAny_loadPart' hl, wpAny_loadPart' hb
    rcases Nat.lt_or_ge i xs.size with h1 | h1
    · have q1 : xs[((i : Nat) : Int).toNat]? = some xs[i] := by simp [h1]
      have q2 : ys[((i : Nat) : Int).toNat]? = none := by simp; omega
      rw [q1, q2]
      wp_walk using wpAny_loadPart' hl, wpAny_loadPart' hb
      exact h
    · have q1 : xs[((i : Nat) : Int).toNat]? = none := by simp; omega
      rw [q1]
      wp_walk using wpAny_loadPart' hl, wpAny_loadPart' hb
      exact h
  | k + 1, i, hk => fun prog w A R s h => by
    obtain ⟨h0, g, d, tk, os⟩ := s
    obtain ⟨hl, hb, he, hr, h⟩ := h
    wp_walk using wpAny_loadPart' hl, wpAny_loadPart' hb
    have l1 : i < xs.size := by omega
    have l2 : i < ys.size := by omega
    have q1 : xs[((i : Nat) : Int).toNat]? = some xs[i] := by simp [l1]
    have q2 : ys[((i : Nat) : Int).toNat]? = some ys[i] := by simp [l2]
    rw [Ob.lexAt_succ] at h
    rw [q1, q2]
    refine wpAny_bind (he i l1 l2 prog w _ _ ?_)
    cases hei : e i with
    | true =>
      rw [hei, if_pos rfl] at h
      wp_walk
      have q3 : (i : Int) + 1 = ((i + 1 : Nat) : Int) := by omega
      rw [q3]
      exact ⟨plainId_quiet plain_eq_loop _, codeAny_builtin entry_eq_loop (by
        rw [Around.under_plainId plain_eq_loop _]
        exact ge_loop l b xs ys n n2 dd dd2 sl sl2 e r k (i + 1) (by omega) prog w A R _ ⟨hl, hb, he, hr, h⟩)⟩
    | false =>
      rw [hei, if_neg Bool.false_ne_true] at h
      wp_walk using wpAny_loadPart' hl, wpAny_loadPart' hb
      rw [q1, q2]
      have hri := hr i l1 l2 hei prog w
      wp_walk using hri
      exact h
theorem ge_at (l b : Addr) (xs ys : Array Value) (n n2 : Nat) (dd dd2 : Option Addr) (sl sl2 : Array (Option Value)) (e r : Nat → Bool) :
    Meets (Builtin.«list.__ge__» ⟨[.ref l, .ref b], []⟩) fun A R s =>
      s.heap.get? l = some (LObj dd xs n sl) ∧ s.heap.get? b = some (LObj dd2 ys n2 sl2) ∧ (∀ j (h1 : j < xs.size) (h2 : j < ys.size), EqAt A.in1 s xs[j] ys[j] (e j)) ∧
      (∀ j (h1 : j < xs.size) (h2 : j < ys.size), e j = false → Ob.RcOp .GtE A.in1 s xs[j] ys[j] (r j)) ∧ R (.ok (.ret (.bool (Ob.lexAt e r (decide (xs.size ≥ ys.size)) 0 (min xs.size ys.size))))) s := fun prog w A R s h => by
  obtain ⟨h0, g, d, tk, os⟩ := s
  obtain ⟨hl, hb, he, hr, h⟩ := h
  have f3 := AutoSeq1.sub_list_list
  wp_walk using wpAny_loadPart' hl, wpAny_loadPart' hb
  exact ⟨plainId_quiet plain_eq_loop _, codeAny_builtin entry_eq_loop (by
    rw [Around.under_plainId plain_eq_loop _]
    exact ge_loop l b xs ys n n2 dd dd2 sl sl2 e r _ 0 rfl prog w A R _ ⟨hl, hb, he, hr, by simpa using h⟩)⟩
theorem ge_lists {A : Around} {s : Shared} {l b : Addr} {xs ys : Array Value} {e r : Nat → Bool} (hl : s.heap.IsList l xs) (hb : s.heap.IsList b ys) (hu : A.units < cLine) (he : ∀ j (h1 : j < xs.size) (h2 : j < ys.size), EqAt A.in1 s xs[j] ys[j] (e j))
    (hr : ∀ j (h1 : j < xs.size) (h2 : j < ys.size), e j = false → Ob.RcOp .GtE A.in1 s xs[j] ys[j] (r j)) : Ob.RcOp .GtE A s (.ref l) (.ref b) (Ob.lexAt e r (decide (xs.size ≥ ys.size)) 0 (min xs.size ys.size)) := fun prog w E Q h => by
  obtain ⟨⟨c1, d1, x1, s1⟩, g1, k1, n, k2⟩ := id hl
  obtain ⟨⟨c2, d2, x2, s2⟩, g2, k3, n2, k4⟩ := id hb
  dsimp only at k1 k2 k3 k4
  subst k1 k2 k3 k4
  exact richCompare_meets_room (op := .GtE) ⟨_, g1, rfl⟩ ⟨_, g2, rfl⟩ F.slot_list_ge F.entry_list_ge (F.args_list_ge_2 _ _) (ge_at l b xs ys n n2 d1 d2 s1 s2 e r) ⟨g1, g2, he, hr, ⟨(fun x => nomatch x), h⟩⟩ hu
end TrG
namespace Tr
open PySem PySem.Spec PyProof.Rows L2 Evl
/-- a >= b of lists of ints, as the machine finds it -/
def geI (ns ms : List Int) : Bool := Ob.lexAt (fun j => decide (ns.getD j 0 = ms.getD j 0)) (fun j => decide (ms.getD j 0 ≤ ns.getD j 0)) (decide (ns.length ≥ ms.length)) 0 (min ns.length ms.length)
def rGeL (K : PySem.W.Frag) : R2 := fun x y H Q => ∃ (a b : Addr) (ns ms : List Int), x = .ref a ∧ y = .ref b ∧ SqL K H a (ns.map V.int) ∧ SqL K H b (ms.map V.int) ∧ Q (.bl (geI ns ms)) H
theorem op_geLK {X : Cx} {K : PySem.W.Frag} (hK : X.K = K) (hu : X.A.units < cLine) : OpR X (compareOp .GtE) (rGeL K) := by
  subst hK
  intro pins s σ H x y v u Q I rx ry h
  obtain ⟨a, b, ns, ms, rfl, rfl, ha, hb, q⟩ := h
  cases rx
  cases ry
  obtain ⟨us, r1, p1, _⟩ := I.list ha
  obtain ⟨us2, r2, p2, _⟩ := I.list hb
  have i1 : IntsAre us ns := Vals.ints r1
  have i2 : IntsAre us2 ms := Vals.ints r2
  have z1 : us.toArray.size = ns.length := by rw [List.size_toArray]; exact i1.length
  have z2 : us2.toArray.size = ms.length := by rw [List.size_toArray]; exact i2.length
  have t1 : ∀ j (h1 : j < us.toArray.size), ∃ t, us.toArray[j] = .int (ns.getD j 0) t := fun j h1 => PyProof.Rows.IntsAre.int_at i1 _ _ (by simp at h1; simp [h1])
  have t2 : ∀ j (h1 : j < us2.toArray.size), ∃ t, us2.toArray[j] = .int (ms.getD j 0) t := fun j h1 => PyProof.Rows.IntsAre.int_at i2 _ _ (by simp at h1; simp [h1])
  have R := TrG.ge_lists (A := X.A) (s := s) (e := fun j => decide (ns.getD j 0 = ms.getD j 0)) (r := fun j => decide (ms.getD j 0 ≤ ns.getD j 0)) p1.isList p2.isList hu (fun j h1 h2 => by
    obtain ⟨t, et⟩ := t1 j h1
    obtain ⟨t', et'⟩ := t2 j h2
    rw [et, et', show decide (ns.getD j 0 = ms.getD j 0) = (ns.getD j 0 == ms.getD j 0) from (Bool.beq_eq_decide_eq _ _).symm]
    exact SeqAt.EqAt.int_int _ _ _ _) (fun j h1 h2 _ => by
    obtain ⟨t, et⟩ := t1 j h1
    obtain ⟨t', et'⟩ := t2 j h2
    rw [et, et']
    exact Ob.RcOp.ge_int _ _ _ _)
  rw [z1, z2] at R
  exact (R X.prog X.w X.xe (EP X pins σ Q) ⟨.bl _, H, I, rfl, q⟩ : wpAny (model X.prog X.w) X.A (compareOp .GtE (.ref a) (.ref b)) (EP X pins σ Q) X.xe s)
theorem rv_geL {K : PySem.W.Frag} {H : Hp} {a b : Addr} {ns ms : List Int} (ha : SqL K H a (ns.map V.int)) (hb : SqL K H b (ms.map V.int)) : RV (rGeL K) (.ref a) (.ref b) H (.bl (geI ns ms)) := fun H1 e _ q => ⟨a, b, ns, ms, rfl, rfl, ex_l e ha, ex_l e hb, q H1 (Ex.refl H1)⟩
end Tr

set_option linter.all false
/-! M3: counting readings, in plain Lean -/
namespace M3
abbrev Wd := List Nat
def pre (a t : Wd) : Bool := decide (t.take a.length = a)
def waysF (ws : List Wd) : Nat → Wd → Nat
  | _, [] => 1
  | 0, _ :: _ => 0
  | n + 1, c :: r => ((ws.filter fun a => pre a (c :: r)).map fun a => waysF ws n ((c :: r).drop a.length)).sum
def ways (ws : List Wd) (t : Wd) : Nat := waysF ws t.length t
theorem sum_congr {α : Type} {f g : α → Nat} : ∀ {l : List α}, (∀ x ∈ l, f x = g x) → (l.map f).sum = (l.map g).sum
  | [], _ => rfl
  | x :: r, h => by
    simp only [List.map_cons, List.sum_cons]
    rw [h x (by simp), sum_congr fun y hy => h y (by simp [hy])]
theorem waysF_fuel (ws : List Wd) (hw : ∀ a ∈ ws, a ≠ []) : ∀ (n m : Nat) (t : Wd), t.length ≤ n → t.length ≤ m → waysF ws n t = waysF ws m t
  | n, m, [], _, _ => by cases n <;> cases m <;> rfl
  | 0, m, c :: r, h, _ => by simp at h
  | n + 1, 0, c :: r, _, h => by simp at h
  | n + 1, m + 1, c :: r, h1, h2 => by
    simp only [waysF]
    apply sum_congr
    intro a ha
    have ha' := List.mem_filter.mp ha
    have hl : 0 < a.length := List.length_pos_iff.mpr (hw a ha'.1)
    apply waysF_fuel ws hw
    · simp only [List.length_drop, List.length_cons] at h1 ⊢; omega
    · simp only [List.length_drop, List.length_cons] at h2 ⊢; omega
theorem ways_nil (ws : List Wd) : ways ws [] = 1 := rfl
theorem ways_eq (ws : List Wd) (hw : ∀ a ∈ ws, a ≠ []) {t : Wd} (ht : t ≠ []) : ways ws t = ((ws.filter fun a => pre a t).map fun a => ways ws (t.drop a.length)).sum := by
  cases t with
  | nil => exact absurd rfl ht
  | cons c r =>
    show waysF ws (r.length + 1) (c :: r) = _
    simp only [waysF]
    apply sum_congr
    intro a ha
    have ha' := List.mem_filter.mp ha
    have hl : 0 < a.length := List.length_pos_iff.mpr (hw a ha'.1)
    unfold ways
    apply waysF_fuel ws hw
    · simp only [List.length_drop, List.length_cons]; omega
    · exact Nat.le_refl _
theorem pre_len {a t : Wd} (h : pre a t = true) : a.length ≤ t.length := by
  have := of_decide_eq_true h
  have h2 := congrArg List.length this
  simp only [List.length_take] at h2
  omega
theorem pre_app {a t : Wd} (h : pre a t = true) : a ++ t.drop a.length = t := by
  have := of_decide_eq_true h
  have h2 := List.take_append_drop a.length t
  rw [this] at h2; exact h2
/-! the counts ahead of a place -/
def bef (ws : List Wd) (t : Wd) (p : Nat) : Nat := (((ws.take p).filter fun a => pre a t).map fun a => ways ws (t.drop a.length)).sum
theorem bef_zero (ws : List Wd) (t : Wd) : bef ws t 0 = 0 := by simp [bef]
theorem bef_succ (ws : List Wd) (t : Wd) {p : Nat} {a : Wd} (h : ws[p]? = some a) : bef ws t (p + 1) = bef ws t p + (if pre a t = true then ways ws (t.drop a.length) else 0) := by
  unfold bef
  rw [List.take_succ, h, List.filter_append, List.map_append, List.sum_append]
  by_cases hp : pre a t = true <;> simp [hp]
theorem bef_all (ws : List Wd) (hw : ∀ a ∈ ws, a ≠ []) {t : Wd} (ht : t ≠ []) : bef ws t ws.length = ways ws t := by
  rw [ways_eq ws hw ht]; unfold bef; rw [List.take_length]
theorem bef_mono (ws : List Wd) (t : Wd) {p q : Nat} (h : p ≤ q) : bef ws t p ≤ bef ws t q := by
  induction q with
  | zero => have : p = 0 := by omega
            subst this; exact Nat.le_refl _
  | succ q ih =>
    rcases Nat.lt_or_ge p (q + 1) with h1 | h1
    · refine Nat.le_trans (ih (by omega)) ?_
      cases hq : ws[q]? with
      | some a => rw [bef_succ ws t hq]; omega
      | none =>
        have : ws.length ≤ q := List.getElem?_eq_none_iff.mp hq
        unfold bef
        rw [List.take_of_length_le this, List.take_of_length_le (by omega)]
        exact Nat.le_refl _
    · have : p = q + 1 := by omega
      subst this; exact Nat.le_refl _
/-- the first place whose count reaches behind k -/
def pick (ws : List Wd) (t : Wd) : List Wd → Nat → Nat → Option (Nat × Nat)
  | [], _, _ => none
  | a :: r, i, k => if pre a t = true then (if k < ways ws (t.drop a.length) then some (i, k) else pick ws t r (i + 1) (k - ways ws (t.drop a.length))) else pick ws t r (i + 1) k
def wat (ws : List Wd) (i : Nat) : Wd := ws.getD i []
theorem pick_some (ws : List Wd) (t : Wd) : ∀ (r : List Wd) (i k : Nat), ws.drop i = r → i ≤ ws.length → bef ws t i + k < bef ws t ws.length →
    ∃ j k', pick ws t r i k = some (j, k') ∧ j < ws.length ∧ pre (wat ws j) t = true ∧ k' < ways ws (t.drop (wat ws j).length) ∧ bef ws t j + k' = bef ws t i + k := by
  intro r
  induction r with
  | nil =>
    intro i k hd hi hk
    have : ws.length ≤ i := by
      have := congrArg List.length hd
      simp at this; omega
    have e : i = ws.length := by omega
    subst e; omega
  | cons a r ih =>
    intro i k hd hi hk
    have hil : i < ws.length := by
      have := congrArg List.length hd
      simp at this; omega
    have ha : ws[i]? = some a := by
      have := List.getElem?_drop (xs := ws) (i := i) (j := 0)
      rw [hd] at this
      simpa using this.symm
    have hr : ws.drop (i + 1) = r := by
      rw [← List.drop_drop, hd]; rfl
    have ew : wat ws i = a := by simp [wat, List.getD, ha]
    have hb := bef_succ ws t ha
    unfold pick
    by_cases hp : pre a t = true
    · rw [if_pos hp] at hb ⊢
      by_cases hk2 : k < ways ws (t.drop a.length)
      · rw [if_pos hk2]
        exact ⟨i, k, rfl, hil, by rw [ew]; exact hp, by rw [ew]; exact hk2, rfl⟩
      · rw [if_neg hk2]
        obtain ⟨j, k', e1, e2, e3, e4, e5⟩ := ih (i + 1) (k - ways ws (t.drop a.length)) hr (by omega) (by rw [hb]; omega)
        exact ⟨j, k', e1, e2, e3, e4, by rw [e5, hb]; omega⟩
    · rw [if_neg hp] at hb ⊢
      obtain ⟨j, k', e1, e2, e3, e4, e5⟩ := ih (i + 1) k hr (by omega) (by rw [hb]; omega)
      exact ⟨j, k', e1, e2, e3, e4, by rw [e5, hb]; omega⟩
/-- the reading of a count -/
def nthF (ws : List Wd) : Nat → Wd → Nat → List Nat
  | _, [], _ => []
  | 0, _ :: _, _ => []
  | n + 1, c :: r, k => match pick ws (c :: r) ws 0 k with
    | some (j, k') => j :: nthF ws n ((c :: r).drop (wat ws j).length) k'
    | none => []
def nthW (ws : List Wd) (t : Wd) (k : Nat) : List Nat := nthF ws t.length t k
def joinW (ws : List Wd) (ns : List Nat) : Wd := (ns.map (wat ws)).flatten
/-- a reading's count -/
def num (ws : List Wd) : Wd → List Nat → Nat
  | _, [] => 0
  | t, p :: r => bef ws t p + num ws (t.drop (wat ws p).length) r
theorem wat_ne {ws : List Wd} (hw : ∀ a ∈ ws, a ≠ []) {j : Nat} (h : j < ws.length) : 0 < (wat ws j).length := by
  have : wat ws j = ws[j] := by simp [wat, List.getD, h]
  rw [this]
  exact List.length_pos_iff.mpr (hw _ (List.getElem_mem h))
theorem nthF_ok (ws : List Wd) (hw : ∀ a ∈ ws, a ≠ []) : ∀ (n : Nat) (t : Wd) (k : Nat), t.length ≤ n → k < ways ws t →
    joinW ws (nthF ws n t k) = t ∧ (∀ p ∈ nthF ws n t k, p < ws.length) ∧ num ws t (nthF ws n t k) = k := by
  intro n
  induction n with
  | zero =>
    intro t k ht hk
    have : t = [] := List.eq_nil_of_length_eq_zero (by omega)
    subst this
    rw [ways_nil] at hk
    exact ⟨rfl, by simp [nthF], by simp [nthF, num]; omega⟩
  | succ n ih =>
    intro t k ht hk
    cases t with
    | nil =>
      rw [ways_nil] at hk
      exact ⟨rfl, by simp [nthF], by simp [nthF, num]; omega⟩
    | cons c r =>
      have hne : (c :: r) ≠ [] := by simp
      obtain ⟨j, k', e1, e2, e3, e4, e5⟩ := pick_some ws (c :: r) ws 0 k rfl (by omega) (by rw [bef_zero, bef_all ws hw hne]; omega)
      have hl := wat_ne hw e2
      obtain ⟨i1, i2, i3⟩ := ih ((c :: r).drop (wat ws j).length) k' (by simp only [List.length_drop, List.length_cons] at ht ⊢; omega) e4
      simp only [nthF, e1]
      refine ⟨?_, ?_, ?_⟩
      · show (wat ws j) ++ joinW ws _ = _
        rw [i1]; exact pre_app e3
      · intro p hp
        rcases List.mem_cons.mp hp with rfl | hp
        · exact e2
        · exact i2 p hp
      · show bef ws (c :: r) j + num ws _ _ = k
        rw [i3, e5, bef_zero, Nat.zero_add]
theorem nthW_ok (ws : List Wd) (hw : ∀ a ∈ ws, a ≠ []) {t : Wd} {k : Nat} (hk : k < ways ws t) :
    joinW ws (nthW ws t k) = t ∧ (∀ p ∈ nthW ws t k, p < ws.length) ∧ num ws t (nthW ws t k) = k := nthF_ok ws hw _ t k (Nat.le_refl _) hk
theorem join_cons (ws : List Wd) (p : Nat) (r : List Nat) : joinW ws (p :: r) = wat ws p ++ joinW ws r := rfl
theorem join_len (ws : List Wd) (hw : ∀ a ∈ ws, a ≠ []) : ∀ ns : List Nat, (∀ p ∈ ns, p < ws.length) → ns.length ≤ (joinW ws ns).length
  | [], _ => by simp
  | p :: r, h => by
    rw [join_cons, List.length_append, List.length_cons]
    have h1 := wat_ne hw (h p (by simp))
    have h2 := join_len ws hw r fun q hq => h q (by simp [hq])
    omega
theorem pre_of_join {ws : List Wd} {p : Nat} {r : List Nat} {t : Wd} (h : joinW ws (p :: r) = t) : pre (wat ws p) t = true ∧ joinW ws r = t.drop (wat ws p).length := by
  rw [join_cons] at h
  subst h
  exact ⟨by simp [pre], by simp⟩
theorem wat_getElem {ws : List Wd} {p : Nat} (h : p < ws.length) : ws[p]? = some (wat ws p) := by
  simp [wat, List.getD, h]
theorem num_lt (ws : List Wd) (hw : ∀ a ∈ ws, a ≠ []) : ∀ (ns : List Nat) (t : Wd), (∀ p ∈ ns, p < ws.length) → joinW ws ns = t → num ws t ns < ways ws t
  | [], t, _, h => by
    have : t = [] := h.symm
    subst this; simp [num, ways_nil]
  | p :: r, t, hp, h => by
    obtain ⟨h1, h2⟩ := pre_of_join h
    have hpl := hp p (by simp)
    have ih := num_lt ws hw r (t.drop (wat ws p).length) (fun q hq => hp q (by simp [hq])) h2
    have hne : t ≠ [] := fun e => by
      have := pre_len h1
      have h3 := wat_ne hw hpl
      rw [e, List.length_nil] at this; omega
    have hm := bef_mono ws t (show p + 1 ≤ ws.length by omega)
    rw [bef_all ws hw hne] at hm
    have e : num ws t (p :: r) = bef ws t p + num ws (t.drop (wat ws p).length) r := rfl
    rw [e]
    rw [bef_succ ws t (wat_getElem hpl), if_pos h1] at hm
    exact Nat.lt_of_lt_of_le (Nat.add_lt_add_left ih _) hm
/-- a list not before another one, as Python's >= tells -/
def lexGe : List Nat → List Nat → Bool
  | _, [] => true
  | [], _ :: _ => false
  | x :: xs, y :: ys => if x = y then lexGe xs ys else decide (y ≤ x)
theorem num_ge (ws : List Wd) (hw : ∀ a ∈ ws, a ≠ []) : ∀ (xs ys : List Nat) (t : Wd), (∀ p ∈ xs, p < ws.length) → (∀ p ∈ ys, p < ws.length) → joinW ws xs = t → joinW ws ys = t → lexGe xs ys = true → num ws t ys ≤ num ws t xs
  | [], [], _, _, _, _, _, _ => Nat.le_refl _
  | [], y :: ys, _, _, _, _, _, h => by simp [lexGe] at h
  | x :: xs, [], t, _, _, _, _, _ => by simp [num]
  | x :: xs, y :: ys, t, hx, hy, jx, jy, h => by
    obtain ⟨x1, x2⟩ := pre_of_join jx
    obtain ⟨y1, y2⟩ := pre_of_join jy
    have hxl := hx x (by simp)
    have hyl := hy y (by simp)
    unfold lexGe at h
    by_cases e : x = y
    · subst e
      rw [if_pos rfl] at h
      have ih := num_ge ws hw xs ys (t.drop (wat ws x).length) (fun q hq => hx q (by simp [hq])) (fun q hq => hy q (by simp [hq])) x2 y2 h
      show bef ws t x + _ ≤ bef ws t x + _
      omega
    · rw [if_neg e] at h
      have hle := of_decide_eq_true h
      have hb := bef_succ ws t (wat_getElem hyl)
      rw [if_pos y1] at hb
      have hm := bef_mono ws t (show y + 1 ≤ x by omega)
      have hl := num_lt ws hw ys (t.drop (wat ws y).length) (fun q hq => hy q (by simp [hq])) y2
      show bef ws t y + _ ≤ bef ws t x + _
      omega
theorem nth_rising (ws : List Wd) (hw : ∀ a ∈ ws, a ≠ []) {t : Wd} {k l : Nat} (hl : l < ways ws t) (h : k < l) : lexGe (nthW ws t k) (nthW ws t l) = false := by
  obtain ⟨a1, a2, a3⟩ := nthW_ok ws hw (show k < ways ws t by omega)
  obtain ⟨b1, b2, b3⟩ := nthW_ok ws hw hl
  cases e : lexGe (nthW ws t k) (nthW ws t l) with
  | false => rfl
  | true =>
    have := num_ge ws hw _ _ t a2 b2 a1 b1 e
    rw [a3, b3] at this
    omega
/-! counting from the beginning on -/
/-- the sum of F j * ways of what is behind j, j from m on, k of them -/
def pot (ws : List Wd) (t : Wd) (F : Nat → Nat) : Nat → Nat → Nat
  | _, 0 => 0
  | m, k + 1 => F m * ways ws (t.drop m) + pot ws t F (m + 1) k
def bump (F : Nat → Nat) (j x : Nat) : Nat → Nat := fun i => if i = j then F i + x else F i
theorem pot_out (ws : List Wd) (t : Wd) (F : Nat → Nat) (j x : Nat) : ∀ (k m : Nat), (j < m ∨ m + k ≤ j) → pot ws t (bump F j x) m k = pot ws t F m k
  | 0, _, _ => rfl
  | k + 1, m, h => by
    simp only [pot]
    rw [pot_out ws t F j x k (m + 1) (by omega)]
    have : bump F j x m = F m := by unfold bump; rw [if_neg (by omega)]
    rw [this]
theorem pot_in (ws : List Wd) (t : Wd) (F : Nat → Nat) (j x : Nat) : ∀ (k m : Nat), m ≤ j → j < m + k → pot ws t (bump F j x) m k = pot ws t F m k + x * ways ws (t.drop j)
  | 0, m, h1, h2 => by omega
  | k + 1, m, h1, h2 => by
    simp only [pot]
    by_cases e : m = j
    · subst e
      rw [pot_out ws t F m x k (m + 1) (by omega)]
      have : bump F m x m = F m + x := by unfold bump; rw [if_pos rfl]
      rw [this, Nat.add_mul]; omega
    · rw [pot_in ws t F j x k (m + 1) (by omega) (by omega)]
      have : bump F j x m = F m := by unfold bump; rw [if_neg e]
      rw [this]; omega
/-- the words that stand at m, one after another -/
def spread (t : Wd) (m : Nat) (F : Nat → Nat) (ws : List Wd) : Nat → Nat := ws.foldl (fun G a => if pre a (t.drop m) = true then bump G (m + a.length) (F m) else G) F
theorem spread_at (t : Wd) (m : Nat) (F : Nat → Nat) : ∀ (us : List Wd), (∀ a ∈ us, a ≠ []) → ∀ G : Nat → Nat, G m = F m → (us.foldl (fun G a => if pre a (t.drop m) = true then bump G (m + a.length) (F m) else G) G) m = F m
  | [], _, G, h => h
  | a :: r, hw, G, h => by
    simp only [List.foldl_cons]
    apply spread_at t m F r (fun b hb => hw b (by simp [hb]))
    have hl : 0 < a.length := List.length_pos_iff.mpr (hw a (by simp))
    by_cases hp : pre a (t.drop m) = true
    · rw [if_pos hp]; unfold bump; rw [if_neg (by omega)]; exact h
    · rw [if_neg hp]; exact h
theorem spread_pot (ws : List Wd) (t : Wd) (m : Nat) (hm : m < t.length) (x : Nat) : ∀ (us : List Wd), (∀ a ∈ us, a ≠ []) → ∀ G : Nat → Nat,
    pot ws t (us.foldl (fun G a => if pre a (t.drop m) = true then bump G (m + a.length) x else G) G) (m + 1) (t.length - m) =
    pot ws t G (m + 1) (t.length - m) + x * ((us.filter fun a => pre a (t.drop m)).map fun a => ways ws ((t.drop m).drop a.length)).sum
  | [], _, G => by simp
  | a :: r, hw, G => by
    have hl : 0 < a.length := List.length_pos_iff.mpr (hw a (by simp))
    simp only [List.foldl_cons]
    rw [spread_pot ws t m hm x r (fun b hb => hw b (by simp [hb]))]
    by_cases hp : pre a (t.drop m) = true
    · have hpl := pre_len hp
      rw [List.length_drop] at hpl
      rw [if_pos hp, pot_in ws t G (m + a.length) x _ _ (by omega) (by omega), List.filter_cons, if_pos hp, List.map_cons, List.sum_cons, List.drop_drop, Nat.mul_add]
      omega
    · rw [if_neg hp, List.filter_cons, if_neg hp]
theorem spread_step (ws : List Wd) (hw : ∀ a ∈ ws, a ≠ []) (t : Wd) (m : Nat) (hm : m < t.length) (F : Nat → Nat) :
    pot ws t (spread t m F ws) (m + 1) (t.length - m) = pot ws t F m (t.length - m + 1) := by
  unfold spread
  rw [spread_pot ws t m hm (F m) ws hw F]
  show _ = F m * ways ws (t.drop m) + pot ws t F (m + 1) (t.length - m)
  have hne : t.drop m ≠ [] := fun e => by
    have := congrArg List.length e
    simp at this; omega
  rw [ways_eq ws hw hne]
  omega
/-- where nothing leads, nothing is spread -/
theorem bump_zero (F : Nat → Nat) (j : Nat) : bump F j 0 = F := by
  funext i; unfold bump; split <;> rfl
theorem spread_zero (t : Wd) (m : Nat) (F : Nat → Nat) (h : F m = 0) (ws : List Wd) : spread t m F ws = F := by
  unfold spread
  rw [h]
  induction ws with
  | nil => rfl
  | cons a r ih =>
    simp only [List.foldl_cons, bump_zero, ite_self] at ih ⊢
    exact ih
end M3

set_option linter.all false
/-! M2: the marks that words lead to, in plain Lean. -/
namespace M2
open M3
theorem nodup_len : ∀ (n : Nat) (l : List Nat), l.Nodup → (∀ x ∈ l, x < n) → l.length ≤ n
  | 0, l, _, h => by
    cases l with
    | nil => simp
    | cons x r => exact absurd (h x (by simp)) (by omega)
  | n + 1, l, hn, h => by
    by_cases hm : n ∈ l
    · have h1 := nodup_len n (l.erase n) (hn.erase n) (fun x hx => by
        have h2 := h x (List.mem_of_mem_erase hx)
        have h3 : x ≠ n := fun e => by
          subst e
          exact (List.Nodup.mem_erase_iff hn).mp hx |>.1 rfl
        omega)
      rw [List.length_erase_of_mem hm] at h1
      omega
    · have h1 := nodup_len n l hn (fun x hx => by
        have h2 := h x hx
        have h3 : x ≠ n := fun e => hm (e ▸ hx)
        omega)
      omega
theorem sum_ge {f : Wd → Nat} : ∀ {xs : List Wd} {a : Wd}, a ∈ xs → f a ≤ (xs.map f).sum
  | [], _, h => by simp at h
  | x :: xs, a, h => by
    rw [List.map_cons, List.sum_cons]
    rcases List.mem_cons.mp h with rfl | h
    · omega
    · have := sum_ge (f := f) h
      omega
/-- a word that stands at m leads on to no more ways than there are at m -/
theorem ways_step (ws : List Wd) (hw : ∀ a ∈ ws, a ≠ []) {t a : Wd} {m : Nat} (ha : a ∈ ws) (h : pre a (t.drop m) = true) : ways ws (t.drop (m + a.length)) ≤ ways ws (t.drop m) := by
  have hl := pre_len h
  have h0 : 0 < a.length := List.length_pos_iff.mpr (hw a ha)
  have hne : t.drop m ≠ [] := fun e => by rw [e, List.length_nil] at hl; omega
  rw [ways_eq ws hw hne]
  have := sum_ge (f := fun b => ways ws ((t.drop m).drop b.length)) (List.mem_filter.mpr ⟨ha, h⟩ : a ∈ ws.filter fun b => pre b (t.drop m))
  rw [List.drop_drop] at this
  exact this
/-- what the search keeps -/
structure Inv (ws : List Wd) (t : Wd) (fs : List Nat) : Prop where
  zero : 0 ∈ fs
  nd : fs.Nodup
  le : ∀ m ∈ fs, m ≤ t.length ∧ ways ws (t.drop m) ≤ ways ws t
def closed (ws : List Wd) (t : Wd) (fs : List Nat) (m : Nat) : Prop := ∀ a ∈ ws, pre a (t.drop m) = true → m + a.length ∈ fs
theorem Inv.len {ws : List Wd} {t : Wd} {fs : List Nat} (h : Inv ws t fs) : fs.length ≤ t.length + 1 := nodup_len _ fs h.nd fun x hx => by have := (h.le x hx).1; omega
theorem inv_start (ws : List Wd) (t : Wd) : Inv ws t [0] := ⟨by simp, by simp, fun m hm => by
  rw [List.mem_singleton.mp hm]; exact ⟨by omega, by rw [List.drop_zero]; exact Nat.le_refl _⟩⟩
theorem inv_add {ws : List Wd} (hw : ∀ a ∈ ws, a ≠ []) {t : Wd} {fs : List Nat} (h : Inv ws t fs) {m : Nat} (hm : m ∈ fs) {a : Wd} (ha : a ∈ ws) (hp : pre a (t.drop m) = true) (hn : m + a.length ∉ fs) : Inv ws t (fs ++ [m + a.length]) := by
  have hl := pre_len hp
  rw [List.length_drop] at hl
  have h1 := h.le m hm
  have h0 : 0 < a.length := List.length_pos_iff.mpr (hw a ha)
  refine ⟨List.mem_append_left _ h.zero, ?_, fun x hx => ?_⟩
  · rw [List.nodup_append]
    refine ⟨h.nd, by simp, fun x hx y hy => ?_⟩
    rw [List.mem_singleton.mp hy]
    exact fun e => hn (e ▸ hx)
  · rcases List.mem_append.mp hx with hx | hx
    · exact h.le x hx
    · rw [List.mem_singleton.mp hx]
      exact ⟨by omega, Nat.le_trans (ways_step ws hw ha hp) h1.2⟩
/-- the end is not among them where there is no way -/
theorem no_end {ws : List Wd} {t : Wd} {fs : List Nat} (h : Inv ws t fs) (h0 : ways ws t = 0) : t.length ∉ fs := fun hm => by
  have := (h.le _ hm).2
  rw [List.drop_length, ways_nil, h0] at this
  omega
end M2

set_option linter.all false
/-! M1: tails that close a code make it readable in one way at the most; such a code takes no more than there is. Plain Lean. -/
namespace M1
open M3
/-! ### tails -/
/-- what a set of tails must hold -/
structure Cl (ws : List Wd) (T : Wd → Prop) : Prop where
  ne : ¬ T []
  first : ∀ i j, i < ws.length → j < ws.length → i ≠ j → pre (wat ws i) (wat ws j) = true → T ((wat ws j).drop (wat ws i).length)
  fwd : ∀ t, T t → ∀ i, i < ws.length → pre t (wat ws i) = true → T ((wat ws i).drop t.length)
  bwd : ∀ t, T t → ∀ i, i < ws.length → pre (wat ws i) t = true → T (t.drop (wat ws i).length)
theorem pre_of_app {a b c d : Wd} (h : a ++ b = c ++ d) : pre a c = true ∨ pre c a = true := by
  unfold pre
  rcases Nat.le_total a.length c.length with hl | hl
  · left
    have := congrArg (List.take a.length) h
    rw [List.take_left', List.take_append_of_le_length hl] at this
    · exact decide_eq_true this.symm
    · rfl
  · right
    have := congrArg (List.take c.length) h
    rw [List.take_append_of_le_length hl, List.take_left'] at this
    · exact decide_eq_true this
    · rfl
theorem app_drop {a b c d : Wd} (h : a ++ b = c ++ d) (hp : pre a c = true) : b = c.drop a.length ++ d := by
  have e := pre_app hp
  rw [← e, List.append_assoc] at h
  exact List.append_cancel_left h
theorem no_tail {ws : List Wd} (hw : ∀ a ∈ ws, a ≠ []) {T : Wd → Prop} (C : Cl ws T) : ∀ (n : Nat) (t : Wd) (xs ys : List Nat), T t → (∀ p ∈ xs, p < ws.length) → (∀ p ∈ ys, p < ws.length) → (t ++ joinW ws xs).length ≤ n → t ++ joinW ws xs ≠ joinW ws ys := by
  intro n
  induction n with
  | zero =>
    intro t xs ys ht _ _ hl _
    have : t = [] := List.eq_nil_of_length_eq_zero (by rw [List.length_append] at hl; omega)
    exact C.ne (this ▸ ht)
  | succ n ih =>
    intro t xs ys ht hx hy hl h
    have htn : t ≠ [] := fun e => C.ne (e ▸ ht)
    have htl : 0 < t.length := List.length_pos_iff.mpr htn
    cases ys with
    | nil =>
      have := congrArg List.length h
      simp [joinW] at this
      exact htn this.1
    | cons y ys =>
      have hyl := hy y (by simp)
      have hwl := wat_ne hw hyl
      rw [join_cons] at h
      have hys : ∀ p ∈ ys, p < ws.length := fun p hp => hy p (by simp [hp])
      rcases pre_of_app h with hp | hp
      · have e := app_drop h hp
        have hlen := congrArg List.length e
        refine ih _ ys xs (C.fwd t ht y hyl hp) hys hx ?_ e.symm
        rw [← hlen]; rw [List.length_append] at hl; omega
      · have e := app_drop h.symm hp
        have hlen := congrArg List.length e
        refine ih _ xs ys (C.bwd t ht y hyl hp) hx hys ?_ e.symm
        rw [← hlen]
        have := congrArg List.length h
        rw [List.length_append, List.length_append] at this
        rw [List.length_append] at hl; omega
theorem unique {ws : List Wd} (hw : ∀ a ∈ ws, a ≠ []) {T : Wd → Prop} (C : Cl ws T) : ∀ (xs ys : List Nat), (∀ p ∈ xs, p < ws.length) → (∀ p ∈ ys, p < ws.length) → joinW ws xs = joinW ws ys → xs = ys
  | [], [], _, _, _ => rfl
  | [], y :: ys, _, hy, h => by
    have := wat_ne hw (hy y (by simp))
    have h2 := congrArg List.length h
    have h0 : (joinW ws []).length = 0 := rfl
    rw [join_cons, List.length_append, h0] at h2
    omega
  | x :: xs, [], hx, _, h => by
    have := wat_ne hw (hx x (by simp))
    have h2 := congrArg List.length h
    have h0 : (joinW ws []).length = 0 := rfl
    rw [join_cons, List.length_append, h0] at h2
    omega
  | x :: xs, y :: ys, hx, hy, h => by
    have hxl := hx x (by simp)
    have hyl := hy y (by simp)
    have hxs : ∀ p ∈ xs, p < ws.length := fun p hp => hx p (by simp [hp])
    have hys : ∀ p ∈ ys, p < ws.length := fun p hp => hy p (by simp [hp])
    rw [join_cons, join_cons] at h
    by_cases e : x = y
    · subst e
      rw [unique hw C xs ys hxs hys (List.append_cancel_left h)]
    · exfalso
      rcases pre_of_app h with hp | hp
      · exact no_tail hw C _ _ ys xs (C.first x y hxl hyl e hp) hys hxs (Nat.le_refl _) (app_drop h hp).symm
      · exact no_tail hw C _ _ xs ys (C.first y x hyl hxl (Ne.symm e) hp) hxs hys (Nat.le_refl _) (app_drop h.symm hp).symm
/-! ### counting: no more than there is -/
theorem len_sub {α : Type} [DecidableEq α] : ∀ (l m : List α), l.Nodup → (∀ x ∈ l, x ∈ m) → l.length ≤ m.length
  | [], _, _, _ => by simp
  | x :: l, m, hn, h => by
    rw [List.nodup_cons] at hn
    have hx := h x (by simp)
    have h2 := len_sub l (m.erase x) hn.2 fun y hy => by
      have hne : y ≠ x := fun e => hn.1 (e ▸ hy)
      exact (List.mem_erase_of_ne hne).mpr (h y (by simp [hy]))
    rw [List.length_erase_of_mem hx] at h2
    have := List.length_pos_of_mem hx
    rw [List.length_cons]; omega
/-- all texts of l letters out of A -/
def texts (A : List Nat) : Nat → List Wd
  | 0 => [[]]
  | n + 1 => (texts A n).flatMap fun s => A.map fun c => c :: s
theorem texts_len (A : List Nat) : ∀ n, (texts A n).length = A.length ^ n
  | 0 => rfl
  | n + 1 => by
    rw [texts, List.length_flatMap]
    have : (List.map (fun s : Wd => (List.map (fun c => c :: s) A).length) (texts A n)) = List.map (fun _ => A.length) (texts A n) := List.map_congr_left fun s _ => by rw [List.length_map]
    rw [this, List.map_const', List.sum_replicate_nat, texts_len A n, Nat.pow_succ]
theorem mem_texts (A : List Nat) : ∀ s : Wd, (∀ c ∈ s, c ∈ A) → s ∈ texts A s.length
  | [], _ => by simp [texts]
  | c :: s, h => by
    rw [List.length_cons, texts, List.mem_flatMap]
    exact ⟨s, mem_texts A s fun d hd => h d (by simp [hd]), List.mem_map.mpr ⟨c, h c (by simp), rfl⟩⟩
/-- the weight of a list of texts: b ^ (B - length), together -/
def wt (b B : Nat) (W : List Wd) : Nat := (W.map fun s => b ^ (B - s.length)).sum
theorem wt_app (b B : Nat) (U W : List Wd) : wt b B (U ++ W) = wt b B U + wt b B W := by
  unfold wt; rw [List.map_append, List.sum_append]
theorem wt_filter (b B : Nat) (p : Wd → Bool) : ∀ W : List Wd, wt b B W = wt b B (W.filter p) + wt b B (W.filter fun s => !p s)
  | [] => rfl
  | s :: W => by
    have ih := wt_filter b B p W
    unfold wt at ih ⊢
    cases h : p s <;> simp [h, ih] <;> omega
theorem wt_const (b B l : Nat) : ∀ W : List Wd, (∀ s ∈ W, s.length = l) → wt b B W = W.length * b ^ (B - l)
  | [], _ => by simp [wt]
  | s :: W, h => by
    have ih := wt_const b B l W fun x hx => h x (by simp [hx])
    unfold wt at ih ⊢
    rw [List.map_cons, List.sum_cons, ih, h s (by simp), List.length_cons, Nat.succ_mul]; omega
/-- texts without repeats, of at most n letters: at most (n + 1) times all there is -/
theorem wt_le (A : List Nat) (hA : 0 < A.length) (B : Nat) : ∀ (n : Nat) (W : List Wd), W.Nodup → (∀ s ∈ W, s.length ≤ n ∧ ∀ c ∈ s, c ∈ A) → n ≤ B → wt A.length B W ≤ (n + 1) * A.length ^ B := by
  intro n
  have one : ∀ (l : Nat) (W : List Wd), W.Nodup → (∀ s ∈ W, s.length = l ∧ ∀ c ∈ s, c ∈ A) → l ≤ B → wt A.length B W ≤ A.length ^ B := fun l W hn h hl => by
    rw [wt_const A.length B l W fun s hs => (h s hs).1]
    have h1 : W.length ≤ A.length ^ l := by
      rw [← texts_len A l]
      exact len_sub W _ hn fun s hs => by
        have := mem_texts A s (h s hs).2
        rwa [(h s hs).1] at this
    calc W.length * A.length ^ (B - l) ≤ A.length ^ l * A.length ^ (B - l) := Nat.mul_le_mul_right _ h1
      _ = A.length ^ B := by rw [← Nat.pow_add]; congr 1; omega
  induction n with
  | zero =>
    intro W hn h hB
    have := one 0 W hn (fun s hs => ⟨by have := (h s hs).1; omega, (h s hs).2⟩) hB
    omega
  | succ n ih =>
    intro W hn h hB
    rw [wt_filter A.length B (fun s => decide (s.length = n + 1)) W]
    have h1 := one (n + 1) (W.filter fun s => decide (s.length = n + 1)) (hn.filter _) (fun s hs => by
      have h2 := List.mem_filter.mp hs
      exact ⟨of_decide_eq_true h2.2, (h s h2.1).2⟩) hB
    have h2 := ih (W.filter fun s => !decide (s.length = n + 1)) (hn.filter _) (fun s hs => by
      have h2 := List.mem_filter.mp hs
      have h3 := (h s h2.1).1
      have h4 : ¬ s.length = n + 1 := by simpa using h2.2
      exact ⟨by omega, (h s h2.1).2⟩) (by omega)
    rw [Nat.succ_mul (n + 1)]
    omega
/-! the texts of k words -/
def tups (n : Nat) : Nat → List (List Nat)
  | 0 => [[]]
  | k + 1 => (tups n k).flatMap fun xs => (List.range n).map fun p => p :: xs
theorem tups_ok (n : Nat) : ∀ (k : Nat) (xs : List Nat), xs ∈ tups n k → xs.length = k ∧ ∀ p ∈ xs, p < n
  | 0, xs, h => by
    rw [tups, List.mem_singleton] at h
    subst h; simp
  | k + 1, xs, h => by
    rw [tups, List.mem_flatMap] at h
    obtain ⟨ys, hy, h⟩ := h
    obtain ⟨p, hp, rfl⟩ := List.mem_map.mp h
    obtain ⟨h1, h2⟩ := tups_ok n k ys hy
    refine ⟨by rw [List.length_cons, h1], fun q hq => ?_⟩
    rcases List.mem_cons.mp hq with rfl | hq
    · exact List.mem_range.mp hp
    · exact h2 q hq
theorem nodup_flat {α β : Type} (f : α → List β) : ∀ l : List α, l.Nodup → (∀ x ∈ l, (f x).Nodup) → (∀ x ∈ l, ∀ y ∈ l, x ≠ y → ∀ z, z ∈ f x → z ∈ f y → False) → (l.flatMap f).Nodup
  | [], _, _, _ => by simp
  | x :: l, hn, h1, h2 => by
    rw [List.nodup_cons] at hn
    rw [List.flatMap_cons, List.nodup_append]
    refine ⟨h1 x (by simp), nodup_flat f l hn.2 (fun y hy => h1 y (by simp [hy])) (fun a ha b hb => h2 a (by simp [ha]) b (by simp [hb])), fun z hz y hy e => ?_⟩
    subst e
    obtain ⟨a, ha, hz2⟩ := List.mem_flatMap.mp hy
    exact h2 x (by simp) a (by simp [ha]) (fun e => hn.1 (e ▸ ha)) z hz hz2
theorem nodup_map {α β : Type} (f : α → β) : ∀ l : List α, l.Nodup → (∀ x ∈ l, ∀ y ∈ l, f x = f y → x = y) → (l.map f).Nodup
  | [], _, _ => by simp
  | x :: l, hn, h => by
    rw [List.nodup_cons] at hn
    rw [List.map_cons, List.nodup_cons]
    refine ⟨fun hm => ?_, nodup_map f l hn.2 fun a ha b hb => h a (by simp [ha]) b (by simp [hb])⟩
    obtain ⟨y, hy, e⟩ := List.mem_map.mp hm
    have := h x (by simp) y (by simp [hy]) e.symm
    exact hn.1 (this ▸ hy)
theorem tups_nodup (n : Nat) : ∀ k, (tups n k).Nodup
  | 0 => by simp [tups]
  | k + 1 => by
    rw [tups]
    refine nodup_flat _ _ (tups_nodup n k) (fun xs _ => nodup_map _ _ List.nodup_range fun a _ b _ e => (List.cons.inj e).1) fun xs _ ys _ hne z hz1 hz2 => ?_
    obtain ⟨p, _, rfl⟩ := List.mem_map.mp hz1
    obtain ⟨q, _, e⟩ := List.mem_map.mp hz2
    exact hne (List.cons.inj e).2.symm
/-- the weight of all texts of k words is the weight of the words, k times multiplied -/
theorem wt_tups (b : Nat) (ws : List Wd) (L : Nat) (hL : ∀ a ∈ ws, a.length ≤ L) : ∀ k, wt b (k * L) ((tups ws.length k).map (joinW ws)) = (wt b L ws) ^ k
  | 0 => by simp [tups, wt, joinW]
  | k + 1 => by
    have ih := wt_tups b ws L hL k
    have hwat : ws = (List.range ws.length).map (wat ws) := by
      apply List.ext_getElem?
      intro i
      rw [List.getElem?_map]
      rcases Nat.lt_or_ge i ws.length with h | h
      · rw [List.getElem?_range h, wat_getElem h]; rfl
      · rw [List.getElem?_eq_none h, List.getElem?_eq_none (by simpa using h)]; rfl
    have key : ∀ (l : List (List Nat)), (∀ xs ∈ l, xs.length = k ∧ ∀ p ∈ xs, p < ws.length) →
        wt b ((k + 1) * L) ((l.flatMap fun xs => (List.range ws.length).map fun p => p :: xs).map (joinW ws)) = wt b L ws * wt b (k * L) (l.map (joinW ws)) := by
      intro l
      induction l with
      | nil => intro _; simp [wt]
      | cons xs l ihl =>
        intro hl
        have hxs := hl xs (by simp)
        rw [List.flatMap_cons, List.map_append, wt_app, ihl fun ys hy => hl ys (by simp [hy])]
        have h1 : wt b (k * L) (List.map (joinW ws) (xs :: l)) = b ^ (k * L - (joinW ws xs).length) + wt b (k * L) (List.map (joinW ws) l) := rfl
        rw [h1, Nat.mul_add]
        congr 1
        have hjl : (joinW ws xs).length ≤ k * L := by
          have : ∀ (ys : List Nat), (∀ p ∈ ys, p < ws.length) → (joinW ws ys).length ≤ ys.length * L := by
            intro ys
            induction ys with
            | nil => intro _; simp [joinW]
            | cons y ys ih =>
              intro h
              rw [join_cons, List.length_append, List.length_cons, Nat.succ_mul]
              have h1 := ih fun p hp => h p (by simp [hp])
              have h2 := hL _ (List.mem_of_getElem? (wat_getElem (h y (by simp))))
              omega
          have := this xs hxs.2
          rwa [hxs.1] at this
        unfold wt
        rw [List.map_map, List.map_map]
        have h2 : (ws.map fun s => b ^ (L - s.length)) = (List.range ws.length).map fun p => b ^ (L - (wat ws p).length) := by
          conv => lhs; rw [hwat]
          rw [List.map_map]; rfl
        rw [h2]
        have h3 : ∀ (m : List Nat), (∀ p ∈ m, p < ws.length) → (m.map ((fun s : Wd => b ^ ((k + 1) * L - s.length)) ∘ joinW ws ∘ fun p => p :: xs)).sum = (m.map fun p => b ^ (L - (wat ws p).length)).sum * b ^ (k * L - (joinW ws xs).length) := by
          intro m
          induction m with
          | nil => intro _; simp
          | cons p m ihm =>
            intro hm
            rw [List.map_cons, List.map_cons, List.sum_cons, List.sum_cons, ihm fun q hq => hm q (by simp [hq]), Nat.add_mul (b ^ (L - (wat ws p).length))]
            congr 1
            show b ^ ((k + 1) * L - (joinW ws (p :: xs)).length) = _
            rw [join_cons, List.length_append, ← Nat.pow_add]
            congr 1
            have := hL _ (List.mem_of_getElem? (wat_getElem (hm p (by simp))))
            rw [Nat.succ_mul]; omega
        exact h3 _ fun p hp => List.mem_range.mp hp
    rw [tups, key _ fun xs hx => tups_ok ws.length k xs hx, ih, Nat.pow_succ, Nat.mul_comm]
theorem join_mem {ws : List Wd} {A : List Nat} (h : ∀ a ∈ ws, ∀ c ∈ a, c ∈ A) : ∀ (xs : List Nat), (∀ p ∈ xs, p < ws.length) → ∀ c ∈ joinW ws xs, c ∈ A
  | [], _, c, hc => by simp [joinW] at hc
  | x :: xs, hx, c, hc => by
    rw [join_cons] at hc
    rcases List.mem_append.mp hc with hc | hc
    · exact h _ (List.mem_of_getElem? (wat_getElem (hx x (by simp)))) c hc
    · exact join_mem h xs (fun p hp => hx p (by simp [hp])) c hc
theorem join_le {ws : List Wd} {L : Nat} (hL : ∀ a ∈ ws, a.length ≤ L) : ∀ (ys : List Nat), (∀ p ∈ ys, p < ws.length) → (joinW ws ys).length ≤ ys.length * L
  | [], _ => by simp [joinW]
  | y :: ys, h => by
    rw [join_cons, List.length_append, List.length_cons, Nat.succ_mul]
    have h1 := join_le hL ys fun p hp => h p (by simp [hp])
    have h2 := hL _ (List.mem_of_getElem? (wat_getElem (h y (by simp))))
    omega
theorem power_le {ws : List Wd} {A : List Nat} (hA : 0 < A.length) (hAw : ∀ a ∈ ws, ∀ c ∈ a, c ∈ A) {L : Nat} (hL : ∀ a ∈ ws, a.length ≤ L) (hU : ∀ xs ys : List Nat, (∀ p ∈ xs, p < ws.length) → (∀ p ∈ ys, p < ws.length) → joinW ws xs = joinW ws ys → xs = ys) (k : Nat) :
    (wt A.length L ws) ^ k ≤ (k * L + 1) * (A.length ^ L) ^ k := by
  rw [← wt_tups A.length ws L hL k, ← Nat.pow_mul, Nat.mul_comm L k]
  refine wt_le A hA (k * L) (k * L) _ (nodup_map _ _ (tups_nodup _ k) fun xs hx ys hy e => hU xs ys (tups_ok _ k xs hx).2 (tups_ok _ k ys hy).2 e) (fun s hs => ?_) (Nat.le_refl _)
  obtain ⟨xs, hx, rfl⟩ := List.mem_map.mp hs
  obtain ⟨h1, h2⟩ := tups_ok _ k xs hx
  have := join_le hL xs h2
  rw [h1] at this
  exact ⟨this, join_mem hAw xs h2⟩
/-! a power outgrows -/
theorem bern (M : Nat) : ∀ k, M ^ k + k * M ^ (k - 1) ≤ (M + 1) ^ k
  | 0 => by simp
  | 1 => by simp
  | k + 2 => by
    have ih := bern M (k + 1)
    have e1 : k + 1 - 1 = k := by omega
    have e2 : k + 2 - 1 = k + 1 := by omega
    rw [e1] at ih
    rw [e2]
    have h1 := Nat.mul_le_mul_right (M + 1) ih
    rw [← Nat.pow_succ, Nat.mul_add, Nat.mul_one, Nat.add_mul, Nat.mul_assoc, ← Nat.pow_succ, ← Nat.pow_succ] at h1
    have h2 : (k + 2) * M ^ (k + 1) = (k + 1) * M ^ (k + 1) + M ^ (k + 1) := Nat.succ_mul (k + 1) _
    have h3 : M ^ (k + 1).succ = M ^ (k + 2) := rfl
    have h4 : M ^ k.succ = M ^ (k + 1) := rfl
    have h5 : (M + 1) ^ (k + 1).succ = (M + 1) ^ (k + 2) := rfl
    rw [h3, h4, h5] at h1
    rw [h2]
    generalize (k + 1) * M ^ (k + 1) = X at *
    generalize (k + 1) * M ^ k = Y at *
    omega
theorem dbl (M : Nat) (hM : 0 < M) : 2 * M ^ M ≤ (M + 1) ^ M := by
  cases M with
  | zero => omega
  | succ m =>
    have h := bern (m + 1) (m + 1)
    have e : (m + 1) * (m + 1) ^ (m + 1 - 1) = (m + 1) ^ (m + 1) := by
      rw [Nat.add_sub_cancel, Nat.mul_comm, ← Nat.pow_succ]
    rw [e] at h
    omega
theorem two_pow_ge : ∀ c : Nat, c + 1 ≤ 2 ^ c
  | 0 => by decide
  | c + 1 => by
    have := two_pow_ge c
    rw [Nat.pow_succ]; omega
theorem outgrow (c : Nat) : ∃ j, c * j + 1 < 2 ^ j := by
  refine ⟨4 * (c + 1), ?_⟩
  have h := two_pow_ge (c + 1)
  have e : 2 ^ (4 * (c + 1)) = ((2 ^ (c + 1)) * (2 ^ (c + 1))) * ((2 ^ (c + 1)) * (2 ^ (c + 1))) := by
    rw [← Nat.pow_add, ← Nat.pow_add]; congr 1; omega
  rw [e]
  have h1 : (c + 2) * (c + 2) ≤ 2 ^ (c + 1) * 2 ^ (c + 1) := Nat.mul_le_mul h h
  have h2 := Nat.mul_le_mul h1 h1
  refine Nat.lt_of_lt_of_le ?_ h2
  have h3 : 4 ≤ (c + 2) * (c + 2) := by
    have : 2 * 2 ≤ (c + 2) * (c + 2) := Nat.mul_le_mul (by omega) (by omega)
    omega
  have h4 : 4 * ((c + 2) * (c + 2)) ≤ ((c + 2) * (c + 2)) * ((c + 2) * (c + 2)) := Nat.mul_le_mul_right _ h3
  refine Nat.lt_of_lt_of_le ?_ h4
  have h5 : c * (4 * (c + 1)) = 4 * (c * (c + 1)) := by rw [Nat.mul_left_comm]
  have h6 : (c + 2) * (c + 2) = c * (c + 1) + (3 * c + 4) := by
    have : (c + 2) * (c + 2) = c * c + 4 * c + 4 := by
      rw [Nat.add_mul, Nat.mul_add]; omega
    rw [this, Nat.mul_add]; omega
  rw [h5, h6]; omega
/-- McMillan: a code that reads in one way at the most takes no more than there is -/
theorem kraft {ws : List Wd} {A : List Nat} (hA : 0 < A.length) (hAw : ∀ a ∈ ws, ∀ c ∈ a, c ∈ A) {L : Nat} (hL : ∀ a ∈ ws, a.length ≤ L) (hU : ∀ xs ys : List Nat, (∀ p ∈ xs, p < ws.length) → (∀ p ∈ ys, p < ws.length) → joinW ws xs = joinW ws ys → xs = ys) :
    wt A.length L ws ≤ A.length ^ L := by
  generalize hM : A.length ^ L = M
  have hM0 : 0 < M := by rw [← hM]; exact Nat.pow_pos hA
  rcases Nat.lt_or_ge M (wt A.length L ws) with h | h
  · exfalso
    obtain ⟨j, hj⟩ := outgrow (M * L)
    have h1 := power_le hA hAw hL hU (M * j)
    rw [hM] at h1
    have h2 : (M + 1) ^ (M * j) ≤ (wt A.length L ws) ^ (M * j) := Nat.pow_le_pow_left h _
    have h3 : (2 * M ^ M) ^ j ≤ ((M + 1) ^ M) ^ j := Nat.pow_le_pow_left (dbl M hM0) _
    rw [← Nat.pow_mul, Nat.mul_pow, ← Nat.pow_mul] at h3
    have h4 : 2 ^ j * M ^ (M * j) ≤ (M * j * L + 1) * M ^ (M * j) := Nat.le_trans h3 (Nat.le_trans h2 h1)
    have h5 := Nat.le_of_mul_le_mul_right h4 (Nat.pow_pos hM0)
    have h6 : M * j * L = M * L * j := by rw [Nat.mul_assoc, Nat.mul_comm j L, Nat.mul_assoc]
    omega
  · exact h
end M1

set_option Elab.async false
set_option linter.all false
set_option maxRecDepth 100000
set_option maxHeartbeats 4000000
/-! M5: words of told lengths, none of which begins another one (plain Lean). -/
namespace M5
open M3 (pre)
abbrev Wd := List Nat
/-! ### counting -/
def left (k : Nat) (ls : List Nat) : Nat → Int
  | 0 => 1
  | n + 1 => left k ls n * (k : Int) - ((ls.count (n + 1) : Nat) : Int)
def taken (k : Nat) (ls : List Nat) : Nat → Nat
  | 0 => 0
  | n + 1 => taken k ls n * k + ls.count (n + 1)
theorem left_eq (k : Nat) (ls : List Nat) : ∀ n, left k ls n = ((k ^ n : Nat) : Int) - ((taken k ls n : Nat) : Int)
  | 0 => rfl
  | n + 1 => by
    simp only [left, taken]
    rw [left_eq k ls n, Int.sub_mul, Nat.pow_succ]
    push_cast
    omega
theorem left_neg {k : Nat} (hk : 1 ≤ k) {ls : List Nat} {n : Nat} (h : left k ls n < 0) : ∀ m, left k ls (n + m) < 0
  | 0 => h
  | m + 1 => by
    have ih := left_neg hk h m
    show left k ls (n + m) * (k : Int) - _ < 0
    have h1 : left k ls (n + m) * (k : Int) ≤ left k ls (n + m) * 1 := Int.mul_le_mul_of_nonpos_left (by omega) (by omega)
    omega
/-- there is a count of letters at which they are too many -/
def fullV (k : Nat) (ls : List Nat) (L : Nat) : Bool := (List.range L).any fun n => decide (left k ls (n + 1) < 0)
theorem full_iff {k : Nat} (hk : 1 ≤ k) (ls : List Nat) (L : Nat) : fullV k ls L = decide (k ^ L < taken k ls L) := by
  have h2 := left_eq k ls L
  unfold fullV
  by_cases h : left k ls L < 0
  · have h3 : k ^ L < taken k ls L := by omega
    rw [decide_eq_true h3, List.any_eq_true]
    cases L with
    | zero => exact absurd h (by show ¬ (1 : Int) < 0; decide)
    | succ L => exact ⟨L, by simp, decide_eq_true h⟩
  · have h3 : ¬ k ^ L < taken k ls L := by omega
    rw [decide_eq_false h3, List.any_eq_false]
    intro n hn hx
    have hn := List.mem_range.mp hn
    have := left_neg hk (of_decide_eq_true hx) (L - (n + 1))
    have e : n + 1 + (L - (n + 1)) = L := by omega
    rw [e] at this
    exact h this
theorem full_no {k : Nat} (hk : 1 ≤ k) {ls : List Nat} {L : Nat} (h : fullV k ls L = false) {n : Nat} (hn : n ≤ L) : taken k ls n ≤ k ^ n := by
  have h2 := left_eq k ls n
  rcases Nat.lt_or_ge (k ^ n) (taken k ls n) with h3 | h3
  · exfalso
    have := left_neg hk (show left k ls n < 0 by omega) (L - n)
    have e : n + (L - n) = L := by omega
    rw [e] at this
    have h4 := left_eq k ls L
    rw [full_iff hk, decide_eq_false_iff_not] at h
    omega
  · exact h3
/-- the texts of L letters that words of these lengths begin -/
def sums (k : Nat) (xs : List Nat) (L : Nat) : Nat := (xs.map fun l => k ^ (L - l)).sum
theorem sums_app (k : Nat) (xs ys : List Nat) (L : Nat) : sums k (xs ++ ys) L = sums k xs L + sums k ys L := by simp [sums]
theorem sums_perm {k : Nat} {xs ys : List Nat} (h : xs.Perm ys) (L : Nat) : sums k xs L = sums k ys L := (h.map _).sum_nat
theorem sums_up {k : Nat} {xs : List Nat} {L d : Nat} (h : ∀ l ∈ xs, l ≤ L) : sums k xs L * k ^ d = sums k xs (L + d) := by
  induction xs with
  | nil => simp [sums]
  | cons x r ih =>
    have h1 := h x (by simp)
    have h2 := ih fun l hl => h l (by simp [hl])
    simp only [sums, List.map_cons, List.sum_cons] at h2 ⊢
    rw [Nat.add_mul, h2, ← Nat.pow_add]
    have e : L - x + d = L + d - x := by omega
    rw [e]
theorem taken_eq (k : Nat) {ls : List Nat} (h : ∀ l ∈ ls, 1 ≤ l) : ∀ n, taken k ls n = sums k (ls.filter fun l => decide (l ≤ n)) n
  | 0 => by
    have : (ls.filter fun l => decide (l ≤ 0)) = [] := by
      rw [List.filter_eq_nil_iff]
      intro l hl
      have := h l hl
      simp; omega
    rw [this]; rfl
  | n + 1 => by
    have ih := taken_eq k h n
    simp only [taken]
    rw [ih]
    have e : ∀ xs : List Nat, sums k (xs.filter fun l => decide (l ≤ n + 1)) (n + 1) = sums k (xs.filter fun l => decide (l ≤ n)) n * k + xs.count (n + 1) := by
      intro xs
      induction xs with
      | nil => simp [sums]
      | cons x r ih =>
        rcases Nat.lt_trichotomy x (n + 1) with hx | hx | hx
        · have h1 : x ≤ n := by omega
          have h2 : x ≤ n + 1 := by omega
          rw [List.filter_cons_of_pos (p := fun l => decide (l ≤ n + 1)) (decide_eq_true h2), List.filter_cons_of_pos (p := fun l => decide (l ≤ n)) (decide_eq_true h1), List.count_cons_of_ne (by omega)]
          simp only [sums, List.map_cons, List.sum_cons] at ih ⊢
          rw [ih, Nat.add_mul]
          have e1 : n + 1 - x = (n - x) + 1 := by omega
          rw [e1, Nat.pow_succ]
          omega
        · subst hx
          rw [List.filter_cons_of_pos (p := fun l => decide (l ≤ n + 1)) (decide_eq_true (Nat.le_refl _)), List.filter_cons_of_neg (p := fun l => decide (l ≤ n)) (by simp), List.count_cons_self]
          simp only [sums, List.map_cons, List.sum_cons, Nat.sub_self, Nat.pow_zero] at ih ⊢
          omega
        · rw [List.filter_cons_of_neg (by simp; omega), List.filter_cons_of_neg (by simp; omega), List.count_cons_of_ne (by omega)]
          exact ih
    rw [e ls]
/-! ### numbers, by rising lengths -/
def go (k : Nat) : List Nat → Nat → Nat → List Nat
  | [], _, _ => []
  | l :: r, num, last => num * k ^ (l - last) :: go k r (num * k ^ (l - last) + 1) l
theorem go_len (k : Nat) : ∀ xs num last, (go k xs num last).length = xs.length
  | [], _, _ => rfl
  | l :: r, num, last => by simp [go, go_len k r]
theorem go_ge {k : Nat} (hk : 1 ≤ k) : ∀ (xs : List Nat) (num last : Nat), xs.Pairwise (· ≤ ·) → (∀ l ∈ xs, last ≤ l) → ∀ (j : Nat) (l n : Nat), xs[j]? = some l → (go k xs num last)[j]? = some n → num * k ^ (l - last) ≤ n
  | [], _, _, _, _, j, l, n, h, _ => by simp at h
  | x :: r, num, last, hp, hl, 0, l, n, h1, h2 => by
    simp [go] at h1 h2
    subst h1; omega
  | x :: r, num, last, hp, hl, j + 1, l, n, h1, h2 => by
    simp only [go, List.getElem?_cons_succ] at h1 h2
    obtain ⟨hp1, hp2⟩ := List.pairwise_cons.mp hp
    have hlm : l ∈ r := List.mem_of_getElem? h1
    have hxl := hp1 l hlm
    have ih := go_ge hk r (num * k ^ (x - last) + 1) x hp2 hp1 j l n h1 h2
    have hlx := hl x (by simp)
    have e : num * k ^ (l - last) = num * k ^ (x - last) * k ^ (l - x) := by
      rw [Nat.mul_assoc, ← Nat.pow_add]
      congr 2; omega
    rw [e]
    refine Nat.le_trans (Nat.mul_le_mul_right _ (Nat.le_succ _)) ih
theorem go_apart {k : Nat} (hk : 1 ≤ k) : ∀ (xs : List Nat) (num last : Nat), xs.Pairwise (· ≤ ·) → ∀ (i j : Nat), i < j → ∀ (l l' n n' : Nat), xs[i]? = some l → xs[j]? = some l' → (go k xs num last)[i]? = some n → (go k xs num last)[j]? = some n' → (n + 1) * k ^ (l' - l) ≤ n'
  | [], _, _, _, i, j, _, l, l', n, n', h, _, _, _ => by simp at h
  | x :: r, num, last, hp, 0, j + 1, _, l, l', n, n', h1, h2, h3, h4 => by
    obtain ⟨hp1, hp2⟩ := List.pairwise_cons.mp hp
    simp only [go, List.getElem?_cons_succ, List.getElem?_cons_zero, Option.some.injEq] at h1 h2 h3 h4
    subst h1 h3
    exact go_ge hk r _ x hp2 hp1 j l' n' h2 h4
  | x :: r, num, last, hp, i + 1, j + 1, hij, l, l', n, n', h1, h2, h3, h4 => by
    obtain ⟨hp1, hp2⟩ := List.pairwise_cons.mp hp
    simp only [go, List.getElem?_cons_succ] at h1 h2 h3 h4
    exact go_apart hk r _ x hp2 i j (by omega) l l' n n' h1 h2 h3 h4
/-- each number has room -/
theorem go_lt {k : Nat} (hk : 1 ≤ k) {ls : List Nat} (h1 : ∀ l ∈ ls, 1 ≤ l) (hf : ∀ l ∈ ls, taken k ls l ≤ k ^ l) : ∀ (xs done : List Nat) (num last : Nat), (done ++ xs).Perm ls → (∀ l ∈ done, l ≤ last) → xs.Pairwise (· ≤ ·) → (∀ l ∈ xs, last ≤ l) → num = sums k done last →
    ∀ (j : Nat) (l n : Nat), xs[j]? = some l → (go k xs num last)[j]? = some n → n < k ^ l
  | [], _, _, _, _, _, _, _, _, j, l, n, h, _ => by simp at h
  | x :: r, done, num, last, hperm, hd, hp, hl, hnum, j, l, n, g1, g2 => by
    obtain ⟨hp1, hp2⟩ := List.pairwise_cons.mp hp
    have hlx := hl x (by simp)
    have hdx : ∀ l ∈ done, l ≤ x := fun l hl' => Nat.le_trans (hd l hl') hlx
    have hx : x ∈ ls := hperm.mem_iff.mp (by simp)
    have e0 : num * k ^ (x - last) = sums k done x := by
      rw [hnum, sums_up hd]
      congr 1; omega
    have e1 : num * k ^ (x - last) + 1 = sums k (done ++ [x]) x := by
      rw [sums_app, e0]
      simp [sums]
    cases j with
    | zero =>
      simp only [go, List.getElem?_cons_zero, Option.some.injEq] at g1 g2
      subst g1 g2
      have h2 := hf x hx
      rw [taken_eq k h1] at h2
      have h3 : sums k (ls.filter fun l => decide (l ≤ x)) x = sums k ((done ++ x :: r).filter fun l => decide (l ≤ x)) x := sums_perm ((hperm.filter _).symm) x
      have h4 : (done ++ x :: r).filter (fun l => decide (l ≤ x)) = done ++ x :: (r.filter fun l => decide (l ≤ x)) := by
        rw [List.filter_append, List.filter_cons_of_pos (p := fun l => decide (l ≤ x)) (decide_eq_true (Nat.le_refl x))]
        congr 1
        exact List.filter_eq_self.mpr fun l hl' => decide_eq_true (hdx l hl')
      rw [h3, h4] at h2
      have h5 : sums k (done ++ x :: (r.filter fun l => decide (l ≤ x))) x = sums k (done ++ [x]) x + sums k (r.filter fun l => decide (l ≤ x)) x := by
        rw [← sums_app, List.append_assoc]; rfl
      omega
    | succ j =>
      simp only [go, List.getElem?_cons_succ] at g1 g2
      refine go_lt hk h1 hf r (done ++ [x]) _ x ?_ ?_ hp2 hp1 e1 j l n g1 g2
      · rw [List.append_assoc]; exact hperm
      · intro l hl'
        rcases List.mem_append.mp hl' with h | h
        · exact hdx l h
        · rw [List.mem_singleton.mp h]; exact Nat.le_refl _
/-! ### numbers as words -/
def wr (k : Nat) : Nat → Nat → Wd
  | _, 0 => []
  | n, l + 1 => wr k (n / k) l ++ [97 + n % k]
theorem wr_len (k : Nat) : ∀ l n, (wr k n l).length = l
  | 0, _ => rfl
  | l + 1, n => by simp [wr, wr_len k l]
theorem wr_mem {k : Nat} (hk : 1 ≤ k) : ∀ l n, ∀ c ∈ wr k n l, 97 ≤ c ∧ c < 97 + k
  | 0, _ => by simp [wr]
  | l + 1, n => by
    intro c hc
    simp only [wr, List.mem_append, List.mem_singleton] at hc
    rcases hc with hc | rfl
    · exact wr_mem hk l _ c hc
    · have := Nat.mod_lt n (show 0 < k by omega)
      omega
theorem wr_step (k : Nat) : ∀ l n, wr k n (l + 1) = (97 + n / k ^ l % k) :: wr k n l
  | 0, n => by simp [wr]
  | l + 1, n => by
    rw [show wr k n (l + 1 + 1) = wr k (n / k) (l + 1) ++ [97 + n % k] from rfl, wr_step k l (n / k), Nat.div_div_eq_div_mul, ← Nat.pow_succ']
    rfl
theorem wr_take (k : Nat) : ∀ d l n, (wr k n (l + d)).take l = wr k (n / k ^ d) l
  | 0, l, n => by
    rw [Nat.pow_zero, Nat.div_one]
    exact List.take_of_length_le (by rw [wr_len]; omega)
  | d + 1, l, n => by
    have e : l + (d + 1) = (l + d) + 1 := rfl
    rw [e]
    show (wr k (n / k) (l + d) ++ [97 + n % k]).take l = _
    rw [List.take_append_of_le_length (by rw [wr_len]; omega), wr_take k d l, Nat.div_div_eq_div_mul, ← Nat.pow_succ']
theorem wr_inj {k : Nat} (hk : 1 ≤ k) : ∀ l n m, n < k ^ l → m < k ^ l → wr k n l = wr k m l → n = m
  | 0, n, m, h1, h2, _ => by simp at h1 h2; omega
  | l + 1, n, m, h1, h2, h => by
    simp only [wr] at h
    have h3 := List.append_inj h (by rw [wr_len, wr_len])
    have hd : ∀ x, x < k ^ (l + 1) → x / k < k ^ l := fun x hx => Nat.div_lt_of_lt_mul (by rw [Nat.pow_succ, Nat.mul_comm] at hx; exact hx)
    have h4 := wr_inj hk l _ _ (hd n h1) (hd m h2) h3.1
    have h5 : n % k = m % k := by
      have := (List.cons.inj h3.2).1
      omega
    rw [← Nat.div_add_mod n k, ← Nat.div_add_mod m k, h4, h5]
/-- a later word begins with no earlier one, nor the other way round -/
theorem wr_apart {k : Nat} (hk : 1 ≤ k) {l l' n n' : Nat} (hl : l ≤ l') (h1 : n < k ^ l) (h2 : n' < k ^ l') (h : (n + 1) * k ^ (l' - l) ≤ n') : pre (wr k n l) (wr k n' l') = false ∧ pre (wr k n' l') (wr k n l) = false := by
  have hpos : 0 < k ^ (l' - l) := Nat.pow_pos (by omega)
  have hq : n + 1 ≤ n' / k ^ (l' - l) := (Nat.le_div_iff_mul_le hpos).mpr h
  have hq2 : n' / k ^ (l' - l) < k ^ l := Nat.div_lt_of_lt_mul (by
    rw [← Nat.pow_add]
    have e : l' - l + l = l' := by omega
    rw [e]; exact h2)
  have e1 : l + (l' - l) = l' := by omega
  have ht := wr_take k (l' - l) l n'
  rw [e1] at ht
  constructor
  · unfold pre
    rw [wr_len, ht]
    refine decide_eq_false fun z => ?_
    have := wr_inj hk l _ _ hq2 h1 z
    omega
  · unfold pre
    refine decide_eq_false fun z => ?_
    have hlen := congrArg List.length z
    rw [List.length_take, wr_len, wr_len] at hlen
    have e2 : l' = l := by omega
    subst e2
    rw [wr_len, List.take_of_length_le (by rw [wr_len]; omega)] at z
    have := wr_inj hk l' _ _ h1 h2 z
    rw [Nat.sub_self, Nat.pow_zero, Nat.mul_one] at h
    omega
/-! ### all words apart -/
def Free (ws : List Wd) : Prop := ws.Pairwise fun a b => pre a b = false ∧ pre b a = false
theorem free_perm {ws us : List Wd} (h : ws.Perm us) (f : Free ws) : Free us := (h.pairwise_iff fun {a b} h => ⟨h.2, h.1⟩).mp f
theorem free_of {ws : List Wd} (h : ∀ (i j : Nat) a b, i < j → ws[i]? = some a → ws[j]? = some b → pre a b = false ∧ pre b a = false) : Free ws := by
  unfold Free
  rw [List.pairwise_iff_getElem]
  intro i j hi hj hij
  exact h i j _ _ hij (List.getElem?_eq_getElem hi) (List.getElem?_eq_getElem hj)
theorem free_get {ws : List Wd} (f : Free ws) {i j : Nat} {a b : Wd} (hij : i ≠ j) (ha : ws[i]? = some a) (hb : ws[j]? = some b) : pre a b = false := by
  have hi := (List.getElem?_eq_some_iff.mp ha)
  have hj := (List.getElem?_eq_some_iff.mp hb)
  obtain ⟨hi, rfl⟩ := hi
  obtain ⟨hj, rfl⟩ := hj
  unfold Free at f
  rw [List.pairwise_iff_getElem] at f
  rcases Nat.lt_or_gt_of_ne hij with h | h
  · exact (f i j hi hj h).1
  · exact (f j i hj hi h).2
/-- some word begins the next one -/
def adj (ss : List Wd) : Bool := (List.range (ss.length - 1)).any fun i => pre (ss.getD i []) (ss.getD (i + 1) [])
theorem adj_free {ss : List Wd} (f : Free ss) : adj ss = false := by
  unfold adj
  rw [List.any_eq_false]
  intro i hi
  have hi := List.mem_range.mp hi
  have h1 : ss[i]? = some (ss.getD i []) := by simp [List.getD, List.getElem?_eq_getElem (show i < ss.length by omega)]
  have h2 : ss[i + 1]? = some (ss.getD (i + 1) []) := by simp [List.getD, List.getElem?_eq_getElem (show i + 1 < ss.length by omega)]
  rw [free_get f (by omega) h1 h2]
  decide
end M5

set_option Elab.async false
set_option linter.all false
set_option maxRecDepth 100000
set_option maxHeartbeats 4000000
namespace Tr
open PySem PySem.Spec PyProof.Rows L2 Evl
open M3 (wat joinW pre)
def topS (i : Nat) : Stmt := PySem.Challenge.pw_tworeadings_k06_answers_by_hand.main.body.getD i (.Pass ⟨0, 0, 0, 0⟩)
abbrev s_is_text : Stmt := topS 6
abbrev N_is_text : List Str := ["thing"]
theorem sc_is_text : FnScope N_is_text ["thing"] (defScope s_is_text) := ⟨rfl, rfl, rfl, by decide +kernel, rfl, by decide +kernel, by decide +kernel⟩
abbrev s_asked_code : Stmt := topS 7
abbrev N_asked_code : List Str := ["code", "word"]
theorem sc_asked_code : FnScope N_asked_code ["code"] (defScope s_asked_code) := ⟨rfl, rfl, rfl, by decide +kernel, rfl, by decide +kernel, by decide +kernel⟩
abbrev s_asked_text : Stmt := topS 8
abbrev N_asked_text : List Str := ["text"]
theorem sc_asked_text : FnScope N_asked_text ["text"] (defScope s_asked_text) := ⟨rfl, rfl, rfl, by decide +kernel, rfl, by decide +kernel, by decide +kernel⟩
abbrev s_joined : Stmt := topS 9
abbrev N_joined : List Str := ["code", "places", "place"]
theorem sc_joined : FnScope N_joined ["code", "places"] (defScope s_joined) := ⟨rfl, rfl, rfl, by decide +kernel, rfl, by decide +kernel, by decide +kernel⟩
abbrev s_stands : Stmt := topS 10
abbrev N_stands : List Str := ["word", "text", "at"]
theorem sc_stands : FnScope N_stands ["word", "text", "at"] (defScope s_stands) := ⟨rfl, rfl, rfl, by decide +kernel, rfl, by decide +kernel, by decide +kernel⟩
local macro_rules | `(tactic| walk_at "sd") => `(tactic| first | assumption | rfl | omega | decide | (solve_by_elim) | (refine Nat.le_trans (m := 1000) (by solve_by_elim) (by decide)))
local macro_rules | `(tactic| walk_at "rv") => `(tactic| first
  | exact rv_add | exact rv_sub | exact rv_lt | exact rv_le | exact rv_gt | exact rv_ge | exact rv_eqI | exact rv_eqS | exact rv_eqB | exact rv_neI | exact rv_neS | exact rv_neB
  | exact rv_mod (by walk_at "sd") | exact rv_fdiv (by first | assumption | exact ⟨by omega, by omega⟩) | exact rv_addS (by walk_at "sd") | exact rv_isB | exact rv_notB | assumption)
local macro_rules | `(tactic| walk_at "ea") => `(tactic| first
  | exact ea_nil
  | (refine' ea_cons ?k1 ?k2; (case k1 => walk_at "ev"); (case k2 => walk_at "ea")))
local macro_rules | `(tactic| walk_at "eo") => `(tactic| first
  | exact eo_none
  | (refine' eo_some ?k1; (case k1 => walk_at "ev")))
local macro_rules | `(tactic| walk_at "et") => `(tactic| first
  | (refine' et_test ?k1; (case k1 => walk_at "ev"))
  | (refine' et_B ?k1; (case k1 => walk_at "ev"))
  | (refine' et_and ?k1 ?k2; (case k1 => walk_at "et"); (case k2 => (intro _; walk_at "et")))
  | (refine' et_or ?k1 ?k2; (case k1 => walk_at "et"); (case k2 => (intro _; walk_at "et")))
  | (refine' et_not ?k1; (case k1 => walk_at "et"))
  | assumption)
local macro_rules | `(tactic| walk_at "ev") => `(tactic| first
  | assumption
  | exact ev_cS
  | exact ev_c
  | exact ev_var rfl
  | (refine' ev_op ?k1 ?k2 ?k3; (case k1 => walk_at "ev"); (case k2 => walk_at "ev"); (case k3 => walk_at "rv"))
  | (refine' ev_un ?k1 ru_neg; (case k1 => walk_at "ev"))
  | (refine' ev_chain ?k1 ?k2 ?k3 ?k4 ?k5; (case k1 => walk_at "ev"); (case k2 => walk_at "ev"); (case k3 => walk_at "ev"); (case k4 => walk_at "rv"); (case k5 => (intro _; walk_at "rv")))
  | (refine' ev_slS ?k1 ?k2 ?k3 ?k4; (case k1 => walk_at "ev"); (case k2 => walk_at "eo"); (case k3 => walk_at "eo"); (case k4 => walk_at "sd"))
  | (refine' ev_lenS ?k1 ?k2; (case k1 => walk_at "ev"); (case k2 => walk_at "sd"))
  | (refine' ev_len' ?k1 ?k2; (case k1 => walk_at "ev"); (case k2 => walk_at "sd"))
  | (refine' ev_strip ?k1 ?k2 ?k3; (case k1 => walk_at "ev"); (case k2 => walk_at "ev"); (case k3 => walk_at "sd"))
  | (refine' ev_sum ?k1 ?k2; (case k1 => walk_at "ev"); (case k2 => walk_at "sd"))
  | (refine' ev_isi ?k1 ?k2 ?k3 ?k4; (case k1 => walk_at "ev"); (case k2 => walk_at "ev"); (case k3 => first | exact ty_int | exact ty_bl | exact ty_str | exact ty_list (by walk_at "sd")); (case k4 => first | exact kit_ty (r := true) (by decide +kernel) | exact kit_ty (r := false) (by decide +kernel)))
  | (refine' ev_andV ?k1 ?k2; (case k1 => walk_at "ev"); (case k2 => (intro _; walk_at "ev")))
  | (refine' ev_orV ?k1 ?k2; (case k1 => walk_at "ev"); (case k2 => (intro _; walk_at "ev")))
  | (refine' ev_notV ?k1; (case k1 => walk_at "ev"))
  | (refine' ev_call ?k1 ?k2; (case k1 => walk_at "ea"); (case k2 => walk_at "sv")))
local macro_rules | `(tactic| walk_at "el") => `(tactic| first
  | assumption
  | (refine' el_mapB ?k1 ?k2 ?k3 (fun _ => rfl) ?k5; (case k1 => walk_at "ev"); (case k2 => walk_at "sd"); (case k3 => walk_at "sd"); (case k5 => (intro _ _; walk_at "ev")))
  | (refine' el_mapI ?k1 ?k2 ?k3 (fun _ => rfl) ?k5; (case k1 => walk_at "ev"); (case k2 => walk_at "sd"); (case k3 => walk_at "sd"); (case k5 => (intro _ _; walk_at "ev")))
  | (refine' el_mapS ?k1 ?k2 ?k3 (fun _ => rfl) ?k5; (case k1 => walk_at "ev"); (case k2 => walk_at "sd"); (case k3 => walk_at "sd"); (case k5 => (intro _ _; walk_at "ev"))))
local macro_rules | `(tactic| walk_at "ev") => `(tactic| first
  | (refine' ev_all ?k1; (case k1 => walk_at "el"))
  | (refine' ev_any ?k1; (case k1 => walk_at "el"))
  | (refine' ev_sumN ?k1; (case k1 => walk_at "el"))
  | (refine' ev_join ?k1 ?k2 ?k3; (case k1 => exact ev_is ev_cS (congrArg tx codes_nil)); (case k2 => walk_at "el"); (case k3 => walk_at "sd")))

/-- the built-in names, LETTERS -/
structure Blt (mg : Str → Option Value) : Prop where
  len : mg "len" = none
  all : mg "all" = none
  any : mg "any" = none
  isinstance : mg "isinstance" = none
  range : mg "range" = none
  sum : mg "sum" = none
  sorted : mg "sorted" = none
  enumerate : mg "enumerate" = none
  max : mg "max" = none
  min : mg "min" = none
  reversed : mg "reversed" = none
  list : mg "list" = none
  int : mg "int" = none
  str : mg "str" = none
  bool : mg "bool" = none
  set : mg "set" = none
  ValueError : mg "ValueError" = none
  LETTERS : ∃ u, mg "LETTERS" = some u ∧ RelV (.str "abcdefghijklmnopqrstuvwxyz") u
theorem pe_gv {X : Cx} {x : Str} {v : V} {pos : Pos} (hg : Gl X x) (h : ∃ u, X.mg x = some u ∧ RelV v u) (hd : (x == ("__debug__" : Str)) = false := by decide) : PE X (.Name x pos) (tC v) := by
  obtain ⟨u, h1, h2⟩ := h
  exact pe_glob hg h1 h2 hd
def okW (a : Wd) : Prop := ∀ c ∈ a, 97 ≤ c ∧ c ≤ 122
instance (a : Wd) : Decidable (okW a) := inferInstanceAs (Decidable (∀ c ∈ a, 97 ≤ c ∧ c ≤ 122))
def abc : Wd := codes ("abcdefghijklmnopqrstuvwxyz" : Str)
theorem abc_eq : abc = List.range' 97 26 := by decide +kernel
theorem mem_abc {c : Nat} : c ∈ abc ↔ 97 ≤ c ∧ c ≤ 122 := by
  rw [abc_eq, List.mem_range'_1]
  omega
theorem codes_nil : codes ("" : Str) = [] := by decide +kernel
theorem S_nil : S [] = ("" : Str) := by decide +kernel
def standsB (a t : Wd) (i : Nat) : Bool := pre a (t.drop i)
section
variable {P : Program} {w : World} {K : PySem.W.Frag} {mg : Str → Option Value} {base : Heap} {H : Hp}
/-! ### stands -/
def spStands : Sp := fun vs H Q _ => ∃ (a t : Wd) (i : Nat), vs = [tx a, tx t, .int (i : Int)] ∧ a.length ≤ 10000 ∧ t.length ≤ 10000 ∧ ∀ H', Ex H H' → Q (.bl (standsB a t i)) H'
theorem sv_stands {a t : Wd} {i : Nat} (h1 : a.length ≤ 10000) (h2 : t.length ≤ 10000) : SpV spStands [tx a, tx t, .int (i : Int)] H (.bl (standsB a t i)) := fun _ _ _ q _ => ⟨a, t, i, rfl, h1, h2, q⟩
theorem ok_stands (D : DefAt K mg "stands" s_stands ["word", "text", "at"]) (T : Blt mg) : Cal P w K mg base 1 "stands" spStands := by
  refine cal_of D sc_stands (fun vs H Q E h => ?_) (fun f cdv A outer s H vs Q E hr h => ?_)
  · obtain ⟨a, t, i, rfl, _⟩ := h; rfl
  · obtain ⟨a, t, i, rfl, h1, h2, q⟩ := h
    refine ⟨_, (pss_one (ps_ret (pe_cmpR op_eq (pe_slice sl_str (pv 1) (po_some (pv 2)) (po_some (pe_op op_add (pv 2) (pe_callB call_len_str (by rfl) T.len (by decide +kernel) (pa_cons (pv 0) pa_nil))))) (pv 0) (nomark _)))), ?_⟩
    refine sev_run (sev_is (sev_ret (by walk_at "ev")) (congrArg V.bl ?_)) q
    unfold standsB pre
    have h3 : (i : Int) + (a.length : Int) = ((i + a.length : Nat) : Int) := by omega
    have h4 : i + a.length - i = a.length := by omega
    rw [h3, cut_nn, h4]
/-! ### is_number, is_text -/
def spIsText : Sp := fun vs H Q _ => ∃ a : Wd, vs = [tx a] ∧ a.length ≤ 10000 ∧ ∀ H', Ex H H' → Q (.bl (decide (okW a))) H'
theorem sv_is_text {a : Wd} (h : a.length ≤ 10000) : SpV spIsText [tx a] H (.bl (decide (okW a))) := fun _ _ _ q _ => ⟨a, rfl, h, q⟩
theorem strip_abc (a : Wd) : decide (codes (Txt.stripChars (S a) (S abc)) = codes ("" : Str)) = decide (okW a) := by
  have h : (codes (Txt.stripChars (S a) (S abc)) = codes ("" : Str)) ↔ okW a := by
    rw [codes_nil]
    constructor
    · intro e c hc
      have e2 : Txt.stripChars (S a) (S abc) = S [] := by
        rw [← S_codes (Txt.stripChars (S a) (S abc)), e]
      exact mem_abc.mp ((strip_iff a abc).mp e2 c hc)
    · intro o
      rw [(strip_iff a abc).mpr fun c hc => mem_abc.mpr (o c hc), codes_S]
  simp only [h]
theorem ok_is_text (D : DefAt K mg "is_text" s_is_text ["thing"]) (T : Blt mg) : Cal P w K mg base 1 "is_text" spIsText := by
  refine cal_of D sc_is_text (fun vs H Q E h => ?_) (fun f cdv A outer s H vs Q E hr h => ?_)
  · obtain ⟨a, rfl, _⟩ := h; rfl
  · obtain ⟨a, rfl, h1, q⟩ := h
    refine ⟨_, (pss_one (ps_ret (pe_and (pe_callB (call_isiK' (K := K) rfl) (by rfl) T.isinstance (by decide +kernel) (pa_cons (pv 0) (pa_cons (pe_bltn (v := .ty "str") (by rfl) T.str (by decide +kernel) rfl) pa_nil))) (pe_one (pe_cmpR op_eq (pe_m1 PySem.F.slot_str_strip PySem.F.type_str_strip mt_stripChars (pv 0) (pe_gv (by rfl) T.LETTERS)) pe_str (nomark _)))))), ?_⟩
    refine sev_run (sev_is (sev_ret (by walk_at "ev")) (congrArg V.bl ?_)) q
    rw [Bool.true_and]
    exact strip_abc a
/-! ### asked_code, asked_text -/
/-- a list of words stands at p -/
structure CodeAt (K : PySem.W.Frag) (H : Hp) (p : Addr) (ws : List Wd) : Prop where
  sq : SqL K H p (ws.map tx)
  ok : ∀ a ∈ ws, a ≠ [] ∧ okW a ∧ a.length ≤ 1000
  len : ws.length ≤ 1000
theorem CodeAt.ex {p : Addr} {ws : List Wd} {H H' : Hp} (e : Ex H H') (h : CodeAt K H p ws) : CodeAt K H' p ws := ⟨ex_l e h.sq, h.ok, h.len⟩
def spAskedCode (K : PySem.W.Frag) : Sp := fun vs H Q _ => ∃ (p : Addr) (ws : List Wd), vs = [.ref p] ∧ CodeAt K H p ws ∧ ∀ H', Ex H H' → Q .non H'
theorem sv_asked_code {p : Addr} {ws : List Wd} (h : CodeAt K H p ws) : SpV (spAskedCode K) [.ref p] H .non := fun _ e _ q _ => ⟨p, ws, rfl, h.ex e, q⟩
local macro_rules | `(tactic| walk_at "sv") => `(tactic| first | exact sv_is_text (by walk_at "sd") | exact sv_stands (by walk_at "sd") (by walk_at "sd"))
theorem ok_asked_code (D : DefAt K mg "asked_code" s_asked_code ["code"]) (T : Blt mg) (C_is_text : Cal P w K mg base 1 "is_text" spIsText) : Cal P w K mg base 2 "asked_code" (spAskedCode K) := by
  refine cal_of D sc_asked_code (fun vs H Q E h => ?_) (fun f cdv A outer s H vs Q E hr h => ?_)
  · obtain ⟨p, ws, rfl, _⟩ := h; rfl
  · obtain ⟨p, ws, rfl, hc, q⟩ := h
    refine ⟨_, (pss_one (ps_if (PW.pt (pw_or (pt_not (pt_val (pe_callB (call_isiK' (K := K) rfl) (by rfl) T.isinstance (by decide +kernel) (pa_cons (pv 0) (pa_cons (pe_bltn (v := .ty "list") (by rfl) T.list (by decide +kernel) rfl) pa_nil))))) (pw_or1 (pt_not (pt_val (pe_callB (cr_allK (K := K) rfl rfl) (by rfl) T.all (by decide +kernel) (pa_cons (pe_lc (own := [("word", 1)]) rfl sc_asked_code.nd (pi_listK (K := K) rfl (pv 0)) (blkOk_by (own := [("word", 1)]) (N := N_asked_code) (sc := defScope s_asked_code) (by decide +kernel)) (fun _ _ _ _ _ => (pg_name (i := 1) sc_asked_code.nd rfl (.inl rfl))) (fun _ _ _ _ _ => pts_nil) (fun _ _ _ _ _ => (pe_and (pe_c C_is_text hr (by decide) (by rfl) (pa_cons (pv 1) pa_nil)) (pe_one (pe_cmpR op_ne (pv 1) pe_str (nomark _)))))) pa_nil))))))) (pss_one ps_never) pss_nil)), ?_⟩
    have hsq := hc.sq
    have hz : ws.length ≤ 40000 := Nat.le_trans hc.len (by decide)
    have hb : ∀ a, a ∈ ws → a.length ≤ 1000 := fun a ha => (hc.ok a ha).2.2
    refine snx_run (snx_skip (et_is (by walk_at "et") ?_)) q
    have : (ws.map fun a => decide (okW a) && !decide (a = codes ("" : Str))).all id = true := by
      rw [List.all_map, List.all_eq_true]
      intro a ha
      obtain ⟨h1, h2, h3⟩ := hc.ok a ha
      simp [h1, h2, codes_nil]
    rw [this]
    rfl
def spAskedText : Sp := fun vs H Q _ => ∃ a : Wd, vs = [tx a] ∧ a.length ≤ 10000 ∧ okW a ∧ ∀ H', Ex H H' → Q .non H'
theorem sv_asked_text {a : Wd} (h : a.length ≤ 10000) (o : okW a) : SpV spAskedText [tx a] H .non := fun _ _ _ q _ => ⟨a, rfl, h, o, q⟩
theorem ok_asked_text (D : DefAt K mg "asked_text" s_asked_text ["text"]) (T : Blt mg) (C_is_text : Cal P w K mg base 1 "is_text" spIsText) : Cal P w K mg base 2 "asked_text" spAskedText := by
  refine cal_of D sc_asked_text (fun vs H Q E h => ?_) (fun f cdv A outer s H vs Q E hr h => ?_)
  · obtain ⟨a, rfl, _⟩ := h; rfl
  · obtain ⟨a, rfl, h1, o, q⟩ := h
    refine ⟨_, (pss_one (ps_if (pt_not (pt_val (pe_c C_is_text hr (by decide) (by rfl) (pa_cons (pv 0) pa_nil)))) (pss_one ps_never) pss_nil)), ?_⟩
    refine snx_run (snx_skip (et_is (by walk_at "et") ?_)) q
    simp [o]
/-! ### joined -/
def nI (n : Nat) : V := .int (n : Int)
theorem wat_get {ws : List Wd} {i : Nat} (h : i < ws.length) : (ws.map tx)[i]? = some (tx (wat ws i)) := by
  simp [wat, List.getD, List.getElem?_map, h]
def spJoined (K : PySem.W.Frag) : Sp := fun vs H Q _ => ∃ (p q : Addr) (ws : List Wd) (ns : List Nat), vs = [.ref p, .ref q] ∧ SqL K H p (ws.map tx) ∧ SqL K H q (ns.map nI) ∧ ns.length ≤ 40000 ∧ (∀ n ∈ ns, n < ws.length) ∧ (joinW ws ns).length ≤ 100000 ∧ ∀ H', Ex H H' → Q (tx (joinW ws ns)) H'
theorem sv_joined {p q : Addr} {ws : List Wd} {ns : List Nat} (h1 : SqL K H p (ws.map tx)) (h2 : SqL K H q (ns.map nI)) (h3 : ns.length ≤ 40000) (h4 : ∀ n ∈ ns, n < ws.length) (h5 : (joinW ws ns).length ≤ 100000) : SpV (spJoined K) [.ref p, .ref q] H (tx (joinW ws ns)) :=
  fun _ e _ k _ => ⟨p, q, ws, ns, rfl, ex_l e h1, ex_l e h2, h3, h4, h5, k⟩
theorem ok_joined (D : DefAt K mg "joined" s_joined ["code", "places"]) (T : Blt mg) : Cal P w K mg base 1 "joined" (spJoined K) := by
  refine cal_of D sc_joined (fun vs H Q E h => ?_) (fun f cdv A outer s H vs Q E hr h => ?_)
  · obtain ⟨p, q, ws, ns, rfl, _⟩ := h; rfl
  · obtain ⟨p, q, ws, ns, rfl, h1, h2, h3, h4, h5, k⟩ := h
    refine ⟨_, (pss_one (ps_ret (pe_joinK (K := K) rfl pe_str (pe_lc (own := [("place", 2)]) rfl sc_joined.nd (pi_listK (K := K) rfl (pv 1)) (blkOk_by (own := [("place", 2)]) (N := N_joined) (sc := defScope s_joined) (by decide +kernel)) (fun _ _ _ _ _ => (pg_name (i := 2) sc_joined.nd rfl (.inl rfl))) (fun _ _ _ _ _ => pts_nil) (fun _ _ _ _ _ => (pe_ix (ix_listK (K := K) rfl) (pv 0) (pv 2) (fun _ _ => rfl))))))), ?_⟩
    refine sev_run (sev_ret ?_) k
    refine ev_join (ev_is ev_cS (congrArg tx codes_nil)) (el_mapS (ev_var rfl) h2 h3 (fun _ => rfl) fun n hn => ?_) h5
    exact ev_op (ev_var rfl) (ev_var rfl) (rv_ixL h1 (atI_nat (wat_get (h4 n hn))))
end
end Tr

set_option Elab.async false
set_option linter.all false
set_option maxRecDepth 100000
set_option maxHeartbeats 4000000
namespace Tr
open PySem PySem.Spec PyProof.Rows L2 Evl
open M3 (wat joinW pre ways pick nthW bef num)
abbrev s_table_of : Stmt := topS 23
abbrev N_table_of : List Str := ["code", "text", "mark", "found", "word"]
theorem sc_table_of : FnScope N_table_of ["code", "text"] (defScope s_table_of) := ⟨rfl, rfl, rfl, by decide +kernel, rfl, by decide +kernel, by decide +kernel⟩
abbrev s_nth : Stmt := topS 26
abbrev N_nth : List Str := ["code", "text", "table", "number", "found", "mark", "left", "step", "place", "word", "many"]
theorem sc_nth : FnScope N_nth ["code", "text", "table", "number"] (defScope s_nth) := ⟨rfl, rfl, rfl, by decide +kernel, rfl, by decide +kernel, by decide +kernel⟩
local macro_rules | `(tactic| walk_at "sd") => `(tactic| first | assumption | rfl | omega | decide | (solve_by_elim) | (refine Nat.le_trans (m := 1000) (by solve_by_elim) (by decide)))
local macro_rules | `(tactic| walk_at "rv") => `(tactic| first
  | exact rv_add | exact rv_sub | exact rv_lt | exact rv_le | exact rv_gt | exact rv_ge | exact rv_eqI | exact rv_eqS | exact rv_eqB | exact rv_neI | exact rv_neS | exact rv_neB
  | exact rv_mod (by walk_at "sd") | exact rv_fdiv (by first | assumption | exact ⟨by omega, by omega⟩) | exact rv_addS (by walk_at "sd") | exact rv_isB | exact rv_notB | assumption)
local macro_rules | `(tactic| walk_at "ea") => `(tactic| first
  | exact ea_nil
  | (refine' ea_cons ?k1 ?k2; (case k1 => walk_at "ev"); (case k2 => walk_at "ea")))
local macro_rules | `(tactic| walk_at "eo") => `(tactic| first
  | exact eo_none
  | (refine' eo_some ?k1; (case k1 => walk_at "ev")))
local macro_rules | `(tactic| walk_at "et") => `(tactic| first
  | (refine' et_test ?k1; (case k1 => walk_at "ev"))
  | (refine' et_B ?k1; (case k1 => walk_at "ev"))
  | (refine' et_and ?k1 ?k2; (case k1 => walk_at "et"); (case k2 => (intro _; walk_at "et")))
  | (refine' et_or ?k1 ?k2; (case k1 => walk_at "et"); (case k2 => (intro _; walk_at "et")))
  | (refine' et_not ?k1; (case k1 => walk_at "et"))
  | assumption)
local macro_rules | `(tactic| walk_at "ev") => `(tactic| first
  | assumption
  | exact ev_cS
  | exact ev_c
  | exact ev_var rfl
  | (refine' ev_op ?k1 ?k2 ?k3; (case k1 => walk_at "ev"); (case k2 => walk_at "ev"); (case k3 => walk_at "rv"))
  | (refine' ev_un ?k1 ru_neg; (case k1 => walk_at "ev"))
  | (refine' ev_chain ?k1 ?k2 ?k3 ?k4 ?k5; (case k1 => walk_at "ev"); (case k2 => walk_at "ev"); (case k3 => walk_at "ev"); (case k4 => walk_at "rv"); (case k5 => (intro _; walk_at "rv")))
  | (refine' ev_slS ?k1 ?k2 ?k3 ?k4; (case k1 => walk_at "ev"); (case k2 => walk_at "eo"); (case k3 => walk_at "eo"); (case k4 => walk_at "sd"))
  | (refine' ev_lenS ?k1 ?k2; (case k1 => walk_at "ev"); (case k2 => walk_at "sd"))
  | (refine' ev_len' ?k1 ?k2; (case k1 => walk_at "ev"); (case k2 => walk_at "sd"))
  | (refine' ev_strip ?k1 ?k2 ?k3; (case k1 => walk_at "ev"); (case k2 => walk_at "ev"); (case k3 => walk_at "sd"))
  | (refine' ev_sum ?k1 ?k2; (case k1 => walk_at "ev"); (case k2 => walk_at "sd"))
  | (refine' ev_isi ?k1 ?k2 ?k3 ?k4; (case k1 => walk_at "ev"); (case k2 => walk_at "ev"); (case k3 => first | exact ty_int | exact ty_bl | exact ty_str | exact ty_list (by walk_at "sd")); (case k4 => first | exact kit_ty (r := true) (by decide +kernel) | exact kit_ty (r := false) (by decide +kernel)))
  | (refine' ev_andV ?k1 ?k2; (case k1 => walk_at "ev"); (case k2 => (intro _; walk_at "ev")))
  | (refine' ev_orV ?k1 ?k2; (case k1 => walk_at "ev"); (case k2 => (intro _; walk_at "ev")))
  | (refine' ev_notV ?k1; (case k1 => walk_at "ev"))
  | (refine' ev_call ?k1 ?k2; (case k1 => walk_at "ea"); (case k2 => walk_at "sv")))
local macro_rules | `(tactic| walk_at "el") => `(tactic| first
  | assumption
  | (refine' el_mapB ?k1 ?k2 ?k3 (fun _ => rfl) ?k5; (case k1 => walk_at "ev"); (case k2 => walk_at "sd"); (case k3 => walk_at "sd"); (case k5 => (intro _ _; walk_at "ev")))
  | (refine' el_mapI ?k1 ?k2 ?k3 (fun _ => rfl) ?k5; (case k1 => walk_at "ev"); (case k2 => walk_at "sd"); (case k3 => walk_at "sd"); (case k5 => (intro _ _; walk_at "ev")))
  | (refine' el_mapS ?k1 ?k2 ?k3 (fun _ => rfl) ?k5; (case k1 => walk_at "ev"); (case k2 => walk_at "sd"); (case k3 => walk_at "sd"); (case k5 => (intro _ _; walk_at "ev"))))
local macro_rules | `(tactic| walk_at "ev") => `(tactic| first
  | (refine' ev_all ?k1; (case k1 => walk_at "el"))
  | (refine' ev_any ?k1; (case k1 => walk_at "el"))
  | (refine' ev_sumN ?k1; (case k1 => walk_at "el"))
  | (refine' ev_join ?k1 ?k2 ?k3; (case k1 => exact ev_is ev_cS (congrArg tx codes_nil)); (case k2 => walk_at "el"); (case k3 => walk_at "sd")))

local macro_rules | `(tactic| walk_at "sv") => `(tactic| first | exact sv_is_text (by walk_at "sd") | exact sv_is_number | exact sv_stands (by walk_at "sd") (by walk_at "sd") | exact sv_asked_code (by walk_at "sd") | exact sv_asked_text (by walk_at "sd") (by walk_at "sd"))
/-- the counts behind each mark -/
def tabN (ws : List Wd) (t : Wd) : List Nat := (List.range (t.length + 1)).map fun m => ways ws (t.drop m)
def tabP (ws : List Wd) (t : Wd) (lo : Nat) : List Nat := (List.range (t.length + 1)).map fun m => if lo ≤ m then ways ws (t.drop m) else 0
theorem tabP_zero (ws : List Wd) (t : Wd) : tabP ws t 0 = tabN ws t := by
  unfold tabP tabN
  apply List.map_congr_left
  intro m _
  rw [if_pos (Nat.zero_le _)]
theorem tabP_set (ws : List Wd) (t : Wd) (lo : Nat) (h : lo ≤ t.length) : ((tabP ws t (lo + 1)).map nI).set lo (nI (ways ws (t.drop lo))) = (tabP ws t lo).map nI := by
  rw [← List.map_set]
  congr 1
  unfold tabP
  apply List.ext_getElem?
  intro i
  rw [List.getElem?_set, List.getElem?_map, List.getElem?_map]
  rcases Nat.lt_or_ge i (t.length + 1) with hi | hi
  · rw [List.getElem?_range hi]
    by_cases e : lo = i
    · subst e
      rw [if_pos rfl, if_pos (by simpa using hi)]
      simp
    · rw [if_neg e]
      simp only [Option.map_some]
      have : (lo + 1 ≤ i) ↔ (lo ≤ i) := by omega
      simp [this]
  · rw [List.getElem?_eq_none (by simpa using hi)]
    have : lo ≠ i := by omega
    simp [this]
theorem tabP_get (ws : List Wd) (t : Wd) {lo m : Nat} (h : lo ≤ m) (hm : m ≤ t.length) : ((tabP ws t lo).map nI)[m]? = some (nI (ways ws (t.drop m))) := by
  unfold tabP
  rw [List.getElem?_map, List.getElem?_map, List.getElem?_range (by omega)]
  simp [h]
theorem tabN_get (ws : List Wd) (t : Wd) {m : Nat} (hm : m ≤ t.length) : ((tabN ws t).map nI)[m]? = some (nI (ways ws (t.drop m))) := by
  rw [← tabP_zero]; exact tabP_get ws t (Nat.zero_le _) hm
section
variable {P : Program} {w : World} {K : PySem.W.Frag} {mg : Str → Option Value} {base : Heap} {H : Hp}
/-! ### table_of -/
def spTable (K : PySem.W.Frag) : Sp := fun vs H Q _ => ∃ (p : Addr) (ws : List Wd) (t : Wd), vs = [.ref p, tx t] ∧ CodeAt K H p ws ∧ t.length ≤ 5000 ∧ RetL ((tabN ws t).map nI) H Q
theorem sl_table {p : Addr} {ws : List Wd} {t : Wd} (h : CodeAt K H p ws) (ht : t.length ≤ 5000) : SpL (spTable K) [.ref p, tx t] H ((tabN ws t).map nI) := fun _ e _ q _ => ⟨p, ws, t, rfl, h.ex e, ht, q⟩
theorem ok_table_of (D : DefAt K mg "table_of" s_table_of ["code", "text"]) (T : Blt mg) (C_stands : Cal P w K mg base 1 "stands" spStands) : Cal P w K mg base 2 "table_of" (spTable K) := by
  refine cal_of D sc_table_of (fun vs H Q E h => ?_) (fun f cdv A outer s H vs Q E hr h => ?_)
  · obtain ⟨p, ws, t, rfl, _⟩ := h; rfl
  · obtain ⟨p, ws, t, rfl, hc, ht, k⟩ := h
    refine ⟨_, (pss_cons (ps_set (i := 3) sc_table_of.nd rfl (.inr rfl) (pe_lc (own := [("mark", 2)]) rfl sc_table_of.nd (pi_range1 (by rfl) T.range (pa_cons (pe_op op_add (pe_callB call_len_str (by rfl) T.len (by decide +kernel) (pa_cons (pv 1) pa_nil)) pe_int) pa_nil)) (blkOk_by (own := [("mark", 2)]) (N := N_table_of) (sc := defScope s_table_of) (by decide +kernel)) (fun _ _ _ _ _ => (pg_name (i := 2) sc_table_of.nd rfl (.inl rfl))) (fun _ _ _ _ _ => pts_nil) (fun _ _ _ _ _ => pe_int)))
      (pss_cons (ps_asg pe_int (pg_sub (pv 3) (pe_callB call_len_str (by rfl) T.len (by decide +kernel) (pa_cons (pv 1) pa_nil)) set_list))
      (pss_cons (ps_for PassesOwn.never rfl (pi_revR (by rfl) T.reversed (prg_1 (by rfl) T.range (pe_callB call_len_str (by rfl) T.len (by decide +kernel) (pa_cons (pv 1) pa_nil)))) (pg_name (i := 2) sc_table_of.nd rfl (.inr rfl)) (pss_one (ps_asg (pe_callB (cr_sumK (K := K) rfl rfl) (by rfl) T.sum (by decide +kernel) (pa_cons (pe_lc (own := [("word", 4)]) rfl sc_table_of.nd (pi_listK (K := K) rfl (pv 0)) (blkOk_by (own := [("word", 4)]) (N := N_table_of) (sc := defScope s_table_of) (by decide +kernel)) (fun _ _ _ _ _ => (pg_name (i := 4) sc_table_of.nd rfl (.inl rfl))) (fun _ _ _ _ _ => (pts_one (pt_val (pe_c C_stands hr (by decide) (by rfl) (pa_cons (pv 4) (pa_cons (pv 1) (pa_cons (pv 2) pa_nil))))))) (fun _ _ _ _ _ => (pe_ix (ix_listK (K := K) rfl) (pv 3) (pe_op op_add (pv 2) (pe_callB call_len_str (by rfl) T.len (by decide +kernel) (pa_cons (pv 4) pa_nil))) (fun _ _ => rfl)))) pa_nil)) (pg_sub (pv 3) (pv 2) set_list))))
      (pss_one (ps_ret (pv 3)))))), ?_⟩
    have hz : ws.length ≤ 40000 := Nat.le_trans hc.len (by decide)
    have hb : ∀ a, a ∈ ws → a.length ≤ 1000 := fun a ha => (hc.ok a ha).2.2
    have hw : ∀ a ∈ ws, a ≠ [] := fun a ha => (hc.ok a ha).1
    have e0 : (((t.length + 1 : Nat) : Int)) = (t.length : Int) + 1 := rfl
    -- found = [0 ..]
    refine q_asgL (el_range (t.length + 1) (fun _ => V.int 0) (by rw [e0]; walk_at "ea") (by omega) (fun _ => rfl) fun i hi => ev_c) fun q H1 nq e1 h1 => ?_
    -- found[len(text)] = 1
    refine q_setL (j := t.length) h1 (v := .int 1) ev_c (ev_var rfl) (by walk_at "ev") (by simp) fun H2 e2 => ?_
    have hset : ((List.range (t.length + 1)).map fun _ => V.int 0).set t.length (.int 1) = (tabP ws t t.length).map nI := by
      have h := tabP_set ws t t.length (Nat.le_refl _)
      rw [← h]
      have h3 : ways ws (t.drop t.length) = 1 := by rw [List.drop_length]; rfl
      rw [h3]
      have h4 : (tabP ws t (t.length + 1)).map nI = (List.range (t.length + 1)).map fun _ => V.int 0 := by
        unfold tabP
        rw [List.map_map]
        apply List.map_congr_left
        intro m hm
        have := List.mem_range.mp hm
        show nI (if t.length + 1 ≤ m then _ else 0) = _
        rw [if_neg (by omega)]
        rfl
      rw [h4]
      rfl
    rw [hset]
    -- the loop
    refine q_forRev (n := t.length) (by walk_at "ev") (by omega) (fun i σ' H' => ∃ mv, σ' = [some (.ref p), some (tx t), mv, some (.ref q), none] ∧ Ex H H' ∧ H' q = some (.lst ((tabP ws t (t.length - i)).map nI)))
      (fun H3 e3 => ⟨_, rfl, ((Ex.mut (e1.trans e2) nq).trans e3), e3 q _ upd_same⟩) (fun i σ' H' hi p => ?_) (fun σ' H' p => ?_)
    · obtain ⟨mv, rfl, e', hq⟩ := p
      have em : t.length - i = (t.length - 1 - i) + 1 := by omega
      rw [em] at hq
      generalize hmm : t.length - 1 - i = m at hq ⊢
      have hm : m < t.length := by omega
      have hcs : SqL K H' p (ws.map tx) := ex_l e' hc.sq
      have hne : t.drop m ≠ [] := fun z => by
        have := congrArg List.length z
        rw [List.length_drop, List.length_nil] at this; omega
      have hsum : (((ws.filter fun a => standsB a t m).map fun a => ((ways ws (t.drop (m + a.length)) : Nat) : Int))).sum = ((ways ws (t.drop m) : Nat) : Int) := by
        rw [M3.ways_eq ws hw hne]
        have h1 : (ws.filter fun a => standsB a t m) = ws.filter fun a => pre a (t.drop m) := rfl
        rw [h1]
        generalize ws.filter (fun a => pre a (t.drop m)) = us
        induction us with
        | nil => rfl
        | cons a r ih =>
          simp only [List.map_cons, List.sum_cons]
          rw [ih, List.drop_drop]
          omega
      refine s_setL (j := m) hq (v := .int ((ways ws (t.drop m) : Nat) : Int)) ?_ (ev_var rfl) (ev_var rfl) (by unfold tabP; simp; omega) fun H2 e2 => ⟨_, rfl, Ex.mut (e'.trans e2) nq, ?_⟩
      · rw [← hsum]
        refine ev_sumN (el_filterI (φ := tx) (p := fun a => standsB a t m) (ev_var rfl) hcs hz (fun _ => rfl) (fun a ha => ?_) (fun a ha hp => ?_))
        · exact et_B (ev_call (by walk_at "ea") (sv_stands (a := a) (t := t) (i := m) (Nat.le_trans (hb a ha) (by decide)) (by omega)))
        · have hpl := M3.pre_len hp
          rw [List.length_drop] at hpl
          have hal : 0 < a.length := List.length_pos_iff.mpr (hw a ha)
          have e9 : (m : Int) + (a.length : Int) = ((m + a.length : Nat) : Int) := by omega
          have hal2 : a.length ≤ 100000 := Nat.le_trans (hb a ha) (by decide)
          refine ev_op (y := .int ((m + a.length : Nat) : Int)) (ev_var rfl) (by rw [← e9]; walk_at "ev") (rv_ixL (sq_of hq) (atI_nat (tabP_get ws t (by omega) (by omega))))
      · have hs := tabP_set ws t m (by omega)
        have e10 : t.length - (i + 1) = m := by omega
        rw [e10, ← hs]
        exact upd_same
    · obtain ⟨mv, rfl, e', hq⟩ := p
      rw [Nat.sub_self, tabP_zero] at hq
      exact ⟨.ref q, rfl, k q H' nq e' hq⟩
/-! ### nth -/
def spNth (K : PySem.W.Frag) : Sp := fun vs H Q _ => ∃ (p q : Addr) (ws : List Wd) (t : Wd) (k : Nat), vs = [.ref p, tx t, .ref q, .int (k : Int)] ∧ CodeAt K H p ws ∧ t.length ≤ 5000 ∧ SqL K H q ((tabN ws t).map nI) ∧ k < ways ws t ∧ RetL ((nthW ws t k).map nI) H Q
theorem sl_nth {p q : Addr} {ws : List Wd} {t : Wd} {k : Nat} (h : CodeAt K H p ws) (ht : t.length ≤ 5000) (hq : SqL K H q ((tabN ws t).map nI)) (hk : k < ways ws t) : SpL (spNth K) [.ref p, tx t, .ref q, .int (k : Int)] H ((nthW ws t k).map nI) :=
  fun _ e _ r _ => ⟨p, q, ws, t, k, rfl, h.ex e, ht, ex_l e hq, hk, r⟩
theorem nthF_fuel (ws : List Wd) (hw : ∀ a ∈ ws, a ≠ []) : ∀ (n m : Nat) (t : Wd) (k : Nat), t.length ≤ n → t.length ≤ m → k < ways ws t → M3.nthF ws n t k = M3.nthF ws m t k
  | n, m, [], _, _, _, _ => by cases n <;> cases m <;> rfl
  | 0, m, c :: r, _, h, _, _ => by simp at h
  | n + 1, 0, c :: r, _, _, h, _ => by simp at h
  | n + 1, m + 1, c :: r, k, h1, h2, hk => by
    have hne : (c :: r) ≠ [] := by simp
    obtain ⟨j, k', e1, e2, e3, e4, e5⟩ := M3.pick_some ws (c :: r) ws 0 k rfl (by omega) (by rw [M3.bef_zero, M3.bef_all ws hw hne]; omega)
    have hl := M3.wat_ne hw e2
    simp only [M3.nthF, e1]
    congr 1
    apply nthF_fuel ws hw
    · simp only [List.length_drop, List.length_cons] at h1 ⊢; omega
    · simp only [List.length_drop, List.length_cons] at h2 ⊢; omega
    · exact e4
theorem nthW_step (ws : List Wd) (hw : ∀ a ∈ ws, a ≠ []) {t : Wd} (ht : t ≠ []) {k j k' : Nat} (hk : k < ways ws t) (hp : pick ws t ws 0 k = some (j, k')) : nthW ws t k = j :: nthW ws (t.drop (wat ws j).length) k' := by
  cases t with
  | nil => exact absurd rfl ht
  | cons c r =>
    obtain ⟨j2, k2, e1, e2, e3, e4, e5⟩ := M3.pick_some ws (c :: r) ws 0 k rfl (by omega) (by rw [M3.bef_zero, M3.bef_all ws hw ht]; omega)
    rw [hp] at e1
    obtain ⟨rfl, rfl⟩ := Prod.mk.inj (Option.some.inj e1)
    have hl := M3.wat_ne hw e2
    show M3.nthF ws (r.length + 1) (c :: r) k = _
    simp only [M3.nthF, hp]
    congr 1
    apply nthF_fuel ws hw
    · simp only [List.length_drop, List.length_cons]; omega
    · exact Nat.le_refl _
    · exact e4
theorem ok_nth (D : DefAt K mg "nth" s_nth ["code", "text", "table", "number"]) (T : Blt mg) (C_stands : Cal P w K mg base 1 "stands" spStands) : Cal P w K mg base 2 "nth" (spNth K) := by
  refine cal_of D sc_nth (fun vs H Q E h => ?_) (fun f cdv A outer s H vs Q E hr h => ?_)
  · obtain ⟨p, q, ws, t, k, rfl, _⟩ := h; rfl
  · obtain ⟨p, q, ws, t, k, rfl, hc, ht, hq, hk, r⟩ := h
    refine ⟨_, (pss_cons (ps_set (i := 4) sc_nth.nd rfl (.inl rfl) (pe_lst pa_nil))
      (pss_cons (ps_set (i := 5) sc_nth.nd rfl (.inl rfl) pe_int)
      (pss_cons (ps_set (i := 6) sc_nth.nd rfl (.inl rfl) (pv 3))
      (pss_cons (ps_while PassesOwn.never (pt_cmpR op_lt (pv 5) (pe_callB call_len_str (by rfl) T.len (by decide +kernel) (pa_cons (pv 1) pa_nil)) (nomark _)) (pss_cons (ps_set (i := 7) sc_nth.nd rfl (.inl rfl) pe_int)
      (pss_cons (ps_for PassesOwn.never rfl (pi_enumK (K := K) rfl (by rfl) T.enumerate (pa_cons (pv 0) pa_nil)) (pg_tupK (K := K) (n := 2) rfl rfl (pgs_cons (pg_name (i := 8) sc_nth.nd rfl (.inl rfl)) (pgs_cons (pg_name (i := 9) sc_nth.nd rfl (.inl rfl)) pgs_nil))) (pss_one (ps_if (PW.pt (pw_and (pt_cmpR op_eq (pv 7) pe_int (nomark _)) (pw_and1 (pt_val (pe_c C_stands hr (by decide) (by rfl) (pa_cons (pv 9) (pa_cons (pv 1) (pa_cons (pv 5) pa_nil)))))))) (pss_cons (ps_set (i := 10) sc_nth.nd rfl (.inl rfl) (pe_ix (ix_listK (K := K) rfl) (pv 2) (pe_op op_add (pv 5) (pe_callB call_len_str (by rfl) T.len (by decide +kernel) (pa_cons (pv 9) pa_nil))) (fun _ _ => rfl)))
      (pss_one (ps_if (pt_cmpR op_lt (pv 6) (pv 10) (nomark _)) (pss_cons (ps_expr (pe_bm PySem.F.plainAttrs_list PySem.F.slot_list_append PySem.F.type_list_append mt_append (pv 4) (pa_cons (pv 8) pa_nil)))
      (pss_one (ps_set (i := 7) sc_nth.nd rfl (.inl rfl) (pe_callB call_len_str (by rfl) T.len (by decide +kernel) (pa_cons (pv 9) pa_nil))))) (pss_one (ps_set (i := 6) sc_nth.nd rfl (.inl rfl) (pe_op op_sub (pv 6) (pv 10))))))) pss_nil)))
      (pss_one (ps_set (i := 5) sc_nth.nd rfl (.inl rfl) (pe_op op_add (pv 5) (pv 7)))))))
      (pss_one (ps_ret (pv 4))))))), ?_⟩
    have hz : ws.length ≤ 40000 := Nat.le_trans hc.len (by decide)
    have hb : ∀ a, a ∈ ws → a.length ≤ 1000 := fun a ha => (hc.ok a ha).2.2
    have hw : ∀ a ∈ ws, a ≠ [] := fun a ha => (hc.ok a ha).1
    have hlen := M3.join_len ws hw _ (M3.nthW_ok ws hw hk).2.1
    rw [(M3.nthW_ok ws hw hk).1] at hlen
    refine q_asgL (el_lst ea_nil (by decide)) fun l H1 nl e1 h1 => ?_
    refine q_asg ev_c fun H2 e2 => q_asg (ev_var rfl) fun H3 e3 => ?_
    have e13 := (e1.trans e2).trans e3
    refine q_while (fun m σ' H' => ∃ (mk kk : Nat) (ns : List Nat) (s7 s8 s9 s10 : Option V), σ' = [some (.ref p), some (tx t), some (.ref q), some (.int (k : Int)), some (.ref l), some (.int (mk : Int)), some (.int (kk : Int)), s7, s8, s9, s10] ∧
        mk + m = t.length ∧ kk < ways ws (t.drop mk) ∧ nthW ws t k = ns ++ nthW ws (t.drop mk) kk ∧ Ex H H' ∧ H' l = some (.lst (ns.map nI))) t.length
      ⟨0, k, [], none, none, none, none, rfl, by omega, hk, rfl, e13, e3 l _ (e2 l _ h1)⟩ fun m σ' H' hW => ?_
    obtain ⟨mk, kk, ns, s7, s8, s9, s10, rfl, hm, hkk, hns, e', hl⟩ := hW
    refine ⟨_, et_test (ev_op (ev_var rfl) (ev_lenS (ev_var rfl) (by omega)) rv_lt), fun hlt H4 e4 => ?_, fun hge H4 e4 => ?_⟩
    · -- a turn
      have hlt' : mk < t.length := by have := of_decide_eq_true hlt; omega
      have hne : t.drop mk ≠ [] := fun z => by
        have := congrArg List.length z
        rw [List.length_drop, List.length_nil] at this; omega
      obtain ⟨j, k', p1, p2, p3, p4, p5⟩ := M3.pick_some ws (t.drop mk) ws 0 kk rfl (by omega) (by rw [M3.bef_zero, M3.bef_all ws hw hne]; omega)
      have hstep := nthW_step ws hw hne hkk p1
      have hjl := M3.wat_ne hw p2
      have hjp := M3.pre_len p3
      rw [List.length_drop] at hjp
      rw [List.drop_drop] at hstep p4
      refine ⟨fun σ2 H2 => ∃ s8 s9 s10, σ2 = [some (.ref p), some (tx t), some (.ref q), some (.int (k : Int)), some (.ref l), some (.int ((mk + (wat ws j).length : Nat) : Int)), some (.int (k' : Int)), some (.int ((wat ws j).length : Int)), s8, s9, s10] ∧
          Ex H H2 ∧ H2 l = some (.lst ((ns ++ [j]).map nI)), fun σ2 H2 hN => ?_, ?_⟩
      · obtain ⟨y8, y9, y10, rfl, e2', hl2⟩ := hN
        refine ⟨m - (wat ws j).length, by omega, mk + (wat ws j).length, k', ns ++ [j], _, y8, y9, y10, rfl, by omega, p4, ?_, e2', hl2⟩
        rw [hns, hstep, List.append_assoc]; rfl
      · refine q_asg ev_c fun H5 e5 => ?_
        have ex5 := (e'.trans e4).trans e5
        -- for place, word in enumerate(code)
        refine q_forEnum (a := p) (xs := ws.map tx) (ev_var rfl) (ex_l ex5 hc.sq)
          (fun i σ2 H2 => ∃ s8 s9 s10, Ex H H2 ∧ ((∃ kc : Nat, σ2 = [some (.ref p), some (tx t), some (.ref q), some (.int (k : Int)), some (.ref l), some (.int (mk : Int)), some (.int (kc : Int)), some (.int 0), s8, s9, s10] ∧
              pick ws (t.drop mk) (ws.drop i) i kc = some (j, k') ∧ H2 l = some (.lst (ns.map nI))) ∨
            (σ2 = [some (.ref p), some (tx t), some (.ref q), some (.int (k : Int)), some (.ref l), some (.int (mk : Int)), some (.int (k' : Int)), some (.int ((wat ws j).length : Int)), s8, s9, s10] ∧ H2 l = some (.lst ((ns ++ [j]).map nI)))))
          (fun H6 e6 => ⟨s8, s9, s10, ex5.trans e6, .inl ⟨kk, rfl, p1, (e4.trans (e5.trans e6)) l _ hl⟩⟩)
          (fun i σ2 H2 hP => by obtain ⟨_, _, _, ex, _⟩ := hP; exact ex_l ex hc.sq)
          (fun i σ2 H2 H6 hP e6 => by
            obtain ⟨y8, y9, y10, ex, hP⟩ := hP
            refine ⟨y8, y9, y10, ex.trans e6, ?_⟩
            rcases hP with ⟨kc, a1, a2, a3⟩ | ⟨a1, a2⟩
            · exact .inl ⟨kc, a1, a2, e6 l _ a3⟩
            · exact .inr ⟨a1, e6 l _ a2⟩)
          (fun i x σ2 H2 hi hP => ?_) (fun σ2 H2 hP => ?_)
        · obtain ⟨y8, y9, y10, ex, hP⟩ := hP
          have hil : i < ws.length := by
            have := (List.getElem?_eq_some_iff.mp hi).1
            rwa [List.length_map] at this
          have hx : x = tx ws[i] := by
            rw [List.getElem?_map, List.getElem?_eq_getElem hil] at hi
            exact (Option.some.inj hi).symm
          subst hx
          have hwl := hb ws[i] (List.getElem_mem hil)
          rcases hP with ⟨kc, rfl, a2, a3⟩ | ⟨rfl, a2⟩
          · -- not found yet
            have hdr : ws.drop i = ws[i] :: ws.drop (i + 1) := (List.getElem_cons_drop hil).symm
            rw [hdr] at a2
            unfold pick at a2
            refine s_when (b := pre ws[i] (t.drop mk)) (et_is (et_and (et_test (ev_op (ev_var rfl) ev_c rv_eqI)) fun _ => et_B (ev_call (by walk_at "ea") (sv_stands (a := ws[i]) (t := t) (i := mk) (by omega) (by omega)))) (by simp [standsB])) (fun hp H6 e6 => ?_) (fun hp H6 e6 => ?_)
            · rw [if_pos hp] at a2
              have hpl := M3.pre_len hp
              rw [List.length_drop] at hpl
              have e9 : (mk : Int) + (ws[i].length : Int) = ((mk + ws[i].length : Nat) : Int) := by omega
              have hq6 : SqL K H6 q ((tabN ws t).map nI) := ex_l (ex.trans e6) hq
              refine q_asg (v := nI (ways ws (t.drop (mk + ws[i].length)))) (ev_op (y := .int ((mk + ws[i].length : Nat) : Int)) (ev_var rfl) (by rw [← e9]; walk_at "ev") (rv_ixL hq6 (atI_nat (tabN_get ws t (by omega))))) fun H7 e7 => ?_
              rw [List.drop_drop] at a2
              refine s_if (et_test (ev_op (ev_var rfl) (ev_var rfl) rv_lt)) (fun hlt H8 e8 => ?_) (fun hge H8 e8 => ?_)
              · have hlt2 : kc < ways ws (t.drop (mk + ws[i].length)) := by have := of_decide_eq_true hlt; omega
                rw [if_pos hlt2] at a2
                obtain ⟨rfl, rfl⟩ := Prod.mk.inj (Option.some.inj a2)
                have ew : wat ws i = ws[i] := by simp [wat, List.getD, hil]
                have hll : ns.length < 100000 := by
                  have := congrArg List.length hns
                  rw [List.length_append] at this; omega
                refine q_app (xs := ns.map nI) (v := .int (i : Int)) (e8 l _ (e7 l _ (e6 l _ a3))) (ev_var rfl) (ev_var rfl) (by simpa using hll) fun H9 e9' => ?_
                refine s_asg (v := .int ((wat ws i).length : Int)) (by rw [ew]; walk_at "ev") fun H10 e10 => ?_
                refine ⟨_, _, _, ?_, .inr ⟨rfl, ?_⟩⟩
                · exact (Ex.mut ((((ex.trans e6).trans e7).trans e8).trans e9') nl).trans e10
                · rw [e10 l _ upd_same, List.map_append]; rfl
              · have hge2 : ¬ kc < ways ws (t.drop (mk + ws[i].length)) := fun z => by
                  have := of_decide_eq_false hge; omega
                rw [if_neg hge2] at a2
                refine s_asg (v := .int ((kc - ways ws (t.drop (mk + ws[i].length)) : Nat) : Int)) (ev_is (ev_op (ev_var rfl) (ev_var rfl) rv_sub) (congrArg V.int (by omega))) fun H9 e9' => ?_
                exact ⟨_, _, _, (((ex.trans e6).trans e7).trans e8).trans e9', .inl ⟨_, rfl, a2, e9' l _ (e8 l _ (e7 l _ (e6 l _ a3)))⟩⟩
            · rw [if_neg (by rw [hp]; decide)] at a2
              exact ⟨_, _, _, ex.trans e6, .inl ⟨kc, rfl, a2, e6 l _ a3⟩⟩
          · -- found
            refine s_when (b := false) (et_is (et_and (b := true) (et_test (ev_op (ev_var rfl) ev_c rv_eqI)) fun hz2 => absurd (of_decide_eq_true hz2) (by omega)) (by
              have : ¬ ((wat ws j).length : Int) = 0 := by omega
              rw [decide_eq_false this]; rfl)) (fun hp => nomatch hp) (fun _ H6 e6 => ⟨_, _, _, ex.trans e6, .inr ⟨rfl, e6 l _ a2⟩⟩)
        · -- behind the for
          obtain ⟨y8, y9, y10, ex, hP⟩ := hP
          rcases hP with ⟨kc, rfl, a2, a3⟩ | ⟨rfl, a2⟩
          · rw [List.length_map, List.drop_length] at a2
            exact absurd a2 (by simp [pick])
          · refine s_asg (v := .int ((mk + (wat ws j).length : Nat) : Int)) (ev_is (ev_op (ev_var rfl) (ev_var rfl) rv_add) (congrArg V.int (by omega))) fun H7 e7 => ?_
            exact ⟨_, _, _, rfl, ex.trans e7, e7 l _ a2⟩
    · have hge' : ¬ mk < t.length := fun z => by have := of_decide_eq_false hge; omega
      have hnil : t.drop mk = [] := List.drop_eq_nil_of_le (by omega)
      rw [hnil] at hns
      have hns2 : nthW ws t k = ns := by rw [hns]; exact List.append_nil ns
      exact ⟨.ref l, rfl, r l H4 nl (e'.trans e4) (by rw [hns2]; exact e4 l _ hl)⟩
/-! ### how_many, told, number_of -/
end
end Tr

set_option Elab.async false
set_option linter.all false
set_option maxRecDepth 100000
set_option maxHeartbeats 4000000
namespace Tr
open PySem PySem.Spec PyProof.Rows L2 Evl
open M3 (wat joinW pre)
abbrev s_are_places : Stmt := topS 13
abbrev N_are_places : List Str := ["code", "places", "place"]
theorem sc_are_places : FnScope N_are_places ["code", "places"] (defScope s_are_places) := ⟨rfl, rfl, rfl, by decide +kernel, rfl, by decide +kernel, by decide +kernel⟩
abbrev s_Reading___init__ : Stmt := inClass (topS 16) 0
abbrev N_Reading___init__ : List Str := ["self", "places"]
theorem sc_Reading___init__ : FnScope N_Reading___init__ ["self", "places"] (defScope s_Reading___init__) := ⟨rfl, rfl, rfl, by decide +kernel, rfl, by decide +kernel, by decide +kernel⟩
abbrev s_Reading_shows : Stmt := inClass (topS 16) 1
abbrev N_Reading_shows : List Str := ["self", "code", "text"]
theorem sc_Reading_shows : FnScope N_Reading_shows ["self", "code", "text"] (defScope s_Reading_shows) := ⟨rfl, rfl, rfl, by decide +kernel, rfl, by decide +kernel, by decide +kernel⟩
abbrev s_Stuck___init__ : Stmt := inClass (topS 17) 0
abbrev N_Stuck___init__ : List Str := ["self", "marks"]
theorem sc_Stuck___init__ : FnScope N_Stuck___init__ ["self", "marks"] (defScope s_Stuck___init__) := ⟨rfl, rfl, rfl, by decide +kernel, rfl, by decide +kernel, by decide +kernel⟩
abbrev s_Stuck_shows : Stmt := inClass (topS 17) 1
abbrev N_Stuck_shows : List Str := ["self", "code", "text", "mark", "word"]
theorem sc_Stuck_shows : FnScope N_Stuck_shows ["self", "code", "text"] (defScope s_Stuck_shows) := ⟨rfl, rfl, rfl, by decide +kernel, rfl, by decide +kernel, by decide +kernel⟩
local macro_rules | `(tactic| walk_at "sd") => `(tactic| first | assumption | rfl | omega | decide | (solve_by_elim) | (refine Nat.le_trans (m := 1000) (by solve_by_elim) (by decide)))
local macro_rules | `(tactic| walk_at "rv") => `(tactic| first
  | exact rv_add | exact rv_sub | exact rv_lt | exact rv_le | exact rv_gt | exact rv_ge | exact rv_eqI | exact rv_eqS | exact rv_eqB | exact rv_neI | exact rv_neS | exact rv_neB
  | exact rv_mod (by walk_at "sd") | exact rv_fdiv (by first | assumption | exact ⟨by omega, by omega⟩) | exact rv_addS (by walk_at "sd") | exact rv_isB | exact rv_notB | assumption)
local macro_rules | `(tactic| walk_at "ea") => `(tactic| first
  | exact ea_nil
  | (refine' ea_cons ?k1 ?k2; (case k1 => walk_at "ev"); (case k2 => walk_at "ea")))
local macro_rules | `(tactic| walk_at "eo") => `(tactic| first
  | exact eo_none
  | (refine' eo_some ?k1; (case k1 => walk_at "ev")))
local macro_rules | `(tactic| walk_at "et") => `(tactic| first
  | (refine' et_test ?k1; (case k1 => walk_at "ev"))
  | (refine' et_B ?k1; (case k1 => walk_at "ev"))
  | (refine' et_and ?k1 ?k2; (case k1 => walk_at "et"); (case k2 => (intro _; walk_at "et")))
  | (refine' et_or ?k1 ?k2; (case k1 => walk_at "et"); (case k2 => (intro _; walk_at "et")))
  | (refine' et_not ?k1; (case k1 => walk_at "et"))
  | assumption)
local macro_rules | `(tactic| walk_at "ev") => `(tactic| first
  | assumption
  | exact ev_cS
  | exact ev_c
  | exact ev_var rfl
  | (refine' ev_op ?k1 ?k2 ?k3; (case k1 => walk_at "ev"); (case k2 => walk_at "ev"); (case k3 => walk_at "rv"))
  | (refine' ev_un ?k1 ru_neg; (case k1 => walk_at "ev"))
  | (refine' ev_chain ?k1 ?k2 ?k3 ?k4 ?k5; (case k1 => walk_at "ev"); (case k2 => walk_at "ev"); (case k3 => walk_at "ev"); (case k4 => walk_at "rv"); (case k5 => (intro _; walk_at "rv")))
  | (refine' ev_slS ?k1 ?k2 ?k3 ?k4; (case k1 => walk_at "ev"); (case k2 => walk_at "eo"); (case k3 => walk_at "eo"); (case k4 => walk_at "sd"))
  | (refine' ev_lenS ?k1 ?k2; (case k1 => walk_at "ev"); (case k2 => walk_at "sd"))
  | (refine' ev_len' ?k1 ?k2; (case k1 => walk_at "ev"); (case k2 => walk_at "sd"))
  | (refine' ev_strip ?k1 ?k2 ?k3; (case k1 => walk_at "ev"); (case k2 => walk_at "ev"); (case k3 => walk_at "sd"))
  | (refine' ev_sum ?k1 ?k2; (case k1 => walk_at "ev"); (case k2 => walk_at "sd"))
  | (refine' ev_isi ?k1 ?k2 ?k3 ?k4; (case k1 => walk_at "ev"); (case k2 => walk_at "ev"); (case k3 => first | exact ty_int | exact ty_bl | exact ty_str | exact ty_list (by walk_at "sd")); (case k4 => first | exact kit_ty (r := true) (by decide +kernel) | exact kit_ty (r := false) (by decide +kernel)))
  | (refine' ev_andV ?k1 ?k2; (case k1 => walk_at "ev"); (case k2 => (intro _; walk_at "ev")))
  | (refine' ev_orV ?k1 ?k2; (case k1 => walk_at "ev"); (case k2 => (intro _; walk_at "ev")))
  | (refine' ev_notV ?k1; (case k1 => walk_at "ev"))
  | (refine' ev_call ?k1 ?k2; (case k1 => walk_at "ea"); (case k2 => walk_at "sv")))
local macro_rules | `(tactic| walk_at "el") => `(tactic| first
  | assumption
  | (refine' el_mapB ?k1 ?k2 ?k3 (fun _ => rfl) ?k5; (case k1 => walk_at "ev"); (case k2 => walk_at "sd"); (case k3 => walk_at "sd"); (case k5 => (intro _ _; walk_at "ev")))
  | (refine' el_mapI ?k1 ?k2 ?k3 (fun _ => rfl) ?k5; (case k1 => walk_at "ev"); (case k2 => walk_at "sd"); (case k3 => walk_at "sd"); (case k5 => (intro _ _; walk_at "ev")))
  | (refine' el_mapS ?k1 ?k2 ?k3 (fun _ => rfl) ?k5; (case k1 => walk_at "ev"); (case k2 => walk_at "sd"); (case k3 => walk_at "sd"); (case k5 => (intro _ _; walk_at "ev"))))
local macro_rules | `(tactic| walk_at "ev") => `(tactic| first
  | (refine' ev_all ?k1; (case k1 => walk_at "el"))
  | (refine' ev_any ?k1; (case k1 => walk_at "el"))
  | (refine' ev_sumN ?k1; (case k1 => walk_at "el"))
  | (refine' ev_join ?k1 ?k2 ?k3; (case k1 => exact ev_is ev_cS (congrArg tx codes_nil)); (case k2 => walk_at "el"); (case k3 => walk_at "sd")))

local macro_rules | `(tactic| walk_at "sv") => `(tactic| first | exact sv_is_text (by walk_at "sd") | exact sv_stands (by walk_at "sd") (by walk_at "sd"))
/-! ### members -/
theorem all_snoc {α : Type} {f : α → Bool} {xs : List α} {x : α} (h : xs.all f = true) (hf : f x = true) : (xs ++ [x]).all f = true := by
  rw [List.all_append, h, Bool.true_and, List.all_cons, List.all_nil, Bool.and_true]; exact hf
theorem all_take {α : Type} {f : α → Bool} {xs : List α} {i : Nat} {x : α} (hx : xs[i]? = some x) (h : (xs.take i).all f = true) (hf : f x = true) : (xs.take (i + 1)).all f = true := by
  rw [List.take_succ, hx]; exact all_snoc h hf
theorem flat_ints (ms : List Int) : (ms.map V.int).all flatV = true := by
  rw [List.all_map, List.all_eq_true]; intro _ _; rfl
theorem inV_ints (n : Int) (ms : List Int) : inV (.int n) (ms.map V.int) = decide (n ∈ ms) := by
  unfold inV
  rw [List.any_map]
  by_cases h : n ∈ ms
  · rw [decide_eq_true h, List.any_eq_true]
    exact ⟨n, h, by show (n == n) = true; simp⟩
  · rw [decide_eq_false h, List.any_eq_false]
    intro x hx
    have : x ≠ n := fun e => h (e ▸ hx)
    show ¬ (x == n) = true
    simpa using this
section
variable {K : PySem.W.Frag} {σ : L2.St} {H : Hp} {ta tb : TE}
theorem ev_inI {p : Addr} {n : Int} {ms : List Int} (ha : Ev ta σ H (.int n)) (hb : Ev tb σ H (.ref p)) (h : SqL K H p (ms.map V.int)) : Ev (tOp (rIn K false) ta tb) σ H (.bl (decide (n ∈ ms))) := by
  rw [← inV_ints]; exact ev_op ha hb (rv_isL h rfl (flat_ints ms))
theorem ev_niI {p : Addr} {n : Int} {ms : List Int} (ha : Ev ta σ H (.int n)) (hb : Ev tb σ H (.ref p)) (h : SqL K H p (ms.map V.int)) : Ev (tOp (rIn K true) ta tb) σ H (.bl (!decide (n ∈ ms))) := by
  rw [← inV_ints]; exact ev_op ha hb (rv_niL h rfl (flat_ints ms))
end
/-! ### are_places -/
def inR (n : Nat) (ns : List Int) : Bool := ns.all fun i => decide (0 ≤ i) && decide (i < (n : Int))
theorem inR_nat {n : Nat} {ns : List Int} (h : inR n ns = true) : ns.map V.int = (ns.map Int.toNat).map nI ∧ ∀ m ∈ ns.map Int.toNat, m < n := by
  unfold inR at h
  rw [List.all_eq_true] at h
  have hh : ∀ i ∈ ns, 0 ≤ i ∧ i < (n : Int) := fun i hi => by simpa using h i hi
  refine ⟨?_, fun m hm => ?_⟩
  · rw [List.map_map]
    apply List.map_congr_left
    intro i hi
    have := hh i hi
    show V.int i = V.int ((i.toNat : Nat) : Int)
    rw [Int.toNat_of_nonneg this.1]
  · obtain ⟨i, hi, rfl⟩ := List.mem_map.mp hm
    have := hh i hi
    omega
theorem inR_of {n : Nat} {ns : List Nat} (h : ∀ m ∈ ns, m < n) : inR n (List.map (fun m : Nat => (m : Int)) ns) = true := by
  unfold inR
  rw [List.all_map, List.all_eq_true]
  intro m hm
  have := h m hm
  show (decide ((0 : Int) ≤ (m : Int)) && decide ((m : Int) < (n : Int))) = true
  rw [decide_eq_true (by omega), decide_eq_true (by omega)]; rfl
section
variable {P : Program} {w : World} {K : PySem.W.Frag} {mg : Str → Option Value} {base : Heap} {H : Hp}
def spArePlaces (K : PySem.W.Frag) : Sp := fun vs H Q _ => ∃ (p q : Addr) (xs : List V) (ns : List Int), vs = [.ref p, .ref q] ∧ SqL K H p xs ∧ SqL K H q (ns.map V.int) ∧ ns.length ≤ 40000 ∧ ∀ H', Ex H H' → Q (.bl (inR xs.length ns)) H'
theorem sv_are_places {p q : Addr} {xs : List V} {ns : List Int} (h1 : SqL K H p xs) (h2 : SqL K H q (ns.map V.int)) (hn : ns.length ≤ 40000) : SpV (spArePlaces K) [.ref p, .ref q] H (.bl (inR xs.length ns)) := fun _ e _ k _ => ⟨p, q, xs, ns, rfl, ex_l e h1, ex_l e h2, hn, k⟩
theorem ok_are_places (D : DefAt K mg "are_places" s_are_places ["code", "places"]) (T : Blt mg) : Cal P w K mg base 1 "are_places" (spArePlaces K) := by
  refine cal_of D sc_are_places (fun vs H Q E h => ?_) (fun f cdv A outer s H vs Q E hr h => ?_)
  · obtain ⟨p, q, xs, ns, rfl, _⟩ := h; rfl
  · obtain ⟨p, q, xs, ns, rfl, h1, h2, hn, k⟩ := h
    refine ⟨_, (pss_one (ps_ret (pe_callB (cr_allK (K := K) rfl rfl) (by rfl) T.all (by decide +kernel) (pa_cons (pe_lc (own := [("place", 2)]) rfl sc_are_places.nd (pi_listK (K := K) rfl (pv 1)) (blkOk_by (own := [("place", 2)]) (N := N_are_places) (sc := defScope s_are_places) (by decide +kernel)) (fun _ _ _ _ _ => (pg_name (i := 2) sc_are_places.nd rfl (.inl rfl))) (fun _ _ _ _ _ => pts_nil) (fun _ _ _ _ _ => (pe_chain op_le op_lt pe_int (pv 2) (pe_callB (call_len_seqK (K := K) rfl) (by rfl) T.len (by decide +kernel) (pa_cons (pv 0) pa_nil))))) pa_nil)))), ?_⟩
    refine sev_run (sev_is (sev_ret (ev_all (el_mapB (φ := V.int) (g := fun i : Int => decide ((0 : Int) ≤ i) && decide (i < (xs.length : Int))) (ev_var rfl) h2 hn (fun _ => rfl) fun i hi => ?_))) (congrArg V.bl ?_)) k
    · exact ev_chain (y := .int i) ev_c (ev_var rfl) (ev_len' (ev_var rfl) h1) rv_le fun _ => rv_lt
    · rw [List.all_map]; rfl
/-! ### Reading -/
def rdShows (ws : List Wd) (ns : List Int) (t : Wd) : Bool := inR ws.length ns && decide (joinW ws (ns.map Int.toNat) = t)
theorem ok_Reading___init__ {aRd : Addr} (D : IniAt K aRd "Reading.__init__" s_Reading___init__ ["self", "places"]) (T : Blt mg) (G_Reading : mg "Reading" = some (.ref aRd)) (L_Reading : ClsI K aRd) (N_Reading_places : NoAttr K aRd "places") : MkAt P w K mg base 1 "Reading" aRd (spIni1 K aRd "places") := by
  refine mk_ofI G_Reading D sc_Reading___init__ (fun vs H Q E h => ?_) (fun f cdv A outer s H vs Q E hr h => ?_)
  · obtain ⟨p, q, dx, xs, rfl, _⟩ := h; rfl
  · obtain ⟨p, q, dx, xs, rfl, hp, hq, k⟩ := h
    refine ⟨_, (pss_one (ps_fldK (K := K) rfl (pv 0) (pe_callTy (call_list_ofK (K := K) rfl) (by rfl) T.list (by decide +kernel) (pa_cons (pv 1) pa_nil)))), ?_⟩
    exact ini1_run (D := ⟨fun _ H' => Q .non H', Q, fun _ _ => False, fun _ _ => False⟩) L_Reading.cl N_Reading_places hp hq rfl rfl k
theorem ok_Stuck___init__ {aSt : Addr} (D : IniAt K aSt "Stuck.__init__" s_Stuck___init__ ["self", "marks"]) (T : Blt mg) (G_Stuck : mg "Stuck" = some (.ref aSt)) (L_Stuck : ClsI K aSt) (N_Stuck_marks : NoAttr K aSt "marks") : MkAt P w K mg base 1 "Stuck" aSt (spIni1 K aSt "marks") := by
  refine mk_ofI G_Stuck D sc_Stuck___init__ (fun vs H Q E h => ?_) (fun f cdv A outer s H vs Q E hr h => ?_)
  · obtain ⟨p, q, dx, xs, rfl, _⟩ := h; rfl
  · obtain ⟨p, q, dx, xs, rfl, hp, hq, k⟩ := h
    refine ⟨_, (pss_one (ps_fldK (K := K) rfl (pv 0) (pe_callTy (call_list_ofK (K := K) rfl) (by rfl) T.list (by decide +kernel) (pa_cons (pv 1) pa_nil)))), ?_⟩
    exact ini1_run (D := ⟨fun _ H' => Q .non H', Q, fun _ _ => False, fun _ _ => False⟩) L_Stuck.cl N_Stuck_marks hp hq rfl rfl k
/-- an answer at o: a reading, or the marks, in the list at l -/
structure AnsAt (aRd aSt : Addr) (b : Bool) (H : Hp) (o l : Addr) (ns : List Int) : Prop where
  ob : ∃ dx, H o = some (.ins (if b then aRd else aSt) dx [(if b then ("places" : Str) else "marks", .ref l)])
  at_ : H l = some (.lst (ns.map V.int))
theorem AnsAt.ex {aRd aSt o l : Addr} {b : Bool} {H H' : Hp} {ns : List Int} (e : Ex H H') (h : AnsAt aRd aSt b H o l ns) : AnsAt aRd aSt b H' o l ns := by
  obtain ⟨⟨dx, h1⟩, h2⟩ := h
  exact ⟨⟨dx, e o _ h1⟩, e l _ h2⟩
def spRdShows (K : PySem.W.Frag) (aRd : Addr) : Sp := fun vs H Q _ => ∃ (o l p dx : Addr) (ws : List Wd) (ns : List Int) (t : Wd), vs = [.ref o, .ref p, tx t] ∧ H o = some (.ins aRd dx [("places", .ref l)]) ∧ SqL K H l (ns.map V.int) ∧ SqL K H p (ws.map tx) ∧ (∀ a ∈ ws, a.length ≤ 1000) ∧ ns.length ≤ 6000 ∧
  (inR ws.length ns = true → (joinW ws (ns.map Int.toNat)).length ≤ 100000) ∧ ∀ H', Ex H H' → Q (.bl (rdShows ws ns t)) H'
theorem ok_Reading_shows {aRd : Addr} (D : MthAt K aRd "shows" "Reading.shows" s_Reading_shows ["self", "code", "text"]) (T : Blt mg) (L_Reading : ClsI K aRd) (N_Reading_places : NoAttr K aRd "places") (C_are_places : Cal P w K mg base 1 "are_places" (spArePlaces K)) (C_joined : Cal P w K mg base 1 "joined" (spJoined K)) :
    MCal P w K mg base 2 aRd "shows" (spRdShows K aRd) := by
  refine mcal_of L_Reading.cl D sc_Reading_shows (fun vs H Q E h => ?_) (fun f cdv A outer s H vs Q E hr h => ?_)
  · obtain ⟨o, l, p, dx, ws, ns, t, rfl, _⟩ := h; rfl
  · obtain ⟨o, l, p, dx, ws, ns, t, rfl, ho, hl, hp, hb, hn, hj, k⟩ := h
    refine ⟨_, (pss_one (ps_ret (pe_and (pe_c C_are_places hr (by decide) (by rfl) (pa_cons (pv 1) (pa_cons (pe_fldK (K := K) rfl (pv 0)) pa_nil))) (pe_one (pe_cmpR op_eq (pe_c C_joined hr (by decide) (by rfl) (pa_cons (pv 1) (pa_cons (pe_fldK (K := K) rfl (pv 0)) pa_nil))) (pv 2) (nomark _)))))), ?_⟩
    have gl : Ev (tFld K (tVar 0) "places") [some (.ref o), some (.ref p), some (tx t)] H (.ref l) := ev_fld (ev_var rfl) ho L_Reading.cl N_Reading_places (look1 _ _)
    refine sev_run (sev_is (sev_ret (ev_andV (b := decide (joinW ws (ns.map Int.toNat) = t)) (ev_call (vs := [.ref p, .ref l]) (ea_cons (ev_var rfl) (ea_cons gl ea_nil)) (sv_are_places hp hl (by omega))) fun hr => ?_)) ?_) k
    · rw [List.length_map] at hr
      obtain ⟨e1, e2⟩ := inR_nat hr
      exact ev_op (ev_call (vs := [.ref p, .ref l]) (ea_cons (ev_var rfl) (ea_cons gl ea_nil)) (sv_joined hp (by rw [← e1]; exact hl) (by rw [List.length_map]; omega) e2 (hj hr))) (ev_var rfl) rv_eqS
    · rw [List.length_map]; rfl
/-! ### Stuck -/
def stTurn (ws : List Wd) (ms : List Int) (t : Wd) (m : Int) : Bool := decide (0 ≤ m) && decide (m ≤ (t.length : Int)) && ws.all fun a => !(standsB a t m.toNat && !decide (m + (a.length : Int) ∈ ms))
def stShows (ws : List Wd) (ms : List Int) (t : Wd) : Bool := decide (0 ∈ ms) && !decide ((t.length : Int) ∈ ms) && ms.all (stTurn ws ms t)
def spStShows (K : PySem.W.Frag) (aSt : Addr) : Sp := fun vs H Q _ => ∃ (o l p dx : Addr) (ws : List Wd) (ms : List Int) (t : Wd), vs = [.ref o, .ref p, tx t] ∧ H o = some (.ins aSt dx [("marks", .ref l)]) ∧ SqL K H l (ms.map V.int) ∧ SqL K H p (ws.map tx) ∧ (∀ a ∈ ws, a.length ≤ 1000) ∧ t.length ≤ 10000 ∧
  ∀ H', Ex H H' → Q (.bl (stShows ws ms t)) H'
theorem ok_Stuck_shows {aSt : Addr} (D : MthAt K aSt "shows" "Stuck.shows" s_Stuck_shows ["self", "code", "text"]) (T : Blt mg) (L_Stuck : ClsI K aSt) (N_Stuck_marks : NoAttr K aSt "marks") (C_stands : Cal P w K mg base 1 "stands" spStands) :
    MCal P w K mg base 2 aSt "shows" (spStShows K aSt) := by
  refine mcal_of L_Stuck.cl D sc_Stuck_shows (fun vs H Q E h => ?_) (fun f cdv A outer s H vs Q E hr h => ?_)
  · obtain ⟨o, l, p, dx, ws, ms, t, rfl, _⟩ := h; rfl
  · obtain ⟨o, l, p, dx, ws, ms, t, rfl, ho, hl, hp, hb, ht, k⟩ := h
    refine ⟨_, (pss_cons (ps_if (PW.pt (pw_or (pt_cmpR (op_notIn_seqK (K := K) rfl) pe_int (pe_fldK (K := K) rfl (pv 0)) rfl) (pw_or1 (pt_cmpR (op_in_seqK (K := K) rfl) (pe_callB call_len_str (by rfl) T.len (by decide +kernel) (pa_cons (pv 2) pa_nil)) (pe_fldK (K := K) rfl (pv 0)) rfl)))) (pss_one (ps_ret pe_bl)) pss_nil)
      (pss_cons (ps_for PassesOwn.never rfl (pi_listK (K := K) rfl (pe_fldK (K := K) rfl (pv 0))) (pg_name (i := 3) sc_Stuck_shows.nd rfl (.inl rfl)) (pss_cons (ps_if (pt_not (pt_chain op_le op_le pe_int (pv 3) (pe_callB call_len_str (by rfl) T.len (by decide +kernel) (pa_cons (pv 2) pa_nil)))) (pss_one (ps_ret pe_bl)) pss_nil)
      (pss_one (ps_for PassesOwn.never rfl (pi_listK (K := K) rfl (pv 1)) (pg_name (i := 4) sc_Stuck_shows.nd rfl (.inl rfl)) (pss_one (ps_if (PW.pt (pw_and (pt_val (pe_c C_stands hr (by decide) (by rfl) (pa_cons (pv 4) (pa_cons (pv 2) (pa_cons (pv 3) pa_nil))))) (pw_and1 (pt_cmpR (op_notIn_seqK (K := K) rfl) (pe_op op_add (pv 3) (pe_callB call_len_str (by rfl) T.len (by decide +kernel) (pa_cons (pv 4) pa_nil))) (pe_fldK (K := K) rfl (pv 0)) rfl)))) (pss_one (ps_ret pe_bl)) pss_nil))))))
      (pss_one (ps_ret pe_bl)))), ?_⟩
    have gl : ∀ (H' : Hp) (σ : L2.St), Ex H H' → σ[0]? = some (some (.ref o)) → Ev (tFld K (tVar 0) "marks") σ H' (.ref l) := fun H' σ e h0 => ev_fld (ev_var h0) (e o _ ho) L_Stuck.cl N_Stuck_marks (look1 _ _)
    refine q_when (b := !decide (0 ∈ ms) || decide ((t.length : Int) ∈ ms)) (et_or (et_B (ev_niI (n := 0) ev_c (gl _ _ (Ex.refl _) rfl) hl)) fun _ => et_B (ev_inI (ev_lenS (ev_var rfl) (by omega)) (gl _ _ (Ex.refl _) rfl) hl)) (fun h0 H1 e1 => ?_) (fun h0 H1 e1 => ?_)
    · have : stShows ws ms t = false := by
        unfold stShows
        cases h1 : decide ((0 : Int) ∈ ms) <;> cases h2 : decide ((t.length : Int) ∈ ms) <;> rw [h1, h2] at h0 <;> first | rfl | cases h0
      rw [this] at k
      exact s_ret ev_c fun H2 e2 => k H2 (e1.trans e2)
    · have hsh : stShows ws ms t = ms.all (stTurn ws ms t) := by
        unfold stShows
        cases h1 : decide ((0 : Int) ∈ ms) <;> cases h2 : decide ((t.length : Int) ∈ ms) <;> rw [h1, h2] at h0 <;> first | rfl | cases h0
      rw [hsh] at k
      refine q_forLn (a := l) (xs := ms.map V.int) (gl _ _ e1 rfl) (ex_l e1 hl) (fun i σ' H' => ∃ s3 s4, Ex H H' ∧ (ms.take i).all (stTurn ws ms t) = true ∧ σ' = [some (.ref o), some (.ref p), some (tx t), s3, s4])
        (fun H2 e2 => ⟨_, _, e1.trans e2, rfl, rfl⟩) (fun i σ' H' _ hP => by obtain ⟨_, _, e, _⟩ := hP; exact ex_l e hl) (fun i x σ' H' hi hP => ?_) (fun σ' H' hP => ?_)
      · obtain ⟨s3, s4, ex, hall, rfl⟩ := hP
        have hil : i < ms.length := by
          have := (List.getElem?_eq_some_iff.mp hi).1
          rwa [List.length_map] at this
        have hmi : ms[i]? = some ms[i] := List.getElem?_eq_getElem hil
        have hx : x = .int ms[i] := by
          rw [List.getElem?_map, hmi] at hi
          exact (Option.some.inj hi).symm
        subst hx
        have hmem : ms[i] ∈ ms := List.getElem_mem hil
        generalize ms[i] = m at *
        have fin : ∀ H2, Ex H H2 → stTurn ws ms t m = false → Q (.bl false) H2 := fun H2 e2 hf => by
          have : ms.all (stTurn ws ms t) = false := by
            rw [List.all_eq_false]
            exact ⟨m, hmem, by rw [hf]; decide⟩
          rw [this] at k
          exact k H2 e2
        refine q_when (b := !(decide (0 ≤ m) && decide (m ≤ (t.length : Int)))) (et_not (et_B (ev_chain (y := .int m) ev_c (ev_var rfl) (ev_lenS (ev_var rfl) (by omega)) rv_le fun _ => rv_le))) (fun hr0 H2 e2 => ?_) (fun hr0 H2 e2 => ?_)
        · refine s_ret ev_c fun H3 e3 => fin H3 ((ex.trans e2).trans e3) ?_
          unfold stTurn
          cases h1 : (decide (0 ≤ m) && decide (m ≤ (t.length : Int))) with
          | true => rw [h1] at hr0; cases hr0
          | false => rfl
        · have hr1 : (decide (0 ≤ m) && decide (m ≤ (t.length : Int))) = true := by
            cases h1 : (decide (0 ≤ m) && decide (m ≤ (t.length : Int))) with
            | true => rfl
            | false => rw [h1] at hr0; cases hr0
          have hst : stTurn ws ms t m = ws.all fun a => !(standsB a t m.toNat && !decide (m + (a.length : Int) ∈ ms)) := by
            unfold stTurn; rw [hr1]; rfl
          have hm0 : 0 ≤ m := by
            rw [Bool.and_eq_true] at hr1
            exact of_decide_eq_true hr1.1
          have em : m = ((m.toNat : Nat) : Int) := by omega
          refine s_forLn (a := p) (xs := ws.map tx) (ev_var rfl) (ex_l (ex.trans e2) hp) (fun j σ' H' => ∃ s4, Ex H H' ∧ (ws.take j).all (fun a => !(standsB a t m.toNat && !decide (m + (a.length : Int) ∈ ms))) = true ∧ σ' = [some (.ref o), some (.ref p), some (tx t), some (.int m), s4])
            (fun H3 e3 => ⟨_, (ex.trans e2).trans e3, rfl, rfl⟩) (fun j σ' H' _ hP => by obtain ⟨_, e, _⟩ := hP; exact ex_l e hp) (fun j x σ' H' hj hP => ?_) (fun σ' H' hP => ?_)
          · obtain ⟨s4, ex3, hall3, rfl⟩ := hP
            have hjl : j < ws.length := by
              have := (List.getElem?_eq_some_iff.mp hj).1
              rwa [List.length_map] at this
            have hwj : ws[j]? = some ws[j] := List.getElem?_eq_getElem hjl
            have hx : x = tx ws[j] := by
              rw [List.getElem?_map, hwj] at hj
              exact (Option.some.inj hj).symm
            subst hx
            have hwm : ws[j] ∈ ws := List.getElem_mem hjl
            have htk : ws.take (j + 1) = ws.take j ++ [ws[j]] := by rw [List.take_succ, hwj]; rfl
            have hbj := hb _ hwm
            rw [htk]
            generalize ws[j] = a at *
            refine s_when (b := standsB a t m.toNat && !decide (m + (a.length : Int) ∈ ms)) (et_and (et_test (ev_call (vs := [tx a, tx t, .int ((m.toNat : Nat) : Int)]) (by rw [← em]; walk_at "ea") (sv_stands (by omega) ht))) fun _ => et_B (ev_niI (ev_op (x := .int m) (ev_var rfl) (ev_lenS (ev_var rfl) (by omega)) rv_add) (gl _ _ ex3 rfl) (ex_l ex3 hl))) (fun hs H4 e4 => ?_) (fun hs H4 e4 => ?_)
            · refine s_ret ev_c fun H5 e5 => fin H5 ((ex3.trans e4).trans e5) ?_
              rw [hst, List.all_eq_false]
              exact ⟨a, hwm, by rw [hs]; decide⟩
            · refine ⟨some (tx a), ex3.trans e4, ?_, rfl⟩
              refine all_snoc hall3 ?_
              show (!(standsB a t m.toNat && !decide (m + (a.length : Int) ∈ ms))) = true
              rw [hs]; rfl
          · obtain ⟨s4, ex3, hall3, rfl⟩ := hP
            rw [List.length_map, List.take_length] at hall3
            refine ⟨_, _, ex3, all_take hmi hall ?_, rfl⟩
            rw [hst, hall3]
      · obtain ⟨s3, s4, ex, hall, rfl⟩ := hP
        rw [List.length_map, List.take_length] at hall
        rw [hall] at k
        exact s_ret ev_c fun H2 e2 => k H2 (ex.trans e2)
end
end Tr

set_option Elab.async false
set_option linter.all false
set_option maxRecDepth 100000
set_option maxHeartbeats 4000000
namespace Tr
open PySem PySem.Spec PyProof.Rows L2 Evl
open M3 (wat joinW pre ways nthW)
abbrev s_marks_of : Stmt := topS 24
abbrev N_marks_of : List Str := ["code", "text", "found", "seen", "at", "word", "mark"]
theorem sc_marks_of : FnScope N_marks_of ["code", "text"] (defScope s_marks_of) := ⟨rfl, rfl, rfl, by decide +kernel, rfl, by decide +kernel, by decide +kernel⟩
abbrev s_read : Stmt := topS 25
abbrev N_read : List Str := ["code", "text", "table"]
theorem sc_read : FnScope N_read ["code", "text"] (defScope s_read) := ⟨rfl, rfl, rfl, by decide +kernel, rfl, by decide +kernel, by decide +kernel⟩
local macro_rules | `(tactic| walk_at "sd") => `(tactic| first | assumption | rfl | omega | decide | (solve_by_elim) | (refine Nat.le_trans (m := 1000) (by solve_by_elim) (by decide)))
local macro_rules | `(tactic| walk_at "rv") => `(tactic| first
  | exact rv_add | exact rv_sub | exact rv_lt | exact rv_le | exact rv_gt | exact rv_ge | exact rv_eqI | exact rv_eqS | exact rv_eqB | exact rv_neI | exact rv_neS | exact rv_neB
  | exact rv_mod (by walk_at "sd") | exact rv_fdiv (by first | assumption | exact ⟨by omega, by omega⟩) | exact rv_addS (by walk_at "sd") | exact rv_isB | exact rv_notB | assumption)
local macro_rules | `(tactic| walk_at "ea") => `(tactic| first
  | exact ea_nil
  | (refine' ea_cons ?k1 ?k2; (case k1 => walk_at "ev"); (case k2 => walk_at "ea")))
local macro_rules | `(tactic| walk_at "eo") => `(tactic| first
  | exact eo_none
  | (refine' eo_some ?k1; (case k1 => walk_at "ev")))
local macro_rules | `(tactic| walk_at "et") => `(tactic| first
  | (refine' et_test ?k1; (case k1 => walk_at "ev"))
  | (refine' et_B ?k1; (case k1 => walk_at "ev"))
  | (refine' et_and ?k1 ?k2; (case k1 => walk_at "et"); (case k2 => (intro _; walk_at "et")))
  | (refine' et_or ?k1 ?k2; (case k1 => walk_at "et"); (case k2 => (intro _; walk_at "et")))
  | (refine' et_not ?k1; (case k1 => walk_at "et"))
  | assumption)
local macro_rules | `(tactic| walk_at "ev") => `(tactic| first
  | assumption
  | exact ev_cS
  | exact ev_c
  | exact ev_var rfl
  | (refine' ev_op ?k1 ?k2 ?k3; (case k1 => walk_at "ev"); (case k2 => walk_at "ev"); (case k3 => walk_at "rv"))
  | (refine' ev_un ?k1 ru_neg; (case k1 => walk_at "ev"))
  | (refine' ev_chain ?k1 ?k2 ?k3 ?k4 ?k5; (case k1 => walk_at "ev"); (case k2 => walk_at "ev"); (case k3 => walk_at "ev"); (case k4 => walk_at "rv"); (case k5 => (intro _; walk_at "rv")))
  | (refine' ev_slS ?k1 ?k2 ?k3 ?k4; (case k1 => walk_at "ev"); (case k2 => walk_at "eo"); (case k3 => walk_at "eo"); (case k4 => walk_at "sd"))
  | (refine' ev_lenS ?k1 ?k2; (case k1 => walk_at "ev"); (case k2 => walk_at "sd"))
  | (refine' ev_len' ?k1 ?k2; (case k1 => walk_at "ev"); (case k2 => walk_at "sd"))
  | (refine' ev_strip ?k1 ?k2 ?k3; (case k1 => walk_at "ev"); (case k2 => walk_at "ev"); (case k3 => walk_at "sd"))
  | (refine' ev_sum ?k1 ?k2; (case k1 => walk_at "ev"); (case k2 => walk_at "sd"))
  | (refine' ev_isi ?k1 ?k2 ?k3 ?k4; (case k1 => walk_at "ev"); (case k2 => walk_at "ev"); (case k3 => first | exact ty_int | exact ty_bl | exact ty_str | exact ty_list (by walk_at "sd")); (case k4 => first | exact kit_ty (r := true) (by decide +kernel) | exact kit_ty (r := false) (by decide +kernel)))
  | (refine' ev_andV ?k1 ?k2; (case k1 => walk_at "ev"); (case k2 => (intro _; walk_at "ev")))
  | (refine' ev_orV ?k1 ?k2; (case k1 => walk_at "ev"); (case k2 => (intro _; walk_at "ev")))
  | (refine' ev_notV ?k1; (case k1 => walk_at "ev"))
  | (refine' ev_call ?k1 ?k2; (case k1 => walk_at "ea"); (case k2 => walk_at "sv")))
local macro_rules | `(tactic| walk_at "el") => `(tactic| first
  | assumption
  | (refine' el_mapB ?k1 ?k2 ?k3 (fun _ => rfl) ?k5; (case k1 => walk_at "ev"); (case k2 => walk_at "sd"); (case k3 => walk_at "sd"); (case k5 => (intro _ _; walk_at "ev")))
  | (refine' el_mapI ?k1 ?k2 ?k3 (fun _ => rfl) ?k5; (case k1 => walk_at "ev"); (case k2 => walk_at "sd"); (case k3 => walk_at "sd"); (case k5 => (intro _ _; walk_at "ev")))
  | (refine' el_mapS ?k1 ?k2 ?k3 (fun _ => rfl) ?k5; (case k1 => walk_at "ev"); (case k2 => walk_at "sd"); (case k3 => walk_at "sd"); (case k5 => (intro _ _; walk_at "ev"))))
local macro_rules | `(tactic| walk_at "ev") => `(tactic| first
  | (refine' ev_all ?k1; (case k1 => walk_at "el"))
  | (refine' ev_any ?k1; (case k1 => walk_at "el"))
  | (refine' ev_sumN ?k1; (case k1 => walk_at "el"))
  | (refine' ev_join ?k1 ?k2 ?k3; (case k1 => exact ev_is ev_cS (congrArg tx codes_nil)); (case k2 => walk_at "el"); (case k3 => walk_at "sd")))

local macro_rules | `(tactic| walk_at "sv") => `(tactic| first | exact sv_is_text (by walk_at "sd") | exact sv_stands (by walk_at "sd") (by walk_at "sd") | exact sv_asked_code (by walk_at "sd") | exact sv_asked_text (by walk_at "sd") (by walk_at "sd"))
section
variable {P : Program} {w : World} {K : PySem.W.Frag} {mg : Str → Option Value} {base : Heap} {H : Hp}
/-! ### marks_of -/
def spMarks (K : PySem.W.Frag) : Sp := fun vs H Q _ => ∃ (p : Addr) (ws : List Wd) (t : Wd), vs = [.ref p, tx t] ∧ CodeAt K H p ws ∧ t.length ≤ 5000 ∧ ways ws t = 0 ∧
  ∀ (ms : List Int) (l : Addr) (H' : Hp), H l = none → Ex H H' → H' l = some (.lst (ms.map V.int)) → stShows ws ms t = true → ms.length ≤ 5001 → Q (.ref l) H'
theorem ok_marks_of (D : DefAt K mg "marks_of" s_marks_of ["code", "text"]) (T : Blt mg) (C_stands : Cal P w K mg base 1 "stands" spStands) : Cal P w K mg base 2 "marks_of" (spMarks K) := by
  refine cal_of D sc_marks_of (fun vs H Q E h => ?_) (fun f cdv A outer s H vs Q E hr h => ?_)
  · obtain ⟨p, ws, t, rfl, _⟩ := h; rfl
  · obtain ⟨p, ws, t, rfl, hc, ht, hz, k⟩ := h
    refine ⟨_, (pss_cons (ps_set (i := 2) sc_marks_of.nd rfl (.inl rfl) (pe_lst (pa_cons pe_int pa_nil)))
      (pss_cons (ps_set (i := 3) sc_marks_of.nd rfl (.inl rfl) (pe_disp (pps_cons pe_int pe_bl pps_nil) (by rfl) (by rfl) (fun z => by cases z) (by decide)))
      (pss_cons (ps_set (i := 4) sc_marks_of.nd rfl (.inl rfl) pe_int)
      (pss_cons (ps_while PassesOwn.never (pt_cmpR op_lt (pv 4) (pe_callB (call_len_seqK (K := K) rfl) (by rfl) T.len (by decide +kernel) (pa_cons (pv 2) pa_nil)) (nomark _)) (pss_cons (ps_for PassesOwn.never rfl (pi_listK (K := K) rfl (pv 0)) (pg_name (i := 5) sc_marks_of.nd rfl (.inl rfl)) (pss_cons (ps_set (i := 6) sc_marks_of.nd rfl (.inl rfl) (pe_op op_add (pe_ix (ix_listK (K := K) rfl) (pv 2) (pv 4) (fun _ _ => rfl)) (pe_callB call_len_str (by rfl) T.len (by decide +kernel) (pa_cons (pv 5) pa_nil))))
      (pss_one (ps_if (PW.pt (pw_and (pt_val (pe_c C_stands hr (by decide) (by rfl) (pa_cons (pv 5) (pa_cons (pv 1) (pa_cons (pe_ix (ix_listK (K := K) rfl) (pv 2) (pv 4) (fun _ _ => rfl)) pa_nil))))) (pw_and1 (pt_cmp (pc_dnotin (hu_of hr) (pv 6) (pv 3)))))) (pss_cons (ps_dput (hu_of hr) (pv 3) (pv 6) pe_bl rfl)
      (pss_one (ps_expr (pe_bm PySem.F.plainAttrs_list PySem.F.slot_list_append PySem.F.type_list_append mt_append (pv 2) (pa_cons (pv 6) pa_nil))))) pss_nil))))
      (pss_one (ps_set (i := 4) sc_marks_of.nd rfl (.inl rfl) (pe_op op_add (pv 4) pe_int)))))
      (pss_one (ps_ret (pe_callB (cr_sortedIK (K := K) rfl) (by rfl) T.sorted (by decide +kernel) (pa_cons (pv 2) pa_nil)))))))), ?_⟩
    have hb : ∀ a, a ∈ ws → a.length ≤ 1000 := fun a ha => (hc.ok a ha).2.2
    have hne : ∀ a ∈ ws, a ≠ [] := fun a ha => (hc.ok a ha).1
    refine q_asgL (xs := ([0] : List Nat).map nI) (el_lst (ea_cons ev_c ea_nil) (by simp)) fun fq H1 nf e1 hf => ?_
    refine q_asgD1 (k := .inl 0) (v := .bl true) ev_c ev_c fun d H2 nd e2 hd => ?_
    refine q_asg ev_c fun H3 e3 => ?_
    have ex3 := (e1.trans e2).trans e3
    have nd0 : H d = none := fresh_back e1 nd
    have hfd : fq ≠ d := fun z => by rw [← z, hf] at nd; cases nd
    refine q_while (fun m σ' H' => ∃ (at' : Nat) (fs : List Nat) (kvs : List (Key × V)) (s5 s6 : Option V), σ' = [some (.ref p), some (tx t), some (.ref fq), some (.ref d), some (nI at'), s5, s6] ∧ at' + m = t.length + 1 ∧ at' ≤ fs.length ∧ Ex H H' ∧ H' fq = some (.lst (fs.map nI)) ∧
        H' d = some (.dK kvs) ∧ (∀ j : Nat, (valV kvs (.inl (j : Int))).isSome = decide (j ∈ fs)) ∧ kvs.length ≤ fs.length ∧ M2.Inv ws t fs ∧ ∀ m ∈ fs.take at', M2.closed ws t fs m) (t.length + 1)
      ⟨0, [0], [(.inl 0, .bl true)], _, _, rfl, by omega, by simp, ex3, (e2.trans e3) fq _ hf, e3 d _ hd, fun j => ?_, by simp, M2.inv_start ws t, by simp⟩ fun m σ' H' hW => ?_
    · cases j with
      | zero => rfl
      | succ j =>
        have h1 : ¬ (Sum.inl (0 : Int) : Key) = .inl ((j + 1 : Nat) : Int) := fun e => by have := Sum.inl.inj e; omega
        rw [valV_neg (p := ((Sum.inl (0 : Int) : Key), V.bl true)) h1]
        simp [valV_nil]
    obtain ⟨at', fs, kvs, s5, s6, rfl, hm, hle, ex, hfs, hdk, hval, hkl, hI, hcl⟩ := hW
    have hfl := hI.len
    refine ⟨_, et_test (ev_op (ev_var rfl) (ev_len' (ev_var rfl) (sq_of hfs)) rv_lt), fun hlt H4 e4 => ?_, fun hge H4 e4 => ?_⟩
    · have hlt' : at' < fs.length := by have := of_decide_eq_true hlt; rw [List.length_map] at this; omega
      have hfa : fs[at']? = some fs[at'] := List.getElem?_eq_getElem hlt'
      generalize hmk : fs[at'] = mk at *
      have hmem : mk ∈ fs := List.mem_of_getElem? hfa
      have hmkt := (hI.le mk hmem).1
      refine ⟨fun σ2 H2 => ∃ (fs : List Nat) (kvs : List (Key × V)) (s5 s6 : Option V), σ2 = [some (.ref p), some (tx t), some (.ref fq), some (.ref d), some (nI (at' + 1)), s5, s6] ∧ at' + 1 ≤ fs.length ∧ Ex H H2 ∧ H2 fq = some (.lst (fs.map nI)) ∧
        H2 d = some (.dK kvs) ∧ (∀ j : Nat, (valV kvs (.inl (j : Int))).isSome = decide (j ∈ fs)) ∧ kvs.length ≤ fs.length ∧ M2.Inv ws t fs ∧ ∀ m ∈ fs.take (at' + 1), M2.closed ws t fs m, fun σ2 H2 hN => ?_, ?_⟩
      · obtain ⟨fs, kvs, s5, s6, rfl, h1, h2, h3, h4, h5, h6, h7, h8⟩ := hN
        exact ⟨m - 1, by omega, at' + 1, fs, kvs, s5, s6, rfl, by omega, h1, h2, h3, h4, h5, h6, h7, h8⟩
      · refine q_forLn (a := p) (xs := ws.map tx) (ev_var rfl) (ex_l (ex.trans e4) hc.sq) (fun i σ' H' => ∃ (gs : List Nat) (kvs : List (Key × V)) (s5 s6 : Option V), σ' = [some (.ref p), some (tx t), some (.ref fq), some (.ref d), some (nI at'), s5, s6] ∧ Ex H H' ∧ H' fq = some (.lst (gs.map nI)) ∧
          H' d = some (.dK kvs) ∧ (∀ j : Nat, (valV kvs (.inl (j : Int))).isSome = decide (j ∈ gs)) ∧ kvs.length ≤ gs.length ∧ M2.Inv ws t gs ∧ (∃ more, gs = fs ++ more) ∧ ∀ a ∈ ws.take i, pre a (t.drop mk) = true → mk + a.length ∈ gs)
          (fun H5 e5 => ⟨fs, kvs, _, _, rfl, (ex.trans e4).trans e5, (e4.trans e5) fq _ hfs, (e4.trans e5) d _ hdk, hval, hkl, hI, ⟨[], by simp⟩, by simp⟩) (fun i σ' H' _ hP => by obtain ⟨_, _, _, _, _, e, _⟩ := hP; exact ex_l e hc.sq) (fun i x σ' H' hi hP => ?_) (fun σ' H' hP => ?_)
        · obtain ⟨gs, kvs, s5, s6, rfl, ex5, hgs, hdk5, hval5, hkl5, hI5, ⟨more, hmore⟩, hcl5⟩ := hP
          have hil : i < ws.length := by
            have := (List.getElem?_eq_some_iff.mp hi).1
            rwa [List.length_map] at this
          have hwi : ws[i]? = some ws[i] := List.getElem?_eq_getElem hil
          have hx : x = tx ws[i] := by
            rw [List.getElem?_map, hwi] at hi
            exact (Option.some.inj hi).symm
          subst hx
          have hwm : ws[i] ∈ ws := List.getElem_mem hil
          have hbi := hb _ hwm
          have htk : ws.take (i + 1) = ws.take i ++ [ws[i]] := by rw [List.take_succ, hwi]; rfl
          rw [htk]
          generalize ws[i] = a at *
          have hga : gs[at']? = some mk := by rw [hmore, List.getElem?_append_left hlt']; exact hfa
          have hgl := hI5.len
          have gmk : ∀ (σ : L2.St) (H6 : Hp), Ex H' H6 → σ[2]? = some (some (.ref fq)) → σ[4]? = some (some (nI at')) → Ev (tOp (rIxL K) (tVar 2) (tVar 4)) σ H6 (nI mk) := fun σ H6 e6 h2 h4 =>
            ev_op (ev_var h2) (ev_var h4) (rv_ixL (sq_of (e6 fq _ hgs)) (atI_nat (by rw [List.getElem?_map, hga]; rfl)))
          have eadd : (mk : Int) + (a.length : Int) = ((mk + a.length : Nat) : Int) := by omega
          refine q_asg (v := nI (mk + a.length)) (ev_is (ev_op (gmk _ _ (Ex.refl _) rfl rfl) (ev_lenS (ev_var rfl) (by omega)) rv_add) (congrArg V.int eadd)) fun H6 e6 => ?_
          refine s_when (b := standsB a t mk && !decide (mk + a.length ∈ gs)) (et_and (et_test (ev_call (vs := [tx a, tx t, nI mk]) (ea_cons (ev_var rfl) (ea_cons (ev_var rfl) (ea_cons (gmk _ _ e6 rfl rfl) ea_nil))) (sv_stands (by omega) (by omega)))) fun _ => et_B (ev_is (ev_dnotin (k := .inl ((mk + a.length : Nat) : Int)) (ev_var rfl) (ev_var rfl) (.inl (e6 d _ hdk5))) (by rw [hval5]))) (fun hs H7 e7 => ?_) (fun hs H7 e7 => ?_)
          · rw [Bool.and_eq_true] at hs
            have hs1 : pre a (t.drop mk) = true := hs.1
            have hs2 : mk + a.length ∉ gs := by simpa using hs.2
            have hmg : mk ∈ gs := by rw [hmore]; exact List.mem_append_left _ hmem
            have hI6 := M2.inv_add hne hI5 hmg hwm hs1 hs2
            refine q_dput (kvs := kvs) (k := .inl ((mk + a.length : Nat) : Int)) (v := .bl true) ((e6.trans e7) d _ hdk5) ev_c (ev_var rfl) (ev_var rfl) (by omega) fun H8 e8 => ?_
            refine s_app (l := fq) (xs := gs.map nI) (v := nI (mk + a.length)) (by rw [upd_ne hfd]; exact ((e6.trans e7).trans e8) fq _ hgs) (ev_var rfl) (ev_var rfl) (by rw [List.length_map]; omega) fun H9 e9 => ?_
            refine ⟨gs ++ [mk + a.length], putK kvs (.inl ((mk + a.length : Nat) : Int)) (.bl true), _, _, rfl, Ex.mut ((Ex.mut (((ex5.trans e6).trans e7).trans e8) nd0).trans e9) nf, ?_, ?_, fun j => ?_, ?_, hI6, ⟨more ++ [mk + a.length], by rw [hmore, List.append_assoc]⟩, fun b hb2 hp2 => ?_⟩
            · rw [upd_same, List.map_append]; rfl
            · rw [upd_ne (Ne.symm hfd)]; exact e9 d _ upd_same
            · rw [valV_put]
              by_cases hj : j = mk + a.length
              · subst hj
                rw [if_pos rfl]; simp
              · have h1 : ¬ (Sum.inl (j : Int) : Key) = .inl ((mk + a.length : Nat) : Int) := fun e => by have := Sum.inl.inj e; omega
                rw [if_neg h1, hval5]
                simp [hj]
            · have := putK_len kvs (Sum.inl ((mk + a.length : Nat) : Int) : Key) (V.bl true)
              rw [List.length_append, List.length_singleton]; omega
            · rcases List.mem_append.mp hb2 with hb2 | hb2
              · exact List.mem_append_left _ (hcl5 b hb2 hp2)
              · rw [List.mem_singleton.mp hb2]; exact List.mem_append_right _ (by simp)
          · refine ⟨gs, kvs, _, _, rfl, (ex5.trans e6).trans e7, (e6.trans e7) fq _ hgs, (e6.trans e7) d _ hdk5, hval5, hkl5, hI5, ⟨more, hmore⟩, fun b hb2 hp2 => ?_⟩
            rcases List.mem_append.mp hb2 with hb2 | hb2
            · exact hcl5 b hb2 hp2
            · rw [List.mem_singleton.mp hb2] at hp2 ⊢
              have hs1 : standsB a t mk = true := hp2
              rw [hs1, Bool.true_and] at hs
              simpa using hs
        · obtain ⟨gs, kvs, s5, s6, rfl, ex5, hgs, hdk5, hval5, hkl5, hI5, ⟨more, hmore⟩, hcl5⟩ := hP
          rw [List.length_map, List.take_length] at hcl5
          have e8 : (at' : Int) + 1 = ((at' + 1 : Nat) : Int) := by omega
          refine s_asg (v := nI (at' + 1)) (ev_is (ev_op (ev_var rfl) ev_c rv_add) (congrArg V.int e8)) fun H6 e6 => ⟨gs, kvs, s5, s6, rfl, by rw [hmore, List.length_append]; omega, ex5.trans e6, e6 fq _ hgs, e6 d _ hdk5, hval5, hkl5, hI5, fun x hx => ?_⟩
          have htk : gs.take (at' + 1) = fs.take at' ++ [mk] := by
            rw [hmore, List.take_append_of_le_length (by omega), List.take_succ, hfa]; rfl
          rw [htk] at hx
          rcases List.mem_append.mp hx with hx | hx
          · intro a ha hp
            rw [hmore]; exact List.mem_append_left _ (hcl x hx a ha hp)
          · rw [List.mem_singleton.mp hx]; exact hcl5
    · have hge' : at' = fs.length := by have := of_decide_eq_false hge; rw [List.length_map] at this; omega
      rw [hge', List.take_length] at hcl
      have hni : fs.map nI = (List.map (fun n : Nat => (n : Int)) fs).map V.int := by rw [List.map_map]; rfl
      have hfs4 := e4 fq _ hfs
      rw [hni] at hfs4
      refine (ev_var (i := 2) rfl) H4 (Ex.refl _) _ fun H5 e5 => ⟨fq, List.map (fun n : Nat => (n : Int)) fs, rfl, sq_of (e5 fq _ hfs4), fun ms l hperm _ nl => ?_⟩
      have ex5 := (ex.trans e4).trans e5
      have hmm : ∀ z : Int, z ∈ ms ↔ ∃ j ∈ fs, (j : Int) = z := fun z => by rw [hperm.mem_iff, List.mem_map]
      have hmn : ∀ j : Nat, (j : Int) ∈ ms ↔ j ∈ fs := fun j => by
        rw [hmm]
        exact ⟨fun ⟨i, hi, e⟩ => by have : i = j := by omega
                                    subst this; exact hi, fun h => ⟨j, h, rfl⟩⟩
      refine k ms l _ (fresh_back ex5 nl) (ex5.trans (Ex.new nl)) upd_same ?_ (by rw [hperm.length_eq, List.length_map]; omega)
      unfold stShows
      have h1 : decide ((0 : Int) ∈ ms) = true := decide_eq_true ((hmn 0).mpr hI.zero)
      have h2 : decide ((t.length : Int) ∈ ms) = false := decide_eq_false fun h => M2.no_end hI hz ((hmn _).mp h)
      rw [h1, h2, Bool.true_and, Bool.not_false, Bool.true_and, List.all_eq_true]
      intro z hz2
      obtain ⟨j, hj, rfl⟩ := (hmm z).mp hz2
      have hjt := (hI.le j hj).1
      unfold stTurn
      rw [decide_eq_true (by omega), decide_eq_true (by omega), Bool.true_and, Bool.true_and, List.all_eq_true]
      intro a ha
      have ej : ((j : Nat) : Int).toNat = j := by omega
      have ea : (j : Int) + (a.length : Int) = ((j + a.length : Nat) : Int) := by omega
      rw [ej, ea]
      cases hp : standsB a t j with
      | false => rfl
      | true => rw [decide_eq_true ((hmn _).mpr (hcl j hj a ha hp))]; rfl
/-! ### read -/
def showsV (b : Bool) (ws : List Wd) (ns : List Int) (t : Wd) : Bool := if b then rdShows ws ns t else stShows ws ns t
def spRead (K : PySem.W.Frag) (aRd aSt : Addr) : Sp := fun vs H Q _ => ∃ (p : Addr) (ws : List Wd) (t : Wd), vs = [.ref p, tx t] ∧ CodeAt K H p ws ∧ t.length ≤ 5000 ∧ okW t ∧
  ∀ (o l : Addr) (b : Bool) (ns : List Int) (H' : Hp), b = !decide (ways ws t = 0) → H o = none → H l = none → l ≠ o → Ex H H' → AnsAt aRd aSt b H' o l ns → showsV b ws ns t = true → ns.length ≤ 5001 → Q (.ref o) H'
theorem rd_nth {ws : List Wd} (hw : ∀ a ∈ ws, a ≠ []) {t : Wd} {k : Nat} (hk : k < ways ws t) : rdShows ws (List.map (fun n : Nat => (n : Int)) (nthW ws t k)) t = true ∧ (nthW ws t k).length ≤ t.length := by
  obtain ⟨h1, h2, _⟩ := M3.nthW_ok ws hw hk
  have h3 := M3.join_len ws hw _ h2
  rw [h1] at h3
  refine ⟨?_, h3⟩
  unfold rdShows
  have e : (List.map (fun n : Nat => (n : Int)) (nthW ws t k)).map Int.toNat = nthW ws t k := by
    rw [List.map_map]
    have : (Int.toNat ∘ fun n : Nat => (n : Int)) = id := by funext n; simp
    rw [this, List.map_id]
  rw [inR_of h2, e, h1]
  simp
theorem ok_read {aRd aSt : Addr} (D : DefAt K mg "read" s_read ["code", "text"]) (T : Blt mg) (C_asked_code : Cal P w K mg base 2 "asked_code" (spAskedCode K)) (C_asked_text : Cal P w K mg base 2 "asked_text" spAskedText)
    (C_table_of : Cal P w K mg base 2 "table_of" (spTable K)) (C_nth : Cal P w K mg base 2 "nth" (spNth K)) (C_marks_of : Cal P w K mg base 2 "marks_of" (spMarks K)) (K_Reading : MkAt P w K mg base 1 "Reading" aRd (spIni1 K aRd "places")) (K_Stuck : MkAt P w K mg base 1 "Stuck" aSt (spIni1 K aSt "marks")) :
    Cal P w K mg base 3 "read" (spRead K aRd aSt) := by
  refine cal_of D sc_read (fun vs H Q E h => ?_) (fun f cdv A outer s H vs Q E hr h => ?_)
  · obtain ⟨p, ws, t, rfl, _⟩ := h; rfl
  · obtain ⟨p, ws, t, rfl, hc, ht, ho, k⟩ := h
    refine ⟨_, (pss_cons (ps_expr (pe_c C_asked_code hr (by decide) (by rfl) (pa_cons (pv 0) pa_nil)))
      (pss_cons (ps_expr (pe_c C_asked_text hr (by decide) (by rfl) (pa_cons (pv 1) pa_nil)))
      (pss_cons (ps_set (i := 2) sc_read.nd rfl (.inl rfl) (pe_c C_table_of hr (by decide) (by rfl) (pa_cons (pv 0) (pa_cons (pv 1) pa_nil))))
      (pss_cons (ps_if (pt_cmpR op_eq (pe_ix (ix_listK (K := K) rfl) (pv 2) pe_int (fun _ _ => rfl)) pe_int (nomark _)) (pss_one (ps_ret (pe_mk K_Stuck hr (by decide) (by rfl) (pa_cons (pe_c C_marks_of hr (by decide) (by rfl) (pa_cons (pv 0) (pa_cons (pv 1) pa_nil))) pa_nil)))) pss_nil)
      (pss_one (ps_ret (pe_mk K_Reading hr (by decide) (by rfl) (pa_cons (pe_c C_nth hr (by decide) (by rfl) (pa_cons (pv 0) (pa_cons (pv 1) (pa_cons (pv 2) (pa_cons pe_int pa_nil))))) pa_nil)))))))), ?_⟩
    have ht2 : t.length ≤ 10000 := by omega
    refine q_drop (v := .non) (by walk_at "ev") fun H1 e1 => ?_
    have hc1 := hc.ex e1
    refine q_drop (v := .non) (by walk_at "ev") fun H2 e2 => ?_
    have hc2 := hc1.ex e2
    refine q_asgL (el_call (by walk_at "ea") (sl_table hc2 ht)) fun q H3 nq e3 hq => ?_
    have ex3 := (e1.trans e2).trans e3
    refine q_when (et_test (ev_op (x := nI (ways ws t)) (ev_op (ev_var rfl) ev_c (rv_ixL (sq_of hq) (atI_nat (j := 0) (tabN_get ws t (Nat.zero_le _))))) ev_c rv_eqI)) (fun hz H4 e4 => ?_) (fun hz H4 e4 => ?_)
    · have h0 : ways ws t = 0 := by have := of_decide_eq_true hz; omega
      have ex4 := ex3.trans e4
      refine s_retB (P := fun xs => ∃ ms : List Int, xs = ms.map V.int ∧ stShows ws ms t = true ∧ ms.length ≤ 5001) (eb_make (eqx_call (vs := [.ref p, tx t]) (by walk_at "ea") fun H5 e5 Q' q' => ⟨p, ws, t, rfl, hc.ex (ex4.trans e5), ht, h0, fun ms l H8 nl e8 hl hs hn => q' l H8 _ ⟨ms, rfl, hs, hn⟩ e8 (sq_of hl)⟩)) fun o dx l H6 xs hP no nl hlo e6 ho6 hl6 => ?_
      · obtain ⟨ms, rfl, hs, hn⟩ := hP
        exact k o l false ms H6 (by simp [h0]) (fresh_back ex4 no) (fresh_back ex4 nl) hlo (ex4.trans e6) ⟨⟨dx, ho6⟩, hl6⟩ hs hn
    · have h0 : ways ws t ≠ 0 := fun z => by have := of_decide_eq_false hz; omega
      have ex4 := ex3.trans e4
      have hw : ∀ a ∈ ws, a ≠ [] := fun a ha => (hc.ok a ha).1
      obtain ⟨r1, r2⟩ := rd_nth hw (show 0 < ways ws t by omega)
      refine s_retB (P := fun xs => xs = (nthW ws t 0).map nI) (eb_make (eqx_of (eq_new (el_call (vs := [.ref p, tx t, .ref q, .int ((0 : Nat) : Int)]) (by walk_at "ea") (sl_nth (hc.ex ex4) ht (ex_l e4 (sq_of hq)) (by omega)))))) fun o dx l H6 xs hP no nl hlo e6 ho6 hl6 => ?_
      subst hP
      refine k o l true (List.map (fun n : Nat => (n : Int)) (nthW ws t 0)) H6 (by simp [h0]) (fresh_back ex4 no) (fresh_back ex4 nl) hlo (ex4.trans e6) ⟨⟨dx, ho6⟩, ?_⟩ r1 (by rw [List.length_map]; omega)
      rw [hl6, List.map_map]; rfl
end
end Tr

set_option Elab.async false
set_option linter.all false
set_option maxRecDepth 100000
set_option maxHeartbeats 4000000
namespace Tr
open PySem PySem.Spec PyProof.Rows L2 Evl
open M3 (wat joinW pre)
abbrev s_Clash___init__ : Stmt := inClass (topS 14) 0
abbrev N_Clash___init__ : List Str := ["self", "one", "other"]
theorem sc_Clash___init__ : FnScope N_Clash___init__ ["self", "one", "other"] (defScope s_Clash___init__) := ⟨rfl, rfl, rfl, by decide +kernel, rfl, by decide +kernel, by decide +kernel⟩
abbrev s_Clash_shows : Stmt := inClass (topS 14) 1
abbrev N_Clash_shows : List Str := ["self", "code"]
theorem sc_Clash_shows : FnScope N_Clash_shows ["self", "code"] (defScope s_Clash_shows) := ⟨rfl, rfl, rfl, by decide +kernel, rfl, by decide +kernel, by decide +kernel⟩
abbrev s_Tails___init__ : Stmt := inClass (topS 15) 0
abbrev N_Tails___init__ : List Str := ["self", "tails"]
theorem sc_Tails___init__ : FnScope N_Tails___init__ ["self", "tails"] (defScope s_Tails___init__) := ⟨rfl, rfl, rfl, by decide +kernel, rfl, by decide +kernel, by decide +kernel⟩
abbrev s_Tails_shows : Stmt := inClass (topS 15) 1
abbrev N_Tails_shows : List Str := ["self", "code", "held", "tail", "place", "word", "other"]
theorem sc_Tails_shows : FnScope N_Tails_shows ["self", "code"] (defScope s_Tails_shows) := ⟨rfl, rfl, rfl, by decide +kernel, rfl, by decide +kernel, by decide +kernel⟩
local macro_rules | `(tactic| walk_at "sd") => `(tactic| first | assumption | rfl | omega | decide | (solve_by_elim) | (refine Nat.le_trans (m := 1000) (by solve_by_elim) (by decide)))
local macro_rules | `(tactic| walk_at "rv") => `(tactic| first
  | exact rv_add | exact rv_sub | exact rv_lt | exact rv_le | exact rv_gt | exact rv_ge | exact rv_eqI | exact rv_eqS | exact rv_eqB | exact rv_neI | exact rv_neS | exact rv_neB
  | exact rv_mod (by walk_at "sd") | exact rv_fdiv (by first | assumption | exact ⟨by omega, by omega⟩) | exact rv_addS (by walk_at "sd") | exact rv_isB | exact rv_notB | assumption)
local macro_rules | `(tactic| walk_at "ea") => `(tactic| first
  | exact ea_nil
  | (refine' ea_cons ?k1 ?k2; (case k1 => walk_at "ev"); (case k2 => walk_at "ea")))
local macro_rules | `(tactic| walk_at "eo") => `(tactic| first
  | exact eo_none
  | (refine' eo_some ?k1; (case k1 => walk_at "ev")))
local macro_rules | `(tactic| walk_at "et") => `(tactic| first
  | (refine' et_test ?k1; (case k1 => walk_at "ev"))
  | (refine' et_B ?k1; (case k1 => walk_at "ev"))
  | (refine' et_and ?k1 ?k2; (case k1 => walk_at "et"); (case k2 => (intro _; walk_at "et")))
  | (refine' et_or ?k1 ?k2; (case k1 => walk_at "et"); (case k2 => (intro _; walk_at "et")))
  | (refine' et_not ?k1; (case k1 => walk_at "et"))
  | assumption)
local macro_rules | `(tactic| walk_at "ev") => `(tactic| first
  | assumption
  | exact ev_cS
  | exact ev_c
  | exact ev_var rfl
  | (refine' ev_op ?k1 ?k2 ?k3; (case k1 => walk_at "ev"); (case k2 => walk_at "ev"); (case k3 => walk_at "rv"))
  | (refine' ev_un ?k1 ru_neg; (case k1 => walk_at "ev"))
  | (refine' ev_chain ?k1 ?k2 ?k3 ?k4 ?k5; (case k1 => walk_at "ev"); (case k2 => walk_at "ev"); (case k3 => walk_at "ev"); (case k4 => walk_at "rv"); (case k5 => (intro _; walk_at "rv")))
  | (refine' ev_slS ?k1 ?k2 ?k3 ?k4; (case k1 => walk_at "ev"); (case k2 => walk_at "eo"); (case k3 => walk_at "eo"); (case k4 => walk_at "sd"))
  | (refine' ev_lenS ?k1 ?k2; (case k1 => walk_at "ev"); (case k2 => walk_at "sd"))
  | (refine' ev_len' ?k1 ?k2; (case k1 => walk_at "ev"); (case k2 => walk_at "sd"))
  | (refine' ev_strip ?k1 ?k2 ?k3; (case k1 => walk_at "ev"); (case k2 => walk_at "ev"); (case k3 => walk_at "sd"))
  | (refine' ev_sum ?k1 ?k2; (case k1 => walk_at "ev"); (case k2 => walk_at "sd"))
  | (refine' ev_isi ?k1 ?k2 ?k3 ?k4; (case k1 => walk_at "ev"); (case k2 => walk_at "ev"); (case k3 => first | exact ty_int | exact ty_bl | exact ty_str | exact ty_list (by walk_at "sd")); (case k4 => first | exact kit_ty (r := true) (by decide +kernel) | exact kit_ty (r := false) (by decide +kernel)))
  | (refine' ev_andV ?k1 ?k2; (case k1 => walk_at "ev"); (case k2 => (intro _; walk_at "ev")))
  | (refine' ev_orV ?k1 ?k2; (case k1 => walk_at "ev"); (case k2 => (intro _; walk_at "ev")))
  | (refine' ev_notV ?k1; (case k1 => walk_at "ev"))
  | (refine' ev_call ?k1 ?k2; (case k1 => walk_at "ea"); (case k2 => walk_at "sv")))
local macro_rules | `(tactic| walk_at "el") => `(tactic| first
  | assumption
  | (refine' el_mapB ?k1 ?k2 ?k3 (fun _ => rfl) ?k5; (case k1 => walk_at "ev"); (case k2 => walk_at "sd"); (case k3 => walk_at "sd"); (case k5 => (intro _ _; walk_at "ev")))
  | (refine' el_mapI ?k1 ?k2 ?k3 (fun _ => rfl) ?k5; (case k1 => walk_at "ev"); (case k2 => walk_at "sd"); (case k3 => walk_at "sd"); (case k5 => (intro _ _; walk_at "ev")))
  | (refine' el_mapS ?k1 ?k2 ?k3 (fun _ => rfl) ?k5; (case k1 => walk_at "ev"); (case k2 => walk_at "sd"); (case k3 => walk_at "sd"); (case k5 => (intro _ _; walk_at "ev"))))
local macro_rules | `(tactic| walk_at "ev") => `(tactic| first
  | (refine' ev_all ?k1; (case k1 => walk_at "el"))
  | (refine' ev_any ?k1; (case k1 => walk_at "el"))
  | (refine' ev_sumN ?k1; (case k1 => walk_at "el"))
  | (refine' ev_join ?k1 ?k2 ?k3; (case k1 => exact ev_is ev_cS (congrArg tx codes_nil)); (case k2 => walk_at "el"); (case k3 => walk_at "sd")))

local macro_rules | `(tactic| walk_at "sv") => `(tactic| first | exact sv_stands (by walk_at "sd") (by walk_at "sd"))
/-! ### objects of two lists -/
section
variable {K : PySem.W.Frag} {σ : L2.St} {H H' : Hp} {ta tb te tl : TE} {D : Ends} {tz tu : TS} {C o dx : Addr}
def EvB2 (te : TE) (σ : L2.St) (H : Hp) (C : Addr) (f g : Str) (xs ys : List V) : Prop := ∀ H1, Ex H H1 → ∀ Q : VK, (∀ o dx l m H2, H1 o = none → H1 l = none → H1 m = none → l ≠ o → m ≠ o → l ≠ m → Ex H1 H2 → H2 o = some (.ins C dx [(f, .ref l), (g, .ref m)]) → H2 l = some (.lst xs) → H2 m = some (.lst ys) → Q (.ref o) H2) → te σ H1 Q
def spIni2 (K : PySem.W.Frag) (C : Addr) (f g : Str) : Sp := fun vs H Q _ => ∃ (p q r dx : Addr) (xs ys : List V), vs = [.ref p, .ref q, .ref r] ∧ H p = some (.ins C dx []) ∧ SqL K H q xs ∧ SqL K H r ys ∧
  ∀ l m H', l ≠ p → m ≠ p → l ≠ m → H l = none → H m = none → (∀ b u, b ≠ p → H b = some u → H' b = some u) → H' p = some (.ins C dx [(f, .ref l), (g, .ref m)]) → H' l = some (.lst xs) → H' m = some (.lst ys) → Q .non H'
theorem sq_ins {p q : Addr} {fs : List (Str × V)} {xs : List V} {u : HO} (hp : H p = some (.ins C dx fs)) (h : SqL K H q xs) : SqL K (upd H p u) q xs := by
  rcases h with (h | ⟨b, h⟩) | h
  · exact .inl (.inl (by rw [upd_ne (fun z => by rw [z, hp] at h; cases h)]; exact h))
  · exact .inl (.inr ⟨b, by rw [upd_ne (fun z => by rw [z, hp] at h; cases h)]; exact h⟩)
  · exact .inr h
theorem eb2_make {f g : Str} {a b : Addr} {xs ys : List V} (ha : Ev ta σ H (.ref a)) (hx : SqL K H a xs) (hb : Ev tb σ H (.ref b)) (hy : SqL K H b ys) : EvB2 (tMake C (spIni2 K C f g) [] E0 (tCons ta (tCons tb tNil))) σ H C f g xs ys := fun H1 e Q q =>
  ha H1 e _ fun H2 e2 => hb H2 (e.trans e2) _ fun H3 e3 => fun x dx nx nd ne => by
    have nu : upd H3 dx (.own x) x = none := by rw [upd_ne (Ne.symm ne)]; exact nx
    have ex : Ex H3 (upd (upd H3 dx (.own x)) x (.ins C dx [])) := (Ex.new nd).trans (Ex.new nu)
    have e03 := (e.trans e2).trans e3
    refine ⟨x, a, b, dx, xs, ys, rfl, upd_same, ex_l (e03.trans ex) hx, ex_l (e03.trans ex) hy, fun l m H' hlx hmx hlm nl nm kp ho hl hm => ⟨rfl, ?_⟩⟩
    have e23 := e2.trans e3
    refine q x dx l m H' (fresh_back e23 nx) (fresh_back e23 (fresh_back ex nl)) (fresh_back e23 (fresh_back ex nm)) hlx hmx hlm (fun c u hc => ?_) ho hl hm
    have hc3 := e23 c u hc
    have hcx : c ≠ x := fun z => by rw [z, nx] at hc3; cases hc3
    exact kp c u hcx (ex c u hc3)
theorem s_retB2 {f g : Str} {xs ys : List V} (h : EvB2 te σ H C f g xs ys) (k : ∀ o dx l m H2, H o = none → H l = none → H m = none → l ≠ o → m ≠ o → l ≠ m → Ex H H2 → H2 o = some (.ins C dx [(f, .ref l), (g, .ref m)]) → H2 l = some (.lst xs) → H2 m = some (.lst ys) → D.rt (.ref o) H2) : tRet te D σ H := h H (Ex.refl H) _ k
theorem look2 {f g : Str} {v u : V} (h : (g == f) = false) : ([(f, v), (g, u)] : List (Str × V)).lookup g = some u := by simp [List.lookup, h]
theorem look2a {f g : Str} {v u : V} : ([(f, v), (g, u)] : List (Str × V)).lookup f = some v := by simp [List.lookup]
theorem look2n {f g m : Str} {v u : V} (h1 : (m == f) = false) (h2 : (m == g) = false) : ([(f, v), (g, u)] : List (Str × V)).lookup m = none := by simp [List.lookup, h1, h2]
theorem ini2_run {f g : Str} {p q r : Addr} {xs ys : List V} {σ : L2.St} (c : Cls K C) (n1 : NoAttr K C f) (n2 : NoAttr K C g) (hfg : ¬ f = g) (hp : H p = some (.ins C dx [])) (hq : SqL K H q xs) (hr : SqL K H r ys) (h0 : σ[0]? = some (some (.ref p))) (h1 : σ[1]? = some (some (.ref q))) (h2 : σ[2]? = some (some (.ref r)))
    (k : ∀ l m H', l ≠ p → m ≠ p → l ≠ m → H l = none → H m = none → (∀ b u, b ≠ p → H b = some u → H' b = some u) → H' p = some (.ins C dx [(f, .ref l), (g, .ref m)]) → H' l = some (.lst xs) → H' m = some (.lst ys) → D.nx σ H') :
    tSeq (sFld K (tVar 0) (tCB (rListQ K) (tCons (tVar 1) tNil)) f) (sFld K (tVar 0) (tCB (rListQ K) (tCons (tVar 2) tNil)) g) D σ H := (ev_listOf (ev_var h1) hq) H (Ex.refl H) _ fun l H1 nl e1 hl => (ev_var h0) H1 (Ex.refl _) _ fun H2 e2 => by
  have hp2 := (e1.trans e2) p _ hp
  have hlp : l ≠ p := fun z => by rw [z, hp] at nl; cases nl
  refine ⟨p, C, dx, [], rfl, hp2, c, n1, by decide, ?_⟩
  have hr2 : SqL K (upd H2 p (.ins C dx (putF f (.ref l) []))) r ys := sq_ins hp2 (ex_l (e1.trans e2) hr)
  refine (ev_listOf (ev_var h2) hr2) _ (Ex.refl _) _ fun m H3 nm e3 hm => (ev_var h0) H3 (Ex.refl _) _ fun H4 e4 => ?_
  have hp4 : H4 p = some (.ins C dx [(f, .ref l)]) := (e3.trans e4) p _ upd_same
  have hmp : m ≠ p := fun z => by rw [z, upd_same] at nm; cases nm
  have nm2 : H2 m = none := by rw [upd_ne hmp] at nm; exact nm
  have hl2 := e2 l _ hl
  have hlm : l ≠ m := fun z => by rw [z, nm2] at hl2; cases hl2
  refine ⟨p, C, dx, [(f, .ref l)], rfl, hp4, c, n2, by simp, k l m _ hlp hmp hlm nl (fresh_back (e1.trans e2) nm2) (fun b u hb hu => ?_) ?_ ?_ ?_⟩
  · rw [upd_ne hb]
    exact (e3.trans e4) b u (by rw [upd_ne hb]; exact (e1.trans e2) b u hu)
  · rw [upd_same]
    show some (HO.ins C dx (if f = g then _ else _)) = _
    rw [if_neg hfg]; rfl
  · rw [upd_ne hlp]
    exact (e3.trans e4) l _ (by rw [upd_ne hlp]; exact hl2)
  · rw [upd_ne hmp]
    exact e4 m _ hm
theorem inV_txs (a : Wd) (ts : List Wd) : inV (tx a) (ts.map tx) = decide (a ∈ ts) := by
  unfold inV
  rw [List.any_map]
  by_cases h : a ∈ ts
  · rw [decide_eq_true h, List.any_eq_true]
    exact ⟨a, h, by show (S a == S a) = true; simp⟩
  · rw [decide_eq_false h, List.any_eq_false]
    intro x hx
    have hne : x ≠ a := fun e => h (e ▸ hx)
    have : ¬ S x = S a := fun e => hne (S_inj e)
    show ¬ (S x == S a) = true
    simpa using this
theorem flat_txs (ts : List Wd) : (ts.map tx).all flatV = true := by
  rw [List.all_map, List.all_eq_true]; intro _ _; rfl
theorem ev_inW {p : Addr} {a : Wd} {ts : List Wd} (ha : Ev ta σ H (tx a)) (hb : Ev tb σ H (.ref p)) (h : SqL K H p (ts.map tx)) : Ev (tOp (rIn K false) ta tb) σ H (.bl (decide (a ∈ ts))) := by
  rw [← inV_txs]; exact ev_op ha hb (rv_isL h rfl (flat_txs ts))
theorem ev_niW {p : Addr} {a : Wd} {ts : List Wd} (ha : Ev ta σ H (tx a)) (hb : Ev tb σ H (.ref p)) (h : SqL K H p (ts.map tx)) : Ev (tOp (rIn K true) ta tb) σ H (.bl (!decide (a ∈ ts))) := by
  rw [← inV_txs]; exact ev_op ha hb (rv_niL h rfl (flat_txs ts))
end
/-! ### what the two answers show -/
def clV (ws : List Wd) (xs ys : List Int) : Bool := !decide (xs = ys) && inR ws.length xs && inR ws.length ys && decide (joinW ws (xs.map Int.toNat) = joinW ws (ys.map Int.toNat))
def tlB (ws ts : List Wd) (i j : Nat) : Bool := !(!decide (j = i) && pre (wat ws i) (wat ws j) && !decide ((wat ws j).drop (wat ws i).length ∈ ts))
def tlT (ws ts : List Wd) (i : Nat) (t : Wd) : Bool := !(pre t (wat ws i) && !decide ((wat ws i).drop t.length ∈ ts)) && !(pre (wat ws i) t && !decide (t.drop (wat ws i).length ∈ ts))
def tlA (ws ts : List Wd) (i : Nat) : Bool := (List.range ws.length).all (tlB ws ts i) && ts.all (tlT ws ts i)
def tlV (ws ts : List Wd) : Bool := !decide ([] ∈ ts) && (List.range ws.length).all (tlA ws ts)
theorem tlV_of {ws ts : List Wd} (C : M1.Cl ws (· ∈ ts)) : tlV ws ts = true := by
  unfold tlV
  rw [decide_eq_false C.ne, Bool.not_false, Bool.true_and, List.all_eq_true]
  intro i hi
  have hi := List.mem_range.mp hi
  unfold tlA
  rw [Bool.and_eq_true, List.all_eq_true, List.all_eq_true]
  refine ⟨fun j hj => ?_, fun t ht => ?_⟩
  · have hj := List.mem_range.mp hj
    unfold tlB
    by_cases h1 : j = i
    · simp [h1]
    · cases h2 : pre (wat ws i) (wat ws j) with
      | false => simp
      | true => simp [C.first i j hi hj (Ne.symm h1) h2]
  · unfold tlT
    cases h1 : pre t (wat ws i) with
    | false =>
      cases h2 : pre (wat ws i) t with
      | false => simp
      | true => simp [C.bwd t ht i hi h2]
    | true =>
      cases h2 : pre (wat ws i) t with
      | false => simp [C.fwd t ht i hi h1]
      | true => simp [C.bwd t ht i hi h2, C.fwd t ht i hi h1]
section
variable {P : Program} {w : World} {K : PySem.W.Frag} {mg : Str → Option Value} {base : Heap} {H : Hp}
theorem ok_Clash___init__ {aCl : Addr} (D : IniAt K aCl "Clash.__init__" s_Clash___init__ ["self", "one", "other"]) (T : Blt mg) (G_Clash : mg "Clash" = some (.ref aCl)) (L_Clash : ClsI K aCl) (N_Clash_one : NoAttr K aCl "one") (N_Clash_other : NoAttr K aCl "other") :
    MkAt P w K mg base 1 "Clash" aCl (spIni2 K aCl "one" "other") := by
  refine mk_ofI G_Clash D sc_Clash___init__ (fun vs H Q E h => ?_) (fun f cdv A outer s H vs Q E hr h => ?_)
  · obtain ⟨p, q, r, dx, xs, ys, rfl, _⟩ := h; rfl
  · obtain ⟨p, q, r, dx, xs, ys, rfl, hp, hq, hr2, k⟩ := h
    refine ⟨_, (pss_cons (ps_fldK (K := K) rfl (pv 0) (pe_callTy (call_list_ofK (K := K) rfl) (by rfl) T.list (by decide +kernel) (pa_cons (pv 1) pa_nil)))
      (pss_one (ps_fldK (K := K) rfl (pv 0) (pe_callTy (call_list_ofK (K := K) rfl) (by rfl) T.list (by decide +kernel) (pa_cons (pv 2) pa_nil))))), ?_⟩
    exact ini2_run (D := ⟨fun _ H' => Q .non H', Q, fun _ _ => False, fun _ _ => False⟩) L_Clash.cl N_Clash_one N_Clash_other (by decide +kernel) hp hq hr2 rfl rfl rfl k
theorem ok_Tails___init__ {aTl : Addr} (D : IniAt K aTl "Tails.__init__" s_Tails___init__ ["self", "tails"]) (T : Blt mg) (G_Tails : mg "Tails" = some (.ref aTl)) (L_Tails : ClsI K aTl) (N_Tails_tails : NoAttr K aTl "tails") : MkAt P w K mg base 1 "Tails" aTl (spIni1 K aTl "tails") := by
  refine mk_ofI G_Tails D sc_Tails___init__ (fun vs H Q E h => ?_) (fun f cdv A outer s H vs Q E hr h => ?_)
  · obtain ⟨p, q, dx, xs, rfl, _⟩ := h; rfl
  · obtain ⟨p, q, dx, xs, rfl, hp, hq, k⟩ := h
    refine ⟨_, (pss_one (ps_fldK (K := K) rfl (pv 0) (pe_callTy (call_list_ofK (K := K) rfl) (by rfl) T.list (by decide +kernel) (pa_cons (pv 1) pa_nil)))), ?_⟩
    exact ini1_run (D := ⟨fun _ H' => Q .non H', Q, fun _ _ => False, fun _ _ => False⟩) L_Tails.cl N_Tails_tails hp hq rfl rfl k
def spClShows (K : PySem.W.Frag) (aCl : Addr) : Sp := fun vs H Q _ => ∃ (o l m p dx : Addr) (ws : List Wd) (xs ys : List Int), vs = [.ref o, .ref p] ∧ H o = some (.ins aCl dx [("one", .ref l), ("other", .ref m)]) ∧ SqL K H l (xs.map V.int) ∧ SqL K H m (ys.map V.int) ∧ SqL K H p (ws.map tx) ∧ xs.length ≤ 6000 ∧ ys.length ≤ 6000 ∧
  (inR ws.length xs = true → (joinW ws (xs.map Int.toNat)).length ≤ 100000) ∧ (inR ws.length ys = true → (joinW ws (ys.map Int.toNat)).length ≤ 100000) ∧ ∀ H', Ex H H' → Q (.bl (clV ws xs ys)) H'
theorem ok_Clash_shows {aCl : Addr} (D : MthAt K aCl "shows" "Clash.shows" s_Clash_shows ["self", "code"]) (T : Blt mg) (L_Clash : ClsI K aCl) (N_Clash_one : NoAttr K aCl "one") (N_Clash_other : NoAttr K aCl "other") (C_are_places : Cal P w K mg base 1 "are_places" (spArePlaces K)) (C_joined : Cal P w K mg base 1 "joined" (spJoined K)) :
    MCal P w K mg base 2 aCl "shows" (spClShows K aCl) := by
  refine mcal_of L_Clash.cl D sc_Clash_shows (fun vs H Q E h => ?_) (fun f cdv A outer s H vs Q E hr h => ?_)
  · obtain ⟨o, l, m, p, dx, ws, xs, ys, rfl, _⟩ := h; rfl
  · obtain ⟨o, l, m, p, dx, ws, xs, ys, rfl, ho, hl, hm, hp, hx, hy, jx, jy, k⟩ := h
    refine ⟨_, (pss_cons (ps_if (PW.pt (pw_or (pt_cmpR (op_eqDK (K := K) rfl hr.units) (pe_fldK (K := K) rfl (pv 0)) (pe_fldK (K := K) rfl (pv 0)) (nomark _)) (pw_or (pt_not (pt_val (pe_c C_are_places hr (by decide) (by rfl) (pa_cons (pv 1) (pa_cons (pe_fldK (K := K) rfl (pv 0)) pa_nil))))) (pw_or1 (pt_not (pt_val (pe_c C_are_places hr (by decide) (by rfl) (pa_cons (pv 1) (pa_cons (pe_fldK (K := K) rfl (pv 0)) pa_nil))))))))) (pss_one (ps_ret pe_bl)) pss_nil)
      (pss_one (ps_ret (pe_cmpR op_eq (pe_c C_joined hr (by decide) (by rfl) (pa_cons (pv 1) (pa_cons (pe_fldK (K := K) rfl (pv 0)) pa_nil))) (pe_c C_joined hr (by decide) (by rfl) (pa_cons (pv 1) (pa_cons (pe_fldK (K := K) rfl (pv 0)) pa_nil))) (nomark _))))), ?_⟩
    have g1 : ∀ H', Ex H H' → Ev (tFld K (tVar 0) "one") [some (.ref o), some (.ref p)] H' (.ref l) := fun H' e => ev_fld (ev_var rfl) (e o _ ho) L_Clash.cl N_Clash_one look2a
    have g2 : ∀ H', Ex H H' → Ev (tFld K (tVar 0) "other") [some (.ref o), some (.ref p)] H' (.ref m) := fun H' e => ev_fld (ev_var rfl) (e o _ ho) L_Clash.cl N_Clash_other (look2 (by decide +kernel))
    refine q_when (b := decide (xs = ys) || (!inR ws.length xs || !inR ws.length ys)) (et_or (et_B (ev_eqQ enc_int (eq_at (g1 _ (Ex.refl _)) hl) (eq_at (g2 _ (Ex.refl _)) hm) (by simp) (by simp))) fun _ => et_or (et_not (et_test (ev_is (ev_call (vs := [.ref p, .ref l]) (ea_cons (ev_var rfl) (ea_cons (g1 _ (Ex.refl _)) ea_nil)) (sv_are_places hp hl (by omega))) (by rw [List.length_map]))))
      fun _ => et_not (et_test (ev_is (ev_call (vs := [.ref p, .ref m]) (ea_cons (ev_var rfl) (ea_cons (g2 _ (Ex.refl _)) ea_nil)) (sv_are_places hp hm (by omega))) (by rw [List.length_map])))) (fun h0 H1 e1 => ?_) (fun h0 H1 e1 => ?_)
    · have : clV ws xs ys = false := by
        unfold clV
        cases h1 : decide (xs = ys) <;> cases h2 : inR ws.length xs <;> cases h3 : inR ws.length ys <;> rw [h1, h2, h3] at h0 <;> first | rfl | cases h0
      rw [this] at k
      exact s_ret ev_c fun H2 e2 => k H2 (e1.trans e2)
    · have h123 : decide (xs = ys) = false ∧ inR ws.length xs = true ∧ inR ws.length ys = true := by
        cases h1 : decide (xs = ys) <;> cases h2 : inR ws.length xs <;> cases h3 : inR ws.length ys <;> rw [h1, h2, h3] at h0 <;> first | exact ⟨rfl, rfl, rfl⟩ | cases h0
      obtain ⟨h1, h2, h3⟩ := h123
      have : clV ws xs ys = decide (joinW ws (xs.map Int.toNat) = joinW ws (ys.map Int.toNat)) := by
        unfold clV
        rw [h1, h2, h3]; rfl
      rw [this] at k
      obtain ⟨a1, a2⟩ := inR_nat h2
      obtain ⟨b1, b2⟩ := inR_nat h3
      have hl1 := ex_l e1 hl
      have hm1 := ex_l e1 hm
      rw [a1] at hl1
      rw [b1] at hm1
      exact s_ret (ev_op (ev_call (vs := [.ref p, .ref l]) (ea_cons (ev_var rfl) (ea_cons (g1 _ e1) ea_nil)) (sv_joined (ex_l e1 hp) hl1 (by rw [List.length_map]; omega) a2 (jx h2))) (ev_call (vs := [.ref p, .ref m]) (ea_cons (ev_var rfl) (ea_cons (g2 _ e1) ea_nil)) (sv_joined (ex_l e1 hp) hm1 (by rw [List.length_map]; omega) b2 (jy h3))) rv_eqS) fun H2 e2 => k H2 (e1.trans e2)
/-! ### Tails.shows -/
def spTlShows (K : PySem.W.Frag) (aTl : Addr) : Sp := fun vs H Q _ => ∃ (o l p dx : Addr) (ws ts : List Wd), vs = [.ref o, .ref p] ∧ H o = some (.ins aTl dx [("tails", .ref l)]) ∧ SqL K H l (ts.map tx) ∧ SqL K H p (ws.map tx) ∧ ws.length ≤ 1000 ∧ (∀ a ∈ ws, a.length ≤ 1000) ∧ ts.length ≤ 6000 ∧ (∀ t ∈ ts, t.length ≤ 1000) ∧
  ∀ H', Ex H H' → Q (.bl (tlV ws ts)) H'
theorem ok_Tails_shows {aTl : Addr} (D : MthAt K aTl "shows" "Tails.shows" s_Tails_shows ["self", "code"]) (T : Blt mg) (L_Tails : ClsI K aTl) (N_Tails_tails : NoAttr K aTl "tails") (C_stands : Cal P w K mg base 1 "stands" spStands) : MCal P w K mg base 2 aTl "shows" (spTlShows K aTl) := by
  refine mcal_of L_Tails.cl D sc_Tails_shows (fun vs H Q E h => ?_) (fun f cdv A outer s H vs Q E hr h => ?_)
  · obtain ⟨o, l, p, dx, ws, ts, rfl, _⟩ := h; rfl
  · obtain ⟨o, l, p, dx, ws, ts, rfl, ho, hl, hp, hwl, hwa, htl, hta, k⟩ := h
    refine ⟨_, (pss_cons (ps_set (i := 2) sc_Tails_shows.nd rfl (.inl rfl) pe_dnewK)
      (pss_cons (ps_for PassesOwn.never rfl (pi_listK (K := K) rfl (pe_fldK (K := K) rfl (pv 0))) (pg_name (i := 3) sc_Tails_shows.nd rfl (.inl rfl)) (pss_one (ps_dput (hu_of hr) (pv 2) (pv 3) pe_bl rfl)))
      (pss_cons (ps_if (pt_cmp (pc_din (hu_of hr) pe_str (pv 2))) (pss_one (ps_ret pe_bl)) pss_nil)
      (pss_cons (ps_for PassesOwn.never rfl (pi_enumK (K := K) rfl (by rfl) T.enumerate (pa_cons (pv 1) pa_nil)) (pg_tupK (K := K) (n := 2) rfl rfl (pgs_cons (pg_name (i := 4) sc_Tails_shows.nd rfl (.inl rfl)) (pgs_cons (pg_name (i := 5) sc_Tails_shows.nd rfl (.inl rfl)) pgs_nil))) (pss_cons (ps_for PassesOwn.never rfl (pi_range1 (by rfl) T.range (pa_cons (pe_callB (call_len_seqK (K := K) rfl) (by rfl) T.len (by decide +kernel) (pa_cons (pv 1) pa_nil)) pa_nil)) (pg_name (i := 6) sc_Tails_shows.nd rfl (.inl rfl)) (pss_one (ps_if (PW.pt (pw_and (pt_cmpR op_ne (pv 6) (pv 4) (nomark _)) (pw_and (pt_val (pe_c C_stands hr (by decide) (by rfl) (pa_cons (pv 5) (pa_cons (pe_ix (ix_listK (K := K) rfl) (pv 1) (pv 6) (fun _ _ => rfl)) (pa_cons pe_int pa_nil))))) (pw_and1 (pt_cmp (pc_dnotin (hu_of hr) (pe_slice sl_str (pe_ix (ix_listK (K := K) rfl) (pv 1) (pv 6) (fun _ _ => rfl)) (po_some (pe_callB call_len_str (by rfl) T.len (by decide +kernel) (pa_cons (pv 5) pa_nil))) po_none) (pv 2))))))) (pss_one (ps_ret pe_bl)) pss_nil)))
      (pss_one (ps_lock (ps_for PassesOwn.never rfl (pi_keys (pv 2)) (pg_name (i := 3) sc_Tails_shows.nd rfl (.inl rfl)) (pss_cons (ps_if (PW.pt (pw_and (pt_val (pe_c C_stands hr (by decide) (by rfl) (pa_cons (pv 3) (pa_cons (pv 5) (pa_cons pe_int pa_nil))))) (pw_and1 (pt_cmp (pc_dnotin (hu_of hr) (pe_slice sl_str (pv 5) (po_some (pe_callB call_len_str (by rfl) T.len (by decide +kernel) (pa_cons (pv 3) pa_nil))) po_none) (pv 2)))))) (pss_one (ps_ret pe_bl)) pss_nil)
      (pss_one (ps_if (PW.pt (pw_and (pt_val (pe_c C_stands hr (by decide) (by rfl) (pa_cons (pv 5) (pa_cons (pv 3) (pa_cons pe_int pa_nil))))) (pw_and1 (pt_cmp (pc_dnotin (hu_of hr) (pe_slice sl_str (pv 3) (po_some (pe_callB call_len_str (by rfl) T.len (by decide +kernel) (pa_cons (pv 5) pa_nil))) po_none) (pv 2)))))) (pss_one (ps_ret pe_bl)) pss_nil))))))))
      (pss_one (ps_ret pe_bl)))))), ?_⟩
    have hwat : ∀ i, i < ws.length → (wat ws i).length ≤ 1000 := fun i hi => hwa _ (List.mem_of_getElem? (M3.wat_getElem hi))
    refine q_asgD0 fun d nd => ?_
    have ex0 : Ex H (upd H d (.dK [])) := Ex.new nd
    refine q_forLn (a := l) (xs := ts.map tx) (ev_fld (ev_var rfl) (ex0 o _ ho) L_Tails.cl N_Tails_tails (look1 _ _)) (ex_l ex0 hl) (fun i σ' H' => ∃ kvs s3, Ex H H' ∧ H' d = some (.dK kvs) ∧ (∀ t, (valV kvs (.inr (S t))).isSome = decide (t ∈ ts.take i)) ∧ (∀ k ∈ kvs.map (·.1), ∃ t ∈ ts, k = .inr (S t)) ∧ kvs.length ≤ i ∧ σ' = [some (.ref o), some (.ref p), some (.ref d), s3, none, none, none])
      (fun H1 e1 => ⟨[], _, ex0.trans e1, e1 d _ upd_same, fun t => by simp [valV_nil], by simp, by simp, rfl⟩) (fun i σ' H' _ hP => by obtain ⟨_, _, e, _⟩ := hP; exact ex_l e hl) (fun i x σ' H' hi hP => ?_) (fun σ' H' hP => ?_)
    · obtain ⟨kvs, s3, ex, hd, hval, hks, hkl, rfl⟩ := hP
      have hil : i < ts.length := by
        have := (List.getElem?_eq_some_iff.mp hi).1
        rwa [List.length_map] at this
      have hti : ts[i]? = some ts[i] := List.getElem?_eq_getElem hil
      have hx : x = tx ts[i] := by
        rw [List.getElem?_map, hti] at hi
        exact (Option.some.inj hi).symm
      subst hx
      have hmem : ts[i] ∈ ts := List.getElem_mem hil
      have htk : ts.take (i + 1) = ts.take i ++ [ts[i]] := by rw [List.take_succ, hti]; rfl
      rw [htk]
      generalize ts[i] = t0 at *
      refine s_dput (kvs := kvs) (k := .inr (S t0)) (v := .bl true) hd ev_c (ev_var rfl) (ev_var rfl) (by omega) fun H1 e1 => ⟨putK kvs (.inr (S t0)) (.bl true), _, Ex.mut (ex.trans e1) nd, upd_same, fun t => ?_, fun k hk => ?_, ?_, rfl⟩
      · rw [valV_put]
        by_cases h : t = t0
        · subst h; rw [if_pos rfl]; simp
        · have : ¬ (Sum.inr (S t) : Key) = .inr (S t0) := fun e => h (S_inj (Sum.inr.inj e))
          rw [if_neg this, hval]
          simp [h]
      · unfold putK at hk
        split at hk
        · rw [List.map_map] at hk
          obtain ⟨kv, h1, h2⟩ := List.mem_map.mp hk
          have h3 : kv.1 = k := by
            rw [← h2]; show kv.1 = (if kv.1 = Sum.inr (S t0) then (kv.1, V.bl true) else kv).1
            split <;> rfl
          exact hks k (List.mem_map.mpr ⟨kv, h1, h3⟩)
        · rw [List.map_append] at hk
          rcases List.mem_append.mp hk with h | h
          · exact hks k h
          · exact ⟨t0, hmem, by simpa using h⟩
      · have := putK_len kvs (Sum.inr (S t0) : Key) (V.bl true)
        omega
    · obtain ⟨kvs, s3, ex, hd, hval, hks, hkl, rfl⟩ := hP
      rw [List.length_map] at hkl hval
      rw [List.take_length] at hval
      have hev : ([] : Wd) ∈ ts ↔ (valV kvs (.inr (S []))).isSome = true := by rw [hval]; simp
      refine q_when (b := decide ([] ∈ ts)) (et_B (ev_is (ev_din (k := .inr (S [])) (ev_is ev_cS (congrArg tx codes_nil)) (ev_var rfl) (.inl hd)) (by rw [hval]))) (fun h0 H1 e1 => ?_) (fun h0 H1 e1 => ?_)
      · have : tlV ws ts = false := by unfold tlV; rw [h0]; rfl
        rw [this] at k
        exact s_ret ev_c fun H2 e2 => k H2 ((ex.trans e1).trans e2)
      · have hsh : tlV ws ts = (List.range ws.length).all (tlA ws ts) := by unfold tlV; rw [h0]; rfl
        rw [hsh] at k
        have e9 : (((ws.map tx).length : Nat) : Int) = (ws.length : Int) := by rw [List.length_map]
        have hd1 := e1 d _ hd
        have ex1 := ex.trans e1
        have bad : ∀ i, i < ws.length → tlA ws ts i = false → ∀ H2, Ex H H2 → Q (.bl false) H2 := fun i hi hf H2 e2 => by
          have : (List.range ws.length).all (tlA ws ts) = false := by
            rw [List.all_eq_false]
            exact ⟨i, List.mem_range.mpr hi, by rw [hf]; decide⟩
          rw [this] at k
          exact k H2 e2
        refine q_forEnum (a := p) (xs := ws.map tx) (ev_var rfl) (ex_l ex1 hp) (fun i σ' H' => ∃ s3 s4 s5 s6, Ex H H' ∧ H' d = some (.dK kvs) ∧ (∀ i', i' < i → i' < ws.length → tlA ws ts i' = true) ∧ σ' = [some (.ref o), some (.ref p), some (.ref d), s3, s4, s5, s6])
          (fun H2 e2 => ⟨_, _, _, _, ex1.trans e2, e2 d _ hd1, fun i' h => by omega, rfl⟩) (fun i σ' H' hP => by obtain ⟨_, _, _, _, e, _⟩ := hP; exact ex_l e hp)
          (fun i σ' H' H'' hP e => by obtain ⟨s3, s4, s5, s6, h1, h2, h3, h4⟩ := hP; exact ⟨s3, s4, s5, s6, h1.trans e, e d _ h2, h3, h4⟩) (fun i x σ' H' hi hP => ?_) (fun σ' H' hP => ?_)
        · obtain ⟨s3, s4, s5, s6, ex2, hd2, hall, rfl⟩ := hP
          have hil : i < ws.length := by
            have := (List.getElem?_eq_some_iff.mp hi).1
            rwa [List.length_map] at this
          have hx : x = tx (wat ws i) := by
            rw [wat_get hil] at hi
            exact (Option.some.inj hi).symm
          subst hx
          have hwi := hwat i hil
          refine q_forR1 (n := (ws.length : Int)) (ea_cons (by rw [← e9]; exact ev_len' (ev_var rfl) (ex_l ex2 hp)) ea_nil) ⟨by omega, by omega⟩ (fun j σ' H2 => ∃ s6, Ex H H2 ∧ H2 d = some (.dK kvs) ∧ (∀ j', j' < j → j' < ws.length → tlB ws ts i j' = true) ∧ σ' = [some (.ref o), some (.ref p), some (.ref d), s3, some (nI i), some (tx (wat ws i)), s6])
            (fun H2 e2 => ⟨_, ex2.trans e2, e2 d _ hd2, fun j' h => by omega, rfl⟩) (fun j σ2 H2 hj hP => ?_) (fun σ2 H2 hP => ?_)
          · obtain ⟨s6, ex3, hd3, hin, rfl⟩ := hP
            have hjl : j < ws.length := by omega
            have hwj := hwat j hjl
            have gj : ∀ (σ : L2.St) (H3 : Hp), Ex H2 H3 → σ[1]? = some (some (.ref p)) → σ[6]? = some (some (nI j)) → Ev (tOp (rIxL K) (tVar 1) (tVar 6)) σ H3 (tx (wat ws j)) := fun σ H3 e3 h0 h4 =>
              ev_op (ev_var h0) (ev_var h4) (rv_ixL (ex_l (ex3.trans e3) hp) (atI_nat (wat_get hjl)))
            refine s_when (b := !decide (j = i) && (pre (wat ws i) (wat ws j) && !decide ((wat ws j).drop (wat ws i).length ∈ ts))) (et_and (et_is (et_test (ev_op (x := nI j) (y := nI i) (ev_var rfl) (ev_var rfl) rv_neI)) (by congr 1; by_cases h : j = i <;> simp [h]; omega)) fun _ => et_and (et_is (et_test (ev_call (vs := [tx (wat ws i), tx (wat ws j), .int ((0 : Nat) : Int)]) (ea_cons (ev_var rfl) (ea_cons (gj _ _ (Ex.refl _) rfl rfl) (ea_cons ev_c ea_nil))) (sv_stands (by omega) (by omega)))) (by unfold standsB; rw [List.drop_zero]))
              fun _ => et_B (ev_is (ev_dnotin (k := .inr (S ((wat ws j).drop (wat ws i).length))) (ev_is (ev_slS (lo := some ((wat ws i).length : Int)) (gj _ _ (Ex.refl _) rfl rfl) (eo_some (ev_lenS (ev_var rfl) (by omega))) eo_none (by omega)) (congrArg tx (cut_from _ _))) (ev_var rfl) (.inl hd3)) (by rw [hval]))) (fun hs H3 e3 => ?_) (fun hs H3 e3 => ?_)
            · refine s_ret ev_c fun H4 e4 => bad i hil ?_ H4 ((ex3.trans e3).trans e4)
              unfold tlA
              have : (List.range ws.length).all (tlB ws ts i) = false := by
                rw [List.all_eq_false]
                refine ⟨j, List.mem_range.mpr hjl, ?_⟩
                unfold tlB
                rw [Bool.and_assoc, hs]; decide
              rw [this]; rfl
            · refine ⟨_, ex3.trans e3, e3 d _ hd3, fun j' h1 h2 => ?_, rfl⟩
              rcases Nat.lt_or_ge j' j with hlt | hge
              · exact hin j' hlt h2
              · have : j' = j := by omega
                subst this
                unfold tlB
                rw [Bool.and_assoc, hs]; rfl
          · obtain ⟨s6, ex3, hd3, hin, rfl⟩ := hP
            have e0 : (ws.length : Int).toNat = ws.length := by omega
            rw [e0] at hin
            refine s_forKeys (d := d) (kvs := kvs) (i0 := 2) rfl hd3 (fun q σ' => ∃ s3, (∀ q' t, q' < q → (kvs.map (·.1))[q']? = some (.inr (S t)) → tlT ws ts i t = true) ∧ σ' = [some (.ref o), some (.ref p), some (.ref d), s3, some (nI i), some (tx (wat ws i)), s6])
              ⟨_, fun q' t h => by omega, rfl⟩ (fun q key σ' H4 D' hk hP hrd hexb hnx hrt => ?_) (fun σ' H4 e4 hP => ?_)
            · obtain ⟨s3, hq, rfl⟩ := hP
              obtain ⟨t, htm, rfl⟩ := hks key (List.mem_of_getElem? hk)
              have htl2 := hta t htm
              have bad2 : tlT ws ts i t = false → ∀ H5, Ex H2 H5 → Q (.bl false) H5 := fun hf H5 e5 => bad i hil (by
                unfold tlA
                have : ts.all (tlT ws ts i) = false := by
                  rw [List.all_eq_false]
                  exact ⟨t, htm, by rw [hf]; decide⟩
                rw [this, Bool.and_false]) H5 (ex3.trans e5)
              refine q_when (b := pre t (wat ws i) && !decide ((wat ws i).drop t.length ∈ ts)) (et_and (et_is (et_test (ev_call (vs := [tx t, tx (wat ws i), .int ((0 : Nat) : Int)]) (ea_cons (ev_var rfl) (ea_cons (ev_var rfl) (ea_cons ev_c ea_nil))) (sv_stands (by omega) (by omega)))) (by unfold standsB; rw [List.drop_zero]))
                fun _ => et_B (ev_is (ev_dnotin (k := .inr (S ((wat ws i).drop t.length))) (ev_is (ev_slS (a := wat ws i) (lo := some (t.length : Int)) (ev_var rfl) (eo_some (ev_lenS (a := t) (ev_var rfl) (by omega))) eo_none (by omega)) (congrArg tx (cut_from _ _))) (ev_var rfl) hrd) (by rw [hval]))) (fun hs H5 e5 => ?_) (fun hs H5 e5 => ?_)
              · refine s_ret ev_c fun H6 e6 => hrt _ H6 (e5.trans e6) fun H7 e7 => bad2 ?_ H7 e7
                unfold tlT
                rw [hs]; rfl
              · refine s_when (b := pre (wat ws i) t && !decide (t.drop (wat ws i).length ∈ ts)) (et_and (et_is (et_test (ev_call (vs := [tx (wat ws i), tx t, .int ((0 : Nat) : Int)]) (ea_cons (ev_var rfl) (ea_cons (ev_var rfl) (ea_cons ev_c ea_nil))) (sv_stands (by omega) (by omega)))) (by unfold standsB; rw [List.drop_zero]))
                  fun _ => et_B (ev_is (ev_dnotin (k := .inr (S (t.drop (wat ws i).length))) (ev_is (ev_slS (a := t) (lo := some ((wat ws i).length : Int)) (ev_var rfl) (eo_some (ev_lenS (a := wat ws i) (ev_var rfl) (by omega))) eo_none (by omega)) (congrArg tx (cut_from _ _))) (ev_var rfl) (ex_rd e5 hrd)) (by rw [hval]))) (fun hs2 H6 e6 => ?_) (fun hs2 H6 e6 => ?_)
                · refine s_ret ev_c fun H7 e7 => hrt _ H7 ((e5.trans e6).trans e7) fun H8 e8 => bad2 ?_ H8 e8
                  unfold tlT
                  rw [hs2, Bool.not_true, Bool.and_false]
                · refine hnx _ H6 (e5.trans e6) ⟨_, fun q' t' h1 h2 => ?_, rfl⟩
                  rcases Nat.lt_or_ge q' q with hlt | hge
                  · exact hq q' t' hlt h2
                  · have : q' = q := by omega
                    subst this
                    rw [hk] at h2
                    have : t = t' := S_inj (Sum.inr.inj (Option.some.inj h2))
                    subst this
                    unfold tlT
                    rw [hs, hs2]; rfl
            · obtain ⟨s3, hq, rfl⟩ := hP
              refine ⟨_, _, _, _, ex3.trans e4, e4 d _ hd3, fun i' h1 h2 => ?_, rfl⟩
              rcases Nat.lt_or_ge i' i with hlt | hge
              · exact hall i' hlt h2
              · have : i' = i := by omega
                subst this
                unfold tlA
                rw [Bool.and_eq_true, List.all_eq_true, List.all_eq_true]
                refine ⟨fun j hj => hin j (List.mem_range.mp hj) (List.mem_range.mp hj), fun t ht => ?_⟩
                have hv : (valV kvs (.inr (S t))).isSome = true := by rw [hval]; simp [ht]
                have hk : (Sum.inr (S t) : Key) ∈ kvs.map (·.1) := by
                  obtain ⟨v, hv⟩ := Option.isSome_iff_exists.mp hv
                  unfold valV at hv
                  cases hf : kvs.find? (fun kv => decide (kv.1 = Sum.inr (S t))) with
                  | none => rw [hf] at hv; cases hv
                  | some kv =>
                    have h3 := List.find?_some hf
                    have h4 := List.mem_of_find?_eq_some hf
                    exact List.mem_map.mpr ⟨kv, h4, of_decide_eq_true h3⟩
                obtain ⟨q', hq', he⟩ := List.getElem_of_mem hk
                refine hq q' t (by rw [List.length_map] at hq'; exact hq') ?_
                rw [List.getElem?_eq_getElem hq', he]
        · obtain ⟨s3, s4, s5, s6, ex2, hd2, hall, rfl⟩ := hP
          rw [List.length_map] at hall
          have : (List.range ws.length).all (tlA ws ts) = true := by
            rw [List.all_eq_true]
            intro i hi
            exact hall i (List.mem_range.mp hi) (List.mem_range.mp hi)
          rw [this] at k
          exact s_ret ev_c fun H3 e3 => k H3 (ex2.trans e3)
end
end Tr

set_option Elab.async false
set_option linter.all false
set_option maxRecDepth 100000
set_option maxHeartbeats 4000000
namespace Tr
open PySem PySem.Spec PyProof.Rows L2 Evl
open M3 (wat joinW pre)
abbrev s_first_tails : Stmt := topS 28
abbrev N_first_tails : List Str := ["code", "found", "place", "word", "other"]
theorem sc_first_tails : FnScope N_first_tails ["code"] (defScope s_first_tails) := ⟨rfl, rfl, rfl, by decide +kernel, rfl, by decide +kernel, by decide +kernel⟩
abbrev s_next_tails : Stmt := topS 29
abbrev N_next_tails : List Str := ["code", "told", "tail", "short", "long", "found", "place", "word"]
theorem sc_next_tails : FnScope N_next_tails ["code", "told"] (defScope s_next_tails) := ⟨rfl, rfl, rfl, by decide +kernel, rfl, by decide +kernel, by decide +kernel⟩
abbrev s_once : Stmt := topS 30
abbrev N_once : List Str := ["code", "waiting", "seen", "at", "tail", "short", "long"]
theorem sc_once : FnScope N_once ["code"] (defScope s_once) := ⟨rfl, rfl, rfl, by decide +kernel, rfl, by decide +kernel, by decide +kernel⟩
local macro_rules | `(tactic| walk_at "sd") => `(tactic| first | assumption | rfl | omega | decide | (solve_by_elim) | (refine Nat.le_trans (m := 1000) (by solve_by_elim) (by decide)))
local macro_rules | `(tactic| walk_at "rv") => `(tactic| first
  | exact rv_add | exact rv_sub | exact rv_lt | exact rv_le | exact rv_gt | exact rv_ge | exact rv_eqI | exact rv_eqS | exact rv_eqB | exact rv_neI | exact rv_neS | exact rv_neB
  | exact rv_mod (by walk_at "sd") | exact rv_fdiv (by first | assumption | exact ⟨by omega, by omega⟩) | exact rv_addS (by walk_at "sd") | exact rv_isB | exact rv_notB | assumption)
local macro_rules | `(tactic| walk_at "ea") => `(tactic| first
  | exact ea_nil
  | (refine' ea_cons ?k1 ?k2; (case k1 => walk_at "ev"); (case k2 => walk_at "ea")))
local macro_rules | `(tactic| walk_at "eo") => `(tactic| first
  | exact eo_none
  | (refine' eo_some ?k1; (case k1 => walk_at "ev")))
local macro_rules | `(tactic| walk_at "et") => `(tactic| first
  | (refine' et_test ?k1; (case k1 => walk_at "ev"))
  | (refine' et_B ?k1; (case k1 => walk_at "ev"))
  | (refine' et_and ?k1 ?k2; (case k1 => walk_at "et"); (case k2 => (intro _; walk_at "et")))
  | (refine' et_or ?k1 ?k2; (case k1 => walk_at "et"); (case k2 => (intro _; walk_at "et")))
  | (refine' et_not ?k1; (case k1 => walk_at "et"))
  | assumption)
local macro_rules | `(tactic| walk_at "ev") => `(tactic| first
  | assumption
  | exact ev_cS
  | exact ev_c
  | exact ev_var rfl
  | (refine' ev_op ?k1 ?k2 ?k3; (case k1 => walk_at "ev"); (case k2 => walk_at "ev"); (case k3 => walk_at "rv"))
  | (refine' ev_un ?k1 ru_neg; (case k1 => walk_at "ev"))
  | (refine' ev_chain ?k1 ?k2 ?k3 ?k4 ?k5; (case k1 => walk_at "ev"); (case k2 => walk_at "ev"); (case k3 => walk_at "ev"); (case k4 => walk_at "rv"); (case k5 => (intro _; walk_at "rv")))
  | (refine' ev_slS ?k1 ?k2 ?k3 ?k4; (case k1 => walk_at "ev"); (case k2 => walk_at "eo"); (case k3 => walk_at "eo"); (case k4 => walk_at "sd"))
  | (refine' ev_lenS ?k1 ?k2; (case k1 => walk_at "ev"); (case k2 => walk_at "sd"))
  | (refine' ev_len' ?k1 ?k2; (case k1 => walk_at "ev"); (case k2 => walk_at "sd"))
  | (refine' ev_strip ?k1 ?k2 ?k3; (case k1 => walk_at "ev"); (case k2 => walk_at "ev"); (case k3 => walk_at "sd"))
  | (refine' ev_sum ?k1 ?k2; (case k1 => walk_at "ev"); (case k2 => walk_at "sd"))
  | (refine' ev_isi ?k1 ?k2 ?k3 ?k4; (case k1 => walk_at "ev"); (case k2 => walk_at "ev"); (case k3 => first | exact ty_int | exact ty_bl | exact ty_str | exact ty_list (by walk_at "sd")); (case k4 => first | exact kit_ty (r := true) (by decide +kernel) | exact kit_ty (r := false) (by decide +kernel)))
  | (refine' ev_andV ?k1 ?k2; (case k1 => walk_at "ev"); (case k2 => (intro _; walk_at "ev")))
  | (refine' ev_orV ?k1 ?k2; (case k1 => walk_at "ev"); (case k2 => (intro _; walk_at "ev")))
  | (refine' ev_notV ?k1; (case k1 => walk_at "ev"))
  | (refine' ev_call ?k1 ?k2; (case k1 => walk_at "ea"); (case k2 => walk_at "sv")))
local macro_rules | `(tactic| walk_at "el") => `(tactic| first
  | assumption
  | (refine' el_mapB ?k1 ?k2 ?k3 (fun _ => rfl) ?k5; (case k1 => walk_at "ev"); (case k2 => walk_at "sd"); (case k3 => walk_at "sd"); (case k5 => (intro _ _; walk_at "ev")))
  | (refine' el_mapI ?k1 ?k2 ?k3 (fun _ => rfl) ?k5; (case k1 => walk_at "ev"); (case k2 => walk_at "sd"); (case k3 => walk_at "sd"); (case k5 => (intro _ _; walk_at "ev")))
  | (refine' el_mapS ?k1 ?k2 ?k3 (fun _ => rfl) ?k5; (case k1 => walk_at "ev"); (case k2 => walk_at "sd"); (case k3 => walk_at "sd"); (case k5 => (intro _ _; walk_at "ev"))))
local macro_rules | `(tactic| walk_at "ev") => `(tactic| first
  | (refine' ev_all ?k1; (case k1 => walk_at "el"))
  | (refine' ev_any ?k1; (case k1 => walk_at "el"))
  | (refine' ev_sumN ?k1; (case k1 => walk_at "el"))
  | (refine' ev_join ?k1 ?k2 ?k3; (case k1 => exact ev_is ev_cS (congrArg tx codes_nil)); (case k2 => walk_at "el"); (case k3 => walk_at "sd")))

local macro_rules | `(tactic| walk_at "sv") => `(tactic| first | exact sv_stands (by walk_at "sd") (by walk_at "sd") | exact sv_asked_code (by walk_at "sd"))

/-! ### two readings that begin unlike, the one's text ahead by a tail -/
abbrev Item := Wd × List Nat × List Nat
structure ItOk (ws : List Wd) (it : Item) : Prop where
  join : joinW ws it.2.1 ++ it.1 = joinW ws it.2.2
  r1 : ∀ p ∈ it.2.1, p < ws.length
  r2 : ∀ p ∈ it.2.2, p < ws.length
  un : ∃ x xs y ys, it.2.1 = x :: xs ∧ it.2.2 = y :: ys ∧ x ≠ y
  suf : ∃ a ∈ ws, ∃ k, 0 < k ∧ it.1 = a.drop k
theorem join_snoc (ws : List Wd) (xs : List Nat) (p : Nat) : joinW ws (xs ++ [p]) = joinW ws xs ++ wat ws p := by
  unfold joinW; simp
theorem itok_first {ws : List Wd} (hw : ∀ a ∈ ws, a ≠ []) {i j : Nat} (hi : i < ws.length) (hj : j < ws.length) (hij : j ≠ i) (hp : pre (wat ws i) (wat ws j) = true) : ItOk ws ((wat ws j).drop (wat ws i).length, [i], [j]) where
  join := by simp only [joinW, List.map_cons, List.map_nil, List.flatten_cons, List.flatten_nil, List.append_nil]; exact M3.pre_app hp
  r1 := by simp [hi]
  r2 := by simp [hj]
  un := ⟨i, [], j, [], rfl, rfl, Ne.symm hij⟩
  suf := ⟨wat ws j, List.mem_of_getElem? (M3.wat_getElem hj), _, M3.wat_ne hw hi, rfl⟩
theorem itok_fwd {ws : List Wd} {it : Item} (h : ItOk ws it) (hne : it.1 ≠ []) {i : Nat} (hi : i < ws.length) (hp : pre it.1 (wat ws i) = true) : ItOk ws ((wat ws i).drop it.1.length, it.2.2, it.2.1 ++ [i]) where
  join := by
    show joinW ws it.2.2 ++ _ = joinW ws (it.2.1 ++ [i])
    rw [join_snoc, ← h.join, List.append_assoc, M3.pre_app hp]
  r1 := h.r2
  r2 := fun p hp2 => by
    rcases List.mem_append.mp hp2 with h2 | h2
    · exact h.r1 p h2
    · rw [List.mem_singleton.mp h2]; exact hi
  un := by
    obtain ⟨x, xs, y, ys, e1, e2, hne⟩ := h.un
    exact ⟨y, ys, x, xs ++ [i], e2, by show it.2.1 ++ [i] = _; rw [e1]; rfl, Ne.symm hne⟩
  suf := ⟨wat ws i, List.mem_of_getElem? (M3.wat_getElem hi), _, List.length_pos_iff.mpr hne, rfl⟩
theorem itok_bwd {ws : List Wd} {it : Item} (h : ItOk ws it) {i : Nat} (hi : i < ws.length) (hp : pre (wat ws i) it.1 = true) : ItOk ws (it.1.drop (wat ws i).length, it.2.1 ++ [i], it.2.2) where
  join := by
    show joinW ws (it.2.1 ++ [i]) ++ _ = joinW ws it.2.2
    rw [join_snoc, ← h.join, List.append_assoc, M3.pre_app hp]
  r1 := fun p hp2 => by
    rcases List.mem_append.mp hp2 with h2 | h2
    · exact h.r1 p h2
    · rw [List.mem_singleton.mp h2]; exact hi
  r2 := h.r2
  un := by
    obtain ⟨x, xs, y, ys, e1, e2, hne⟩ := h.un
    exact ⟨x, xs ++ [i], y, ys, by show it.2.1 ++ [i] = _; rw [e1]; rfl, e2, hne⟩
  suf := by
    obtain ⟨a, ha, k, hk, e⟩ := h.suf
    exact ⟨a, ha, k + (wat ws i).length, by omega, by show it.1.drop _ = _; rw [e, List.drop_drop]⟩
/-! ### how they stand in the heap -/
def ItAt (H : Hp) (N : Addr → Prop) (v : V) (it : Item) : Prop := ∃ T s l, v = .ref T ∧ H T = some (.tup [tx it.1, .ref s, .ref l]) ∧ H s = some (.lst (it.2.1.map nI)) ∧ H l = some (.lst (it.2.2.map nI)) ∧ N s ∧ N l
def ItsAt (H : Hp) (N : Addr → Prop) (xs : List V) (its : List Item) : Prop := xs.length = its.length ∧ ∀ (i : Nat) (v : V) (it : Item), xs[i]? = some v → its[i]? = some it → ItAt H N v it
theorem ItAt.ex {H H' : Hp} {N : Addr → Prop} {v : V} {it : Item} (e : Ex H H') (h : ItAt H N v it) : ItAt H' N v it := by
  obtain ⟨T, s, l, h1, h2, h3, h4, h5, h6⟩ := h
  exact ⟨T, s, l, h1, e T _ h2, e s _ h3, e l _ h4, h5, h6⟩
theorem ItAt.upd {H : Hp} {N : Addr → Prop} {v : V} {it : Item} {z : Addr} {o : HO} (h : ItAt H N v it) (hz : ∀ xs, H z ≠ some (.tup xs)) (hN : ∀ a, N a → a ≠ z) : ItAt (upd H z o) N v it := by
  obtain ⟨T, s, l, h1, h2, h3, h4, h5, h6⟩ := h
  exact ⟨T, s, l, h1, by rw [upd_ne (fun e => hz _ (e ▸ h2))]; exact h2, by rw [upd_ne (hN s h5)]; exact h3, by rw [upd_ne (hN l h6)]; exact h4, h5, h6⟩
theorem ItAt.imp {H : Hp} {N N' : Addr → Prop} {v : V} {it : Item} (h : ItAt H N v it) (hN : ∀ a, N a → N' a) : ItAt H N' v it := by
  obtain ⟨T, s, l, h1, h2, h3, h4, h5, h6⟩ := h
  exact ⟨T, s, l, h1, h2, h3, h4, hN s h5, hN l h6⟩
theorem ItsAt.map {H H' : Hp} {N N' : Addr → Prop} {xs : List V} {its : List Item} (h : ItsAt H N xs its) (f : ∀ v it, ItAt H N v it → ItAt H' N' v it) : ItsAt H' N' xs its := ⟨h.1, fun i v it h1 h2 => f v it (h.2 i v it h1 h2)⟩
theorem ItsAt.snoc {H : Hp} {N : Addr → Prop} {xs : List V} {its : List Item} {v : V} {it : Item} (h : ItsAt H N xs its) (h2 : ItAt H N v it) : ItsAt H N (xs ++ [v]) (its ++ [it]) := by
  refine ⟨by rw [List.length_append, List.length_append, h.1]; rfl, fun i u jt hu hj => ?_⟩
  rcases Nat.lt_or_ge i xs.length with hi | hi
  · rw [List.getElem?_append_left hi] at hu
    rw [List.getElem?_append_left (h.1 ▸ hi)] at hj
    exact h.2 i u jt hu hj
  · have hi0 : i = xs.length := by
      have := (List.getElem?_eq_some_iff.mp hu).1
      rw [List.length_append, List.length_singleton] at this; omega
    subst hi0
    have e1 : (xs ++ [v])[xs.length]? = some v := by simp
    have e2 : (its ++ [it])[xs.length]? = some it := by rw [h.1]; simp
    rw [e1] at hu; rw [e2] at hj
    cases hu; cases hj
    exact h2
theorem ItsAt.app {H : Hp} {N : Addr → Prop} {xs ys : List V} {its jts : List Item} (h : ItsAt H N xs its) (h2 : ItsAt H N ys jts) : ItsAt H N (xs ++ ys) (its ++ jts) := by
  refine ⟨by rw [List.length_append, List.length_append, h.1, h2.1], fun i u jt hu hj => ?_⟩
  rcases Nat.lt_or_ge i xs.length with hi | hi
  · rw [List.getElem?_append_left hi] at hu
    rw [List.getElem?_append_left (h.1 ▸ hi)] at hj
    exact h.2 i u jt hu hj
  · rw [List.getElem?_append_right hi] at hu
    rw [List.getElem?_append_right (h.1 ▸ hi), ← h.1] at hj
    exact h2.2 _ u jt hu hj
theorem its_nil {H : Hp} {N : Addr → Prop} : ItsAt H N [] [] := ⟨rfl, fun i v it h => by simp at h⟩
section
variable {K : PySem.W.Frag} {σ : L2.St} {H H' : Hp} {ta tb tc to : TE} {x : V} {D : Ends} {tz : TS}
/-- a list at an address of which A tells, new or old -/
def EvR (te : TE) (σ : L2.St) (H : Hp) (A : Hp → Addr → Prop) (xs : List V) : Prop := ∀ H1, Ex H H1 → ∀ Q : VK, (∀ s H2, A H1 s → Ex H1 H2 → H2 s = some (.lst xs) → Q (.ref s) H2) → te σ H1 Q
theorem er_new {xs : List V} (h : EvL ta σ H xs) : EvR ta σ H (fun H1 s => H1 s = none) xs := fun H1 e Q q => h H1 e Q fun p H2 np e2 h2 => q p H2 np e2 h2
theorem er_old {xs : List V} {s : Addr} (h : Ev ta σ H (.ref s)) (hs : H s = some (.lst xs)) : EvR ta σ H (fun _ a => a = s) xs := fun H1 e Q q => h H1 e _ fun H2 e2 => q s H2 rfl e2 ((e.trans e2) s _ hs)
/-- xs.append((a, [..], [..])) -/
theorem s_app3 {l0 : Addr} {xs ys zs : List V} {A B : Hp → Addr → Prop} (hl : H l0 = some (.lst xs)) (ho : Ev to σ H (.ref l0)) (ha : Ev ta σ H x) (hb : EvR tb σ H A ys) (hc : EvR tc σ H B zs) (hz : xs.length < 100000)
    (k : ∀ T s l H1, H T = none → Ex H H1 → H1 T = some (.tup [x, .ref s, .ref l]) → H1 s = some (.lst ys) → H1 l = some (.lst zs) → (∃ Ha, Ex H Ha ∧ A Ha s) → (∃ Hb, Ex H Hb ∧ B Hb l) → D.nx σ (upd H1 l0 (.lst (xs ++ [.ref T])))) :
    tDrop (tBM K "list" rAppend to (tCons (tTup (tCons ta (tCons tb (tCons tc tNil)))) tNil)) D σ H := ho H (Ex.refl H) _ fun H1 e1 =>
  ⟨Or.inl ⟨rfl, xs, sq_of (e1 l0 _ hl)⟩, ha H1 e1 _ fun H2 e2 => hb H2 (e1.trans e2) _ fun s H3 as e3 h3 => hc H3 ((e1.trans e2).trans e3) _ fun l H4 bl e4 h4 => ⟨sz_of (by simp), fun T nT =>
    have e04 := ((e1.trans e2).trans e3).trans e4
    ⟨l0, xs, .ref T, rfl, rfl, (Ex.new nT) l0 _ (e04 l0 _ hl), sz_lt hz, k T s l _ (fresh_back e04 nT) (e04.trans (Ex.new nT)) upd_same ((Ex.new nT) s _ (e4 s _ h3)) ((Ex.new nT) l _ h4) ⟨H2, e1.trans e2, as⟩ ⟨H3, (e1.trans e2).trans e3, bl⟩⟩⟩⟩
end
section
variable {P : Program} {w : World} {K : PySem.W.Frag} {mg : Str → Option Value} {base : Heap} {H : Hp}
/-! ### first_tails -/
structure FirstOk (ws : List Wd) (its : List Item) : Prop where
  ok : ∀ it ∈ its, ItOk ws it ∧ it.2.1.length + it.2.2.length ≤ 2
  all : ∀ i j, i < ws.length → j < ws.length → i ≠ j → pre (wat ws i) (wat ws j) = true → ∃ it ∈ its, it.1 = (wat ws j).drop (wat ws i).length
  len : its.length ≤ ws.length * ws.length
def spFirst (K : PySem.W.Frag) : Sp := fun vs H Q _ => ∃ (p : Addr) (ws : List Wd), vs = [.ref p] ∧ CodeAt K H p ws ∧ ws.length ≤ 63 ∧
  ∀ (l : Addr) (H' : Hp) (xs : List V) (its : List Item), H l = none → Ex H H' → H' l = some (.lst xs) → ItsAt H' (fun a => a ≠ l) xs its → FirstOk ws its → Q (.ref l) H'
theorem ok_first_tails (D : DefAt K mg "first_tails" s_first_tails ["code"]) (T : Blt mg) (C_stands : Cal P w K mg base 1 "stands" spStands) : Cal P w K mg base 2 "first_tails" (spFirst K) := by
  refine cal_of D sc_first_tails (fun vs H Q E h => ?_) (fun f cdv A outer s H vs Q E hr h => ?_)
  · obtain ⟨p, ws, rfl, _⟩ := h; rfl
  · obtain ⟨p, ws, rfl, hc, hw, k⟩ := h
    refine ⟨_, (pss_cons (ps_set (i := 1) sc_first_tails.nd rfl (.inl rfl) (pe_lst pa_nil))
      (pss_cons (ps_for PassesOwn.never rfl (pi_enumK (K := K) rfl (by rfl) T.enumerate (pa_cons (pv 0) pa_nil)) (pg_tupK (K := K) (n := 2) rfl rfl (pgs_cons (pg_name (i := 2) sc_first_tails.nd rfl (.inl rfl)) (pgs_cons (pg_name (i := 3) sc_first_tails.nd rfl (.inl rfl)) pgs_nil))) (pss_one (ps_for PassesOwn.never rfl (pi_range1 (by rfl) T.range (pa_cons (pe_callB (call_len_seqK (K := K) rfl) (by rfl) T.len (by decide +kernel) (pa_cons (pv 0) pa_nil)) pa_nil)) (pg_name (i := 4) sc_first_tails.nd rfl (.inl rfl)) (pss_one (ps_if (PW.pt (pw_and (pt_cmpR op_ne (pv 4) (pv 2) (nomark _)) (pw_and1 (pt_val (pe_c C_stands hr (by decide) (by rfl) (pa_cons (pv 3) (pa_cons (pe_ix (ix_listK (K := K) rfl) (pv 0) (pv 4) (fun _ _ => rfl)) (pa_cons pe_int pa_nil)))))))) (pss_one (ps_expr (pe_bm PySem.F.plainAttrs_list PySem.F.slot_list_append PySem.F.type_list_append mt_append (pv 1) (pa_cons (pe_tup (pa_cons (pe_slice sl_str (pe_ix (ix_listK (K := K) rfl) (pv 0) (pv 4) (fun _ _ => rfl)) (po_some (pe_callB call_len_str (by rfl) T.len (by decide +kernel) (pa_cons (pv 3) pa_nil))) po_none) (pa_cons (pe_lst (pa_cons (pv 2) pa_nil)) (pa_cons (pe_lst (pa_cons (pv 4) pa_nil)) pa_nil)))) pa_nil)))) pss_nil)))))
      (pss_one (ps_ret (pv 1))))), ?_⟩
    have hb : ∀ a, a ∈ ws → a.length ≤ 1000 := fun a ha => (hc.ok a ha).2.2
    have hne : ∀ a ∈ ws, a ≠ [] := fun a ha => (hc.ok a ha).1
    refine q_asgL el_lst0 fun fq H1 nf e1 hf => ?_
    refine q_forEnum (a := p) (xs := ws.map tx) (ev_var rfl) (ex_l e1 hc.sq) (fun i σ' H' => ∃ xs its s2 s3 s4, Ex H H' ∧ H' fq = some (.lst xs) ∧ ItsAt H' (fun a => a ≠ fq) xs its ∧ (∀ it ∈ its, ItOk ws it ∧ it.2.1.length + it.2.2.length ≤ 2) ∧ its.length ≤ i * ws.length ∧
        (∀ i' j, i' < i → i' < ws.length → j < ws.length → i' ≠ j → pre (wat ws i') (wat ws j) = true → ∃ it ∈ its, it.1 = (wat ws j).drop (wat ws i').length) ∧ σ' = [some (.ref p), some (.ref fq), s2, s3, s4])
      (fun H2 e2 => ⟨[], [], _, _, _, e1.trans e2, e2 fq _ hf, its_nil, by simp, by simp, fun i' j h => by omega, rfl⟩) (fun i σ' H' hP => by obtain ⟨_, _, _, _, _, e, _⟩ := hP; exact ex_l e hc.sq)
      (fun i σ' H' H'' hP e => by obtain ⟨xs, its, s2, s3, s4, h1, h2, h3, h4, h5, h6, h7⟩ := hP; exact ⟨xs, its, s2, s3, s4, h1.trans e, e fq _ h2, h3.map fun _ _ h => h.ex e, h4, h5, h6, h7⟩) (fun i x σ' H' hi hP => ?_) (fun σ' H' hP => ?_)
    · obtain ⟨xs, its, s2, s3, s4, ex, hfq, hits, hok, hlen, hall, rfl⟩ := hP
      have hil : i < ws.length := by
        have := (List.getElem?_eq_some_iff.mp hi).1
        rwa [List.length_map] at this
      have hx : x = tx (wat ws i) := by
        rw [wat_get hil] at hi
        exact (Option.some.inj hi).symm
      subst hx
      have hwm : wat ws i ∈ ws := List.mem_of_getElem? (M3.wat_getElem hil)
      have hwl := hb _ hwm
      have e9 : (((ws.map tx).length : Nat) : Int) = (ws.length : Int) := by rw [List.length_map]
      refine s_forR1 (n := (ws.length : Int)) (ea_cons (by rw [← e9]; exact ev_len' (ev_var rfl) (hc.ex ex).sq) ea_nil) ⟨by omega, by omega⟩ (fun j σ' H2 => ∃ xs its s4, Ex H H2 ∧ H2 fq = some (.lst xs) ∧ ItsAt H2 (fun a => a ≠ fq) xs its ∧ (∀ it ∈ its, ItOk ws it ∧ it.2.1.length + it.2.2.length ≤ 2) ∧ its.length ≤ i * ws.length + j ∧
          (∀ i' j, i' < i → i' < ws.length → j < ws.length → i' ≠ j → pre (wat ws i') (wat ws j) = true → ∃ it ∈ its, it.1 = (wat ws j).drop (wat ws i').length) ∧
          (∀ j', j' < j → j' < ws.length → i ≠ j' → pre (wat ws i) (wat ws j') = true → ∃ it ∈ its, it.1 = (wat ws j').drop (wat ws i).length) ∧ σ' = [some (.ref p), some (.ref fq), some (nI i), some (tx (wat ws i)), s4])
        (fun H2 e2 => ⟨xs, its, _, ex.trans e2, e2 fq _ hfq, hits.map fun _ _ h => h.ex e2, hok, by omega, hall, fun j' h => by omega, rfl⟩) (fun j σ2 H2 hj hP => ?_) (fun σ2 H2 hP => ?_)
      · obtain ⟨xs, its, s4, ex2, hfq2, hits2, hok2, hlen2, hall2, hin2, rfl⟩ := hP
        have hjl : j < ws.length := by omega
        have hvm : wat ws j ∈ ws := List.mem_of_getElem? (M3.wat_getElem hjl)
        have hvl := hb _ hvm
        have hxl := hits2.1
        have hsq : i * ws.length + j < 4000 := by
          have : i * ws.length ≤ 62 * 63 := Nat.mul_le_mul (by omega) hw
          omega
        have gj : ∀ (σ : L2.St) (H3 : Hp), Ex H2 H3 → σ[0]? = some (some (.ref p)) → σ[4]? = some (some (nI j)) → Ev (tOp (rIxL K) (tVar 0) (tVar 4)) σ H3 (tx (wat ws j)) := fun σ H3 e3 h0 h4 =>
          ev_op (ev_var h0) (ev_var h4) (rv_ixL ((hc.ex ex2).ex e3).sq (atI_nat (wat_get hjl)))
        refine s_when (b := !decide (j = i) && standsB (wat ws i) (wat ws j) 0) (et_and (et_is (et_test (ev_op (x := nI j) (y := nI i) (ev_var rfl) (ev_var rfl) rv_neI)) (by congr 1; by_cases h : j = i <;> simp [h]; omega)) fun _ => et_test (ev_call (vs := [tx (wat ws i), tx (wat ws j), .int ((0 : Nat) : Int)]) (ea_cons (ev_var rfl) (ea_cons (gj _ _ (Ex.refl _) rfl rfl) (ea_cons ev_c ea_nil))) (sv_stands (by omega) (by omega)))) (fun hs H3 e3 => ?_) (fun hs H3 e3 => ?_)
        · rw [Bool.and_eq_true] at hs
          have hji : j ≠ i := by simpa using hs.1
          have hp : pre (wat ws i) (wat ws j) = true := by have := hs.2; unfold standsB at this; rwa [List.drop_zero] at this
          refine s_app3 (l0 := fq) (xs := xs) (x := tx ((wat ws j).drop (wat ws i).length)) (ys := [nI i]) (zs := [nI j]) (e3 fq _ hfq2) (ev_var rfl) (ev_is (ev_slS (lo := some ((wat ws i).length : Int)) (gj _ _ e3 rfl rfl) (eo_some (ev_lenS (ev_var rfl) (by omega))) eo_none (by omega)) (congrArg tx (cut_from _ _)))
            (er_new (el_lst (ea_cons (ev_var rfl) ea_nil) (by simp))) (er_new (el_lst (ea_cons (ev_var rfl) ea_nil) (by simp))) (by omega) fun T s l H4 nT e4 hT hs4 hl4 hA hB => ?_
          obtain ⟨Ha, ea, na⟩ := hA
          obtain ⟨Hb, eb, nb⟩ := hB
          have ns : H3 s = none := fresh_back ea na
          have nl : H3 l = none := fresh_back eb nb
          have hsq : s ≠ fq := fun z => by rw [z, e3 fq _ hfq2] at ns; cases ns
          have hlq : l ≠ fq := fun z => by rw [z, e3 fq _ hfq2] at nl; cases nl
          have hfq4 := (e3.trans e4) fq _ hfq2
          have hnt : ∀ us, H4 fq ≠ some (.tup us) := fun us z => by rw [hfq4] at z; cases z
          refine ⟨xs ++ [.ref T], its ++ [((wat ws j).drop (wat ws i).length, [i], [j])], _, Ex.mut ((ex2.trans e3).trans e4) nf, upd_same, ?_, fun it hit => ?_, by rw [List.length_append, List.length_singleton]; omega, fun i' j' h1 h2 h3 h4 h5 => ?_, fun j' h1 h2 h3 h4 => ?_, rfl⟩
          · refine ((hits2.map fun _ _ h => h.ex (e3.trans e4)).map fun _ _ h => h.upd hnt (fun _ h => h)).snoc ?_
            exact ItAt.upd ⟨T, s, l, rfl, hT, hs4, hl4, hsq, hlq⟩ hnt (fun _ h => h)
          · rcases List.mem_append.mp hit with h | h
            · exact hok2 it h
            · rw [List.mem_singleton.mp h]
              exact ⟨itok_first hne hil hjl hji hp, Nat.le_refl _⟩
          · obtain ⟨it, h6, h7⟩ := hall2 i' j' h1 h2 h3 h4 h5
            exact ⟨it, List.mem_append_left _ h6, h7⟩
          · rcases Nat.lt_or_ge j' j with hlt | hge
            · obtain ⟨it, h6, h7⟩ := hin2 j' hlt h2 h3 h4
              exact ⟨it, List.mem_append_left _ h6, h7⟩
            · have : j' = j := by omega
              subst this
              exact ⟨_, List.mem_append_right _ (List.mem_singleton.mpr rfl), rfl⟩
        · refine ⟨xs, its, _, ex2.trans e3, e3 fq _ hfq2, hits2.map fun _ _ h => h.ex e3, hok2, by omega, hall2, fun j' h1 h2 h3 h4 => ?_, rfl⟩
          rcases Nat.lt_or_ge j' j with hlt | hge
          · exact hin2 j' hlt h2 h3 h4
          · have : j' = j := by omega
            subst this
            exfalso
            have h5 : standsB (wat ws i) (wat ws j') 0 = true := by unfold standsB; rw [List.drop_zero]; exact h4
            rw [h5, decide_eq_false (Ne.symm h3)] at hs
            cases hs
      · obtain ⟨xs, its, s4, ex2, hfq2, hits2, hok2, hlen2, hall2, hin2, rfl⟩ := hP
        have e0 : (ws.length : Int).toNat = ws.length := by omega
        rw [e0] at hlen2 hin2
        refine ⟨xs, its, _, _, _, ex2, hfq2, hits2, hok2, by rw [Nat.succ_mul]; exact hlen2, fun i' j h1 h2 h3 h4 h5 => ?_, rfl⟩
        rcases Nat.lt_or_ge i' i with hlt | hge
        · exact hall2 i' j hlt h2 h3 h4 h5
        · have : i' = i := by omega
          subst this
          exact hin2 j h3 h3 h4 h5
    · obtain ⟨xs, its, s2, s3, s4, ex, hfq, hits, hok, hlen, hall, rfl⟩ := hP
      rw [List.length_map] at hlen hall
      refine s_ret (ev_var rfl) fun H2 e2 => ?_
      exact k fq H2 xs its nf (ex.trans e2) (e2 fq _ hfq) (hits.map fun _ _ h => h.ex e2) ⟨hok, fun i j h1 h2 h3 h4 => hall i j h1 h1 h2 h3 h4, hlen⟩
/-! ### next_tails -/
structure NextOk (ws : List Wd) (it : Item) (its : List Item) : Prop where
  ok : ∀ jt ∈ its, ItOk ws jt ∧ jt.2.1.length + jt.2.2.length ≤ it.2.1.length + it.2.2.length + 1
  fwd : ∀ i, i < ws.length → pre it.1 (wat ws i) = true → ∃ jt ∈ its, jt.1 = (wat ws i).drop it.1.length
  bwd : ∀ i, i < ws.length → pre (wat ws i) it.1 = true → ∃ jt ∈ its, jt.1 = it.1.drop (wat ws i).length
  len : its.length ≤ ws.length
theorem pre_both {a b : Wd} (h1 : pre a b = true) (h2 : pre b a = true) : b.drop a.length = a.drop b.length := by
  have l1 := M3.pre_len h1
  have l2 := M3.pre_len h2
  rw [List.drop_eq_nil_of_le (by omega), List.drop_eq_nil_of_le (by omega)]
def spNext (K : PySem.W.Frag) : Sp := fun vs H Q _ => ∃ (p T0 s0 l0 : Addr) (ws : List Wd) (it : Item), vs = [.ref p, .ref T0] ∧ CodeAt K H p ws ∧ H T0 = some (.tup [tx it.1, .ref s0, .ref l0]) ∧ H s0 = some (.lst (it.2.1.map nI)) ∧ H l0 = some (.lst (it.2.2.map nI)) ∧
  ItOk ws it ∧ it.1 ≠ [] ∧ it.1.length ≤ 1000 ∧ it.2.1.length ≤ 1000 ∧
  ∀ (l : Addr) (H' : Hp) (xs : List V) (its : List Item), H l = none → Ex H H' → H' l = some (.lst xs) → ItsAt H' (fun a => a ≠ l ∧ (a = s0 ∨ a = l0 ∨ H a = none)) xs its → NextOk ws it its → Q (.ref l) H'
theorem ok_next_tails (D : DefAt K mg "next_tails" s_next_tails ["code", "told"]) (T : Blt mg) (C_stands : Cal P w K mg base 1 "stands" spStands) : Cal P w K mg base 2 "next_tails" (spNext K) := by
  refine cal_of D sc_next_tails (fun vs H Q E h => ?_) (fun f cdv A outer s H vs Q E hr h => ?_)
  · obtain ⟨p, T0, s0, l0, ws, it, rfl, _⟩ := h; rfl
  · obtain ⟨p, T0, s0, l0, ws, ⟨t, sh, lo⟩, rfl, hc, hT0, hs0, hl0, hok0, htn, htl, hshl, k⟩ := h
    dsimp only at hT0 hs0 hl0 htn htl hshl
    refine ⟨_, (pss_cons (ps_asg (pv 1) (pg_tupK (K := K) (n := 3) rfl rfl (pgs_cons (pg_name (i := 2) sc_next_tails.nd rfl (.inl rfl)) (pgs_cons (pg_name (i := 3) sc_next_tails.nd rfl (.inl rfl)) (pgs_cons (pg_name (i := 4) sc_next_tails.nd rfl (.inl rfl)) pgs_nil)))))
      (pss_cons (ps_set (i := 5) sc_next_tails.nd rfl (.inl rfl) (pe_lst pa_nil))
      (pss_cons (ps_for PassesOwn.never rfl (pi_enumK (K := K) rfl (by rfl) T.enumerate (pa_cons (pv 0) pa_nil)) (pg_tupK (K := K) (n := 2) rfl rfl (pgs_cons (pg_name (i := 6) sc_next_tails.nd rfl (.inl rfl)) (pgs_cons (pg_name (i := 7) sc_next_tails.nd rfl (.inl rfl)) pgs_nil))) (pss_one (ps_if (pt_val (pe_c C_stands hr (by decide) (by rfl) (pa_cons (pv 2) (pa_cons (pv 7) (pa_cons pe_int pa_nil))))) (pss_one (ps_expr (pe_bm PySem.F.plainAttrs_list PySem.F.slot_list_append PySem.F.type_list_append mt_append (pv 5) (pa_cons (pe_tup (pa_cons (pe_slice sl_str (pv 7) (po_some (pe_callB call_len_str (by rfl) T.len (by decide +kernel) (pa_cons (pv 2) pa_nil))) po_none) (pa_cons (pv 4) (pa_cons (pe_op op_cat (pv 3) (pe_lst (pa_cons (pv 6) pa_nil))) pa_nil)))) pa_nil)))) (pss_one (ps_if (pt_val (pe_c C_stands hr (by decide) (by rfl) (pa_cons (pv 7) (pa_cons (pv 2) (pa_cons pe_int pa_nil))))) (pss_one (ps_expr (pe_bm PySem.F.plainAttrs_list PySem.F.slot_list_append PySem.F.type_list_append mt_append (pv 5) (pa_cons (pe_tup (pa_cons (pe_slice sl_str (pv 2) (po_some (pe_callB call_len_str (by rfl) T.len (by decide +kernel) (pa_cons (pv 7) pa_nil))) po_none) (pa_cons (pe_op op_cat (pv 3) (pe_lst (pa_cons (pv 6) pa_nil))) (pa_cons (pv 4) pa_nil)))) pa_nil)))) pss_nil)))))
      (pss_one (ps_ret (pv 5)))))), ?_⟩
    have hb : ∀ a, a ∈ ws → a.length ≤ 1000 := fun a ha => (hc.ok a ha).2.2
    have hne : ∀ a ∈ ws, a ≠ [] := fun a ha => (hc.ok a ha).1
    refine q_tup3 (T := T0) (ev_var rfl) hT0 fun H1 e1 => ?_
    refine q_asgL el_lst0 fun fq H2 nf1 e2 hf => ?_
    have nf : H fq = none := fresh_back e1 nf1
    have ex2 := e1.trans e2
    refine q_forEnum (a := p) (xs := ws.map tx) (ev_var rfl) (ex_l ex2 hc.sq) (fun i σ' H' => ∃ xs its s6 s7, Ex H H' ∧ H' fq = some (.lst xs) ∧ ItsAt H' (fun a => a ≠ fq ∧ (a = s0 ∨ a = l0 ∨ H a = none)) xs its ∧ (∀ jt ∈ its, ItOk ws jt ∧ jt.2.1.length + jt.2.2.length ≤ sh.length + lo.length + 1) ∧ its.length ≤ i ∧
        (∀ j, j < i → j < ws.length → pre t (wat ws j) = true → ∃ jt ∈ its, jt.1 = (wat ws j).drop t.length) ∧ (∀ j, j < i → j < ws.length → pre (wat ws j) t = true → ∃ jt ∈ its, jt.1 = t.drop (wat ws j).length) ∧
        σ' = [some (.ref p), some (.ref T0), some (tx t), some (.ref s0), some (.ref l0), some (.ref fq), s6, s7])
      (fun H3 e3 => ⟨[], [], _, _, ex2.trans e3, e3 fq _ hf, its_nil, by simp, by simp, fun j h => by omega, fun j h => by omega, rfl⟩) (fun i σ' H' hP => by obtain ⟨_, _, _, _, e, _⟩ := hP; exact ex_l e hc.sq)
      (fun i σ' H' H'' hP e => by obtain ⟨xs, its, s6, s7, h1, h2, h3, h4, h5, h6, h7, h8⟩ := hP; exact ⟨xs, its, s6, s7, h1.trans e, e fq _ h2, h3.map fun _ _ h => h.ex e, h4, h5, h6, h7, h8⟩) (fun i x σ' H' hi hP => ?_) (fun σ' H' hP => ?_)
    · obtain ⟨xs, its, s6, s7, ex, hfq, hits, hok, hlen, hfw, hbw, rfl⟩ := hP
      have hil : i < ws.length := by
        have := (List.getElem?_eq_some_iff.mp hi).1
        rwa [List.length_map] at this
      have hx : x = tx (wat ws i) := by
        rw [wat_get hil] at hi
        exact (Option.some.inj hi).symm
      subst hx
      have hwm : wat ws i ∈ ws := List.mem_of_getElem? (M3.wat_getElem hil)
      have hwl := hb _ hwm
      have hws := hc.len
      have hxl := hits.1
      have hsf : s0 ≠ fq := fun z => by rw [← z, hs0] at nf; cases nf
      have hlf : l0 ≠ fq := fun z => by rw [← z, hl0] at nf; cases nf
      have ecat : (sh ++ [i]).map nI = sh.map nI ++ [nI i] := by rw [List.map_append]; rfl
      -- one item more
      have more : ∀ (H3 H4 : Hp) (T s l : Addr) (jt : Item), Ex H' H3 → Ex H3 H4 → H4 T = some (.tup [tx jt.1, .ref s, .ref l]) → H4 s = some (.lst (jt.2.1.map nI)) → H4 l = some (.lst (jt.2.2.map nI)) → (s = s0 ∨ s = l0 ∨ H3 s = none) → (l = s0 ∨ l = l0 ∨ H3 l = none) →
          ItsAt (upd H4 fq (.lst (xs ++ [.ref T]))) (fun a => a ≠ fq ∧ (a = s0 ∨ a = l0 ∨ H a = none)) (xs ++ [.ref T]) (its ++ [jt]) := fun H3 H4 T s l jt e3 e4 hT hs hl hA hB => by
        have hfq4 := (e3.trans e4) fq _ hfq
        have hnt : ∀ us, H4 fq ≠ some (.tup us) := fun us z => by rw [hfq4] at z; cases z
        have conv : ∀ a, (a = s0 ∨ a = l0 ∨ H3 a = none) → a ≠ fq ∧ (a = s0 ∨ a = l0 ∨ H a = none) := fun a ha => by
          rcases ha with rfl | rfl | ha
          · exact ⟨hsf, .inl rfl⟩
          · exact ⟨hlf, .inr (.inl rfl)⟩
          · exact ⟨fun z => (by rw [z, e3 fq _ hfq] at ha; cases ha), .inr (.inr (fresh_back (ex.trans e3) ha))⟩
        exact ((hits.map fun _ _ h => h.ex (e3.trans e4)).map fun _ _ h => h.upd hnt (fun _ h => h.1)).snoc (ItAt.upd ⟨T, s, l, rfl, hT, hs, hl, conv s hA, conv l hB⟩ hnt (fun _ h => h.1))
      refine s_if (b := standsB t (wat ws i) 0) (et_test (ev_call (vs := [tx t, tx (wat ws i), .int ((0 : Nat) : Int)]) (ea_cons (ev_var rfl) (ea_cons (ev_var rfl) (ea_cons ev_c ea_nil))) (sv_stands (by omega) (by omega)))) (fun hs H3 e3 => ?_) (fun hs H3 e3 => ?_)
      · have hp : pre t (wat ws i) = true := by unfold standsB at hs; rwa [List.drop_zero] at hs
        refine s_app3 (l0 := fq) (xs := xs) (x := tx ((wat ws i).drop t.length)) (ys := lo.map nI) (zs := sh.map nI ++ [nI i]) (e3 fq _ hfq) (ev_var rfl) (ev_is (ev_slS (lo := some (t.length : Int)) (ev_var rfl) (eo_some (ev_lenS (ev_var rfl) (by omega))) eo_none (by omega)) (congrArg tx (cut_from _ _)))
          (er_old (ev_var rfl) ((ex.trans e3) l0 _ hl0)) (er_new (el_cat (ev_var rfl) ((ex.trans e3) s0 _ hs0) (el_lst (ea_cons (ev_var rfl) ea_nil) (by simp)) (by rw [List.length_map]; simp; omega))) (by omega) fun T s l H4 nT e4 hT hs4 hl4 hA hB => ?_
        obtain ⟨Ha, ea, na⟩ := hA
        obtain ⟨Hb, eb, nb⟩ := hB
        have nl : H3 l = none := fresh_back eb nb
        refine ⟨xs ++ [.ref T], its ++ [((wat ws i).drop t.length, lo, sh ++ [i])], _, _, Ex.mut ((ex.trans e3).trans e4) nf, upd_same, more H3 H4 T s l ((wat ws i).drop t.length, lo, sh ++ [i]) e3 e4 hT hs4 (by rw [ecat]; exact hl4) (.inr (.inl na)) (.inr (.inr nl)), fun jt hjt => ?_, by rw [List.length_append, List.length_singleton]; omega, fun j h1 h2 h3 => ?_, fun j h1 h2 h3 => ?_, rfl⟩
        · rcases List.mem_append.mp hjt with h | h
          · exact hok jt h
          · rw [List.mem_singleton.mp h]
            refine ⟨itok_fwd hok0 htn hil hp, ?_⟩
            show lo.length + (sh ++ [i]).length ≤ _
            rw [List.length_append, List.length_singleton]; omega
        · rcases Nat.lt_or_ge j i with hlt | hge
          · obtain ⟨jt, h4, h5⟩ := hfw j hlt h2 h3
            exact ⟨jt, List.mem_append_left _ h4, h5⟩
          · have : j = i := by omega
            subst this
            exact ⟨_, List.mem_append_right _ (List.mem_singleton.mpr rfl), rfl⟩
        · rcases Nat.lt_or_ge j i with hlt | hge
          · obtain ⟨jt, h4, h5⟩ := hbw j hlt h2 h3
            exact ⟨jt, List.mem_append_left _ h4, h5⟩
          · have : j = i := by omega
            subst this
            exact ⟨_, List.mem_append_right _ (List.mem_singleton.mpr rfl), pre_both hp h3⟩
      · have hnp : ¬ pre t (wat ws i) = true := by unfold standsB at hs; rw [List.drop_zero] at hs; rw [hs]; decide
        refine s_if (b := standsB (wat ws i) t 0) (et_test (ev_call (vs := [tx (wat ws i), tx t, .int ((0 : Nat) : Int)]) (ea_cons (ev_var rfl) (ea_cons (ev_var rfl) (ea_cons ev_c ea_nil))) (sv_stands (by omega) (by omega)))) (fun hs2 H5 e5 => ?_) (fun hs2 H5 e5 => ?_)
        · have hp : pre (wat ws i) t = true := by unfold standsB at hs2; rwa [List.drop_zero] at hs2
          have e35 := e3.trans e5
          refine s_app3 (l0 := fq) (xs := xs) (x := tx (t.drop (wat ws i).length)) (ys := sh.map nI ++ [nI i]) (zs := lo.map nI) (e35 fq _ hfq) (ev_var rfl) (ev_is (ev_slS (lo := some ((wat ws i).length : Int)) (ev_var rfl) (eo_some (ev_lenS (ev_var rfl) (by omega))) eo_none (by omega)) (congrArg tx (cut_from _ _)))
            (er_new (el_cat (ev_var rfl) ((ex.trans e35) s0 _ hs0) (el_lst (ea_cons (ev_var rfl) ea_nil) (by simp)) (by rw [List.length_map]; simp; omega))) (er_old (ev_var rfl) ((ex.trans e35) l0 _ hl0)) (by omega) fun T s l H4 nT e4 hT hs4 hl4 hA hB => ?_
          obtain ⟨Ha, ea, na⟩ := hA
          obtain ⟨Hb, eb, nb⟩ := hB
          have ns : H5 s = none := fresh_back ea na
          refine ⟨xs ++ [.ref T], its ++ [(t.drop (wat ws i).length, sh ++ [i], lo)], _, _, Ex.mut ((ex.trans e35).trans e4) nf, upd_same, more H5 H4 T s l (t.drop (wat ws i).length, sh ++ [i], lo) e35 e4 hT (by rw [ecat]; exact hs4) hl4 (.inr (.inr ns)) (.inr (.inl nb)), fun jt hjt => ?_, by rw [List.length_append, List.length_singleton]; omega, fun j h1 h2 h3 => ?_, fun j h1 h2 h3 => ?_, rfl⟩
          · rcases List.mem_append.mp hjt with h | h
            · exact hok jt h
            · rw [List.mem_singleton.mp h]
              refine ⟨itok_bwd hok0 hil hp, ?_⟩
              show (sh ++ [i]).length + lo.length ≤ _
              rw [List.length_append, List.length_singleton]; omega
          · rcases Nat.lt_or_ge j i with hlt | hge
            · obtain ⟨jt, h4, h5⟩ := hfw j hlt h2 h3
              exact ⟨jt, List.mem_append_left _ h4, h5⟩
            · have : j = i := by omega
              subst this
              exact absurd h3 hnp
          · rcases Nat.lt_or_ge j i with hlt | hge
            · obtain ⟨jt, h4, h5⟩ := hbw j hlt h2 h3
              exact ⟨jt, List.mem_append_left _ h4, h5⟩
            · have : j = i := by omega
              subst this
              exact ⟨_, List.mem_append_right _ (List.mem_singleton.mpr rfl), rfl⟩
        · have hnp2 : ¬ pre (wat ws i) t = true := by unfold standsB at hs2; rw [List.drop_zero] at hs2; rw [hs2]; decide
          have e35 := e3.trans e5
          refine ⟨xs, its, _, _, ex.trans e35, e35 fq _ hfq, hits.map fun _ _ h => h.ex e35, hok, by omega, fun j h1 h2 h3 => ?_, fun j h1 h2 h3 => ?_, rfl⟩
          · rcases Nat.lt_or_ge j i with hlt | hge
            · exact hfw j hlt h2 h3
            · have : j = i := by omega
              subst this
              exact absurd h3 hnp
          · rcases Nat.lt_or_ge j i with hlt | hge
            · exact hbw j hlt h2 h3
            · have : j = i := by omega
              subst this
              exact absurd h3 hnp2
    · obtain ⟨xs, its, s6, s7, ex, hfq, hits, hok, hlen, hfw, hbw, rfl⟩ := hP
      rw [List.length_map] at hlen hfw hbw
      refine s_ret (ev_var rfl) fun H2 e2 => ?_
      exact k fq H2 xs its nf (ex.trans e2) (e2 fq _ hfq) (hits.map fun _ _ h => h.ex e2) ⟨hok, fun i h1 h2 => hfw i h1 h1 h2, fun i h1 h2 => hbw i h1 h1 h2, hlen⟩
end
end Tr

set_option Elab.async false
set_option linter.all false
set_option maxRecDepth 100000
set_option maxHeartbeats 4000000
namespace Tr
open PySem PySem.Spec PyProof.Rows L2 Evl
open M3 (wat joinW pre)
local macro_rules | `(tactic| walk_at "sd") => `(tactic| first | assumption | rfl | omega | decide | (solve_by_elim) | (refine Nat.le_trans (m := 1000) (by solve_by_elim) (by decide)))
local macro_rules | `(tactic| walk_at "rv") => `(tactic| first
  | exact rv_add | exact rv_sub | exact rv_lt | exact rv_le | exact rv_gt | exact rv_ge | exact rv_eqI | exact rv_eqS | exact rv_eqB | exact rv_neI | exact rv_neS | exact rv_neB
  | exact rv_mod (by walk_at "sd") | exact rv_fdiv (by first | assumption | exact ⟨by omega, by omega⟩) | exact rv_addS (by walk_at "sd") | exact rv_isB | exact rv_notB | assumption)
local macro_rules | `(tactic| walk_at "ea") => `(tactic| first
  | exact ea_nil
  | (refine' ea_cons ?k1 ?k2; (case k1 => walk_at "ev"); (case k2 => walk_at "ea")))
local macro_rules | `(tactic| walk_at "eo") => `(tactic| first
  | exact eo_none
  | (refine' eo_some ?k1; (case k1 => walk_at "ev")))
local macro_rules | `(tactic| walk_at "et") => `(tactic| first
  | (refine' et_test ?k1; (case k1 => walk_at "ev"))
  | (refine' et_B ?k1; (case k1 => walk_at "ev"))
  | (refine' et_and ?k1 ?k2; (case k1 => walk_at "et"); (case k2 => (intro _; walk_at "et")))
  | (refine' et_or ?k1 ?k2; (case k1 => walk_at "et"); (case k2 => (intro _; walk_at "et")))
  | (refine' et_not ?k1; (case k1 => walk_at "et"))
  | assumption)
local macro_rules | `(tactic| walk_at "ev") => `(tactic| first
  | assumption
  | exact ev_cS
  | exact ev_c
  | exact ev_var rfl
  | (refine' ev_op ?k1 ?k2 ?k3; (case k1 => walk_at "ev"); (case k2 => walk_at "ev"); (case k3 => walk_at "rv"))
  | (refine' ev_un ?k1 ru_neg; (case k1 => walk_at "ev"))
  | (refine' ev_chain ?k1 ?k2 ?k3 ?k4 ?k5; (case k1 => walk_at "ev"); (case k2 => walk_at "ev"); (case k3 => walk_at "ev"); (case k4 => walk_at "rv"); (case k5 => (intro _; walk_at "rv")))
  | (refine' ev_slS ?k1 ?k2 ?k3 ?k4; (case k1 => walk_at "ev"); (case k2 => walk_at "eo"); (case k3 => walk_at "eo"); (case k4 => walk_at "sd"))
  | (refine' ev_lenS ?k1 ?k2; (case k1 => walk_at "ev"); (case k2 => walk_at "sd"))
  | (refine' ev_len' ?k1 ?k2; (case k1 => walk_at "ev"); (case k2 => walk_at "sd"))
  | (refine' ev_strip ?k1 ?k2 ?k3; (case k1 => walk_at "ev"); (case k2 => walk_at "ev"); (case k3 => walk_at "sd"))
  | (refine' ev_sum ?k1 ?k2; (case k1 => walk_at "ev"); (case k2 => walk_at "sd"))
  | (refine' ev_isi ?k1 ?k2 ?k3 ?k4; (case k1 => walk_at "ev"); (case k2 => walk_at "ev"); (case k3 => first | exact ty_int | exact ty_bl | exact ty_str | exact ty_list (by walk_at "sd")); (case k4 => first | exact kit_ty (r := true) (by decide +kernel) | exact kit_ty (r := false) (by decide +kernel)))
  | (refine' ev_andV ?k1 ?k2; (case k1 => walk_at "ev"); (case k2 => (intro _; walk_at "ev")))
  | (refine' ev_orV ?k1 ?k2; (case k1 => walk_at "ev"); (case k2 => (intro _; walk_at "ev")))
  | (refine' ev_notV ?k1; (case k1 => walk_at "ev"))
  | (refine' ev_call ?k1 ?k2; (case k1 => walk_at "ea"); (case k2 => walk_at "sv")))
local macro_rules | `(tactic| walk_at "el") => `(tactic| first
  | assumption
  | (refine' el_mapB ?k1 ?k2 ?k3 (fun _ => rfl) ?k5; (case k1 => walk_at "ev"); (case k2 => walk_at "sd"); (case k3 => walk_at "sd"); (case k5 => (intro _ _; walk_at "ev")))
  | (refine' el_mapI ?k1 ?k2 ?k3 (fun _ => rfl) ?k5; (case k1 => walk_at "ev"); (case k2 => walk_at "sd"); (case k3 => walk_at "sd"); (case k5 => (intro _ _; walk_at "ev")))
  | (refine' el_mapS ?k1 ?k2 ?k3 (fun _ => rfl) ?k5; (case k1 => walk_at "ev"); (case k2 => walk_at "sd"); (case k3 => walk_at "sd"); (case k5 => (intro _ _; walk_at "ev"))))
local macro_rules | `(tactic| walk_at "ev") => `(tactic| first
  | (refine' ev_all ?k1; (case k1 => walk_at "el"))
  | (refine' ev_any ?k1; (case k1 => walk_at "el"))
  | (refine' ev_sumN ?k1; (case k1 => walk_at "el"))
  | (refine' ev_join ?k1 ?k2 ?k3; (case k1 => exact ev_is ev_cS (congrArg tx codes_nil)); (case k2 => walk_at "el"); (case k3 => walk_at "sd")))

local macro_rules | `(tactic| walk_at "sv") => `(tactic| first | exact sv_asked_code (by walk_at "sd"))
/-- few suffixes -/
def SufOk (ws : List Wd) : Prop := ∃ S : List Wd, S.length ≤ 63 ∧ ∀ a ∈ ws, ∀ k, 0 < k → a.drop k ≠ [] → a.drop k ∈ S
/-- what the search keeps -/
structure OnceI (ws S : List Wd) (its : List Item) (ts : List Wd) (at' : Nat) : Prop where
  ok : ∀ it ∈ its, ItOk ws it ∧ it.2.1.length + it.2.2.length ≤ 2 + ts.length
  first : ∀ i j, i < ws.length → j < ws.length → i ≠ j → pre (wat ws i) (wat ws j) = true → ∃ it ∈ its, it.1 = (wat ws j).drop (wat ws i).length
  nd : ts.Nodup
  sub : ∀ t ∈ ts, t ≠ [] ∧ t ∈ S ∧ t.length ≤ 1000
  done : ∀ q, q < at' → ∀ it, its[q]? = some it → it.1 ∈ ts
  fwd : ∀ t ∈ ts, ∀ i, i < ws.length → pre t (wat ws i) = true → ∃ it ∈ its, it.1 = (wat ws i).drop t.length
  bwd : ∀ t ∈ ts, ∀ i, i < ws.length → pre (wat ws i) t = true → ∃ it ∈ its, it.1 = t.drop (wat ws i).length
  len : its.length ≤ 3969 + 63 * ts.length
theorem OnceI.tl {ws S : List Wd} {its : List Item} {ts : List Wd} {n : Nat} (h : OnceI ws S its ts n) (hS : S.length ≤ 63) : ts.length ≤ 63 := Nat.le_trans (M1.len_sub ts S h.nd fun t ht => (h.sub t ht).2.1) hS
theorem OnceI.cl {ws S : List Wd} {its : List Item} {ts : List Wd} (h : OnceI ws S its ts its.length) : M1.Cl ws (· ∈ ts) := by
  have all : ∀ it ∈ its, it.1 ∈ ts := fun it hit => by
    obtain ⟨q, hq, he⟩ := List.getElem_of_mem hit
    exact h.done q hq it (by rw [List.getElem?_eq_getElem hq, he])
  refine ⟨fun h0 => (h.sub [] h0).1 rfl, fun i j h1 h2 h3 h4 => ?_, fun t ht i h1 h2 => ?_, fun t ht i h1 h2 => ?_⟩
  · obtain ⟨it, h5, h6⟩ := h.first i j h1 h2 h3 h4
    rw [← h6]; exact all it h5
  · obtain ⟨it, h5, h6⟩ := h.fwd t ht i h1 h2
    rw [← h6]; exact all it h5
  · obtain ⟨it, h5, h6⟩ := h.bwd t ht i h1 h2
    rw [← h6]; exact all it h5
theorem cl_imp {ws : List Wd} {T U : Wd → Prop} (h : M1.Cl ws T) (e : ∀ t, T t ↔ U t) : M1.Cl ws U :=
  ⟨fun h0 => h.ne ((e _).mpr h0), fun i j h1 h2 h3 h4 => (e _).mp (h.first i j h1 h2 h3 h4), fun t ht i h1 h2 => (e _).mp (h.fwd t ((e _).mpr ht) i h1 h2), fun t ht i h1 h2 => (e _).mp (h.bwd t ((e _).mpr ht) i h1 h2)⟩
theorem clash_of {ws : List Wd} {it : Item} (h : ItOk ws it) (h0 : it.1 = []) : clV ws (List.map (fun n : Nat => (n : Int)) it.2.1) (List.map (fun n : Nat => (n : Int)) it.2.2) = true := by
  unfold clV
  have back : ∀ ns : List Nat, (List.map (fun n : Nat => (n : Int)) ns).map Int.toNat = ns := fun ns => by
    rw [List.map_map]
    have : (Int.toNat ∘ fun n : Nat => (n : Int)) = id := by funext n; simp
    rw [this, List.map_id]
  have hj := h.join
  rw [h0, List.append_nil] at hj
  rw [inR_of h.r1, inR_of h.r2, back, back, hj]
  obtain ⟨x, xs, y, ys, e1, e2, hne⟩ := h.un
  have : ¬ (List.map (fun n : Nat => (n : Int)) it.2.1 = List.map (fun n : Nat => (n : Int)) it.2.2) := fun e => by
    rw [e1, e2] at e
    simp only [List.map_cons] at e
    have := (List.cons.inj e).1
    omega
  rw [decide_eq_false this]
  simp
section
variable {K : PySem.W.Frag} {σ : L2.St} {H H' : Hp} {ta tb te to t1 t2 : TE} {x : V} {D : Ends} {tz : TS}
theorem s_extX {l0 : Addr} {xs : List V} (hl : H l0 = some (.lst xs)) (ho : Ev to σ H (.ref l0)) (k : ∀ H1, Ex H H1 → te σ H1 fun v H2 => rExtend (.ref l0) [v] H2 fun _ H3 => D.nx σ H3) :
    tDrop (tBM K "list" rExtend to (tCons te tNil)) D σ H := ho H (Ex.refl H) _ fun H1 e1 => ⟨Or.inl ⟨rfl, xs, sq_of (e1 l0 _ hl)⟩, k H1 e1⟩
theorem call2U {sp : Sp} {E : XK} {Q : VK} {ys : List V} (h1 : Ev t1 σ H x) (h2 : EvU t2 σ H ys) (hs : ∀ T H1, H T = none → Ex H H1 → H1 T = some (.tup ys) → sp [x, .ref T] H1 Q E) : tCall sp [] E (tCons t1 (tCons t2 tNil)) σ H Q :=
  h1 H (Ex.refl H) _ fun H2 e2 => h2 H2 e2 _ fun T H3 nT e3 hT => hs T H3 (fresh_back e2 nT) (e2.trans e3) hT
theorem eqx_sortedD {d : Addr} {ts : List Wd} (h : Ev te σ H (.ref d)) (hd : H d = some (.dK (ts.map fun t => ((.inr (S t) : Key), V.bl true)))) (hn : ts.length ≤ 63) :
    EvQX K (tCB (fun xs H Q => ∃ (a : Addr) (kvs : List (Key × V)) (ks : List Str), xs = [.ref a] ∧ Rd H a (.dK kvs) ∧ kvs.map (·.1) = ks.map Sum.inr ∧ ks.length < 64 ∧ ∀ ys p, ys.Perm ks → sortedS ys = true → H p = none → Q (.ref p) (upd H p (.lst (ys.map V.str)))) (tCons te tNil)) σ H
      (fun vs => ∃ us : List Wd, vs = us.map tx ∧ us.Perm ts) := fun H1 e Q q =>
  h H1 e _ fun H2 e2 => ⟨d, _, ts.map S, rfl, .inl ((e.trans e2) d _ hd), by rw [List.map_map, List.map_map]; rfl, by rw [List.length_map]; omega, fun ys p hp _ np => by
    have hus : (ys.map codes).map tx = ys.map V.str := by
      rw [List.map_map]
      apply List.map_congr_left
      intro y _
      show V.str (S (codes y)) = V.str y
      rw [S_codes]
    refine q p _ _ ⟨ys.map codes, rfl, ?_⟩ (e2.trans (Ex.new np)) (sq_of (by rw [upd_same, hus]))
    have h1 := hp.map codes
    rw [List.map_map] at h1
    have h2 : (codes ∘ S) = id := by funext a; exact codes_S a
    rw [h2, List.map_id] at h1
    exact h1⟩
end
section
variable {P : Program} {w : World} {K : PySem.W.Frag} {mg : Str → Option Value} {base : Heap} {H : Hp}
abbrev tailOk (t : Wd) : Prop := t.length ≤ 1000 ∧ okC t
def spOnce (K : PySem.W.Frag) (aCl aTl : Addr) : Sp := fun vs H Q _ => ∃ (p : Addr) (ws : List Wd), vs = [.ref p] ∧ CodeAt K H p ws ∧ ws.length ≤ 63 ∧ SufOk ws ∧
  (∀ (o dx l m : Addr) (H' : Hp) (xs ys : List Int), H o = none → H l = none → H m = none → l ≠ o → m ≠ o → l ≠ m → Ex H H' → H' o = some (.ins aCl dx [("one", .ref l), ("other", .ref m)]) → H' l = some (.lst (xs.map V.int)) → H' m = some (.lst (ys.map V.int)) → clV ws xs ys = true → xs.length ≤ 200 → ys.length ≤ 200 → Q (.ref o) H') ∧
  (∀ (o dx l : Addr) (H' : Hp) (ts : List Wd), H o = none → H l = none → l ≠ o → Ex H H' → H' o = some (.ins aTl dx [("tails", .ref l)]) → H' l = some (.lst (ts.map tx)) → M1.Cl ws (· ∈ ts) → ts.length ≤ 63 → (∀ t ∈ ts, tailOk t) → Q (.ref o) H')
theorem ok_once {aCl aTl : Addr} (D : DefAt K mg "once" s_once ["code"]) (T : Blt mg) (C_asked_code : Cal P w K mg base 2 "asked_code" (spAskedCode K)) (C_first_tails : Cal P w K mg base 2 "first_tails" (spFirst K)) (C_next_tails : Cal P w K mg base 2 "next_tails" (spNext K))
    (K_Clash : MkAt P w K mg base 1 "Clash" aCl (spIni2 K aCl "one" "other")) (K_Tails : MkAt P w K mg base 1 "Tails" aTl (spIni1 K aTl "tails")) : Cal P w K mg base 3 "once" (spOnce K aCl aTl) := by
  refine cal_of D sc_once (fun vs H Q E h => ?_) (fun f cdv A outer s H vs Q E hr h => ?_)
  · obtain ⟨p, ws, rfl, _⟩ := h; rfl
  · obtain ⟨p, ws, rfl, hc, hw, ⟨S0, hS0, hsuf⟩, k1, k2⟩ := h
    refine ⟨_, (pss_cons (ps_expr (pe_c C_asked_code hr (by decide) (by rfl) (pa_cons (pv 0) pa_nil)))
      (pss_cons (ps_set (i := 1) sc_once.nd rfl (.inl rfl) (pe_c C_first_tails hr (by decide) (by rfl) (pa_cons (pv 0) pa_nil)))
      (pss_cons (ps_set (i := 2) sc_once.nd rfl (.inl rfl) pe_dnewK)
      (pss_cons (ps_set (i := 3) sc_once.nd rfl (.inl rfl) pe_int)
      (pss_cons (ps_while PassesOwn.never (pt_cmpR op_lt (pv 3) (pe_callB (call_len_seqK (K := K) rfl) (by rfl) T.len (by decide +kernel) (pa_cons (pv 1) pa_nil)) (nomark _)) (pss_cons (ps_asg (pe_ix (ix_listK (K := K) rfl) (pv 1) (pv 3) (fun _ _ => rfl)) (pg_tupK (K := K) (n := 3) rfl rfl (pgs_cons (pg_name (i := 4) sc_once.nd rfl (.inl rfl)) (pgs_cons (pg_name (i := 5) sc_once.nd rfl (.inl rfl)) (pgs_cons (pg_name (i := 6) sc_once.nd rfl (.inl rfl)) pgs_nil)))))
      (pss_cons (ps_set (i := 3) sc_once.nd rfl (.inl rfl) (pe_op op_add (pv 3) pe_int))
      (pss_cons (ps_if (pt_cmpR op_eq (pv 4) pe_str (nomark _)) (pss_one (ps_ret (pe_mk K_Clash hr (by decide) (by rfl) (pa_cons (pv 5) (pa_cons (pv 6) pa_nil))))) pss_nil)
      (pss_one (ps_if (pt_cmp (pc_dnotin (hu_of hr) (pv 4) (pv 2))) (pss_cons (ps_dput (hu_of hr) (pv 2) (pv 4) pe_bl rfl)
      (pss_one (ps_expr (pe_bm PySem.F.plainAttrs_list PySem.F.slot_list_extend PySem.F.type_list_extend mt_extend (pv 1) (pa_cons (pe_c C_next_tails hr (by decide) (by rfl) (pa_cons (pv 0) (pa_cons (pe_tup (pa_cons (pv 4) (pa_cons (pv 5) (pa_cons (pv 6) pa_nil)))) pa_nil))) pa_nil))))) pss_nil))))))
      (pss_one (ps_ret (pe_mk K_Tails hr (by decide) (by rfl) (pa_cons (pe_callB (call_sortedD rfl) (by rfl) T.sorted (by decide +kernel) (pa_cons (pv 2) pa_nil)) pa_nil))))))))), ?_⟩
    obtain ⟨S0, hS0, hsuf, hokS⟩ : ∃ S1 : List Wd, S1.length ≤ 63 ∧ (∀ a ∈ ws, ∀ k, 0 < k → a.drop k ≠ [] → a.drop k ∈ S1) ∧ ∀ t ∈ S1, okC t :=
      ⟨S0.filter fun t => decide (∀ c ∈ t, c < 0x110000), Nat.le_trans (List.length_filter_le _ _) hS0, fun a ha k hk hne => List.mem_filter.mpr ⟨hsuf a ha k hk hne, decide_eq_true fun c hc' => by have := ((hc.ok a ha).2.1 c (List.mem_of_mem_drop hc')).2; omega⟩, fun t ht => of_decide_eq_true (p := ∀ c ∈ t, c < 0x110000) (List.mem_filter.mp ht).2⟩
    refine q_drop (v := .non) (by walk_at "ev") fun H1 e1 => ?_
    have hc1 := hc.ex e1
    refine q_asgX (call_run (vs := [.ref p]) (by walk_at "ea") fun H2 e2 => ⟨p, ws, rfl, hc1.ex e2, hw, fun z H3 xs0 its0 nz e3 hz hits0 hF => ?_⟩)
    have ex3 := (e1.trans e2).trans e3
    have nz0 : H z = none := fresh_back (e1.trans e2) nz
    refine q_asgD0 fun d nd => ?_
    have ex4 : Ex H (upd H3 d (.dK [])) := ex3.trans (Ex.new nd)
    have nd0 : H d = none := fresh_back ex3 nd
    have hzd : z ≠ d := fun e => by rw [e, nd] at hz; cases hz
    refine q_asg (v := .int 0) ev_c fun H5 e5 => ?_
    have hwl : ∀ i, i < ws.length → (wat ws i).length ≤ 1000 := fun i hi => (hc.ok _ (List.mem_of_getElem? (M3.wat_getElem hi))).2.2
    refine q_while (fun m σ' H' => ∃ (at' : Nat) (xs : List V) (its : List Item) (ts : List Wd) (s4 s5 s6 : Option V), σ' = [some (.ref p), some (.ref z), some (.ref d), some (nI at'), s4, s5, s6] ∧ Ex H H' ∧ H' z = some (.lst xs) ∧ ItsAt H' (fun a => a ≠ z) xs its ∧ H' d = some (.dK (ts.map fun t => ((.inr (S t) : Key), V.bl true))) ∧
        at' ≤ its.length ∧ OnceI ws S0 its ts at' ∧ at' + m = its.length + 64 * (63 - ts.length)) (its0.length + 64 * 63)
      ⟨0, xs0, its0, [], _, _, _, rfl, ex4.trans e5, e5 z _ (by rw [upd_ne hzd]; exact hz), ((hits0.map fun _ _ h => h.ex (Ex.new nd)).map fun _ _ h => h.ex e5), e5 d _ upd_same, by omega, ⟨fun it hit => hF.ok it hit, hF.all, by simp, by simp, fun q hq => by omega, by simp, by simp, by
        have h1 := hF.len
        have h2 : ws.length * ws.length ≤ 63 * 63 := Nat.mul_le_mul hw hw
        simp; omega⟩, by simp⟩ fun m σ' H' hW => ?_
    obtain ⟨at', xs, its, ts, s4, s5, s6, rfl, ex, hzx, hits, hdk, hat, hI, hm⟩ := hW
    have htl := hI.tl hS0
    have hlen := hI.len
    have hxl := hits.1
    refine ⟨_, et_test (ev_op (ev_var rfl) (ev_len' (ev_var rfl) (sq_of hzx)) rv_lt), fun hlt H6 e6 => ?_, fun hge H6 e6 => ?_⟩
    · have hlt' : at' < its.length := by have := of_decide_eq_true hlt; omega
      have hia : its[at']? = some its[at'] := List.getElem?_eq_getElem hlt'
      have hxa : xs[at']? = some (xs[at']'(by omega)) := List.getElem?_eq_getElem (by omega)
      have hItm := hits.2 at' _ _ hxa hia
      have hmem := List.mem_of_getElem? hia
      generalize xs[at']'(by omega) = v0 at *
      generalize its[at'] = it at *
      obtain ⟨T0, sa, la, rfl, hT, hs, hl, hsz, hlz⟩ := hItm
      obtain ⟨hok, hlens⟩ := hI.ok it hmem
      refine ⟨fun σ2 H2 => ∃ m', m' < m ∧ ∃ (at' : Nat) (xs : List V) (its : List Item) (ts : List Wd) (s4 s5 s6 : Option V), σ2 = [some (.ref p), some (.ref z), some (.ref d), some (nI at'), s4, s5, s6] ∧ Ex H H2 ∧ H2 z = some (.lst xs) ∧ ItsAt H2 (fun a => a ≠ z) xs its ∧ H2 d = some (.dK (ts.map fun t => ((.inr (S t) : Key), V.bl true))) ∧
        at' ≤ its.length ∧ OnceI ws S0 its ts at' ∧ at' + m' = its.length + 64 * (63 - ts.length), fun σ2 H2 hN => hN, ?_⟩
      refine q_tup3 (T := T0) (ev_op (ev_var rfl) (ev_var rfl) (rv_ixL (sq_of (e6 z _ hzx)) (atI_nat hxa))) (e6 T0 _ hT) fun H7 e7 => ?_
      have e8 : (at' : Int) + 1 = ((at' + 1 : Nat) : Int) := by omega
      refine q_asg (v := nI (at' + 1)) (ev_is (ev_op (ev_var rfl) ev_c rv_add) (congrArg V.int e8)) fun H8 e8' => ?_
      have ex68 := (e6.trans e7).trans e8'
      refine q_when (b := decide (it.1 = codes "")) (et_test (ev_op (x := tx it.1) (ev_var rfl) ev_cS rv_eqS)) (fun h0 H9 e9 => ?_) (fun h0 H9 e9 => ?_)
      · have h0' : it.1 = [] := by rw [codes_nil] at h0; exact of_decide_eq_true h0
        have ex9 := ex68.trans e9
        refine s_retB2 (eb2_make (a := sa) (b := la) (xs := it.2.1.map nI) (ys := it.2.2.map nI) (ev_var rfl) (sq_of (ex9 sa _ hs)) (ev_var rfl) (sq_of (ex9 la _ hl))) fun o dx l m2 H10 no nl nm hlo hmo hlm e10 ho hl10 hm10 => ?_
        have ex10 := ex.trans ex9
        have hni : ∀ ns : List Nat, ns.map nI = (List.map (fun n : Nat => (n : Int)) ns).map V.int := fun ns => by rw [List.map_map]; rfl
        exact k1 o dx l m2 H10 _ _ (fresh_back ex10 no) (fresh_back ex10 nl) (fresh_back ex10 nm) hlo hmo hlm (ex10.trans e10) ho (by rw [hl10, hni]) (by rw [hm10, hni]) (clash_of hok h0') (by rw [List.length_map]; omega) (by rw [List.length_map]; omega)
      · have h0' : it.1 ≠ [] := by rw [codes_nil] at h0; exact of_decide_eq_false h0
        have hval : ∀ t : Wd, (valV (ts.map fun t => ((.inr (S t) : Key), V.bl true)) (.inr (S t))).isSome = decide (t ∈ ts) := fun t => by
          rw [← valV_any, List.any_map]
          by_cases h : t ∈ ts
          · rw [decide_eq_true h, List.any_eq_true]
            exact ⟨t, h, by simp⟩
          · rw [decide_eq_false h, List.any_eq_false]
            intro u hu
            have hne : ¬ u = t := fun e => h (e ▸ hu)
            have : ¬ (Sum.inr (S u) : Key) = .inr (S t) := fun e => hne (S_inj (Sum.inr.inj e))
            show ¬ decide ((Sum.inr (S u) : Key) = .inr (S t)) = true
            rw [decide_eq_false this]; decide
        have ex9 := ex68.trans e9
        refine s_when (b := !decide (it.1 ∈ ts)) (et_B (ev_is (ev_dnotin (k := .inr (S it.1)) (ev_var rfl) (ev_var rfl) (.inl (ex9 d _ hdk))) (by rw [hval]))) (fun hnew H10 e10 => ?_) (fun hold H10 e10 => ?_)
        · have hnew' : it.1 ∉ ts := by simpa using hnew
          have ex10 := ex9.trans e10
          obtain ⟨a, ha, k0, hk0, hsu⟩ := hok.suf
          have htlen : it.1.length ≤ 1000 := by
            have := (hc.ok a ha).2.2
            rw [hsu, List.length_drop]; omega
          have hin : it.1 ∈ S0 := by rw [hsu]; exact hsuf a ha k0 hk0 (by rw [← hsu]; exact h0')
          have htl63 : (ts ++ [it.1]).length ≤ 63 := by
            refine Nat.le_trans (M1.len_sub _ S0 ?_ fun t ht => ?_) hS0
            · rw [List.nodup_append]
              refine ⟨hI.nd, by simp, fun u hu y hy e => ?_⟩
              rw [List.mem_singleton.mp hy] at e
              exact hnew' (e ▸ hu)
            · rcases List.mem_append.mp ht with h | h
              · exact (hI.sub t h).2.1
              · rw [List.mem_singleton.mp h]; exact hin
          rw [List.length_append, List.length_singleton] at htl63
          have hvn : valV (ts.map fun t => ((.inr (S t) : Key), V.bl true)) (.inr (S it.1)) = none := by
            have := hval it.1
            rw [decide_eq_false hnew'] at this
            cases hv : valV (ts.map fun t => ((.inr (S t) : Key), V.bl true)) (.inr (S it.1)) with
            | none => rfl
            | some v => rw [hv] at this; cases this
          refine q_dput (kvs := ts.map fun t => ((.inr (S t) : Key), V.bl true)) (k := .inr (S it.1)) (v := .bl true) (ex10 d _ hdk) ev_c (ev_var rfl) (ev_var rfl) (by rw [List.length_map]; omega) fun H11 e11 => ?_
          have hput : putK (ts.map fun t => ((.inr (S t) : Key), V.bl true)) (.inr (S it.1)) (.bl true) = (ts ++ [it.1]).map fun t => ((.inr (S t) : Key), V.bl true) := by
            rw [putK_new _ hvn, List.map_append]; rfl
          rw [hput]
          generalize hH12 : upd H11 d (.dK ((ts ++ [it.1]).map fun t => ((.inr (S t) : Key), V.bl true))) = H12
          have ex11 := ex10.trans e11
          have keep : ∀ b u, b ≠ d → H' b = some u → H12 b = some u := fun b u hb hu => by rw [← hH12, upd_ne hb]; exact ex11 b u hu
          have exH12 : Ex H H12 := by rw [← hH12]; exact Ex.mut (ex.trans ex11) nd0
          have hd12 : H12 d = some (.dK ((ts ++ [it.1]).map fun t => ((.inr (S t) : Key), V.bl true))) := by rw [← hH12]; exact upd_same
          have ne_d : ∀ b u, H' b = some u → (∀ kvs, u ≠ .dK kvs) → b ≠ d := fun b u hb hu e => by rw [e, hdk] at hb; exact hu _ (Option.some.inj hb).symm
          have hz12 := keep z _ hzd hzx
          have hits12 : ItsAt H12 (fun a => a ≠ z) xs its := hits.map fun v jt h => by
            obtain ⟨T1, s1, l1, q1, q2, q3, q4, q5, q6⟩ := h
            exact ⟨T1, s1, l1, q1, keep T1 _ (ne_d T1 _ q2 (fun _ e => by cases e)) q2, keep s1 _ (ne_d s1 _ q3 (fun _ e => by cases e)) q3, keep l1 _ (ne_d l1 _ q4 (fun _ e => by cases e)) q4, q5, q6⟩
          have hs12 := keep sa _ (ne_d sa _ hs (fun _ e => by cases e)) hs
          have hl12 := keep la _ (ne_d la _ hl (fun _ e => by cases e)) hl
          refine s_extX (l0 := z) (xs := xs) hz12 (ev_var rfl) fun H13 e13 => call2U (x := .ref p) (ys := [tx it.1, .ref sa, .ref la]) (ev_var rfl) (eu_tup (ea_cons (ev_var rfl) (ea_cons (ev_var rfl) (ea_cons (ev_var rfl) ea_nil))) (by simp)) fun T1 H14 nT1 e14 hT1 => ?_
          have e1214 := e13.trans e14
          refine ⟨p, T1, sa, la, ws, it, rfl, hc.ex (exH12.trans e1214), hT1, e1214 sa _ hs12, e1214 la _ hl12, hok, h0', htlen, by omega, fun nl H15 zs jts nnl e15 hnl hjts hN => ?_⟩
          have ex15 := e1214.trans e15
          have hz15 := ex15 z _ hz12
          have hjl := hN.len
          have hjx := hjts.1
          refine ⟨z, nl, xs, zs, rfl, rfl, hz15, hnl, Nat.le_trans (m := 100000) (by omega) (by decide), ?_⟩
          have hnt : ∀ us, H15 z ≠ some (.tup us) := fun us e => by rw [hz15] at e; cases e
          refine ⟨m - 1 - (64 - jts.length), by omega, at' + 1, xs ++ zs, its ++ jts, ts ++ [it.1], _, _, _, rfl, Ex.mut (exH12.trans ex15) nz0, upd_same, ?_, by rw [upd_ne (Ne.symm hzd)]; exact ex15 d _ hd12, by rw [List.length_append]; omega, ?_, ?_⟩
          · refine ItsAt.app ((hits12.map fun _ _ h => h.ex ex15).map fun _ _ h => h.upd hnt fun _ h => h) ((hjts.map fun _ _ h => h.imp (N' := fun a => a ≠ z) fun a ha => ?_).map fun _ _ h => h.upd hnt fun _ h => h)
            rcases ha.2 with rfl | rfl | hn
            · exact hsz
            · exact hlz
            · exact fun e => by rw [e, e1214 z _ hz12] at hn; cases hn
          · refine ⟨fun jt hjt => ?_, fun i j h1 h2 h3 h4 => ?_, ?_, fun t ht => ?_, fun q hq jt hjq => ?_, fun t ht i h1 h2 => ?_, fun t ht i h1 h2 => ?_, ?_⟩
            · rw [List.length_append, List.length_singleton]
              rcases List.mem_append.mp hjt with h | h
              · obtain ⟨r1, r2⟩ := hI.ok jt h
                exact ⟨r1, by omega⟩
              · obtain ⟨r1, r2⟩ := hN.ok jt h
                exact ⟨r1, by omega⟩
            · obtain ⟨jt, h5, h6⟩ := hI.first i j h1 h2 h3 h4
              exact ⟨jt, List.mem_append_left _ h5, h6⟩
            · rw [List.nodup_append]
              refine ⟨hI.nd, by simp, fun u hu y hy e => ?_⟩
              rw [List.mem_singleton.mp hy] at e
              exact hnew' (e ▸ hu)
            · rcases List.mem_append.mp ht with h | h
              · exact hI.sub t h
              · rw [List.mem_singleton.mp h]; exact ⟨h0', hin, htlen⟩
            · rcases Nat.lt_or_ge q at' with hlt2 | hge2
              · rw [List.getElem?_append_left (by omega)] at hjq
                exact List.mem_append_left _ (hI.done q hlt2 jt hjq)
              · have : q = at' := by omega
                subst this
                rw [List.getElem?_append_left hlt', hia] at hjq
                cases hjq
                exact List.mem_append_right _ (by simp)
            · rcases List.mem_append.mp ht with h | h
              · obtain ⟨jt, h5, h6⟩ := hI.fwd t h i h1 h2
                exact ⟨jt, List.mem_append_left _ h5, h6⟩
              · rw [List.mem_singleton.mp h] at h2 ⊢
                obtain ⟨jt, h5, h6⟩ := hN.fwd i h1 h2
                exact ⟨jt, List.mem_append_right _ h5, h6⟩
            · rcases List.mem_append.mp ht with h | h
              · obtain ⟨jt, h5, h6⟩ := hI.bwd t h i h1 h2
                exact ⟨jt, List.mem_append_left _ h5, h6⟩
              · rw [List.mem_singleton.mp h] at h2 ⊢
                obtain ⟨jt, h5, h6⟩ := hN.bwd i h1 h2
                exact ⟨jt, List.mem_append_right _ h5, h6⟩
            · rw [List.length_append, List.length_append, List.length_singleton]; omega
          · rw [List.length_append, List.length_append, List.length_singleton]; omega
        · have hold' : it.1 ∈ ts := by simpa using hold
          have ex10 := ex9.trans e10
          refine ⟨m - 1, by omega, at' + 1, xs, its, ts, _, _, _, rfl, ex.trans ex10, ex10 z _ hzx, hits.map fun _ _ h => h.ex ex10, ex10 d _ hdk, by omega, ⟨hI.ok, hI.first, hI.nd, hI.sub, fun q hq jt hjq => ?_, hI.fwd, hI.bwd, hI.len⟩, by omega⟩
          rcases Nat.lt_or_ge q at' with hlt2 | hge2
          · exact hI.done q hlt2 jt hjq
          · have : q = at' := by omega
            subst this
            rw [hia] at hjq
            cases hjq
            exact hold'
    · have hge' : at' = its.length := by have := of_decide_eq_false hge; omega
      rw [hge'] at hI
      have ex6 := ex.trans e6
      refine s_retB (eb_make (eqx_sortedD (K := K) (ev_var rfl) (e6 d _ hdk) htl)) fun o dx l H7 vs hP no nl hlo e7 ho hl7 => ?_
      obtain ⟨us, rfl, hperm⟩ := hP
      exact k2 o dx l H7 us (fresh_back ex6 no) (fresh_back ex6 nl) hlo (ex6.trans e7) ho hl7 (cl_imp hI.cl fun t => hperm.symm.mem_iff) (by rw [hperm.length_eq]; exact htl) fun t ht => ⟨(hI.sub t (hperm.mem_iff.mp ht)).2.2, hokS t (hI.sub t (hperm.mem_iff.mp ht)).2.1⟩
end
end Tr

set_option Elab.async false
set_option linter.all false
set_option maxRecDepth 100000
set_option maxHeartbeats 4000000
namespace Tr
open PySem PySem.Spec PyProof.Rows L2 Evl
open M3 (wat joinW pre ways)
abbrev s__law_code : Stmt := topS 32
abbrev N__law_code : List Str := ["_law_script", "_law_kind", "_law_letters", "_law_words", "_law_word", "_law_cell"]
theorem sc__law_code : FnScope N__law_code ["_law_script"] (defScope s__law_code) := ⟨rfl, rfl, rfl, by decide +kernel, rfl, by decide +kernel, by decide +kernel⟩
abbrev s__law_stands : Stmt := topS 33
abbrev N__law_stands : List Str := ["_law_word", "_law_text_here", "_law_at"]
theorem sc__law_stands : FnScope N__law_stands ["_law_word", "_law_text_here", "_law_at"] (defScope s__law_stands) := ⟨rfl, rfl, rfl, by decide +kernel, rfl, by decide +kernel, by decide +kernel⟩
abbrev s__law_text : Stmt := topS 34
abbrev N__law_text : List Str := ["_law_code_here", "_law_script", "_law_text_here", "_law_at", "_law_cell"]
theorem sc__law_text : FnScope N__law_text ["_law_code_here", "_law_script"] (defScope s__law_text) := ⟨rfl, rfl, rfl, by decide +kernel, rfl, by decide +kernel, by decide +kernel⟩
local macro_rules | `(tactic| walk_at "sd") => `(tactic| first | assumption | rfl | omega | decide | (solve_by_elim) | (refine Nat.le_trans (m := 1000) (by solve_by_elim) (by decide)))
local macro_rules | `(tactic| walk_at "rv") => `(tactic| first
  | exact rv_add | exact rv_sub | exact rv_lt | exact rv_le | exact rv_gt | exact rv_ge | exact rv_eqI | exact rv_eqS | exact rv_eqB | exact rv_neI | exact rv_neS | exact rv_neB
  | exact rv_mod (by walk_at "sd") | exact rv_fdiv (by first | assumption | exact ⟨by omega, by omega⟩) | exact rv_addS (by walk_at "sd") | exact rv_isB | exact rv_notB | assumption)
local macro_rules | `(tactic| walk_at "ea") => `(tactic| first
  | exact ea_nil
  | (refine' ea_cons ?k1 ?k2; (case k1 => walk_at "ev"); (case k2 => walk_at "ea")))
local macro_rules | `(tactic| walk_at "eo") => `(tactic| first
  | exact eo_none
  | (refine' eo_some ?k1; (case k1 => walk_at "ev")))
local macro_rules | `(tactic| walk_at "et") => `(tactic| first
  | (refine' et_test ?k1; (case k1 => walk_at "ev"))
  | (refine' et_B ?k1; (case k1 => walk_at "ev"))
  | (refine' et_and ?k1 ?k2; (case k1 => walk_at "et"); (case k2 => (intro _; walk_at "et")))
  | (refine' et_or ?k1 ?k2; (case k1 => walk_at "et"); (case k2 => (intro _; walk_at "et")))
  | (refine' et_not ?k1; (case k1 => walk_at "et"))
  | assumption)
local macro_rules | `(tactic| walk_at "ev") => `(tactic| first
  | assumption
  | exact ev_cS
  | exact ev_c
  | exact ev_var rfl
  | (refine' ev_op ?k1 ?k2 ?k3; (case k1 => walk_at "ev"); (case k2 => walk_at "ev"); (case k3 => walk_at "rv"))
  | (refine' ev_un ?k1 ru_neg; (case k1 => walk_at "ev"))
  | (refine' ev_chain ?k1 ?k2 ?k3 ?k4 ?k5; (case k1 => walk_at "ev"); (case k2 => walk_at "ev"); (case k3 => walk_at "ev"); (case k4 => walk_at "rv"); (case k5 => (intro _; walk_at "rv")))
  | (refine' ev_slS ?k1 ?k2 ?k3 ?k4; (case k1 => walk_at "ev"); (case k2 => walk_at "eo"); (case k3 => walk_at "eo"); (case k4 => walk_at "sd"))
  | (refine' ev_lenS ?k1 ?k2; (case k1 => walk_at "ev"); (case k2 => walk_at "sd"))
  | (refine' ev_len' ?k1 ?k2; (case k1 => walk_at "ev"); (case k2 => walk_at "sd"))
  | (refine' ev_strip ?k1 ?k2 ?k3; (case k1 => walk_at "ev"); (case k2 => walk_at "ev"); (case k3 => walk_at "sd"))
  | (refine' ev_sum ?k1 ?k2; (case k1 => walk_at "ev"); (case k2 => walk_at "sd"))
  | (refine' ev_isi ?k1 ?k2 ?k3 ?k4; (case k1 => walk_at "ev"); (case k2 => walk_at "ev"); (case k3 => first | exact ty_int | exact ty_bl | exact ty_str | exact ty_list (by walk_at "sd")); (case k4 => first | exact kit_ty (r := true) (by decide +kernel) | exact kit_ty (r := false) (by decide +kernel)))
  | (refine' ev_andV ?k1 ?k2; (case k1 => walk_at "ev"); (case k2 => (intro _; walk_at "ev")))
  | (refine' ev_orV ?k1 ?k2; (case k1 => walk_at "ev"); (case k2 => (intro _; walk_at "ev")))
  | (refine' ev_notV ?k1; (case k1 => walk_at "ev"))
  | (refine' ev_call ?k1 ?k2; (case k1 => walk_at "ea"); (case k2 => walk_at "sv")))
local macro_rules | `(tactic| walk_at "el") => `(tactic| first
  | assumption
  | (refine' el_mapB ?k1 ?k2 ?k3 (fun _ => rfl) ?k5; (case k1 => walk_at "ev"); (case k2 => walk_at "sd"); (case k3 => walk_at "sd"); (case k5 => (intro _ _; walk_at "ev")))
  | (refine' el_mapI ?k1 ?k2 ?k3 (fun _ => rfl) ?k5; (case k1 => walk_at "ev"); (case k2 => walk_at "sd"); (case k3 => walk_at "sd"); (case k5 => (intro _ _; walk_at "ev")))
  | (refine' el_mapS ?k1 ?k2 ?k3 (fun _ => rfl) ?k5; (case k1 => walk_at "ev"); (case k2 => walk_at "sd"); (case k3 => walk_at "sd"); (case k5 => (intro _ _; walk_at "ev"))))
local macro_rules | `(tactic| walk_at "ev") => `(tactic| first
  | (refine' ev_all ?k1; (case k1 => walk_at "el"))
  | (refine' ev_any ?k1; (case k1 => walk_at "el"))
  | (refine' ev_sumN ?k1; (case k1 => walk_at "el"))
  | (refine' ev_join ?k1 ?k2 ?k3; (case k1 => exact ev_is ev_cS (congrArg tx codes_nil)); (case k2 => walk_at "el"); (case k3 => walk_at "sd")))

local macro_rules | `(tactic| walk_at "sv") => `(tactic| first | exact sv_is_text (by walk_at "sd") | exact sv_is_number | exact sv_stands (by walk_at "sd") (by walk_at "sd"))
/-! ### the code of a script -/
def letW (s : Int) : Wd := ([codes "abc", codes "dmz", codes "ahy"] : List Wd).getD (s / 4 % 3).toNat []
def modK (k : Int) : Int := ([2, 3, 2, 3] : List Int).getD k.toNat 0
def stepC (L : Wd) (m : Int) (r : List Wd × Wd) (c : Int) : List Wd × Wd :=
  if c / 3 % 3 = 0 then (r.1 ++ [r.2 ++ [L.getD (c % m).toNat 0]], []) else (r.1, r.2 ++ [L.getD (c % m).toNat 0])
def cutC (L : Wd) (m : Int) (ns : List Int) : List Wd × Wd := ns.foldl (stepC L m) ([], [])
def wordsC (r : List Wd × Wd) : List Wd := if r.2 = [] then r.1 else r.1 ++ [r.2]
def codeOf (ns : List Int) : List Wd :=
  if ns.sum % 4 = 2 then (ns.take 12).map fun c => [(letW ns.sum).getD 1 0] ++ repW [(letW ns.sum).getD 0 0] (c / 2 % 9)
  else if ns.sum % 4 = 3 then (wordsC (cutC (letW ns.sum) (modK (ns.sum % 4)) ns)).map fun a => [(letW ns.sum).getD 2 0] ++ a.reverse
  else wordsC (cutC (letW ns.sum) (modK (ns.sum % 4)) ns)
theorem mod_cases3 (s : Int) : (s % 3).toNat = 0 ∨ (s % 3).toNat = 1 ∨ (s % 3).toNat = 2 := by omega
theorem letW_ok (s : Int) : (letW s).length = 3 ∧ okW (letW s) := by
  unfold letW
  rcases mod_cases3 (s / 4) with h | h | h <;> rw [h] <;> decide +kernel
theorem modK_ok (s : Int) : 2 ≤ modK (s % 4) ∧ modK (s % 4) ≤ 3 := by
  unfold modK
  have : (s % 4).toNat = 0 ∨ (s % 4).toNat = 1 ∨ (s % 4).toNat = 2 ∨ (s % 4).toNat = 3 := by omega
  rcases this with h | h | h | h <;> rw [h] <;> decide
theorem getD_ok {L : Wd} (h : L.length = 3 ∧ okW L) {i : Nat} (hi : i < 3) : 97 ≤ L.getD i 0 ∧ L.getD i 0 ≤ 122 := by
  have e : L.getD i 0 = L[i] := by simp [List.getD, h.1, hi]
  rw [e]
  exact h.2 _ (List.getElem_mem _)
/-- what the loop keeps -/
structure CutOk (r : List Wd × Wd) (n : Nat) : Prop where
  ne : ∀ a ∈ r.1, a ≠ []
  len : (r.1.flatten ++ r.2).length = n
  ok : okW (r.1.flatten ++ r.2)
theorem cut_step {L : Wd} {m : Int} (hL : L.length = 3 ∧ okW L) (hm : 2 ≤ m ∧ m ≤ 3) {r : List Wd × Wd} {n : Nat} (h : CutOk r n) (c : Int) : CutOk (stepC L m r c) (n + 1) := by
  have hc := getD_ok hL (i := (c % m).toNat) (by have := Int.emod_nonneg c (show m ≠ 0 by omega); have := Int.emod_lt_of_pos c (show 0 < m by omega); omega)
  have h2 := h.len
  rw [List.length_append, List.length_flatten] at h2
  unfold stepC
  split
  · refine ⟨fun a ha => ?_, ?_, ?_⟩
    · rcases List.mem_append.mp ha with ha | ha
      · exact h.ne a ha
      · rw [List.mem_singleton.mp ha]; simp
    · simp; omega
    · intro d hd
      simp only [List.flatten_append, List.flatten_cons, List.flatten_nil, List.append_nil, List.mem_append, List.mem_singleton] at hd
      rcases hd with hd | hd | hd
      · exact h.ok d (List.mem_append_left _ hd)
      · exact h.ok d (List.mem_append_right _ hd)
      · rw [hd]; exact hc
  · refine ⟨h.ne, ?_, ?_⟩
    · simp; omega
    · intro d hd
      simp only [List.mem_append, List.mem_singleton] at hd
      rcases hd with hd | hd | hd
      · exact h.ok d (List.mem_append_left _ hd)
      · exact h.ok d (List.mem_append_right _ hd)
      · rw [hd]; exact hc
theorem cut_all {L : Wd} {m : Int} (hL : L.length = 3 ∧ okW L) (hm : 2 ≤ m ∧ m ≤ 3) : ∀ (ns : List Int) (r : List Wd × Wd) (n : Nat), CutOk r n → CutOk (ns.foldl (stepC L m) r) (n + ns.length)
  | [], r, n, h => h
  | c :: ns, r, n, h => by
    rw [List.foldl_cons, List.length_cons, show n + (ns.length + 1) = n + 1 + ns.length by omega]
    exact cut_all hL hm ns _ _ (cut_step hL hm h c)
theorem cut_ok {L : Wd} {m : Int} (hL : L.length = 3 ∧ okW L) (hm : 2 ≤ m ∧ m ≤ 3) (ns : List Int) : CutOk (cutC L m ns) ns.length := by
  have := cut_all hL hm ns ([], []) 0 ⟨by simp, rfl, by simp [okW]⟩
  rwa [Nat.zero_add] at this
theorem len_le_flat : ∀ (ws : List Wd), (∀ a ∈ ws, a ≠ []) → ws.length ≤ ws.flatten.length
  | [], _ => by simp
  | a :: r, h => by
    have := len_le_flat r fun b hb => h b (by simp [hb])
    have h1 : 0 < a.length := List.length_pos_iff.mpr (h a (by simp))
    simp only [List.length_cons, List.flatten_cons, List.length_append]; omega
theorem mem_le_flat {ws : List Wd} {a : Wd} (h : a ∈ ws) : a.length ≤ ws.flatten.length := by
  obtain ⟨s, t, rfl⟩ := List.append_of_mem h
  simp; omega
theorem CutOk.words {r : List Wd × Wd} {n : Nat} (h : CutOk r n) : (∀ a ∈ wordsC r, a ≠ []) ∧ (wordsC r).flatten = r.1.flatten ++ r.2 := by
  unfold wordsC
  split
  · rename_i e; rw [e]; exact ⟨h.ne, by simp⟩
  · rename_i e
    refine ⟨fun a ha => ?_, by simp⟩
    rcases List.mem_append.mp ha with ha | ha
    · exact h.ne a ha
    · rw [List.mem_singleton.mp ha]; exact e
structure WordsOk (ws : List Wd) (n : Nat) : Prop where
  ok : ∀ a ∈ ws, a ≠ [] ∧ okW a ∧ a.length ≤ n
  len : ws.length ≤ 63
theorem CutOk.wok {r : List Wd × Wd} {n : Nat} (h : CutOk r n) (hn : n ≤ 63) : WordsOk (wordsC r) 63 := by
  obtain ⟨h1, h2⟩ := h.words
  have h3 := h.len
  have h4 := h.ok
  rw [← h2] at h3 h4
  refine ⟨fun a ha => ⟨h1 a ha, fun c hc => h4 c (List.mem_flatten.mpr ⟨a, ha, hc⟩), ?_⟩, ?_⟩
  · have := mem_le_flat ha; omega
  · have := len_le_flat _ h1; omega
theorem repW_mem {a : Wd} {n : Int} {c : Nat} (h : c ∈ repW a n) : c ∈ a := by
  unfold repW at h
  obtain ⟨l, hl, hc⟩ := List.mem_flatten.mp h
  rw [(List.mem_replicate.mp hl).2] at hc; exact hc
theorem repW_len1 (c : Nat) (n : Int) : (repW [c] n).length = n.toNat := by
  unfold repW
  rw [List.length_flatten, List.map_replicate, List.sum_replicate_nat]; simp
theorem codeOf_ok {ns : List Int} (hn : ns.length ≤ 63) : WordsOk (codeOf ns) 64 := by
  have hL := letW_ok ns.sum
  have hm := modK_ok ns.sum
  have hw := (cut_ok hL hm ns).wok hn
  unfold codeOf
  split
  · refine ⟨fun a ha => ?_, by simp; omega⟩
    obtain ⟨c, _, rfl⟩ := List.mem_map.mp ha
    refine ⟨by simp, fun d hd => ?_, ?_⟩
    · rcases List.mem_append.mp hd with hd | hd
      · rw [List.mem_singleton.mp hd]; exact getD_ok hL (by decide)
      · rw [List.mem_singleton.mp (repW_mem hd)]; exact getD_ok hL (by decide)
    · rw [List.length_append, repW_len1]; simp; omega
  · split
    · refine ⟨fun a ha => ?_, by rw [List.length_map]; exact hw.len⟩
      obtain ⟨b, hb, rfl⟩ := List.mem_map.mp ha
      obtain ⟨_, h2, h3⟩ := hw.ok b hb
      refine ⟨by simp, fun d hd => ?_, ?_⟩
      · rcases List.mem_append.mp hd with hd | hd
        · rw [List.mem_singleton.mp hd]; exact getD_ok hL (by decide)
        · exact h2 d (List.mem_reverse.mp hd)
      · simp; omega
    · exact ⟨fun a ha => ⟨(hw.ok a ha).1, (hw.ok a ha).2.1, by have := (hw.ok a ha).2.2; omega⟩, hw.len⟩
theorem WordsOk.at {K : PySem.W.Frag} {H : Hp} {p : Addr} {ws : List Wd} {n : Nat} (h : WordsOk ws n) (hn : n ≤ 1000) (hs : SqL K H p (ws.map tx)) : CodeAt K H p ws :=
  ⟨hs, fun a ha => ⟨(h.ok a ha).1, (h.ok a ha).2.1, by have := (h.ok a ha).2.2; omega⟩, by have := h.len; omega⟩
theorem okC_of {a : Wd} (h : okW a) : okC a := fun c hc => by have := (h c hc).2; omega
/-! ### items of tuples, of texts; slices of lists -/
theorem atI_of {α : Type} {xs : List α} {i : Int} {v : α} (h0 : 0 ≤ i) (h : xs[i.toNat]? = some v) : atI xs i = some v := by
  have e : i = (i.toNat : Int) := by omega
  rw [e]; exact atI_nat h
section
variable {K : PySem.W.Frag} {σ : L2.St} {H : Hp} {ta tb te : TE} {x y z v : V}
theorem ev_ixU {xs : List V} {i : Int} (ha : EvU ta σ H xs) (hi : Ev tb σ H (.int i)) (h : atI xs i = some v) : Ev (tOp (rIxT K) ta tb) σ H v := fun H1 e Q q =>
  ha H1 e _ fun p H2 _ e2 h2 => hi H2 (e.trans e2) _ fun H3 e3 => rv_ixT (st_of (e3 p _ h2)) h H3 (Ex.refl H3) Q fun H4 e4 => q H4 ((e2.trans e3).trans e4)
theorem cutV_to (xs : List V) (j : Nat) : cutV xs none (some (j : Int)) = xs.take j := by
  unfold cutV
  rw [HT.sIx_nat, HT.sIx_none]
  show (xs.drop 0).take (min j xs.length - 0) = _
  rw [List.drop_zero, Nat.sub_zero]
  rcases Nat.le_total j xs.length with h | h
  · rw [Nat.min_eq_left h]
  · rw [Nat.min_eq_right h, List.take_of_length_le (Nat.le_refl _), List.take_of_length_le h]
theorem ev_ixW {a : Wd} {i : Int} (ha : Ev ta σ H (tx a)) (hi : Ev tb σ H (.int i)) (hz : a.length ≤ 100000) (h0 : 0 ≤ i) (h : i.toNat < a.length) : Ev (tOp rIxS ta tb) σ H (tx [a.getD i.toNat 0]) :=
  ev_op ha hi (rv_ixW hz (atI_of h0 (by simp [List.getD, h])))
end
section
variable {P : Program} {w : World} {K : PySem.W.Frag} {mg : Str → Option Value} {base : Heap} {H : Hp}
def spLawCode (K : PySem.W.Frag) : Sp := fun vs H Q _ => ∃ (p : Addr) (ns : List Int), vs = [.ref p] ∧ SqL K H p (ns.map V.int) ∧ ns.length ≤ 63 ∧ RetL ((codeOf ns).map tx) H Q
theorem sl_law_code {p : Addr} {ns : List Int} (h : SqL K H p (ns.map V.int)) (hn : ns.length ≤ 63) : SpL (spLawCode K) [.ref p] H ((codeOf ns).map tx) := fun _ e _ q _ => ⟨p, ns, rfl, ex_l e h, hn, q⟩
theorem ok__law_code (D : DefAt K mg "_law_code" s__law_code ["_law_script"]) (T : Blt mg) : Cal P w K mg base 1 "_law_code" (spLawCode K) := by
  refine cal_of D sc__law_code (fun vs H Q E h => ?_) (fun f cdv A outer s H vs Q E hr h => ?_)
  · obtain ⟨p, ns, rfl, _⟩ := h; rfl
  · obtain ⟨p, ns, rfl, hs, hn, q⟩ := h
    refine ⟨_, (pss_cons (ps_set (i := 1) sc__law_code.nd rfl (.inl rfl) (pe_op op_mod (pe_callB (cr_sumK (K := K) rfl rfl) (by rfl) T.sum (by decide +kernel) (pa_cons (pv 0) pa_nil)) pe_int))
      (pss_cons (ps_set (i := 2) sc__law_code.nd rfl (.inr rfl) (pe_ix (ix_tupK (K := K) rfl) (pe_tup (pa_cons pe_str (pa_cons pe_str (pa_cons pe_str pa_nil)))) (pe_op op_mod (pe_op op_fdiv (pe_callB (cr_sumK (K := K) rfl rfl) (by rfl) T.sum (by decide +kernel) (pa_cons (pv 0) pa_nil)) pe_int) pe_int) (fun _ _ => rfl)))
      (pss_cons (ps_set (i := 3) sc__law_code.nd rfl (.inl rfl) (pe_lst pa_nil))
      (pss_cons (ps_set (i := 4) sc__law_code.nd rfl (.inl rfl) pe_str)
      (pss_cons (ps_for PassesOwn.never rfl (pi_listK (K := K) rfl (pv 0)) (pg_name (i := 5) sc__law_code.nd rfl (.inl rfl)) (pss_cons (ps_set (i := 4) sc__law_code.nd rfl (.inl rfl) (pe_op op_add_str (pv 4) (pe_ix ix_str (pv 2) (pe_op op_mod (pv 5) (pe_ix (ix_tupK (K := K) rfl) (pe_tup (pa_cons pe_int (pa_cons pe_int (pa_cons pe_int (pa_cons pe_int pa_nil))))) (pv 1) (fun _ _ => rfl))) (fun _ _ => rfl))))
      (pss_one (ps_if (pt_cmpR op_eq (pe_op op_mod (pe_op op_fdiv (pv 5) pe_int) pe_int) pe_int (nomark _)) (pss_cons (ps_expr (pe_bm PySem.F.plainAttrs_list PySem.F.slot_list_append PySem.F.type_list_append mt_append (pv 3) (pa_cons (pv 4) pa_nil)))
      (pss_one (ps_set (i := 4) sc__law_code.nd rfl (.inl rfl) pe_str))) pss_nil))))
      (pss_cons (ps_if (pt_cmpR op_ne (pv 4) pe_str (nomark _)) (pss_one (ps_expr (pe_bm PySem.F.plainAttrs_list PySem.F.slot_list_append PySem.F.type_list_append mt_append (pv 3) (pa_cons (pv 4) pa_nil)))) pss_nil)
      (pss_cons (ps_if (pt_cmpR op_eq (pv 1) pe_int (nomark _)) (pss_one (ps_ret (pe_lc (own := [("_law_cell", 5)]) rfl sc__law_code.nd (pi_listK (K := K) rfl (pe_slice (sl_listK (K := K) rfl) (pv 0) po_none (po_some pe_int))) (blkOk_by (own := [("_law_cell", 5)]) (N := N__law_code) (sc := defScope s__law_code) (by decide +kernel)) (fun _ _ _ _ _ => (pg_name (i := 5) sc__law_code.nd rfl (.inl rfl))) (fun _ _ _ _ _ => pts_nil) (fun _ _ _ _ _ => (pe_op op_add_str (pe_ix ix_str (pv 2) pe_int (fun _ _ => rfl)) (pe_op op_rep_str (pe_ix ix_str (pv 2) pe_int (fun _ _ => rfl)) (pe_op op_mod (pe_op op_fdiv (pv 5) pe_int) pe_int))))))) pss_nil)
      (pss_one (ps_ret (pe_ifExp (pt_cmpR op_eq (pv 1) pe_int (nomark _)) (pe_lc (own := [("_law_word", 4)]) rfl sc__law_code.nd (pi_listK (K := K) rfl (pv 3)) (blkOk_by (own := [("_law_word", 4)]) (N := N__law_code) (sc := defScope s__law_code) (by decide +kernel)) (fun _ _ _ _ _ => (pg_name (i := 4) sc__law_code.nd rfl (.inl rfl))) (fun _ _ _ _ _ => pts_nil) (fun _ _ _ _ _ => (pe_op op_add_str (pe_ix ix_str (pv 2) pe_int (fun _ _ => rfl)) (pe_revS (pv 4))))) (pv 3))))))))))), ?_⟩
    have hL := letW_ok ns.sum
    have hm := modK_ok ns.sum
    have hsum : ∀ H1, Ex H H1 → ∀ σ : L2.St, σ[0]? = some (some (.ref p)) → Ev (tCB (rSum K) (tCons (tVar 0) tNil)) σ H1 (.int ns.sum) := fun H1 e σ h0 => ev_sum (ev_var h0) (ex_l e hs)
    refine q_asg (v := .int (ns.sum % 4)) (ev_op (hsum _ (Ex.refl _) _ rfl) ev_c (rv_mod (by decide))) fun H1 e1 => ?_
    refine q_asg (v := tx (letW ns.sum)) (ev_ixU (xs := [tx (codes "abc"), tx (codes "dmz"), tx (codes "ahy")]) (eu_tup (by walk_at "ea") (by simp)) (ev_op (ev_op (hsum _ e1 _ rfl) ev_c (rv_fdiv ⟨by decide, by decide⟩)) ev_c (rv_mod (by decide))) (atI_of (by omega) ?_)) fun H2 e2 => ?_
    · unfold letW
      rcases mod_cases3 (ns.sum / 4) with h | h | h <;> rw [h] <;> rfl
    refine q_asgL (el_lst0) fun q0 H3 nq e3 hq => ?_
    refine q_asg (v := tx []) (ev_is ev_cS (congrArg tx codes_nil)) fun H4 e4 => ?_
    have ex4 := ((e1.trans e2).trans e3).trans e4
    have nq0 : H q0 = none := fresh_back (e1.trans e2) nq
    refine q_forLn (a := p) (xs := ns.map V.int) (ev_var rfl) (ex_l ex4 hs) (fun i σ' H' => ∃ s5, Ex H H' ∧ H' q0 = some (.lst ((cutC (letW ns.sum) (modK (ns.sum % 4)) (ns.take i)).1.map tx)) ∧
        σ' = [some (.ref p), some (.int (ns.sum % 4)), some (tx (letW ns.sum)), some (.ref q0), some (tx (cutC (letW ns.sum) (modK (ns.sum % 4)) (ns.take i)).2), s5])
      (fun H5 e5 => ⟨_, ex4.trans e5, e5 q0 _ (e4 q0 _ hq), rfl⟩) (fun i σ' H' _ hP => by obtain ⟨_, ex, _⟩ := hP; exact ex_l ex hs) (fun i x σ' H' hi hP => ?_) (fun σ' H' hP => ?_)
    · obtain ⟨s5, ex, hq', rfl⟩ := hP
      have hil : i < ns.length := by
        have := (List.getElem?_eq_some_iff.mp hi).1
        rwa [List.length_map] at this
      have hx : x = .int ns[i] := by
        rw [List.getElem?_map, List.getElem?_eq_getElem hil] at hi
        exact (Option.some.inj hi).symm
      subst hx
      have hst : cutC (letW ns.sum) (modK (ns.sum % 4)) (ns.take (i + 1)) = stepC (letW ns.sum) (modK (ns.sum % 4)) (cutC (letW ns.sum) (modK (ns.sum % 4)) (ns.take i)) ns[i] := by
        unfold cutC
        rw [List.take_succ, List.getElem?_eq_getElem hil, List.foldl_append]
        rfl
      have hok := cut_ok hL hm (ns.take i)
      rw [hst]
      generalize hR : cutC (letW ns.sum) (modK (ns.sum % 4)) (ns.take i) = r at *
      obtain ⟨ws, wd⟩ := r
      have hlen := hok.len
      rw [List.length_take, Nat.min_eq_left (by omega), List.length_append] at hlen
      have hwl := len_le_flat ws hok.ne
      dsimp only at hlen hq'
      have hwd : wd.length ≤ 63 := by omega
      have hws : ws.length ≤ 63 := by omega
      generalize hd : [(letW ns.sum).getD (ns[i] % modK (ns.sum % 4)).toNat 0] = d
      have hdl : d.length = 1 := by rw [← hd]; rfl
      have hmi := Int.emod_nonneg ns[i] (show modK (ns.sum % 4) ≠ 0 by omega)
      have hmj := Int.emod_lt_of_pos ns[i] (show 0 < modK (ns.sum % 4) by omega)
      refine q_asg (v := tx (wd ++ d)) (ev_op (x := tx wd) (y := tx d) (ev_var rfl) ?_ (rv_addS (by omega))) fun H6 e6 => ?_
      · rw [← hd]
        refine ev_ixW (ev_var rfl) (ev_op (ev_var rfl) (ev_ixU (v := .int (modK (ns.sum % 4))) (xs := [.int 2, .int 3, .int 2, .int 3]) (eu_tup (by walk_at "ea") (by simp)) (ev_var rfl) (atI_of (by omega) ?_)) (rv_mod (by omega))) (by omega) (by omega) (by omega)
        unfold modK
        have : (ns.sum % 4).toNat = 0 ∨ (ns.sum % 4).toNat = 1 ∨ (ns.sum % 4).toNat = 2 ∨ (ns.sum % 4).toNat = 3 := by omega
        rcases this with h | h | h | h <;> rw [h] <;> rfl
      · refine s_when (b := decide (ns[i] / 3 % 3 = 0)) (et_test (ev_op (ev_op (ev_op (ev_var rfl) ev_c (rv_fdiv ⟨by decide, by decide⟩)) ev_c (rv_mod (by decide))) ev_c rv_eqI)) (fun ht H7 e7 => ?_) (fun ht H7 e7 => ?_)
        · have h0 := of_decide_eq_true ht
          refine q_app ((e6.trans e7) q0 _ hq') (ev_var rfl) (v := tx (wd ++ d)) (ev_var rfl) (by rw [List.length_map]; exact Nat.lt_of_le_of_lt hws (by decide)) fun H8 e8 => ?_
          refine s_asg (v := tx []) (ev_is ev_cS (congrArg tx codes_nil)) fun H9 e9 => ⟨some (.int ns[i]), (Ex.mut (((ex.trans e6).trans e7).trans e8) nq0).trans e9, ?_, ?_⟩
          · unfold stepC
            rw [if_pos h0, hd]
            show H9 q0 = some (.lst ((ws ++ [wd ++ d]).map tx))
            rw [List.map_append]
            exact e9 q0 _ upd_same
          · unfold stepC
            rw [if_pos h0]
            rfl
        · have h0 := of_decide_eq_false ht
          unfold stepC
          rw [if_neg h0, hd]
          exact ⟨_, (ex.trans e6).trans e7, (e6.trans e7) q0 _ hq', rfl⟩
    · obtain ⟨s5, ex, hq', rfl⟩ := hP
      rw [List.length_map, List.take_length] at hq' ⊢
      have hok := cut_ok hL hm ns
      generalize hR : cutC (letW ns.sum) (modK (ns.sum % 4)) ns = r at *
      obtain ⟨ws, wd⟩ := r
      have hlen := hok.len
      rw [List.length_append] at hlen
      have hwl := len_le_flat ws hok.ne
      dsimp only at hlen hwl hq'
      have hcode : codeOf ns = (if ns.sum % 4 = 2 then (ns.take 12).map fun c => [(letW ns.sum).getD 1 0] ++ repW [(letW ns.sum).getD 0 0] (c / 2 % 9)
        else if ns.sum % 4 = 3 then (wordsC (ws, wd)).map fun a => [(letW ns.sum).getD 2 0] ++ a.reverse else wordsC (ws, wd)) := by unfold codeOf; rw [hR]
      have wk := hok.wok hn
      have hl1 : ∀ i : Nat, i < 3 → ∀ (c : Nat), [(letW ns.sum).getD i 0].length ≤ 1000 := fun _ _ _ => by simp
      refine q_ifApp (b := !decide (wd = codes "")) hq' (et_test (ev_op (ev_var rfl) ev_cS rv_neS)) (ev_var rfl) (fun _ => ev_var (v := tx wd) rfl) (by rw [List.length_map]; omega) fun H6 e6 => ?_
      have hx6 : (if (!decide (wd = codes "")) = true then ws.map tx ++ [tx wd] else ws.map tx) = (wordsC (ws, wd)).map tx := by
        rw [codes_nil]
        unfold wordsC
        by_cases h : wd = []
        · subst h; simp
        · simp [h]
      rw [hx6]
      generalize hH : upd H6 q0 (.lst ((wordsC (ws, wd)).map tx)) = H7
      have ex7 : Ex H H7 := by rw [← hH]; exact Ex.mut (ex.trans e6) nq0
      have h7 : H7 q0 = some (.lst ((wordsC (ws, wd)).map tx)) := by rw [← hH]; exact upd_same
      have gL : ∀ (i : Nat) (σ : L2.St) (Hx : Hp), i < 3 → σ[2]? = some (some (tx (letW ns.sum))) → Ev (tOp rIxS (tVar 2) (tC (.int (i : Int)))) σ Hx (tx [(letW ns.sum).getD i 0]) := fun i σ Hx hi h =>
        ev_ixW (ev_var h) ev_c (by omega) (by omega) (by omega)
      refine q_when (et_test (ev_op (ev_var rfl) ev_c rv_eqI)) (fun h2 H8 e8 => ?_) (fun h2 H8 e8 => ?_)
      · have h2' := of_decide_eq_true h2
        rw [hcode, if_pos h2'] at q
        refine s_retL (el_mapNS (ys := ns.take 12) (φ := V.int) (g := fun c => [(letW ns.sum).getD 1 0] ++ repW [(letW ns.sum).getD 0 0] (c / 2 % 9)) ?_ (by rw [List.length_take]; omega) (fun _ => rfl) fun c hc => ?_) fun p2 H9 np e9 h9 => q.go (ex7.trans e8) np e9 h9
        · rw [List.map_take, ← cutV_to]
          exact el_sl (ev_var rfl) eo_none (eo_some ev_c) (ex_l (ex7.trans e8) hs)
        · refine ev_op (gL 1 _ _ (by decide) rfl) (ev_op (gL 0 _ _ (by decide) rfl) (ev_op (ev_op (ev_var rfl) ev_c (rv_fdiv ⟨by decide, by decide⟩)) ev_c (rv_mod (by decide))) (rv_repS ⟨⟨by omega, by omega⟩, by simp⟩)) (rv_addS ?_)
          rw [repW_len1]; simp; omega
      · have h2' := of_decide_eq_false h2
        rw [hcode, if_neg h2'] at q
        have hif : EvT (tTest (tOp rEq (tVar 1) (tC (.int 3)))) [some (.ref p), some (.int (ns.sum % 4)), some (tx (letW ns.sum)), some (.ref q0), some (tx wd), s5] H8 (decide (ns.sum % 4 = 3)) := et_test (ev_op (ev_var rfl) ev_c rv_eqI)
        refine hif H8 (Ex.refl _) _ fun H9 e9 => ?_
        have h9 := (e8.trans e9) q0 _ h7
        by_cases h3 : ns.sum % 4 = 3
        · rw [if_pos h3] at q
          rw [decide_eq_true h3]
          have hz : (wordsC (ws, wd)).length ≤ 40000 := by have := wk.len; omega
          have := el_mapS (K := K) (te := tOp (fun x y H Q => ∃ i j, x = .str i ∧ y = .str j ∧ i.length + j.length ≤ sizeLine ∧ Q (.str (i ++ j)) H) (tOp rIxS (tVar 2) (tC (.int 2))) (tRevS (tVar 4))) (tl := tVar 3) (j := 4) (vs := [4]) (φ := tx) (g := fun a : Wd => [(letW ns.sum).getD 2 0] ++ a.reverse)
            (σ := [some (.ref p), some (.int (ns.sum % 4)), some (tx (letW ns.sum)), some (.ref q0), some (tx wd), s5]) (H := H9) (ys := wordsC (ws, wd)) (ev_var rfl) (sq_of h9) hz (fun _ => rfl) fun a ha => by
              have h3 := (wk.ok a ha).2.2
              exact ev_op (gL 2 _ _ (by decide) rfl) (ev_revS (ev_var rfl) (by omega)) (rv_addS (by simp; omega))
          exact this H9 (Ex.refl _) _ fun p2 H10 np e10 h10 => q.go ((ex7.trans e8).trans e9) np e10 h10
        · rw [if_neg h3] at q
          rw [decide_eq_false h3]
          rw [if_neg (by decide)]
          exact ⟨_, rfl, q q0 H9 nq0 ((ex7.trans e8).trans e9) h9⟩
/-! ### _law_stands, _law_numbers -/
def spLawStands : Sp := spStands
theorem ok__law_stands (D : DefAt K mg "_law_stands" s__law_stands ["_law_word", "_law_text_here", "_law_at"]) (T : Blt mg) : Cal P w K mg base 1 "_law_stands" spStands := by
  refine cal_of D sc__law_stands (fun vs H Q E h => ?_) (fun f cdv A outer s H vs Q E hr h => ?_)
  · obtain ⟨a, t, i, rfl, _⟩ := h; rfl
  · obtain ⟨a, t, i, rfl, h1, h2, q⟩ := h
    refine ⟨_, (pss_one (ps_ret (pe_cmpR op_eq (pe_slice sl_str (pv 1) (po_some (pv 2)) (po_some (pe_op op_add (pv 2) (pe_callB call_len_str (by rfl) T.len (by decide +kernel) (pa_cons (pv 0) pa_nil))))) (pv 0) (nomark _)))), ?_⟩
    refine sev_run (sev_is (sev_ret (by walk_at "ev")) (congrArg V.bl ?_)) q
    unfold standsB pre
    have h3 : (i : Int) + (a.length : Int) = ((i + a.length : Nat) : Int) := by omega
    have h4 : i + a.length - i = a.length := by omega
    rw [h3, cut_nn, h4]
/-! ### the text of a script -/
def textOf (ws : List Wd) (ns : List Int) : Wd :=
  if ws = [] then repW (codes "ab") (ns.sum % 3)
  else if 0 < ns.sum / 4 % 3 ∨ ((ns.take 9).map fun c => wat ws (c / 5 % (ws.length : Int)).toNat).flatten = [] then ((ns.take 9).map fun c => wat ws (c / 5 % (ws.length : Int)).toNat).flatten
  else (((ns.take 9).map fun c => wat ws (c / 5 % (ws.length : Int)).toNat).flatten).take (ns.sum / 12 % ((((ns.take 9).map fun c => wat ws (c / 5 % (ws.length : Int)).toNat).flatten).length : Int)).toNat
    ++ [(codes "abz").getD (ns.getD 0 0 % 3).toNat 0] ++ (((ns.take 9).map fun c => wat ws (c / 5 % (ws.length : Int)).toNat).flatten).drop ((ns.sum / 12 % ((((ns.take 9).map fun c => wat ws (c / 5 % (ws.length : Int)).toNat).flatten).length : Int)).toNat + 1)
theorem flat_len_le (n : Nat) : ∀ ws : List Wd, (∀ a ∈ ws, a.length ≤ n) → ws.flatten.length ≤ ws.length * n
  | [], _ => by simp
  | a :: r, h => by
    have h1 := h a (by simp)
    have h2 := flat_len_le n r fun b hb => h b (by simp [hb])
    rw [List.flatten_cons, List.length_append, List.length_cons, Nat.succ_mul]; omega
theorem base_ok {ws : List Wd} (h : WordsOk ws 64) (ns : List Int) (hw : ws ≠ []) : ((ns.take 9).map fun c => wat ws (c / 5 % (ws.length : Int)).toNat).flatten.length ≤ 576 ∧ okW ((ns.take 9).map fun c => wat ws (c / 5 % (ws.length : Int)).toNat).flatten := by
  have hl : 0 < ws.length := List.length_pos_iff.mpr hw
  have hi : ∀ c : Int, wat ws (c / 5 % (ws.length : Int)).toNat ∈ ws := fun c => by
    have h1 := Int.emod_nonneg (c / 5) (show (ws.length : Int) ≠ 0 by omega)
    have h2 := Int.emod_lt_of_pos (c / 5) (show (0 : Int) < ws.length by omega)
    have h3 : (c / 5 % (ws.length : Int)).toNat < ws.length := by omega
    exact List.mem_of_getElem? (M3.wat_getElem h3)
  refine ⟨?_, fun d hd => ?_⟩
  · refine Nat.le_trans (flat_len_le 64 _ fun a ha => ?_) ?_
    · obtain ⟨c, _, rfl⟩ := List.mem_map.mp ha
      exact (h.ok _ (hi c)).2.2
    · rw [List.length_map, List.length_take]; omega
  · obtain ⟨l, hl, hc⟩ := List.mem_flatten.mp hd
    obtain ⟨c, _, rfl⟩ := List.mem_map.mp hl
    exact (h.ok _ (hi c)).2.1 d hc
theorem abz_ok (c : Int) : 97 ≤ (codes "abz").getD (c % 3).toNat 0 ∧ (codes "abz").getD (c % 3).toNat 0 ≤ 122 := by
  rcases mod_cases3 c with h | h | h <;> rw [h] <;> decide +kernel
theorem textOf_ok {ws : List Wd} (h : WordsOk ws 64) (ns : List Int) : (textOf ws ns).length ≤ 1000 ∧ okW (textOf ws ns) := by
  unfold textOf
  split
  · refine ⟨?_, fun d hd => ?_⟩
    · unfold repW
      rw [List.length_flatten, List.map_replicate, List.sum_replicate_nat]
      have : (codes "ab").length = 2 := by decide +kernel
      rw [this]; omega
    · have := repW_mem hd
      have e : okW (codes "ab") := by decide +kernel
      exact e d this
  · rename_i hw
    obtain ⟨h1, h2⟩ := base_ok h ns hw
    generalize ((ns.take 9).map fun c => wat ws (c / 5 % (ws.length : Int)).toNat).flatten = t at *
    split
    · exact ⟨by omega, h2⟩
    · refine ⟨?_, fun d hd => ?_⟩
      · simp only [List.length_append, List.length_take, List.length_drop, List.length_singleton]; omega
      · simp only [List.mem_append, List.mem_singleton] at hd
        rcases hd with (hd | hd) | hd
        · exact h2 d (List.mem_of_mem_take hd)
        · rw [hd]; exact abz_ok _
        · exact h2 d (List.mem_of_mem_drop hd)
def spLawText (K : PySem.W.Frag) : Sp := fun vs H Q _ => ∃ (p s : Addr) (ws : List Wd) (ns : List Int), vs = [.ref p, .ref s] ∧ SqL K H p (ws.map tx) ∧ SqL K H s (ns.map V.int) ∧ WordsOk ws 64 ∧ ns.length ≤ 63 ∧ ∀ H', Ex H H' → Q (tx (textOf ws ns)) H'
theorem sv_law_text {p s : Addr} {ws : List Wd} {ns : List Int} (h1 : SqL K H p (ws.map tx)) (h2 : SqL K H s (ns.map V.int)) (h3 : WordsOk ws 64) (h4 : ns.length ≤ 63) : SpV (spLawText K) [.ref p, .ref s] H (tx (textOf ws ns)) :=
  fun _ e _ q _ => ⟨p, s, ws, ns, rfl, ex_l e h1, ex_l e h2, h3, h4, q⟩
theorem ok__law_text (D : DefAt K mg "_law_text" s__law_text ["_law_code_here", "_law_script"]) (T : Blt mg) : Cal P w K mg base 1 "_law_text" (spLawText K) := by
  refine cal_of D sc__law_text (fun vs H Q E h => ?_) (fun f cdv A outer s H vs Q E hr h => ?_)
  · obtain ⟨p, s, ws, ns, rfl, _⟩ := h; rfl
  · obtain ⟨p, s2, ws, ns, rfl, hp, hs, hw, hn, q⟩ := h
    refine ⟨_, (pss_cons (ps_if (pt_cmpR (op_eqDK (K := K) rfl hr.units) (pv 0) (pe_lst pa_nil) (nomark _)) (pss_one (ps_ret (pe_op op_rep_str pe_str (pe_op op_mod (pe_callB (cr_sumK (K := K) rfl rfl) (by rfl) T.sum (by decide +kernel) (pa_cons (pv 1) pa_nil)) pe_int)))) pss_nil)
      (pss_cons (ps_set (i := 2) sc__law_text.nd rfl (.inl rfl) (pe_joinK (K := K) rfl pe_str (pe_lc (own := [("_law_cell", 4)]) rfl sc__law_text.nd (pi_listK (K := K) rfl (pe_slice (sl_listK (K := K) rfl) (pv 1) po_none (po_some pe_int))) (blkOk_by (own := [("_law_cell", 4)]) (N := N__law_text) (sc := defScope s__law_text) (by decide +kernel)) (fun _ _ _ _ _ => (pg_name (i := 4) sc__law_text.nd rfl (.inl rfl))) (fun _ _ _ _ _ => pts_nil) (fun _ _ _ _ _ => (pe_ix (ix_listK (K := K) rfl) (pv 0) (pe_op op_mod (pe_op op_fdiv (pv 4) pe_int) (pe_callB (call_len_seqK (K := K) rfl) (by rfl) T.len (by decide +kernel) (pa_cons (pv 0) pa_nil))) (fun _ _ => rfl))))))
      (pss_cons (ps_if (PW.pt (pw_or (pt_cmpR op_gt (pe_op op_mod (pe_op op_fdiv (pe_callB (cr_sumK (K := K) rfl rfl) (by rfl) T.sum (by decide +kernel) (pa_cons (pv 1) pa_nil)) pe_int) pe_int) pe_int (nomark _)) (pw_or1 (pt_cmpR op_eq (pv 2) pe_str (nomark _))))) (pss_one (ps_ret (pv 2))) pss_nil)
      (pss_cons (ps_set (i := 3) sc__law_text.nd rfl (.inl rfl) (pe_op op_mod (pe_op op_fdiv (pe_callB (cr_sumK (K := K) rfl rfl) (by rfl) T.sum (by decide +kernel) (pa_cons (pv 1) pa_nil)) pe_int) (pe_callB call_len_str (by rfl) T.len (by decide +kernel) (pa_cons (pv 2) pa_nil))))
      (pss_one (ps_ret (pe_op op_add_str (pe_op op_add_str (pe_slice sl_str (pv 2) po_none (po_some (pv 3))) (pe_ix ix_str pe_str (pe_op op_mod (pe_ix (ix_listK (K := K) rfl) (pv 1) pe_int (fun _ _ => rfl)) pe_int) (fun _ _ => rfl))) (pe_slice sl_str (pv 2) (po_some (pe_op op_add (pv 3) pe_int)) po_none)))))))), ?_⟩
    have hsum : ∀ H1, Ex H H1 → ∀ σ : L2.St, σ[1]? = some (some (.ref s2)) → Ev (tCB (rSum K) (tCons (tVar 1) tNil)) σ H1 (.int ns.sum) := fun H1 e σ h0 => ev_sum (ev_var h0) (ex_l e hs)
    refine sev_run (sev_is (sev_when (b := decide (ws = [])) (et_B (ev_eqQ enc_tx (eq_at (ev_var rfl) hp) (eq_new (xs := ([] : List Wd).map tx) el_lst0) (fun a ha => okC_of (hw.ok a ha).2.1) (by simp))) (fun he => ?_) (fun he => ?_)) (w := tx (textOf ws ns)) rfl) q
    · have he := of_decide_eq_true he
      refine sev_is (sev_ret (ev_op ev_cS (ev_op (hsum _ (Ex.refl _) _ rfl) ev_c (rv_mod (by decide))) (rv_repS ⟨⟨by omega, by omega⟩, by decide +kernel⟩))) ?_
      unfold textOf; rw [if_pos he]
    · have he := of_decide_eq_false he
      obtain ⟨b1, b2⟩ := base_ok hw ns he
      have hl : 0 < ws.length := List.length_pos_iff.mpr he
      refine sev_asg (x := tx ((ns.take 9).map fun c => wat ws (c / 5 % (ws.length : Int)).toNat).flatten) ?_ ?_
      · refine ev_join (ev_is ev_cS (congrArg tx codes_nil)) (el_mapNS (ys := ns.take 9) (φ := V.int) ?_ (by rw [List.length_take]; omega) (fun _ => rfl) fun c hc => ?_) (by omega)
        · rw [List.map_take, ← cutV_to]
          exact el_sl (ev_var rfl) eo_none (eo_some ev_c) hs
        · have h1 := Int.emod_nonneg (c / 5) (show (ws.length : Int) ≠ 0 by omega)
          have h2 := Int.emod_lt_of_pos (c / 5) (show (0 : Int) < ws.length by omega)
          have e9 : (((ws.map tx).length : Nat) : Int) = (ws.length : Int) := by rw [List.length_map]
          refine ev_op (ev_var rfl) (ev_op (ev_op (ev_var rfl) ev_c (rv_fdiv ⟨by decide, by decide⟩)) (y := .int (ws.length : Int)) (by rw [← e9]; exact ev_len' (ev_var rfl) hp) (rv_mod (by omega))) (rv_ixL hp (atI_of h1 (wat_get (by omega))))
      · unfold textOf
        rw [if_neg he]
        have hgen : ((ns.take 9).map fun c => wat ws (c / 5 % (ws.length : Int)).toNat).flatten ≠ [] → ns ≠ [] := fun h e => by subst e; exact h rfl
        generalize ((ns.take 9).map fun c => wat ws (c / 5 % (ws.length : Int)).toNat).flatten = t at *
        refine sev_when (b := decide (0 < ns.sum / 4 % 3) || decide (t = codes "")) (et_or (et_test (ev_op (ev_op (ev_op (hsum _ (Ex.refl _) _ rfl) ev_c (rv_fdiv ⟨by decide, by decide⟩)) ev_c (rv_mod (by decide))) ev_c rv_gt)) fun _ => et_test (ev_op (ev_var rfl) ev_cS rv_eqS)) (fun h2 => ?_) (fun h2 => ?_)
        · rw [codes_nil] at h2
          rw [if_pos (by simpa using h2)]
          exact sev_ret (ev_var rfl)
        · rw [codes_nil] at h2
          rw [if_neg (by simpa using h2)]
          have ht : 0 < t.length := List.length_pos_iff.mpr fun e => by rw [e] at h2; simp at h2
          have h3 := Int.emod_nonneg (ns.sum / 12) (show (t.length : Int) ≠ 0 by omega)
          have h4 := Int.emod_lt_of_pos (ns.sum / 12) (show (0 : Int) < t.length by omega)
          have hns : ns ≠ [] := hgen (List.length_pos_iff.mp ht)
          have hn0 : (ns.map V.int)[0]? = some (.int (ns.getD 0 0)) := by
            cases ns with
            | nil => exact absurd rfl hns
            | cons c r => rfl
          generalize hat : ns.sum / 12 % (t.length : Int) = at' at *
          have e5 : at' = ((at'.toNat : Nat) : Int) := by omega
          refine sev_asg (x := .int ((at'.toNat : Nat) : Int)) (ev_is (ev_op (ev_op (hsum _ (Ex.refl _) _ rfl) ev_c (rv_fdiv ⟨by decide, by decide⟩)) (ev_lenS (ev_var rfl) (by omega)) (rv_mod (by omega))) (by rw [hat, ← e5])) ?_
          have e6 : ((at'.toNat : Nat) : Int) + 1 = ((at'.toNat + 1 : Nat) : Int) := by omega
          have eabz : (codes "abz").length = 3 := by decide +kernel
          have hm0 := Int.emod_nonneg (ns.getD 0 0) (show (3 : Int) ≠ 0 by decide)
          have hm1 := Int.emod_lt_of_pos (ns.getD 0 0) (show (0 : Int) < 3 by decide)
          refine sev_ret (ev_op (x := tx (t.take at'.toNat ++ [(codes "abz").getD (ns.getD 0 0 % 3).toNat 0])) (y := tx (t.drop (at'.toNat + 1))) (ev_op (x := tx (t.take at'.toNat)) (ev_is (ev_slS (ev_var rfl) eo_none (eo_some (ev_var rfl)) (by omega)) (congrArg tx (cut_to _ _)))
            (ev_ixW ev_cS (ev_op (ev_op (x := .ref s2) (ev_var rfl) ev_c (rv_ixL hs (atI_nat (j := 0) hn0))) ev_c (rv_mod (by decide))) (by rw [eabz]; decide) hm0 (by rw [eabz]; omega)) (rv_addS (by simp; omega)))
            (ev_is (ev_slS (ev_var rfl) (eo_some (ev_op (ev_var rfl) ev_c rv_add)) eo_none (by omega)) (congrArg tx (by rw [e6]; exact cut_from _ _))) (rv_addS (by simp; omega)))
end
end Tr

set_option Elab.async false
set_option linter.all false
set_option maxRecDepth 100000
set_option maxHeartbeats 4000000
/-! PrSuf: the letters and the suffixes of a script's code, in plain Lean. -/
namespace Tr
open PySem PySem.Spec PyProof.Rows L2 Evl
open M3 (wat joinW pre)
theorem getD_mem {L : Wd} (h : L.length = 3 ∧ okW L) {i : Nat} (hi : i < 3) : L.getD i 0 ∈ L := by
  have e : L.getD i 0 = L[i] := by simp [List.getD, h.1, hi]
  rw [e]; exact List.getElem_mem _
theorem cut_mem {L : Wd} {m : Int} (hL : L.length = 3 ∧ okW L) (hm : 2 ≤ m ∧ m ≤ 3) : ∀ (ns : List Int) (r : List Wd × Wd), (∀ c ∈ r.1.flatten ++ r.2, c ∈ L) → ∀ c ∈ (ns.foldl (stepC L m) r).1.flatten ++ (ns.foldl (stepC L m) r).2, c ∈ L
  | [], r, h => h
  | n :: ns, r, h => by
    rw [List.foldl_cons]
    refine cut_mem hL hm ns _ ?_
    have hc : L.getD (n % m).toNat 0 ∈ L := getD_mem hL (by have := Int.emod_nonneg n (show m ≠ 0 by omega); have := Int.emod_lt_of_pos n (show 0 < m by omega); omega)
    unfold stepC
    split
    · intro d hd
      simp only [List.flatten_append, List.flatten_cons, List.flatten_nil, List.append_nil, List.mem_append, List.mem_singleton] at hd
      rcases hd with hd | hd | hd
      · exact h d (List.mem_append_left _ hd)
      · exact h d (List.mem_append_right _ hd)
      · rw [hd]; exact hc
    · intro d hd
      simp only [List.mem_append, List.mem_singleton] at hd
      rcases hd with hd | hd | hd
      · exact h d (List.mem_append_left _ hd)
      · exact h d (List.mem_append_right _ hd)
      · rw [hd]; exact hc
theorem codeOf_mem (ns : List Int) : ∀ a ∈ codeOf ns, ∀ c ∈ a, c ∈ letW ns.sum := by
  have hL := letW_ok ns.sum
  have hm := modK_ok ns.sum
  have hw : ∀ a ∈ wordsC (cutC (letW ns.sum) (modK (ns.sum % 4)) ns), ∀ c ∈ a, c ∈ letW ns.sum := fun a ha c hc => by
    have h2 := (cut_ok hL hm ns).words.2
    refine cut_mem hL hm ns ([], []) (by simp) c ?_
    show c ∈ (cutC (letW ns.sum) (modK (ns.sum % 4)) ns).1.flatten ++ (cutC (letW ns.sum) (modK (ns.sum % 4)) ns).2
    rw [← h2]
    exact List.mem_flatten.mpr ⟨a, ha, hc⟩
  intro a ha c hc
  unfold codeOf at ha
  split at ha
  · obtain ⟨n, _, rfl⟩ := List.mem_map.mp ha
    rcases List.mem_append.mp hc with h | h
    · rw [List.mem_singleton.mp h]; exact getD_mem hL (by decide)
    · rw [List.mem_singleton.mp (repW_mem h)]; exact getD_mem hL (by decide)
  · split at ha
    · obtain ⟨b, hb, rfl⟩ := List.mem_map.mp ha
      rcases List.mem_append.mp hc with h | h
      · rw [List.mem_singleton.mp h]; exact getD_mem hL (by decide)
      · exact hw b hb c (List.mem_reverse.mp h)
    · exact hw a ha c hc
/-! ### suffixes -/
def sufs (ws : List Wd) : List Wd := ws.flatMap fun a => (List.range (a.length - 1)).map fun k => a.drop (k + 1)
theorem mem_sufs {ws : List Wd} {a : Wd} (ha : a ∈ ws) {k : Nat} (hk : 0 < k) (hne : a.drop k ≠ []) : a.drop k ∈ sufs ws := by
  have hl : k < a.length := by
    rcases Nat.lt_or_ge k a.length with h | h
    · exact h
    · exact absurd (List.drop_eq_nil_of_le h) hne
  refine List.mem_flatMap.mpr ⟨a, ha, List.mem_map.mpr ⟨k - 1, List.mem_range.mpr (by omega), ?_⟩⟩
  have : k - 1 + 1 = k := by omega
  rw [this]
theorem sufs_len : ∀ (ws : List Wd), (∀ a ∈ ws, a ≠ []) → (sufs ws).length + ws.length = ws.flatten.length
  | [], _ => rfl
  | a :: ws, h => by
    have ih := sufs_len ws fun b hb => h b (by simp [hb])
    have hl : 0 < a.length := List.length_pos_iff.mpr (h a (by simp))
    unfold sufs at ih ⊢
    rw [List.flatMap_cons, List.length_append, List.length_map, List.length_range, List.flatten_cons, List.length_append, List.length_cons]
    omega
theorem repW_one (c : Nat) (n : Int) : repW [c] n = List.replicate n.toNat c := by
  unfold repW
  induction n.toNat with
  | zero => rfl
  | succ k ih => rw [List.replicate_succ, List.flatten_cons, ih, List.replicate_succ]; rfl
theorem codeOf_suf {ns : List Int} (hn : ns.length ≤ 63) : SufOk (codeOf ns) := by
  have hL := letW_ok ns.sum
  have hm := modK_ok ns.sum
  have hk := cut_ok hL hm ns
  obtain ⟨w1, w2⟩ := hk.words
  have hlen := hk.len
  rw [← w2] at hlen
  generalize hW : wordsC (cutC (letW ns.sum) (modK (ns.sum % 4)) ns) = ws at *
  unfold codeOf
  split
  · -- one letter ahead of like ones
    refine ⟨(List.range 9).map fun j => List.replicate j ((letW ns.sum).getD 0 0), by simp, fun a ha k hk0 hne => ?_⟩
    obtain ⟨c, _, rfl⟩ := List.mem_map.mp ha
    rw [repW_one] at hne ⊢
    obtain ⟨k', rfl⟩ : ∃ k', k = k' + 1 := ⟨k - 1, by omega⟩
    rw [List.singleton_append, List.drop_succ_cons, List.drop_replicate]
    exact List.mem_map.mpr ⟨_, List.mem_range.mpr (by omega), rfl⟩
  · split
    · rw [hW]
      refine ⟨sufs (ws.map fun a => [(letW ns.sum).getD 2 0] ++ a.reverse), ?_, fun a ha k hk0 hne => mem_sufs ha hk0 hne⟩
      have h1 := sufs_len (ws.map fun a => [(letW ns.sum).getD 2 0] ++ a.reverse) fun a ha => by
        obtain ⟨b, _, rfl⟩ := List.mem_map.mp ha; simp
      have h2 : (ws.map fun a => [(letW ns.sum).getD 2 0] ++ a.reverse).flatten.length = ws.length + ws.flatten.length := by
        clear h1 hlen w1 w2 hW
        induction ws with
        | nil => rfl
        | cons a r ih =>
          rw [List.map_cons, List.flatten_cons, List.flatten_cons, List.length_append, List.length_append, ih]
          simp; omega
      rw [h2, List.length_map] at h1
      omega
    · rw [hW]
      refine ⟨sufs ws, ?_, fun a ha k hk0 hne => mem_sufs ha hk0 hne⟩
      have h1 := sufs_len ws w1
      omega
end Tr

set_option Elab.async false
set_option linter.all false
set_option maxRecDepth 100000
set_option maxHeartbeats 4000000
namespace Tr
open PySem PySem.Spec PyProof.Rows L2 Evl
open M3 (wat joinW pre)
abbrev s__law_tails : Stmt := topS 37
abbrev N__law_tails : List Str := ["_law_code_here", "_law_tails_here", "_law_place", "_law_word", "_law_others", "_law_tail", "_law_other"]
theorem sc__law_tails : FnScope N__law_tails ["_law_code_here", "_law_tails_here"] (defScope s__law_tails) := ⟨rfl, rfl, rfl, by decide +kernel, rfl, by decide +kernel, by decide +kernel⟩
local macro_rules | `(tactic| walk_at "sd") => `(tactic| first | assumption | rfl | omega | decide | (solve_by_elim) | (refine Nat.le_trans (m := 1000) (by solve_by_elim) (by decide)))
local macro_rules | `(tactic| walk_at "rv") => `(tactic| first
  | exact rv_add | exact rv_sub | exact rv_lt | exact rv_le | exact rv_gt | exact rv_ge | exact rv_eqI | exact rv_eqS | exact rv_eqB | exact rv_neI | exact rv_neS | exact rv_neB
  | exact rv_mod (by walk_at "sd") | exact rv_fdiv (by first | assumption | exact ⟨by omega, by omega⟩) | exact rv_addS (by walk_at "sd") | exact rv_isB | exact rv_notB | assumption)
local macro_rules | `(tactic| walk_at "ea") => `(tactic| first
  | exact ea_nil
  | (refine' ea_cons ?k1 ?k2; (case k1 => walk_at "ev"); (case k2 => walk_at "ea")))
local macro_rules | `(tactic| walk_at "eo") => `(tactic| first
  | exact eo_none
  | (refine' eo_some ?k1; (case k1 => walk_at "ev")))
local macro_rules | `(tactic| walk_at "et") => `(tactic| first
  | (refine' et_test ?k1; (case k1 => walk_at "ev"))
  | (refine' et_B ?k1; (case k1 => walk_at "ev"))
  | (refine' et_and ?k1 ?k2; (case k1 => walk_at "et"); (case k2 => (intro _; walk_at "et")))
  | (refine' et_or ?k1 ?k2; (case k1 => walk_at "et"); (case k2 => (intro _; walk_at "et")))
  | (refine' et_not ?k1; (case k1 => walk_at "et"))
  | assumption)
local macro_rules | `(tactic| walk_at "ev") => `(tactic| first
  | assumption
  | exact ev_cS
  | exact ev_c
  | exact ev_var rfl
  | (refine' ev_op ?k1 ?k2 ?k3; (case k1 => walk_at "ev"); (case k2 => walk_at "ev"); (case k3 => walk_at "rv"))
  | (refine' ev_un ?k1 ru_neg; (case k1 => walk_at "ev"))
  | (refine' ev_chain ?k1 ?k2 ?k3 ?k4 ?k5; (case k1 => walk_at "ev"); (case k2 => walk_at "ev"); (case k3 => walk_at "ev"); (case k4 => walk_at "rv"); (case k5 => (intro _; walk_at "rv")))
  | (refine' ev_slS ?k1 ?k2 ?k3 ?k4; (case k1 => walk_at "ev"); (case k2 => walk_at "eo"); (case k3 => walk_at "eo"); (case k4 => walk_at "sd"))
  | (refine' ev_lenS ?k1 ?k2; (case k1 => walk_at "ev"); (case k2 => walk_at "sd"))
  | (refine' ev_len' ?k1 ?k2; (case k1 => walk_at "ev"); (case k2 => walk_at "sd"))
  | (refine' ev_strip ?k1 ?k2 ?k3; (case k1 => walk_at "ev"); (case k2 => walk_at "ev"); (case k3 => walk_at "sd"))
  | (refine' ev_sum ?k1 ?k2; (case k1 => walk_at "ev"); (case k2 => walk_at "sd"))
  | (refine' ev_isi ?k1 ?k2 ?k3 ?k4; (case k1 => walk_at "ev"); (case k2 => walk_at "ev"); (case k3 => first | exact ty_int | exact ty_bl | exact ty_str | exact ty_list (by walk_at "sd")); (case k4 => first | exact kit_ty (r := true) (by decide +kernel) | exact kit_ty (r := false) (by decide +kernel)))
  | (refine' ev_andV ?k1 ?k2; (case k1 => walk_at "ev"); (case k2 => (intro _; walk_at "ev")))
  | (refine' ev_orV ?k1 ?k2; (case k1 => walk_at "ev"); (case k2 => (intro _; walk_at "ev")))
  | (refine' ev_notV ?k1; (case k1 => walk_at "ev"))
  | (refine' ev_call ?k1 ?k2; (case k1 => walk_at "ea"); (case k2 => walk_at "sv")))
local macro_rules | `(tactic| walk_at "el") => `(tactic| first
  | assumption
  | (refine' el_mapB ?k1 ?k2 ?k3 (fun _ => rfl) ?k5; (case k1 => walk_at "ev"); (case k2 => walk_at "sd"); (case k3 => walk_at "sd"); (case k5 => (intro _ _; walk_at "ev")))
  | (refine' el_mapI ?k1 ?k2 ?k3 (fun _ => rfl) ?k5; (case k1 => walk_at "ev"); (case k2 => walk_at "sd"); (case k3 => walk_at "sd"); (case k5 => (intro _ _; walk_at "ev")))
  | (refine' el_mapS ?k1 ?k2 ?k3 (fun _ => rfl) ?k5; (case k1 => walk_at "ev"); (case k2 => walk_at "sd"); (case k3 => walk_at "sd"); (case k5 => (intro _ _; walk_at "ev"))))
local macro_rules | `(tactic| walk_at "ev") => `(tactic| first
  | (refine' ev_all ?k1; (case k1 => walk_at "el"))
  | (refine' ev_any ?k1; (case k1 => walk_at "el"))
  | (refine' ev_sumN ?k1; (case k1 => walk_at "el"))
  | (refine' ev_join ?k1 ?k2 ?k3; (case k1 => exact ev_is ev_cS (congrArg tx codes_nil)); (case k2 => walk_at "el"); (case k3 => walk_at "sd")))

local macro_rules | `(tactic| walk_at "sv") => `(tactic| first | exact sv_stands (by walk_at "sd") (by walk_at "sd"))
theorem inR_app (n : Nat) (xs ys : List Int) : inR n (xs ++ ys) = (inR n xs && inR n ys) := by unfold inR; rw [List.all_append]
theorem cutV_from (xs : List V) (i : Nat) : cutV xs (some (i : Int)) none = xs.drop i := by
  unfold cutV
  rw [HT.sIx_nat, HT.sIx_none]
  have : xs.drop (min i xs.length) = xs.drop i := by
    rcases Nat.le_total i xs.length with h | h
    · rw [Nat.min_eq_left h]
    · rw [Nat.min_eq_right h, List.drop_length, List.drop_eq_nil_of_le h]
  rw [this]
  exact List.take_of_length_le (by simp; omega)
section
variable {P : Program} {w : World} {K : PySem.W.Frag} {mg : Str → Option Value} {base : Heap} {H : Hp}
/-! ### _law_tails -/
theorem others_any (ws ts : List Wd) {i : Nat} (hi : i < ws.length) : ((ws.take i ++ ws.drop (i + 1)).any fun o => pre (wat ws i) o && !decide (o.drop (wat ws i).length ∈ ts)) = !((List.range ws.length).all (tlB ws ts i)) := by
  have key : ((ws.take i ++ ws.drop (i + 1)).any fun o => pre (wat ws i) o && !decide (o.drop (wat ws i).length ∈ ts)) = true ↔ ∃ j, j < ws.length ∧ tlB ws ts i j = false := by
    rw [List.any_eq_true]
    constructor
    · rintro ⟨o, ho, hf⟩
      have : ∃ j, j < ws.length ∧ j ≠ i ∧ wat ws j = o := by
        rcases List.mem_append.mp ho with h | h
        · obtain ⟨j, hj, e⟩ := List.getElem_of_mem h
          rw [List.length_take] at hj
          refine ⟨j, by omega, by omega, ?_⟩
          rw [List.getElem_take] at e
          simp [wat, List.getD, show j < ws.length by omega, e]
        · obtain ⟨j, hj, e⟩ := List.getElem_of_mem h
          rw [List.length_drop] at hj
          refine ⟨i + 1 + j, by omega, by omega, ?_⟩
          rw [List.getElem_drop] at e
          simp [wat, List.getD, show i + 1 + j < ws.length by omega, e]
      obtain ⟨j, h1, h2, rfl⟩ := this
      refine ⟨j, h1, ?_⟩
      unfold tlB
      rw [decide_eq_false h2, Bool.not_false, Bool.true_and, hf]; rfl
    · rintro ⟨j, h1, h2⟩
      unfold tlB at h2
      have h3 : (!decide (j = i) && pre (wat ws i) (wat ws j) && !decide ((wat ws j).drop (wat ws i).length ∈ ts)) = true := by
        cases hb : (!decide (j = i) && pre (wat ws i) (wat ws j) && !decide ((wat ws j).drop (wat ws i).length ∈ ts)) with
        | true => rfl
        | false => rw [hb] at h2; cases h2
      rw [Bool.and_assoc, Bool.and_eq_true] at h3
      have h4 : j ≠ i := by simpa using h3.1
      refine ⟨wat ws j, ?_, h3.2⟩
      have hg := M3.wat_getElem h1
      rcases Nat.lt_or_ge j i with hlt | hge
      · exact List.mem_append_left _ (List.mem_of_getElem? (i := j) (by rw [List.getElem?_take]; rw [if_pos hlt]; exact hg))
      · refine List.mem_append_right _ (List.mem_of_getElem? (i := j - (i + 1)) ?_)
        rw [List.getElem?_drop, show i + 1 + (j - (i + 1)) = j by omega]; exact hg
  cases ha : (List.range ws.length).all (tlB ws ts i) with
  | true =>
    rw [Bool.not_true, Bool.eq_false_iff]
    intro hc
    obtain ⟨j, h1, h2⟩ := key.mp hc
    rw [List.all_eq_true] at ha
    have := ha j (List.mem_range.mpr h1)
    rw [this] at h2; cases h2
  | false =>
    rw [List.all_eq_false] at ha
    obtain ⟨j, h1, h2⟩ := ha
    exact key.mpr ⟨j, List.mem_range.mp h1, by simpa using h2⟩
def spLawTails (K : PySem.W.Frag) : Sp := fun vs H Q _ => ∃ (p l : Addr) (ws ts : List Wd), vs = [.ref p, .ref l] ∧ SqL K H l (ts.map tx) ∧ SqL K H p (ws.map tx) ∧ ws.length ≤ 1000 ∧ (∀ a ∈ ws, a.length ≤ 1000) ∧ ts.length ≤ 6000 ∧ (∀ t ∈ ts, t.length ≤ 1000) ∧ ∀ H', Ex H H' → Q (.bl (tlV ws ts)) H'
theorem ok__law_tails (D : DefAt K mg "_law_tails" s__law_tails ["_law_code_here", "_law_tails_here"]) (T : Blt mg) (C__law_stands : Cal P w K mg base 1 "_law_stands" spStands) : Cal P w K mg base 2 "_law_tails" (spLawTails K) := by
  refine cal_of D sc__law_tails (fun vs H Q E h => ?_) (fun f cdv A outer s H vs Q E hr h => ?_)
  · obtain ⟨p, l, ws, ts, rfl, _⟩ := h; rfl
  · obtain ⟨p, l, ws, ts, rfl, hl, hp, hwl, hwa, htl, hta, k⟩ := h
    refine ⟨_, (pss_cons (ps_if (pt_cmpR (op_in_seqK (K := K) rfl) pe_str (pv 1) rfl) (pss_one (ps_ret pe_bl)) pss_nil)
      (pss_cons (ps_for PassesOwn.never rfl (pi_enumK (K := K) rfl (by rfl) T.enumerate (pa_cons (pv 0) pa_nil)) (pg_tupK (K := K) (n := 2) rfl rfl (pgs_cons (pg_name (i := 2) sc__law_tails.nd rfl (.inl rfl)) (pgs_cons (pg_name (i := 3) sc__law_tails.nd rfl (.inr rfl)) pgs_nil))) (pss_cons (ps_set (i := 4) sc__law_tails.nd rfl (.inl rfl) (pe_op op_cat (pe_slice (sl_listK (K := K) rfl) (pv 0) po_none (po_some (pv 2))) (pe_slice (sl_listK (K := K) rfl) (pv 0) (po_some (pe_op op_add (pv 2) pe_int)) po_none)))
      (pss_cons (ps_if (pt_val (pe_callB (cr_anyK (K := K) rfl rfl) (by rfl) T.any (by decide +kernel) (pa_cons (pe_lc (own := [("_law_other", 6)]) rfl sc__law_tails.nd (pi_listK (K := K) rfl (pv 4)) (blkOk_by (own := [("_law_other", 6)]) (N := N__law_tails) (sc := defScope s__law_tails) (by decide +kernel)) (fun _ _ _ _ _ => (pg_name (i := 6) sc__law_tails.nd rfl (.inl rfl))) (fun _ _ _ _ _ => pts_nil) (fun _ _ _ _ _ => (pe_and (pe_c C__law_stands hr (by decide) (by rfl) (pa_cons (pv 3) (pa_cons (pv 6) (pa_cons pe_int pa_nil)))) (pe_one (pe_cmpR (op_notIn_seqK (K := K) rfl) (pe_slice sl_str (pv 6) (po_some (pe_callB call_len_str (by rfl) T.len (by decide +kernel) (pa_cons (pv 3) pa_nil))) po_none) (pv 1) rfl))))) pa_nil))) (pss_one (ps_ret pe_bl)) pss_nil)
      (pss_one (ps_for PassesOwn.never rfl (pi_listK (K := K) rfl (pv 1)) (pg_name (i := 5) sc__law_tails.nd rfl (.inl rfl)) (pss_cons (ps_if (PW.pt (pw_and (pt_val (pe_c C__law_stands hr (by decide) (by rfl) (pa_cons (pv 5) (pa_cons (pv 3) (pa_cons pe_int pa_nil))))) (pw_and1 (pt_cmpR (op_notIn_seqK (K := K) rfl) (pe_slice sl_str (pv 3) (po_some (pe_callB call_len_str (by rfl) T.len (by decide +kernel) (pa_cons (pv 5) pa_nil))) po_none) (pv 1) rfl)))) (pss_one (ps_ret pe_bl)) pss_nil)
      (pss_one (ps_if (PW.pt (pw_and (pt_val (pe_c C__law_stands hr (by decide) (by rfl) (pa_cons (pv 3) (pa_cons (pv 5) (pa_cons pe_int pa_nil))))) (pw_and1 (pt_cmpR (op_notIn_seqK (K := K) rfl) (pe_slice sl_str (pv 5) (po_some (pe_callB call_len_str (by rfl) T.len (by decide +kernel) (pa_cons (pv 3) pa_nil))) po_none) (pv 1) rfl)))) (pss_one (ps_ret pe_bl)) pss_nil))))))))
      (pss_one (ps_ret pe_bl)))), ?_⟩
    have hwat : ∀ i, i < ws.length → (wat ws i).length ≤ 1000 := fun i hi => hwa _ (List.mem_of_getElem? (M3.wat_getElem hi))
    refine q_when (b := decide ([] ∈ ts)) (et_B (ev_inW (ev_is ev_cS (congrArg tx codes_nil)) (ev_var rfl) hl)) (fun h0 H1 e1 => ?_) (fun h0 H1 e1 => ?_)
    · have : tlV ws ts = false := by unfold tlV; rw [h0]; rfl
      rw [this] at k
      exact s_ret ev_c fun H2 e2 => k H2 (e1.trans e2)
    · have hsh : tlV ws ts = (List.range ws.length).all (tlA ws ts) := by unfold tlV; rw [h0]; rfl
      rw [hsh] at k
      have bad : ∀ i, i < ws.length → tlA ws ts i = false → ∀ H2, Ex H H2 → Q (.bl false) H2 := fun i hi hf H2 e2 => by
        have : (List.range ws.length).all (tlA ws ts) = false := by
          rw [List.all_eq_false]
          exact ⟨i, List.mem_range.mpr hi, by rw [hf]; decide⟩
        rw [this] at k
        exact k H2 e2
      refine q_forEnum (a := p) (xs := ws.map tx) (ev_var rfl) (ex_l e1 hp) (fun i σ' H' => ∃ s2 s3 s4 s5, Ex H H' ∧ (∀ i', i' < i → i' < ws.length → tlA ws ts i' = true) ∧ σ' = [some (.ref p), some (.ref l), s2, s3, s4, s5, none])
        (fun H2 e2 => ⟨_, _, _, _, e1.trans e2, fun i' h => by omega, rfl⟩) (fun i σ' H' hP => by obtain ⟨_, _, _, _, e, _⟩ := hP; exact ex_l e hp)
        (fun i σ' H' H'' hP e => by obtain ⟨s2, s3, s4, s5, h1, h3, h4⟩ := hP; exact ⟨s2, s3, s4, s5, h1.trans e, h3, h4⟩) (fun i x σ' H' hi hP => ?_) (fun σ' H' hP => ?_)
      · obtain ⟨s2, s3, s4, s5, ex2, hall, rfl⟩ := hP
        have hil : i < ws.length := by
          have := (List.getElem?_eq_some_iff.mp hi).1
          rwa [List.length_map] at this
        have hx : x = tx (wat ws i) := by
          rw [wat_get hil] at hi
          exact (Option.some.inj hi).symm
        subst hx
        have hwi := hwat i hil
        have e8 : (i : Int) + 1 = ((i + 1 : Nat) : Int) := by omega
        have hp2 := ex_l ex2 hp
        have elo : (ws.take i ++ ws.drop (i + 1)).map tx = cutV (ws.map tx) none (some (i : Int)) ++ cutV (ws.map tx) (some ((i + 1 : Nat) : Int)) none := by
          rw [cutV_to, cutV_from, List.map_append, List.map_take, List.map_drop]
        refine q_asgL (xs := (ws.take i ++ ws.drop (i + 1)).map tx) (by
          rw [elo]
          refine el_catN (el_sl (ev_var rfl) eo_none (eo_some (ev_var rfl)) hp2) (el_sl (ev_var rfl) (eo_some (by rw [← e8]; exact ev_op (ev_var rfl) ev_c rv_add)) eo_none hp2) ?_
          rw [cutV_to, cutV_from, List.length_take, List.length_drop, List.length_map]; omega) fun lo H3 nlo e3 hlo => ?_
        have ex3 := ex2.trans e3
        refine q_when (b := !((List.range ws.length).all (tlB ws ts i))) (et_test (ev_is (ev_any (el_mapB (φ := tx) (g := fun o : Wd => pre (wat ws i) o && !decide (o.drop (wat ws i).length ∈ ts)) (ev_var rfl) (sq_of hlo) (by rw [List.length_append, List.length_take, List.length_drop]; omega) (fun _ => rfl) fun o ho => ?_)) (congrArg V.bl (by rw [List.any_map, ← others_any ws ts hil]; rfl)))) (fun hs H4 e4 => ?_) (fun hs H4 e4 => ?_)
        · have hol : o.length ≤ 1000 := by
            rcases List.mem_append.mp ho with h | h
            · exact hwa o (List.mem_of_mem_take h)
            · exact hwa o (List.mem_of_mem_drop h)
          refine ev_andV (ev_is (ev_call (vs := [tx (wat ws i), tx o, .int ((0 : Nat) : Int)]) (ea_cons (ev_var rfl) (ea_cons (ev_var rfl) (ea_cons ev_c ea_nil))) (sv_stands (by omega) (by omega))) (by unfold standsB; rw [List.drop_zero])) fun _ => ev_niW (ev_is (ev_slS (a := o) (lo := some ((wat ws i).length : Int)) (ev_var rfl) (eo_some (ev_lenS (a := wat ws i) (ev_var rfl) (by omega))) eo_none (by omega)) (congrArg tx (cut_from _ _))) (ev_var rfl) (ex_l ex3 hl)
        · refine s_ret ev_c fun H5 e5 => bad i hil ?_ H5 ((ex3.trans e4).trans e5)
          unfold tlA
          have : (List.range ws.length).all (tlB ws ts i) = false := by simpa using hs
          rw [this]; rfl
        · have hin : (List.range ws.length).all (tlB ws ts i) = true := by simpa using hs
          have ex4 := ex3.trans e4
          refine s_forLn (a := l) (xs := ts.map tx) (ev_var rfl) (ex_l ex4 hl) (fun q σ' H5 => ∃ s5, Ex H H5 ∧ (ts.take q).all (tlT ws ts i) = true ∧ σ' = [some (.ref p), some (.ref l), some (nI i), some (tx (wat ws i)), some (.ref lo), s5, none])
            (fun H5 e5 => ⟨_, ex4.trans e5, rfl, rfl⟩) (fun q σ' H5 _ hP => by obtain ⟨_, e, _⟩ := hP; exact ex_l e hl) (fun q x σ' H5 hq hP => ?_) (fun σ' H5 hP => ?_)
          · obtain ⟨s5, ex5, hq5, rfl⟩ := hP
            have hql : q < ts.length := by
              have := (List.getElem?_eq_some_iff.mp hq).1
              rwa [List.length_map] at this
            have htq : ts[q]? = some ts[q] := List.getElem?_eq_getElem hql
            have hx : x = tx ts[q] := by
              rw [List.getElem?_map, htq] at hq
              exact (Option.some.inj hq).symm
            subst hx
            have htm : ts[q] ∈ ts := List.getElem_mem hql
            generalize ts[q] = t at *
            have htl2 := hta t htm
            have bad2 : tlT ws ts i t = false → ∀ H6, Ex H H6 → Q (.bl false) H6 := fun hf H6 e6 => bad i hil (by
              unfold tlA
              have : ts.all (tlT ws ts i) = false := by
                rw [List.all_eq_false]
                exact ⟨t, htm, by rw [hf]; decide⟩
              rw [this, Bool.and_false]) H6 e6
            refine q_when (b := pre t (wat ws i) && !decide ((wat ws i).drop t.length ∈ ts)) (et_and (et_is (et_test (ev_call (vs := [tx t, tx (wat ws i), .int ((0 : Nat) : Int)]) (ea_cons (ev_var rfl) (ea_cons (ev_var rfl) (ea_cons ev_c ea_nil))) (sv_stands (by omega) (by omega)))) (by unfold standsB; rw [List.drop_zero]))
              fun _ => et_B (ev_niW (ev_is (ev_slS (a := wat ws i) (lo := some (t.length : Int)) (ev_var rfl) (eo_some (ev_lenS (a := t) (ev_var rfl) (by omega))) eo_none (by omega)) (congrArg tx (cut_from _ _))) (ev_var rfl) (ex_l ex5 hl))) (fun hs H6 e6 => ?_) (fun hs H6 e6 => ?_)
            · refine s_ret ev_c fun H7 e7 => bad2 ?_ H7 ((ex5.trans e6).trans e7)
              unfold tlT
              rw [hs]; rfl
            · refine s_when (b := pre (wat ws i) t && !decide (t.drop (wat ws i).length ∈ ts)) (et_and (et_is (et_test (ev_call (vs := [tx (wat ws i), tx t, .int ((0 : Nat) : Int)]) (ea_cons (ev_var rfl) (ea_cons (ev_var rfl) (ea_cons ev_c ea_nil))) (sv_stands (by omega) (by omega)))) (by unfold standsB; rw [List.drop_zero]))
                fun _ => et_B (ev_niW (ev_is (ev_slS (a := t) (lo := some ((wat ws i).length : Int)) (ev_var rfl) (eo_some (ev_lenS (a := wat ws i) (ev_var rfl) (by omega))) eo_none (by omega)) (congrArg tx (cut_from _ _))) (ev_var rfl) (ex_l (ex5.trans e6) hl))) (fun hs2 H7 e7 => ?_) (fun hs2 H7 e7 => ?_)
              · refine s_ret ev_c fun H8 e8 => bad2 ?_ H8 (((ex5.trans e6).trans e7).trans e8)
                unfold tlT
                rw [hs2, Bool.not_true, Bool.and_false]
              · refine ⟨_, (ex5.trans e6).trans e7, all_take htq hq5 ?_, rfl⟩
                unfold tlT
                rw [hs, hs2]; rfl
          · obtain ⟨s5, ex5, hq5, rfl⟩ := hP
            rw [List.length_map, List.take_length] at hq5
            refine ⟨_, _, _, _, ex5, fun i' h1 h2 => ?_, rfl⟩
            rcases Nat.lt_or_ge i' i with hlt | hge
            · exact hall i' hlt h2
            · have : i' = i := by omega
              subst this
              unfold tlA
              rw [hin, hq5]; rfl
      · obtain ⟨s2, s3, s4, s5, ex2, hall, rfl⟩ := hP
        rw [List.length_map] at hall
        have : (List.range ws.length).all (tlA ws ts) = true := by
          rw [List.all_eq_true]
          intro i hi
          exact hall i (List.mem_range.mp hi) (List.mem_range.mp hi)
        rw [this] at k
        exact s_ret ev_c fun H3 e3 => k H3 (ex2.trans e3)
end
end Tr

set_option Elab.async false
set_option linter.all false
set_option maxRecDepth 100000
set_option maxHeartbeats 4000000
/-! TrL1: sorted(xs, key=f) for any f: the sort itself. -/
namespace Tr
open PySem PySem.Spec PyProof.Rows L2 Evl
/-! ### the keys' order -/
/-- a key as a pair: of (text, int) the codes and the int, of a text its codes and 0 -/
abbrev KP := List Nat × Int
def kpLt (p q : KP) : Bool := decide (p.1 < q.1) || (!decide (q.1 < p.1) && decide (p.2 < q.2))
theorem kpLt_iff {p q : KP} : kpLt p q = true ↔ p.1 < q.1 ∨ (¬ q.1 < p.1 ∧ p.2 < q.2) := by
  unfold kpLt
  simp
theorem kpLt_no {p q : KP} : kpLt p q = false ↔ ¬ p.1 < q.1 ∧ (q.1 < p.1 ∨ ¬ p.2 < q.2) := by
  unfold kpLt
  by_cases h1 : p.1 < q.1 <;> by_cases h2 : q.1 < p.1 <;> by_cases h3 : p.2 < q.2 <;> simp [h1, h2, h3]
theorem kp_swo (k : Value → KP) : SrtO.Swo fun v u => kpLt (k v) (k u) := by
  refine ⟨fun x y h => ?_, fun x y z h1 h2 => ?_⟩
  · have a := kpLt_iff.mp h
    refine kpLt_no.mpr ?_
    rcases a with a | ⟨a, b⟩
    · exact ⟨fun z => absurd (List.lt_trans a z) (List.lt_irrefl _), .inl a⟩
    · exact ⟨a, .inr (by omega)⟩
  · have a := kpLt_no.mp h1
    have b := kpLt_no.mp h2
    refine kpLt_no.mpr ⟨?_, ?_⟩
    · exact List.not_lt.mpr (List.le_trans (List.not_lt.mp a.1) (List.not_lt.mp b.1))
    · by_cases h : (k x).1 < (k z).1
      · exact .inl h
      · right
        have e1 : (k x).1 = (k z).1 := List.le_antisymm (List.le_trans (List.not_lt.mp a.1) (List.not_lt.mp b.1)) (List.not_lt.mp h)
        have e2 : (k x).1 = (k y).1 := List.le_antisymm (List.not_lt.mp a.1) (by rw [e1]; exact List.not_lt.mp b.1)
        have a2 := a.2
        have b2 := b.2
        rw [← e2] at a2 b2
        rw [← e1] at b2
        have n := List.lt_irrefl (k x).1
        rcases a2 with a2 | a2
        · exact absurd a2 n
        · rcases b2 with b2 | b2
          · exact absurd b2 n
          · omega
/-- the value v is the key p: a tuple of a text and an int (b), a text (not b) -/
def IsKey (b : Bool) (h : Heap) (v : Value) (p : KP) : Prop :=
  if b = true then ∃ a o x t u n, v = .ref a ∧ h.get? a = some o ∧ o.cls = .type "tuple" ∧ o.data = .seq #[.str x t, .int p.2 u] n ∧ x.cps.toList = p.1 else ∃ x t, v = .str x t ∧ x.cps.toList = p.1 ∧ p.2 = 0
theorem IsKey.keeps {b : Bool} {h h' : Heap} {v : Value} {p : KP} (q : IsKey b h v p) (k : ∀ c o, h.get? c = some o → o.cls = .type "tuple" → h'.get? c = some o) : IsKey b h' v p := by
  unfold IsKey at q ⊢
  split
  · rename_i e
    rw [if_pos e] at q
    obtain ⟨a, o, x, t, u, n, e, ho, hc, hd, hx⟩ := q
    exact ⟨a, o, x, t, u, n, e, k _ _ ho hc, hc, hd, hx⟩
  · rename_i e
    rw [if_neg e] at q
    exact q
def kKind (b : Bool) : SortKind := if b = true then tuples' true else oneType'
section
variable {prog : Program} {w : World} {A : Around} {E : Value → Shared → Prop} {s : Shared}
theorem oneT_lt (v u : Value) : keyLt' oneType' v u = oneLt' true v u := by rfl
theorem key_cmp {b : Bool} {vs : List Value} {k : Value → KP} (hp : ∀ v ∈ vs, IsKey b s.heap v (k v)) : SrtO.Cmp prog w A s (kKind b) (fun p => p.1 ∈ vs) (SrtO.lt2 fun v u => kpLt (k v) (k u)) := by
  intro p q hm hm'
  have h1 := hp _ hm
  have h2 := hp _ hm'
  show wpAny (model prog w) A (keyLt' (kKind b) p.1 q.1) (fun r s' => s' = s ∧ r = kpLt (k p.1) (k q.1)) (fun _ _ => False) s
  cases b with
  | false =>
    unfold IsKey at h1 h2
    rw [if_neg (by decide)] at h1 h2
    obtain ⟨x, t, e, hx, z⟩ := h1
    obtain ⟨x', t', e', hx', z'⟩ := h2
    rw [show keyLt' (kKind false) p.1 q.1 = oneLt' true p.1 q.1 from oneT_lt _ _]
    generalize k p.1 = kp at hx z ⊢
    generalize k q.1 = kq at hx' z' ⊢
    rw [e, e']
    refine oneLt_str ⟨rfl, ?_⟩
    unfold kpLt
    rw [hx, hx', z, z']
    simp
  | true =>
    unfold IsKey at h1 h2
    rw [if_pos rfl] at h1 h2
    obtain ⟨a, o, x, t, u, n, e, ho, hc, hd, hx⟩ := h1
    obtain ⟨a', o', x', t', u', n', e', ho', hc', hd', hx'⟩ := h2
    generalize k p.1 = kp at hd hx ⊢
    generalize k q.1 = kq at hd' hx' ⊢
    obtain ⟨kp1, y⟩ := kp
    obtain ⟨kq1, y'⟩ := kq
    have hx : x.cps.toList = kp1 := hx
    have hx' : x'.cps.toList = kq1 := hx'
    subst hx hx'
    have hd : o.data = .seq #[.str x t, .int y u] n := hd
    have hd' : o'.data = .seq #[.str x' t', .int y' u'] n' := hd'
    rw [e, e']
    refine PySem.W.kat_lt ho hd ho' hd' ?_
    show PySem.W.KatLex prog w A true (decide (2 < 2)) _ [(.str x t, .str x' t'), (.int y u, .int y' u')] 0 s
    refine PySem.W.kat_cons (SeqAt.EqAt.str_str x t x' t' prog w _ _ ?_)
    refine PySem.W.kat_go (fun e1 => ?_) (fun e1 => ?_)
    · have ex : x = x' := by simpa using e1
      refine PySem.W.kat_yes (PySem.W.kat_cons (SeqAt.EqAt.int_int y u y' u' prog w _ _ ?_))
      refine PySem.W.kat_go (fun e2 => ?_) (fun e2 => ?_)
      · have ey : y = y' := by simpa using e2
        refine PySem.W.kat_yes (PySem.W.kat_nil ⟨rfl, ?_⟩)
        unfold kpLt
        simp [ex, ey, List.lt_irrefl]
      · refine PySem.W.kat_no (oneLt_any_int ?_)
        refine And.intro rfl ?_
        unfold kpLt
        simp [ex, List.lt_irrefl]
    · have ex : ¬ x = x' := by simpa using e1
      refine PySem.W.kat_no (oneLt_any_str ?_)
      refine And.intro rfl ?_
      unfold kpLt
      have hne : ¬ x.cps.toList = x'.cps.toList := fun z => ex (by
        obtain ⟨c⟩ := x
        obtain ⟨c'⟩ := x'
        have z2 : c = c' := Array.ext' z
        rw [z2])
      by_cases h3 : x.cps.toList < x'.cps.toList
      · simp [h3]
      · have h4 : x'.cps.toList < x.cps.toList := by
          by_cases h5 : x'.cps.toList < x.cps.toList
          · exact h5
          · exact absurd (List.le_antisymm (List.not_lt.mp h5) (List.not_lt.mp h3)) hne
        simp [h3, h4]
theorem tups_of {h : Heap} {k : Value → KP} : ∀ {vs : List Value}, (∀ v ∈ vs, IsKey true h v (k v)) → ∃ fs : List Value, PySem.W.KatTups h vs fs ∧ fs.length = vs.length ∧ ∀ f ∈ fs, ∃ x t, f = Value.str x t
  | [], _ => ⟨[], PySem.W.KatTups.nil, rfl, fun _ hm => by simp at hm⟩
  | v :: vs, hp => by
    obtain ⟨fs, h1, h2, h3⟩ := tups_of (vs := vs) fun v' hm => hp v' (List.mem_cons_of_mem _ hm)
    have h4 := hp v (List.mem_cons_self ..)
    unfold IsKey at h4
    rw [if_pos rfl] at h4
    obtain ⟨a, o, x, t, u, n, e, ho, hc, hd, _⟩ := h4
    subst e
    refine ⟨.str x t :: fs, PySem.W.KatTups.cons ho hc hd rfl h1, by rw [List.length_cons, List.length_cons, h2], fun f hm => ?_⟩
    rcases List.mem_cons.mp hm with rfl | hm
    · exact ⟨x, t, rfl⟩
    · exact h3 f hm
theorem strs_of {h : Heap} {k : Value → KP} : ∀ {vs : List Value}, (∀ v ∈ vs, IsKey false h v (k v)) → ∃ ss : List Str, StrsAre vs ss
  | [], _ => ⟨[], .nil⟩
  | v :: vs, hp => by
    obtain ⟨ss, h1⟩ := strs_of (vs := vs) fun v' hm => hp v' (List.mem_cons_of_mem _ hm)
    have h4 := hp v (List.mem_cons_self ..)
    unfold IsKey at h4
    rw [if_neg (by decide)] at h4
    obtain ⟨x, t, e, _⟩ := h4
    subst e
    exact ⟨x :: ss, .cons x t h1⟩
theorem key_kind {b : Bool} {vs : List Value} {k : Value → KP} {Q : SortKind → Shared → Prop} (h2 : 2 ≤ vs.length) (hp : ∀ v ∈ vs, IsKey b s.heap v (k v)) (h : Q (kKind b) s) : wpAny (model prog w) A (keyKind' vs.toArray) Q E s := by
  cases b with
  | true =>
    obtain ⟨fs, h1, h3, h4⟩ := tups_of hp
    refine PySem.W.kat_kind (T := .type "str") h1 (by omega) (fun f hm => ?_) (by rfl) ?_
    · obtain ⟨x, t, rfl⟩ := h4 f hm
      exact PySem.W.Looks.of_pure rfl
    · have e : (Value.type "str" != Value.type "tuple") = true := by first | decide +kernel | rfl | decide
      rw [e]
      exact h
  | false =>
    obtain ⟨ss, h1⟩ := strs_of hp
    match vs, h2 with
    | v1 :: v2 :: r, _ =>
      rw [keyKind_strs h1]
      exact wpAny_pure h
end
/-! ### the end of list.sort(key=..) -/
section
variable {prog : Program} {w : World} {A : Around} {E : Value → Shared → Prop} {s : Shared} {a kS : Addr} {e e1 : Nat} {keys its : List Value} {P : PySem.Fin → Shared → Prop}
theorem kend {b : Bool} {k : Value → KP} (hk : s.heap.get? kS = some (seqObj "list" keys.toArray e)) (ha : s.heap.get? a = some (seqObj "list" #[] e1)) (hka : kS ≠ a) (hlen : keys.length = its.length) (hz : its.length ≤ sizeLine)
    (hp : ∀ v ∈ keys, IsKey b s.heap v (k v))
    (h : ∀ (out : List Keyed) (h' : Heap) (c : Nat), out.Perm (keys.zip its) → SrtO.Srtd (SrtO.lt2 fun v u => kpLt (k v) (k u)) out → (∀ d o, d ≠ kS → d ≠ a → s.heap.get? d = some o → h'.get? d = some o) → (∃ o, h'.get? kS = some o) →
      h'.get? a = some (seqObj "list" (out.map (·.2)).toArray c) → P (.done (.ret .none)) { s with heap := h' }) :
    wpAny (model prog w) A (ksk_end a false its.toArray e1 (.ref kS) keys.toArray) P E s := by
  have ez : (keys.toArray.zip its.toArray).toList = keys.zip its := by rw [ksk_zip]
  have tail : ∀ st' : SortSt, SrtO.Srtd (SrtO.lt2 fun v u => kpLt (k v) (k u)) (arrOf st').toList → (arrOf st').toList.Perm (keys.zip its) → failedOf st' = none → wpAny (model prog w) A (ksk_tail a false e1 (.ref kS) st') P E s := by
    intro st' h1 h2 hf
    have hl : ((arrOf st').map (·.2)).size = its.length := by
      have q := h2.length_eq
      rw [List.length_zip, hlen, Nat.min_self, Array.length_toList] at q
      rw [Array.size_map, q]
    have s1 := Heap.SameBut.update s.heap kS (Obj.mapSeq fun _ => (#[] : Array Value))
    have na1 : (s.heap.update kS (Obj.mapSeq fun _ => (#[] : Array Value))).get? a = some (seqObj "list" #[] e1) := (s1.2 a hka.symm).trans ha
    have s2 := Heap.SameBut.update (s.heap.update kS (Obj.mapSeq fun _ => (#[] : Array Value))) a (Obj.mapSeq fun _ => (arrOf st').map (·.2))
    obtain ⟨c2, hc2⟩ : ∃ c2, ((s.heap.update kS (Obj.mapSeq fun _ => (#[] : Array Value))).update a (Obj.mapSeq fun _ => (arrOf st').map (·.2))).get? a = some (seqObj "list" ((arrOf st').map (·.2)) c2) :=
      ⟨_, get?_update_seq na1 fun _ => (arrOf st').map (·.2)⟩
    obtain ⟨c3, hc3⟩ : ∃ c3, (s.heap.update kS (Obj.mapSeq fun _ => (#[] : Array Value))).get? kS = some (seqObj "list" #[] c3) := ⟨_, get?_update_seq hk fun _ => #[]⟩
    unfold ksk_tail
    try dsimp only
    refine wpAny_bind (listUpdate_at hk rfl ?_ (by rw [List.size_toArray, hlen]; exact hz) (Nat.zero_le _))
    refine wpAny_bind (wpAny_letGo ?_)
    refine wpAny_bind (seqEpoch_at na1 rfl ?_)
    refine wpAny_bind (listUpdate_at na1 rfl ?_ (Nat.zero_le _) (Nat.le_trans (Nat.le_of_eq hl) (Nat.le_succ_of_le hz)))
    rw [hf]
    simp only [bne_self_eq_false, Bool.false_eq_true, if_false]
    have eo : ((arrOf st').toList.map (·.2)).toArray = (arrOf st').map (·.2) := by
      apply Array.ext'
      rw [Array.toList_map]
    refine wpAny_pure (h (arrOf st').toList _ c2 h2 h1 (fun d o d1 d2 q => (s2.2 d d2).trans ((s1.2 d d1).trans q)) ⟨_, (s2.2 kS hka).trans hc3⟩ (by rw [eo]; exact hc2))
  unfold ksk_end
  try dsimp only
  rw [if_neg (by decide)]
  by_cases h2 : its.toArray.size < 2
  · rw [if_pos h2, if_pos h2]
    refine wpAny_bind (wpAny_pure ?_)
    rw [StateT.run_pure]
    refine wpAny_bind (wpAny_pure ?_)
    try dsimp only
    refine tail (SortSt.mk' general' (keys.toArray.zip its.toArray) #[] 7 none) ?_ (List.Perm.of_eq ez) rfl
    show SrtO.Srtd _ (keys.toArray.zip its.toArray).toList
    rw [ez]
    rw [List.size_toArray] at h2
    have hl : (keys.zip its).length < 2 := by rw [List.length_zip]; omega
    match keys.zip its, hl with
    | [], _ => exact List.Pairwise.nil
    | [v], _ => exact List.pairwise_singleton _ _
    | _ :: _ :: l, h => exact absurd h (by rw [List.length_cons, List.length_cons]; omega)
  · rw [if_neg h2, if_neg h2]
    rw [List.size_toArray] at h2
    refine wpAny_bind (key_kind (b := b) (by omega) hp ?_)
    have hall : SrtO.AllL (fun p : Keyed => p.1 ∈ keys) (keys.toArray.zip its.toArray).toList := fun p hm => by
      rw [ez] at hm
      obtain ⟨x, y⟩ := p
      exact (List.of_mem_zip hm).1
    refine wpAny_bind (wpAny_mono (SrtO.wpS_sortO (st0 := SortSt.mk' (kKind b) (keys.toArray.zip its.toArray) #[] 7 none)
      (Q := fun _ st' => SrtO.Srtd (SrtO.lt2 fun v u => kpLt (k v) (k u)) (arrOf st').toList ∧ SrtO.Stb (SrtO.lt2 fun v u => kpLt (k v) (k u)) (arrOf st').toList (keys.toArray.zip its.toArray).toList ∧ failedOf st' = none) (SrtO.swo2 (kp_swo k)) (key_cmp hp) rfl hall rfl rfl fun st' a1 a2 a3 => ⟨a1, a2, a3⟩) ?_ fun _ _ e => e)
    rintro ⟨⟨⟩, st'⟩ s' ⟨rfl, hp1, hp2, hf⟩
    try dsimp only
    refine tail st' hp1 ?_ hf
    rw [← ez]
    exact hp2.perm
end
end Tr

set_option Elab.async false
set_option linter.all false
set_option maxRecDepth 100000
set_option maxHeartbeats 4000000
/-! TrL2: sorted(xs, key=f): the keys asked for, the call. -/
namespace Tr
open PySem PySem.Spec PyProof.Rows L2 Evl
section
variable {X : Cx} {pins : List (Addr × Obj)} {σ : L2.St} {H H' : Hp} {s : Shared} {b : Addr} {o : Obj}
theorem pin1 (I : Inv X pins σ H s) (f : FpOk X pins H b) (e : s.heap.get? b = some o) (hd : ∀ v, o.data ≠ .cell v) : Inv X (pins ++ [(b, o)]) σ H s :=
  I.pins_of fun p hp => (List.mem_append.mp hp).elim (fun z => I.pin p (List.mem_append_right _ z)) fun z => by
    rw [List.mem_singleton.mp z]
    exact ⟨e, f.1, f.2.1, f.2.2.1, hd⟩
theorem pinned1 (I : Inv X (pins ++ [(b, o)]) σ H s) : s.heap.get? b = some o ∧ H b = none := by
  obtain ⟨e, n, _⟩ := I.pin (b, o) (List.mem_append_right _ (List.mem_append_right _ (List.mem_singleton.mpr rfl)))
  exact ⟨e, n⟩
theorem fp_at (f : FpOk X pins H b) (n : H' b = none) : FpOk X pins H' b := ⟨n, f.2⟩
theorem fp_less {p : Addr × Obj} (f : FpOk X (pins ++ [p]) H b) : FpOk X pins H b :=
  ⟨f.1, f.2.1, f.2.2.1, f.2.2.2.1, f.2.2.2.2.1, fun q hq => f.2.2.2.2.2 q ((List.mem_append.mp hq).elim (fun z => List.mem_append_left _ z) fun z => List.mem_append_right _ (List.mem_append_left _ z))⟩
end
/-- f, called with the item, gives what B says; nothing that is known changes -/
def LamRun (X : Cx) (σ : L2.St) (H : Hp) (f : Addr) (x : V) (B : Hp → V → Prop) : Prop :=
  ∀ (pins : List (Addr × Obj)) (s : Shared) (H1 : Hp) (u : Value), Inv X pins σ H1 s → Ex H H1 → RelV x u → wpAny (model X.prog X.w) X.A.in1.in1 (call (.ref f) [u]) (fun r s' => ∃ v H2, Inv X pins σ H2 s' ∧ RelV v r ∧ Ex H1 H2 ∧ B H2 v) (fun _ _ => False) s
/-- the key of n: the text w n, or the tuple of it and n -/
def KB (b : Bool) (w : Int → List Nat) (n : Int) : Hp → V → Prop := fun H v =>
  if b = true then ∃ t x, v = .ref t ∧ H t = some (.tup [.str x, .int n]) ∧ x.cps.toList = w n else ∃ x, v = .str x ∧ x.cps.toList = w n
theorem up_KB {b : Bool} {w : Int → List Nat} {n : Int} : Up (KB b w n) := fun H H' v e h => by
  unfold KB at h ⊢
  split
  · rename_i hb
    rw [if_pos hb] at h
    obtain ⟨t, x, h1, h2, h3⟩ := h
    exact ⟨t, x, h1, e _ _ h2, h3⟩
  · rename_i hb
    rw [if_neg hb] at h
    exact h
def kpIt (b : Bool) (w : Int → List Nat) (n : Int) : KP := (w n, if b = true then n else 0)
/-- a key's pair by what it is -/
def kpOf (h : Heap) : Value → KP
  | .str x _ => (x.cps.toList, 0)
  | .ref a => match h.get? a with
    | some ob => match ob.data with
      | .seq xs _ => match xs.toList with
        | [.str x _, .int n _] => (x.cps.toList, n)
        | _ => ([], 0)
      | _ => ([], 0)
    | none => ([], 0)
  | _ => ([], 0)
theorem kpOf_is {b : Bool} {h : Heap} {v : Value} {p : KP} (q : IsKey b h v p) : kpOf h v = p := by
  obtain ⟨p1, p2⟩ := p
  unfold IsKey at q
  cases b with
  | true =>
    rw [if_pos rfl] at q
    obtain ⟨a, o, x, t, u, n, e, ho, hc, hd, hx⟩ := q
    subst e
    unfold kpOf
    simp only [ho, hd]
    exact Prod.ext hx rfl
  | false =>
    rw [if_neg (by decide)] at q
    obtain ⟨x, t, e, hx, z⟩ := q
    subst e
    exact Prod.ext hx z.symm
theorem key_is {X : Cx} {pins : List (Addr × Obj)} {σ : L2.St} {H : Hp} {s : Shared} {b : Bool} {w : Int → List Nat} {n : Int} {v : V} {u : Value} (I : Inv X pins σ H s) (h : KB b w n H v) (r : RelV v u) : IsKey b s.heap u (kpIt b w n) := by
  unfold KB at h
  unfold IsKey kpIt
  cases b with
  | true =>
    rw [if_pos rfl] at h ⊢
    obtain ⟨t, x, h1, h2, h3⟩ := h
    subst h1
    obtain rfl : u = .ref t := r
    obtain ⟨_, its, r2, o, ho, hc, k, hd⟩ := I.hok _ _ h2
    obtain ⟨u1, u2, rfl, ri, rj⟩ := vals2 r2
    obtain ⟨t1, rfl⟩ := ri
    obtain ⟨t2, rfl⟩ := rj
    exact ⟨t, o, x, t1, t2, k, rfl, ho, hc, hd, h3⟩
  | false =>
    rw [if_neg (by decide)] at h ⊢
    obtain ⟨x, h1, h2⟩ := h
    subst h1
    obtain ⟨t, rfl⟩ := r
    exact ⟨x, t, rfl, h2, rfl⟩
theorem vals_nums : ∀ {l : List Value}, (∀ v ∈ l, ∃ n t, v = Value.int n t) → Vals ((l.map numOf).map V.int) l
  | [], _ => .nil
  | v :: l, h => by
    obtain ⟨n, t, rfl⟩ := h v (List.mem_cons_self ..)
    exact .cons ⟨t, rfl⟩ (vals_nums fun u hu => h u (List.mem_cons_of_mem _ hu))
theorem no_get {α : Type} {j : Nat} {v : α} (z : ([] : List α)[j]? = some v) : False := by simp at z
theorem vals_snoc : ∀ {vs : List V} {us : List Value} {v : V} {u : Value}, Vals vs us → RelV v u → Vals (vs ++ [v]) (us ++ [u])
  | _, _, _, _, .nil, r => .cons r .nil
  | _, _, _, _, .cons r0 t, r => .cons r0 (vals_snoc t r)
section
variable {X : Cx} {pins : List (Addr × Obj)} {σ : L2.St} {H : Hp} {s : Shared} {a kS f : Addr} {e1 : Nat} {ns : List Int} {its : List Value} {b : Bool} {w : Int → List Nat} {P : PySem.Fin → Shared → Prop} {E : Value → Shared → Prop}
/-- the keys, then the sort -/
theorem krest (I : Inv X pins σ H s) (fa : FpOk X pins H a) (fk : FpOk X pins H kS) (hka : kS ≠ a) (ha : s.heap.get? a = some (seqObj "list" #[] e1)) (hk : s.heap.get? kS = some (seqObj "list" #[] 0)) (r : Vals (ns.map V.int) its) (hz : its.length ≤ sizeLine)
    (lam : ∀ n ∈ ns, LamRun X σ H f (.int n) (KB b w n))
    (h : ∀ (ns' : List Int) (H' : Hp) (s' : Shared), ns'.Perm ns → ns'.Pairwise (fun x y => ¬ w y < w x) → Inv X pins σ H' s' → Ex H H' → H' a = some (.lst (ns'.map V.int)) → P (.done (.ret .none)) s') :
    wpAny (model X.prog X.w) X.A.in1.in1 (ksk_rest a (.ref f) false its.toArray e1 (.ref kS)) P E s := by
  have hi := r.ints
  have hlen := hi.length
  unfold ksk_rest
  refine wpAny_bind (wpAny_rule ?_)
  first
    | rw [List.forIn_toArray]
    | (rw [← Array.forIn_toList]; simp only [List.toList_toArray])
    | rw [← Array.forIn_toList]
  have I0 : Inv X (pins ++ [(a, seqObj "list" #[] e1)]) σ H s := pin1 I fa ha fun v z => by cases z
  have fk0 : FpOk X (pins ++ [(a, seqObj "list" #[] e1)]) H kS := ⟨fk.1, fk.2.1, fk.2.2.1, fk.2.2.2.1, fk.2.2.2.2.1, fun p hp => by
    rcases List.mem_append.mp hp with z | z
    · exact fk.2.2.2.2.2 p (List.mem_append_left _ z)
    · rcases List.mem_append.mp z with z | z
      · exact fk.2.2.2.2.2 p (List.mem_append_right _ z)
      · rw [List.mem_singleton.mp z]
        exact fun q => hka q.symm⟩
  refine wpAny_bind (ksk_fold (fun i s' => ∃ H' ks keys e, Inv X (pins ++ [(a, seqObj "list" #[] e1)]) σ H' s' ∧ Ex H H' ∧ s'.heap.get? kS = some (seqObj "list" keys.toArray e) ∧ FpOk X (pins ++ [(a, seqObj "list" #[] e1)]) H' kS ∧ Vals ks keys ∧ ks.length = i ∧
    ∀ j n v, ns[j]? = some n → ks[j]? = some v → KB b w n H' v) its 0 s ⟨H, [], [], 0, I0, Ex.refl H, hk, fk0, .nil, rfl, fun j n v _ z => (no_get z).elim⟩ ?step ?done)
  case step =>
    rintro j x s' hx ⟨H', ks, keys, e, I', eX, hkS, fk', rk, hl, hB⟩
    simp only [Nat.zero_add] at hl ⊢
    have hj : j < its.length := (List.getElem?_eq_some_iff.mp hx).1
    obtain ⟨n, hn⟩ : ∃ n, ns[j]? = some n := ⟨_, List.getElem?_eq_getElem (by omega)⟩
    have hr : RelV (.int n) x := by
      obtain ⟨u, hu, ru⟩ := r.get (show (ns.map V.int)[j]? = some (.int n) by rw [List.getElem?_map, hn]; rfl)
      rw [hx] at hu
      cases hu
      exact ru
    have I2 := pin1 I' fk' hkS fun v z => by cases z
    refine wpAny_bind (wpAny_attempt (wpAny_mono (lam n (List.mem_of_getElem? hn) _ s' H' x I2 eX hr) (fun u s'' he => ?_) fun _ _ hF => hF.elim))
    obtain ⟨v, H2, I3, rv, e3, hv⟩ := he
    obtain ⟨hk3, nk3⟩ := pinned1 I3
    have I4 := I3.unpinned
    have fk4 := fp_at (H' := H2) fk' nk3
    have klen : keys.length = j := by rw [← rk.length]; exact hl
    try dsimp only
    have s1 := Heap.SameBut.update s''.heap kS (Obj.mapSeq (·.push u))
    obtain ⟨c2, hc2⟩ : ∃ c2, (s''.heap.update kS (Obj.mapSeq (·.push u))).get? kS = some (seqObj "list" (keys.toArray.push u) c2) := ⟨_, get?_update_seq hk3 (·.push u)⟩
    have ea : keys.toArray.push u = (keys ++ [u]).toArray := by simp
    refine wpAny_bind (listUpdate_at hk3 rfl ?_ (by rw [List.size_toArray]; omega) (by rw [Array.size_push, List.size_toArray]; omega))
    have I5 := I4.turnedL (t' := s''.toks) (h' := s''.heap.update kS (Obj.mapSeq (·.push u))) (ch := [kS]) (fun d od hd q => (s1.2 d (fun z => hd (by rw [z]; exact List.mem_singleton.mpr rfl))).trans q) (fun d hd => by rw [List.mem_singleton.mp hd]; exact fk4)
    refine wpAny_pure ⟨rfl, H2, ks ++ [v], keys ++ [u], c2, I5, eX.trans e3, by rw [← ea]; exact hc2, fk4, vals_snoc rk rv, by rw [List.length_append, hl]; rfl, fun i m y h1 h2 => ?_⟩
    by_cases hij : i < ks.length
    · rw [List.getElem?_append_left hij] at h2
      exact up_KB _ _ _ e3 (hB i m y h1 h2)
    · have h3 : i = ks.length := by
        have := (List.getElem?_eq_some_iff.mp h2).1
        rw [List.length_append] at this
        simp only [List.length_cons, List.length_nil] at this
        omega
      rw [h3, List.getElem?_append_right (Nat.le_refl _), Nat.sub_self] at h2
      have h4 : v = y := by simpa using h2
      rw [h3, hl, hn] at h1
      cases h1
      rw [← h4]
      exact hv
  case done =>
    rintro s' ⟨H', ks, keys, e, I', eX, hkS, fk', rk, hl, hB⟩
    simp only [Nat.zero_add] at hl
    have klen : keys.length = its.length := by rw [← rk.length]; exact hl
    obtain ⟨ha', na'⟩ := pinned1 I'
    have fa' := fp_at (H' := H') fa na'
    have I6 := I'.unpinned
    have fk6 := fp_less fk'
    try dsimp only
    refine wpAny_bind (listItems_at hkS rfl ?_)
    have hAt : ∀ (j : Nat) (u : Value) (n : Int), keys[j]? = some u → ns[j]? = some n → IsKey b s'.heap u (kpIt b w n) := fun j u n h1 h2 => by
      obtain ⟨v, hv⟩ : ∃ v, ks[j]? = some v := ⟨_, List.getElem?_eq_getElem (by
        have := (List.getElem?_eq_some_iff.mp h1).1
        rw [rk.length]; exact this)⟩
      obtain ⟨u', hu', ru⟩ := rk.get hv
      rw [h1] at hu'
      cases hu'
      exact key_is I6 (hB j n v h2 hv) ru
    refine kend (b := b) (k := kpOf s'.heap) hkS ha' hka klen hz (fun u hu => ?_) fun out h' c hp hs kp hex hca => ?_
    · obtain ⟨j, hj⟩ := List.mem_iff_getElem?.mp hu
      obtain ⟨n, hn⟩ : ∃ n, ns[j]? = some n := ⟨_, List.getElem?_eq_getElem (by
        have := (List.getElem?_eq_some_iff.mp hj).1
        omega)⟩
      have q := hAt j u n hj hn
      rw [kpOf_is q]
      exact q
    · have hz2 : ∀ p ∈ keys.zip its, ∃ n t, p.2 = Value.int n t ∧ kpOf s'.heap p.1 = kpIt b w n := fun p hm => by
        obtain ⟨j, hj⟩ := List.mem_iff_getElem?.mp hm
        obtain ⟨u, x⟩ := p
        have h1 : keys[j]? = some u ∧ its[j]? = some x := by
          have := List.getElem?_zip_eq_some.mp hj
          exact this
        obtain ⟨n, hn⟩ : ∃ n, ns[j]? = some n := ⟨_, List.getElem?_eq_getElem (by
          have := (List.getElem?_eq_some_iff.mp h1.2).1
          omega)⟩
        obtain ⟨u2, hu2, ru⟩ := r.get (show (ns.map V.int)[j]? = some (.int n) by rw [List.getElem?_map, hn]; rfl)
        rw [h1.2] at hu2
        cases hu2
        obtain ⟨t, rfl⟩ := ru
        exact ⟨n, t, rfl, kpOf_is (hAt j u n h1.1 hn)⟩
      have eits : (keys.zip its).map (·.2) = its := List.map_snd_zip (by omega)
      have enum : its.map numOf = ns := hi.nums
      have hperm : (out.map fun p => numOf p.2).Perm ns := by
        have q := hp.map fun p : Keyed => numOf p.2
        have e2 : (keys.zip its).map (fun p : Keyed => numOf p.2) = ns := by
          rw [← enum]
          conv => rhs; rw [← eits]
          rw [List.map_map]
          rfl
        rw [e2] at q
        exact q
      have hpw : (out.map fun p => numOf p.2).Pairwise (fun x y => ¬ w y < w x) := by
        rw [List.pairwise_map]
        refine List.Pairwise.imp_of_mem (fun {p q} hm1 hm2 hlt => ?_) hs
        obtain ⟨n, t, e4, e5⟩ := hz2 p (hp.mem_iff.mp hm1)
        obtain ⟨m, t', e6, e7⟩ := hz2 q (hp.mem_iff.mp hm2)
        have hlt : kpLt (kpOf s'.heap q.1) (kpOf s'.heap p.1) = false := hlt
        rw [e5, e7] at hlt
        rw [e4, e6]
        exact (kpLt_no.mp hlt).1
      have hvals : Vals ((out.map fun p => numOf p.2).map V.int) (out.map (·.2)) := by
        have q := vals_nums (l := out.map (·.2)) fun v hv => by
          obtain ⟨p, hm, rfl⟩ := List.mem_map.mp hv
          obtain ⟨n, t, e4, _⟩ := hz2 p (hp.mem_iff.mp hm)
          exact ⟨n, t, e4⟩
        have e9 : (out.map (·.2)).map numOf = out.map fun p => numOf p.2 := by rw [List.map_map]; rfl
        rw [e9] at q
        exact q
      have hol : ((out.map fun p => numOf p.2).map V.int).length ≤ sizeLine := by
        rw [List.length_map, hperm.length_eq, ← hlen]
        exact hz
      refine h _ (upd H' a (.lst ((out.map fun p => numOf p.2).map V.int))) _ hperm hpw ?_ (eX.trans (Ex.new na')) upd_same
      have nit : ∀ d u, H' d = some u → d ∉ [kS, a] := fun d u q z => by
        rcases List.mem_cons.mp z with z | z
        · rw [z, fk6.1] at q; cases q
        · rw [List.mem_singleton.mp z, na'] at q; cases q
      have nch : ∀ d, d ∉ [kS, a] → d ≠ kS ∧ d ≠ a := fun d hd => ⟨fun z => hd (by rw [z]; exact List.mem_cons_self ..), fun z => hd (by rw [z]; exact List.mem_cons_of_mem _ (List.mem_singleton.mpr rfl))⟩
      have both : ∀ d ∈ [kS, a], FpOk X pins H' d := fun d hd => by
        rcases List.mem_cons.mp hd with z | z
        · rw [z]; exact fk6
        · rw [List.mem_singleton.mp z]; exact fa'
      refine I6.step (g' := s'.gens) (d' := s'.drawn) (t' := s'.toks) (ch := [kS, a]) (fun d hd => ⟨(both d hd).2.2.2.1, (both d hd).2.1, (both d hd).2.2.2.2.1, (both d hd).2.2.2.2.2⟩) (fun d od _ _ hc q _ => kp d od (nch d hc).1 (nch d hc).2 q)
        (fun d od _ _ hc q _ => ⟨od.slots, kp d od (nch d hc).1 (nch d hc).2 q⟩) (fun d od hc _ n => by rw [upd_ne (nch d hc).2]; exact n) (fun d od hc q => ⟨od, kp d od (nch d hc).1 (nch d hc).2 q⟩)
        (fun d xs q => by rw [upd_ne (nch d (nit d _ q)).2]; exact q) (fun d od u q => by rw [upd_ne (nch d (nit d _ q)).2]; exact q) (fun d ps q => ⟨#[], by rw [upd_ne (nch d (nit d _ q)).2, q]; simp⟩) (fun m hm => ?_) (fun d u q => ?_) I6.bare
      · obtain ⟨od, es, ep, ho, rr⟩ := hm
        have hL : X.env.locals ∉ [kS, a] := fun z => (both _ z).2.1 rfl
        exact ⟨od, es, ep, kp _ od (nch _ hL).1 (nch _ hL).2 ho, rr⟩
      · by_cases hd : d = a
        · rw [hd] at q ⊢
          rw [upd_same] at q
          cases q
          exact ⟨hol, out.map (·.2), c, hvals, hca⟩
        · rw [upd_ne hd] at q
          refine (I6.hok d u q).stay (fun c' v hc' q' => ?_) (fun c' q' => by rw [upd_ne (nch c' (nit c' _ q')).2]; exact q') fun c' xs q' => by rw [upd_ne (nch c' (nit c' _ q')).2]; exact q'
          have hc2 : c' ∉ [kS, a] := by
            rcases hc' with z | z
            · rw [z]; exact nit d u q
            · exact nit c' _ z
          exact kp c' v (nch c' hc2).1 (nch c' hc2).2 q'
/-- list.sort(key=f) of a new list a of ours -/
theorem ktree {n : Nat} (I : Inv X pins σ H s) (fa : FpOk X pins H a) (ho : s.heap.get? a = some (seqObj "list" its.toArray n)) (r : Vals (ns.map V.int) its) (hz : its.length ≤ sizeLine)
    (lam : ∀ n ∈ ns, LamRun X σ H f (.int n) (KB b w n))
    (h : ∀ (ns' : List Int) (H' : Hp) (s' : Shared), ns'.Perm ns → ns'.Pairwise (fun x y => ¬ w y < w x) → Inv X pins σ H' s' → Ex H H' → H' a = some (.lst (ns'.map V.int)) → P (.done (.ret .none)) s') :
    wpAny (model X.prog X.w) X.A.in1.in1 (ksk_tree a (.ref f) false) P E s := by
  have ha : a < s.heap.objs.size := Heap.lt_size ho
  have s1 := Heap.SameBut.update s.heap a (Obj.mapSeq fun _ => (#[] : Array Value))
  obtain ⟨e1, ho1⟩ : ∃ e1, (s.heap.update a (Obj.mapSeq fun _ => (#[] : Array Value))).get? a = some (seqObj "list" #[] e1) := ⟨_, get?_update_seq ho fun _ => #[]⟩
  have I1 := I.turnedL (t' := s.toks) (h' := s.heap.update a (Obj.mapSeq fun _ => (#[] : Array Value))) (ch := [a]) (fun d od hd q => (s1.2 d (fun z => hd (by rw [z]; exact List.mem_singleton.mpr rfl))).trans q) (fun d hd => by rw [List.mem_singleton.mp hd]; exact fa)
  have I2 : Inv X pins σ H { s with heap := (s.heap.update a (Obj.mapSeq fun _ => (#[] : Array Value))).push (seqObj "tuple" its.toArray 0) } := I1.kept (t' := s.toks) fun d od q => Heap.get?_push_of_some _ q
  have fk := I2.fpOk (H' := H) (Nat.le_refl _) (I2.hok.fresh (Nat.le_refl _))
  have I3 : Inv X pins σ H { s with heap := ((s.heap.update a (Obj.mapSeq fun _ => (#[] : Array Value))).push (seqObj "tuple" its.toArray 0)).push (seqObj "list" #[] 0) } := I2.kept (t' := s.toks) fun d od q => Heap.get?_push_of_some _ q
  unfold ksk_tree
  refine wpAny_bind (listItems_at ho rfl ?_)
  refine wpAny_bind (listUpdate_at ho rfl ?_ (by rw [List.size_toArray]; exact hz) (Nat.zero_le _))
  refine wpAny_bind (seqEpoch_at ho1 rfl ?_)
  refine wpAny_bind (wpAny_newTuple ?_ (by show its.length ≤ _; exact hz))
  refine wpAny_bind (wpAny_newList ?_ (Nat.zero_le _))
  refine wpAny_holding ?_
  refine krest (b := b) (w := w) I3 fa fk ?_ (Heap.get?_push_of_some _ (Heap.get?_push_of_some _ ho1)) (Heap.get?_push_size _ rfl) r hz lam h
  show ((s.heap.update a (Obj.mapSeq fun _ => (#[] : Array Value))).push (seqObj "tuple" its.toArray 0)).objs.size ≠ a
  rw [size_push', Heap.size_update]
  exact Nat.ne_of_gt (Nat.lt_succ_of_lt ha)
end
/-! ### sorted(x, key=f) -/
section
variable {X : Cx} {pins : List (Addr × Obj)} {σ : L2.St} {H : Hp} {s : Shared} {l f : Addr} {ns : List Int} {b : Bool} {w : Int → List Nat}
/-- the ints of a list, of a range -/
def IntsOf (K : PySem.W.Frag) (H : Hp) (l : Addr) (ns : List Int) : Prop := SqL K H l (ns.map V.int) ∨ ∃ k : Nat, k ≤ 100000 ∧ H l = some (.rng 0 k) ∧ ns = (List.range k).map fun i => ((i : Nat) : Int)
theorem collect_ints {Q : List Value → Shared → Prop} {E : Value → Shared → Prop} (I : Inv X pins σ H s) (hc : X.calm = true) (h : IntsOf X.K H l ns) (hz : ns.length ≤ 100000)
    (q : ∀ (its : List Value) (h' : Heap) (tk : Nat), Vals (ns.map V.int) its → (∀ d o, s.heap.get? d = some o → h'.get? d = some o) → Q its { s with heap := h', toks := tk }) : wpAny (model X.prog X.w) X.A.in1 (collect (.ref l)) Q E s := by
  rcases h with h | ⟨k, hk, h, e⟩
  · obtain ⟨its, rv, hl, hs⟩ := I.list h
    refine collect_list hl.isList (q its _ s.toks rv fun d o z => ?_) (by rw [← rv.length]; exact hs)
    rw [Heap.get?_update_ne _ _ _ _ (Nat.ne_of_lt (Heap.lt_size z))]
    exact Heap.get?_push_of_some _ z
  · obtain ⟨t, u, v, ho⟩ := I.hok _ _ h
    have hr : IsRange s.heap l 0 k 1 t u v := ho
    refine collect_range (A := X.A.in1) (n := (k - 0 : Int).toNat) (I.ok.hd hc) hr (small_one (by omega) (by omega) (by omega) (by omega)) (rangeSize_nat 0 k) (by omega) fun h' tk acc kp hi => q _ h' tk ?_ kp
    have e2 : ns.map V.int = rgV 0 k := by
      rw [e]
      unfold rgV
      rw [List.map_map, show ((k : Int) - 0).toNat = k by omega]
      refine List.map_congr_left fun i _ => ?_
      show V.int ((i : Nat) : Int) = V.int (0 + (i : Nat))
      rw [Int.zero_add]
    rw [e2]
    exact vals_rg hi
theorem run_sortK {Q : VK} (I : Inv X pins σ H s) (hc : X.calm = true) (hl : IntsOf X.K H l ns) (hz : ns.length ≤ 100000) (lam : ∀ n ∈ ns, LamRun X σ H f (.int n) (KB b w n))
    (q : ∀ (ns' : List Int) (p : Addr) (H' : Hp), ns'.Perm ns → ns'.Pairwise (fun x y => ¬ w y < w x) → Ex H H' → H' p = some (.lst (ns'.map V.int)) → H p = none → Q (.ref p) H') :
    wpAny (model X.prog X.w) X.A (call (.builtin "sorted") [.ref l] [(Str.ofString "key", .ref f)]) (EP X pins σ Q) X.xe s := by
  refine call_function_entry_kw kind_sorted plain_sorted entry_sorted (ksk_s1 _ _) ?_
  unfold Builtin.«sorted»
  refine wpAny_bind (m := checkCount "sorted" 1 1 _) (wpAny_pure ?_)
  refine wpAny_bind (collect_ints I hc hl hz fun its h' tk r kp => ?_)
  have hiz : its.length ≤ sizeLine := by
    have q := r.ints.length
    rw [q]
    exact sz_of hz
  have I1 : Inv X pins σ H { s with heap := h', toks := tk } := I.kept kp
  refine wpAny_bind (wpAny_newList ?_ hiz)
  have I2 : Inv X pins σ H { s with heap := h'.push (seqObj "list" its.toArray 0), toks := tk } := I1.kept (t' := tk) fun d od q => Heap.get?_push_of_some _ q
  have fa := I1.fpOk (H' := H) (Nat.le_refl _) (I1.hok.fresh (Nat.le_refl _))
  have hoL : (h'.push (seqObj "list" its.toArray 0)).get? h'.objs.size = some (seqObj "list" its.toArray 0) := Heap.get?_push_size _ rfl
  show wpAny _ _ _ _ _ { s with heap := h'.push (seqObj "list" its.toArray 0), toks := tk }
  refine wpAny_bind (wpAny_holding (wpAny_call_entry_kw slot_list_sort ⟨_, hoL, rfl⟩ entry_list_sort ?body (ksk_l1 _ _)))
  case body =>
    show wpAny (model X.prog X.w) X.A.in1.in1 (Builtin.«list.sort» ⟨[.ref h'.objs.size], [(Str.ofString "key", .ref f)]⟩) _ _ _
    rw [ksk_t1]
    refine ktree (b := b) (w := w) I2 fa hoL r hiz lam fun ns' H' s' h1 h2 I3 e3 h3 => ⟨_, rfl, ?_⟩
    exact wpAny_pure ⟨_, rfl, ⟨V.ref h'.objs.size, H', I3, rfl, q ns' _ H' h1 h2 e3 h3 fa.1⟩⟩
end
end Tr

set_option Elab.async false
set_option linter.all false
set_option maxRecDepth 100000
set_option maxHeartbeats 4000000
/-! TrL3: a lambda made, and called by its body; sorted(xs, key=lambda ..). -/
namespace Tr
open PySem PySem.Spec PyProof.Rows L2 Evl LamX NdefX
/-! ### the lambda's object -/
structure LF where
  qual : Str
  params : Arguments
  body : Expr
  scope : Scope
  cl : List (Str × Addr)
  c : Addr
abbrev LF.nf (F : LF) : NF := ⟨"<lambda>", F.qual, F.params, [], F.scope, F.cl, F.c⟩
def LFnO (f : Addr) (F : LF) : HO := .ext fun h => ∃ (pm ctv : Value), h.get? f = some (PySem.W.kla_obj "<lambda>" F.qual F.params F.body F.scope F.cl pm F.c ctv)
theorem lfnO_ne {f : Addr} {F : LF} (ps : Array Value) : LFnO f F ≠ .tbl ps := fun z => by
  unfold LFnO at z
  cases z
theorem lfnO_at {P : Program} {w : World} {H : Hp} {h : Heap} {f : Addr} {F : LF} (hok : HOk P w H h) (e : H f = some (LFnO f F)) : ∃ (pm ctv : Value), h.get? f = some (PySem.W.kla_obj "<lambda>" F.qual F.params F.body F.scope F.cl pm F.c ctv) := by
  obtain ⟨z, _, _⟩ := hok f _ e
  exact z
section
variable {X : Cx} {pins : List (Addr × Obj)} {σ : L2.St} {H : Hp} {s : Shared}
theorem inv_lfn {F : LF} {o : Obj} {t' : Nat} {pm ctv : Value} (I : Inv X pins σ H s) (ho : o = PySem.W.kla_obj "<lambda>" F.qual F.params F.body F.scope F.cl pm F.c ctv) :
    Inv X pins σ (upd H s.heap.objs.size (LFnO s.heap.objs.size F)) { s with heap := s.heap.push o, toks := t' } := by
  subst ho
  refine I.laid (a := s.heap.objs.size) (fun b u e => Heap.get?_push_of_some _ e) (Nat.le_refl _) ?_
  have e : (s.heap.push (PySem.W.kla_obj "<lambda>" F.qual F.params F.body F.scope F.cl pm F.c ctv)).get? s.heap.objs.size = some (PySem.W.kla_obj "<lambda>" F.qual F.params F.body F.scope F.cl pm F.c ctv) := Heap.get?_push_size _ rfl
  exact ⟨⟨pm, ctv, e⟩, ⟨_, e⟩, fun h1 h2 ⟨p, t, z⟩ st => ⟨p, t, st _ z⟩⟩
/-- the lambda is made: its code object is new, or found in the table; its object is known from now on -/
theorem lam_make3 {T : List (Addr × Str)} {c P : Addr} {params : Arguments} {body : Expr} {scope : Scope} {pos : Pos} {E : Value → Shared → Prop} {Q : Value → Shared → Prop} (I : Inv X pins σ H s) (TB : TabB X.base X.mg c P) (hcode : X.env.code = .ref c)
    (hm : (P, X.env.qual ++ "<lambda>") ∈ T) (hu : ∀ p ∈ T, p.1 = P → p.2 = X.env.qual ++ "<lambda>") (hT : Tabs T H) (hdef : defaultsOf params X.env = ([], [])) (hfree : ∀ y ∈ scope.names, y.2 = .free → ∃ c, X.env.cells.lookup y.1 = some c)
    (h : ∀ (f c' : Addr) (H1 : Hp) (s' : Shared), Inv X pins σ H1 s' → ExtN H H1 → (∀ b, H1 b = Option.none → H b = Option.none) → Tabs T H1 →
      H1 f = some (LFnO f ⟨X.env.qual ++ "<lambda>", params, body, scope, cloFrom X.env.cells scope.names [], c'⟩) → H1 c' = some (CodeO c' (X.env.qual ++ "<lambda>")) → Q (.ref f) s') :
    wpAny (model X.prog X.w) X.A (eval (.Lambda params body scope pos) X.env) Q E s := by
  obtain ⟨ps, hP, ht, ha⟩ := hT _ hm
  refine PySem.W.kla_eval hdef ?_
  have bP : s.heap.BuiltinsAt X.mg P := TB.bm.keeps I.bk
  have hP' : s.heap.get? P = some { cls := .none, data := .fields ps } := I.hok P _ hP
  cases hc : codeAmong pos ps.toList with
  | none =>
    refine PySem.W.kla_makeFunction (mg := X.mg) (c := c) (P := P) (ps := ps) (closure_ok hfree) I.ok.glob (I.mod.glob.keeps I.bk) hcode (TB.code.keeps I.bk) hP' ht hc TB.gP bP fun c' ctv h' tk hx hge hlt hrec htb => ?_
    obtain ⟨c2, oc, vs, t, e2, hoc, hd, hv⟩ := hrec
    cases e2
    have nC : H c' = none := I.hok.fresh hge
    have I1 := inv_table (t' := tk) (more := #[rawInt pos.line, rawInt pos.col, .ref c']) (h' := h') I hP (fun b o hb e => hx b o hb e) htb hge ⟨oc, vs, t, hoc, hd, hv⟩
    have hE : ExtN H (upd (upd H P (.tbl (ps ++ #[rawInt pos.line, rawInt pos.col, .ref c']))) c' (CodeO c' (X.env.qual ++ "<lambda>"))) := fun b o e n => by
      rw [upd_ne (ne_of_none e nC), upd_ne (fun z => n ps (Option.some.inj (e.symm.trans (by rw [z]; exact hP))))]
      exact e
    have eL : (ps ++ #[rawInt pos.line, rawInt pos.col, .ref c']).toList = ps.toList ++ [rawInt pos.line, rawInt pos.col, .ref c'] := by simp
    have T1 : Tabs T (upd (upd H P (.tbl (ps ++ #[rawInt pos.line, rawInt pos.col, .ref c']))) c' (CodeO c' (X.env.qual ++ "<lambda>"))) := fun p hp => by
      by_cases hb : p.1 = P
      · rw [hu p hp hb, hb]
        refine ⟨_, by rw [upd_ne (ne_of_none hP nC), upd_same], by rw [eL]; exact PySem.TriplesOk_snoc _ _ _ _ ht, fun p' cv hcv => ?_⟩
        rw [eL] at hcv
        rcases among_app _ ht hcv with z | z
        · obtain ⟨c0, e1, e2⟩ := ha p' cv z
          exact ⟨c0, e1, hE _ _ e2 codeO_ne⟩
        · exact ⟨c', z, upd_same⟩
      · obtain ⟨ps', a1, a2, a3⟩ := hT p hp
        refine ⟨ps', by rw [upd_ne (ne_of_none a1 nC), upd_ne hb]; exact a1, a2, fun p' cv hcv => ?_⟩
        obtain ⟨c0, e1, e2⟩ := a3 p' cv hcv
        exact ⟨c0, e1, hE _ _ e2 codeO_ne⟩
    have nF := I1.hok.fresh (Nat.le_refl _)
    have I2 := inv_lfn (F := ⟨X.env.qual ++ "<lambda>", params, body, scope, cloFrom X.env.cells scope.names [], c'⟩) (t' := tk) (pm := (X.mg "__name__").getD .none) (ctv := ctv) I1 rfl
    refine h h'.objs.size c' _ _ I2 (fun b o e n => ?_) (fun b e => upd_none (upd_none (upd_none e))) (T1.ext fun b o e => ?_) upd_same ?_
    · have e1 := hE b o e n
      exact (upd_ne (ne_of_none e1 nF)).trans e1
    · exact (upd_ne (ne_of_none e nF)).trans e
    · exact (upd_ne (Nat.ne_of_lt hlt)).trans upd_same
  | some cv =>
    obtain ⟨c', e, hco⟩ := ha pos cv hc
    subst e
    refine PySem.W.kla_makeFunctionHit (mg := X.mg) (c := c) (P := P) (ps := ps) (closure_ok hfree) I.ok.glob (I.mod.glob.keeps I.bk) hcode (TB.code.keeps I.bk) hP' ht hc bP fun ctv h' tk hx hsz => ?_
    have I1 : Inv X pins σ H { s with heap := h', toks := tk } := I.kept hx
    have nF : H h'.objs.size = none := I1.hok.fresh (Nat.le_refl _)
    have I2 := inv_lfn (F := ⟨X.env.qual ++ "<lambda>", params, body, scope, cloFrom X.env.cells scope.names [], c'⟩) (t' := tk) (pm := (X.mg "__name__").getD .none) (ctv := ctv) I1 rfl
    refine h h'.objs.size c' _ _ I2 (fun b o e n => ?_) (fun b e => upd_none e) (hT.ext fun b o e => ?_) upd_same ?_
    · exact (upd_ne (ne_of_none e nF)).trans e
    · exact (upd_ne (ne_of_none e nF)).trans e
    · exact (upd_ne (ne_of_none hco nF)).trans hco
end
/-! ### its call -/
/-- the lambda's text: one parameter, captured names, its body's reading -/
structure LamOk (P : Program) (w : World) (K : PySem.W.Frag) (mg : Str → Option Value) (base : Heap) (N ps fr : List Str) (params : Arguments) (body : Expr) (scope : Scope) (tb : TE) : Prop where
  sc : NScope N ps fr scope
  bind : ∀ (q : Str) (cl : List (Str × Addr)) (pm cv ctv : Value) (us : List Value), us.length = ps.length → bindArgs (PySem.W.kla_fn "<lambda>" q params body scope cl pm cv ctv) ⟨us, []⟩ = pure (ps.zip us)
  body : ∀ (q : Str) (cl : List (Str × Addr)) (c' f : Addr) (A : Around) (outer : List Env) (s : Shared) (H : Hp), PE (ncx C8.CX0 P w K mg base N ⟨"<lambda>", q, params, [], scope, cl, c'⟩ f A outer s H C8.E0) body tb
theorem lamOk_mk {P : Program} {w : World} {K : PySem.W.Frag} {mg : Str → Option Value} {base : Heap} {N ps fr : List Str} {params : Arguments} {body : Expr} {scope : Scope} {tb : TE} (h1 : nscB N ps fr scope = true)
    (h2 : ∀ (q : Str) (cl : List (Str × Addr)) (pm cv ctv : Value) (us : List Value), us.length = ps.length → bindArgs (PySem.W.kla_fn "<lambda>" q params body scope cl pm cv ctv) ⟨us, []⟩ = pure (ps.zip us))
    (h3 : ∀ (q : Str) (cl : List (Str × Addr)) (c' f : Addr) (A : Around) (outer : List Env) (s : Shared) (H : Hp), PE (ncx C8.CX0 P w K mg base N ⟨"<lambda>", q, params, [], scope, cl, c'⟩ f A outer s H C8.E0) body tb) : LamOk P w K mg base N ps fr params body scope tb := ⟨nscope_by h1, h2, h3⟩
section
variable {X : Cx} {pins : List (Addr × Obj)} {σ : L2.St} {H : Hp} {s : Shared} {N ps fr : List Str} {params : Arguments} {body : Expr} {scope : Scope} {tb : TE} {js : List Nat} {k : Nat}
theorem lam_run {f c' : Addr} {qual : Str} {us : List Value} {vs : List V} {Q : VK} (L : LamOk X.prog X.w X.K X.mg X.base N ps fr params body scope tb) (hr : Room (k + 3) X.A) (I : Inv X pins σ H s)
    (hf : H f = some (LFnO f ⟨qual, params, body, scope, cloFrom X.env.cells scope.names [], c'⟩)) (hc : H c' = some (CodeO c' qual))
    (hfree : ∀ y ∈ scope.names, y.2 = .free → X.env.scope.names.lookup y.1 = some .cell ∨ X.env.scope.names.lookup y.1 = some .free) (hfr : ∀ y ∈ fr, (y, NameKind.free) ∈ scope.names) (hjs : js.map (fun j => X.N[j]?) = fr.map some)
    (r : Vals vs us) (hl : vs.length = ps.length) (q : tb (startF N vs (js.map (slotAt σ))) H Q) :
    wpAny (model X.prog X.w) X.A.in1.in1 (call (.ref f) us) (EP X pins σ Q) (fun _ _ => False) s := by
  have hr1 : Room (k + 1) X.A.in1.in1 := Room.in1 (Room.in1 hr)
  have e0 : Env0 X.prog X.w X.K X.mg X.base X.A.in1.in1 X.stack s H := I.env0.in1.in1
  obtain ⟨pm, ctv, ho⟩ := lfnO_at I.hok hf
  have C : CellsAt (cloFrom X.env.cells scope.names []) fr (js.map (slotAt σ)) s.heap H := cells_of I (Caps.made I.ok hfree hfr hjs)
  have lim : s.heap.NoLimit := e0.mod.nolimit.keeps fun b o e => (e0.bs b o e).1
  have S := L.sc
  refine wpAny_call (codeAny_mono (R := CR C8.CX0 X.stack X.prog X.w H s Q C8.E0) ?_ fun r s' hq => ?_)
  · refine PySem.W.kla_callFunE hr1.depth ho rfl S.co S.gen rfl (codeO_at I.hok hc) ?_
    rw [L.bind qual _ pm _ ctv us (by rw [← r.length]; exact hl)]
    refine wpAny_pure (wpAny_newFunctionEnv S.nocell (fun ⟨n, _⟩ hy => S.par n (List.of_mem_zip hy).1) (fun h₁ hns hsb => ⟨lim.fresh _ hsb, ?_⟩) S.kind)
    have kp : ∀ b o, s.heap.get? b = some o → h₁.get? b = some o := fun b o e => hsb.extBut b o (Nat.ne_of_lt (Heap.lt_size e)) (Heap.get?_push_of_some _ e)
    have J : Inv (ncx C8.CX0 X.prog X.w X.K X.mg X.base N ⟨"<lambda>", qual, params, [], scope, cloFrom X.env.cells scope.names [], c'⟩ f X.A.in1.in1 X.stack s H C8.E0) [] (startF N vs (js.map (slotAt σ))) H { s with heap := h₁, toks := s.toks + (ps.zip us).length } := inv_startN S hr1.hd e0 hl r C hns kp
    refine PySem.W.kla_codeExpr (wpAny_mono ((L.body _ _ _ f _ _ s H).run [] _ _ H Q J q) (fun v s' hq => ?_) fun e s' hq => hq)
    obtain ⟨w', H', J', rv, q⟩ := hq
    exact ⟨w', H', J'.os, J'.bare, J'.base, J'.hok, rv, q⟩
  · cases r with
    | error e => exact (show False from hq).elim
    | ok fl =>
      cases fl with
      | ret u => exact I.after hq
      | next => exact False.elim hq
      | brk => exact False.elim hq
      | cont => exact False.elim hq
end
/-! ### sorted(xs, key=lambda ..) -/
/-- range(n) as a value -/
theorem cr_range1 {X : Cx} : CallR X (.type "range") (fun vs H Q => ∃ i, vs = [V.int i] ∧ ∀ p, H p = none → Q (.ref p) (upd H p (.rng 0 i))) := by
  intro pins s σ H vs us Q I r h
  obtain ⟨i, rfl, q⟩ := h
  obtain ⟨u1, rfl, ri⟩ := vals1 r
  obtain ⟨t, rfl⟩ := ri
  exact call_range_1 ⟨.ref s.heap.objs.size, upd H s.heap.objs.size (.rng 0 i), I.laid (t' := s.toks + 2) (fun b o e => Heap.get?_push_of_some _ e) (Nat.le_refl _) ⟨_, _, _, Heap.get?_push_size _ rfl⟩, rfl, q _ (I.hok.fresh (Nat.le_refl _))⟩
/-- the making of a lambda -/
def tLamMk (T : List (Addr × Str)) (mk : Addr → LF) : TE := fun _ H Q => Tabs T H ∧ ∀ (f c' : Addr) (H1 : Hp), ExtN H H1 → (∀ b, H1 b = Option.none → H b = Option.none) → Tabs T H1 → H1 f = some (LFnO f (mk c')) → H1 c' = some (CodeO c' (mk c').qual) → Q (.ref f) H1
theorem pe_lam {X : Cx} {T : List (Addr × Str)} {c P : Addr} {params : Arguments} {body : Expr} {scope : Scope} {lpos : Pos} (TB : TabB X.base X.mg c P) (hcode : X.env.code = .ref c) (hmT : (P, X.env.qual ++ "<lambda>") ∈ T) (hu : ∀ p ∈ T, p.1 = P → p.2 = X.env.qual ++ "<lambda>")
    (hdef : defaultsOf params X.env = ([], [])) (hfree : ∀ y ∈ scope.names, y.2 = .free → X.env.scope.names.lookup y.1 = some .cell ∨ X.env.scope.names.lookup y.1 = some .free) :
    PE X (.Lambda params body scope lpos) (tLamMk T fun c' => ⟨X.env.qual ++ "<lambda>", params, body, scope, cloFrom X.env.cells scope.names [], c'⟩) := by
  refine ⟨fun pins s σ H Q I h => ?_⟩
  obtain ⟨hT, q⟩ := h
  have hf : ∀ y ∈ scope.names, y.2 = .free → ∃ c, X.env.cells.lookup y.1 = some c := fun y hy e => (hfree y hy e).elim (fun z => I.ok.has _ (.inl z)) fun z => I.ok.has _ (.inr z)
  exact lam_make3 I TB hcode hmT hu hT hdef hf fun f c' H1 s' I1 eN nn T1 h1 h2 => ⟨.ref f, H1, I1, rfl, q f c' H1 eN nn T1 h1 h2⟩
/-- a built-in called with keywords, what the names hold told too -/
def CallRKs (X : Cx) (f : Value) (ks : List Str) (r : L2.St → List V → List V → Hp → VK → Prop) : Prop :=
  ∀ (pins : List (Addr × Obj)) (s : Shared) (σ : L2.St) (H : Hp) (xs zs : List V) (us ws : List Value) (Q : VK), Inv X pins σ H s → Vals xs us → Vals zs ws → r σ xs zs H Q → wpAny (model X.prog X.w) X.A (call f us (ks.zip ws)) (EP X pins σ Q) X.xe s
def tCKws (r : L2.St → List V → List V → Hp → VK → Prop) (t tk : TA) : TE := fun σ H Q => t σ H fun vs H1 => tk σ H1 fun zs H2 => r σ vs zs H2 Q
theorem pe_callBKs {X : Cx} {x : Str} {p pos : Pos} {e : Expr} {es : List Expr} {kws : List Keyword} {t tk : TA} {id : String} {ks : List Str} {r : L2.St → List V → List V → Hp → VK → Prop} (hc : CallRKs X (.builtin id) ks r) (hg : Gl X x) (hm : X.mg x = none) (hv : bootBuiltins x = some (.builtin id))
    (ha : PA X (e :: es) t) (hk : PK X kws tk) (hn : x ≠ "__name__" := by decide) (hdb : (x == ("__debug__" : Str)) = false := by decide)
    (he : backTo pos (starEach (e :: es) X.env) = (false, eval e X.env) :: backTo pos (starEach es X.env) := by rfl) (hpl : (backTo pos (starEach (e :: es) X.env)).any (·.1) = false := by rfl)
    (hall : (backToKw pos (keywordEach kws X.env)).all (·.1.isSome) = true := by rfl) (hnone : (backToKw pos (keywordEach kws X.env)).any (·.1.isNone) = false := by rfl) (hks : (backToKw pos (keywordEach kws X.env)).filterMap (·.1) = ks := by rfl) :
    PE X (.Call (.Name x p) (e :: es) kws pos) (tCKws r t tk) := by
  refine ⟨fun pins s σ H Q I h => ?_⟩
  refine wpAny_Call_Name_kw (ld_blt I hg hm hv ?_ hn hdb)
  refine PyProof.Rows.callWith_kw (thn (ha.run pos pins s σ H _ I h) fun us s1 ⟨vs, H1, I1, r1, q1⟩ => thn (hk.run pos pins s1 σ H1 _ I1 q1) fun ws s2 ⟨zs, H2, I2, r2, q2⟩ => ?_) he hpl hall hnone
  rw [hks]
  exact hc pins s2 σ H2 vs zs us ws Q I2 r1 r2 q2
/-- sorted(ints, key=lambda) -/
def rSortLam (K : PySem.W.Frag) (N : List Str) (js : List Nat) (tb : TE) (mk : Addr → LF) : L2.St → List V → List V → Hp → VK → Prop := fun σ vs zs H Q => ∃ (l f c' : Addr) (ns : List Int) (b : Bool) (w : Int → List Nat), vs = [.ref l] ∧ zs = [.ref f] ∧ ns.length ≤ 100000 ∧ IntsOf K H l ns ∧
  H f = some (LFnO f (mk c')) ∧ H c' = some (CodeO c' (mk c').qual) ∧ (∀ n ∈ ns, EvP tb (startF N [.int n] (js.map (slotAt σ))) H (KB b w n)) ∧
  ∀ (ns' : List Int) (p : Addr) (H2 : Hp), ns'.Perm ns → ns'.Pairwise (fun x y => ¬ w y < w x) → Ex H H2 → H p = none → H2 p = some (.lst (ns'.map V.int)) → Q (.ref p) H2
section
variable {X : Cx} {K : PySem.W.Frag} {N fr : List Str} {pn : Str} {params : Arguments} {body : Expr} {scope : Scope} {tb : TE} {js : List Nat} {k : Nat}
theorem cr_sortLam (hK : X.K = K) (hc : X.calm = true) (L : LamOk X.prog X.w X.K X.mg X.base N [pn] fr params body scope tb) (hr : Room (k + 3) X.A)
    (hfree : ∀ y ∈ scope.names, y.2 = .free → X.env.scope.names.lookup y.1 = some .cell ∨ X.env.scope.names.lookup y.1 = some .free) (hfr : ∀ y ∈ fr, (y, NameKind.free) ∈ scope.names) (hjs : js.map (fun j => X.N[j]?) = fr.map some) :
    CallRKs X (.builtin "sorted") [Str.ofString "key"] (rSortLam K N js tb fun c' => ⟨X.env.qual ++ "<lambda>", params, body, scope, cloFrom X.env.cells scope.names [], c'⟩) := by
  subst hK
  intro pins s σ H vs zs us ws Q I r rz h
  obtain ⟨l, f, c', ns, b, w, rfl, rfl, hz, hl, hf, hc', hB, q⟩ := h
  obtain rfl := Vals.ref1 r
  obtain rfl := Vals.ref1 rz
  refine run_sortK (b := b) (w := w) I hc hl hz (fun n hn => ?_) fun ns' p H' h1 h2 h3 h4 h5 => q ns' p H' h1 h2 h3 h5 h4
  intro pins1 s1 H1 u I1 e1 ru
  refine wpAny_mono (lam_run L hr I1 (e1 _ _ hf) (e1 _ _ hc') hfree hfr hjs (vs := [.int n]) (us := [u]) (.cons ru .nil) rfl
    (Q := fun v H2 => Ex H1 H2 ∧ KB b w n H2 v) (hB n hn H1 e1 _ fun v H2 e2 hv => ⟨e2, hv⟩)) (fun r s' h => ?_) fun _ _ z => z
  obtain ⟨v, H2, I2, rv, e2, hv⟩ := h
  exact ⟨v, H2, I2, rv, e2, hv⟩
end
theorem pe_sortLam {X : Cx} {K : PySem.W.Frag} {N fr : List Str} {pn : Str} {params : Arguments} {body e : Expr} {scope : Scope} {te tb : TE} {js : List Nat} {k : Nat} {T : List (Addr × Str)} {c P : Addr} {p lpos kpos pos : Pos} (hK : X.K = K) (hc : X.calm = true) (hg : Gl X "sorted") (hm : X.mg "sorted" = none)
    (L : LamOk X.prog X.w X.K X.mg X.base N [pn] fr params body scope tb) (hr : Room (k + 3) X.A) (TB : TabB X.base X.mg c P) (hcode : X.env.code = .ref c) (hmT : (P, X.env.qual ++ "<lambda>") ∈ T) (hu : ∀ p ∈ T, p.1 = P → p.2 = X.env.qual ++ "<lambda>")
    (hdef : defaultsOf params X.env = ([], [])) (hfree : ∀ y ∈ scope.names, y.2 = .free → X.env.scope.names.lookup y.1 = some .cell ∨ X.env.scope.names.lookup y.1 = some .free) (hfr : ∀ y ∈ fr, (y, NameKind.free) ∈ scope.names) (hjs : js.map (fun j => X.N[j]?) = fr.map some) (he : PE X e te)
    (h1 : backTo pos (starEach (e :: []) X.env) = (false, eval e X.env) :: backTo pos (starEach [] X.env) := by rfl) (h2 : (backTo pos (starEach (e :: []) X.env)).any (·.1) = false := by rfl)
    (h3 : (backToKw pos (keywordEach [⟨some "key", .Lambda params body scope lpos, kpos⟩] X.env)).all (·.1.isSome) = true := by rfl) (h4 : (backToKw pos (keywordEach [⟨some "key", .Lambda params body scope lpos, kpos⟩] X.env)).any (·.1.isNone) = false := by rfl)
    (h5 : (backToKw pos (keywordEach [⟨some "key", .Lambda params body scope lpos, kpos⟩] X.env)).filterMap (·.1) = [Str.ofString "key"] := by rfl) (h6 : starEach [e] X.env = (false, eval e X.env) :: starEach [] X.env := by rfl) :
    PE X (.Call (.Name "sorted" p) [e] [⟨some "key", .Lambda params body scope lpos, kpos⟩] pos) (tCKws (rSortLam K N js tb fun c' => ⟨X.env.qual ++ "<lambda>", params, body, scope, cloFrom X.env.cells scope.names [], c'⟩) (tCons te tNil) (tCons (tLamMk T fun c' => ⟨X.env.qual ++ "<lambda>", params, body, scope, cloFrom X.env.cells scope.names [], c'⟩) tNil)) :=
  pe_callBKs (cr_sortLam hK hc L hr hfree hfr hjs) hg hm (by decide +kernel) (pa_cons he pa_nil h6) (pk_cons (pe_lam TB hcode hmT hu hdef hfree) pk_nil) (by decide) (by decide) h1 h2 h3 h4 h5
/-! ### told whole: where the lambda is made the tables may grow -/
theorem extN_of {H H' : Hp} (e : Ex H H') : ExtN H H' := ExtN.of e
theorem intsOf_ext {K : PySem.W.Frag} {H H' : Hp} {l : Addr} {ns : List Int} (e : ExtN H H') (h : IntsOf K H l ns) : IntsOf K H' l ns := by
  rcases h with h | ⟨k, h1, h2, h3⟩
  · left
    rcases h with h | h
    · left
      rcases h with h | ⟨o, h⟩
      · exact .inl (e _ _ h fun ps z => by cases z)
      · exact .inr ⟨o, e _ _ h fun ps z => by cases z⟩
    · exact .inr h
  · exact .inr ⟨k, h1, e _ _ h2 (fun ps z => by cases z), h3⟩
/-- all but the tables stays, nothing is lost, the tables are in order -/
structure Gro (T : List (Addr × Str)) (H H' : Hp) : Prop where
  ext : ExtN H H'
  back : ∀ b, H' b = Option.none → H b = Option.none
  tabs : Tabs T H'
theorem Gro.of {T : List (Addr × Str)} {H H' : Hp} (e : Ex H H') (h : Tabs T H) : Gro T H H' := ⟨ExtN.of e, fun b n => fresh_back e n, h.ext e⟩
theorem Gro.trans {T : List (Addr × Str)} {H H1 H2 : Hp} (a : Gro T H H1) (b : Gro T H1 H2) : Gro T H H2 := ⟨a.ext.trans b.ext, fun c n => a.back c (b.back c n), b.tabs⟩
theorem Gro.more {T : List (Addr × Str)} {H H1 H2 : Hp} (a : Gro T H H1) (e : Ex H1 H2) : Gro T H H2 := a.trans (Gro.of e a.tabs)
theorem gro_l {T : List (Addr × Str)} {K : PySem.W.Frag} {H H' : Hp} {a : Addr} {xs : List V} (g : Gro T H H') (h : SqL K H a xs) : SqL K H' a xs := by
  rcases h with h | h
  · left
    rcases h with h | ⟨o, h⟩
    · exact .inl (g.ext _ _ h fun ps z => by cases z)
    · exact .inr ⟨o, g.ext _ _ h fun ps z => by cases z⟩
  · exact .inr h
theorem gro_lst {T : List (Addr × Str)} {H H' : Hp} {a : Addr} {xs : List V} (g : Gro T H H') (h : H a = some (.lst xs)) : H' a = some (.lst xs) := g.ext _ _ h fun ps z => by cases z
theorem gro_ins {T : List (Addr × Str)} {H H' : Hp} {a C dx : Addr} {fs : List (Str × V)} (g : Gro T H H') (h : H a = some (.ins C dx fs)) : H' a = some (.ins C dx fs) := g.ext _ _ h fun ps z => by cases z
/-- what a reading gives where tables may have grown: the new list -/
def EvN (T : List (Addr × Str)) (te : TE) (σ : L2.St) (H : Hp) (B : Hp → V → Prop) : Prop := ∀ H1, Gro T H H1 → ∀ Q : VK, (∀ v H2, Gro T H1 H2 → B H2 v → Q v H2) → te σ H1 Q
theorem en_sortLam {K : PySem.W.Frag} {T : List (Addr × Str)} {N : List Str} {js : List Nat} {tb te : TE} {mk : Addr → LF} {σ : L2.St} {H : Hp} {ns : List Int} {b : Bool} {w : Int → List Nat} (hz : ns.length ≤ 100000)
    (he : ∀ H1, Gro T H H1 → EvP te σ H1 (fun H2 v => ∃ l, v = .ref l ∧ IntsOf K H2 l ns)) (hB : ∀ H1, Gro T H H1 → ∀ n ∈ ns, EvP tb (startF N [.int n] (js.map (slotAt σ))) H1 (KB b w n)) :
    EvN T (tCKws (rSortLam K N js tb mk) (tCons te tNil) (tCons (tLamMk T mk) tNil)) σ H (fun H v => ∃ p, ∃ ns' : List Int, v = .ref p ∧ H p = some (.lst (ns'.map V.int)) ∧ ns'.Perm ns ∧ ns'.Pairwise (fun x y => ¬ w y < w x)) := by
  intro H1 g1 Q q
  refine he H1 g1 H1 (Ex.refl _) _ fun v H2 e2 ⟨l, ev, hl⟩ => ?_
  refine ⟨g1.tabs.ext e2, fun f c' H3 e3 nn T3 h1 h2 => ⟨l, f, c', ns, b, w, by rw [ev], rfl, hz, intsOf_ext e3 hl, h1, h2, hB H3 ((g1.more e2).trans ⟨e3, nn, T3⟩), fun ns' p H4 h3 h4 e4 _ h5 => ?_⟩⟩
  exact q (.ref p) H4 ((Gro.of e2 g1.tabs).trans (Gro.trans ⟨e3, nn, T3⟩ (Gro.of e4 T3))) ⟨p, ns', rfl, h5, h3, h4⟩
/-! ### a def that makes a lambda: its code object is known -/
structure DefAtC (K : PySem.W.Frag) (mg : Str → Option Value) (x : Str) (st : Stmt) (ps : List Str) (c : Addr) : Prop where
  ex : ∃ (f : Addr) (fd : FuncData), Fun K x x st f fd ∧ mg x = some (.ref f) ∧ Binds K fd ps [] ∧ fd.code = .ref c
theorem calC_of {P : Program} {w : World} {K : PySem.W.Frag} {mg : Str → Option Value} {base : Heap} {x : Str} {st : Stmt} {N ps : List Str} {k : Nat} {sp : Sp} {c : Addr} (D : DefAtC K mg x st ps c) (S : FnScope N ps (defScope st)) (len : ∀ vs H Q E, sp vs H Q E → vs.length = ps.length)
    (hbody : ∀ (f : Addr) (A : Around) (outer : List Env) (s : Shared) (H : Hp) (vs : List V) (Q : VK) (E : XK), Room k (A.deeper (envOfC x (defScope st) s.heap.objs.size f (.ref c))) → sp vs H Q E →
      ∃ t, PSs (cxOf (L2N.CX P w) P w K mg base N x (defScope st) f (.ref c) A outer s H E).nox (defBody st) t ∧ t { nx := fun _ H' => Q .non H', rt := Q } (start N vs) H) : Cal P w K mg base (k + 1) x sp := by
  obtain ⟨f, fd, F, m, b, hc⟩ := D.ex
  obtain ⟨oc, od, kV, doc, pm, an, cdv, ct, osl, rfl, lk, hcd⟩ := F.ex
  have hc : cdv = .ref c := hc
  subst hc
  refine ⟨f, _, ps, fn_of lk hcd S len fun A outer s H vs Q E hr hsp => ?_, m, F.kp, b⟩
  obtain ⟨t, h, q⟩ := hbody f A outer s H vs Q E hr hsp
  exact ⟨t, h.nox, q⟩
def lamQ (x : Str) (st : Stmt) : Str := (envOfC x (defScope st) 0 0 .none).qual ++ "<lambda>"
end Tr

set_option Elab.async false
set_option linter.all false
set_option maxRecDepth 100000
set_option maxHeartbeats 4000000
namespace Tr
open PySem PySem.Spec PyProof.Rows L2 Evl
open M3 (wat joinW pre)
abbrev s_Begins___init__ : Stmt := inClass (topS 18) 0
abbrev N_Begins___init__ : List Str := ["self", "one", "other"]
theorem sc_Begins___init__ : FnScope N_Begins___init__ ["self", "one", "other"] (defScope s_Begins___init__) := ⟨rfl, rfl, rfl, by decide +kernel, rfl, by decide +kernel, by decide +kernel⟩
abbrev s_Begins_shows : Stmt := inClass (topS 18) 1
abbrev N_Begins_shows : List Str := ["self", "code"]
theorem sc_Begins_shows : FnScope N_Begins_shows ["self", "code"] (defScope s_Begins_shows) := ⟨rfl, rfl, rfl, by decide +kernel, rfl, by decide +kernel, by decide +kernel⟩
abbrev s_Apart___init__ : Stmt := inClass (topS 19) 0
abbrev N_Apart___init__ : List Str := ["self", "order"]
theorem sc_Apart___init__ : FnScope N_Apart___init__ ["self", "order"] (defScope s_Apart___init__) := ⟨rfl, rfl, rfl, by decide +kernel, rfl, by decide +kernel, by decide +kernel⟩
abbrev s_Apart_shows : Stmt := inClass (topS 19) 1
abbrev N_Apart_shows : List Str := ["self", "code", "words", "at", "place"]
theorem sc_Apart_shows : FnScope N_Apart_shows ["self", "code"] (defScope s_Apart_shows) := ⟨rfl, rfl, rfl, by decide +kernel, rfl, by decide +kernel, by decide +kernel⟩
local macro_rules | `(tactic| walk_at "sd") => `(tactic| first | assumption | rfl | omega | decide | (solve_by_elim) | (refine Nat.le_trans (m := 1000) (by solve_by_elim) (by decide)))
local macro_rules | `(tactic| walk_at "rv") => `(tactic| first
  | exact rv_add | exact rv_sub | exact rv_lt | exact rv_le | exact rv_gt | exact rv_ge | exact rv_eqI | exact rv_eqS | exact rv_eqB | exact rv_neI | exact rv_neS | exact rv_neB
  | exact rv_mod (by walk_at "sd") | exact rv_fdiv (by first | assumption | exact ⟨by omega, by omega⟩) | exact rv_addS (by walk_at "sd") | exact rv_isB | exact rv_notB | assumption)
local macro_rules | `(tactic| walk_at "ea") => `(tactic| first
  | exact ea_nil
  | (refine' ea_cons ?k1 ?k2; (case k1 => walk_at "ev"); (case k2 => walk_at "ea")))
local macro_rules | `(tactic| walk_at "eo") => `(tactic| first
  | exact eo_none
  | (refine' eo_some ?k1; (case k1 => walk_at "ev")))
local macro_rules | `(tactic| walk_at "et") => `(tactic| first
  | (refine' et_test ?k1; (case k1 => walk_at "ev"))
  | (refine' et_B ?k1; (case k1 => walk_at "ev"))
  | (refine' et_and ?k1 ?k2; (case k1 => walk_at "et"); (case k2 => (intro _; walk_at "et")))
  | (refine' et_or ?k1 ?k2; (case k1 => walk_at "et"); (case k2 => (intro _; walk_at "et")))
  | (refine' et_not ?k1; (case k1 => walk_at "et"))
  | assumption)
local macro_rules | `(tactic| walk_at "ev") => `(tactic| first
  | assumption
  | exact ev_cS
  | exact ev_c
  | exact ev_var rfl
  | (refine' ev_op ?k1 ?k2 ?k3; (case k1 => walk_at "ev"); (case k2 => walk_at "ev"); (case k3 => walk_at "rv"))
  | (refine' ev_un ?k1 ru_neg; (case k1 => walk_at "ev"))
  | (refine' ev_chain ?k1 ?k2 ?k3 ?k4 ?k5; (case k1 => walk_at "ev"); (case k2 => walk_at "ev"); (case k3 => walk_at "ev"); (case k4 => walk_at "rv"); (case k5 => (intro _; walk_at "rv")))
  | (refine' ev_slS ?k1 ?k2 ?k3 ?k4; (case k1 => walk_at "ev"); (case k2 => walk_at "eo"); (case k3 => walk_at "eo"); (case k4 => walk_at "sd"))
  | (refine' ev_lenS ?k1 ?k2; (case k1 => walk_at "ev"); (case k2 => walk_at "sd"))
  | (refine' ev_len' ?k1 ?k2; (case k1 => walk_at "ev"); (case k2 => walk_at "sd"))
  | (refine' ev_strip ?k1 ?k2 ?k3; (case k1 => walk_at "ev"); (case k2 => walk_at "ev"); (case k3 => walk_at "sd"))
  | (refine' ev_sum ?k1 ?k2; (case k1 => walk_at "ev"); (case k2 => walk_at "sd"))
  | (refine' ev_isi ?k1 ?k2 ?k3 ?k4; (case k1 => walk_at "ev"); (case k2 => walk_at "ev"); (case k3 => first | exact ty_int | exact ty_bl | exact ty_str | exact ty_list (by walk_at "sd")); (case k4 => first | exact kit_ty (r := true) (by decide +kernel) | exact kit_ty (r := false) (by decide +kernel)))
  | (refine' ev_andV ?k1 ?k2; (case k1 => walk_at "ev"); (case k2 => (intro _; walk_at "ev")))
  | (refine' ev_orV ?k1 ?k2; (case k1 => walk_at "ev"); (case k2 => (intro _; walk_at "ev")))
  | (refine' ev_notV ?k1; (case k1 => walk_at "ev"))
  | (refine' ev_call ?k1 ?k2; (case k1 => walk_at "ea"); (case k2 => walk_at "sv")))
local macro_rules | `(tactic| walk_at "el") => `(tactic| first
  | assumption
  | (refine' el_mapB ?k1 ?k2 ?k3 (fun _ => rfl) ?k5; (case k1 => walk_at "ev"); (case k2 => walk_at "sd"); (case k3 => walk_at "sd"); (case k5 => (intro _ _; walk_at "ev")))
  | (refine' el_mapI ?k1 ?k2 ?k3 (fun _ => rfl) ?k5; (case k1 => walk_at "ev"); (case k2 => walk_at "sd"); (case k3 => walk_at "sd"); (case k5 => (intro _ _; walk_at "ev")))
  | (refine' el_mapS ?k1 ?k2 ?k3 (fun _ => rfl) ?k5; (case k1 => walk_at "ev"); (case k2 => walk_at "sd"); (case k3 => walk_at "sd"); (case k5 => (intro _ _; walk_at "ev"))))
local macro_rules | `(tactic| walk_at "ev") => `(tactic| first
  | (refine' ev_all ?k1; (case k1 => walk_at "el"))
  | (refine' ev_any ?k1; (case k1 => walk_at "el"))
  | (refine' ev_sumN ?k1; (case k1 => walk_at "el"))
  | (refine' ev_join ?k1 ?k2 ?k3; (case k1 => exact ev_is ev_cS (congrArg tx codes_nil)); (case k2 => walk_at "el"); (case k3 => walk_at "sd")))

local macro_rules | `(tactic| walk_at "sv") => `(tactic| first | exact sv_stands (by walk_at "sd") (by walk_at "sd"))
/-! ### ints in order -/
def insI (x : Int) : List Int → List Int
  | [] => [x]
  | y :: r => if y < x then y :: insI x r else x :: y :: r
def sortI : List Int → List Int
  | [] => []
  | x :: r => insI x (sortI r)
theorem insI_perm (x : Int) : ∀ ys, (insI x ys).Perm (x :: ys)
  | [] => List.Perm.refl _
  | y :: r => by
    unfold insI
    split
    · exact ((insI_perm x r).cons y).trans (List.Perm.swap x y r)
    · exact List.Perm.refl _
theorem insI_rises (x : Int) : ∀ ys : List Int, ys.Pairwise (· ≤ ·) → (insI x ys).Pairwise (· ≤ ·)
  | [], _ => List.pairwise_singleton _ _
  | y :: r, h => by
    obtain ⟨h1, h2⟩ := List.pairwise_cons.mp h
    unfold insI
    split
    · rename_i hlt
      refine List.pairwise_cons.mpr ⟨fun z hz => ?_, insI_rises x r h2⟩
      rcases List.mem_cons.mp ((insI_perm x r).mem_iff.mp hz) with rfl | hz
      · omega
      · exact h1 z hz
    · rename_i hlt
      refine List.pairwise_cons.mpr ⟨fun z hz => ?_, h⟩
      rcases List.mem_cons.mp hz with rfl | hz
      · omega
      · have := h1 z hz
        omega
theorem sortI_perm : ∀ ns, (sortI ns).Perm ns
  | [] => List.Perm.refl _
  | x :: r => (insI_perm x _).trans ((sortI_perm r).cons x)
theorem sortI_rises : ∀ ns : List Int, (sortI ns).Pairwise (· ≤ ·)
  | [] => List.Pairwise.nil
  | x :: r => insI_rises x _ (sortI_rises r)
theorem sortI_uniq : ∀ (ss us : List Int), ss.Perm us → ss.Pairwise (· ≤ ·) → us.Pairwise (· ≤ ·) → ss = us
  | [], us, hp, _, _ => (hp.symm.eq_nil).symm
  | x :: r, [], hp, _, _ => absurd hp.length_eq (by simp)
  | x :: r, y :: t, hp, h1, h2 => by
    obtain ⟨a1, a2⟩ := List.pairwise_cons.mp h1
    obtain ⟨b1, b2⟩ := List.pairwise_cons.mp h2
    have e : x = y := by
      rcases List.mem_cons.mp (hp.mem_iff.mp (List.mem_cons_self ..)) with e | hx
      · exact e
      · rcases List.mem_cons.mp (hp.mem_iff.mpr (List.mem_cons_self ..)) with e | hy
        · exact e.symm
        · have := a1 y hy
          have := b1 x hx
          omega
    subst e
    rw [sortI_uniq r t (List.Perm.cons_inv hp) a2 b2]
theorem sortI_is {ns ns' : List Int} (hp : ns'.Perm ns) (h : ns'.Pairwise (· ≤ ·)) : ns' = sortI ns := sortI_uniq _ _ (hp.trans (sortI_perm ns).symm) h (sortI_rises ns)
def rgI (n : Nat) : List Int := (List.range n).map fun i => ((i : Nat) : Int)
theorem rgI_len (n : Nat) : (rgI n).length = n := by unfold rgI; rw [List.length_map, List.length_range]
theorem rgI_mem {n : Nat} {i : Int} : i ∈ rgI n ↔ 0 ≤ i ∧ i < (n : Int) := by
  unfold rgI
  rw [List.mem_map]
  constructor
  · rintro ⟨k, hk, rfl⟩
    have := List.mem_range.mp hk
    omega
  · rintro ⟨h1, h2⟩
    exact ⟨i.toNat, List.mem_range.mpr (by omega), by omega⟩
theorem rgI_rises (n : Nat) : (rgI n).Pairwise (· ≤ ·) := by
  unfold rgI
  rw [List.pairwise_map]
  refine List.Pairwise.imp (fun {a b} h => ?_) (List.pairwise_lt_range (n := n))
  omega
/-- an order of all places -/
theorem sortI_rg {ns : List Int} {n : Nat} : sortI ns = rgI n ↔ ns.Perm (rgI n) := by
  constructor
  · intro h; rw [← h]; exact (sortI_perm ns).symm
  · intro h; exact (sortI_is h.symm (rgI_rises n)).symm
section
variable {K : PySem.W.Frag} {σ : L2.St} {H H' : Hp} {ta tb te tl : TE} {D : Ends} {tz tu : TS} {C o dx : Addr} {x v : V}
theorem el_sortedI {a : Addr} {ns : List Int} (h : Ev te σ H (.ref a)) (hx : SqL K H a (ns.map V.int)) : EvL (tCB (rSortedI K) (tCons te tNil)) σ H ((sortI ns).map V.int) := fun H1 e Q q =>
  h H1 e _ fun H2 e2 => ⟨a, ns, rfl, ex_l (e.trans e2) hx, fun ns' p hp hs np => by
    rw [sortI_is hp hs]
    exact q p _ (fresh_back e2 np) (e2.trans (Ex.new np)) upd_same⟩
theorem el_listRg {n : Nat} (h : Ev te σ H (.int (n : Int))) (hn : n ≤ 100000) : EvL (tLstRg (tRg1 te)) σ H ((rgI n).map V.int) := fun H1 e Q q =>
  h H1 e _ fun H2 e2 => ⟨n, rfl, RgOk.of_le (by omega) (by omega) (by omega) (by omega), fun p np => by
    have e3 : rgV 0 n = (rgI n).map V.int := by
      unfold rgV rgI
      rw [List.map_map, show ((n : Int) - 0).toNat = n by omega]
      refine List.map_congr_left fun i _ => ?_
      show V.int (0 + (i : Nat)) = V.int ((i : Nat) : Int)
      rw [Int.zero_add]
    rw [e3]
    exact q p _ (fresh_back e2 np) (e2.trans (Ex.new np)) upd_same⟩
theorem rv_gtS {a b : Wd} : RV (fun x y H Q => ∃ i j, x = .str i ∧ y = .str j ∧ Q (.bl (decide (j.cps.toList < i.cps.toList))) H) (tx a) (tx b) H (.bl (decide (b < a))) := fun H1 _ Q q => ⟨S a, S b, rfl, rfl, by
  rw [S_cps, S_cps]
  exact q H1 (Ex.refl H1)⟩
/-- f(x, [..]), a new list behind -/
theorem ev_call2L {sp : Sp} {E : XK} {ys : List V} (ha : Ev ta σ H x) (hb : EvL tb σ H ys) (hs : ∀ q H1, Ex H H1 → H1 q = some (.lst ys) → SpV sp [x, .ref q] H1 v) : Ev (tCall sp [] E (tCons ta (tCons tb tNil))) σ H v := fun H1 e Q q =>
  ha H1 e _ fun H2 e2 => hb H2 (e.trans e2) _ fun p H3 _ e3 hp => by
    have := hs p H3 ((e.trans e2).trans e3) hp H3 (Ex.refl H3) Q (fun H4 e4 => q H4 ((e2.trans e3).trans e4)) E
    exact this
theorem s_forR1m {ta : TA} {j : Nat} {n : Int} (h : EvA ta σ H [.int n]) (hn : -1 ≤ n ∧ n ≤ 100000) (Pv : Nat → L2.St → Hp → Prop) (h0 : ∀ H1, Ex H H1 → Pv 0 σ H1)
    (hs : ∀ (i : Nat) σ' H', (i : Int) < n → Pv i σ' H' → tu { D with nx := Pv (i + 1), ct := Pv (i + 1), bk := D.nx } (σ'.set j (some (.int (i : Int)))) H') (hd : ∀ σ' H', Pv n.toNat σ' H' → D.nx σ' H') : tFor (iRng1 ta) (gName j) tu D σ H :=
  h H (Ex.refl H) _ fun H1 e => ⟨n, rfl, by omega, by omega, for_range (lo := 0) (n := n.toNat) Pv (h0 H1 e) (fun i σ' H' hi p => by
    have e0 : (0 : Int) + (i : Int) = (i : Int) := Int.zero_add _
    show tu { D with nx := Pv (i + 1), ct := Pv (i + 1), bk := D.nx } (σ'.set j (some (.int ((0 : Int) + (i : Int))))) H'
    rw [e0]
    exact hs i σ' H' (by omega) p) hd⟩
theorem q_forR1m {ta : TA} {j : Nat} {n : Int} (h : EvA ta σ H [.int n]) (hn : -1 ≤ n ∧ n ≤ 100000) (Pv : Nat → L2.St → Hp → Prop) (h0 : ∀ H1, Ex H H1 → Pv 0 σ H1)
    (hs : ∀ (i : Nat) σ' H', (i : Int) < n → Pv i σ' H' → tu { D with nx := Pv (i + 1), ct := Pv (i + 1), bk := tz D } (σ'.set j (some (.int (i : Int)))) H') (hd : ∀ σ' H', Pv n.toNat σ' H' → tz D σ' H') : tSeq (tFor (iRng1 ta) (gName j) tu) tz D σ H :=
  s_forR1m (D := { D with nx := tz D }) h hn Pv h0 hs hd
/-- [.. for i in range(n - 1)] -/
theorem el_n1 {n : Nat} (h : Ev te σ H (.int (n : Int))) (hn : n ≤ 40000) {te1 : TE} {g : Nat → Bool} {j : Nat} {vs : List Nat} (hw : ∀ x, wipe ((wipe σ vs).set j (some x)) vs = wipe σ vs) (he : ∀ i, i < n - 1 → Ev te1 ((wipe σ vs).set j (some (.int (i : Int)))) H (.bl (g i))) :
    EvL (tLc (iRng1 (tCons (tOp (rI0 fun i j => .int (i - j)) te (tC (.int 1))) tNil)) (gName j) tYes te1 vs) σ H (((List.range (n - 1)).map g).map V.bl) := by
  rcases Nat.eq_zero_or_pos n with h0 | h0
  · subst h0
    intro H1 e Q q
    refine h H1 e _ fun H2 e2 => ⟨0, 1, rfl, rfl, ?_⟩
    refine ⟨((0 : Nat) : Int) - 1, rfl, by decide, by decide, fun Dl hD => lc_range (lo := 0) (n := (((0 : Nat) : Int) - 1).toNat) (fun i H' => i = 0 ∧ H' = upd H2 Dl (.lst [])) ⟨rfl, rfl⟩ (fun i H' hi _ => absurd hi (by simp)) (fun H' hP => ?_)⟩
    obtain ⟨_, rfl⟩ := hP
    exact q Dl _ (fresh_back e2 hD) (e2.trans (Ex.new hD)) upd_same
  · have e1 : (n : Int) - 1 = ((n - 1 : Nat) : Int) := by omega
    exact el_rangeB (n := n - 1) (ea_cons (ev_is (ev_op h ev_c rv_sub) (congrArg V.int e1)) ea_nil) (by omega) hw he
theorem ev_max2 {i j : Int} (ha : Ev ta σ H (.int i)) (hb : Ev tb σ H (.int j)) : Ev (tCB (fun xs H Q => ∃ i j, xs = [V.int i, V.int j] ∧ Q (.int (if j > i then j else i)) H) (tCons ta (tCons tb tNil))) σ H (.int (if j > i then j else i)) := fun H1 e Q q =>
  ha H1 e _ fun H2 e2 => hb H2 (e.trans e2) _ fun H3 e3 => ⟨i, j, rfl, q H3 (e2.trans e3)⟩
theorem ev_min2 {i j : Int} (ha : Ev ta σ H (.int i)) (hb : Ev tb σ H (.int j)) : Ev (tCB (fun xs H Q => ∃ i j, xs = [V.int i, V.int j] ∧ Q (.int (if j < i then j else i)) H) (tCons ta (tCons tb tNil))) σ H (.int (if j < i then j else i)) := fun H1 e Q q =>
  ha H1 e _ fun H2 e2 => hb H2 (e.trans e2) _ fun H3 e3 => ⟨i, j, rfl, q H3 (e2.trans e3)⟩
theorem el_rangeI {n : Nat} {j : Nat} {vs : List Nat} (h : Ev te σ H (.int (n : Int))) (hn : n ≤ 40000) (hw : ∀ x, wipe ((wipe σ vs).set j (some x)) vs = wipe σ vs) (hj : ∀ i : Nat, i < n → ((wipe σ vs).set j (some (.int (i : Int))))[j]? = some (some (.int (i : Int)))) :
    EvL (tLc (iRng1 (tCons te tNil)) (gName j) tYes (tVar j) vs) σ H ((rgI n).map V.int) := by
  have := el_range n (fun i : Nat => V.int (i : Int)) (ea_cons h ea_nil) hn hw fun i hi => ev_var (hj i hi)
  unfold rgI
  rw [List.map_map]
  exact this
/-! ### objects of two plain fields -/
def spIniV2 (C : Addr) (f g : Str) : Sp := fun vs H Q _ => ∃ (p dx : Addr) (x y : V), vs = [.ref p, x, y] ∧ H p = some (.ins C dx []) ∧ ∀ H', (∀ b u, b ≠ p → H b = some u → H' b = some u) → H' p = some (.ins C dx [(f, x), (g, y)]) → Q .non H'
def EvBV (te : TE) (σ : L2.St) (H : Hp) (C : Addr) (f g : Str) (x y : V) : Prop := ∀ H1, Ex H H1 → ∀ Q : VK, (∀ o dx H2, H1 o = none → Ex H1 H2 → H2 o = some (.ins C dx [(f, x), (g, y)]) → Q (.ref o) H2) → te σ H1 Q
theorem ebv_make {f g : Str} {y : V} (ha : Ev ta σ H x) (hb : Ev tb σ H y) : EvBV (tMake C (spIniV2 C f g) [] E0 (tCons ta (tCons tb tNil))) σ H C f g x y := fun H1 e Q q =>
  ha H1 e _ fun H2 e2 => hb H2 (e.trans e2) _ fun H3 e3 => fun o dx no nd ne => by
    have nu : upd H3 dx (.own o) o = none := by rw [upd_ne (Ne.symm ne)]; exact no
    have ex : Ex H3 (upd (upd H3 dx (.own o)) o (.ins C dx [])) := (Ex.new nd).trans (Ex.new nu)
    refine ⟨o, dx, x, y, rfl, upd_same, fun H' kp ho => ⟨rfl, ?_⟩⟩
    refine q o dx H' (fresh_back (e2.trans e3) no) (fun c u hc => ?_) ho
    have hc3 := (e2.trans e3) c u hc
    have hcx : c ≠ o := fun z => by rw [z, no] at hc3; cases hc3
    exact kp c u hcx (ex c u hc3)
theorem s_retBV {f g : Str} {y : V} (h : EvBV te σ H C f g x y) (k : ∀ o dx H2, H o = none → Ex H H2 → H2 o = some (.ins C dx [(f, x), (g, y)]) → D.rt (.ref o) H2) : tRet te D σ H := h H (Ex.refl H) _ k
theorem q_asgBV {f g : Str} {y : V} {i : Nat} (h : EvBV te σ H C f g x y) (k : ∀ o dx H2, H o = none → Ex H H2 → H2 o = some (.ins C dx [(f, x), (g, y)]) → tz D (σ.set i (some (.ref o))) H2) : tSeq (tAsg te (gName i)) tz D σ H := h H (Ex.refl H) _ k
theorem lk2 {f g : Str} {v u : V} (h : (g == f) = false) : ([(f, v), (g, u)] : List (Str × V)).lookup g = some u := by simp [List.lookup, h]
theorem lk2a {f g : Str} {v u : V} : ([(f, v), (g, u)] : List (Str × V)).lookup f = some v := by simp [List.lookup]
theorem lk2n {f g m : Str} {v u : V} (h1 : (m == f) = false) (h2 : (m == g) = false) : ([(f, v), (g, u)] : List (Str × V)).lookup m = none := by simp [List.lookup, h1, h2]
theorem iniV2_run {f g : Str} {p : Addr} {y : V} {σ : L2.St} (c : Cls K C) (n1 : NoAttr K C f) (n2 : NoAttr K C g) (hfg : ¬ f = g) (hp : H p = some (.ins C dx [])) (h0 : σ[0]? = some (some (.ref p))) (h1 : σ[1]? = some (some x)) (h2 : σ[2]? = some (some y))
    (k : ∀ H', (∀ b u, b ≠ p → H b = some u → H' b = some u) → H' p = some (.ins C dx [(f, x), (g, y)]) → D.nx σ H') : tSeq (sFld K (tVar 0) (tVar 1) f) (sFld K (tVar 0) (tVar 2) g) D σ H := by
  refine ⟨x, h1, .ref p, h0, p, C, dx, [], rfl, hp, c, n1, by decide, y, h2, .ref p, h0, p, C, dx, [(f, x)], rfl, upd_same, c, n2, by simp, k _ (fun b u hb hu => ?_) ?_⟩
  · rw [upd_ne hb, upd_ne hb]
    exact hu
  · rw [upd_same]
    show some (HO.ins C dx (if f = g then _ else _)) = _
    rw [if_neg hfg]; rfl
end
/-! ### what they tell -/
def wAt (ws : List Wd) (i : Int) : Wd := ws.getD i.toNat []
def bgV (ws : List Wd) (i j : Int) : Bool := !decide (i = j) && inR ws.length [i, j] && pre (wAt ws i) (wAt ws j)
def badAt (us : List Wd) (i : Nat) : Bool := decide (us.getD (i + 1) [] < us.getD i []) || pre (us.getD i []) (us.getD (i + 1) [])
def wrong (us : List Wd) : Bool := (List.range (us.length - 1)).any (badAt us)
def apV (ws : List Wd) (ns : List Int) : Bool := decide (sortI ns = rgI ws.length) && !wrong (ns.map (wAt ws))
theorem inR2 {n : Nat} {i j : Int} : inR n [i, j] = true ↔ (0 ≤ i ∧ i < (n : Int)) ∧ (0 ≤ j ∧ j < (n : Int)) := by
  unfold inR
  simp
theorem wAt_get {ws : List Wd} {i : Int} (h0 : 0 ≤ i) (h1 : i < (ws.length : Int)) : atI (ws.map tx) i = some (tx (wAt ws i)) := by
  obtain ⟨k, rfl⟩ : ∃ k : Nat, i = (k : Int) := ⟨i.toNat, by omega⟩
  have hk : k < ws.length := by omega
  refine atI_nat ?_
  unfold wAt
  simp [List.getD, List.getElem?_map, hk]
theorem wAt_mem {ws : List Wd} {i : Int} (h0 : 0 ≤ i) (h1 : i < (ws.length : Int)) : wAt ws i ∈ ws := by
  have hk : i.toNat < ws.length := by omega
  have : wAt ws i = ws[i.toNat] := by unfold wAt; simp [List.getD, hk]
  rw [this]; exact List.getElem_mem hk
section
variable {P : Program} {w : World} {K : PySem.W.Frag} {mg : Str → Option Value} {base : Heap} {H : Hp}
theorem ok_Begins___init__ {aBe : Addr} (D : IniAt K aBe "Begins.__init__" s_Begins___init__ ["self", "one", "other"]) (T : Blt mg) (G_Begins : mg "Begins" = some (.ref aBe)) (L_Begins : ClsI K aBe) (N_Begins_one : NoAttr K aBe "one") (N_Begins_other : NoAttr K aBe "other") : MkAt P w K mg base 1 "Begins" aBe (spIniV2 aBe "one" "other") := by
  refine mk_ofI G_Begins D sc_Begins___init__ (fun vs H Q E h => ?_) (fun f cdv A outer s H vs Q E hr h => ?_)
  · obtain ⟨p, dx, x, y, rfl, _⟩ := h; rfl
  · obtain ⟨p, dx, x, y, rfl, hp, k⟩ := h
    refine ⟨_, (pss_cons (ps_fldK (K := K) rfl (pv 0) (pv 1))
      (pss_one (ps_fldK (K := K) rfl (pv 0) (pv 2)))), ?_⟩
    exact iniV2_run (D := ⟨fun _ H' => Q .non H', Q, fun _ _ => False, fun _ _ => False⟩) L_Begins.cl N_Begins_one N_Begins_other (by decide) hp rfl rfl rfl k
theorem ok_Apart___init__ {aAp : Addr} (D : IniAt K aAp "Apart.__init__" s_Apart___init__ ["self", "order"]) (T : Blt mg) (G_Apart : mg "Apart" = some (.ref aAp)) (L_Apart : ClsI K aAp) (N_Apart_order : NoAttr K aAp "order") : MkAt P w K mg base 1 "Apart" aAp (spIni1 K aAp "order") := by
  refine mk_ofI G_Apart D sc_Apart___init__ (fun vs H Q E h => ?_) (fun f cdv A outer s H vs Q E hr h => ?_)
  · obtain ⟨p, q, dx, xs, rfl, _⟩ := h; rfl
  · obtain ⟨p, q, dx, xs, rfl, hp, hq, k⟩ := h
    refine ⟨_, (pss_one (ps_fldK (K := K) rfl (pv 0) (pe_callTy (call_list_ofK (K := K) rfl) (by rfl) T.list (by decide +kernel) (pa_cons (pv 1) pa_nil)))), ?_⟩
    exact ini1_run (D := ⟨fun _ H' => Q .non H', Q, fun _ _ => False, fun _ _ => False⟩) L_Apart.cl N_Apart_order hp hq rfl rfl k
def spBgShows (K : PySem.W.Frag) (aBe : Addr) : Sp := fun vs H Q _ => ∃ (o p dx : Addr) (ws : List Wd) (i j : Int), vs = [.ref o, .ref p] ∧ H o = some (.ins aBe dx [("one", .int i), ("other", .int j)]) ∧ SqL K H p (ws.map tx) ∧ ws.length ≤ 1000 ∧ (∀ a ∈ ws, a.length ≤ 1000) ∧ ∀ H', Ex H H' → Q (.bl (bgV ws i j)) H'
theorem ok_Begins_shows {aBe : Addr} (D : MthAt K aBe "shows" "Begins.shows" s_Begins_shows ["self", "code"]) (T : Blt mg) (L_Begins : ClsI K aBe) (N_Begins_one : NoAttr K aBe "one") (N_Begins_other : NoAttr K aBe "other") (C_are_places : Cal P w K mg base 1 "are_places" (spArePlaces K)) (C_stands : Cal P w K mg base 1 "stands" spStands) :
    MCal P w K mg base 2 aBe "shows" (spBgShows K aBe) := by
  refine mcal_of L_Begins.cl D sc_Begins_shows (fun vs H Q E h => ?_) (fun f cdv A outer s H vs Q E hr h => ?_)
  · obtain ⟨o, p, dx, ws, i, j, rfl, _⟩ := h; rfl
  · obtain ⟨o, p, dx, ws, i, j, rfl, ho, hp, hn, hb, k⟩ := h
    refine ⟨_, (pss_cons (ps_if (PW.pt (pw_or (pt_cmpR op_eq (pe_fldK (K := K) rfl (pv 0)) (pe_fldK (K := K) rfl (pv 0)) (nomark _)) (pw_or1 (pt_not (pt_val (pe_c C_are_places hr (by decide) (by rfl) (pa_cons (pv 1) (pa_cons (pe_lst (pa_cons (pe_fldK (K := K) rfl (pv 0)) (pa_cons (pe_fldK (K := K) rfl (pv 0)) pa_nil))) pa_nil)))))))) (pss_one (ps_ret pe_bl)) pss_nil)
      (pss_one (ps_ret (pe_c C_stands hr (by decide) (by rfl) (pa_cons (pe_ix (ix_listK (K := K) rfl) (pv 1) (pe_fldK (K := K) rfl (pv 0)) (fun _ _ => rfl)) (pa_cons (pe_ix (ix_listK (K := K) rfl) (pv 1) (pe_fldK (K := K) rfl (pv 0)) (fun _ _ => rfl)) (pa_cons pe_int pa_nil))))))), ?_⟩
    have g1 : ∀ (H' : Hp) (σ : L2.St), Ex H H' → σ[0]? = some (some (.ref o)) → Ev (tFld K (tVar 0) "one") σ H' (.int i) := fun H' σ e h0 => ev_fld (ev_var h0) (e o _ ho) L_Begins.cl N_Begins_one lk2a
    have g2 : ∀ (H' : Hp) (σ : L2.St), Ex H H' → σ[0]? = some (some (.ref o)) → Ev (tFld K (tVar 0) "other") σ H' (.int j) := fun H' σ e h0 => ev_fld (ev_var h0) (e o _ ho) L_Begins.cl N_Begins_other (lk2 (by decide +kernel))
    have hlen : (ws.map tx).length = ws.length := List.length_map _
    refine q_when (b := decide (i = j) || !inR ws.length [i, j]) (et_or (et_B (ev_op (g1 _ _ (Ex.refl _) rfl) (g2 _ _ (Ex.refl _) rfl) rv_eqI)) fun _ => et_not (et_test (ev_call2L (ev_var rfl) (el_lst (vs := [.int i, .int j]) (ea_cons (g1 _ _ (Ex.refl _) rfl) (ea_cons (g2 _ _ (Ex.refl _) rfl) ea_nil)) (by simp)) fun q H1 e1 hq => by
      have := sv_are_places (K := K) (p := p) (q := q) (ns := [i, j]) (ex_l e1 hp) (sq_of hq) (by simp)
      rwa [hlen] at this))) (fun h0 H1 e1 => ?_) (fun h0 H1 e1 => ?_)
    · refine s_ret ev_c fun H2 e2 => ?_
      have h := k H2 (e1.trans e2)
      have hv : bgV ws i j = false := by
        unfold bgV
        rcases Bool.or_eq_true_iff.mp h0 with h | h
        · rw [h]; rfl
        · have : inR ws.length [i, j] = false := by simpa using h
          rw [this, Bool.and_false, Bool.false_and]
      rw [hv] at h
      exact h
    · obtain ⟨h1, h2⟩ := Bool.or_eq_false_iff.mp h0
      have h3 : inR ws.length [i, j] = true := by simpa using h2
      obtain ⟨⟨a1, a2⟩, b1, b2⟩ := inR2.mp h3
      have x1 := ev_op (H := H1) (σ := [some (.ref o), some (.ref p)]) (ev_var (i := 1) rfl) (g1 _ _ e1 rfl) (rv_ixL (K := K) (ex_l e1 hp) (wAt_get a1 a2))
      have x2 := ev_op (H := H1) (σ := [some (.ref o), some (.ref p)]) (ev_var (i := 1) rfl) (g2 _ _ e1 rfl) (rv_ixL (K := K) (ex_l e1 hp) (wAt_get b1 b2))
      refine s_ret (ev_call (vs := [tx (wAt ws i), tx (wAt ws j), .int ((0 : Nat) : Int)]) (ea_cons x1 (ea_cons x2 (ea_cons ev_c ea_nil))) (sv_stands (by have := hb _ (wAt_mem a1 a2); omega) (by have := hb _ (wAt_mem b1 b2); omega))) fun H2 e2 => ?_
      have h := k H2 (e1.trans e2)
      unfold bgV at h
      rw [h1, h3] at h
      unfold standsB
      rw [List.drop_zero]
      exact h
def spApShows (K : PySem.W.Frag) (aAp : Addr) : Sp := fun vs H Q _ => ∃ (o l p dx : Addr) (ws : List Wd) (ns : List Int), vs = [.ref o, .ref p] ∧ H o = some (.ins aAp dx [("order", .ref l)]) ∧ SqL K H l (ns.map V.int) ∧ SqL K H p (ws.map tx) ∧ ws.length ≤ 1000 ∧ (∀ a ∈ ws, a.length ≤ 1000) ∧ ns.length ≤ 6000 ∧
  ∀ H', Ex H H' → Q (.bl (apV ws ns)) H'
theorem map_wAt_get {ws : List Wd} {ns : List Int} {i : Nat} (h : i < ns.length) : ((ns.map (wAt ws)).map tx)[i]? = some (tx ((ns.map (wAt ws)).getD i [])) := by simp [List.getD, List.getElem?_map, h]
theorem map_wAt_mem {ws : List Wd} {ns : List Int} (hr : ∀ n ∈ ns, 0 ≤ n ∧ n < (ws.length : Int)) {i : Nat} (h : i < ns.length) : (ns.map (wAt ws)).getD i [] ∈ ws := by
  have e : (ns.map (wAt ws)).getD i [] = wAt ws ns[i] := by simp [List.getD, h]
  rw [e]
  obtain ⟨h1, h2⟩ := hr _ (List.getElem_mem h)
  exact wAt_mem h1 h2
theorem ok_Apart_shows {aAp : Addr} (D : MthAt K aAp "shows" "Apart.shows" s_Apart_shows ["self", "code"]) (T : Blt mg) (L_Apart : ClsI K aAp) (N_Apart_order : NoAttr K aAp "order") (C_stands : Cal P w K mg base 1 "stands" spStands) :
    MCal P w K mg base 2 aAp "shows" (spApShows K aAp) := by
  refine mcal_of L_Apart.cl D sc_Apart_shows (fun vs H Q E h => ?_) (fun f cdv A outer s H vs Q E hr h => ?_)
  · obtain ⟨o, l, p, dx, ws, ns, rfl, _⟩ := h; rfl
  · obtain ⟨o, l, p, dx, ws, ns, rfl, ho, hl, hp, hn, hb, hnl, k⟩ := h
    refine ⟨_, (pss_cons (ps_if (pt_cmpR (op_neDK (K := K) rfl hr.units) (pe_callB (cr_sortedIK (K := K) rfl) (by rfl) T.sorted (by decide +kernel) (pa_cons (pe_fldK (K := K) rfl (pv 0)) pa_nil)) (L2.pe_listRg rfl (by rfl) T.list (prg_1 (by rfl) T.range (pe_callB (call_len_seqK (K := K) rfl) (by rfl) T.len (by decide +kernel) (pa_cons (pv 1) pa_nil)))) (nomark _)) (pss_one (ps_ret pe_bl)) pss_nil)
      (pss_cons (ps_setLc (i := 2) (own := [("place", 4)]) rfl sc_Apart_shows.nd rfl rfl (sw_true rfl rfl rfl (by decide +kernel)) (pi_listK (K := K) rfl (pe_fldK (K := K) rfl (pv 0))) (blkOk_by (own := [("place", 4)]) (N := N_Apart_shows) (sc := defScope s_Apart_shows) (by decide +kernel)) (fun _ _ _ _ _ => (pg_name (i := 4) sc_Apart_shows.nd rfl (.inl rfl))) (fun _ _ _ _ _ => pts_nil) (fun _ _ _ _ _ => (pe_ix (ix_listK (K := K) rfl) (pv 1) (pv 4) (fun _ _ => rfl))))
      (pss_cons (ps_for PassesOwn.never rfl (pi_range1 (by rfl) T.range (pa_cons (pe_op op_sub (pe_callB (call_len_seqK (K := K) rfl) (by rfl) T.len (by decide +kernel) (pa_cons (pv 2) pa_nil)) pe_int) pa_nil)) (pg_name (i := 3) sc_Apart_shows.nd rfl (.inl rfl)) (pss_one (ps_if (PW.pt (pw_or (pt_cmpR op_gt_str (pe_ix (ix_listK (K := K) rfl) (pv 2) (pv 3) (fun _ _ => rfl)) (pe_ix (ix_listK (K := K) rfl) (pv 2) (pe_op op_add (pv 3) pe_int) (fun _ _ => rfl)) (nomark _)) (pw_or1 (pt_val (pe_c C_stands hr (by decide) (by rfl) (pa_cons (pe_ix (ix_listK (K := K) rfl) (pv 2) (pv 3) (fun _ _ => rfl)) (pa_cons (pe_ix (ix_listK (K := K) rfl) (pv 2) (pe_op op_add (pv 3) pe_int) (fun _ _ => rfl)) (pa_cons pe_int pa_nil)))))))) (pss_one (ps_ret pe_bl)) pss_nil)))
      (pss_one (ps_ret pe_bl))))), ?_⟩
    have gl : ∀ (H' : Hp) (σ : L2.St), Ex H H' → σ[0]? = some (some (.ref o)) → Ev (tFld K (tVar 0) "order") σ H' (.ref l) := fun H' σ e h0 => ev_fld (ev_var h0) (e o _ ho) L_Apart.cl N_Apart_order (look1 _ _)
    have glen : ∀ (H' : Hp) (σ : L2.St), Ex H H' → σ[1]? = some (some (.ref p)) → Ev (tCB (rLenQ K) (tCons (tVar 1) tNil)) σ H' (.int (ws.length : Int)) := fun H' σ e h0 => by
      have := ev_len' (K := K) (ev_var (H := H') h0) (ex_l e hp)
      rwa [List.length_map] at this
    refine q_when (b := !decide (sortI ns = rgI ws.length)) (et_B (ev_neQ enc_int (eq_new (el_sortedI (gl _ _ (Ex.refl _) rfl) hl)) (eq_new (el_listRg (glen _ _ (Ex.refl _) rfl) (by omega))) (by simp) (by simp))) (fun h0 H1 e1 => ?_) (fun h0 H1 e1 => ?_)
    · refine s_ret ev_c fun H2 e2 => ?_
      have h := k H2 (e1.trans e2)
      have hv : apV ws ns = false := by
        unfold apV
        have : decide (sortI ns = rgI ws.length) = false := by simpa using h0
        rw [this]; rfl
      rw [hv] at h
      exact h
    · have hd : decide (sortI ns = rgI ws.length) = true := by simpa using h0
      have hperm := sortI_rg.mp (of_decide_eq_true hd)
      have hrg : ∀ n ∈ ns, 0 ≤ n ∧ n < (ws.length : Int) := fun n hm => rgI_mem.mp (hperm.mem_iff.mp hm)
      have hln : ns.length = ws.length := by rw [hperm.length_eq, rgI_len]
      refine q_asgL (xs := (ns.map (wAt ws)).map tx) (el_mapS (φ := V.int) (g := wAt ws) (gl _ _ e1 rfl) (ex_l e1 hl) (by omega) (fun _ => rfl) fun n hm => ?_) fun q H2 nq e2 hq => ?_
      · obtain ⟨a1, a2⟩ := hrg n hm
        exact ev_op (ev_var rfl) (ev_var rfl) (rv_ixL (K := K) (ex_l e1 hp) (wAt_get a1 a2))
      · have gln : Ev (tOp (rI0 fun i j => .int (i - j)) (tCB (rLenQ K) (tCons (tVar 2) tNil)) (tC (.int 1))) [some (.ref o), some (.ref p), some (.ref q), none, none] H2 (.int ((ns.length : Int) - 1)) := by
          have h := ev_op (ev_len' (K := K) (σ := [some (.ref o), some (.ref p), some (.ref q), none, none]) (ev_var (i := 2) (H := H2) rfl) (sq_of hq)) (ev_c (v := .int 1)) rv_sub
          rwa [List.length_map, List.length_map] at h
        refine q_forR1m (ea_cons gln ea_nil) ⟨by omega, by omega⟩ (fun i σ' H' => ∃ s3, Ex H2 H' ∧ σ' = [some (.ref o), some (.ref p), some (.ref q), s3, none] ∧ ∀ j, j < i → badAt (ns.map (wAt ws)) j = false) (fun H3 e3 => ⟨_, e3, rfl, fun j hj => absurd hj (by omega)⟩) (fun i σ' H' hi hP => ?_) (fun σ' H' hP => ?_)
        · obtain ⟨s3, ex, rfl, hbad⟩ := hP
          have hi1 : i < ns.length := by omega
          have hi2 : i + 1 < ns.length := by omega
          have e9 : (i : Int) + 1 = ((i + 1 : Nat) : Int) := by omega
          have hq' := sq_of (K := K) (ex q _ hq)
          have x1 : ∀ H3, Ex H' H3 → Ev (tOp (rIxL K) (tVar 2) (tVar 3)) [some (.ref o), some (.ref p), some (.ref q), some (.int (i : Int)), none] H3 (tx ((ns.map (wAt ws)).getD i [])) := fun H3 e3 => ev_op (ev_var (i := 2) rfl) (ev_var (i := 3) rfl) (rv_ixL (K := K) (ex_l e3 hq') (atI_nat (map_wAt_get hi1)))
          have x2 : ∀ H3, Ex H' H3 → Ev (tOp (rIxL K) (tVar 2) (tOp (rI0 fun i j => .int (i + j)) (tVar 3) (tC (.int 1)))) [some (.ref o), some (.ref p), some (.ref q), some (.int (i : Int)), none] H3 (tx ((ns.map (wAt ws)).getD (i + 1) [])) := fun H3 e3 => ev_op (ev_var (i := 2) rfl) (ev_is (ev_op (ev_var (i := 3) rfl) (ev_c (v := .int 1)) rv_add) (congrArg V.int e9)) (rv_ixL (K := K) (ex_l e3 hq') (atI_nat (map_wAt_get hi2)))
          have m1 := hb _ (map_wAt_mem hrg hi1)
          have m2 := hb _ (map_wAt_mem hrg hi2)
          refine s_when (b := badAt (ns.map (wAt ws)) i) (et_is (et_or (et_B (ev_op (x1 _ (Ex.refl _)) (x2 _ (Ex.refl _)) rv_gtS)) fun _ => et_test (ev_call (vs := [tx ((ns.map (wAt ws)).getD i []), tx ((ns.map (wAt ws)).getD (i + 1) []), .int ((0 : Nat) : Int)]) (ea_cons (x1 _ (Ex.refl _)) (ea_cons (x2 _ (Ex.refl _)) (ea_cons ev_c ea_nil))) (sv_stands (by omega) (by omega)))) ?_) (fun hbd H3 e3 => ?_) (fun hbd H3 e3 => ?_)
          · unfold badAt standsB
            rw [List.drop_zero]
          · refine s_ret ev_c fun H4 e4 => ?_
            have h := k H4 ((((e1.trans e2).trans ex).trans e3).trans e4)
            have hw : wrong (ns.map (wAt ws)) = true := by
              unfold wrong
              rw [List.any_eq_true]
              exact ⟨i, List.mem_range.mpr (by rw [List.length_map]; omega), hbd⟩
            have hv : apV ws ns = false := by unfold apV; rw [hw]; simp
            rw [hv] at h
            exact h
          · refine ⟨_, ex.trans e3, rfl, fun j hj => ?_⟩
            by_cases hji : j = i
            · rw [hji]; exact hbd
            · exact hbad j (by omega)
        · obtain ⟨s3, ex, rfl, hbad⟩ := hP
          refine s_ret ev_c fun H4 e4 => ?_
          have h := k H4 (((e1.trans e2).trans ex).trans e4)
          have hw : wrong (ns.map (wAt ws)) = false := by
            unfold wrong
            rw [List.any_eq_false]
            intro i hm
            have := List.mem_range.mp hm
            rw [List.length_map] at this
            have h9 := hbad i (by omega)
            rw [h9]
            simp
          have hv : apV ws ns = true := by unfold apV; rw [hd, hw]; rfl
          rw [hv] at h
          exact h
end
end Tr

set_option Elab.async false
set_option linter.all false
set_option maxRecDepth 100000
set_option maxHeartbeats 4000000
namespace Tr
open PySem PySem.Spec PyProof.Rows L2 Evl
open M3 (wat joinW pre)
abbrev s_Words___init__ : Stmt := inClass (topS 20) 0
abbrev N_Words___init__ : List Str := ["self", "words"]
theorem sc_Words___init__ : FnScope N_Words___init__ ["self", "words"] (defScope s_Words___init__) := ⟨rfl, rfl, rfl, by decide +kernel, rfl, by decide +kernel, by decide +kernel⟩
abbrev s_Words_shows : Stmt := inClass (topS 20) 1
abbrev N_Words_shows : List Str := ["self", "letters", "lengths", "words", "word", "at"]
theorem sc_Words_shows : FnScope N_Words_shows ["self", "letters", "lengths"] (defScope s_Words_shows) := ⟨rfl, rfl, rfl, by decide +kernel, rfl, by decide +kernel, by decide +kernel⟩
abbrev s_Full_shows : Stmt := inClass (topS 21) 0
abbrev N_Full_shows : List Str := ["self", "letters", "lengths", "left", "length"]
theorem sc_Full_shows : FnScope N_Full_shows ["self", "letters", "lengths"] (defScope s_Full_shows) := ⟨rfl, rfl, rfl, by decide +kernel, rfl, by decide +kernel, by decide +kernel⟩
local macro_rules | `(tactic| walk_at "sd") => `(tactic| first | assumption | rfl | omega | decide | (solve_by_elim) | (refine Nat.le_trans (m := 1000) (by solve_by_elim) (by decide)))
local macro_rules | `(tactic| walk_at "rv") => `(tactic| first
  | exact rv_add | exact rv_sub | exact rv_lt | exact rv_le | exact rv_gt | exact rv_ge | exact rv_eqI | exact rv_eqS | exact rv_eqB | exact rv_neI | exact rv_neS | exact rv_neB
  | exact rv_mod (by walk_at "sd") | exact rv_fdiv (by first | assumption | exact ⟨by omega, by omega⟩) | exact rv_addS (by walk_at "sd") | exact rv_isB | exact rv_notB | assumption)
local macro_rules | `(tactic| walk_at "ea") => `(tactic| first
  | exact ea_nil
  | (refine' ea_cons ?k1 ?k2; (case k1 => walk_at "ev"); (case k2 => walk_at "ea")))
local macro_rules | `(tactic| walk_at "eo") => `(tactic| first
  | exact eo_none
  | (refine' eo_some ?k1; (case k1 => walk_at "ev")))
local macro_rules | `(tactic| walk_at "et") => `(tactic| first
  | (refine' et_test ?k1; (case k1 => walk_at "ev"))
  | (refine' et_B ?k1; (case k1 => walk_at "ev"))
  | (refine' et_and ?k1 ?k2; (case k1 => walk_at "et"); (case k2 => (intro _; walk_at "et")))
  | (refine' et_or ?k1 ?k2; (case k1 => walk_at "et"); (case k2 => (intro _; walk_at "et")))
  | (refine' et_not ?k1; (case k1 => walk_at "et"))
  | assumption)
local macro_rules | `(tactic| walk_at "ev") => `(tactic| first
  | assumption
  | exact ev_cS
  | exact ev_c
  | exact ev_var rfl
  | (refine' ev_op ?k1 ?k2 ?k3; (case k1 => walk_at "ev"); (case k2 => walk_at "ev"); (case k3 => walk_at "rv"))
  | (refine' ev_un ?k1 ru_neg; (case k1 => walk_at "ev"))
  | (refine' ev_chain ?k1 ?k2 ?k3 ?k4 ?k5; (case k1 => walk_at "ev"); (case k2 => walk_at "ev"); (case k3 => walk_at "ev"); (case k4 => walk_at "rv"); (case k5 => (intro _; walk_at "rv")))
  | (refine' ev_slS ?k1 ?k2 ?k3 ?k4; (case k1 => walk_at "ev"); (case k2 => walk_at "eo"); (case k3 => walk_at "eo"); (case k4 => walk_at "sd"))
  | (refine' ev_lenS ?k1 ?k2; (case k1 => walk_at "ev"); (case k2 => walk_at "sd"))
  | (refine' ev_len' ?k1 ?k2; (case k1 => walk_at "ev"); (case k2 => walk_at "sd"))
  | (refine' ev_strip ?k1 ?k2 ?k3; (case k1 => walk_at "ev"); (case k2 => walk_at "ev"); (case k3 => walk_at "sd"))
  | (refine' ev_sum ?k1 ?k2; (case k1 => walk_at "ev"); (case k2 => walk_at "sd"))
  | (refine' ev_isi ?k1 ?k2 ?k3 ?k4; (case k1 => walk_at "ev"); (case k2 => walk_at "ev"); (case k3 => first | exact ty_int | exact ty_bl | exact ty_str | exact ty_list (by walk_at "sd")); (case k4 => first | exact kit_ty (r := true) (by decide +kernel) | exact kit_ty (r := false) (by decide +kernel)))
  | (refine' ev_andV ?k1 ?k2; (case k1 => walk_at "ev"); (case k2 => (intro _; walk_at "ev")))
  | (refine' ev_orV ?k1 ?k2; (case k1 => walk_at "ev"); (case k2 => (intro _; walk_at "ev")))
  | (refine' ev_notV ?k1; (case k1 => walk_at "ev"))
  | (refine' ev_call ?k1 ?k2; (case k1 => walk_at "ea"); (case k2 => walk_at "sv")))
local macro_rules | `(tactic| walk_at "el") => `(tactic| first
  | assumption
  | (refine' el_mapB ?k1 ?k2 ?k3 (fun _ => rfl) ?k5; (case k1 => walk_at "ev"); (case k2 => walk_at "sd"); (case k3 => walk_at "sd"); (case k5 => (intro _ _; walk_at "ev")))
  | (refine' el_mapI ?k1 ?k2 ?k3 (fun _ => rfl) ?k5; (case k1 => walk_at "ev"); (case k2 => walk_at "sd"); (case k3 => walk_at "sd"); (case k5 => (intro _ _; walk_at "ev")))
  | (refine' el_mapS ?k1 ?k2 ?k3 (fun _ => rfl) ?k5; (case k1 => walk_at "ev"); (case k2 => walk_at "sd"); (case k3 => walk_at "sd"); (case k5 => (intro _ _; walk_at "ev"))))
local macro_rules | `(tactic| walk_at "ev") => `(tactic| first
  | (refine' ev_all ?k1; (case k1 => walk_at "el"))
  | (refine' ev_any ?k1; (case k1 => walk_at "el"))
  | (refine' ev_sumN ?k1; (case k1 => walk_at "el"))
  | (refine' ev_join ?k1 ?k2 ?k3; (case k1 => exact ev_is ev_cS (congrArg tx codes_nil)); (case k2 => walk_at "el"); (case k3 => walk_at "sd")))

local macro_rules | `(tactic| walk_at "sv") => `(tactic| first | exact sv_is_text (by walk_at "sd") | exact sv_stands (by walk_at "sd") (by walk_at "sd"))
/-! ### an order there is -/
def insW (x : Wd) : List Wd → List Wd
  | [] => [x]
  | y :: r => if y < x then y :: insW x r else x :: y :: r
def sortW : List Wd → List Wd
  | [] => []
  | x :: r => insW x (sortW r)
theorem insW_perm (x : Wd) : ∀ ys, (insW x ys).Perm (x :: ys)
  | [] => List.Perm.refl _
  | y :: r => by
    unfold insW
    split
    · exact ((insW_perm x r).cons y).trans (List.Perm.swap x y r)
    · exact List.Perm.refl _
theorem insW_rises (x : Wd) : ∀ ys, Rises ys → Rises (insW x ys)
  | [], _ => List.pairwise_singleton _ _
  | y :: r, h => by
    obtain ⟨h1, h2⟩ := List.pairwise_cons.mp h
    unfold insW
    split
    · rename_i hlt
      refine List.pairwise_cons.mpr ⟨fun z hz => ?_, insW_rises x r h2⟩
      rcases List.mem_cons.mp ((insW_perm x r).mem_iff.mp hz) with rfl | hz
      · exact List.not_lt.mpr (List.le_of_lt hlt)
      · exact h1 z hz
    · rename_i hlt
      refine List.pairwise_cons.mpr ⟨fun z hz => ?_, h⟩
      rcases List.mem_cons.mp hz with rfl | hz
      · exact hlt
      · exact List.not_lt.mpr (List.le_trans (List.not_lt.mp hlt) (List.not_lt.mp (h1 z hz)))
theorem sortW_of : ∀ ws, SortOf ws (sortW ws)
  | [] => ⟨List.Perm.refl _, List.Pairwise.nil⟩
  | x :: r => ⟨(insW_perm x _).trans ((sortW_of r).perm.cons x), insW_rises x _ (sortW_of r).rises⟩
theorem sortW_len (ws : List Wd) : (sortW ws).length = ws.length := (sortW_of ws).perm.length_eq
/-! ### words of lengths -/
def letK (k : Nat) (a : Wd) : Bool := decide (∀ c ∈ a, c ∈ abc.take k)
def wordsV (k : Nat) (ls : List Nat) (ws : List Wd) : Bool := decide (ws.map List.length = ls) && ws.all (letK k) && !M5.adj (sortW ws)
theorem letK_ok {k : Nat} {a : Wd} (h : letK k a = true) : okW a := fun c hc => mem_abc.mp (List.mem_of_mem_take (of_decide_eq_true h c hc))
theorem strip_K (k : Nat) (a : Wd) : decide (codes (Txt.stripChars (S a) (S (abc.take k))) = codes ("" : Str)) = letK k a := by
  unfold letK
  have h : (codes (Txt.stripChars (S a) (S (abc.take k))) = codes ("" : Str)) ↔ ∀ c ∈ a, c ∈ abc.take k := by
    rw [codes_nil]
    constructor
    · intro e
      have e2 : Txt.stripChars (S a) (S (abc.take k)) = S [] := by rw [← S_codes (Txt.stripChars (S a) (S (abc.take k))), e]
      exact (strip_iff a _).mp e2
    · intro o
      rw [(strip_iff a _).mpr o, codes_S]
  simp only [h]
theorem map_nI (ns : List Nat) : ns.map nI = (List.map (fun n : Nat => (n : Int)) ns).map V.int := by rw [List.map_map]; rfl
theorem cast_eq (xs ys : List Nat) : decide (List.map (fun n : Nat => (n : Int)) xs = List.map (fun n : Nat => (n : Int)) ys) = decide (xs = ys) := by
  have h : (List.map (fun n : Nat => (n : Int)) xs = List.map (fun n : Nat => (n : Int)) ys) ↔ xs = ys := by
    constructor
    · intro e
      have := congrArg (List.map Int.toNat) e
      rw [List.map_map, List.map_map] at this
      have h2 : (Int.toNat ∘ fun n : Nat => (n : Int)) = id := by funext n; simp
      rw [h2, List.map_id, List.map_id] at this
      exact this
    · intro e; rw [e]
  simp only [h]
theorem count_cast (j : Nat) : ∀ lens : List Nat, (List.map (fun n : Nat => (n : Int)) lens).count ((j : Nat) : Int) = lens.count j
  | [] => rfl
  | x :: r => by
    rw [List.map_cons, List.count_cons, List.count_cons, count_cast j r]
    by_cases h : x = j
    · subst h; simp
    · have h2 : ¬ ((x : Nat) : Int) = ((j : Nat) : Int) := by omega
      simp [h, h2]
theorem ev_count {K : PySem.W.Frag} {σ : L2.St} {H : Hp} {to te : TE} {p : Addr} {ns : List Int} {k : Int} (ho : Ev to σ H (.ref p)) (hs : SqL K H p (ns.map V.int)) (hk : Ev te σ H (.int k)) : Ev (tBM K "list" (rCntI K) to (tCons te tNil)) σ H (.int ((ns.count k : Nat) : Int)) := fun H1 e Q q =>
  ho H1 e _ fun H2 e2 => ⟨Or.inl ⟨rfl, _, ex_l (e.trans e2) hs⟩, hk H2 (e.trans e2) _ fun H3 e3 => ⟨p, ns, k, rfl, rfl, ex_l ((e.trans e2).trans e3) hs, q H3 (e2.trans e3)⟩⟩
theorem getD_map {ss : List Wd} {i : Nat} (h : i < ss.length) : (ss.map tx)[i]? = some (tx (ss.getD i [])) := by simp [List.getD, List.getElem?_map, h]
theorem getD_memW {ss : List Wd} {i : Nat} (h : i < ss.length) : ss.getD i [] ∈ ss := by
  have : ss.getD i [] = ss[i] := by simp [List.getD, h]
  rw [this]; exact List.getElem_mem h
section
variable {P : Program} {w : World} {K : PySem.W.Frag} {mg : Str → Option Value} {base : Heap} {H : Hp}
/-- range(len(words) - 1) -/
theorem ea_n1 {σ : L2.St} {te : TE} {n : Nat} (h : Ev te σ H (.int (n : Int))) (hn : n ≤ 40000) : ∃ m : Nat, m = n - 1 ∧ ∀ {te1 : TE} {g : Nat → Bool} {j : Nat} {vs : List Nat}, (∀ x, wipe ((wipe σ vs).set j (some x)) vs = wipe σ vs) → (∀ i, i < n - 1 → Ev te1 ((wipe σ vs).set j (some (.int (i : Int)))) H (.bl (g i))) →
    EvL (tLc (iRng1 (tCons (tOp (rI0 fun i j => .int (i - j)) te (tC (.int 1))) tNil)) (gName j) tYes te1 vs) σ H (((List.range (n - 1)).map g).map V.bl) := by
  refine ⟨n - 1, rfl, fun {te1 g j vs} hw he => ?_⟩
  rcases Nat.eq_zero_or_pos n with h0 | h0
  · subst h0
    intro H1 e Q q
    refine h H1 e _ fun H2 e2 => ⟨0, 1, rfl, rfl, ?_⟩
    refine ⟨((0 : Nat) : Int) - 1, rfl, by decide, by decide, fun Dl hD => lc_range (lo := 0) (n := (((0 : Nat) : Int) - 1).toNat) (fun i H' => i = 0 ∧ H' = upd H2 Dl (.lst [])) ⟨rfl, rfl⟩ (fun i H' hi _ => absurd hi (by simp)) (fun H' hP => ?_)⟩
    obtain ⟨_, rfl⟩ := hP
    exact q Dl _ (fresh_back e2 hD) (e2.trans (Ex.new hD)) upd_same
  · have e1 : (n : Int) - 1 = ((n - 1 : Nat) : Int) := by omega
    exact el_rangeB (n := n - 1) (ea_cons (ev_is (ev_op h ev_c rv_sub) (congrArg V.int e1)) ea_nil) (by omega) hw he
/-! ### Words -/
theorem ok_Words___init__ {aWo : Addr} (D : IniAt K aWo "Words.__init__" s_Words___init__ ["self", "words"]) (T : Blt mg) (G_Words : mg "Words" = some (.ref aWo)) (L_Words : ClsI K aWo) (N_Words_words : NoAttr K aWo "words") : MkAt P w K mg base 1 "Words" aWo (spIni1 K aWo "words") := by
  refine mk_ofI G_Words D sc_Words___init__ (fun vs H Q E h => ?_) (fun f cdv A outer s H vs Q E hr h => ?_)
  · obtain ⟨p, q, dx, xs, rfl, _⟩ := h; rfl
  · obtain ⟨p, q, dx, xs, rfl, hp, hq, k⟩ := h
    refine ⟨_, (pss_one (ps_fldK (K := K) rfl (pv 0) (pe_callTy (call_list_ofK (K := K) rfl) (by rfl) T.list (by decide +kernel) (pa_cons (pv 1) pa_nil)))), ?_⟩
    exact ini1_run (D := ⟨fun _ H' => Q .non H', Q, fun _ _ => False, fun _ _ => False⟩) L_Words.cl N_Words_words hp hq rfl rfl k
def spWordsShows (K : PySem.W.Frag) (aWo : Addr) : Sp := fun vs H Q _ => ∃ (o l q dx : Addr) (k : Nat) (ws : List Wd) (ls : List Nat), vs = [.ref o, .int (k : Int), .ref q] ∧ H o = some (.ins aWo dx [("words", .ref l)]) ∧ SqL K H l (ws.map tx) ∧ SqL K H q (ls.map nI) ∧ ws.length ≤ 1000 ∧ (∀ a ∈ ws, a.length ≤ 1000) ∧
  ∀ H', Ex H H' → Q (.bl (wordsV k ls ws)) H'
theorem ok_Words_shows {aWo : Addr} (D : MthAt K aWo "shows" "Words.shows" s_Words_shows ["self", "letters", "lengths"]) (T : Blt mg) (L_Words : ClsI K aWo) (N_Words_words : NoAttr K aWo "words") (C_is_text : Cal P w K mg base 1 "is_text" spIsText) (C_stands : Cal P w K mg base 1 "stands" spStands) :
    MCal P w K mg base 2 aWo "shows" (spWordsShows K aWo) := by
  refine mcal_of L_Words.cl D sc_Words_shows (fun vs H Q E h => ?_) (fun f cdv A outer s H vs Q E hr h => ?_)
  · obtain ⟨o, l, q, dx, k, ws, ls, rfl, _⟩ := h; rfl
  · obtain ⟨o, l, q, dx, k, ws, ls, rfl, ho, hl, hq, hwn, hwa, kk⟩ := h
    refine ⟨_, (pss_cons (ps_if (pt_cmpR (op_neDK (K := K) rfl hr.units) (pe_lc (own := [("word", 4)]) rfl sc_Words_shows.nd (pi_listK (K := K) rfl (pe_fldK (K := K) rfl (pv 0))) (blkOk_by (own := [("word", 4)]) (N := N_Words_shows) (sc := defScope s_Words_shows) (by decide +kernel)) (fun _ _ _ _ _ => (pg_name (i := 4) sc_Words_shows.nd rfl (.inl rfl))) (fun _ _ _ _ _ => pts_nil) (fun _ _ _ _ _ => (pe_callB call_len_str (by rfl) T.len (by decide +kernel) (pa_cons (pv 4) pa_nil)))) (pv 2) (nomark _)) (pss_one (ps_ret pe_bl)) pss_nil)
      (pss_cons (ps_if (pt_not (pt_val (pe_callB (cr_allK (K := K) rfl rfl) (by rfl) T.all (by decide +kernel) (pa_cons (pe_lc (own := [("word", 4)]) rfl sc_Words_shows.nd (pi_listK (K := K) rfl (pe_fldK (K := K) rfl (pv 0))) (blkOk_by (own := [("word", 4)]) (N := N_Words_shows) (sc := defScope s_Words_shows) (by decide +kernel)) (fun _ _ _ _ _ => (pg_name (i := 4) sc_Words_shows.nd rfl (.inl rfl))) (fun _ _ _ _ _ => pts_nil) (fun _ _ _ _ _ => (pe_and (pe_c C_is_text hr (by decide) (by rfl) (pa_cons (pv 4) pa_nil)) (pe_one (pe_cmpR op_eq (pe_m1 PySem.F.slot_str_strip PySem.F.type_str_strip mt_stripChars (pv 4) (pe_slice sl_str (pe_gv (by rfl) T.LETTERS) po_none (po_some (pv 1)))) pe_str (nomark _)))))) pa_nil)))) (pss_one (ps_ret pe_bl)) pss_nil)
      (pss_cons (ps_set (i := 3) sc_Words_shows.nd rfl (.inr rfl) (pe_callB (cr_sortedSA (K := K) rfl) (by rfl) T.sorted (by decide +kernel) (pa_cons (pe_fldK (K := K) rfl (pv 0)) pa_nil)))
      (pss_one (ps_ret (pe_not (pe_callB (cr_anyK (K := K) rfl rfl) (by rfl) T.any (by decide +kernel) (pa_cons (pe_lc (own := [("at", 5)]) rfl sc_Words_shows.nd (pi_range1 (by rfl) T.range (pa_cons (pe_op op_sub (pe_callB (call_len_seqK (K := K) rfl) (by rfl) T.len (by decide +kernel) (pa_cons (pv 3) pa_nil)) pe_int) pa_nil)) (blkOk_by (own := [("at", 5)]) (N := N_Words_shows) (sc := defScope s_Words_shows) (by decide +kernel)) (fun _ _ _ _ _ => (pg_name (i := 5) sc_Words_shows.nd rfl (.inl rfl))) (fun _ _ _ _ _ => pts_nil) (fun _ _ _ _ _ => (pe_c C_stands hr (by decide) (by rfl) (pa_cons (pe_ix (ix_listK (K := K) rfl) (pv 3) (pv 5) (fun _ _ => rfl)) (pa_cons (pe_ix (ix_listK (K := K) rfl) (pv 3) (pe_op op_add (pv 5) pe_int) (fun _ _ => rfl)) (pa_cons pe_int pa_nil)))))) pa_nil)))))))), ?_⟩
    have gl : ∀ (H' : Hp) (σ : L2.St), Ex H H' → σ[0]? = some (some (.ref o)) → Ev (tFld K (tVar 0) "words") σ H' (.ref l) := fun H' σ e h0 => ev_fld (ev_var h0) (e o _ ho) L_Words.cl N_Words_words (look1 _ _)
    refine q_when (b := !decide (ws.map List.length = ls)) (et_is (et_B (ev_neQ (xs := List.map (fun n : Nat => (n : Int)) (ws.map List.length)) (ys := List.map (fun n : Nat => (n : Int)) ls) enc_int (eq_new (by
        have e : List.map (fun n : Nat => (n : Int)) (ws.map List.length) = ws.map fun a => (a.length : Int) := by rw [List.map_map]; rfl
        rw [e]
        exact el_mapI (φ := tx) (g := fun a : Wd => (a.length : Int)) (gl _ _ (Ex.refl _) rfl) hl (by omega) (fun _ => rfl) fun a ha => ev_lenS (ev_var rfl) (by have := hwa a ha; omega))) (eq_at (ev_var rfl) (by rw [← map_nI]; exact hq)) (by simp) (by simp))) (by rw [cast_eq])) (fun h0 H1 e1 => ?_) (fun h0 H1 e1 => ?_)
    · refine s_ret ev_c fun H2 e2 => ?_
      have := kk H2 (e1.trans e2)
      have h1 : decide (ws.map List.length = ls) = false := by
        cases hh : decide (ws.map List.length = ls) with
        | true => rw [hh] at h0; cases h0
        | false => rfl
      unfold wordsV at this
      rw [h1, Bool.false_and, Bool.false_and] at this
      exact this
    · have h1 : decide (ws.map List.length = ls) = true := by
        cases hh : decide (ws.map List.length = ls) with
        | true => rfl
        | false => rw [hh] at h0; cases h0
      refine q_when (b := !ws.all (letK k)) (et_is (et_not (et_B (ev_all (el_mapB (φ := tx) (g := fun a => decide (okW a) && letK k a) (gl _ _ e1 rfl) (ex_l e1 hl) (by omega) (fun _ => rfl) fun a ha => ?_)))) ?_) (fun h2 H2 e2 => ?_) (fun h2 H2 e2 => ?_)
      · have hal := hwa a ha
        refine ev_is (ev_andV (ev_call (vs := [tx a]) (ea_cons (ev_var rfl) ea_nil) (sv_is_text (by omega))) fun _ => ev_op (ev_strip (b := abc.take k) (ev_var rfl) (ev_is (ev_slS (a := abc) ev_cS eo_none (eo_some (ev_var rfl)) (by decide +kernel)) (congrArg tx (cut_to abc k))) (by omega)) ev_cS rv_eqS) ?_
        rw [strip_K]
      · rw [List.all_map]
        congr 1
        apply Bool.eq_iff_iff.mpr
        rw [List.all_eq_true, List.all_eq_true]
        refine forall_congr' fun a => ⟨fun h ha => ?_, fun h ha => ?_⟩
        · have := h ha
          simp only [Function.comp, id, Bool.and_eq_true] at this
          exact this.2
        · show (decide (okW a) && letK k a) = true
          rw [h ha, decide_eq_true (letK_ok (h ha))]; rfl
      · refine s_ret ev_c fun H3 e3 => ?_
        have := kk H3 ((e1.trans e2).trans e3)
        have h3 : ws.all (letK k) = false := by
          cases hh : ws.all (letK k) with
          | true => rw [hh] at h2; cases h2
          | false => rfl
        unfold wordsV at this
        rw [h3, Bool.and_false, Bool.false_and] at this
        exact this
      · have h3 : ws.all (letK k) = true := by
          cases hh : ws.all (letK k) with
          | true => rfl
          | false => rw [hh] at h2; cases h2
        have ex2 := e1.trans e2
        refine q_asgXs (ex_sorted (gl _ _ ex2 rfl) (ex_l ex2 hl)) fun p H3 vs np e3 hp hss => ?_
        obtain ⟨ss, hss, rfl⟩ := hss
        have hse := sort_uniq hss (sortW_of ws)
        subst hse
        have hln := sortW_len ws
        have hsm : ∀ a ∈ sortW ws, a.length ≤ 1000 := fun a ha => hwa a ((sortW_of ws).perm.mem_iff.mp ha)
        have hnl : ∀ σ : L2.St, σ[3]? = some (some (.ref p)) → Ev (tCB (rLenQ K) (tCons (tVar 3) tNil)) σ H3 (.int (((sortW ws).length : Nat) : Int)) := fun σ h3 => by
          have := ev_len' (K := K) (ev_var (H := H3) h3) (sq_of hp)
          rwa [List.length_map] at this
        obtain ⟨_, _, hlc⟩ := ea_n1 (H := H3) (hnl [some (.ref o), some (.int (k : Int)), some (.ref q), some (.ref p), none, none] rfl) (by omega)
        refine s_ret (v := .bl (!M5.adj (sortW ws))) (ev_notV (ev_is (ev_any (hlc (g := fun i => pre ((sortW ws).getD i []) ((sortW ws).getD (i + 1) [])) (fun _ => rfl) fun i hi => ?_)) (congrArg V.bl (by rw [List.any_map]; rfl)))) fun H4 e4 => ?_
        · have g1 := ev_op (H := H3) (σ := [some (.ref o), some (.int (k : Int)), some (.ref q), some (.ref p), none, some (.int (i : Int))]) (ev_var (i := 3) rfl) (ev_var (i := 5) rfl) (rv_ixL (K := K) (sq_of hp) (atI_nat (getD_map (show i < (sortW ws).length by omega))))
          have e9 : (i : Int) + 1 = ((i + 1 : Nat) : Int) := by omega
          have g2 := ev_op (H := H3) (σ := [some (.ref o), some (.int (k : Int)), some (.ref q), some (.ref p), none, some (.int (i : Int))]) (ev_var (i := 3) rfl) (ev_is (ev_op (ev_var (i := 5) rfl) (ev_c (v := .int 1)) rv_add) (congrArg V.int e9)) (rv_ixL (K := K) (sq_of hp) (atI_nat (getD_map (show i + 1 < (sortW ws).length by omega))))
          refine ev_is (ev_call (vs := [tx ((sortW ws).getD i []), tx ((sortW ws).getD (i + 1) []), .int ((0 : Nat) : Int)]) (ea_cons g1 (ea_cons g2 (ea_cons ev_c ea_nil))) (sv_stands (by have := hsm _ (getD_memW (show i < (sortW ws).length by omega)); omega) (by have := hsm _ (getD_memW (show i + 1 < (sortW ws).length by omega)); omega))) ?_
          unfold standsB
          rw [List.drop_zero]
        · have := kk H4 ((ex2.trans e3).trans e4)
          unfold wordsV at this
          rw [h1, h3] at this
          exact this
/-! ### Full -/
def spFullShows (K : PySem.W.Frag) (aFu : Addr) : Sp := fun vs H Q _ => ∃ (o q : Addr) (k : Nat) (ls : List Nat), vs = [.ref o, .int (k : Int), .ref q] ∧ SqL K H q (ls.map nI) ∧ 1 ≤ k ∧ k ≤ 26 ∧ (∀ l ∈ ls, l ≤ 1000) ∧ ∀ H', Ex H H' → Q (.bl (M5.fullV k ls (maxN ls))) H'
theorem any_take {L i : Nat} {f : Nat → Bool} (h : ∀ j, j < i → f j = false) (hi : i = L) : (List.range L).any f = false := by
  rw [List.any_eq_false]
  intro j hj
  rw [h j (by have := List.mem_range.mp hj; omega)]; decide
theorem ok_Full_shows {aFu : Addr} (D : MthAt K aFu "shows" "Full.shows" s_Full_shows ["self", "letters", "lengths"]) (T : Blt mg) (L_Full : ClsI K aFu) : MCal P w K mg base 1 aFu "shows" (spFullShows K aFu) := by
  refine mcal_of L_Full.cl D sc_Full_shows (fun vs H Q E h => ?_) (fun f cdv A outer s H vs Q E hr h => ?_)
  · obtain ⟨o, q, k, ls, rfl, _⟩ := h; rfl
  · obtain ⟨o, q, k, ls, rfl, hq, hk1, hk2, hl, kk⟩ := h
    refine ⟨_, (pss_cons (ps_set (i := 3) sc_Full_shows.nd rfl (.inl rfl) pe_int)
      (pss_cons (ps_for PassesOwn.never rfl (pi_range2 (by rfl) T.range (pa_cons pe_int (pa_cons (pe_op op_add (pe_callBK (cr_maxD (K := K) rfl rfl (hu_of hr)) (by rfl) T.max (by decide +kernel) (pa_cons (pv 2) pa_nil) (pk_cons pe_int pk_nil)) pe_int) pa_nil))) (pg_name (i := 4) sc_Full_shows.nd rfl (.inl rfl)) (pss_cons (ps_set (i := 3) sc_Full_shows.nd rfl (.inl rfl) (pe_op op_sub (pe_op op_mul (pv 3) (pv 1)) (pe_bm PySem.F.plainAttrs_list PySem.F.slot_list_count PySem.F.type_list_count (mt_lcountK (K := K) rfl) (pv 2) (pa_cons (pv 4) pa_nil))))
      (pss_one (ps_if (pt_cmpR op_lt (pv 3) pe_int (nomark _)) (pss_one (ps_ret pe_bl)) pss_nil))))
      (pss_one (ps_ret pe_bl)))), ?_⟩
    have hL : maxN ls ≤ 1000 := maxN_le hl
    refine q_asg (v := .int (M5.left k ls 0)) ev_c fun H1 e1 => ?_
    refine q_forR2 (lo := 1) (n := ((maxN ls : Nat) : Int) + 1) (ea_cons ev_c (ea_cons (ev_op (ev_maxD (ns := ls) (ev_var rfl) (ex_l e1 hq) ev_c) ev_c rv_add) ea_nil)) ⟨by omega, by omega, by omega, by omega⟩
      (fun i σ' H' => ∃ s4, Ex H H' ∧ (∀ j, j < i → decide (M5.left k ls (j + 1) < 0) = false) ∧ σ' = [some (.ref o), some (.int (k : Int)), some (.ref q), some (.int (M5.left k ls i)), s4]) (fun H2 e2 => ⟨_, e1.trans e2, fun j hj => absurd hj (Nat.not_lt_zero _), rfl⟩) (fun i σ' H' hi hP => ?_) (fun σ' H' hP => ?_)
    · obtain ⟨s4, ex, hn, rfl⟩ := hP
      have e1i : (1 : Int) + (i : Int) = ((i + 1 : Nat) : Int) := by omega
      rw [e1i]
      have hq' := ex_l ex hq
      rw [map_nI] at hq'
      refine q_asg (v := .int (M5.left k ls (i + 1))) (ev_is (ev_op (ev_op (ev_var rfl) (ev_var rfl) (rv_mul (.inr ⟨by omega, by omega⟩))) (ev_count (ev_var rfl) hq' (ev_var rfl)) rv_sub) (congrArg V.int (by rw [count_cast]; rfl))) fun H3 e3 => ?_
      refine s_when (et_test (ev_op (ev_var rfl) ev_c rv_lt)) (fun hb H4 e4 => ?_) (fun hb H4 e4 => ⟨_, (ex.trans e3).trans e4, fun j hj => ?_, rfl⟩)
      · refine s_ret ev_c fun H5 e5 => ?_
        have := kk H5 (((ex.trans e3).trans e4).trans e5)
        have hf : M5.fullV k ls (maxN ls) = true := by
          unfold M5.fullV
          rw [List.any_eq_true]
          exact ⟨i, List.mem_range.mpr (by omega), hb⟩
        rw [hf] at this
        exact this
      · rcases Nat.lt_or_ge j i with h | h
        · exact hn j h
        · have : j = i := by omega
          subst this; exact hb
    · obtain ⟨s4, ex, hn, rfl⟩ := hP
      refine s_ret ev_c fun H5 e5 => ?_
      have := kk H5 (ex.trans e5)
      have hf : M5.fullV k ls (maxN ls) = false := by
        unfold M5.fullV
        exact any_take hn (by omega)
      rw [hf] at this
      exact this
end
end Tr

set_option Elab.async false
set_option linter.all false
set_option maxRecDepth 100000
set_option maxHeartbeats 4000000
namespace Tr
open PySem PySem.Spec PyProof.Rows L2 Evl
open M3 (wat joinW pre)
abbrev s__law_says : Stmt := topS 35
abbrev N__law_says : List Str := ["_law_said", "_law_due"]
theorem sc__law_says : FnScope N__law_says ["_law_said", "_law_due"] (defScope s__law_says) := ⟨rfl, rfl, rfl, by decide +kernel, rfl, by decide +kernel, by decide +kernel⟩
abbrev s__law_bent : Stmt := topS 36
abbrev N__law_bent : List Str := ["_law_some", "_law_cell", "_law_more", "_law_kind", "_law_at"]
theorem sc__law_bent : FnScope N__law_bent ["_law_some", "_law_cell", "_law_more"] (defScope s__law_bent) := ⟨rfl, rfl, rfl, by decide +kernel, rfl, by decide +kernel, by decide +kernel⟩
abbrev s__law_made : Stmt := topS 38
abbrev N__law_made : List Str := ["_law_code_here", "_law_places", "_law_place"]
theorem sc__law_made : FnScope N__law_made ["_law_code_here", "_law_places"] (defScope s__law_made) := ⟨rfl, rfl, rfl, by decide +kernel, rfl, by decide +kernel, by decide +kernel⟩
abbrev s__law_beside : Stmt := topS 42
abbrev N__law_beside : List Str := ["_law_words", "_law_at"]
theorem sc__law_beside : FnScope N__law_beside ["_law_words"] (defScope s__law_beside) := ⟨rfl, rfl, rfl, by decide +kernel, rfl, by decide +kernel, by decide +kernel⟩
abbrev s__law_stuck : Stmt := topS 40
abbrev N__law_stuck : List Str := ["_law_code_here", "_law_text_here", "_law_marks", "_law_mark", "_law_word"]
theorem sc__law_stuck : FnScope N__law_stuck ["_law_code_here", "_law_text_here", "_law_marks"] (defScope s__law_stuck) := ⟨rfl, rfl, rfl, by decide +kernel, rfl, by decide +kernel, by decide +kernel⟩
local macro_rules | `(tactic| walk_at "sd") => `(tactic| first | assumption | rfl | omega | decide | (solve_by_elim) | (refine Nat.le_trans (m := 1000) (by solve_by_elim) (by decide)))
local macro_rules | `(tactic| walk_at "rv") => `(tactic| first
  | exact rv_add | exact rv_sub | exact rv_lt | exact rv_le | exact rv_gt | exact rv_ge | exact rv_eqI | exact rv_eqS | exact rv_eqB | exact rv_neI | exact rv_neS | exact rv_neB
  | exact rv_mod (by walk_at "sd") | exact rv_fdiv (by first | assumption | exact ⟨by omega, by omega⟩) | exact rv_addS (by walk_at "sd") | exact rv_isB | exact rv_notB | assumption)
local macro_rules | `(tactic| walk_at "ea") => `(tactic| first
  | exact ea_nil
  | (refine' ea_cons ?k1 ?k2; (case k1 => walk_at "ev"); (case k2 => walk_at "ea")))
local macro_rules | `(tactic| walk_at "eo") => `(tactic| first
  | exact eo_none
  | (refine' eo_some ?k1; (case k1 => walk_at "ev")))
local macro_rules | `(tactic| walk_at "et") => `(tactic| first
  | (refine' et_test ?k1; (case k1 => walk_at "ev"))
  | (refine' et_B ?k1; (case k1 => walk_at "ev"))
  | (refine' et_and ?k1 ?k2; (case k1 => walk_at "et"); (case k2 => (intro _; walk_at "et")))
  | (refine' et_or ?k1 ?k2; (case k1 => walk_at "et"); (case k2 => (intro _; walk_at "et")))
  | (refine' et_not ?k1; (case k1 => walk_at "et"))
  | assumption)
local macro_rules | `(tactic| walk_at "ev") => `(tactic| first
  | assumption
  | exact ev_cS
  | exact ev_c
  | exact ev_var rfl
  | (refine' ev_op ?k1 ?k2 ?k3; (case k1 => walk_at "ev"); (case k2 => walk_at "ev"); (case k3 => walk_at "rv"))
  | (refine' ev_un ?k1 ru_neg; (case k1 => walk_at "ev"))
  | (refine' ev_chain ?k1 ?k2 ?k3 ?k4 ?k5; (case k1 => walk_at "ev"); (case k2 => walk_at "ev"); (case k3 => walk_at "ev"); (case k4 => walk_at "rv"); (case k5 => (intro _; walk_at "rv")))
  | (refine' ev_slS ?k1 ?k2 ?k3 ?k4; (case k1 => walk_at "ev"); (case k2 => walk_at "eo"); (case k3 => walk_at "eo"); (case k4 => walk_at "sd"))
  | (refine' ev_lenS ?k1 ?k2; (case k1 => walk_at "ev"); (case k2 => walk_at "sd"))
  | (refine' ev_len' ?k1 ?k2; (case k1 => walk_at "ev"); (case k2 => walk_at "sd"))
  | (refine' ev_strip ?k1 ?k2 ?k3; (case k1 => walk_at "ev"); (case k2 => walk_at "ev"); (case k3 => walk_at "sd"))
  | (refine' ev_sum ?k1 ?k2; (case k1 => walk_at "ev"); (case k2 => walk_at "sd"))
  | (refine' ev_isi ?k1 ?k2 ?k3 ?k4; (case k1 => walk_at "ev"); (case k2 => walk_at "ev"); (case k3 => first | exact ty_int | exact ty_bl | exact ty_str | exact ty_list (by walk_at "sd")); (case k4 => first | exact kit_ty (r := true) (by decide +kernel) | exact kit_ty (r := false) (by decide +kernel)))
  | (refine' ev_andV ?k1 ?k2; (case k1 => walk_at "ev"); (case k2 => (intro _; walk_at "ev")))
  | (refine' ev_orV ?k1 ?k2; (case k1 => walk_at "ev"); (case k2 => (intro _; walk_at "ev")))
  | (refine' ev_notV ?k1; (case k1 => walk_at "ev"))
  | (refine' ev_call ?k1 ?k2; (case k1 => walk_at "ea"); (case k2 => walk_at "sv")))
local macro_rules | `(tactic| walk_at "el") => `(tactic| first
  | assumption
  | (refine' el_mapB ?k1 ?k2 ?k3 (fun _ => rfl) ?k5; (case k1 => walk_at "ev"); (case k2 => walk_at "sd"); (case k3 => walk_at "sd"); (case k5 => (intro _ _; walk_at "ev")))
  | (refine' el_mapI ?k1 ?k2 ?k3 (fun _ => rfl) ?k5; (case k1 => walk_at "ev"); (case k2 => walk_at "sd"); (case k3 => walk_at "sd"); (case k5 => (intro _ _; walk_at "ev")))
  | (refine' el_mapS ?k1 ?k2 ?k3 (fun _ => rfl) ?k5; (case k1 => walk_at "ev"); (case k2 => walk_at "sd"); (case k3 => walk_at "sd"); (case k5 => (intro _ _; walk_at "ev"))))
local macro_rules | `(tactic| walk_at "ev") => `(tactic| first
  | (refine' ev_all ?k1; (case k1 => walk_at "el"))
  | (refine' ev_any ?k1; (case k1 => walk_at "el"))
  | (refine' ev_sumN ?k1; (case k1 => walk_at "el"))
  | (refine' ev_join ?k1 ?k2 ?k3; (case k1 => exact ev_is ev_cS (congrArg tx codes_nil)); (case k2 => walk_at "el"); (case k3 => walk_at "sd")))

local macro_rules | `(tactic| walk_at "sv") => `(tactic| first | exact sv_stands (by walk_at "sd") (by walk_at "sd"))
/-! ### lists bent -/
def bentV {α : Type} (xs : List α) (c : Int) (m : α) : List α :=
  if c % 6 = 0 then xs
  else if c % 6 = 1 then xs.take (c / 6 % ((xs.length : Int) + 1)).toNat ++ xs.drop ((c / 6 % ((xs.length : Int) + 1)).toNat + 1)
  else if c % 6 = 2 then xs.take (c / 6 % ((xs.length : Int) + 1)).toNat ++ (xs.drop (c / 6 % ((xs.length : Int) + 1)).toNat).take 1 ++ xs.drop (c / 6 % ((xs.length : Int) + 1)).toNat
  else if c % 6 = 3 then xs.reverse
  else xs.take (c / 6 % ((xs.length : Int) + 1)).toNat ++ [m] ++ xs.drop ((c / 6 % ((xs.length : Int) + 1)).toNat + (c % 6 % 2).toNat)
theorem bentV_map {α β : Type} (f : α → β) (xs : List α) (c : Int) (m : α) : bentV (xs.map f) c (f m) = (bentV xs c m).map f := by
  unfold bentV
  rw [List.length_map]
  split
  · rfl
  · split
    · rw [List.map_append, List.map_take, List.map_drop]
    · split
      · rw [List.map_append, List.map_append, List.map_take, List.map_drop, List.map_take, List.map_drop]
      · split
        · rw [List.map_reverse]
        · rw [List.map_append, List.map_append, List.map_take, List.map_drop]; rfl
theorem bentV_len {α : Type} (xs : List α) (c : Int) (m : α) : (bentV xs c m).length ≤ xs.length + 1 := by
  unfold bentV
  split
  · omega
  · split
    · rw [List.length_append, List.length_take, List.length_drop]; omega
    · split
      · rw [List.length_append, List.length_append, List.length_take, List.length_drop, List.length_take, List.length_drop]; omega
      · split
        · rw [List.length_reverse]; omega
        · rw [List.length_append, List.length_append, List.length_take, List.length_drop, List.length_singleton]; omega
theorem bentV_mem {α : Type} {xs : List α} {c : Int} {m x : α} (h : x ∈ bentV xs c m) : x ∈ xs ∨ x = m := by
  unfold bentV at h
  split at h
  · exact .inl h
  · split at h
    · rcases List.mem_append.mp h with h | h
      · exact .inl (List.mem_of_mem_take h)
      · exact .inl (List.mem_of_mem_drop h)
    · split at h
      · rcases List.mem_append.mp h with h | h
        · rcases List.mem_append.mp h with h | h
          · exact .inl (List.mem_of_mem_take h)
          · exact .inl (List.mem_of_mem_drop (List.mem_of_mem_take h))
        · exact .inl (List.mem_of_mem_drop h)
      · split at h
        · exact .inl (List.mem_reverse.mp h)
        · rcases List.mem_append.mp h with h | h
          · rcases List.mem_append.mp h with h | h
            · exact .inl (List.mem_of_mem_take h)
            · exact .inr (List.mem_singleton.mp h)
          · exact .inl (List.mem_of_mem_drop h)
theorem cutV_ft (xs : List V) (i : Nat) : cutV xs (some (i : Int)) none = xs.drop i := by
  unfold cutV
  rw [HT.sIx_nat, HT.sIx_none]
  show (xs.drop (min i xs.length)).take (xs.length - min i xs.length) = _
  rcases Nat.le_total i xs.length with h | h
  · rw [Nat.min_eq_left h, List.take_of_length_le (by rw [List.length_drop]; omega)]
  · rw [Nat.min_eq_right h, Nat.sub_self, List.take_zero]
    exact (List.drop_eq_nil_of_le h).symm
theorem cutV_one (xs : List V) (i : Nat) : cutV xs (some (i : Int)) (some ((i + 1 : Nat) : Int)) = (xs.drop i).take 1 := by
  unfold cutV
  rw [HT.sIx_nat, HT.sIx_nat]
  rcases Nat.lt_or_ge i xs.length with h | h
  · rw [Nat.min_eq_left (Nat.le_of_lt h), Nat.min_eq_left h]
    congr 1
    omega
  · rw [Nat.min_eq_right h, Nat.min_eq_right (by omega), Nat.sub_self, List.take_zero, List.drop_eq_nil_of_le h]
    rfl
section
variable {P : Program} {w : World} {K : PySem.W.Frag} {mg : Str → Option Value} {base : Heap} {H : Hp}
def spSays : Sp := fun vs H Q _ => ∃ a b : Bool, vs = [.bl a, .bl b] ∧ ∀ H', Ex H H' → Q (.bl (decide (a = b))) H'
theorem sv_says {a b : Bool} : SpV spSays [.bl a, .bl b] H (.bl (decide (a = b))) := fun _ _ _ q _ => ⟨a, b, rfl, q⟩
theorem ok__law_says (D : DefAt K mg "_law_says" s__law_says ["_law_said", "_law_due"]) (T : Blt mg) : Cal P w K mg base 1 "_law_says" spSays := by
  refine cal_of D sc__law_says (fun vs H Q E h => ?_) (fun f cdv A outer s H vs Q E hr h => ?_)
  · obtain ⟨a, b, rfl, _⟩ := h; rfl
  · obtain ⟨a, b, rfl, k⟩ := h
    refine ⟨_, (pss_one (ps_ret (pe_and (pe_callB (call_isiK' (K := K) rfl) (by rfl) T.isinstance (by decide +kernel) (pa_cons (pv 0) (pa_cons (pe_bltn (v := .ty "bool") (by rfl) T.bool (by decide +kernel) rfl) pa_nil))) (pe_one (pe_cmpR op_eq (pv 0) (pv 1) (nomark _)))))), ?_⟩
    refine s_ret (v := .bl (true && decide (a = b))) (ev_andV (ev_isi (b := true) (ev_var rfl) ev_c ty_bl (kit_ty (by decide +kernel))) fun _ => ev_op (ev_var rfl) (ev_var rfl) rv_eqB) fun H1 e1 => ?_
    rw [Bool.true_and]
    exact k H1 e1
def spBent (K : PySem.W.Frag) : Sp := fun vs H Q _ => ∃ (p : Addr) (xs : List V) (c : Int) (m : V), vs = [.ref p, .int c, m] ∧ SqL K H p xs ∧ xs.length ≤ 10000 ∧ RetL (bentV xs c m) H Q
theorem sl_bent {p : Addr} {xs : List V} {c : Int} {m : V} (h : SqL K H p xs) (hn : xs.length ≤ 10000) : SpL (spBent K) [.ref p, .int c, m] H (bentV xs c m) := fun _ e _ q _ => ⟨p, xs, c, m, rfl, ex_l e h, hn, q⟩
theorem ok__law_bent (D : DefAt K mg "_law_bent" s__law_bent ["_law_some", "_law_cell", "_law_more"]) (T : Blt mg) : Cal P w K mg base 1 "_law_bent" (spBent K) := by
  refine cal_of D sc__law_bent (fun vs H Q E h => ?_) (fun f cdv A outer s H vs Q E hr h => ?_)
  · obtain ⟨p, xs, c, m, rfl, _⟩ := h; rfl
  · obtain ⟨p, xs, c, m, rfl, hp, hn, k⟩ := h
    refine ⟨_, (pss_cons (ps_set (i := 3) sc__law_bent.nd rfl (.inl rfl) (pe_op op_mod (pv 1) pe_int))
      (pss_cons (ps_if (pt_cmpR op_eq (pv 3) pe_int (nomark _)) (pss_one (ps_ret (pe_callTy (call_list_ofK (K := K) rfl) (by rfl) T.list (by decide +kernel) (pa_cons (pv 0) pa_nil)))) pss_nil)
      (pss_cons (ps_set (i := 4) sc__law_bent.nd rfl (.inl rfl) (pe_op op_mod (pe_op op_fdiv (pv 1) pe_int) (pe_op op_add (pe_callB (call_len_seqK (K := K) rfl) (by rfl) T.len (by decide +kernel) (pa_cons (pv 0) pa_nil)) pe_int)))
      (pss_cons (ps_if (pt_cmpR op_eq (pv 3) pe_int (nomark _)) (pss_one (ps_ret (pe_op op_cat (pe_slice (sl_listK (K := K) rfl) (pv 0) po_none (po_some (pv 4))) (pe_slice (sl_listK (K := K) rfl) (pv 0) (po_some (pe_op op_add (pv 4) pe_int)) po_none)))) pss_nil)
      (pss_cons (ps_if (pt_cmpR op_eq (pv 3) pe_int (nomark _)) (pss_one (ps_ret (pe_op op_cat (pe_op op_cat (pe_slice (sl_listK (K := K) rfl) (pv 0) po_none (po_some (pv 4))) (pe_slice (sl_listK (K := K) rfl) (pv 0) (po_some (pv 4)) (po_some (pe_op op_add (pv 4) pe_int)))) (pe_slice (sl_listK (K := K) rfl) (pv 0) (po_some (pv 4)) po_none)))) pss_nil)
      (pss_cons (ps_if (pt_cmpR op_eq (pv 3) pe_int (nomark _)) (pss_one (ps_ret (pe_revLK (K := K) rfl (pv 0)))) pss_nil)
      (pss_one (ps_ret (pe_op op_cat (pe_op op_cat (pe_slice (sl_listK (K := K) rfl) (pv 0) po_none (po_some (pv 4))) (pe_lst (pa_cons (pv 2) pa_nil))) (pe_slice (sl_listK (K := K) rfl) (pv 0) (po_some (pe_op op_add (pv 4) (pe_op op_mod (pv 3) pe_int))) po_none)))))))))), ?_⟩
    have h6 := Int.emod_nonneg c (show (6 : Int) ≠ 0 by decide)
    have h6' := Int.emod_lt_of_pos c (show (0 : Int) < 6 by decide)
    have hat0 := Int.emod_nonneg (c / 6) (show ((xs.length : Int) + 1) ≠ 0 by omega)
    have hat1 := Int.emod_lt_of_pos (c / 6) (show 0 < ((xs.length : Int) + 1) by omega)
    obtain ⟨i, hi⟩ : ∃ i : Nat, c / 6 % ((xs.length : Int) + 1) = (i : Int) := ⟨(c / 6 % ((xs.length : Int) + 1)).toNat, by omega⟩
    have hi2 : (c / 6 % ((xs.length : Int) + 1)).toNat = i := by omega
    have hil : i ≤ xs.length := by omega
    refine q_asg (v := .int (c % 6)) (ev_op (ev_var rfl) ev_c (rv_mod (by decide))) fun H1 e1 => ?_
    refine q_when (b := decide (c % 6 = 0)) (et_B (ev_op (ev_var rfl) ev_c rv_eqI)) (fun h0 H2 e2 => ?_) (fun h0 H2 e2 => ?_)
    · have h0 := of_decide_eq_true h0
      refine s_retL (ev_listOf (ev_var rfl) (ex_l (e1.trans e2) hp)) fun q H3 nq e3 hq => k q H3 (fresh_back (e1.trans e2) nq) ((e1.trans e2).trans e3) ?_
      unfold bentV
      rw [if_pos h0]; exact hq
    · have h0 := of_decide_eq_false h0
      have ex2 := e1.trans e2
      refine q_asg (v := .int (i : Int)) (ev_is (ev_op (ev_op (ev_var rfl) ev_c (rv_fdiv ⟨by decide, by decide⟩)) (ev_op (ev_len' (ev_var rfl) (ex_l ex2 hp)) ev_c rv_add) (rv_mod (by omega))) (congrArg V.int hi)) fun H3 e3 => ?_
      have ex3 := ex2.trans e3
      have e9 : (i : Int) + 1 = ((i + 1 : Nat) : Int) := by omega
      have gto : ∀ (H' : Hp), Ex H3 H' → EvL (tSl (rSlL K) (tVar 0) tNoPart (tPart (tVar 4))) [some (.ref p), some (.int c), some m, some (.int (c % 6)), some (.int (i : Int))] H' (xs.take i) := fun H' e => by
        have := el_sl (K := K) (ev_var (i := 0) (σ := [some (.ref p), some (.int c), some m, some (.int (c % 6)), some (.int (i : Int))]) (H := H') rfl) eo_none (eo_some (ev_var (i := 4) rfl)) (ex_l (ex3.trans e) hp)
        rwa [cutV_to] at this
      have gfr : ∀ (H' : Hp) (tb : TE) (j : Nat), Ex H3 H' → Ev tb [some (.ref p), some (.int c), some m, some (.int (c % 6)), some (.int (i : Int))] H' (.int (j : Int)) → EvL (tSl (rSlL K) (tVar 0) (tPart tb) tNoPart) [some (.ref p), some (.int c), some m, some (.int (c % 6)), some (.int (i : Int))] H' (xs.drop j) := fun H' tb j e hj => by
        have := el_sl (K := K) (ev_var (i := 0) (σ := [some (.ref p), some (.int c), some m, some (.int (c % 6)), some (.int (i : Int))]) (H := H') rfl) (eo_some hj) eo_none (ex_l (ex3.trans e) hp)
        rwa [cutV_ft] at this
      have gi1 : ∀ (H' : Hp), Ev (tOp (rI0 fun i j => .int (i + j)) (tVar 4) (tC (.int 1))) [some (.ref p), some (.int c), some m, some (.int (c % 6)), some (.int (i : Int))] H' (.int ((i + 1 : Nat) : Int)) := fun H' => ev_is (ev_op (ev_var (i := 4) rfl) (ev_c (v := .int 1)) rv_add) (congrArg V.int e9)
      refine q_when (b := decide (c % 6 = 1)) (et_B (ev_op (ev_var rfl) ev_c rv_eqI)) (fun h1 H4 e4 => ?_) (fun h1 H4 e4 => ?_)
      · have h1 := of_decide_eq_true h1
        have ex4 := ex3.trans e4
        refine s_retL (xs := xs.take i ++ xs.drop (i + 1)) (el_catN (gto _ e4) (gfr _ _ _ e4 (gi1 _)) (by rw [List.length_take, List.length_drop]; omega)) fun q H5 nq e5 hq => k q H5 (fresh_back ex4 nq) (ex4.trans e5) ?_
        unfold bentV
        rw [if_neg h0, if_pos h1, hi2]; exact hq
      · have h1 := of_decide_eq_false h1
        have ex4 := ex3.trans e4
        refine q_when (b := decide (c % 6 = 2)) (et_B (ev_op (ev_var rfl) ev_c rv_eqI)) (fun h2 H5 e5 => ?_) (fun h2 H5 e5 => ?_)
        · have h2 := of_decide_eq_true h2
          have ex5 := ex4.trans e5
          refine s_retL (xs := xs.take i ++ (xs.drop i).take 1 ++ xs.drop i) (el_catN (el_catN (gto _ (e4.trans e5)) (by
            have := el_sl (K := K) (ev_var (i := 0) (σ := [some (.ref p), some (.int c), some m, some (.int (c % 6)), some (.int (i : Int))]) (H := H5) rfl) (eo_some (ev_var (i := 4) rfl)) (eo_some (gi1 _)) (ex_l ex5 hp)
            rw [cutV_one] at this
            exact this) (by rw [List.length_take, List.length_take, List.length_drop]; omega)) (gfr _ _ _ (e4.trans e5) (ev_var (i := 4) rfl)) (by rw [List.length_append, List.length_take, List.length_take, List.length_drop]; omega)) fun q H6 nq e6 hq => k q H6 (fresh_back ex5 nq) (ex5.trans e6) ?_
          unfold bentV
          rw [if_neg h0, if_neg h1, if_pos h2, hi2]; exact hq
        · have h2 := of_decide_eq_false h2
          have ex5 := ex4.trans e5
          refine q_when (b := decide (c % 6 = 3)) (et_B (ev_op (ev_var rfl) ev_c rv_eqI)) (fun h3 H6 e6 => ?_) (fun h3 H6 e6 => ?_)
          · have h3 := of_decide_eq_true h3
            have ex6 := ex5.trans e6
            refine s_retL (xs := xs.reverse) (el_revL (ev_var rfl) (ex_l ex6 hp)) fun q H7 nq e7 hq => k q H7 (fresh_back ex6 nq) (ex6.trans e7) ?_
            unfold bentV
            rw [if_neg h0, if_neg h1, if_neg h2, if_pos h3]; exact hq
          · have h3 := of_decide_eq_false h3
            have ex6 := ex5.trans e6
            have h60 := Int.emod_nonneg (c % 6) (show (2 : Int) ≠ 0 by decide)
            have e10 : (i : Int) + c % 6 % 2 = ((i + (c % 6 % 2).toNat : Nat) : Int) := by omega
            refine s_retL (xs := xs.take i ++ [m] ++ xs.drop (i + (c % 6 % 2).toNat)) (el_catN (el_catN (gto _ ((e4.trans e5).trans e6)) (el_lst (vs := [m]) (ea_cons (ev_var rfl) ea_nil) (by simp)) (by rw [List.length_take, List.length_singleton]; omega)) (gfr _ _ _ ((e4.trans e5).trans e6) (ev_is (ev_op (ev_var (i := 4) rfl) (ev_op (ev_var (i := 3) rfl) (ev_c (v := .int 2)) (rv_mod (by decide))) rv_add) (congrArg V.int e10))) (by rw [List.length_append, List.length_take, List.length_singleton, List.length_drop]; omega)) fun q H7 nq e7 hq => k q H7 (fresh_back ex6 nq) (ex6.trans e7) ?_
            unfold bentV
            rw [if_neg h0, if_neg h1, if_neg h2, if_neg h3, hi2]; exact hq
/-! ### the text of places, or None -/
def madeV (ws : List Wd) (ns : List Int) : V := if inR ws.length ns = true then tx (joinW ws (ns.map Int.toNat)) else .non
def spMade (K : PySem.W.Frag) : Sp := fun vs H Q _ => ∃ (p q : Addr) (ws : List Wd) (ns : List Int), vs = [.ref p, .ref q] ∧ SqL K H p (ws.map tx) ∧ SqL K H q (ns.map V.int) ∧ ns.length ≤ 6000 ∧ (inR ws.length ns = true → (joinW ws (ns.map Int.toNat)).length ≤ 100000) ∧ ∀ H', Ex H H' → Q (madeV ws ns) H'
theorem sv_made {p q : Addr} {ws : List Wd} {ns : List Int} (h1 : SqL K H p (ws.map tx)) (h2 : SqL K H q (ns.map V.int)) (h3 : ns.length ≤ 6000) (h4 : inR ws.length ns = true → (joinW ws (ns.map Int.toNat)).length ≤ 100000) : SpV (spMade K) [.ref p, .ref q] H (madeV ws ns) := fun _ e _ k _ => ⟨p, q, ws, ns, rfl, ex_l e h1, ex_l e h2, h3, h4, k⟩
theorem ok__law_made (D : DefAt K mg "_law_made" s__law_made ["_law_code_here", "_law_places"]) (T : Blt mg) : Cal P w K mg base 1 "_law_made" (spMade K) := by
  refine cal_of D sc__law_made (fun vs H Q E h => ?_) (fun f cdv A outer s H vs Q E hr h => ?_)
  · obtain ⟨p, q, ws, ns, rfl, _⟩ := h; rfl
  · obtain ⟨p, q, ws, ns, rfl, hp, hq, hn, hj, k⟩ := h
    refine ⟨_, (pss_cons (ps_if (pt_not (pt_val (pe_callB (cr_allK (K := K) rfl rfl) (by rfl) T.all (by decide +kernel) (pa_cons (pe_lc (own := [("_law_place", 2)]) rfl sc__law_made.nd (pi_listK (K := K) rfl (pv 1)) (blkOk_by (own := [("_law_place", 2)]) (N := N__law_made) (sc := defScope s__law_made) (by decide +kernel)) (fun _ _ _ _ _ => (pg_name (i := 2) sc__law_made.nd rfl (.inl rfl))) (fun _ _ _ _ _ => pts_nil) (fun _ _ _ _ _ => (pe_chain op_le op_lt pe_int (pv 2) (pe_callB (call_len_seqK (K := K) rfl) (by rfl) T.len (by decide +kernel) (pa_cons (pv 0) pa_nil))))) pa_nil)))) (pss_one (ps_ret pe_non)) pss_nil)
      (pss_one (ps_ret (pe_joinK (K := K) rfl pe_str (pe_lc (own := [("_law_place", 2)]) rfl sc__law_made.nd (pi_listK (K := K) rfl (pv 1)) (blkOk_by (own := [("_law_place", 2)]) (N := N__law_made) (sc := defScope s__law_made) (by decide +kernel)) (fun _ _ _ _ _ => (pg_name (i := 2) sc__law_made.nd rfl (.inl rfl))) (fun _ _ _ _ _ => pts_nil) (fun _ _ _ _ _ => (pe_ix (ix_listK (K := K) rfl) (pv 0) (pv 2) (fun _ _ => rfl)))))))), ?_⟩
    refine q_when (b := !inR ws.length ns) (et_is (et_not (et_test (ev_all (el_mapB (φ := V.int) (g := fun i : Int => decide ((0 : Int) ≤ i) && decide (i < (ws.length : Int))) (ev_var rfl) hq (by omega) (fun _ => rfl) fun i hi => ?_)))) (by rw [List.all_map]; rfl)) (fun h0 H1 e1 => ?_) (fun h0 H1 e1 => ?_)
    · have hlen := ev_len' (K := K) (σ := [some (.ref p), some (.ref q), some (.int i)]) (ev_var (i := 0) (H := H) rfl) hp
      rw [List.length_map] at hlen
      exact ev_chain (y := .int i) ev_c (ev_var rfl) hlen rv_le fun _ => rv_lt
    · have h1 : inR ws.length ns = false := by simpa using h0
      refine s_ret ev_c fun H2 e2 => ?_
      have := k H2 (e1.trans e2)
      unfold madeV at this
      rw [h1] at this
      exact this
    · have h1 : inR ws.length ns = true := by simpa using h0
      have hrg : ∀ n ∈ ns, 0 ≤ n ∧ n < (ws.length : Int) := fun n hm => by
        unfold inR at h1
        have := List.all_eq_true.mp h1 n hm
        rw [Bool.and_eq_true] at this
        exact ⟨of_decide_eq_true this.1, of_decide_eq_true this.2⟩
      have ej : (ns.map (wAt ws)).flatten = joinW ws (ns.map Int.toNat) := by
        unfold joinW
        rw [List.map_map]
        rfl
      refine s_ret (ev_join (ys := ns.map (wAt ws)) (ev_is ev_cS (congrArg tx codes_nil)) (el_mapS (φ := V.int) (g := wAt ws) (ev_var rfl) (ex_l e1 hq) (by omega) (fun _ => rfl) fun n hm => ?_) (by rw [ej]; exact hj h1)) fun H2 e2 => ?_
      · obtain ⟨a1, a2⟩ := hrg n hm
        exact ev_op (ev_var rfl) (ev_var rfl) (rv_ixL (K := K) (ex_l e1 hp) (wAt_get a1 a2))
      · have := k H2 (e1.trans e2)
        unfold madeV at this
        rw [h1] at this
        rw [ej]
        exact this
/-! ### whether some word begins the next one -/
def spBeside (K : PySem.W.Frag) : Sp := fun vs H Q _ => ∃ (p : Addr) (ws : List Wd), vs = [.ref p] ∧ SqL K H p (ws.map tx) ∧ ws.length ≤ 1000 ∧ (∀ a ∈ ws, a.length ≤ 1000) ∧ ∀ H', Ex H H' → Q (.bl (M5.adj ws)) H'
theorem sv_beside {p : Addr} {ws : List Wd} (h1 : SqL K H p (ws.map tx)) (h2 : ws.length ≤ 1000) (h3 : ∀ a ∈ ws, a.length ≤ 1000) : SpV (spBeside K) [.ref p] H (.bl (M5.adj ws)) := fun _ e _ k _ => ⟨p, ws, rfl, ex_l e h1, h2, h3, k⟩
theorem getW {ss : List Wd} {i : Nat} (h : i < ss.length) : (ss.map tx)[i]? = some (tx (ss.getD i [])) := by simp [List.getD, List.getElem?_map, h]
theorem getW_mem {ss : List Wd} {i : Nat} (h : i < ss.length) : ss.getD i [] ∈ ss := by
  have : ss.getD i [] = ss[i] := by simp [List.getD, h]
  rw [this]; exact List.getElem_mem h
theorem ok__law_beside (D : DefAt K mg "_law_beside" s__law_beside ["_law_words"]) (T : Blt mg) (C__law_stands : Cal P w K mg base 1 "_law_stands" spStands) : Cal P w K mg base 2 "_law_beside" (spBeside K) := by
  refine cal_of D sc__law_beside (fun vs H Q E h => ?_) (fun f cdv A outer s H vs Q E hr h => ?_)
  · obtain ⟨p, ws, rfl, _⟩ := h; rfl
  · obtain ⟨p, ws, rfl, hp, hn, hb, k⟩ := h
    refine ⟨_, (pss_cons (ps_for PassesOwn.never rfl (pi_range1 (by rfl) T.range (pa_cons (pe_op op_sub (pe_callB (call_len_seqK (K := K) rfl) (by rfl) T.len (by decide +kernel) (pa_cons (pv 0) pa_nil)) pe_int) pa_nil)) (pg_name (i := 1) sc__law_beside.nd rfl (.inl rfl)) (pss_one (ps_if (pt_val (pe_c C__law_stands hr (by decide) (by rfl) (pa_cons (pe_ix (ix_listK (K := K) rfl) (pv 0) (pv 1) (fun _ _ => rfl)) (pa_cons (pe_ix (ix_listK (K := K) rfl) (pv 0) (pe_op op_add (pv 1) pe_int) (fun _ _ => rfl)) (pa_cons pe_int pa_nil))))) (pss_one (ps_ret pe_bl)) pss_nil)))
      (pss_one (ps_ret pe_bl))), ?_⟩
    have gln : Ev (tOp (rI0 fun i j => .int (i - j)) (tCB (rLenQ K) (tCons (tVar 0) tNil)) (tC (.int 1))) [some (.ref p), none] H (.int ((ws.length : Int) - 1)) := by
      have h := ev_op (ev_len' (K := K) (σ := [some (.ref p), none]) (ev_var (i := 0) (H := H) rfl) hp) (ev_c (v := .int 1)) rv_sub
      rwa [List.length_map] at h
    refine q_forR1m (ea_cons gln ea_nil) ⟨by omega, by omega⟩ (fun i σ' H' => ∃ s1, Ex H H' ∧ σ' = [some (.ref p), s1] ∧ ∀ j, j < i → pre (ws.getD j []) (ws.getD (j + 1) []) = false) (fun H3 e3 => ⟨_, e3, rfl, fun j hj => absurd hj (by omega)⟩) (fun i σ' H' hi hP => ?_) (fun σ' H' hP => ?_)
    · obtain ⟨s1, ex, rfl, hbad⟩ := hP
      have hi1 : i < ws.length := by omega
      have hi2 : i + 1 < ws.length := by omega
      have e9 : (i : Int) + 1 = ((i + 1 : Nat) : Int) := by omega
      have x1 := ev_op (H := H') (σ := [some (.ref p), some (.int (i : Int))]) (ev_var (i := 0) rfl) (ev_var (i := 1) rfl) (rv_ixL (K := K) (ex_l ex hp) (atI_nat (getW hi1)))
      have x2 := ev_op (H := H') (σ := [some (.ref p), some (.int (i : Int))]) (ev_var (i := 0) rfl) (ev_is (ev_op (ev_var (i := 1) rfl) (ev_c (v := .int 1)) rv_add) (congrArg V.int e9)) (rv_ixL (K := K) (ex_l ex hp) (atI_nat (getW hi2)))
      have m1 := hb _ (getW_mem hi1)
      have m2 := hb _ (getW_mem hi2)
      refine s_when (b := pre (ws.getD i []) (ws.getD (i + 1) [])) (et_is (et_test (ev_call (vs := [tx (ws.getD i []), tx (ws.getD (i + 1) []), .int ((0 : Nat) : Int)]) (ea_cons x1 (ea_cons x2 (ea_cons ev_c ea_nil))) (sv_stands (by omega) (by omega)))) (by unfold standsB; rw [List.drop_zero])) (fun hbd H3 e3 => ?_) (fun hbd H3 e3 => ?_)
      · refine s_ret ev_c fun H4 e4 => ?_
        have h := k H4 ((ex.trans e3).trans e4)
        have hw : M5.adj ws = true := by
          unfold M5.adj
          rw [List.any_eq_true]
          exact ⟨i, List.mem_range.mpr (by omega), hbd⟩
        rw [hw] at h
        exact h
      · refine ⟨_, ex.trans e3, rfl, fun j hj => ?_⟩
        by_cases hji : j = i
        · rw [hji]; exact hbd
        · exact hbad j (by omega)
    · obtain ⟨s1, ex, rfl, hbad⟩ := hP
      refine s_ret ev_c fun H4 e4 => ?_
      have h := k H4 (ex.trans e4)
      have hw : M5.adj ws = false := by
        unfold M5.adj
        rw [List.any_eq_false]
        intro i hm
        have := List.mem_range.mp hm
        rw [hbad i (by omega)]
        simp
      rw [hw] at h
      exact h
end
end Tr

set_option Elab.async false
set_option linter.all false
set_option maxRecDepth 100000
set_option maxHeartbeats 4000000
namespace Tr
open PySem PySem.Spec PyProof.Rows L2 Evl
open M3 (wat joinW pre)
local macro_rules | `(tactic| walk_at "sd") => `(tactic| first | assumption | rfl | omega | decide | (solve_by_elim) | (refine Nat.le_trans (m := 1000) (by solve_by_elim) (by decide)))
local macro_rules | `(tactic| walk_at "rv") => `(tactic| first
  | exact rv_add | exact rv_sub | exact rv_lt | exact rv_le | exact rv_gt | exact rv_ge | exact rv_eqI | exact rv_eqS | exact rv_eqB | exact rv_neI | exact rv_neS | exact rv_neB
  | exact rv_mod (by walk_at "sd") | exact rv_fdiv (by first | assumption | exact ⟨by omega, by omega⟩) | exact rv_addS (by walk_at "sd") | exact rv_isB | exact rv_notB | assumption)
local macro_rules | `(tactic| walk_at "ea") => `(tactic| first
  | exact ea_nil
  | (refine' ea_cons ?k1 ?k2; (case k1 => walk_at "ev"); (case k2 => walk_at "ea")))
local macro_rules | `(tactic| walk_at "eo") => `(tactic| first
  | exact eo_none
  | (refine' eo_some ?k1; (case k1 => walk_at "ev")))
local macro_rules | `(tactic| walk_at "et") => `(tactic| first
  | (refine' et_test ?k1; (case k1 => walk_at "ev"))
  | (refine' et_B ?k1; (case k1 => walk_at "ev"))
  | (refine' et_and ?k1 ?k2; (case k1 => walk_at "et"); (case k2 => (intro _; walk_at "et")))
  | (refine' et_or ?k1 ?k2; (case k1 => walk_at "et"); (case k2 => (intro _; walk_at "et")))
  | (refine' et_not ?k1; (case k1 => walk_at "et"))
  | assumption)
local macro_rules | `(tactic| walk_at "ev") => `(tactic| first
  | assumption
  | exact ev_cS
  | exact ev_c
  | exact ev_var rfl
  | (refine' ev_op ?k1 ?k2 ?k3; (case k1 => walk_at "ev"); (case k2 => walk_at "ev"); (case k3 => walk_at "rv"))
  | (refine' ev_un ?k1 ru_neg; (case k1 => walk_at "ev"))
  | (refine' ev_chain ?k1 ?k2 ?k3 ?k4 ?k5; (case k1 => walk_at "ev"); (case k2 => walk_at "ev"); (case k3 => walk_at "ev"); (case k4 => walk_at "rv"); (case k5 => (intro _; walk_at "rv")))
  | (refine' ev_slS ?k1 ?k2 ?k3 ?k4; (case k1 => walk_at "ev"); (case k2 => walk_at "eo"); (case k3 => walk_at "eo"); (case k4 => walk_at "sd"))
  | (refine' ev_lenS ?k1 ?k2; (case k1 => walk_at "ev"); (case k2 => walk_at "sd"))
  | (refine' ev_len' ?k1 ?k2; (case k1 => walk_at "ev"); (case k2 => walk_at "sd"))
  | (refine' ev_strip ?k1 ?k2 ?k3; (case k1 => walk_at "ev"); (case k2 => walk_at "ev"); (case k3 => walk_at "sd"))
  | (refine' ev_sum ?k1 ?k2; (case k1 => walk_at "ev"); (case k2 => walk_at "sd"))
  | (refine' ev_isi ?k1 ?k2 ?k3 ?k4; (case k1 => walk_at "ev"); (case k2 => walk_at "ev"); (case k3 => first | exact ty_int | exact ty_bl | exact ty_str | exact ty_list (by walk_at "sd")); (case k4 => first | exact kit_ty (r := true) (by decide +kernel) | exact kit_ty (r := false) (by decide +kernel)))
  | (refine' ev_andV ?k1 ?k2; (case k1 => walk_at "ev"); (case k2 => (intro _; walk_at "ev")))
  | (refine' ev_orV ?k1 ?k2; (case k1 => walk_at "ev"); (case k2 => (intro _; walk_at "ev")))
  | (refine' ev_notV ?k1; (case k1 => walk_at "ev"))
  | (refine' ev_call ?k1 ?k2; (case k1 => walk_at "ea"); (case k2 => walk_at "sv")))
local macro_rules | `(tactic| walk_at "el") => `(tactic| first
  | assumption
  | (refine' el_mapB ?k1 ?k2 ?k3 (fun _ => rfl) ?k5; (case k1 => walk_at "ev"); (case k2 => walk_at "sd"); (case k3 => walk_at "sd"); (case k5 => (intro _ _; walk_at "ev")))
  | (refine' el_mapI ?k1 ?k2 ?k3 (fun _ => rfl) ?k5; (case k1 => walk_at "ev"); (case k2 => walk_at "sd"); (case k3 => walk_at "sd"); (case k5 => (intro _ _; walk_at "ev")))
  | (refine' el_mapS ?k1 ?k2 ?k3 (fun _ => rfl) ?k5; (case k1 => walk_at "ev"); (case k2 => walk_at "sd"); (case k3 => walk_at "sd"); (case k5 => (intro _ _; walk_at "ev"))))
local macro_rules | `(tactic| walk_at "ev") => `(tactic| first
  | (refine' ev_all ?k1; (case k1 => walk_at "el"))
  | (refine' ev_any ?k1; (case k1 => walk_at "el"))
  | (refine' ev_sumN ?k1; (case k1 => walk_at "el"))
  | (refine' ev_join ?k1 ?k2 ?k3; (case k1 => exact ev_is ev_cS (congrArg tx codes_nil)); (case k2 => walk_at "el"); (case k3 => walk_at "sd")))

local macro_rules | `(tactic| walk_at "sv") => `(tactic| first | exact sv_stands (by walk_at "sd") (by walk_at "sd"))
section
variable {P : Program} {w : World} {K : PySem.W.Frag} {mg : Str → Option Value} {base : Heap} {H : Hp}
def spLawStuck (K : PySem.W.Frag) : Sp := fun vs H Q _ => ∃ (p q : Addr) (ws : List Wd) (ms : List Int) (t : Wd), vs = [.ref p, tx t, .ref q] ∧ SqL K H p (ws.map tx) ∧ SqL K H q (ms.map V.int) ∧ ws.length ≤ 1000 ∧ (∀ a ∈ ws, a.length ≤ 1000) ∧ t.length ≤ 10000 ∧ ms.length ≤ 20000 ∧ ∀ H', Ex H H' → Q (.bl (stShows ws ms t)) H'
theorem sv_law_stuck {p q : Addr} {ws : List Wd} {ms : List Int} {t : Wd} (h1 : SqL K H p (ws.map tx)) (h2 : SqL K H q (ms.map V.int)) (h3 : ws.length ≤ 1000) (h4 : ∀ a ∈ ws, a.length ≤ 1000) (h5 : t.length ≤ 10000) (h6 : ms.length ≤ 20000) : SpV (spLawStuck K) [.ref p, tx t, .ref q] H (.bl (stShows ws ms t)) :=
  fun _ e _ k _ => ⟨p, q, ws, ms, t, rfl, ex_l e h1, ex_l e h2, h3, h4, h5, h6, k⟩
theorem ok__law_stuck (D : DefAt K mg "_law_stuck" s__law_stuck ["_law_code_here", "_law_text_here", "_law_marks"]) (T : Blt mg) (C__law_stands : Cal P w K mg base 1 "_law_stands" spStands) : Cal P w K mg base 2 "_law_stuck" (spLawStuck K) := by
  refine cal_of D sc__law_stuck (fun vs H Q E h => ?_) (fun f cdv A outer s H vs Q E hr h => ?_)
  · obtain ⟨p, q, ws, ms, t, rfl, _⟩ := h; rfl
  · obtain ⟨p, q, ws, ms, t, rfl, hp, hq, hn, hb, ht, hm, k⟩ := h
    refine ⟨_, (pss_cons (ps_if (PW.pt (pw_or (pt_cmpR (op_notIn_seqK (K := K) rfl) pe_int (pv 2) rfl) (pw_or (pt_cmpR (op_in_seqK (K := K) rfl) (pe_callB call_len_str (by rfl) T.len (by decide +kernel) (pa_cons (pv 1) pa_nil)) (pv 2) rfl) (pw_or1 (pt_not (pt_val (pe_callB (cr_allK (K := K) rfl rfl) (by rfl) T.all (by decide +kernel) (pa_cons (pe_lc (own := [("_law_mark", 3)]) rfl sc__law_stuck.nd (pi_listK (K := K) rfl (pv 2)) (blkOk_by (own := [("_law_mark", 3)]) (N := N__law_stuck) (sc := defScope s__law_stuck) (by decide +kernel)) (fun _ _ _ _ _ => (pg_name (i := 3) sc__law_stuck.nd rfl (.inl rfl))) (fun _ _ _ _ _ => pts_nil) (fun _ _ _ _ _ => (pe_chain op_le op_le pe_int (pv 3) (pe_callB call_len_str (by rfl) T.len (by decide +kernel) (pa_cons (pv 1) pa_nil))))) pa_nil)))))))) (pss_one (ps_ret pe_bl)) pss_nil)
      (pss_cons (ps_for PassesOwn.never rfl (pi_listK (K := K) rfl (pv 2)) (pg_name (i := 3) sc__law_stuck.nd rfl (.inr rfl)) (pss_one (ps_if (pt_val (pe_callB (cr_anyK (K := K) rfl rfl) (by rfl) T.any (by decide +kernel) (pa_cons (pe_lc (own := [("_law_word", 4)]) rfl sc__law_stuck.nd (pi_listK (K := K) rfl (pv 0)) (blkOk_by (own := [("_law_word", 4)]) (N := N__law_stuck) (sc := defScope s__law_stuck) (by decide +kernel)) (fun _ _ _ _ _ => (pg_name (i := 4) sc__law_stuck.nd rfl (.inl rfl))) (fun _ _ _ _ _ => pts_nil) (fun _ _ _ _ _ => (pe_and (pe_c C__law_stands hr (by decide) (by rfl) (pa_cons (pv 4) (pa_cons (pv 1) (pa_cons (pv 3) pa_nil)))) (pe_one (pe_cmpR (op_notIn_seqK (K := K) rfl) (pe_op op_add (pv 3) (pe_callB call_len_str (by rfl) T.len (by decide +kernel) (pa_cons (pv 4) pa_nil))) (pv 2) rfl))))) pa_nil))) (pss_one (ps_ret pe_bl)) pss_nil)))
      (pss_one (ps_ret pe_bl)))), ?_⟩
    refine q_when (b := !decide (0 ∈ ms) || (decide ((t.length : Int) ∈ ms) || !(ms.all fun m => decide (0 ≤ m) && decide (m ≤ (t.length : Int))))) (et_or (et_B (ev_niI (n := 0) ev_c (ev_var rfl) hq)) fun _ => et_or (et_B (ev_inI (ev_lenS (ev_var rfl) (by omega)) (ev_var rfl) hq)) fun _ => et_is (et_not (et_test (ev_all (el_mapB (φ := V.int) (g := fun m => decide (0 ≤ m) && decide (m ≤ (t.length : Int))) (ev_var rfl) hq (by omega) (fun _ => rfl) fun m hmm => ev_chain (y := .int m) ev_c (ev_var rfl) (ev_lenS (ev_var rfl) (by omega)) rv_le fun _ => rv_le)))) (by rw [List.all_map]; rfl)) (fun h0 H1 e1 => ?_) (fun h0 H1 e1 => ?_)
    · refine s_ret ev_c fun H2 e2 => ?_
      have h := k H2 (e1.trans e2)
      have hv : stShows ws ms t = false := by
        unfold stShows
        cases h1 : decide ((0 : Int) ∈ ms) with
        | false => rfl
        | true =>
          cases h2 : decide ((t.length : Int) ∈ ms) with
          | true => rfl
          | false =>
            rw [h1, h2] at h0
            have h3 : (ms.all fun m => decide (0 ≤ m) && decide (m ≤ (t.length : Int))) = false := by simpa using h0
            obtain ⟨m, hm1, hm2⟩ := List.all_eq_false.mp h3
            show (ms.all (stTurn ws ms t)) = false
            rw [List.all_eq_false]
            refine ⟨m, hm1, ?_⟩
            unfold stTurn
            intro z
            rw [Bool.and_eq_true] at z
            exact hm2 z.1
      rw [hv] at h
      exact h
    · obtain ⟨h1, h2⟩ := Bool.or_eq_false_iff.mp h0
      obtain ⟨h2, h3⟩ := Bool.or_eq_false_iff.mp h2
      have h1 : decide ((0 : Int) ∈ ms) = true := by simpa using h1
      have h3 : (ms.all fun m => decide (0 ≤ m) && decide (m ≤ (t.length : Int))) = true := by
        cases hh : (ms.all fun m => decide (0 ≤ m) && decide (m ≤ (t.length : Int))) with
        | true => rfl
        | false => rw [hh] at h3; cases h3
      have hsh : stShows ws ms t = ms.all (stTurn ws ms t) := by unfold stShows; rw [h1, h2]; rfl
      rw [hsh] at k
      refine q_forLn (a := q) (xs := ms.map V.int) (ev_var rfl) (ex_l e1 hq) (fun i σ' H' => ∃ s3, Ex H H' ∧ (ms.take i).all (stTurn ws ms t) = true ∧ σ' = [some (.ref p), some (tx t), some (.ref q), s3, none])
        (fun H2 e2 => ⟨_, e1.trans e2, rfl, rfl⟩) (fun i σ' H' _ hP => by obtain ⟨_, e, _⟩ := hP; exact ex_l e hq) (fun i x σ' H' hi hP => ?_) (fun σ' H' hP => ?_)
      · obtain ⟨s3, ex, hall, rfl⟩ := hP
        have hil : i < ms.length := by
          have := (List.getElem?_eq_some_iff.mp hi).1
          rwa [List.length_map] at this
        have hmi : ms[i]? = some ms[i] := List.getElem?_eq_getElem hil
        have hx : x = .int ms[i] := by
          rw [List.getElem?_map, hmi] at hi
          exact (Option.some.inj hi).symm
        subst hx
        have hmem : ms[i] ∈ ms := List.getElem_mem hil
        have hin := List.all_eq_true.mp h3 _ hmem
        have hm0 : 0 ≤ ms[i] := by
          rw [Bool.and_eq_true] at hin
          exact of_decide_eq_true hin.1
        have htk : ms.take (i + 1) = ms.take i ++ [ms[i]] := by rw [List.take_succ, hmi]; rfl
        have em : ms[i] = ((ms[i].toNat : Nat) : Int) := by omega
        have hst : stTurn ws ms t ms[i] = ws.all fun a => !(standsB a t ms[i].toNat && !decide (ms[i] + (a.length : Int) ∈ ms)) := by
          unfold stTurn; rw [hin]; rfl
        generalize ms[i] = m at *
        refine s_when (b := !(stTurn ws ms t m)) (et_is (et_test (ev_any (el_mapB (φ := tx) (g := fun a => standsB a t m.toNat && !decide (m + (a.length : Int) ∈ ms)) (ev_var rfl) (ex_l ex hp) (by omega) (fun _ => rfl) fun a ha => ?_))) ?_) (fun hbd H3 e3 => ?_) (fun hbd H3 e3 => ?_)
        · have hal := hb a ha
          refine ev_andV (ev_call (vs := [tx a, tx t, .int ((m.toNat : Nat) : Int)]) (ea_cons (ev_var rfl) (ea_cons (ev_var rfl) (ea_cons (ev_is (ev_var rfl) (congrArg V.int em)) ea_nil))) (sv_stands (by omega) (by omega))) fun _ => ev_niI (ev_op (ev_var rfl) (ev_lenS (ev_var rfl) (by omega)) rv_add) (ev_var rfl) (ex_l ex hq)
        · rw [hst, List.any_map]
          apply Bool.eq_iff_iff.mpr
          rw [Bool.not_eq_true', List.any_eq_true, List.all_eq_false]
          constructor
          · rintro ⟨a, ha, h⟩
            refine ⟨a, ha, ?_⟩
            have h : (standsB a t m.toNat && !decide (m + (a.length : Int) ∈ ms)) = true := h
            rw [h]; decide
          · rintro ⟨a, ha, h⟩
            refine ⟨a, ha, ?_⟩
            show (standsB a t m.toNat && !decide (m + (a.length : Int) ∈ ms)) = true
            cases hh : (standsB a t m.toNat && !decide (m + (a.length : Int) ∈ ms)) with
            | true => rfl
            | false => rw [hh] at h; exact absurd rfl h
        · refine s_ret ev_c fun H4 e4 => ?_
          have h := k H4 ((ex.trans e3).trans e4)
          have hf : stTurn ws ms t m = false := by
            cases hh : stTurn ws ms t m with
            | false => rfl
            | true => rw [hh] at hbd; cases hbd
          have hv : ms.all (stTurn ws ms t) = false := by
            rw [List.all_eq_false]
            exact ⟨m, hmem, by rw [hf]; decide⟩
          rw [hv] at h
          exact h
        · have hf : stTurn ws ms t m = true := by
            cases hh : stTurn ws ms t m with
            | true => rfl
            | false => rw [hh] at hbd; cases hbd
          refine ⟨_, ex.trans e3, ?_, rfl⟩
          rw [htk, List.all_append, hall]
          simp [hf]
      · obtain ⟨s3, ex, hall, rfl⟩ := hP
        rw [List.length_map, List.take_length] at hall
        refine s_ret ev_c fun H4 e4 => ?_
        have h := k H4 (ex.trans e4)
        rw [hall] at h
        exact h
end
end Tr

set_option Elab.async false
set_option linter.all false
set_option maxRecDepth 100000
set_option maxHeartbeats 4000000
namespace Tr
open PySem PySem.Spec PyProof.Rows L2 Evl
open M3 (wat joinW pre)
abbrev s__law_codes_right : Stmt := topS 39
abbrev N__law_codes_right : List Str := ["_law_code_here", "_law_cell", "_law_answer", "_law_one", "_law_other", "_law_tails_here", "_law_handed", "_law_answers", "_law_some", "_law_due"]
theorem sc__law_codes_right : FnScope N__law_codes_right ["_law_code_here", "_law_cell"] (defScope s__law_codes_right) := ⟨rfl, rfl, rfl, by decide +kernel, rfl, by decide +kernel, by decide +kernel⟩
local macro_rules | `(tactic| walk_at "sd") => `(tactic| first | assumption | rfl | omega | decide | (solve_by_elim) | (refine Nat.le_trans (m := 1000) (by solve_by_elim) (by decide)))
local macro_rules | `(tactic| walk_at "rv") => `(tactic| first
  | exact rv_add | exact rv_sub | exact rv_lt | exact rv_le | exact rv_gt | exact rv_ge | exact rv_eqI | exact rv_eqS | exact rv_eqB | exact rv_neI | exact rv_neS | exact rv_neB
  | exact rv_mod (by walk_at "sd") | exact rv_fdiv (by first | assumption | exact ⟨by omega, by omega⟩) | exact rv_addS (by walk_at "sd") | exact rv_isB | exact rv_notB | assumption)
local macro_rules | `(tactic| walk_at "ea") => `(tactic| first
  | exact ea_nil
  | (refine' ea_cons ?k1 ?k2; (case k1 => walk_at "ev"); (case k2 => walk_at "ea")))
local macro_rules | `(tactic| walk_at "eo") => `(tactic| first
  | exact eo_none
  | (refine' eo_some ?k1; (case k1 => walk_at "ev")))
local macro_rules | `(tactic| walk_at "et") => `(tactic| first
  | (refine' et_test ?k1; (case k1 => walk_at "ev"))
  | (refine' et_B ?k1; (case k1 => walk_at "ev"))
  | (refine' et_and ?k1 ?k2; (case k1 => walk_at "et"); (case k2 => (intro _; walk_at "et")))
  | (refine' et_or ?k1 ?k2; (case k1 => walk_at "et"); (case k2 => (intro _; walk_at "et")))
  | (refine' et_not ?k1; (case k1 => walk_at "et"))
  | assumption)
local macro_rules | `(tactic| walk_at "ev") => `(tactic| first
  | assumption
  | exact ev_cS
  | exact ev_c
  | exact ev_var rfl
  | (refine' ev_op ?k1 ?k2 ?k3; (case k1 => walk_at "ev"); (case k2 => walk_at "ev"); (case k3 => walk_at "rv"))
  | (refine' ev_un ?k1 ru_neg; (case k1 => walk_at "ev"))
  | (refine' ev_chain ?k1 ?k2 ?k3 ?k4 ?k5; (case k1 => walk_at "ev"); (case k2 => walk_at "ev"); (case k3 => walk_at "ev"); (case k4 => walk_at "rv"); (case k5 => (intro _; walk_at "rv")))
  | (refine' ev_slS ?k1 ?k2 ?k3 ?k4; (case k1 => walk_at "ev"); (case k2 => walk_at "eo"); (case k3 => walk_at "eo"); (case k4 => walk_at "sd"))
  | (refine' ev_lenS ?k1 ?k2; (case k1 => walk_at "ev"); (case k2 => walk_at "sd"))
  | (refine' ev_len' ?k1 ?k2; (case k1 => walk_at "ev"); (case k2 => walk_at "sd"))
  | (refine' ev_strip ?k1 ?k2 ?k3; (case k1 => walk_at "ev"); (case k2 => walk_at "ev"); (case k3 => walk_at "sd"))
  | (refine' ev_sum ?k1 ?k2; (case k1 => walk_at "ev"); (case k2 => walk_at "sd"))
  | (refine' ev_isi ?k1 ?k2 ?k3 ?k4; (case k1 => walk_at "ev"); (case k2 => walk_at "ev"); (case k3 => first | exact ty_int | exact ty_bl | exact ty_str | exact ty_list (by walk_at "sd")); (case k4 => first | exact kit_ty (r := true) (by decide +kernel) | exact kit_ty (r := false) (by decide +kernel)))
  | (refine' ev_andV ?k1 ?k2; (case k1 => walk_at "ev"); (case k2 => (intro _; walk_at "ev")))
  | (refine' ev_orV ?k1 ?k2; (case k1 => walk_at "ev"); (case k2 => (intro _; walk_at "ev")))
  | (refine' ev_notV ?k1; (case k1 => walk_at "ev"))
  | (refine' ev_call ?k1 ?k2; (case k1 => walk_at "ea"); (case k2 => walk_at "sv")))
local macro_rules | `(tactic| walk_at "el") => `(tactic| first
  | assumption
  | (refine' el_mapB ?k1 ?k2 ?k3 (fun _ => rfl) ?k5; (case k1 => walk_at "ev"); (case k2 => walk_at "sd"); (case k3 => walk_at "sd"); (case k5 => (intro _ _; walk_at "ev")))
  | (refine' el_mapI ?k1 ?k2 ?k3 (fun _ => rfl) ?k5; (case k1 => walk_at "ev"); (case k2 => walk_at "sd"); (case k3 => walk_at "sd"); (case k5 => (intro _ _; walk_at "ev")))
  | (refine' el_mapS ?k1 ?k2 ?k3 (fun _ => rfl) ?k5; (case k1 => walk_at "ev"); (case k2 => walk_at "sd"); (case k3 => walk_at "sd"); (case k5 => (intro _ _; walk_at "ev"))))
local macro_rules | `(tactic| walk_at "ev") => `(tactic| first
  | (refine' ev_all ?k1; (case k1 => walk_at "el"))
  | (refine' ev_any ?k1; (case k1 => walk_at "el"))
  | (refine' ev_sumN ?k1; (case k1 => walk_at "el"))
  | (refine' ev_join ?k1 ?k2 ?k3; (case k1 => exact ev_is ev_cS (congrArg tx codes_nil)); (case k2 => walk_at "el"); (case k3 => walk_at "sd")))

section
variable {K : PySem.W.Frag} {σ : L2.St} {H H' : Hp} {ta tb te tl : TE} {t : TT} {x v : V} {D : Ends} {tu tw tz : TS}
theorem q_ifCut {M : L2.St → Hp → Prop} {b : Bool} (h : EvT t σ H b) (k : ∀ σ' H', M σ' H' → tz D σ' H') (h1 : (∀ σ' H', M σ' H' → tz D σ' H') → b = true → ∀ H1, Ex H H1 → tu { D with nx := tz D } σ H1) (h2 : (∀ σ' H', M σ' H' → tz D σ' H') → b = false → ∀ H1, Ex H H1 → tw { D with nx := tz D } σ H1) :
    tSeq (tIfS t tu tw) tz D σ H := q_if h (h1 k) (h2 k)
theorem el_slN {tl th : TO} {xs : List V} {lo hi : Option Int} (h : EvL te σ H xs) (h1 : EvO tl σ H lo) (h2 : EvO th σ H hi) : EvL (tSl (rSlL K) te tl th) σ H (cutV xs lo hi) := fun H1 e _ q =>
  h H1 e _ fun a H2 _ e2 ha => h1 H2 (e.trans e2) _ fun H3 e3 => h2 H3 ((e.trans e2).trans e3) _ fun H4 e4 =>
    ⟨a, xs, rfl, sq_of ((e3.trans e4) a _ ha), fun p hp => q p _ (fresh_back ((e2.trans e3).trans e4) hp) (((e2.trans e3).trans e4).trans (Ex.new hp)) upd_same⟩
theorem lst2_run {t1 t2 : TE} {Q : VK} (h : t1 σ H fun x H1 => t2 σ H1 fun y H2 => [x, y].length ≤ sizeLine ∧ ∀ p, H2 p = none → Q (.ref p) (upd H2 p (.lst [x, y]))) : tLst (tCons t1 (tCons t2 tNil)) σ H Q := h
theorem less_keep {hs : List Addr} (e : Ex H H') (n : ∀ b ∈ hs, H b = Option.none) : Ex H (less H' hs) := fun b u hb => by
  rw [less_at (fun z => by rw [n b z] at hb; cases hb)]
  exact e b u hb
theorem rv_notN {x : V} : RV (fun x y H Q => y = .non ∧ Q (.bl (!decide (x = .non))) H) x .non H (.bl (!decide (x = .non))) := fun H1 _ Q q => ⟨rfl, q H1 (Ex.refl H1)⟩
end
theorem join_bound {ws : List Wd} (h : ∀ a ∈ ws, a.length ≤ 64) {xs : List Int} (hx : xs.length ≤ 300) (hr : inR ws.length xs = true) : (joinW ws (xs.map Int.toNat)).length ≤ 100000 := by
  have h1 := M1.join_le h _ (inR_nat hr).2
  rw [List.length_map] at h1
  omega
theorem rv_eqMade {H : Hp} {ws : List Wd} {xs ys : List Int} : RV rEq (madeV ws xs) (madeV ws ys) H (.bl (decide (madeV ws xs = madeV ws ys))) := fun H1 _ Q q => ⟨by
  unfold madeV tx
  split <;> split <;> rfl, q H1 (Ex.refl H1)⟩
theorem made_no {ws : List Wd} {xs : List Int} : (!decide (madeV ws xs = .non)) = inR ws.length xs := by
  unfold madeV tx
  cases inR ws.length xs <;> simp
theorem due_cl (ws : List Wd) (xs ys : List Int) : (!decide (xs = ys) && ((!decide (madeV ws xs = .non)) && decide (madeV ws xs = madeV ws ys))) = clV ws xs ys := by
  rw [made_no]
  unfold clV
  cases h1 : inR ws.length xs with
  | false => simp
  | true =>
    cases h2 : inR ws.length ys with
    | false =>
      have : ¬ madeV ws xs = madeV ws ys := by
        unfold madeV tx
        rw [h1, h2]
        intro z
        cases z
      rw [decide_eq_false this]; simp
    | true =>
      have : decide (madeV ws xs = madeV ws ys) = decide (joinW ws (xs.map Int.toNat) = joinW ws (ys.map Int.toNat)) := by
        unfold madeV
        rw [if_pos h1, if_pos h2]
        exact tx_eq _ _
      rw [this]; simp
theorem quad (i : Int) (h0 : 0 ≤ i) (h1 : i < 4) : ∃ m : Wd, atI [tx (codes ""), tx (codes "a"), tx (codes "bb"), tx (codes "zz")] i = some (tx m) ∧ m.length ≤ 2 ∧ okC m := by
  have h : i = 0 ∨ i = 1 ∨ i = 2 ∨ i = 3 := by omega
  rcases h with h | h | h | h <;> subst h
  · exact ⟨codes "", rfl, by decide +kernel, by unfold okC; decide +kernel⟩
  · exact ⟨codes "a", rfl, by decide +kernel, by unfold okC; decide +kernel⟩
  · exact ⟨codes "bb", rfl, by decide +kernel, by unfold okC; decide +kernel⟩
  · exact ⟨codes "zz", rfl, by decide +kernel, by unfold okC; decide +kernel⟩
theorem ts0_ok (k : Nat) : ∀ t ∈ (([codes "a", codes "ab", codes "c"] : List Wd).take k), t.length ≤ 1000 ∧ okC t := fun t ht => by
  have := List.mem_of_mem_take ht
  simp only [List.mem_cons, List.not_mem_nil, or_false] at this
  rcases this with h | h | h <;> subst h
  · exact ⟨by decide +kernel, by unfold okC; decide +kernel⟩
  · exact ⟨by decide +kernel, by unfold okC; decide +kernel⟩
  · exact ⟨by decide +kernel, by unfold okC; decide +kernel⟩
structure OncK (K : PySem.W.Frag) (aCl aTl : Addr) : Prop where
  isC : ∀ b : Bool, PySem.W.kitOne K (.ref (if b then aCl else aTl)) (.ref aCl) = some b
  cl : ∀ b : Bool, ClsI K (if b then aCl else aTl)
  n1 : NoAttr K aCl "one"
  n2 : NoAttr K aCl "other"
  n3 : NoAttr K aTl "tails"
section
variable {P : Program} {w : World} {K : PySem.W.Frag} {mg : Str → Option Value} {base : Heap} {H : Hp}
def OncAt (aCl aTl : Addr) (b : Bool) (H : Hp) (o l m : Addr) (xs ys : List Int) (ts : List Wd) : Prop :=
  if b = true then ∃ dx, H o = some (.ins aCl dx [("one", .ref l), ("other", .ref m)]) ∧ H l = some (.lst (xs.map V.int)) ∧ H m = some (.lst (ys.map V.int)) else ∃ dx, H o = some (.ins aTl dx [("tails", .ref l)]) ∧ H l = some (.lst (ts.map tx))
theorem onc_all {aCl aTl p : Addr} {ws : List Wd} {Q : VK} {E : XK} (hc : CodeAt K H p ws) (hw : ws.length ≤ 63) (hs : SufOk ws)
    (k : ∀ (b : Bool) (o l m : Addr) (H' : Hp) (xs ys : List Int) (ts : List Wd), Ex H H' → OncAt aCl aTl b H' o l m xs ys ts → (b = true → xs.length ≤ 200 ∧ ys.length ≤ 200) → (b = false → ts.length ≤ 63 ∧ ∀ t ∈ ts, tailOk t) → Q (.ref o) H') : spOnce K aCl aTl [.ref p] H Q E :=
  ⟨p, ws, rfl, hc, hw, hs, fun o dx l m H' xs ys no nl nm hlo hmo hlm e ho hl hm hv h1 h2 => k true o l m H' xs ys [] e ⟨dx, ho, hl, hm⟩ (fun _ => ⟨h1, h2⟩) (fun z => nomatch z),
    fun o dx l H' ts no nl hlo e ho hl hC h1 h2 => k false o l l H' [] [] ts e ⟨dx, ho, hl⟩ (fun z => nomatch z) (fun _ => ⟨h1, h2⟩)⟩
theorem OncAt.ty {aCl aTl o l m : Addr} {b : Bool} {xs ys : List Int} {ts : List Wd} (h : OncAt aCl aTl b H o l m xs ys ts) (c : ClsI K (if b then aCl else aTl)) : ∀ H1, Ex H H1 → TyX K H1 (.ref o) (.ref (if b then aCl else aTl)) := by
  cases b with
  | true => obtain ⟨dx, h1, h2, h3⟩ := h; exact ty_ins c h1
  | false => obtain ⟨dx, h1, h2⟩ := h; exact ty_ins c h1
theorem OncAt.ex {aCl aTl o l m : Addr} {b : Bool} {H' : Hp} {xs ys : List Int} {ts : List Wd} (e : Ex H H') (h : OncAt aCl aTl b H o l m xs ys ts) : OncAt aCl aTl b H' o l m xs ys ts := by
  cases b with
  | true => obtain ⟨dx, h1, h2, h3⟩ := h; exact ⟨dx, e o _ h1, e l _ h2, e m _ h3⟩
  | false => obtain ⟨dx, h1, h2⟩ := h; exact ⟨dx, e o _ h1, e l _ h2⟩
def spCodesRight (K : PySem.W.Frag) : Sp := fun vs H Q _ => ∃ (p : Addr) (c : Int) (ws : List Wd), vs = [.ref p, .int c] ∧ SqL K H p (ws.map tx) ∧ WordsOk ws 64 ∧ SufOk ws ∧ ∀ H', Ex H H' → Q (.bl true) H'
theorem ok__law_codes_right {aCl aTl : Addr} (D : DefAt K mg "_law_codes_right" s__law_codes_right ["_law_code_here", "_law_cell"]) (T : Blt mg) (G_Clash : mg "Clash" = some (.ref aCl)) (OK : OncK K aCl aTl) (C_once : Cal P w K mg base 3 "once" (spOnce K aCl aTl)) (C__law_bent : Cal P w K mg base 1 "_law_bent" (spBent K))
    (K_Clash : MkAt P w K mg base 1 "Clash" aCl (spIni2 K aCl "one" "other")) (K_Tails : MkAt P w K mg base 1 "Tails" aTl (spIni1 K aTl "tails")) (C__law_made : Cal P w K mg base 1 "_law_made" (spMade K)) (C__law_says : Cal P w K mg base 1 "_law_says" spSays) (C__law_tails : Cal P w K mg base 2 "_law_tails" (spLawTails K))
    (M_Clash_shows : MCal P w K mg base 2 aCl "shows" (spClShows K aCl)) (M_Tails_shows : MCal P w K mg base 2 aTl "shows" (spTlShows K aTl)) : Cal P w K mg base 4 "_law_codes_right" (spCodesRight K) := by
  refine cal_of D sc__law_codes_right (fun vs H Q E h => ?_) (fun f cdv A outer s H vs Q E hr h => ?_)
  · obtain ⟨p, c, ws, rfl, _⟩ := h; rfl
  · obtain ⟨p, c, ws, rfl, hp, hwo, hsuf, k⟩ := h
    refine ⟨_, (pss_cons (ps_set (i := 2) sc__law_codes_right.nd rfl (.inl rfl) (pe_c C_once hr (by decide) (by rfl) (pa_cons (pv 0) pa_nil)))
      (pss_cons (ps_set (i := 3) sc__law_codes_right.nd rfl (.inl rfl) (pe_lst (pa_cons (pe_op op_mod (pe_op op_fdiv (pv 1) pe_int) (pe_op op_add (pe_callB (call_len_seqK (K := K) rfl) (by rfl) T.len (by decide +kernel) (pa_cons (pv 0) pa_nil)) pe_int)) (pa_cons (pe_op op_mod (pe_op op_fdiv (pv 1) pe_int) (pe_op op_add (pe_callB (call_len_seqK (K := K) rfl) (by rfl) T.len (by decide +kernel) (pa_cons (pv 0) pa_nil)) pe_int)) pa_nil))))
      (pss_cons (ps_set (i := 4) sc__law_codes_right.nd rfl (.inl rfl) (pe_revLK (K := K) rfl (pv 3)))
      (pss_cons (ps_set (i := 5) sc__law_codes_right.nd rfl (.inl rfl) (pe_slice (sl_listK (K := K) rfl) (pe_lst (pa_cons pe_str (pa_cons pe_str (pa_cons pe_str pa_nil)))) po_none (po_some (pe_op op_mod (pv 1) pe_int))))
      (pss_cons (ps_if (pt_val (pe_callB (call_isiK' (K := K) rfl) (by rfl) T.isinstance (by decide +kernel) (pa_cons (pv 2) (pa_cons (pe_exc (mg := mg) rfl G_Clash (by rfl)) pa_nil)))) (pss_cons (ps_set (i := 3) sc__law_codes_right.nd rfl (.inl rfl) (pe_c C__law_bent hr (by decide) (by rfl) (pa_cons (pe_fldK (K := K) rfl (pv 2)) (pa_cons (pe_op op_fdiv (pv 1) pe_int) (pa_cons (pe_op op_sub (pe_op op_mod (pe_op op_fdiv (pv 1) pe_int) (pe_op op_add (pe_callB (call_len_seqK (K := K) rfl) (by rfl) T.len (by decide +kernel) (pa_cons (pv 0) pa_nil)) pe_int)) pe_int) pa_nil)))))
      (pss_one (ps_set (i := 4) sc__law_codes_right.nd rfl (.inl rfl) (pe_callTy (call_list_ofK (K := K) rfl) (by rfl) T.list (by decide +kernel) (pa_cons (pe_fldK (K := K) rfl (pv 2)) pa_nil))))) (pss_one (ps_set (i := 5) sc__law_codes_right.nd rfl (.inl rfl) (pe_c C__law_bent hr (by decide) (by rfl) (pa_cons (pe_fldK (K := K) rfl (pv 2)) (pa_cons (pe_op op_fdiv (pv 1) pe_int) (pa_cons (pe_ix (ix_tupK (K := K) rfl) (pe_tup (pa_cons pe_str (pa_cons pe_str (pa_cons pe_str (pa_cons pe_str pa_nil))))) (pe_op op_mod (pe_op op_fdiv (pv 1) pe_int) pe_int) (fun _ _ => rfl)) pa_nil)))))))
      (pss_cons (ps_set (i := 6) sc__law_codes_right.nd rfl (.inl rfl) (pe_lst (pa_cons (pe_callTy (call_list_ofK (K := K) rfl) (by rfl) T.list (by decide +kernel) (pa_cons (pv 3) pa_nil)) (pa_cons (pe_callTy (call_list_ofK (K := K) rfl) (by rfl) T.list (by decide +kernel) (pa_cons (pv 4) pa_nil)) (pa_cons (pe_callTy (call_list_ofK (K := K) rfl) (by rfl) T.list (by decide +kernel) (pa_cons (pv 5) pa_nil)) pa_nil)))))
      (pss_cons (ps_set (i := 7) sc__law_codes_right.nd rfl (.inl rfl) (pe_lst (pa_cons (pe_mk K_Clash hr (by decide) (by rfl) (pa_cons (pe_ix (ix_listK (K := K) rfl) (pv 6) pe_int (fun _ _ => rfl)) (pa_cons (pe_ix (ix_listK (K := K) rfl) (pv 6) pe_int (fun _ _ => rfl)) pa_nil))) (pa_cons (pe_mk K_Tails hr (by decide) (by rfl) (pa_cons (pe_ix (ix_listK (K := K) rfl) (pv 6) pe_int (fun _ _ => rfl)) pa_nil)) pa_nil))))
      (pss_cons (ps_for PassesOwn.never rfl (pi_listK (K := K) rfl (pv 6)) (pg_name (i := 8) sc__law_codes_right.nd rfl (.inl rfl)) (pss_one (ps_expr (pe_bm PySem.F.plainAttrs_list PySem.F.slot_list_append PySem.F.type_list_append mt_append (pv 8) (pa_cons pe_str pa_nil)))))
      (pss_cons (ps_if (PW.pt (pw_or (pt_cmpR (op_neDK (K := K) rfl hr.units) (pe_fldK (K := K) rfl (pe_ix (ix_listK (K := K) rfl) (pv 7) pe_int (fun _ _ => rfl))) (pv 3) (nomark _)) (pw_or (pt_cmpR (op_neDK (K := K) rfl hr.units) (pe_fldK (K := K) rfl (pe_ix (ix_listK (K := K) rfl) (pv 7) pe_int (fun _ _ => rfl))) (pv 4) (nomark _)) (pw_or1 (pt_cmpR (op_neDK (K := K) rfl hr.units) (pe_fldK (K := K) rfl (pe_ix (ix_listK (K := K) rfl) (pv 7) pe_int (fun _ _ => rfl))) (pv 5) (nomark _)))))) (pss_one (ps_ret pe_bl)) pss_nil)
      (pss_cons (ps_set (i := 9) sc__law_codes_right.nd rfl (.inl rfl) (pe_and (pe_cmpR (op_neDK (K := K) rfl hr.units) (pv 3) (pv 4) (nomark _)) (pe_and (pe_cmpR op_notN (pe_c C__law_made hr (by decide) (by rfl) (pa_cons (pv 0) (pa_cons (pv 3) pa_nil))) pe_non (nomark _)) (pe_one (pe_cmpR op_eq (pe_c C__law_made hr (by decide) (by rfl) (pa_cons (pv 0) (pa_cons (pv 3) pa_nil))) (pe_c C__law_made hr (by decide) (by rfl) (pa_cons (pv 0) (pa_cons (pv 4) pa_nil))) (nomark _))))))
      (pss_cons (ps_if (pt_not (pt_val (pe_c C__law_says hr (by decide) (by rfl) (pa_cons (pe_alt (pe_mth M_Clash_shows hr (by decide) (pe_ix (ix_listK (K := K) rfl) (pv 7) pe_int (fun _ _ => rfl)) (pa_cons (pv 0) pa_nil)) (pe_mth M_Tails_shows hr (by decide) (pe_ix (ix_listK (K := K) rfl) (pv 7) pe_int (fun _ _ => rfl)) (pa_cons (pv 0) pa_nil))) (pa_cons (pv 9) pa_nil))))) (pss_one (ps_ret pe_bl)) pss_nil)
      (pss_one (ps_ret (pe_c C__law_says hr (by decide) (by rfl) (pa_cons (pe_alt (pe_mth M_Clash_shows hr (by decide) (pe_ix (ix_listK (K := K) rfl) (pv 7) pe_int (fun _ _ => rfl)) (pa_cons (pv 0) pa_nil)) (pe_mth M_Tails_shows hr (by decide) (pe_ix (ix_listK (K := K) rfl) (pv 7) pe_int (fun _ _ => rfl)) (pa_cons (pv 0) pa_nil))) (pa_cons (pe_c C__law_tails hr (by decide) (by rfl) (pa_cons (pv 0) (pa_cons (pv 5) pa_nil))) pa_nil)))))))))))))))), ?_⟩
    have hwn := hwo.len
    have hwa : ∀ a ∈ ws, a.length ≤ 1000 := fun a ha => by have := (hwo.ok a ha).2.2; omega
    have hw64 : ∀ a ∈ ws, a.length ≤ 64 := fun a ha => (hwo.ok a ha).2.2
    have glen : ∀ (H' : Hp) (σ : L2.St), Ex H H' → σ[0]? = some (some (.ref p)) → Ev (tCB (rLenQ K) (tCons (tVar 0) tNil)) σ H' (.int (ws.length : Int)) := fun H' σ e h0 => by
      have := ev_len' (K := K) (ev_var (H := H') h0) (ex_l e hp)
      rwa [List.length_map] at this
    refine q_asgX (call_run (vs := [.ref p]) (by walk_at "ea") fun H0 e0 => onc_all (hwo.at (by decide) (ex_l e0 hp)) hwn hsuf fun b o l m H1 xs ys ts e1' hA hx ht => ?_)
    have e1 := e0.trans e1'
    have gdiv : ∀ (k n : Int) (H' : Hp) (σ : L2.St), Ex H H' → 0 < k → k < 100 → 0 < n → n < 100 → σ[0]? = some (some (.ref p)) → σ[1]? = some (some (.int c)) →
        Ev (tOp (rI (fun _ j => 0 < j) fun i j => .int (i % j)) (tOp (rI CDiv fun i j => .int (i / j)) (tVar 1) (tC (.int k))) (tOp (rI0 fun i j => .int (i + j)) (tCB (rLenQ K) (tCons (tVar 0) tNil)) (tC (.int n)))) σ H' (.int (c / k % ((ws.length : Int) + n))) := fun k n H' σ e h1 h2 h3 h4 h5 h6 =>
      ev_op (ev_op (ev_var h6) ev_c (rv_fdiv ⟨h1, by omega⟩)) (ev_op (glen _ _ e h5) ev_c rv_add) (rv_mod (by omega))
    have hq4 := Int.emod_nonneg c (show (4 : Int) ≠ 0 by decide)
    have hk4 : c % 4 = (((c % 4).toNat : Nat) : Int) := by omega
    generalize hx0 : c / 3 % ((ws.length : Int) + 1) = x0
    generalize hx1 : c / 7 % ((ws.length : Int) + 1) = x1
    refine q_asgL (xs := [x0, x1].map V.int) (el_lst (vs := [.int x0, .int x1]) (ea_cons (ev_is (gdiv 3 1 _ _ e1 (by decide) (by decide) (by decide) (by decide) rfl rfl) (congrArg V.int hx0)) (ea_cons (ev_is (gdiv 7 1 _ _ e1 (by decide) (by decide) (by decide) (by decide) rfl rfl) (congrArg V.int hx1)) ea_nil)) (by simp)) fun a1 H2 na1 e2 h1 => ?_
    refine q_asgL (xs := [x1, x0].map V.int) (el_revL (ev_var rfl) (sq_of h1)) fun a2 H3 na2 e3 h2 => ?_
    refine q_asgL (xs := (([codes "a", codes "ab", codes "c"] : List Wd).take (c % 4).toNat).map tx) (by
      have := el_slN (K := K) (σ := [some (.ref p), some (.int c), some (.ref o), some (.ref a1), some (.ref a2), none, none, none, none, none]) (H := H3) (el_lst (vs := [tx (codes "a"), tx (codes "ab"), tx (codes "c")]) (ea_cons ev_cS (ea_cons ev_cS (ea_cons ev_cS ea_nil))) (by simp)) eo_none (eo_some (i := (((c % 4).toNat : Nat) : Int)) (ev_is (ev_op (ev_var (i := 1) rfl) (ev_c (v := .int 4)) (rv_mod (by decide))) (congrArg V.int hk4)))
      rw [cutV_to] at this
      rw [List.map_take]
      exact this) fun a3 H4 na3 e4 h3 => ?_
    have ex4 : Ex H1 H4 := (e2.trans e3).trans e4
    have exH4 : Ex H H4 := e1.trans ex4
    refine q_ifCut (M := fun σ' H' => ∃ (a1 a2 a3 : Addr) (us vs : List Int) (rs : List Wd), Ex H H' ∧ σ' = [some (.ref p), some (.int c), some (.ref o), some (.ref a1), some (.ref a2), some (.ref a3), none, none, none, none] ∧ H' a1 = some (.lst (us.map V.int)) ∧ H' a2 = some (.lst (vs.map V.int)) ∧ H' a3 = some (.lst (rs.map tx)) ∧
      us.length ≤ 300 ∧ vs.length ≤ 300 ∧ rs.length ≤ 100 ∧ ∀ t ∈ rs, t.length ≤ 1000 ∧ okC t) (b := b) (et_test (ev_isC (ev_var (i := 2) rfl) ev_c ((hA.ex ex4).ty (OK.cl b)) (OK.isC b))) (fun σ' H5 hM => ?_) (fun kk hb H5 e5 => ?_) (fun kk hb H5 e5 => ?_)
    rotate_left
    · subst hb
      obtain ⟨dx, ho, hl, hm⟩ := (hA.ex ex4).ex e5
      obtain ⟨hx1', hx2'⟩ := hx rfl
      have e5' := exH4.trans e5
      refine q_asgL (xs := (bentV xs (c / 5) (c / 11 % ((ws.length : Int) + 2) - 1)).map V.int) (by
        have := el_call (E := E0) (σ := [some (.ref p), some (.int c), some (.ref o), some (.ref a1), some (.ref a2), some (.ref a3), none, none, none, none]) (H := H5) (ea_cons (ev_fld (ev_var (i := 2) rfl) ho (OK.cl true).cl OK.n1 look2a) (ea_cons (ev_op (ev_var (i := 1) rfl) (ev_c (v := .int 5)) (rv_fdiv ⟨by decide, by decide⟩)) (ea_cons (ev_op (gdiv 11 2 _ _ e5' (by decide) (by decide) (by decide) (by decide) rfl rfl) (ev_c (v := .int 1)) rv_sub) ea_nil))) (sl_bent (K := K) (c := c / 5) (m := .int (c / 11 % ((ws.length : Int) + 2) - 1)) (sq_of hl) (by rw [List.length_map]; omega))
        rw [bentV_map] at this
        exact this) fun b1 H6 nb1 e6 hb1 => ?_
      refine s_asgL (xs := ys.map V.int) (ev_listOf (ev_fld (ev_var (i := 2) rfl) (e6 o _ ho) (OK.cl true).cl OK.n2 (look2 (by decide +kernel))) (sq_of (e6 m _ hm))) fun b2 H7 nb2 e7 hb2 => ?_
      have := bentV_len xs (c / 5) (c / 11 % ((ws.length : Int) + 2) - 1)
      exact kk _ _ ⟨b1, b2, a3, _, ys, _, (e5'.trans e6).trans e7, rfl, e7 b1 _ hb1, hb2, ((e5.trans e6).trans e7) a3 _ h3, by omega, by omega, by rw [List.length_take]; simp; omega, ts0_ok _⟩
    · subst hb
      obtain ⟨dx, ho, hl⟩ := (hA.ex ex4).ex e5
      obtain ⟨ht1, ht2⟩ := ht rfl
      have e5' := exH4.trans e5
      have hqq := Int.emod_nonneg (c / 11) (show (4 : Int) ≠ 0 by decide)
      have hqq' := Int.emod_lt_of_pos (c / 11) (show (0 : Int) < 4 by decide)
      obtain ⟨m0, hm0, hm1, hm2⟩ := quad _ hqq hqq'
      refine s_asgL (xs := (bentV ts (c / 5) m0).map tx) (by
        have := el_call (E := E0) (σ := [some (.ref p), some (.int c), some (.ref o), some (.ref a1), some (.ref a2), some (.ref a3), none, none, none, none]) (H := H5) (ea_cons (ev_fld (ev_var (i := 2) rfl) ho (OK.cl false).cl OK.n3 (look1 _ _)) (ea_cons (ev_op (ev_var (i := 1) rfl) (ev_c (v := .int 5)) (rv_fdiv ⟨by decide, by decide⟩)) (ea_cons (ev_ixU (K := K) (eu_tup (vs := [tx (codes ""), tx (codes "a"), tx (codes "bb"), tx (codes "zz")]) (ea_cons ev_cS (ea_cons ev_cS (ea_cons ev_cS (ea_cons ev_cS ea_nil)))) (by simp)) (ev_op (ev_op (ev_var (i := 1) rfl) (ev_c (v := .int 11)) (rv_fdiv ⟨by decide, by decide⟩)) (ev_c (v := .int 4)) (rv_mod (by decide))) hm0) ea_nil))) (sl_bent (K := K) (c := c / 5) (m := tx m0) (sq_of hl) (by rw [List.length_map]; omega))
        rw [bentV_map] at this
        exact this) fun b3 H6 nb3 e6 hb3 => ?_
      have := bentV_len ts (c / 5) m0
      exact kk _ _ ⟨a1, a2, b3, [x0, x1], [x1, x0], _, e5'.trans e6, rfl, ((e3.trans e4).trans (e5.trans e6)) a1 _ h1, (e4.trans (e5.trans e6)) a2 _ h2, hb3, by simp, by simp, by omega, fun t htm => by
        rcases bentV_mem htm with h | h
        · exact ht2 t h
        · rw [h]; exact ⟨by omega, hm2⟩⟩
    · obtain ⟨a1, a2, a3, us, vs, rs, ex, rfl, h1, h2, h3, hul, hvl, hrl, hro⟩ := hM
      have hp5 := ex_l ex hp
      refine q_asgX ((ev_listOf (ev_var (i := 3) rfl) (sq_of h1)) _ (Ex.refl _) _ fun b1 H6 nb1 e6 g1 => (ev_listOf (ev_var (i := 4) rfl) (sq_of h2)) _ e6 _ fun b2 H7 nb2 e7 g2 => (ev_listOf (ev_var (i := 5) rfl) (sq_of h3)) _ (e6.trans e7) _ fun b3 H8 nb3 e8 g3 => ⟨sz_of (by simp), fun hh nh => ?_⟩)
      have e9 : Ex H8 (upd H8 hh (.lst [.ref b1, .ref b2, .ref b3])) := Ex.new nh
      generalize hH9 : upd H8 hh (.lst [.ref b1, .ref b2, .ref b3]) = H9 at *
      have hh9 : H9 hh = some (.lst [.ref b1, .ref b2, .ref b3]) := by rw [← hH9]; exact upd_same
      have k1 := (e7.trans e8) b1 _ g1
      have k2 := e8 b2 _ g2
      have m1 := e9 b1 _ k1
      have m2 := e9 b2 _ k2
      have m3 := e9 b3 _ g3
      refine q_asgX (lst2_run ((eb2_make (K := K) (C := aCl) (f := "one") (g := "other") (a := b1) (b := b2) (xs := us.map V.int) (ys := vs.map V.int) (ev_op (ev_var (i := 6) rfl) (ev_c (v := .int 0)) (rv_ixL (K := K) (sq_of hh9) (show atI [V.ref b1, .ref b2, .ref b3] 0 = some (.ref b1) from rfl))) (sq_of m1) (ev_op (ev_var (i := 6) rfl) (ev_c (v := .int 1)) (rv_ixL (K := K) (sq_of hh9) (show atI [V.ref b1, .ref b2, .ref b3] 1 = some (.ref b2) from rfl))) (sq_of m2)) H9 (Ex.refl _) _
        fun oC dx lC mC H10 noC nlC nmC hlo hmo hlm e10 hoC hlC hmC => (eb_make (K := K) (C := aTl) (f := "tails") (eqx_of (eq_at (ev_op (ev_var (i := 6) rfl) (ev_c (v := .int 2)) (rv_ixL (K := K) (sq_of hh9) (show atI [V.ref b1, .ref b2, .ref b3] 2 = some (.ref b3) from rfl))) (sq_of m3)))) H10 e10 _
        fun oT dx2 lT H11 zs hzs noT nlT hlo2 e11 hoT hlT => ⟨sz_of (by simp), fun an nan => ?_⟩))
      subst hzs
      have e12 : Ex H11 (upd H11 an (.lst [.ref oC, .ref oT])) := Ex.new nan
      generalize hH12 : upd H11 an (.lst [.ref oC, .ref oT]) = H12 at *
      have ha12 : H12 an = some (.lst [.ref oC, .ref oT]) := by rw [← hH12]; exact upd_same
      have e912 : Ex H9 H12 := (e10.trans e11).trans e12
      have mem3 : ∀ x : Addr, x ≠ b1 → x ≠ b2 → x ≠ b3 → x ∉ [b1, b2, b3] := fun x h1 h2 h3 z => by
        simp only [List.mem_cons, List.not_mem_nil, or_false] at z
        rcases z with z | z | z
        · exact h1 z
        · exact h2 z
        · exact h3 z
      have nin : ∀ (x : Addr) (G : Hp), G x = none → G b1 = some (.lst (us.map V.int)) → G b2 = some (.lst (vs.map V.int)) → G b3 = some (.lst (rs.map tx)) → x ∉ [b1, b2, b3] := fun x G hx h1 h2 h3 => mem3 x (fun z => by rw [z, h1] at hx; cases hx) (fun z => by rw [z, h2] at hx; cases hx) (fun z => by rw [z, h3] at hx; cases hx)
      have exK : Ex H5 (less H12 [b1, b2, b3]) := less_keep ((((e6.trans e7).trans e8).trans e9).trans e912) fun x hx => by
        simp only [List.mem_cons, List.not_mem_nil, or_false] at hx
        rcases hx with hx | hx | hx
        · rw [hx]; exact nb1
        · rw [hx]; exact fresh_back e6 nb2
        · rw [hx]; exact fresh_back (e6.trans e7) nb3
      have q1 := e10 b1 _ m1
      have q2 := e10 b2 _ m2
      have q3 := e10 b3 _ m3
      have r1 := e11 b1 _ q1
      have r2 := e11 b2 _ q2
      have r3 := e11 b3 _ q3
      refine q_forApp (j := 8) (hh := hh) (hs := [b1, b2, b3]) (K0 := less H12 [b1, b2, b3]) (y := tx (codes "a")) (ev_var rfl) less_ex ?_ (by simp) (fun a ha => ?_) (show 8 < 10 by decide) (fun _ _ => ev_cS) (fun s8 H13 e13 => ?_) ⟨none, rfl⟩
      · rw [less_at (nin hh H8 nh k1 k2 g3)]
        exact e912 hh _ hh9
      · refine ⟨less_no ha, ?_⟩
        simp only [List.mem_cons, List.not_mem_nil, or_false] at ha
        rcases ha with ha | ha | ha <;> subst ha
        · exact ⟨_, e912 _ _ m1, by rw [List.length_map]; omega⟩
        · exact ⟨_, e912 _ _ m2, by rw [List.length_map]; omega⟩
        · exact ⟨_, e912 _ _ m3, by rw [List.length_map]; omega⟩
      have kp : ∀ (x : Addr) (u : HO), x ∉ [b1, b2, b3] → H12 x = some u → H13 x = some u := fun x u hx hu => e13 x u (by rw [less_at hx]; exact hu)
      have ha13 := kp an _ (nin an H11 nan r1 r2 r3) ha12
      have hoC13 := kp oC _ (nin oC H9 noC m1 m2 m3) ((e11.trans e12) oC _ hoC)
      have hlC13 := kp lC _ (nin lC H9 nlC m1 m2 m3) ((e11.trans e12) lC _ hlC)
      have hmC13 := kp mC _ (nin mC H9 nmC m1 m2 m3) ((e11.trans e12) mC _ hmC)
      have hoT13 := kp oT _ (nin oT H10 noT q1 q2 q3) (e12 oT _ hoT)
      have hlT13 := kp lT _ (nin lT H10 nlT q1 q2 q3) (e12 lT _ hlT)
      have exK13 : Ex H5 H13 := exK.trans e13
      have h1' := exK13 a1 _ h1
      have h2' := exK13 a2 _ h2
      have h3' := exK13 a3 _ h3
      have hp13 := ex_l exK13 hp5
      have ex13 : Ex H H13 := ex.trans exK13
      have gC : ∀ (H' : Hp) (σ : L2.St), Ex H13 H' → σ[7]? = some (some (.ref an)) → Ev (tOp (rIxL K) (tVar 7) (tC (.int 0))) σ H' (.ref oC) := fun H' σ e h7 => ev_op (ev_var h7) ev_c (rv_ixL (K := K) (sq_of (e an _ ha13)) (show atI [V.ref oC, .ref oT] 0 = some (.ref oC) from rfl))
      have gT : ∀ (H' : Hp) (σ : L2.St), Ex H13 H' → σ[7]? = some (some (.ref an)) → Ev (tOp (rIxL K) (tVar 7) (tC (.int 1))) σ H' (.ref oT) := fun H' σ e h7 => ev_op (ev_var h7) ev_c (rv_ixL (K := K) (sq_of (e an _ ha13)) (show atI [V.ref oC, .ref oT] 1 = some (.ref oT) from rfl))
      refine q_skip (et_is (et_or (et_B (ev_neQ enc_int (eq_at (ev_fld (gC _ _ (Ex.refl _) rfl) hoC13 (OK.cl true).cl OK.n1 look2a) (sq_of hlC13)) (eq_at (ev_var (i := 3) rfl) (sq_of h1')) (by simp) (by simp))) fun _ => et_or (et_B (ev_neQ enc_int (eq_at (ev_fld (gC _ _ (Ex.refl _) rfl) hoC13 (OK.cl true).cl OK.n2 (look2 (by decide +kernel))) (sq_of hmC13)) (eq_at (ev_var (i := 4) rfl) (sq_of h2')) (by simp) (by simp))) fun _ => et_B (ev_neQ enc_tx (eq_at (ev_fld (gT _ _ (Ex.refl _) rfl) hoT13 (OK.cl false).cl OK.n3 (look1 _ _)) (sq_of hlT13)) (eq_at (ev_var (i := 5) rfl) (sq_of h3')) (fun t ht => (hro t ht).2) (fun t ht => (hro t ht).2))) (by simp)) fun H14 e14 => ?_
      have hju := fun hr => join_bound hw64 hul (xs := us) hr
      have hjv := fun hr => join_bound hw64 hvl (xs := vs) hr
      have gm1 : ∀ (H' : Hp) (σ : L2.St), Ex H13 H' → σ[0]? = some (some (.ref p)) → σ[3]? = some (some (.ref a1)) → Ev (tCall (spMade K) [] E0 (tCons (tVar 0) (tCons (tVar 3) tNil))) σ H' (madeV ws us) := fun H' σ e h0 h3 => ev_call (vs := [.ref p, .ref a1]) (ea_cons (ev_var h0) (ea_cons (ev_var h3) ea_nil)) (sv_made (ex_l e hp13) (sq_of (e a1 _ h1')) (by omega) hju)
      have gm2 : ∀ (H' : Hp) (σ : L2.St), Ex H13 H' → σ[0]? = some (some (.ref p)) → σ[4]? = some (some (.ref a2)) → Ev (tCall (spMade K) [] E0 (tCons (tVar 0) (tCons (tVar 4) tNil))) σ H' (madeV ws vs) := fun H' σ e h0 h4 => ev_call (vs := [.ref p, .ref a2]) (ea_cons (ev_var h0) (ea_cons (ev_var h4) ea_nil)) (sv_made (ex_l e hp13) (sq_of (e a2 _ h2')) (by omega) hjv)
      refine q_asg (v := .bl (clV ws us vs)) (ev_is (ev_andV (ev_neQ enc_int (eq_at (ev_var (i := 3) rfl) (sq_of (e14 a1 _ h1'))) (eq_at (ev_var (i := 4) rfl) (sq_of (e14 a2 _ h2'))) (by simp) (by simp)) fun _ => ev_andV (ev_op (gm1 _ _ e14 rfl rfl) ev_c rv_notN) fun _ => ev_op (gm1 _ _ e14 rfl rfl) (gm2 _ _ e14 rfl rfl) rv_eqMade) (congrArg V.bl (due_cl ws us vs))) fun H15 e15 => ?_
      have ex15 := e14.trans e15
      refine q_skip (et_is (et_not (et_test (ev_call (vs := [.bl (clV ws us vs), .bl (clV ws us vs)]) (ea_cons (ev_altL (ev_mth (gC _ _ ex15 rfl) (ex15 oC _ hoC13) (look2n (by decide +kernel) (by decide +kernel)) (ea_cons (ev_var rfl) ea_nil) fun H7 e7 Q' q' _ => ⟨oC, lC, mC, p, dx, ws, us, vs, rfl, (ex15.trans e7) oC _ hoC13, sq_of ((ex15.trans e7) lC _ hlC13), sq_of ((ex15.trans e7) mC _ hmC13), ex_l (ex15.trans e7) hp13, by omega, by omega, hju, hjv, q'⟩)) (ea_cons (ev_var rfl) ea_nil)) sv_says))) (by simp)) fun H16 e16 => ?_
      have ex16 := ex15.trans e16
      refine s_ret (v := .bl true) (ev_is (ev_call (vs := [.bl (tlV ws rs), .bl (tlV ws rs)]) (ea_cons (ev_altR (ev_mth (gT _ _ ex16 rfl) (ex16 oT _ hoT13) (look_no (by decide +kernel)) (ea_cons (ev_var rfl) ea_nil) fun H7 e7 Q' q' _ => ⟨oT, lT, p, dx2, ws, rs, rfl, (ex16.trans e7) oT _ hoT13, sq_of ((ex16.trans e7) lT _ hlT13), ex_l (ex16.trans e7) hp13, by omega, hwa, by omega, fun t ht => (hro t ht).1, q'⟩)) (ea_cons (ev_call (vs := [.ref p, .ref a3]) (ea_cons (ev_var rfl) (ea_cons (ev_var rfl) ea_nil)) fun H7 e7 Q' q' _ => ⟨p, a3, ws, rs, rfl, sq_of ((ex16.trans e7) a3 _ h3'), ex_l (ex16.trans e7) hp13, by omega, hwa, by omega, fun t ht => (hro t ht).1, q'⟩) ea_nil)) sv_says) (by simp)) fun H17 e17 => ?_
      exact k H17 ((ex13.trans ex16).trans e17)
end
end Tr

set_option Elab.async false
set_option linter.all false
set_option maxRecDepth 100000
set_option maxHeartbeats 4000000
namespace Tr
open PySem PySem.Spec PyProof.Rows L2 Evl
open M3 (wat joinW pre)
abbrev s__law_texts_right : Stmt := topS 41
abbrev N__law_texts_right : List Str := ["_law_code_here", "_law_text_here", "_law_cell", "_law_answer", "_law_places", "_law_marks", "_law_handed", "_law_reading", "_law_stuck_here", "_law_some", "_law_mark"]
theorem sc__law_texts_right : FnScope N__law_texts_right ["_law_code_here", "_law_text_here", "_law_cell"] (defScope s__law_texts_right) := ⟨rfl, rfl, rfl, by decide +kernel, rfl, by decide +kernel, by decide +kernel⟩
local macro_rules | `(tactic| walk_at "sd") => `(tactic| first | assumption | rfl | omega | decide | (solve_by_elim) | (refine Nat.le_trans (m := 1000) (by solve_by_elim) (by decide)))
local macro_rules | `(tactic| walk_at "rv") => `(tactic| first
  | exact rv_add | exact rv_sub | exact rv_lt | exact rv_le | exact rv_gt | exact rv_ge | exact rv_eqI | exact rv_eqS | exact rv_eqB | exact rv_neI | exact rv_neS | exact rv_neB
  | exact rv_mod (by walk_at "sd") | exact rv_fdiv (by first | assumption | exact ⟨by omega, by omega⟩) | exact rv_addS (by walk_at "sd") | exact rv_isB | exact rv_notB | assumption)
local macro_rules | `(tactic| walk_at "ea") => `(tactic| first
  | exact ea_nil
  | (refine' ea_cons ?k1 ?k2; (case k1 => walk_at "ev"); (case k2 => walk_at "ea")))
local macro_rules | `(tactic| walk_at "eo") => `(tactic| first
  | exact eo_none
  | (refine' eo_some ?k1; (case k1 => walk_at "ev")))
local macro_rules | `(tactic| walk_at "et") => `(tactic| first
  | (refine' et_test ?k1; (case k1 => walk_at "ev"))
  | (refine' et_B ?k1; (case k1 => walk_at "ev"))
  | (refine' et_and ?k1 ?k2; (case k1 => walk_at "et"); (case k2 => (intro _; walk_at "et")))
  | (refine' et_or ?k1 ?k2; (case k1 => walk_at "et"); (case k2 => (intro _; walk_at "et")))
  | (refine' et_not ?k1; (case k1 => walk_at "et"))
  | assumption)
local macro_rules | `(tactic| walk_at "ev") => `(tactic| first
  | assumption
  | exact ev_cS
  | exact ev_c
  | exact ev_var rfl
  | (refine' ev_op ?k1 ?k2 ?k3; (case k1 => walk_at "ev"); (case k2 => walk_at "ev"); (case k3 => walk_at "rv"))
  | (refine' ev_un ?k1 ru_neg; (case k1 => walk_at "ev"))
  | (refine' ev_chain ?k1 ?k2 ?k3 ?k4 ?k5; (case k1 => walk_at "ev"); (case k2 => walk_at "ev"); (case k3 => walk_at "ev"); (case k4 => walk_at "rv"); (case k5 => (intro _; walk_at "rv")))
  | (refine' ev_slS ?k1 ?k2 ?k3 ?k4; (case k1 => walk_at "ev"); (case k2 => walk_at "eo"); (case k3 => walk_at "eo"); (case k4 => walk_at "sd"))
  | (refine' ev_lenS ?k1 ?k2; (case k1 => walk_at "ev"); (case k2 => walk_at "sd"))
  | (refine' ev_len' ?k1 ?k2; (case k1 => walk_at "ev"); (case k2 => walk_at "sd"))
  | (refine' ev_strip ?k1 ?k2 ?k3; (case k1 => walk_at "ev"); (case k2 => walk_at "ev"); (case k3 => walk_at "sd"))
  | (refine' ev_sum ?k1 ?k2; (case k1 => walk_at "ev"); (case k2 => walk_at "sd"))
  | (refine' ev_isi ?k1 ?k2 ?k3 ?k4; (case k1 => walk_at "ev"); (case k2 => walk_at "ev"); (case k3 => first | exact ty_int | exact ty_bl | exact ty_str | exact ty_list (by walk_at "sd")); (case k4 => first | exact kit_ty (r := true) (by decide +kernel) | exact kit_ty (r := false) (by decide +kernel)))
  | (refine' ev_andV ?k1 ?k2; (case k1 => walk_at "ev"); (case k2 => (intro _; walk_at "ev")))
  | (refine' ev_orV ?k1 ?k2; (case k1 => walk_at "ev"); (case k2 => (intro _; walk_at "ev")))
  | (refine' ev_notV ?k1; (case k1 => walk_at "ev"))
  | (refine' ev_call ?k1 ?k2; (case k1 => walk_at "ea"); (case k2 => walk_at "sv")))
local macro_rules | `(tactic| walk_at "el") => `(tactic| first
  | assumption
  | (refine' el_mapB ?k1 ?k2 ?k3 (fun _ => rfl) ?k5; (case k1 => walk_at "ev"); (case k2 => walk_at "sd"); (case k3 => walk_at "sd"); (case k5 => (intro _ _; walk_at "ev")))
  | (refine' el_mapI ?k1 ?k2 ?k3 (fun _ => rfl) ?k5; (case k1 => walk_at "ev"); (case k2 => walk_at "sd"); (case k3 => walk_at "sd"); (case k5 => (intro _ _; walk_at "ev")))
  | (refine' el_mapS ?k1 ?k2 ?k3 (fun _ => rfl) ?k5; (case k1 => walk_at "ev"); (case k2 => walk_at "sd"); (case k3 => walk_at "sd"); (case k5 => (intro _ _; walk_at "ev"))))
local macro_rules | `(tactic| walk_at "ev") => `(tactic| first
  | (refine' ev_all ?k1; (case k1 => walk_at "el"))
  | (refine' ev_any ?k1; (case k1 => walk_at "el"))
  | (refine' ev_sumN ?k1; (case k1 => walk_at "el"))
  | (refine' ev_join ?k1 ?k2 ?k3; (case k1 => exact ev_is ev_cS (congrArg tx codes_nil)); (case k2 => walk_at "el"); (case k3 => walk_at "sd")))

theorem join_bound2 {ws : List Wd} (h : ∀ a ∈ ws, a.length ≤ 64) {xs : List Int} (hx : xs.length ≤ 1500) (hr : inR ws.length xs = true) : (joinW ws (xs.map Int.toNat)).length ≤ 100000 := by
  have h1 := M1.join_le h _ (inR_nat hr).2
  rw [List.length_map] at h1
  omega
theorem due_rd (ws : List Wd) (us : List Int) (t : Wd) : decide (madeV ws us = tx t) = rdShows ws us t := by
  unfold madeV rdShows
  cases h : inR ws.length us with
  | true => rw [if_pos rfl, tx_eq]; rfl
  | false =>
    rw [if_neg (by decide)]
    unfold tx
    simp
theorem rv_eqMt {H : Hp} {ws : List Wd} {xs : List Int} {t : Wd} : RV rEq (madeV ws xs) (tx t) H (.bl (decide (madeV ws xs = tx t))) := fun H1 _ Q q => ⟨by
  unfold madeV tx
  split <;> rfl, q H1 (Ex.refl H1)⟩
structure RedK (K : PySem.W.Frag) (aRd aSt : Addr) : Prop where
  isR : ∀ b : Bool, PySem.W.kitOne K (.ref (if b then aRd else aSt)) (.ref aRd) = some b
  cl : ∀ b : Bool, ClsI K (if b then aRd else aSt)
  n1 : NoAttr K aRd "places"
  n2 : NoAttr K aSt "marks"
section
variable {P : Program} {w : World} {K : PySem.W.Frag} {mg : Str → Option Value} {base : Heap} {H : Hp}
theorem AnsAt.tyR {aRd aSt o l : Addr} {b : Bool} {ns : List Int} (h : AnsAt aRd aSt b H o l ns) (c : ClsI K (if b then aRd else aSt)) : ∀ H1, Ex H H1 → TyX K H1 (.ref o) (.ref (if b then aRd else aSt)) := by
  obtain ⟨⟨dx, h1⟩, h2⟩ := h
  exact ty_ins c h1
def spTextsRight (K : PySem.W.Frag) : Sp := fun vs H Q _ => ∃ (p : Addr) (c : Int) (ws : List Wd) (t : Wd), vs = [.ref p, tx t, .int c] ∧ SqL K H p (ws.map tx) ∧ WordsOk ws 64 ∧ t.length ≤ 1000 ∧ okW t ∧ ∀ H', Ex H H' → Q (.bl true) H'
theorem ok__law_texts_right {aRd aSt : Addr} (D : DefAt K mg "_law_texts_right" s__law_texts_right ["_law_code_here", "_law_text_here", "_law_cell"]) (T : Blt mg) (G_Reading : mg "Reading" = some (.ref aRd)) (RK : RedK K aRd aSt) (C_read : Cal P w K mg base 3 "read" (spRead K aRd aSt)) (C__law_bent : Cal P w K mg base 1 "_law_bent" (spBent K))
    (K_Reading : MkAt P w K mg base 1 "Reading" aRd (spIni1 K aRd "places")) (K_Stuck : MkAt P w K mg base 1 "Stuck" aSt (spIni1 K aSt "marks")) (C__law_made : Cal P w K mg base 1 "_law_made" (spMade K)) (C__law_says : Cal P w K mg base 1 "_law_says" spSays) (C__law_stuck : Cal P w K mg base 2 "_law_stuck" (spLawStuck K))
    (M_Reading_shows : MCal P w K mg base 2 aRd "shows" (spRdShows K aRd)) (M_Stuck_shows : MCal P w K mg base 2 aSt "shows" (spStShows K aSt)) : Cal P w K mg base 4 "_law_texts_right" (spTextsRight K) := by
  refine cal_of D sc__law_texts_right (fun vs H Q E h => ?_) (fun f cdv A outer s H vs Q E hr h => ?_)
  · obtain ⟨p, c, ws, t, rfl, _⟩ := h; rfl
  · obtain ⟨p, c, ws, t, rfl, hp, hwo, htl, hto, k⟩ := h
    refine ⟨_, (pss_cons (ps_set (i := 3) sc__law_texts_right.nd rfl (.inl rfl) (pe_c C_read hr (by decide) (by rfl) (pa_cons (pv 0) (pa_cons (pv 1) pa_nil))))
      (pss_cons (ps_set (i := 4) sc__law_texts_right.nd rfl (.inl rfl) (pe_lst (pa_cons (pe_op op_mod (pe_op op_fdiv (pv 2) pe_int) (pe_op op_add (pe_callB (call_len_seqK (K := K) rfl) (by rfl) T.len (by decide +kernel) (pa_cons (pv 0) pa_nil)) pe_int)) pa_nil)))
      (pss_cons (ps_setLc (i := 5) (own := [("_law_mark", 10)]) rfl sc__law_texts_right.nd rfl rfl (sw_true rfl rfl rfl (by decide +kernel)) (pi_range1 (by rfl) T.range (pa_cons (pe_callB call_len_str (by rfl) T.len (by decide +kernel) (pa_cons (pv 1) pa_nil)) pa_nil)) (blkOk_by (own := [("_law_mark", 10)]) (N := N__law_texts_right) (sc := defScope s__law_texts_right) (by decide +kernel)) (fun _ _ _ _ _ => (pg_name (i := 10) sc__law_texts_right.nd rfl (.inl rfl))) (fun _ _ _ _ _ => pts_nil) (fun _ _ _ _ _ => (pv 10)))
      (pss_cons (ps_if (pt_val (pe_callB (call_isiK' (K := K) rfl) (by rfl) T.isinstance (by decide +kernel) (pa_cons (pv 3) (pa_cons (pe_exc (mg := mg) rfl G_Reading (by rfl)) pa_nil)))) (pss_one (ps_set (i := 4) sc__law_texts_right.nd rfl (.inl rfl) (pe_c C__law_bent hr (by decide) (by rfl) (pa_cons (pe_fldK (K := K) rfl (pv 3)) (pa_cons (pe_op op_fdiv (pv 2) pe_int) (pa_cons (pe_op op_sub (pe_op op_mod (pe_op op_fdiv (pv 2) pe_int) (pe_op op_add (pe_callB (call_len_seqK (K := K) rfl) (by rfl) T.len (by decide +kernel) (pa_cons (pv 0) pa_nil)) pe_int)) pe_int) pa_nil)))))) (pss_one (ps_set (i := 5) sc__law_texts_right.nd rfl (.inl rfl) (pe_c C__law_bent hr (by decide) (by rfl) (pa_cons (pe_fldK (K := K) rfl (pv 3)) (pa_cons (pe_op op_fdiv (pv 2) pe_int) (pa_cons (pe_op op_sub (pe_op op_mod (pe_op op_fdiv (pv 2) pe_int) (pe_op op_add (pe_callB call_len_str (by rfl) T.len (by decide +kernel) (pa_cons (pv 1) pa_nil)) pe_int)) pe_int) pa_nil)))))))
      (pss_cons (ps_set (i := 6) sc__law_texts_right.nd rfl (.inl rfl) (pe_lst (pa_cons (pe_callTy (call_list_ofK (K := K) rfl) (by rfl) T.list (by decide +kernel) (pa_cons (pv 4) pa_nil)) (pa_cons (pe_callTy (call_list_ofK (K := K) rfl) (by rfl) T.list (by decide +kernel) (pa_cons (pv 5) pa_nil)) pa_nil))))
      (pss_cons (ps_set (i := 7) sc__law_texts_right.nd rfl (.inl rfl) (pe_mk K_Reading hr (by decide) (by rfl) (pa_cons (pe_ix (ix_listK (K := K) rfl) (pv 6) pe_int (fun _ _ => rfl)) pa_nil)))
      (pss_cons (ps_set (i := 8) sc__law_texts_right.nd rfl (.inl rfl) (pe_mk K_Stuck hr (by decide) (by rfl) (pa_cons (pe_ix (ix_listK (K := K) rfl) (pv 6) pe_int (fun _ _ => rfl)) pa_nil)))
      (pss_cons (ps_for PassesOwn.never rfl (pi_listK (K := K) rfl (pv 6)) (pg_name (i := 9) sc__law_texts_right.nd rfl (.inl rfl)) (pss_one (ps_expr (pe_bm PySem.F.plainAttrs_list PySem.F.slot_list_append PySem.F.type_list_append mt_append (pv 9) (pa_cons pe_int pa_nil)))))
      (pss_cons (ps_if (PW.pt (pw_or (pt_cmpR (op_neDK (K := K) rfl hr.units) (pe_fldK (K := K) rfl (pv 7)) (pv 4) (nomark _)) (pw_or1 (pt_cmpR (op_neDK (K := K) rfl hr.units) (pe_fldK (K := K) rfl (pv 8)) (pv 5) (nomark _))))) (pss_one (ps_ret pe_bl)) pss_nil)
      (pss_cons (ps_if (pt_not (pt_val (pe_c C__law_says hr (by decide) (by rfl) (pa_cons (pe_alt (pe_mth M_Reading_shows hr (by decide) (pv 7) (pa_cons (pv 0) (pa_cons (pv 1) pa_nil))) (pe_mth M_Stuck_shows hr (by decide) (pv 7) (pa_cons (pv 0) (pa_cons (pv 1) pa_nil)))) (pa_cons (pe_cmpR op_eq (pe_c C__law_made hr (by decide) (by rfl) (pa_cons (pv 0) (pa_cons (pv 4) pa_nil))) (pv 1) (nomark _)) pa_nil))))) (pss_one (ps_ret pe_bl)) pss_nil)
      (pss_one (ps_ret (pe_c C__law_says hr (by decide) (by rfl) (pa_cons (pe_alt (pe_mth M_Reading_shows hr (by decide) (pv 8) (pa_cons (pv 0) (pa_cons (pv 1) pa_nil))) (pe_mth M_Stuck_shows hr (by decide) (pv 8) (pa_cons (pv 0) (pa_cons (pv 1) pa_nil)))) (pa_cons (pe_c C__law_stuck hr (by decide) (by rfl) (pa_cons (pv 0) (pa_cons (pv 1) (pa_cons (pv 5) pa_nil)))) pa_nil))))))))))))))), ?_⟩
    have hwn := hwo.len
    have hwa : ∀ a ∈ ws, a.length ≤ 1000 := fun a ha => by have := (hwo.ok a ha).2.2; omega
    have hw64 : ∀ a ∈ ws, a.length ≤ 64 := fun a ha => (hwo.ok a ha).2.2
    have glen : ∀ (H' : Hp) (σ : L2.St), Ex H H' → σ[0]? = some (some (.ref p)) → Ev (tCB (rLenQ K) (tCons (tVar 0) tNil)) σ H' (.int (ws.length : Int)) := fun H' σ e h0 => by
      have := ev_len' (K := K) (ev_var (H := H') h0) (ex_l e hp)
      rwa [List.length_map] at this
    refine q_asgX (call_run (vs := [.ref p, tx t]) (by walk_at "ea") fun H0 e0 => ⟨p, ws, t, rfl, hwo.at (by decide) (ex_l e0 hp), by omega, hto, fun o l b ns H1 hb0 no nl hlo e1' hA hv hn => ?_⟩)
    have e1 := e0.trans e1'
    have hq3 := Int.emod_nonneg (c / 3) (show ((ws.length : Int) + 1) ≠ 0 by omega)
    generalize hx0 : c / 3 % ((ws.length : Int) + 1) = x0
    refine q_asgL (xs := [x0].map V.int) (el_lst (vs := [.int x0]) (ea_cons (ev_is (ev_op (ev_op (ev_var rfl) ev_c (rv_fdiv ⟨by decide, by decide⟩)) (ev_op (glen _ _ e1 rfl) ev_c rv_add) (rv_mod (by omega))) (congrArg V.int hx0)) ea_nil) (by simp)) fun a1 H2 na1 e2 h1 => ?_
    have gtl : ∀ (H' : Hp) (σ : L2.St), σ[1]? = some (some (tx t)) → Ev (tCB (fun xs H Q => ∃ x : Str, xs = [.str x] ∧ x.length ≤ sizeLine ∧ Q (.int x.length) H) (tCons (tVar 1) tNil)) σ H' (.int (t.length : Int)) := fun H' σ h1 => ev_lenS (ev_var h1) (by omega)
    refine q_asgL (xs := (rgI t.length).map V.int) (el_rangeI (gtl _ _ rfl) (by omega) (fun _ => rfl) fun _ _ => rfl) fun a2 H3 na2 e3 h2 => ?_
    have ex3 : Ex H1 H3 := e2.trans e3
    have exH3 := e1.trans ex3
    have hrl := rgI_len t.length
    refine q_ifCut (M := fun σ' H' => ∃ (a1 a2 : Addr) (us ms : List Int), Ex H H' ∧ σ' = [some (.ref p), some (tx t), some (.int c), some (.ref o), some (.ref a1), some (.ref a2), none, none, none, none, none] ∧ H' a1 = some (.lst (us.map V.int)) ∧ H' a2 = some (.lst (ms.map V.int)) ∧ us.length ≤ 1500 ∧ ms.length ≤ 6000) (b := b)
      (et_test (ev_isC (ev_var (i := 3) rfl) ev_c ((hA.ex ex3).tyR (RK.cl b)) (RK.isR b))) (fun σ' H5 hM => ?_) (fun kk hb H5 e5 => ?_) (fun kk hb H5 e5 => ?_)
    rotate_left
    · subst hb
      obtain ⟨⟨dx, ho⟩, hl⟩ := (hA.ex ex3).ex e5
      have e5' := exH3.trans e5
      have hnt : ns.length ≤ t.length := by
        have hv : rdShows ws ns t = true := hv
        unfold rdShows at hv
        rw [Bool.and_eq_true] at hv
        have h3 := M3.join_len ws (fun a ha => (hwo.ok a ha).1) _ (inR_nat hv.1).2
        rw [of_decide_eq_true hv.2, List.length_map] at h3
        exact h3
      have := bentV_len ns (c / 5) (c / 11 % ((ws.length : Int) + 2) - 1)
      refine s_asgL (xs := (bentV ns (c / 5) (c / 11 % ((ws.length : Int) + 2) - 1)).map V.int) (by
        have := el_call (E := E0) (σ := [some (.ref p), some (tx t), some (.int c), some (.ref o), some (.ref a1), some (.ref a2), none, none, none, none, none]) (H := H5) (ea_cons (ev_fld (ev_var (i := 3) rfl) ho (RK.cl true).cl RK.n1 (look1 _ _)) (ea_cons (ev_op (ev_var (i := 2) rfl) (ev_c (v := .int 5)) (rv_fdiv ⟨by decide, by decide⟩)) (ea_cons (ev_op (ev_op (ev_op (ev_var (i := 2) rfl) (ev_c (v := .int 11)) (rv_fdiv ⟨by decide, by decide⟩)) (ev_op (glen _ _ e5' rfl) (ev_c (v := .int 2)) rv_add) (rv_mod (by omega))) (ev_c (v := .int 1)) rv_sub) ea_nil))) (sl_bent (K := K) (c := c / 5) (m := .int (c / 11 % ((ws.length : Int) + 2) - 1)) (sq_of hl) (by rw [List.length_map]; omega))
        rw [bentV_map] at this
        exact this) fun b1 H6 nb1 e6 hb1 => ?_
      exact kk _ _ ⟨b1, a2, _, _, e5'.trans e6, rfl, hb1, (e5.trans e6) a2 _ h2, by omega, by omega⟩
    · subst hb
      obtain ⟨⟨dx, ho⟩, hl⟩ := (hA.ex ex3).ex e5
      have e5' := exH3.trans e5
      have := bentV_len ns (c / 5) (c / 11 % ((t.length : Int) + 3) - 1)
      refine s_asgL (xs := (bentV ns (c / 5) (c / 11 % ((t.length : Int) + 3) - 1)).map V.int) (by
        have := el_call (E := E0) (σ := [some (.ref p), some (tx t), some (.int c), some (.ref o), some (.ref a1), some (.ref a2), none, none, none, none, none]) (H := H5) (ea_cons (ev_fld (ev_var (i := 3) rfl) ho (RK.cl false).cl RK.n2 (look1 _ _)) (ea_cons (ev_op (ev_var (i := 2) rfl) (ev_c (v := .int 5)) (rv_fdiv ⟨by decide, by decide⟩)) (ea_cons (ev_op (ev_op (ev_op (ev_var (i := 2) rfl) (ev_c (v := .int 11)) (rv_fdiv ⟨by decide, by decide⟩)) (ev_op (gtl _ _ rfl) (ev_c (v := .int 3)) rv_add) (rv_mod (by omega))) (ev_c (v := .int 1)) rv_sub) ea_nil))) (sl_bent (K := K) (c := c / 5) (m := .int (c / 11 % ((t.length : Int) + 3) - 1)) (sq_of hl) (by rw [List.length_map]; omega))
        rw [bentV_map] at this
        exact this) fun b2 H6 nb2 e6 hb2 => ?_
      exact kk _ _ ⟨a1, b2, [x0], _, e5'.trans e6, rfl, ((e3.trans (e5.trans e6)) a1 _ h1), hb2, by simp, by omega⟩
    · obtain ⟨a1, a2, us, ms, ex, rfl, h1, h2, hul, hml⟩ := hM
      have hp5 := ex_l ex hp
      refine q_asgX (lst2_run ((ev_listOf (ev_var (i := 4) rfl) (sq_of h1)) _ (Ex.refl _) _ fun b1 H6 nb1 e6 g1 => (ev_listOf (ev_var (i := 5) rfl) (sq_of h2)) _ e6 _ fun b2 H7 nb2 e7 g2 => ⟨sz_of (by simp), fun hh nh => ?_⟩))
      have e9 : Ex H7 (upd H7 hh (.lst [.ref b1, .ref b2])) := Ex.new nh
      generalize hH9 : upd H7 hh (.lst [.ref b1, .ref b2]) = H9 at *
      have hh9 : H9 hh = some (.lst [.ref b1, .ref b2]) := by rw [← hH9]; exact upd_same
      have k1 := e7 b1 _ g1
      have m1 := e9 b1 _ k1
      have m2 := e9 b2 _ g2
      refine q_asgX ((eb_make (K := K) (C := aRd) (f := "places") (eqx_of (eq_at (ev_op (ev_var (i := 6) rfl) (ev_c (v := .int 0)) (rv_ixL (K := K) (sq_of hh9) (show atI [V.ref b1, .ref b2] 0 = some (.ref b1) from rfl))) (sq_of m1)))) H9 (Ex.refl _) _ fun oR dx lR H10 zs hzs noR nlR hlo1 e10 hoR hlR => ?_)
      subst hzs
      have hh10 := e10 hh _ hh9
      have q1 := e10 b1 _ m1
      have q2 := e10 b2 _ m2
      refine q_asgX ((eb_make (K := K) (C := aSt) (f := "marks") (eqx_of (eq_at (ev_op (ev_var (i := 6) rfl) (ev_c (v := .int 1)) (rv_ixL (K := K) (sq_of hh10) (show atI [V.ref b1, .ref b2] 1 = some (.ref b2) from rfl))) (sq_of q2)))) H10 (Ex.refl _) _ fun oS dx2 lS H12 zs hzs noS nlS hlo2 e12 hoS hlS => ?_)
      subst hzs
      have e912 : Ex H9 H12 := e10.trans e12
      have nin : ∀ (x : Addr) (G : Hp), G x = none → G b1 = some (.lst (us.map V.int)) → G b2 = some (.lst (ms.map V.int)) → x ∉ [b1, b2] := fun x G hx h1 h2 z => by
        simp only [List.mem_cons, List.not_mem_nil, or_false] at z
        rcases z with z | z
        · rw [z, h1] at hx; cases hx
        · rw [z, h2] at hx; cases hx
      have exK : Ex H5 (less H12 [b1, b2]) := less_keep (((e6.trans e7).trans e9).trans e912) fun x hx => by
        simp only [List.mem_cons, List.not_mem_nil, or_false] at hx
        rcases hx with hx | hx
        · rw [hx]; exact nb1
        · rw [hx]; exact fresh_back e6 nb2
      refine q_forApp (j := 9) (hh := hh) (hs := [b1, b2]) (K0 := less H12 [b1, b2]) (y := .int 0) (ev_var rfl) less_ex ?_ (by simp) (fun a ha => ?_) (show 9 < 11 by decide) (fun _ _ => ev_c) (fun s9 H13 e13 => ?_) ⟨none, rfl⟩
      · rw [less_at (nin hh H7 nh k1 g2)]
        exact e912 hh _ hh9
      · refine ⟨less_no ha, ?_⟩
        simp only [List.mem_cons, List.not_mem_nil, or_false] at ha
        rcases ha with ha | ha <;> subst ha
        · exact ⟨_, e912 _ _ m1, by rw [List.length_map]; omega⟩
        · exact ⟨_, e912 _ _ m2, by rw [List.length_map]; omega⟩
      have kp : ∀ (x : Addr) (u : HO), x ∉ [b1, b2] → H12 x = some u → H13 x = some u := fun x u hx hu => e13 x u (by rw [less_at hx]; exact hu)
      have hoR13 := kp oR _ (nin oR H9 noR m1 m2) (e12 oR _ hoR)
      have hlR13 := kp lR _ (nin lR H9 nlR m1 m2) (e12 lR _ hlR)
      have hoS13 := kp oS _ (nin oS H10 noS q1 q2) hoS
      have hlS13 := kp lS _ (nin lS H10 nlS q1 q2) hlS
      have exK13 : Ex H5 H13 := exK.trans e13
      have h1' := exK13 a1 _ h1
      have h2' := exK13 a2 _ h2
      have hp13 := ex_l exK13 hp5
      have ex13 : Ex H H13 := ex.trans exK13
      refine q_skip (et_is (et_or (et_B (ev_neQ enc_int (eq_at (ev_fld (ev_var (i := 7) rfl) hoR13 (RK.cl true).cl RK.n1 (look1 _ _)) (sq_of hlR13)) (eq_at (ev_var (i := 4) rfl) (sq_of h1')) (by simp) (by simp))) fun _ => et_B (ev_neQ enc_int (eq_at (ev_fld (ev_var (i := 8) rfl) hoS13 (RK.cl false).cl RK.n2 (look1 _ _)) (sq_of hlS13)) (eq_at (ev_var (i := 5) rfl) (sq_of h2')) (by simp) (by simp))) (by simp)) fun H14 e14 => ?_
      have hju := fun hr => join_bound2 hw64 hul (xs := us) hr
      refine q_skip (et_is (et_not (et_test (ev_call (vs := [.bl (rdShows ws us t), .bl (rdShows ws us t)]) (ea_cons (ev_altL (ev_mth (ev_var (i := 7) rfl) (e14 oR _ hoR13) (look_no (by decide +kernel)) (ea_cons (ev_var (i := 0) rfl) (ea_cons (ev_var (i := 1) rfl) ea_nil)) fun H7 e7 Q' q' _ => ⟨oR, lR, p, dx, ws, us, t, rfl, (e14.trans e7) oR _ hoR13, sq_of ((e14.trans e7) lR _ hlR13), ex_l (e14.trans e7) hp13, hwa, by omega, hju, q'⟩))
        (ea_cons (ev_is (ev_op (ev_call (vs := [.ref p, .ref a1]) (ea_cons (ev_var (i := 0) rfl) (ea_cons (ev_var (i := 4) rfl) ea_nil)) (sv_made (ex_l e14 hp13) (sq_of (e14 a1 _ h1')) (by omega) hju)) (ev_var (i := 1) rfl) rv_eqMt) (congrArg V.bl (due_rd ws us t))) ea_nil)) sv_says))) (by simp)) fun H16 e16 => ?_
      have ex16 := e14.trans e16
      refine s_ret (v := .bl true) (ev_is (ev_call (vs := [.bl (stShows ws ms t), .bl (stShows ws ms t)]) (ea_cons (ev_altR (ev_mth (ev_var (i := 8) rfl) (ex16 oS _ hoS13) (look_no (by decide +kernel)) (ea_cons (ev_var (i := 0) rfl) (ea_cons (ev_var (i := 1) rfl) ea_nil)) fun H7 e7 Q' q' _ => ⟨oS, lS, p, dx2, ws, ms, t, rfl, (ex16.trans e7) oS _ hoS13, sq_of ((ex16.trans e7) lS _ hlS13), ex_l (ex16.trans e7) hp13, hwa, by omega, q'⟩))
        (ea_cons (ev_call (vs := [.ref p, tx t, .ref a2]) (ea_cons (ev_var (i := 0) rfl) (ea_cons (ev_var (i := 1) rfl) (ea_cons (ev_var (i := 5) rfl) ea_nil))) (sv_law_stuck (ex_l ex16 hp13) (sq_of (ex16 a2 _ h2')) (by omega) hwa (by omega) (by omega))) ea_nil)) sv_says) (by simp)) fun H17 e17 => ?_
      exact k H17 ((ex13.trans ex16).trans e17)
end
end Tr

set_option Elab.async false
set_option linter.all false
set_option maxRecDepth 100000
set_option maxHeartbeats 4000000
namespace Tr
open PySem PySem.Spec PyProof.Rows L2 Evl
open M3 (wat joinW pre)
abbrev s__law_words_right : Stmt := topS 44
abbrev N__law_words_right : List Str := ["_law_code_here", "_law_cell", "_law_lengths", "_law_letters", "_law_words", "_law_due", "_law_handed", "_law_answer", "_law_left", "_law_full", "_law_length", "_law_word"]
theorem sc__law_words_right : FnScope N__law_words_right ["_law_code_here", "_law_cell"] (defScope s__law_words_right) := ⟨rfl, rfl, rfl, by decide +kernel, rfl, by decide +kernel, by decide +kernel⟩
local macro_rules | `(tactic| walk_at "sd") => `(tactic| first | assumption | rfl | omega | decide | (solve_by_elim) | (refine Nat.le_trans (m := 1000) (by solve_by_elim) (by decide)))
local macro_rules | `(tactic| walk_at "rv") => `(tactic| first
  | exact rv_add | exact rv_sub | exact rv_lt | exact rv_le | exact rv_gt | exact rv_ge | exact rv_eqI | exact rv_eqS | exact rv_eqB | exact rv_neI | exact rv_neS | exact rv_neB
  | exact rv_mod (by walk_at "sd") | exact rv_fdiv (by first | assumption | exact ⟨by omega, by omega⟩) | exact rv_addS (by walk_at "sd") | exact rv_isB | exact rv_notB | assumption)
local macro_rules | `(tactic| walk_at "ea") => `(tactic| first
  | exact ea_nil
  | (refine' ea_cons ?k1 ?k2; (case k1 => walk_at "ev"); (case k2 => walk_at "ea")))
local macro_rules | `(tactic| walk_at "eo") => `(tactic| first
  | exact eo_none
  | (refine' eo_some ?k1; (case k1 => walk_at "ev")))
local macro_rules | `(tactic| walk_at "et") => `(tactic| first
  | (refine' et_test ?k1; (case k1 => walk_at "ev"))
  | (refine' et_B ?k1; (case k1 => walk_at "ev"))
  | (refine' et_and ?k1 ?k2; (case k1 => walk_at "et"); (case k2 => (intro _; walk_at "et")))
  | (refine' et_or ?k1 ?k2; (case k1 => walk_at "et"); (case k2 => (intro _; walk_at "et")))
  | (refine' et_not ?k1; (case k1 => walk_at "et"))
  | assumption)
local macro_rules | `(tactic| walk_at "ev") => `(tactic| first
  | assumption
  | exact ev_cS
  | exact ev_c
  | exact ev_var rfl
  | (refine' ev_op ?k1 ?k2 ?k3; (case k1 => walk_at "ev"); (case k2 => walk_at "ev"); (case k3 => walk_at "rv"))
  | (refine' ev_un ?k1 ru_neg; (case k1 => walk_at "ev"))
  | (refine' ev_chain ?k1 ?k2 ?k3 ?k4 ?k5; (case k1 => walk_at "ev"); (case k2 => walk_at "ev"); (case k3 => walk_at "ev"); (case k4 => walk_at "rv"); (case k5 => (intro _; walk_at "rv")))
  | (refine' ev_slS ?k1 ?k2 ?k3 ?k4; (case k1 => walk_at "ev"); (case k2 => walk_at "eo"); (case k3 => walk_at "eo"); (case k4 => walk_at "sd"))
  | (refine' ev_lenS ?k1 ?k2; (case k1 => walk_at "ev"); (case k2 => walk_at "sd"))
  | (refine' ev_len' ?k1 ?k2; (case k1 => walk_at "ev"); (case k2 => walk_at "sd"))
  | (refine' ev_strip ?k1 ?k2 ?k3; (case k1 => walk_at "ev"); (case k2 => walk_at "ev"); (case k3 => walk_at "sd"))
  | (refine' ev_sum ?k1 ?k2; (case k1 => walk_at "ev"); (case k2 => walk_at "sd"))
  | (refine' ev_isi ?k1 ?k2 ?k3 ?k4; (case k1 => walk_at "ev"); (case k2 => walk_at "ev"); (case k3 => first | exact ty_int | exact ty_bl | exact ty_str | exact ty_list (by walk_at "sd")); (case k4 => first | exact kit_ty (r := true) (by decide +kernel) | exact kit_ty (r := false) (by decide +kernel)))
  | (refine' ev_andV ?k1 ?k2; (case k1 => walk_at "ev"); (case k2 => (intro _; walk_at "ev")))
  | (refine' ev_orV ?k1 ?k2; (case k1 => walk_at "ev"); (case k2 => (intro _; walk_at "ev")))
  | (refine' ev_notV ?k1; (case k1 => walk_at "ev"))
  | (refine' ev_call ?k1 ?k2; (case k1 => walk_at "ea"); (case k2 => walk_at "sv")))
local macro_rules | `(tactic| walk_at "el") => `(tactic| first
  | assumption
  | (refine' el_mapB ?k1 ?k2 ?k3 (fun _ => rfl) ?k5; (case k1 => walk_at "ev"); (case k2 => walk_at "sd"); (case k3 => walk_at "sd"); (case k5 => (intro _ _; walk_at "ev")))
  | (refine' el_mapI ?k1 ?k2 ?k3 (fun _ => rfl) ?k5; (case k1 => walk_at "ev"); (case k2 => walk_at "sd"); (case k3 => walk_at "sd"); (case k5 => (intro _ _; walk_at "ev")))
  | (refine' el_mapS ?k1 ?k2 ?k3 (fun _ => rfl) ?k5; (case k1 => walk_at "ev"); (case k2 => walk_at "sd"); (case k3 => walk_at "sd"); (case k5 => (intro _ _; walk_at "ev"))))
local macro_rules | `(tactic| walk_at "ev") => `(tactic| first
  | (refine' ev_all ?k1; (case k1 => walk_at "el"))
  | (refine' ev_any ?k1; (case k1 => walk_at "el"))
  | (refine' ev_sumN ?k1; (case k1 => walk_at "el"))
  | (refine' ev_join ?k1 ?k2 ?k3; (case k1 => exact ev_is ev_cS (congrArg tx codes_nil)); (case k2 => walk_at "el"); (case k3 => walk_at "sd")))

local macro_rules | `(tactic| walk_at "sv") => `(tactic| first | exact sv_stands (by walk_at "sd") (by walk_at "sd"))
section
variable {K : PySem.W.Frag} {σ : L2.St} {H H' : Hp} {ta tb te : TE} {t tr : TA} {x v : V} {C : Addr}
theorem el_callL {sp : Sp} {E : XK} {ys xs vs : List V} (h : EvL ta σ H ys) (hr : EvA tr σ H vs) (hs : ∀ p H1, Ex H H1 → H1 p = some (.lst ys) → SpL sp (.ref p :: vs) H1 xs) : EvL (tCall sp [] E (tCons ta tr)) σ H xs := fun H1 e Q q =>
  h H1 e _ fun p H2 _ e2 hp => hr H2 (e.trans e2) _ fun H3 e3 => by
    show sp ((V.ref p :: vs) ++ []) H3 Q E
    rw [List.append_nil]
    exact hs p H3 ((e.trans e2).trans e3) (e3 p _ hp) H3 (Ex.refl H3) Q (fun a H4 na e4 ha => q a H4 (fresh_back (e2.trans e3) na) ((e2.trans e3).trans e4) ha) E
theorem ev_mthMB {m : Str} {sp : Sp} {vs : List V} (h : EvP ta σ H (MB C)) (ha : EvA t σ H vs) (hs : ∀ o dx H1, Ex H H1 → H1 o = some (.ins C dx []) → SpV sp (.ref o :: vs) H1 v) : Ev (tMeth C m sp [] E0 ta t) σ H v := fun H1 e Q q =>
  h H1 e _ fun u H2 e2 ⟨o, dx, eu, ho⟩ => ⟨o, dx, [], eu, ho, rfl, ha H2 (e.trans e2) _ fun H3 e3 => by
    rw [List.append_nil, eu]
    exact hs o dx H3 ((e.trans e2).trans e3) (e3 o _ ho) H3 (Ex.refl H3) Q (fun H4 e4 => q H4 ((e2.trans e3).trans e4)) E0⟩
end
theorem abcd_take {k : Nat} (h : k ≤ 4) : (codes ("abcd" : Str)).take k = abc.take k := by
  have e : codes ("abcd" : Str) = abc.take 4 := by decide +kernel
  rw [e, List.take_take, Nat.min_eq_left h]
section
variable {P : Program} {w : World} {K : PySem.W.Frag} {mg : Str → Option Value} {base : Heap} {H : Hp}
def spWordsRight (K : PySem.W.Frag) : Sp := fun vs H Q _ => ∃ (p : Addr) (c : Int) (ws : List Wd), vs = [.ref p, .int c] ∧ SqL K H p (ws.map tx) ∧ WordsOk ws 64 ∧ ∀ H', Ex H H' → Q (.bl true) H'
theorem ok__law_words_right {aWo aFu : Addr} (D : DefAt K mg "_law_words_right" s__law_words_right ["_law_code_here", "_law_cell"]) (T : Blt mg) (L_Words : ClsI K aWo) (N_Words_words : NoAttr K aWo "words") (K_Full : Mk0At K mg "Full" aFu) (K_Words : MkAt P w K mg base 1 "Words" aWo (spIni1 K aWo "words")) (C__law_bent : Cal P w K mg base 1 "_law_bent" (spBent K))
    (C__law_beside : Cal P w K mg base 2 "_law_beside" (spBeside K)) (C__law_says : Cal P w K mg base 1 "_law_says" spSays) (M_Words_shows : MCal P w K mg base 2 aWo "shows" (spWordsShows K aWo)) (M_Full_shows : MCal P w K mg base 1 aFu "shows" (spFullShows K aFu)) : Cal P w K mg base 3 "_law_words_right" (spWordsRight K) := by
  refine cal_of D sc__law_words_right (fun vs H Q E h => ?_) (fun f cdv A outer s H vs Q E hr h => ?_)
  · obtain ⟨p, c, ws, rfl, _⟩ := h; rfl
  · obtain ⟨p, c, ws, rfl, hp, hwo, kk⟩ := h
    refine ⟨_, (pss_cons (ps_set (i := 2) sc__law_words_right.nd rfl (.inl rfl) (pe_c C__law_bent hr (by decide) (by rfl) (pa_cons (pe_lc (own := [("_law_word", 11)]) rfl sc__law_words_right.nd (pi_listK (K := K) rfl (pv 0)) (blkOk_by (own := [("_law_word", 11)]) (N := N__law_words_right) (sc := defScope s__law_words_right) (by decide +kernel)) (fun _ _ _ _ _ => (pg_name (i := 11) sc__law_words_right.nd rfl (.inl rfl))) (fun _ _ _ _ _ => pts_nil) (fun _ _ _ _ _ => (pe_callB call_len_str (by rfl) T.len (by decide +kernel) (pa_cons (pv 11) pa_nil)))) (pa_cons (pe_op op_fdiv (pv 1) pe_int) (pa_cons (pe_op op_add pe_int (pe_op op_mod (pe_op op_fdiv (pv 1) pe_int) pe_int)) pa_nil)))))
      (pss_cons (ps_set (i := 3) sc__law_words_right.nd rfl (.inr rfl) (pe_op op_add pe_int (pe_op op_mod (pv 1) pe_int)))
      (pss_cons (ps_set (i := 4) sc__law_words_right.nd rfl (.inl rfl) (pe_callB (cr_sortedSA (K := K) rfl) (by rfl) T.sorted (by decide +kernel) (pa_cons (pv 0) pa_nil)))
      (pss_cons (ps_set (i := 5) sc__law_words_right.nd rfl (.inl rfl) (pe_cmpR (op_eqDK (K := K) rfl hr.units) (pe_lc (own := [("_law_word", 11)]) rfl sc__law_words_right.nd (pi_listK (K := K) rfl (pv 0)) (blkOk_by (own := [("_law_word", 11)]) (N := N__law_words_right) (sc := defScope s__law_words_right) (by decide +kernel)) (fun _ _ _ _ _ => (pg_name (i := 11) sc__law_words_right.nd rfl (.inl rfl))) (fun _ _ _ _ _ => pts_nil) (fun _ _ _ _ _ => (pe_callB call_len_str (by rfl) T.len (by decide +kernel) (pa_cons (pv 11) pa_nil)))) (pv 2) (nomark _)))
      (pss_cons (ps_set (i := 5) sc__law_words_right.nd rfl (.inl rfl) (pe_and (pv 5) (pe_one (pe_callB (cr_allK (K := K) rfl rfl) (by rfl) T.all (by decide +kernel) (pa_cons (pe_lc (own := [("_law_word", 11)]) rfl sc__law_words_right.nd (pi_listK (K := K) rfl (pv 0)) (blkOk_by (own := [("_law_word", 11)]) (N := N__law_words_right) (sc := defScope s__law_words_right) (by decide +kernel)) (fun _ _ _ _ _ => (pg_name (i := 11) sc__law_words_right.nd rfl (.inl rfl))) (fun _ _ _ _ _ => pts_nil) (fun _ _ _ _ _ => (pe_cmpR op_eq (pe_m1 PySem.F.slot_str_strip PySem.F.type_str_strip mt_stripChars (pv 11) (pe_slice sl_str pe_str po_none (po_some (pv 3)))) pe_str (nomark _)))) pa_nil)))))
      (pss_cons (ps_set (i := 5) sc__law_words_right.nd rfl (.inl rfl) (pe_and (pv 5) (pe_one (pe_not (pe_c C__law_beside hr (by decide) (by rfl) (pa_cons (pv 4) pa_nil))))))
      (pss_cons (ps_set (i := 6) sc__law_words_right.nd rfl (.inl rfl) (pe_callTy (call_list_ofK (K := K) rfl) (by rfl) T.list (by decide +kernel) (pa_cons (pv 0) pa_nil)))
      (pss_cons (ps_set (i := 7) sc__law_words_right.nd rfl (.inl rfl) (pe_mk K_Words hr (by decide) (by rfl) (pa_cons (pv 6) pa_nil)))
      (pss_cons (ps_expr (pe_bm PySem.F.plainAttrs_list PySem.F.slot_list_append PySem.F.type_list_append mt_append (pv 6) (pa_cons pe_str pa_nil)))
      (pss_cons (ps_if (PW.pt (pw_or (pt_cmpR (op_neDK (K := K) rfl hr.units) (pe_fldK (K := K) rfl (pv 7)) (pv 0) (nomark _)) (pw_or1 (pt_not (pt_val (pe_c C__law_says hr (by decide) (by rfl) (pa_cons (pe_alt (pe_mth M_Words_shows hr (by decide) (pv 7) (pa_cons (pv 3) (pa_cons (pv 2) pa_nil))) (pe_mth M_Full_shows hr (by decide) (pv 7) (pa_cons (pv 3) (pa_cons (pv 2) pa_nil)))) (pa_cons (pv 5) pa_nil)))))))) (pss_one (ps_ret pe_bl)) pss_nil)
      (pss_cons (ps_set (i := 8) sc__law_words_right.nd rfl (.inl rfl) pe_int)
      (pss_cons (ps_set (i := 9) sc__law_words_right.nd rfl (.inl rfl) pe_bl)
      (pss_cons (ps_for PassesOwn.never rfl (pi_range2 (by rfl) T.range (pa_cons pe_int (pa_cons (pe_op op_add (pe_callBK (cr_maxD (K := K) rfl rfl (hu_of hr)) (by rfl) T.max (by decide +kernel) (pa_cons (pv 2) pa_nil) (pk_cons pe_int pk_nil)) pe_int) pa_nil))) (pg_name (i := 10) sc__law_words_right.nd rfl (.inl rfl)) (pss_cons (ps_set (i := 8) sc__law_words_right.nd rfl (.inl rfl) (pe_op op_sub (pe_op op_mul (pv 8) (pv 3)) (pe_bm PySem.F.plainAttrs_list PySem.F.slot_list_count PySem.F.type_list_count (mt_lcountK (K := K) rfl) (pv 2) (pa_cons (pv 10) pa_nil))))
      (pss_one (ps_set (i := 9) sc__law_words_right.nd rfl (.inl rfl) (pe_or (pv 9) (pe_one (pe_cmpR op_lt (pv 8) pe_int (nomark _))))))))
      (pss_one (ps_ret (pe_c C__law_says hr (by decide) (by rfl) (pa_cons (pe_mth M_Full_shows hr (by decide) (pe_mk0 K_Full (by rfl)) (pa_cons (pv 3) (pa_cons (pv 2) pa_nil))) (pa_cons (pv 9) pa_nil)))))))))))))))))), ?_⟩
    have hwn := hwo.len
    have hwa : ∀ a ∈ ws, a.length ≤ 1000 := fun a ha => by have := (hwo.ok a ha).2.2; omega
    have hq9 := Int.emod_nonneg (c / 7) (show (9 : Int) ≠ 0 by decide)
    have hq9' := Int.emod_lt_of_pos (c / 7) (show (0 : Int) < 9 by decide)
    have hq4 := Int.emod_nonneg c (show (4 : Int) ≠ 0 by decide)
    have hq4' := Int.emod_lt_of_pos c (show (0 : Int) < 4 by decide)
    obtain ⟨m, hm⟩ : ∃ m : Nat, 1 + c / 7 % 9 = (m : Int) := ⟨(1 + c / 7 % 9).toNat, by omega⟩
    obtain ⟨n, hn⟩ : ∃ n : Nat, 1 + c % 4 = (n : Int) := ⟨(1 + c % 4).toNat, by omega⟩
    have hn1 : 1 ≤ n := by omega
    have hn4 : n ≤ 4 := by omega
    have elen : (ws.map List.length).map nI = (ws.map fun a : Wd => (a.length : Int)).map V.int := by rw [List.map_map, List.map_map]; rfl
    refine q_asgL (xs := (bentV (ws.map List.length) (c / 3) m).map nI) (by
      have := el_callL (sp := spBent K) (E := E0) (σ := L2.start N__law_words_right [.ref p, .int c]) (H := H) (vs := [.int (c / 3), .int (m : Int)]) (el_mapI (φ := tx) (g := fun a : Wd => (a.length : Int)) (j := 11) (vs := [11]) (ev_var (i := 0) rfl) hp (by omega) (fun _ => rfl) fun a ha => ev_lenS (ev_var (i := 11) rfl) (by have := hwa a ha; omega)) (ea_cons (ev_op (ev_var (i := 1) rfl) (ev_c (v := .int 3)) (rv_fdiv ⟨by decide, by decide⟩)) (ea_cons (ev_is (ev_op (ev_c (v := .int 1)) (ev_op (ev_op (ev_var (i := 1) rfl) (ev_c (v := .int 7)) (rv_fdiv ⟨by decide, by decide⟩)) (ev_c (v := .int 9)) (rv_mod (by decide))) rv_add) (congrArg V.int hm)) ea_nil)) fun q H1 e1 hq => sl_bent (K := K) (c := c / 3) (m := nI m) (sq_of hq) (by rw [List.length_map, List.length_map]; omega)
      rw [← elen, bentV_map] at this
      exact this) fun pl H1 npl e1 hpl => ?_
    have hls : ∀ l ∈ bentV (ws.map List.length) (c / 3) m, l ≤ 1000 := fun l hl => by
      rcases bentV_mem hl with h | h
      · obtain ⟨a, ha, rfl⟩ := List.mem_map.mp h
        exact hwa a ha
      · omega
    generalize bentV (ws.map List.length) (c / 3) m = ls at *
    refine q_asg (v := .int (n : Int)) (ev_is (ev_op ev_c (ev_op (ev_var rfl) ev_c (rv_mod (by decide))) rv_add) (congrArg V.int hn)) fun H2 e2 => ?_
    have ex2 := e1.trans e2
    refine q_asgXs (ex_sorted (ev_var rfl) (ex_l ex2 hp)) fun pw H3 vs0 npw e3 hpw hss => ?_
    obtain ⟨ss, hss, rfl⟩ := hss
    have hse := sort_uniq hss (sortW_of ws)
    subst hse
    have hln := sortW_len ws
    have hsm : ∀ a ∈ sortW ws, a.length ≤ 1000 := fun a ha => hwa a ((sortW_of ws).perm.mem_iff.mp ha)
    have ex3 := ex2.trans e3
    have hpl3 := (e2.trans e3) pl _ hpl
    refine q_asg (v := .bl (decide (ws.map List.length = ls))) (ev_is (ev_eqQ (xs := List.map (fun n : Nat => (n : Int)) (ws.map List.length)) (ys := List.map (fun n : Nat => (n : Int)) ls) enc_int (eq_new (by
        have e : List.map (fun n : Nat => (n : Int)) (ws.map List.length) = ws.map fun a => (a.length : Int) := by rw [List.map_map]; rfl
        rw [e]
        exact el_mapI (φ := tx) (g := fun a : Wd => (a.length : Int)) (ev_var rfl) (ex_l ex3 hp) (by omega) (fun _ => rfl) fun a ha => ev_lenS (ev_var rfl) (by have := hwa a ha; omega))) (eq_at (ev_var rfl) (by rw [← map_nI]; exact sq_of hpl3)) (by simp) (by simp)) (congrArg V.bl (cast_eq _ _))) fun H4 e4 => ?_
    have ex4 := ex3.trans e4
    refine q_asg (v := .bl (decide (ws.map List.length = ls) && ws.all (letK n))) (ev_andV (ev_var rfl) fun _ => ev_is (ev_all (el_mapB (φ := tx) (g := letK n) (ev_var rfl) (ex_l ex4 hp) (by omega) (fun _ => rfl) fun a ha => ?_)) (congrArg V.bl (by rw [List.all_map]; rfl))) fun H5 e5 => ?_
    · have hal := hwa a ha
      refine ev_is (ev_op (ev_strip (b := abc.take n) (ev_var rfl) (ev_is (ev_slS (a := codes ("abcd" : Str)) ev_cS eo_none (eo_some (ev_var rfl)) (by decide +kernel)) (congrArg tx (by rw [cut_to, abcd_take hn4]))) (by omega)) ev_cS rv_eqS) ?_
      rw [strip_K]
    have ex5 := ex4.trans e5
    have hpw5 := (e4.trans e5) pw _ hpw
    refine q_asg (v := .bl (wordsV n ls ws)) (ev_andV (ev_var rfl) fun _ => ev_notV (ev_call (vs := [.ref pw]) (ea_cons (ev_var rfl) ea_nil) (sv_beside (sq_of hpw5) (by omega) hsm))) fun H6 e6 => ?_
    have ex6 := ex5.trans e6
    refine q_asgL (xs := ws.map tx) (ev_listOf (ev_var rfl) (ex_l ex6 hp)) fun hd H7 nhd e7 hhd => ?_
    refine q_asgX ((eb_make (K := K) (C := aWo) (f := "words") (eqx_of (eq_at (ev_var (i := 6) rfl) (sq_of hhd)))) H7 (Ex.refl _) _ fun o dx l H8 zs hzs no nl hlo e8 ho hl => ?_)
    subst hzs
    have hhd8 := e8 hd _ hhd
    refine q_app (l := hd) (xs := ws.map tx) (v := tx (codes "a")) hhd8 (ev_var rfl) ev_cS (by rw [List.length_map]; omega) fun H9 e9 => ?_
    have ex8 : Ex H H8 := (ex6.trans e7).trans e8
    have nhd6 : H6 hd = none := nhd
    have exM : Ex H6 (upd H9 hd (.lst (ws.map tx ++ [tx (codes "a")]))) := Ex.mut ((e7.trans e8).trans e9) nhd6
    have ohd : o ≠ hd := fun z => by rw [z, hhd] at no; cases no
    have lhd : l ≠ hd := fun z => by rw [z, hhd] at nl; cases nl
    generalize hHM : upd H9 hd (.lst (ws.map tx ++ [tx (codes "a")])) = HM at *
    have hoM : HM o = some (.ins aWo dx [("words", .ref l)]) := by rw [← hHM, upd_ne ohd]; exact e9 o _ ho
    have hlM : HM l = some (.lst (ws.map tx)) := by rw [← hHM, upd_ne lhd]; exact e9 l _ hl
    have exHM : Ex H HM := ex6.trans exM
    have hpM := ex_l exHM hp
    have hplM := (((e4.trans e5).trans e6).trans exM) pl _ hpl3
    have hokC : ∀ a ∈ ws, okC a := fun a ha => okC_of (hwo.ok a ha).2.1
    refine q_skip (et_is (et_or (et_B (ev_neQ enc_tx (eq_at (ev_fld (ev_var (i := 7) rfl) hoM L_Words.cl N_Words_words (look1 _ _)) (sq_of hlM)) (eq_at (ev_var (i := 0) rfl) hpM) hokC hokC)) fun _ => et_not (et_test (ev_call (vs := [.bl (wordsV n ls ws), .bl (wordsV n ls ws)]) (ea_cons (ev_altL (ev_mth (ev_var (i := 7) rfl) hoM (look_no (by decide +kernel)) (ea_cons (ev_var (i := 3) rfl) (ea_cons (ev_var (i := 2) rfl) ea_nil)) fun Ha ea Q' q' _ => ⟨o, l, pl, dx, n, ws, ls, rfl, ea o _ hoM, sq_of (ea l _ hlM), sq_of (ea pl _ hplM), by omega, hwa, q'⟩)) (ea_cons (ev_var rfl) ea_nil)) sv_says))) (by simp)) fun H10 e10 => ?_
    have hpl10 := e10 pl _ hplM
    have hL : maxN ls ≤ 1000 := maxN_le hls
    refine q_asg (v := .int (M5.left n ls 0)) ev_c fun H11 e11 => q_asg (v := .bl ((List.range 0).any fun j => decide (M5.left n ls (j + 1) < 0))) ev_c fun H12 e12 => ?_
    have e1012 := e11.trans e12
    have hpl12 := e1012 pl _ hpl10
    refine q_forR2 (lo := 1) (n := ((maxN ls : Nat) : Int) + 1) (ea_cons ev_c (ea_cons (ev_op (ev_maxD (ns := ls) (ev_var rfl) (sq_of hpl12) ev_c) ev_c rv_add) ea_nil)) ⟨by omega, by omega, by omega, by omega⟩
      (fun i σ' H' => ∃ s10, Ex H12 H' ∧ σ' = [some (.ref p), some (.int c), some (.ref pl), some (.int (n : Int)), some (.ref pw), some (.bl (wordsV n ls ws)), some (.ref hd), some (.ref o), some (.int (M5.left n ls i)), some (.bl ((List.range i).any fun j => decide (M5.left n ls (j + 1) < 0))), s10, none]) (fun H2 e2 => ⟨_, e2, rfl⟩) (fun i σ' H' hi hP => ?_) (fun σ' H' hP => ?_)
    · obtain ⟨s10, ex, rfl⟩ := hP
      have e1i : (1 : Int) + (i : Int) = ((i + 1 : Nat) : Int) := by omega
      rw [e1i]
      have hq' := sq_of (K := K) (ex pl _ hpl12)
      rw [map_nI] at hq'
      refine q_asg (v := .int (M5.left n ls (i + 1))) (ev_is (ev_op (ev_op (ev_var rfl) (ev_var rfl) (rv_mul (.inr ⟨by omega, by omega⟩))) (ev_count (ev_var rfl) hq' (ev_var rfl)) rv_sub) (congrArg V.int (by rw [count_cast]; rfl))) fun H3 e3 => ?_
      exact s_asg (v := .bl ((List.range (i + 1)).any fun j => decide (M5.left n ls (j + 1) < 0))) (ev_is (ev_orV (ev_var rfl) fun _ => ev_op (ev_var rfl) ev_c rv_lt) (congrArg V.bl (by rw [List.range_succ, List.any_append]; simp))) fun H4 e4 => ⟨_, (ex.trans e3).trans e4, rfl⟩
    · obtain ⟨s10, ex, rfl⟩ := hP
      have e0 : (((maxN ls : Nat) : Int) + 1 - 1).toNat = maxN ls := by omega
      rw [e0]
      refine s_ret (v := .bl true) (ev_is (ev_call (vs := [.bl (M5.fullV n ls (maxN ls)), .bl (M5.fullV n ls (maxN ls))]) (ea_cons (ev_mthMB ep_mk0 (ea_cons (ev_var (i := 3) rfl) (ea_cons (ev_var (i := 2) rfl) ea_nil)) fun o dx H1 ee ho Ha ea Q' q' _ => ⟨o, pl, n, ls, rfl, sq_of ((ee.trans ea) pl _ (ex pl _ hpl12)), hn1, by omega, hls, q'⟩) (ea_cons (ev_var (i := 9) rfl) ea_nil)) sv_says) (by simp)) fun H5 e5 => ?_
      exact kk H5 ((((exHM.trans e10).trans e1012).trans ex).trans e5)
end
end Tr

set_option Elab.async false
set_option linter.all false
set_option maxRecDepth 100000
set_option maxHeartbeats 4000000
namespace Tr
open PySem PySem.Spec PyProof.Rows L2 Evl LamX NdefX
open M3 (wat joinW pre)
abbrev s__law_begins_right : Stmt := topS 43
abbrev N__law_begins_right : List Str := ["_law_code_here", "_law_cell", "_law_one", "_law_other", "_law_due", "_law_answer", "_law_words", "_law_order", "_law_handed", "_law_apart", "_law_place"]
theorem sc__law_begins_right : FnScope N__law_begins_right ["_law_code_here", "_law_cell"] (defScope s__law_begins_right) := ⟨rfl, rfl, rfl, by decide +kernel, rfl, by decide +kernel, by decide +kernel⟩
local macro_rules | `(tactic| walk_at "sd") => `(tactic| first | assumption | rfl | omega | decide | (solve_by_elim) | (refine Nat.le_trans (m := 1000) (by solve_by_elim) (by decide)))
local macro_rules | `(tactic| walk_at "rv") => `(tactic| first
  | exact rv_add | exact rv_sub | exact rv_lt | exact rv_le | exact rv_gt | exact rv_ge | exact rv_eqI | exact rv_eqS | exact rv_eqB | exact rv_neI | exact rv_neS | exact rv_neB
  | exact rv_mod (by walk_at "sd") | exact rv_fdiv (by first | assumption | exact ⟨by omega, by omega⟩) | exact rv_addS (by walk_at "sd") | exact rv_isB | exact rv_notB | assumption)
local macro_rules | `(tactic| walk_at "ea") => `(tactic| first
  | exact ea_nil
  | (refine' ea_cons ?k1 ?k2; (case k1 => walk_at "ev"); (case k2 => walk_at "ea")))
local macro_rules | `(tactic| walk_at "eo") => `(tactic| first
  | exact eo_none
  | (refine' eo_some ?k1; (case k1 => walk_at "ev")))
local macro_rules | `(tactic| walk_at "et") => `(tactic| first
  | (refine' et_test ?k1; (case k1 => walk_at "ev"))
  | (refine' et_B ?k1; (case k1 => walk_at "ev"))
  | (refine' et_and ?k1 ?k2; (case k1 => walk_at "et"); (case k2 => (intro _; walk_at "et")))
  | (refine' et_or ?k1 ?k2; (case k1 => walk_at "et"); (case k2 => (intro _; walk_at "et")))
  | (refine' et_not ?k1; (case k1 => walk_at "et"))
  | assumption)
local macro_rules | `(tactic| walk_at "ev") => `(tactic| first
  | assumption
  | exact ev_cS
  | exact ev_c
  | exact ev_var rfl
  | (refine' ev_op ?k1 ?k2 ?k3; (case k1 => walk_at "ev"); (case k2 => walk_at "ev"); (case k3 => walk_at "rv"))
  | (refine' ev_un ?k1 ru_neg; (case k1 => walk_at "ev"))
  | (refine' ev_chain ?k1 ?k2 ?k3 ?k4 ?k5; (case k1 => walk_at "ev"); (case k2 => walk_at "ev"); (case k3 => walk_at "ev"); (case k4 => walk_at "rv"); (case k5 => (intro _; walk_at "rv")))
  | (refine' ev_slS ?k1 ?k2 ?k3 ?k4; (case k1 => walk_at "ev"); (case k2 => walk_at "eo"); (case k3 => walk_at "eo"); (case k4 => walk_at "sd"))
  | (refine' ev_lenS ?k1 ?k2; (case k1 => walk_at "ev"); (case k2 => walk_at "sd"))
  | (refine' ev_len' ?k1 ?k2; (case k1 => walk_at "ev"); (case k2 => walk_at "sd"))
  | (refine' ev_strip ?k1 ?k2 ?k3; (case k1 => walk_at "ev"); (case k2 => walk_at "ev"); (case k3 => walk_at "sd"))
  | (refine' ev_sum ?k1 ?k2; (case k1 => walk_at "ev"); (case k2 => walk_at "sd"))
  | (refine' ev_isi ?k1 ?k2 ?k3 ?k4; (case k1 => walk_at "ev"); (case k2 => walk_at "ev"); (case k3 => first | exact ty_int | exact ty_bl | exact ty_str | exact ty_list (by walk_at "sd")); (case k4 => first | exact kit_ty (r := true) (by decide +kernel) | exact kit_ty (r := false) (by decide +kernel)))
  | (refine' ev_andV ?k1 ?k2; (case k1 => walk_at "ev"); (case k2 => (intro _; walk_at "ev")))
  | (refine' ev_orV ?k1 ?k2; (case k1 => walk_at "ev"); (case k2 => (intro _; walk_at "ev")))
  | (refine' ev_notV ?k1; (case k1 => walk_at "ev"))
  | (refine' ev_call ?k1 ?k2; (case k1 => walk_at "ea"); (case k2 => walk_at "sv")))
local macro_rules | `(tactic| walk_at "el") => `(tactic| first
  | assumption
  | (refine' el_mapB ?k1 ?k2 ?k3 (fun _ => rfl) ?k5; (case k1 => walk_at "ev"); (case k2 => walk_at "sd"); (case k3 => walk_at "sd"); (case k5 => (intro _ _; walk_at "ev")))
  | (refine' el_mapI ?k1 ?k2 ?k3 (fun _ => rfl) ?k5; (case k1 => walk_at "ev"); (case k2 => walk_at "sd"); (case k3 => walk_at "sd"); (case k5 => (intro _ _; walk_at "ev")))
  | (refine' el_mapS ?k1 ?k2 ?k3 (fun _ => rfl) ?k5; (case k1 => walk_at "ev"); (case k2 => walk_at "sd"); (case k3 => walk_at "sd"); (case k5 => (intro _ _; walk_at "ev"))))
local macro_rules | `(tactic| walk_at "ev") => `(tactic| first
  | (refine' ev_all ?k1; (case k1 => walk_at "el"))
  | (refine' ev_any ?k1; (case k1 => walk_at "el"))
  | (refine' ev_sumN ?k1; (case k1 => walk_at "el"))
  | (refine' ev_join ?k1 ?k2 ?k3; (case k1 => exact ev_is ev_cS (congrArg tx codes_nil)); (case k2 => walk_at "el"); (case k3 => walk_at "sd")))

/-! ### sorted by neighbours -/
theorem rises_adj : ∀ us : List Wd, (∀ i, i < us.length - 1 → ¬ us.getD (i + 1) [] < us.getD i []) → Rises us
  | [], _ => List.Pairwise.nil
  | [x], _ => List.pairwise_singleton _ _
  | x :: y :: r, h => by
    have h0 : ¬ y < x := h 0 (by simp)
    have ih := rises_adj (y :: r) fun i hi => h (i + 1) (by simp at hi ⊢; omega)
    refine List.pairwise_cons.mpr ⟨fun z hz => ?_, ih⟩
    rcases List.mem_cons.mp hz with rfl | hz
    · exact h0
    · have h1 := (List.pairwise_cons.mp ih).1 z hz
      exact List.not_lt.mpr (List.le_trans (List.not_lt.mp h0) (List.not_lt.mp h1))
theorem wrong_or (us : List Wd) : wrong us = (((List.range (us.length - 1)).any fun i => decide (us.getD (i + 1) [] < us.getD i [])) || M5.adj us) := by
  apply Bool.eq_iff_iff.mpr
  unfold wrong badAt M5.adj
  rw [Bool.or_eq_true, List.any_eq_true, List.any_eq_true, List.any_eq_true]
  constructor
  · rintro ⟨i, hi, h⟩
    rcases Bool.or_eq_true_iff.mp h with h | h
    · exact .inl ⟨i, hi, h⟩
    · exact .inr ⟨i, hi, h⟩
  · rintro (⟨i, hi, h⟩ | ⟨i, hi, h⟩)
    · exact ⟨i, hi, Bool.or_eq_true_iff.mpr (.inl h)⟩
    · exact ⟨i, hi, Bool.or_eq_true_iff.mpr (.inr h)⟩
theorem rises_no {us : List Wd} (h : Rises us) : ((List.range (us.length - 1)).any fun i => decide (us.getD (i + 1) [] < us.getD i [])) = false := by
  rw [List.any_eq_false]
  intro i hi
  have := List.mem_range.mp hi
  have h1 : i < us.length := by omega
  have h2 : i + 1 < us.length := by omega
  have e1 : us.getD i [] = us[i] := by simp [List.getD, h1]
  have e2 : us.getD (i + 1) [] = us[i + 1] := by simp [List.getD, h2]
  rw [e1, e2, decide_eq_false (List.pairwise_iff_getElem.mp h i (i + 1) h1 h2 (by omega))]
  simp
theorem rg_words (ws : List Wd) : (rgI ws.length).map (wAt ws) = ws := by
  unfold rgI
  rw [List.map_map]
  apply List.ext_getElem
  · simp
  · intro i h1 h2
    simp [wAt, List.getD, h2]
theorem due_ap (ws : List Wd) (us : List Int) : ((decide (sortI us = rgI ws.length) && decide (us.map (wAt ws) = sortW ws)) && !M5.adj (sortW ws)) = apV ws us := by
  unfold apV
  cases hd : decide (sortI us = rgI ws.length) with
  | false => rfl
  | true =>
    have hperm := sortI_rg.mp (of_decide_eq_true hd)
    have hp2 : (us.map (wAt ws)).Perm ws := by
      have := hperm.map (wAt ws)
      rwa [rg_words] at this
    rw [Bool.true_and, Bool.true_and]
    by_cases he : us.map (wAt ws) = sortW ws
    · rw [decide_eq_true he, he, wrong_or, rises_no (sortW_of ws).rises]
      simp
    · rw [decide_eq_false he, Bool.false_and]
      have hw : wrong (us.map (wAt ws)) = true := by
        rw [wrong_or]
        cases ha : ((List.range ((us.map (wAt ws)).length - 1)).any fun i => decide ((us.map (wAt ws)).getD (i + 1) [] < (us.map (wAt ws)).getD i [])) with
        | true => rfl
        | false =>
          exfalso
          refine he (sort_uniq (ws := ws) ⟨hp2, rises_adj _ fun i hi hlt => ?_⟩ (sortW_of ws))
          have := List.any_eq_false.mp ha i (List.mem_range.mpr hi)
          rw [decide_eq_true hlt] at this
          exact this rfl
      rw [hw]; rfl
theorem inR_mm {n : Nat} {i j : Int} : (decide (0 ≤ (if j < i then j else i)) && decide ((if j > i then j else i) < (n : Int))) = inR n [i, j] := by
  apply Bool.eq_iff_iff.mpr
  rw [inR2, Bool.and_eq_true, decide_eq_true_eq, decide_eq_true_eq]
  constructor
  · rintro ⟨h1, h2⟩
    split at h1 <;> split at h2 <;> omega
  · rintro ⟨h1, h2⟩
    constructor <;> split <;> omega
section
variable {P : Program} {w : World} {K : PySem.W.Frag} {mg : Str → Option Value} {base : Heap} {H : Hp}
abbrev TL (P_ : Addr) (x : Str) (st : Stmt) : List (Addr × Str) := [(P_, lamQ x st)]
def spBeginsRight (K : PySem.W.Frag) (T : List (Addr × Str)) : Sp := fun vs H Q _ => ∃ (p : Addr) (c : Int) (ws : List Wd), vs = [.ref p, .int c] ∧ SqL K H p (ws.map tx) ∧ WordsOk ws 64 ∧ Tabs T H ∧ ∀ H', Gro T H H' → Q (.bl true) H'
theorem ok__law_begins_right {aBe aAp c_ P_ : Addr} (D : DefAtC K mg "_law_begins_right" s__law_begins_right ["_law_code_here", "_law_cell"] c_) (TB : TabB base mg c_ P_) (T : Blt mg) (L_Begins : ClsI K aBe) (L_Apart : ClsI K aAp) (N_Begins_one : NoAttr K aBe "one") (N_Begins_other : NoAttr K aBe "other") (N_Apart_order : NoAttr K aAp "order")
    (K_Begins : MkAt P w K mg base 1 "Begins" aBe (spIniV2 aBe "one" "other")) (K_Apart : MkAt P w K mg base 1 "Apart" aAp (spIni1 K aAp "order")) (C__law_stands : Cal P w K mg base 1 "_law_stands" spStands) (C__law_bent : Cal P w K mg base 1 "_law_bent" (spBent K)) (C__law_beside : Cal P w K mg base 2 "_law_beside" (spBeside K)) (C__law_says : Cal P w K mg base 1 "_law_says" spSays)
    (M_Begins_shows : MCal P w K mg base 2 aBe "shows" (spBgShows K aBe)) (M_Apart_shows : MCal P w K mg base 2 aAp "shows" (spApShows K aAp)) : Cal P w K mg base 4 "_law_begins_right" (spBeginsRight K (TL P_ "_law_begins_right" s__law_begins_right)) := by
  refine calC_of D sc__law_begins_right (fun vs H Q E h => ?_) (fun f A outer s H vs Q E hr h => ?_)
  · obtain ⟨p, c, ws, rfl, _⟩ := h; rfl
  · obtain ⟨p, c, ws, rfl, hp, hwo, hT, kk⟩ := h
    refine ⟨_, (pss_cons (ps_set (i := 2) sc__law_begins_right.nd rfl (.inl rfl) (pe_op op_sub (pe_op op_mod (pe_op op_fdiv (pv 1) pe_int) (pe_op op_add (pe_callB (call_len_seqK (K := K) rfl) (by rfl) T.len (by decide +kernel) (pa_cons (pv 0) pa_nil)) pe_int)) pe_int))
      (pss_cons (ps_set (i := 3) sc__law_begins_right.nd rfl (.inl rfl) (pe_op op_sub (pe_op op_mod (pe_op op_fdiv (pv 1) pe_int) (pe_op op_add (pe_callB (call_len_seqK (K := K) rfl) (by rfl) T.len (by decide +kernel) (pa_cons (pv 0) pa_nil)) pe_int)) pe_int))
      (pss_cons (ps_set (i := 4) sc__law_begins_right.nd rfl (.inl rfl) (pe_and (pe_cmpR op_ne (pv 2) (pv 3) (nomark _)) (pe_and (pe_cmpR op_ge (pe_callB (call_min2 rfl) (by rfl) T.min (by decide +kernel) (pa_cons (pv 2) (pa_cons (pv 3) pa_nil))) pe_int (nomark _)) (pe_one (pe_cmpR op_lt (pe_callB (call_max2 rfl) (by rfl) T.max (by decide +kernel) (pa_cons (pv 2) (pa_cons (pv 3) pa_nil))) (pe_callB (call_len_seqK (K := K) rfl) (by rfl) T.len (by decide +kernel) (pa_cons (pv 0) pa_nil)) (nomark _))))))
      (pss_cons (ps_set (i := 4) sc__law_begins_right.nd rfl (.inl rfl) (pe_and (pv 4) (pe_one (pe_c C__law_stands hr (by decide) (by rfl) (pa_cons (pe_ix (ix_listK (K := K) rfl) (pv 0) (pv 2) (fun _ _ => rfl)) (pa_cons (pe_ix (ix_listK (K := K) rfl) (pv 0) (pv 3) (fun _ _ => rfl)) (pa_cons pe_int pa_nil)))))))
      (pss_cons (ps_set (i := 5) sc__law_begins_right.nd rfl (.inl rfl) (pe_mk K_Begins hr (by decide) (by rfl) (pa_cons (pv 2) (pa_cons (pv 3) pa_nil))))
      (pss_cons (ps_if (PW.pt (pw_or (pt_cmpR (op_neDK (K := K) rfl hr.units) (pe_tup (pa_cons (pe_fldK (K := K) rfl (pv 5)) (pa_cons (pe_fldK (K := K) rfl (pv 5)) pa_nil))) (pe_tup (pa_cons (pv 2) (pa_cons (pv 3) pa_nil))) (nomark _)) (pw_or1 (pt_not (pt_val (pe_c C__law_says hr (by decide) (by rfl) (pa_cons (pe_alt (pe_mth M_Begins_shows hr (by decide) (pv 5) (pa_cons (pv 0) pa_nil)) (pe_mth M_Apart_shows hr (by decide) (pv 5) (pa_cons (pv 0) pa_nil))) (pa_cons (pv 4) pa_nil)))))))) (pss_one (ps_ret pe_bl)) pss_nil)
      (pss_cons (ps_set (i := 6) sc__law_begins_right.nd rfl (.inl rfl) (pe_callB (cr_sortedSA (K := K) rfl) (by rfl) T.sorted (by decide +kernel) (pa_cons (pv 0) pa_nil)))
      (pss_cons (ps_set (i := 7) sc__law_begins_right.nd rfl (.inl rfl) (pe_sortLam (K := K) (k := 0) (js := [0]) (T := [(P_, lamQ "_law_begins_right" s__law_begins_right)]) rfl rfl (by rfl) T.sorted (lamOk_mk (N := ["_law_place", "_law_code_here"]) (ps := ["_law_place"]) (fr := ["_law_code_here"]) (by decide +kernel) (fun _ _ _ _ _ us hl => by match us, hl with | [_], _ => rfl) (fun _ _ _ _ _ _ _ _ => (pe_ix (ix_listK (K := K) rfl) (pv 1) (pv 0) (fun _ _ => rfl)))) hr TB rfl (List.mem_cons_self ..) (fun p hp _ => by rw [List.mem_singleton.mp hp]; rfl) rfl (ndef_free (sc := defScope s__law_begins_right) (fr := ["_law_code_here"]) (by decide +kernel)) (ndef_fr (sc := defScope s__law_begins_right) (by decide +kernel)) rfl (pe_lc (own := [("_law_place", 10)]) rfl sc__law_begins_right.nd (pi_range1 (by rfl) T.range (pa_cons (pe_callB (call_len_seqK (K := K) rfl) (by rfl) T.len (by decide +kernel) (pa_cons (pv 0) pa_nil)) pa_nil)) (blkOk_by (own := [("_law_place", 10)]) (N := N__law_begins_right) (sc := defScope s__law_begins_right) (by decide +kernel)) (fun _ _ _ _ _ => (pg_name (i := 10) sc__law_begins_right.nd rfl (.inl rfl))) (fun _ _ _ _ _ => pts_nil) (fun _ _ _ _ _ => (pv 10)))))
      (pss_cons (ps_set (i := 7) sc__law_begins_right.nd rfl (.inl rfl) (pe_c C__law_bent hr (by decide) (by rfl) (pa_cons (pv 7) (pa_cons (pe_op op_fdiv (pv 1) pe_int) (pa_cons (pe_op op_mod (pv 1) pe_int) pa_nil)))))
      (pss_cons (ps_set (i := 8) sc__law_begins_right.nd rfl (.inl rfl) (pe_callTy (call_list_ofK (K := K) rfl) (by rfl) T.list (by decide +kernel) (pa_cons (pv 7) pa_nil)))
      (pss_cons (ps_set (i := 9) sc__law_begins_right.nd rfl (.inl rfl) (pe_mk K_Apart hr (by decide) (by rfl) (pa_cons (pv 8) pa_nil)))
      (pss_cons (ps_expr (pe_bm PySem.F.plainAttrs_list PySem.F.slot_list_append PySem.F.type_list_append mt_append (pv 8) (pa_cons pe_int pa_nil)))
      (pss_cons (ps_if (pt_cmpR (op_neDK (K := K) rfl hr.units) (pe_fldK (K := K) rfl (pv 9)) (pv 7) (nomark _)) (pss_one (ps_ret pe_bl)) pss_nil)
      (pss_cons (ps_set (i := 4) sc__law_begins_right.nd rfl (.inl rfl) (pe_cmpR (op_eqDK (K := K) rfl hr.units) (pe_callB (cr_sortedIK (K := K) rfl) (by rfl) T.sorted (by decide +kernel) (pa_cons (pv 7) pa_nil)) (pe_lc (own := [("_law_place", 10)]) rfl sc__law_begins_right.nd (pi_range1 (by rfl) T.range (pa_cons (pe_callB (call_len_seqK (K := K) rfl) (by rfl) T.len (by decide +kernel) (pa_cons (pv 0) pa_nil)) pa_nil)) (blkOk_by (own := [("_law_place", 10)]) (N := N__law_begins_right) (sc := defScope s__law_begins_right) (by decide +kernel)) (fun _ _ _ _ _ => (pg_name (i := 10) sc__law_begins_right.nd rfl (.inl rfl))) (fun _ _ _ _ _ => pts_nil) (fun _ _ _ _ _ => (pv 10))) (nomark _)))
      (pss_cons (ps_set (i := 4) sc__law_begins_right.nd rfl (.inl rfl) (pe_and (pv 4) (pe_one (pe_cmpR (op_eqDK (K := K) rfl hr.units) (pe_lc (own := [("_law_place", 10)]) rfl sc__law_begins_right.nd (pi_listK (K := K) rfl (pv 7)) (blkOk_by (own := [("_law_place", 10)]) (N := N__law_begins_right) (sc := defScope s__law_begins_right) (by decide +kernel)) (fun _ _ _ _ _ => (pg_name (i := 10) sc__law_begins_right.nd rfl (.inl rfl))) (fun _ _ _ _ _ => pts_nil) (fun _ _ _ _ _ => (pe_ix (ix_listK (K := K) rfl) (pv 0) (pv 10) (fun _ _ => rfl)))) (pv 6) (nomark _)))))
      (pss_cons (ps_set (i := 4) sc__law_begins_right.nd rfl (.inl rfl) (pe_and (pv 4) (pe_one (pe_not (pe_c C__law_beside hr (by decide) (by rfl) (pa_cons (pv 6) pa_nil))))))
      (pss_one (ps_ret (pe_c C__law_says hr (by decide) (by rfl) (pa_cons (pe_alt (pe_mth M_Begins_shows hr (by decide) (pv 9) (pa_cons (pv 0) pa_nil)) (pe_mth M_Apart_shows hr (by decide) (pv 9) (pa_cons (pv 0) pa_nil))) (pa_cons (pv 4) pa_nil))))))))))))))))))))), ?_⟩
    have hwn := hwo.len
    have hwa : ∀ a ∈ ws, a.length ≤ 1000 := fun a ha => by have := (hwo.ok a ha).2.2; omega
    have glen : ∀ (H' : Hp) (σ : L2.St), SqL K H' p (ws.map tx) → σ[0]? = some (some (.ref p)) → Ev (tCB (rLenQ K) (tCons (tVar 0) tNil)) σ H' (.int (ws.length : Int)) := fun H' σ h h0 => by
      have := ev_len' (K := K) (ev_var (H := H') h0) h
      rwa [List.length_map] at this
    refine q_asg (v := .int (c / 3 % ((ws.length : Int) + 2) - 1)) (ev_op (ev_op (ev_op (ev_var rfl) ev_c (rv_fdiv ⟨by decide, by decide⟩)) (ev_op (glen _ _ hp rfl) ev_c rv_add) (rv_mod (by omega))) ev_c rv_sub) fun H1 e1 => ?_
    refine q_asg (v := .int (c / 7 % ((ws.length : Int) + 2) - 1)) (ev_op (ev_op (ev_op (ev_var rfl) ev_c (rv_fdiv ⟨by decide, by decide⟩)) (ev_op (glen _ _ (ex_l e1 hp) rfl) ev_c rv_add) (rv_mod (by omega))) ev_c rv_sub) fun H2 e2 => ?_
    generalize c / 3 % ((ws.length : Int) + 2) - 1 = i
    generalize c / 7 % ((ws.length : Int) + 2) - 1 = j
    have ex2 := e1.trans e2
    have hp2 := ex_l ex2 hp
    refine q_asg (v := .bl (!decide (i = j) && inR ws.length [i, j])) (ev_is (ev_andV (ev_op (ev_var rfl) (ev_var rfl) rv_neI) fun _ => ev_andV (ev_op (ev_min2 (ev_var rfl) (ev_var rfl)) ev_c rv_ge) fun _ => ev_op (ev_max2 (ev_var rfl) (ev_var rfl)) (glen _ _ hp2 rfl) rv_lt) (congrArg V.bl (by rw [← inR_mm]))) fun H3 e3 => ?_
    have hp3 := ex_l e3 hp2
    refine q_asg (v := .bl (bgV ws i j)) (ev_is (ev_andV (b := pre (wAt ws i) (wAt ws j)) (ev_var rfl) fun hd => ?_) rfl) fun H4 e4 => ?_
    · rw [Bool.and_eq_true] at hd
      obtain ⟨⟨a1, a2⟩, b1, b2⟩ := inR2.mp hd.2
      refine ev_is (ev_call (vs := [tx (wAt ws i), tx (wAt ws j), .int ((0 : Nat) : Int)]) (ea_cons (ev_op (ev_var rfl) (ev_var rfl) (rv_ixL (K := K) hp3 (wAt_get a1 a2))) (ea_cons (ev_op (ev_var rfl) (ev_var rfl) (rv_ixL (K := K) hp3 (wAt_get b1 b2))) (ea_cons ev_c ea_nil))) (sv_stands (by have := hwa _ (wAt_mem a1 a2); omega) (by have := hwa _ (wAt_mem b1 b2); omega))) ?_
      unfold standsB
      rw [List.drop_zero]
    have ex4 := (ex2.trans e3).trans e4
    refine q_asgBV (ebv_make (C := aBe) (f := "one") (g := "other") (ev_var (i := 2) rfl) (ev_var (i := 3) rfl)) fun o dx H5 no e5 ho => ?_
    have ex5 := ex4.trans e5
    have hp5 := ex_l ex5 hp
    refine q_skip (et_is (et_or (et_B (ev_neU (xs := [i, j]) (ys := [i, j]) enc_int (eu_tup (vs := [.int i, .int j]) (ea_cons (ev_fld (ev_var (i := 5) rfl) ho L_Begins.cl N_Begins_one lk2a) (ea_cons (ev_fld (ev_var (i := 5) rfl) ho L_Begins.cl N_Begins_other (lk2 (by decide +kernel))) ea_nil)) (by simp)) (eu_tup (vs := [.int i, .int j]) (ea_cons (ev_var (i := 2) rfl) (ea_cons (ev_var (i := 3) rfl) ea_nil)) (by simp)) (by simp) (by simp))) fun _ => et_not (et_test (ev_call (vs := [.bl (bgV ws i j), .bl (bgV ws i j)]) (ea_cons (ev_altL (ev_mth (ev_var (i := 5) rfl) ho (lk2n (by decide +kernel) (by decide +kernel)) (ea_cons (ev_var (i := 0) rfl) ea_nil) fun Ha ea Q' q' _ => ⟨o, p, dx, ws, i, j, rfl, ea o _ ho, ex_l ea hp5, by omega, hwa, q'⟩)) (ea_cons (ev_var rfl) ea_nil)) sv_says))) (by simp)) fun H6 e6 => ?_
    have ex6 := ex5.trans e6
    have hp6 := ex_l ex6 hp
    refine q_asgXs (ex_sorted (ev_var rfl) hp6) fun pw H7 vs0 npw e7 hpw hss => ?_
    obtain ⟨ss, hss, rfl⟩ := hss
    have hse := sort_uniq hss (sortW_of ws)
    subst hse
    have hln := sortW_len ws
    have hsm : ∀ a ∈ sortW ws, a.length ≤ 1000 := fun a ha => hwa a ((sortW_of ws).perm.mem_iff.mp ha)
    have hokC : ∀ a ∈ ws, okC a := fun a ha => okC_of (hwo.ok a ha).2.1
    have ex7 := ex6.trans e7
    have hp7 := ex_l ex7 hp
    have hT7 := hT.ext ex7
    have hrl := rgI_len ws.length
    refine q_asgX (en_sortLam (b := false) (w := wAt ws) (ns := rgI ws.length) (H := H7) (by omega) (fun H8 g8 => ?_) (fun H8 g8 n hn => ?_) H7 (Gro.of (Ex.refl _) hT7) _ fun v H8 g8 hv => ?_)
    · exact ep_el (el_rangeI (glen _ _ (gro_l g8 hp7) rfl) (by omega) (fun _ => rfl) fun _ _ => rfl) fun q Hq _ hq => ⟨q, rfl, .inl (sq_of hq)⟩
    · obtain ⟨a1, a2⟩ := rgI_mem.mp hn
      refine ep_ev (v := tx (wAt ws n)) (ev_op (ev_var (i := 1) rfl) (ev_var (i := 0) rfl) (rv_ixL (K := K) (gro_l g8 hp7) (wAt_get a1 a2))) fun Hq _ => ?_
      unfold KB
      rw [if_neg (by decide)]
      exact ⟨S (wAt ws n), rfl, S_cps _⟩
    · obtain ⟨q, ns', rfl, hq, hperm, _⟩ := hv
      have hp8 := gro_l g8 hp7
      have hpw8 := gro_lst g8 hpw
      have g08 : Gro (TL P_ "_law_begins_right" s__law_begins_right) H H8 := (Gro.of ex7 hT).trans g8
      have hnl : ns'.length = ws.length := by rw [hperm.length_eq, hrl]
      have hbl := bentV_len ns' (c / 5) (c % 3)
      refine q_asgL (xs := (bentV ns' (c / 5) (c % 3)).map V.int) (by
        have := el_call (E := E0) (σ := [some (.ref p), some (.int c), some (.int i), some (.int j), some (.bl (bgV ws i j)), some (.ref o), some (.ref pw), some (.ref q), none, none, none]) (H := H8) (ea_cons (ev_var (i := 7) rfl) (ea_cons (ev_op (ev_var (i := 1) rfl) (ev_c (v := .int 5)) (rv_fdiv ⟨by decide, by decide⟩)) (ea_cons (ev_op (ev_var (i := 1) rfl) (ev_c (v := .int 3)) (rv_mod (by decide))) ea_nil))) (sl_bent (K := K) (c := c / 5) (m := .int (c % 3)) (sq_of hq) (by rw [List.length_map]; omega))
        rw [bentV_map] at this
        exact this) fun qo H9 nqo e9 hqo => ?_
      generalize bentV ns' (c / 5) (c % 3) = us at *
      refine q_asgL (xs := us.map V.int) (ev_listOf (ev_var rfl) (sq_of hqo)) fun hd H10 nhd e10 hhd => ?_
      refine q_asgX ((eb_make (K := K) (C := aAp) (f := "order") (eqx_of (eq_at (ev_var (i := 8) rfl) (sq_of hhd)))) H10 (Ex.refl _) _ fun oA dx2 l H11 zs hzs noA nl hlo e11 hoA hl => ?_)
      subst hzs
      refine q_app (l := hd) (xs := us.map V.int) (v := .int 0) (e11 hd _ hhd) (ev_var rfl) ev_c (by rw [List.length_map]; omega) fun H12 e12 => ?_
      have exM : Ex H9 (upd H12 hd (.lst (us.map V.int ++ [.int 0]))) := Ex.mut ((e10.trans e11).trans e12) nhd
      have ohd : oA ≠ hd := fun z => by rw [z, hhd] at noA; cases noA
      have lhd : l ≠ hd := fun z => by rw [z, hhd] at nl; cases nl
      generalize hHM : upd H12 hd (.lst (us.map V.int ++ [.int 0])) = HM at *
      have hoM : HM oA = some (.ins aAp dx2 [("order", .ref l)]) := by rw [← hHM, upd_ne ohd]; exact e12 oA _ hoA
      have hlM : HM l = some (.lst (us.map V.int)) := by rw [← hHM, upd_ne lhd]; exact e12 l _ hl
      have ex8M : Ex H8 HM := e9.trans exM
      have g0M : Gro (TL P_ "_law_begins_right" s__law_begins_right) H HM := g08.more ex8M
      have hpM := ex_l ex8M hp8
      have hpwM := ex8M pw _ hpw8
      have hqoM := exM qo _ hqo
      refine q_skip (et_is (et_B (ev_neQ enc_int (eq_at (ev_fld (ev_var (i := 9) rfl) hoM L_Apart.cl N_Apart_order (look1 _ _)) (sq_of hlM)) (eq_at (ev_var (i := 7) rfl) (sq_of hqoM)) (by simp) (by simp))) (by simp)) fun H13 e13 => ?_
      refine q_asg (v := .bl (decide (sortI us = rgI ws.length))) (ev_eqQ enc_int (eq_new (el_sortedI (ev_var rfl) (sq_of (e13 qo _ hqoM)))) (eq_new (el_rangeI (glen _ _ (ex_l e13 hpM) rfl) (by omega) (fun _ => rfl) fun _ _ => rfl)) (by simp) (by simp)) fun H14 e14 => ?_
      have ex14 := e13.trans e14
      refine q_asg (v := .bl (decide (sortI us = rgI ws.length) && decide (us.map (wAt ws) = sortW ws))) (ev_andV (ev_var rfl) fun hd1 => ?_) fun H15 e15 => ?_
      · have hpm := sortI_rg.mp (of_decide_eq_true hd1)
        have hrg : ∀ n ∈ us, 0 ≤ n ∧ n < (ws.length : Int) := fun n hm => rgI_mem.mp (hpm.mem_iff.mp hm)
        refine ev_eqQ enc_tx (eq_new (el_mapS (φ := V.int) (g := wAt ws) (ev_var rfl) (sq_of (ex14 qo _ hqoM)) (by omega) (fun _ => rfl) fun n hm => ?_)) (eq_at (ev_var rfl) (sq_of (ex14 pw _ hpwM))) (fun a ha => ?_) (fun a ha => hokC a ((sortW_of ws).perm.mem_iff.mp ha))
        · obtain ⟨a1, a2⟩ := hrg n hm
          exact ev_op (ev_var rfl) (ev_var rfl) (rv_ixL (K := K) (ex_l ex14 hpM) (wAt_get a1 a2))
        · obtain ⟨n, hm, rfl⟩ := List.mem_map.mp ha
          obtain ⟨a1, a2⟩ := hrg n hm
          exact hokC _ (wAt_mem a1 a2)
      have ex15 := ex14.trans e15
      refine q_asg (v := .bl (apV ws us)) (ev_is (ev_andV (ev_var rfl) fun _ => ev_notV (ev_call (vs := [.ref pw]) (ea_cons (ev_var rfl) ea_nil) (sv_beside (sq_of (ex15 pw _ hpwM)) (by omega) hsm))) (congrArg V.bl (due_ap ws us))) fun H16 e16 => ?_
      have ex16 := ex15.trans e16
      refine s_ret (v := .bl true) (ev_is (ev_call (vs := [.bl (apV ws us), .bl (apV ws us)]) (ea_cons (ev_altR (ev_mth (ev_var (i := 9) rfl) (ex16 oA _ hoM) (look_no (by decide +kernel)) (ea_cons (ev_var (i := 0) rfl) ea_nil) fun Ha ea Q' q' _ => ⟨oA, l, p, dx2, ws, us, rfl, (ex16.trans ea) oA _ hoM, sq_of ((ex16.trans ea) l _ hlM), ex_l (ex16.trans ea) hpM, by omega, hwa, by omega, q'⟩)) (ea_cons (ev_var rfl) ea_nil)) sv_says) (by simp)) fun H17 e17 => ?_
      exact kk H17 (g0M.more (ex16.trans e17))
end
end Tr

set_option Elab.async false
set_option linter.all false
set_option maxRecDepth 100000
set_option maxHeartbeats 4000000
namespace Tr
open PySem PySem.Spec PyProof.Rows L2 Evl LamX NdefX
open M3 (wat joinW pre)
abbrev s_law : Stmt := topS 45
abbrev N_law : List Str := ["_law_script", "_law_code_here", "_law_text_here", "_law_cell"]
theorem sc_law : FnScope N_law ["_law_script"] (defScope s_law) := ⟨rfl, rfl, rfl, by decide +kernel, rfl, by decide +kernel, by decide +kernel⟩
local macro_rules | `(tactic| walk_at "sd") => `(tactic| first | assumption | rfl | omega | decide | (solve_by_elim) | (refine Nat.le_trans (m := 1000) (by solve_by_elim) (by decide)))
local macro_rules | `(tactic| walk_at "rv") => `(tactic| first
  | exact rv_add | exact rv_sub | exact rv_lt | exact rv_le | exact rv_gt | exact rv_ge | exact rv_eqI | exact rv_eqS | exact rv_eqB | exact rv_neI | exact rv_neS | exact rv_neB
  | exact rv_mod (by walk_at "sd") | exact rv_fdiv (by first | assumption | exact ⟨by omega, by omega⟩) | exact rv_addS (by walk_at "sd") | exact rv_isB | exact rv_notB | assumption)
local macro_rules | `(tactic| walk_at "ea") => `(tactic| first
  | exact ea_nil
  | (refine' ea_cons ?k1 ?k2; (case k1 => walk_at "ev"); (case k2 => walk_at "ea")))
local macro_rules | `(tactic| walk_at "eo") => `(tactic| first
  | exact eo_none
  | (refine' eo_some ?k1; (case k1 => walk_at "ev")))
local macro_rules | `(tactic| walk_at "et") => `(tactic| first
  | (refine' et_test ?k1; (case k1 => walk_at "ev"))
  | (refine' et_B ?k1; (case k1 => walk_at "ev"))
  | (refine' et_and ?k1 ?k2; (case k1 => walk_at "et"); (case k2 => (intro _; walk_at "et")))
  | (refine' et_or ?k1 ?k2; (case k1 => walk_at "et"); (case k2 => (intro _; walk_at "et")))
  | (refine' et_not ?k1; (case k1 => walk_at "et"))
  | assumption)
local macro_rules | `(tactic| walk_at "ev") => `(tactic| first
  | assumption
  | exact ev_cS
  | exact ev_c
  | exact ev_var rfl
  | (refine' ev_op ?k1 ?k2 ?k3; (case k1 => walk_at "ev"); (case k2 => walk_at "ev"); (case k3 => walk_at "rv"))
  | (refine' ev_un ?k1 ru_neg; (case k1 => walk_at "ev"))
  | (refine' ev_chain ?k1 ?k2 ?k3 ?k4 ?k5; (case k1 => walk_at "ev"); (case k2 => walk_at "ev"); (case k3 => walk_at "ev"); (case k4 => walk_at "rv"); (case k5 => (intro _; walk_at "rv")))
  | (refine' ev_slS ?k1 ?k2 ?k3 ?k4; (case k1 => walk_at "ev"); (case k2 => walk_at "eo"); (case k3 => walk_at "eo"); (case k4 => walk_at "sd"))
  | (refine' ev_lenS ?k1 ?k2; (case k1 => walk_at "ev"); (case k2 => walk_at "sd"))
  | (refine' ev_len' ?k1 ?k2; (case k1 => walk_at "ev"); (case k2 => walk_at "sd"))
  | (refine' ev_strip ?k1 ?k2 ?k3; (case k1 => walk_at "ev"); (case k2 => walk_at "ev"); (case k3 => walk_at "sd"))
  | (refine' ev_sum ?k1 ?k2; (case k1 => walk_at "ev"); (case k2 => walk_at "sd"))
  | (refine' ev_isi ?k1 ?k2 ?k3 ?k4; (case k1 => walk_at "ev"); (case k2 => walk_at "ev"); (case k3 => first | exact ty_int | exact ty_bl | exact ty_str | exact ty_list (by walk_at "sd")); (case k4 => first | exact kit_ty (r := true) (by decide +kernel) | exact kit_ty (r := false) (by decide +kernel)))
  | (refine' ev_andV ?k1 ?k2; (case k1 => walk_at "ev"); (case k2 => (intro _; walk_at "ev")))
  | (refine' ev_orV ?k1 ?k2; (case k1 => walk_at "ev"); (case k2 => (intro _; walk_at "ev")))
  | (refine' ev_notV ?k1; (case k1 => walk_at "ev"))
  | (refine' ev_call ?k1 ?k2; (case k1 => walk_at "ea"); (case k2 => walk_at "sv")))
local macro_rules | `(tactic| walk_at "el") => `(tactic| first
  | assumption
  | (refine' el_mapB ?k1 ?k2 ?k3 (fun _ => rfl) ?k5; (case k1 => walk_at "ev"); (case k2 => walk_at "sd"); (case k3 => walk_at "sd"); (case k5 => (intro _ _; walk_at "ev")))
  | (refine' el_mapI ?k1 ?k2 ?k3 (fun _ => rfl) ?k5; (case k1 => walk_at "ev"); (case k2 => walk_at "sd"); (case k3 => walk_at "sd"); (case k5 => (intro _ _; walk_at "ev")))
  | (refine' el_mapS ?k1 ?k2 ?k3 (fun _ => rfl) ?k5; (case k1 => walk_at "ev"); (case k2 => walk_at "sd"); (case k3 => walk_at "sd"); (case k5 => (intro _ _; walk_at "ev"))))
local macro_rules | `(tactic| walk_at "ev") => `(tactic| first
  | (refine' ev_all ?k1; (case k1 => walk_at "el"))
  | (refine' ev_any ?k1; (case k1 => walk_at "el"))
  | (refine' ev_sumN ?k1; (case k1 => walk_at "el"))
  | (refine' ev_join ?k1 ?k2 ?k3; (case k1 => exact ev_is ev_cS (congrArg tx codes_nil)); (case k2 => walk_at "el"); (case k3 => walk_at "sd")))

section
variable {K : PySem.W.Frag} {σ : L2.St} {H H' : Hp} {ta tb te tq : TE} {C o dx : Addr} {x v : V} {D : Ends} {tu : TS} {u : TT}
theorem or_first {Q : Bool → Hp → Prop} (h : te σ H fun x H1 => ∃ b, x = .bl b ∧ if (!b) = true then Q true H1 else u σ H1 Q) : tOr (tNot (tTest te)) u σ H Q := h
theorem eb2_makeQ {f g : Str} {xs ys : List V} (ha : EvQ K ta σ H xs) (hb : EvQ K tb σ H ys) : EvB2 (tMake C (spIni2 K C f g) [] E0 (tCons ta (tCons tb tNil))) σ H C f g xs ys := fun H1 e Q q =>
  ha H1 e _ fun a H2 e2 hx => hb H2 (e.trans e2) _ fun b H3 e3 hy => fun x dx nx nd ne => by
    have nu : upd H3 dx (.own x) x = none := by rw [upd_ne (Ne.symm ne)]; exact nx
    have ex : Ex H3 (upd (upd H3 dx (.own x)) x (.ins C dx [])) := (Ex.new nd).trans (Ex.new nu)
    refine ⟨x, a, b, dx, xs, ys, rfl, upd_same, ex_l (e3.trans ex) hx, ex_l ex hy, fun l m H' hlx hmx hlm nl nm kp ho hl hm => ⟨rfl, ?_⟩⟩
    have e23 := e2.trans e3
    refine q x dx l m H' (fresh_back e23 nx) (fresh_back e23 (fresh_back ex nl)) (fresh_back e23 (fresh_back ex nm)) hlx hmx hlm (fun c u hc => ?_) ho hl hm
    have hc3 := e23 c u hc
    have hcx : c ≠ x := fun z => by rw [z, nx] at hc3; cases hc3
    exact kp c u hcx (ex c u hc3)
theorem ev_mkMth {f m : Str} {sp : Sp} {xs ys : List V} (h : EvB te σ H C f (fun vs => vs = xs)) (hn : (m == f) = false) (hq : EvQ K tq σ H ys) (hs : ∀ o dx l q H1, H1 o = some (.ins C dx [(f, .ref l)]) → H1 l = some (.lst xs) → SqL K H1 q ys → SpV sp [.ref o, .ref q] H1 v) : Ev (tMeth C m sp [] E0 te (tCons tq tNil)) σ H v := fun H1 e Q q =>
  h H1 e _ fun o dx l H2 zs hz _ _ _ e2 ho hl => ⟨o, dx, _, rfl, ho, look_no hn, hq H2 (e.trans e2) _ fun p H3 e3 hp => by
    subst hz
    have := hs o dx l p H3 (e3 o _ ho) (e3 l _ hl) hp H3 (Ex.refl H3) Q (fun H4 e4 => q H4 ((e2.trans e3).trans e4)) E0
    exact this⟩
theorem ev_mkMth2 {f g m : Str} {sp : Sp} {xs ys zs : List V} (h : EvB2 te σ H C f g xs ys) (hn1 : (m == f) = false) (hn2 : (m == g) = false) (hq : EvQ K tq σ H zs) (hs : ∀ o dx l n q H1, H1 o = some (.ins C dx [(f, .ref l), (g, .ref n)]) → H1 l = some (.lst xs) → H1 n = some (.lst ys) → SqL K H1 q zs → SpV sp [.ref o, .ref q] H1 v) : Ev (tMeth C m sp [] E0 te (tCons tq tNil)) σ H v := fun H1 e Q q =>
  h H1 e _ fun o dx l n H2 _ _ _ _ _ _ e2 ho hl hn => ⟨o, dx, _, rfl, ho, look2n hn1 hn2, hq H2 (e.trans e2) _ fun p H3 e3 hp => by
    have := hs o dx l n p H3 (e3 o _ ho) (e3 l _ hl) (e3 n _ hn) hp H3 (Ex.refl H3) Q (fun H4 e4 => q H4 ((e2.trans e3).trans e4)) E0
    exact this⟩
theorem if_run {t : TT} (h : t σ H fun b H1 => if b = true then tu D σ H1 else D.nx σ H1) : tIfS t tu tNext D σ H := h
end
section
variable {P : Program} {w : World} {K : PySem.W.Frag} {mg : Str → Option Value} {base : Heap} {H : Hp}
/-- the law: True, whatever the script -/
def spLaw (K : PySem.W.Frag) (T : List (Addr × Str)) : Sp := fun vs H Q _ => ∃ (s : Addr) (ns : List Int), vs = [.ref s] ∧ SqL K H s (ns.map V.int) ∧ ns.length ≤ 63 ∧ Tabs T H ∧ ∀ H', Q (.bl true) H'
theorem ok_law {f : Addr} {fd : FuncData} {aCl aTl P_ : Addr} (F : Fun K "law" "law" s_law f fd) (T : Blt mg) (C__law_code : Cal P w K mg base 1 "_law_code" (spLawCode K)) (C__law_text : Cal P w K mg base 1 "_law_text" (spLawText K)) (C__law_codes_right : Cal P w K mg base 4 "_law_codes_right" (spCodesRight K)) (C__law_texts_right : Cal P w K mg base 4 "_law_texts_right" (spTextsRight K))
    (C__law_begins_right : Cal P w K mg base 4 "_law_begins_right" (spBeginsRight K (TL P_ "_law_begins_right" s__law_begins_right))) (C__law_words_right : Cal P w K mg base 3 "_law_words_right" (spWordsRight K)) (C__law_says : Cal P w K mg base 1 "_law_says" spSays)
    (K_Clash : MkAt P w K mg base 1 "Clash" aCl (spIni2 K aCl "one" "other")) (K_Tails : MkAt P w K mg base 1 "Tails" aTl (spIni1 K aTl "tails")) (M_Clash_shows : MCal P w K mg base 2 aCl "shows" (spClShows K aCl)) (M_Tails_shows : MCal P w K mg base 2 aTl "shows" (spTlShows K aTl)) :
    FnOk P w K mg base (L2N.CX P w) 5 f fd ["_law_script"] (spLaw K (TL P_ "_law_begins_right" s__law_begins_right)) := by
  refine fnok_of F sc_law (fun vs H Q E h => ?_) (fun f cdv A outer s H vs Q E hr h => ?_)
  · obtain ⟨p, ns, rfl, _⟩ := h; rfl
  · obtain ⟨s2, ns0, rfl, hs, hn, hT, k⟩ := h
    refine ⟨_, (pss_cons (ps_set (i := 1) sc_law.nd rfl (.inl rfl) (pe_c C__law_code hr (by decide) (by rfl) (pa_cons (pv 0) pa_nil)))
      (pss_cons (ps_set (i := 2) sc_law.nd rfl (.inl rfl) (pe_c C__law_text hr (by decide) (by rfl) (pa_cons (pv 1) (pa_cons (pv 0) pa_nil))))
      (pss_cons (ps_for PassesOwn.never rfl (pi_listK (K := K) rfl (pe_op op_cat (pe_slice (sl_listK (K := K) rfl) (pv 0) po_none (po_some pe_int)) (pe_stepN (K := K) rfl (by decide) (by decide) (pv 0)))) (pg_name (i := 3) sc_law.nd rfl (.inl rfl)) (pss_cons (ps_if (PW.pt (pw_or (pt_not (pt_val (pe_c C__law_codes_right hr (by decide) (by rfl) (pa_cons (pv 1) (pa_cons (pv 3) pa_nil))))) (pw_or1 (pt_not (pt_val (pe_c C__law_texts_right hr (by decide) (by rfl) (pa_cons (pv 1) (pa_cons (pv 2) (pa_cons (pv 3) pa_nil))))))))) (pss_one (ps_ret pe_bl)) pss_nil)
      (pss_one (ps_if (PW.pt (pw_or (pt_not (pt_val (pe_c C__law_begins_right hr (by decide) (by rfl) (pa_cons (pv 1) (pa_cons (pv 3) pa_nil))))) (pw_or1 (pt_not (pt_val (pe_c C__law_words_right hr (by decide) (by rfl) (pa_cons (pv 1) (pa_cons (pv 3) pa_nil)))))))) (pss_one (ps_ret pe_bl)) pss_nil))))
      (pss_one (ps_ret (pe_and (pe_c C__law_says hr (by decide) (by rfl) (pa_cons (pe_mth M_Tails_shows hr (by decide) (pe_mk K_Tails hr (by decide) (by rfl) (pa_cons (pe_lst pa_nil) pa_nil)) (pa_cons (pe_lst (pa_cons pe_str (pa_cons pe_str pa_nil))) pa_nil)) (pa_cons pe_bl pa_nil))) (pe_one (pe_c C__law_says hr (by decide) (by rfl) (pa_cons (pe_mth M_Clash_shows hr (by decide) (pe_mk K_Clash hr (by decide) (by rfl) (pa_cons (pe_lst (pa_cons pe_int pa_nil)) (pa_cons (pe_lst (pa_cons pe_int pa_nil)) pa_nil))) (pa_cons (pe_lst (pa_cons pe_str (pa_cons pe_str pa_nil))) pa_nil)) (pa_cons pe_bl pa_nil)))))))))), ?_⟩
    have hwo := codeOf_ok hn
    have hsuf := codeOf_suf hn
    generalize hws : codeOf ns0 = ws at *
    have hwn := hwo.len
    obtain ⟨htl, hto⟩ := textOf_ok hwo ns0
    refine q_asgL (xs := ws.map tx) (by rw [← hws]; exact el_call (by walk_at "ea") (sl_law_code hs hn)) fun p H1 np e1 hp => ?_
    refine q_asg (v := tx (textOf ws ns0)) (ev_call (vs := [.ref p, .ref s2]) (by walk_at "ea") (sv_law_text (sq_of hp) (ex_l e1 hs) hwo hn)) fun H2 e2 => ?_
    generalize textOf ws ns0 = t at *
    have ex2 := e1.trans e2
    have hs2 := ex_l ex2 hs
    have hp2 := e2 p _ hp
    have hT2 := hT.ext ex2
    refine q_forNLn (xs := (ns0.map V.int).take 3 ++ pickN 3 16 (ns0.map V.int)) (el_catN (by
        have := el_sl (K := K) (ev_var (i := 0) (σ := [some (.ref s2), some (.ref p), some (tx t), none]) (H := H2) rfl) eo_none (eo_some (i := ((3 : Nat) : Int)) (ev_c (v := .int 3))) hs2
        rw [cutV_to] at this
        exact this) (el_stepN (ev_var (i := 0) rfl) hs2) (by
        have := pickN_len (a := 3) (c := 16) (by decide) (ns0.map V.int)
        rw [List.length_map] at this
        rw [List.length_take, List.length_map]; omega)) (fun q i σ' H' => ∃ s3, Gro (TL P_ "_law_begins_right" s__law_begins_right) H2 H' ∧ H' q = some (.lst ((ns0.map V.int).take 3 ++ pickN 3 16 (ns0.map V.int))) ∧ σ' = [some (.ref s2), some (.ref p), some (tx t), s3])
      (fun q H3 nq e3 hq => ⟨_, Gro.of e3 hT2, hq, rfl⟩) (fun q i σ' H' _ hP => by obtain ⟨_, _, hq, _⟩ := hP; exact sq_of hq) (fun q i x σ' H' hx hP => ?_) (fun q σ' H' hP => ?_)
    · obtain ⟨s3, g, hq, rfl⟩ := hP
      obtain ⟨c, rfl⟩ : ∃ c : Int, x = .int c := by
        have hm : x ∈ ns0.map V.int := by
          rcases List.mem_append.mp (List.mem_of_getElem? hx) with h | h
          · exact List.mem_of_mem_take h
          · exact pickN_mem h
        obtain ⟨c, _, rfl⟩ := List.mem_map.mp hm
        exact ⟨c, rfl⟩
      have hp' := sq_of (K := K) (gro_lst g hp2)
      refine q_skip (et_is (et_or (et_not (et_test (ev_call (vs := [.ref p, .int c]) (ea_cons (ev_var rfl) (ea_cons (ev_var rfl) ea_nil)) fun H4 e4 Q' q' _ => ⟨p, c, ws, rfl, ex_l e4 hp', hwo, hsuf, q'⟩))) fun _ => et_not (et_test (ev_call (vs := [.ref p, tx t, .int c]) (ea_cons (ev_var rfl) (ea_cons (ev_var rfl) (ea_cons (ev_var rfl) ea_nil))) fun H4 e4 Q' q' _ => ⟨p, c, ws, t, rfl, ex_l e4 hp', hwo, htl, hto, q'⟩))) rfl) fun H5 e5 => ?_
      refine if_run (or_first (call_run (vs := [.ref p, .int c]) (ea_cons (ev_var rfl) (ea_cons (ev_var rfl) ea_nil)) fun H6 e6 => ⟨p, c, ws, rfl, ex_l (e5.trans e6) hp', hwo, (g.more (e5.trans e6)).tabs, fun H7 g7 => ⟨true, rfl, ?_⟩⟩))
      rw [if_neg (by decide)]
      have g27 := (g.more (e5.trans e6)).trans g7
      have hp7 := sq_of (K := K) (gro_lst g27 hp2)
      have hq7 := gro_lst g7 ((e5.trans e6) q _ hq)
      refine (et_not (et_test (ev_call (vs := [.ref p, .int c]) (ea_cons (ev_var rfl) (ea_cons (ev_var rfl) ea_nil)) fun H8 e8 Q' q' _ => ⟨p, c, ws, rfl, ex_l e8 hp7, hwo, q'⟩))) H7 (Ex.refl _) _ fun H9 e9 => ?_
      rw [if_neg (by decide)]
      exact ⟨_, g27.more e9, e9 q _ hq7, rfl⟩
    · obtain ⟨s3, g, hq, rfl⟩ := hP
      have haa : ([codes ("a" : Str), codes ("a" : Str)] : List Wd).length ≤ 1000 ∧ ∀ a ∈ ([codes ("a" : Str), codes ("a" : Str)] : List Wd), a.length ≤ 1000 := ⟨by decide, fun a ha => by
        simp only [List.mem_cons, List.not_mem_nil, or_false] at ha
        rcases ha with ha | ha <;> subst ha <;> decide +kernel⟩
      have gaa : ∀ (H' : Hp) (σ : L2.St), EvQ K (tLst (tCons (tC (.str ("a" : Str))) (tCons (tC (.str ("a" : Str))) tNil))) σ H' (([codes ("a" : Str), codes ("a" : Str)] : List Wd).map tx) := fun H' σ => eq_new (el_lst (vs := [tx (codes ("a" : Str)), tx (codes ("a" : Str))]) (ea_cons ev_cS (ea_cons ev_cS ea_nil)) (by simp))
      have v1 : tlV [codes ("a" : Str), codes ("a" : Str)] [] = false := by decide +kernel
      have v2 : clV [codes ("a" : Str), codes ("a" : Str)] [0] [1] = true := by decide +kernel
      have c1 : Ev (tCall spSays [] E0 (tCons (tMeth aTl "shows" (spTlShows K aTl) [] E0 (tMake aTl (spIni1 K aTl "tails") [] E0 (tCons (tLst tNil) tNil)) (tCons (tLst (tCons (tC (.str ("a" : Str))) (tCons (tC (.str ("a" : Str))) tNil))) tNil)) (tCons (tC (.bl false)) tNil))) [some (.ref s2), some (.ref p), some (tx t), s3] H' (.bl true) :=
        ev_is (ev_call (vs := [.bl (tlV [codes ("a" : Str), codes ("a" : Str)] []), .bl false]) (ea_cons (ev_mkMth (eb_make (eqx_of (eq_new (K := K) el_lst0))) (by decide +kernel) (gaa _ _) fun o dx l q H1 ho hl hq H2 e2 Q' q' _ => ⟨o, l, q, dx, [codes ("a" : Str), codes ("a" : Str)], [], rfl, e2 o _ ho, sq_of (e2 l _ hl), ex_l e2 hq, haa.1, haa.2, by simp, by simp, q'⟩) (ea_cons ev_c ea_nil)) sv_says) (by rw [v1]; rfl)
      have c2 : Ev (tCall spSays [] E0 (tCons (tMeth aCl "shows" (spClShows K aCl) [] E0 (tMake aCl (spIni2 K aCl "one" "other") [] E0 (tCons (tLst (tCons (tC (.int 0)) tNil)) (tCons (tLst (tCons (tC (.int 1)) tNil)) tNil))) (tCons (tLst (tCons (tC (.str ("a" : Str))) (tCons (tC (.str ("a" : Str))) tNil))) tNil)) (tCons (tC (.bl true)) tNil))) [some (.ref s2), some (.ref p), some (tx t), s3] H' (.bl true) :=
        ev_is (ev_call (vs := [.bl (clV [codes ("a" : Str), codes ("a" : Str)] [0] [1]), .bl true]) (ea_cons (ev_mkMth2 (eb2_makeQ (K := K) (xs := [V.int 0]) (ys := [V.int 1]) (eq_new (el_lst (vs := [.int 0]) (ea_cons ev_c ea_nil) (by simp))) (eq_new (el_lst (vs := [.int 1]) (ea_cons ev_c ea_nil) (by simp)))) (by decide +kernel) (by decide +kernel) (gaa _ _) fun o dx l m q H1 ho hl hm hq H2 e2 Q' q' _ => ⟨o, l, m, q, dx, [codes ("a" : Str), codes ("a" : Str)], [0], [1], rfl, e2 o _ ho, sq_of (e2 l _ hl), sq_of (e2 m _ hm), ex_l e2 hq, by simp, by simp, fun _ => by decide +kernel, fun _ => by decide +kernel, q'⟩) (ea_cons ev_c ea_nil)) sv_says) (by rw [v2]; rfl)
      exact s_ret (v := .bl true) (ev_andV c1 fun _ => c2) fun H3 e3 => k H3
end
end Tr


set_option Elab.async false
set_option linter.all false
set_option maxRecDepth 100000
set_option maxHeartbeats 4000000
namespace Tr
open PySem PySem.Spec PyProof.Rows L2 Evl
section
theorem all_mk {l : PySem.W.OpenLaw} {w : World} {K : PySem.W.Frag} {h : Heap} {mg : Str → Option Value} {fa : Addr} (X : K.In h) (G : h.Ns mainGlobals mg) (hfa : mg "law" = some (.ref fa))
    {f_stands : Addr} {od_stands an_stands : Option Addr} {sl_stands : Array (Option Value)} {oc_stands kV_stands dc_stands pm_stands cd_stands ct_stands : Value}
    {f_is_text : Addr} {od_is_text an_is_text : Option Addr} {sl_is_text : Array (Option Value)} {oc_is_text kV_is_text dc_is_text pm_is_text cd_is_text ct_is_text : Value}
    {f_asked_code : Addr} {od_asked_code an_asked_code : Option Addr} {sl_asked_code : Array (Option Value)} {oc_asked_code kV_asked_code dc_asked_code pm_asked_code cd_asked_code ct_asked_code : Value}
    {f_asked_text : Addr} {od_asked_text an_asked_text : Option Addr} {sl_asked_text : Array (Option Value)} {oc_asked_text kV_asked_text dc_asked_text pm_asked_text cd_asked_text ct_asked_text : Value}
    {f_joined : Addr} {od_joined an_joined : Option Addr} {sl_joined : Array (Option Value)} {oc_joined kV_joined dc_joined pm_joined cd_joined ct_joined : Value}
    {f_are_places : Addr} {od_are_places an_are_places : Option Addr} {sl_are_places : Array (Option Value)} {oc_are_places kV_are_places dc_are_places pm_are_places cd_are_places ct_are_places : Value}
    {f_table_of : Addr} {od_table_of an_table_of : Option Addr} {sl_table_of : Array (Option Value)} {oc_table_of kV_table_of dc_table_of pm_table_of cd_table_of ct_table_of : Value}
    {f_nth : Addr} {od_nth an_nth : Option Addr} {sl_nth : Array (Option Value)} {oc_nth kV_nth dc_nth pm_nth cd_nth ct_nth : Value}
    {f_marks_of : Addr} {od_marks_of an_marks_of : Option Addr} {sl_marks_of : Array (Option Value)} {oc_marks_of kV_marks_of dc_marks_of pm_marks_of cd_marks_of ct_marks_of : Value}
    {f_read : Addr} {od_read an_read : Option Addr} {sl_read : Array (Option Value)} {oc_read kV_read dc_read pm_read cd_read ct_read : Value}
    {f_first_tails : Addr} {od_first_tails an_first_tails : Option Addr} {sl_first_tails : Array (Option Value)} {oc_first_tails kV_first_tails dc_first_tails pm_first_tails cd_first_tails ct_first_tails : Value}
    {f_next_tails : Addr} {od_next_tails an_next_tails : Option Addr} {sl_next_tails : Array (Option Value)} {oc_next_tails kV_next_tails dc_next_tails pm_next_tails cd_next_tails ct_next_tails : Value}
    {f_once : Addr} {od_once an_once : Option Addr} {sl_once : Array (Option Value)} {oc_once kV_once dc_once pm_once cd_once ct_once : Value}
    {f__law_code : Addr} {od__law_code an__law_code : Option Addr} {sl__law_code : Array (Option Value)} {oc__law_code kV__law_code dc__law_code pm__law_code cd__law_code ct__law_code : Value}
    {f__law_stands : Addr} {od__law_stands an__law_stands : Option Addr} {sl__law_stands : Array (Option Value)} {oc__law_stands kV__law_stands dc__law_stands pm__law_stands cd__law_stands ct__law_stands : Value}
    {f__law_text : Addr} {od__law_text an__law_text : Option Addr} {sl__law_text : Array (Option Value)} {oc__law_text kV__law_text dc__law_text pm__law_text cd__law_text ct__law_text : Value}
    {f__law_says : Addr} {od__law_says an__law_says : Option Addr} {sl__law_says : Array (Option Value)} {oc__law_says kV__law_says dc__law_says pm__law_says cd__law_says ct__law_says : Value}
    {f__law_bent : Addr} {od__law_bent an__law_bent : Option Addr} {sl__law_bent : Array (Option Value)} {oc__law_bent kV__law_bent dc__law_bent pm__law_bent cd__law_bent ct__law_bent : Value}
    {f__law_made : Addr} {od__law_made an__law_made : Option Addr} {sl__law_made : Array (Option Value)} {oc__law_made kV__law_made dc__law_made pm__law_made cd__law_made ct__law_made : Value}
    {f__law_tails : Addr} {od__law_tails an__law_tails : Option Addr} {sl__law_tails : Array (Option Value)} {oc__law_tails kV__law_tails dc__law_tails pm__law_tails cd__law_tails ct__law_tails : Value}
    {f__law_stuck : Addr} {od__law_stuck an__law_stuck : Option Addr} {sl__law_stuck : Array (Option Value)} {oc__law_stuck kV__law_stuck dc__law_stuck pm__law_stuck cd__law_stuck ct__law_stuck : Value}
    {f__law_beside : Addr} {od__law_beside an__law_beside : Option Addr} {sl__law_beside : Array (Option Value)} {oc__law_beside kV__law_beside dc__law_beside pm__law_beside cd__law_beside ct__law_beside : Value}
    {f__law_codes_right : Addr} {od__law_codes_right an__law_codes_right : Option Addr} {sl__law_codes_right : Array (Option Value)} {oc__law_codes_right kV__law_codes_right dc__law_codes_right pm__law_codes_right cd__law_codes_right ct__law_codes_right : Value}
    {f__law_texts_right : Addr} {od__law_texts_right an__law_texts_right : Option Addr} {sl__law_texts_right : Array (Option Value)} {oc__law_texts_right kV__law_texts_right dc__law_texts_right pm__law_texts_right cd__law_texts_right ct__law_texts_right : Value}
    {f__law_begins_right : Addr} {od__law_begins_right an__law_begins_right : Option Addr} {sl__law_begins_right : Array (Option Value)} {oc__law_begins_right kV__law_begins_right dc__law_begins_right pm__law_begins_right ct__law_begins_right : Value}
    {c_ P_ : Addr} {od_c : Option Addr} {vs_c : Array Value} {sl_c : Array (Option Value)}
    {f__law_words_right : Addr} {od__law_words_right an__law_words_right : Option Addr} {sl__law_words_right : Array (Option Value)} {oc__law_words_right kV__law_words_right dc__law_words_right pm__law_words_right cd__law_words_right ct__law_words_right : Value}
    {f_law : Addr} {od_law an_law : Option Addr} {sl_law : Array (Option Value)} {oc_law kV_law dc_law pm_law cd_law ct_law : Value}
    {aCl : Addr}
    {aTl : Addr}
    {aRd : Addr}
    {aSt : Addr}
    {aBe : Addr}
    {aAp : Addr}
    {aWo : Addr}
    {aFu : Addr}
    {f_Clash___init__ : Addr} {od_Clash___init__ an_Clash___init__ : Option Addr} {sl_Clash___init__ : Array (Option Value)} {oc_Clash___init__ kV_Clash___init__ dc_Clash___init__ pm_Clash___init__ cd_Clash___init__ ct_Clash___init__ : Value}
    {f_Clash_shows : Addr} {od_Clash_shows an_Clash_shows : Option Addr} {sl_Clash_shows : Array (Option Value)} {oc_Clash_shows kV_Clash_shows dc_Clash_shows pm_Clash_shows cd_Clash_shows ct_Clash_shows : Value}
    {f_Tails___init__ : Addr} {od_Tails___init__ an_Tails___init__ : Option Addr} {sl_Tails___init__ : Array (Option Value)} {oc_Tails___init__ kV_Tails___init__ dc_Tails___init__ pm_Tails___init__ cd_Tails___init__ ct_Tails___init__ : Value}
    {f_Tails_shows : Addr} {od_Tails_shows an_Tails_shows : Option Addr} {sl_Tails_shows : Array (Option Value)} {oc_Tails_shows kV_Tails_shows dc_Tails_shows pm_Tails_shows cd_Tails_shows ct_Tails_shows : Value}
    {f_Reading___init__ : Addr} {od_Reading___init__ an_Reading___init__ : Option Addr} {sl_Reading___init__ : Array (Option Value)} {oc_Reading___init__ kV_Reading___init__ dc_Reading___init__ pm_Reading___init__ cd_Reading___init__ ct_Reading___init__ : Value}
    {f_Reading_shows : Addr} {od_Reading_shows an_Reading_shows : Option Addr} {sl_Reading_shows : Array (Option Value)} {oc_Reading_shows kV_Reading_shows dc_Reading_shows pm_Reading_shows cd_Reading_shows ct_Reading_shows : Value}
    {f_Stuck___init__ : Addr} {od_Stuck___init__ an_Stuck___init__ : Option Addr} {sl_Stuck___init__ : Array (Option Value)} {oc_Stuck___init__ kV_Stuck___init__ dc_Stuck___init__ pm_Stuck___init__ cd_Stuck___init__ ct_Stuck___init__ : Value}
    {f_Stuck_shows : Addr} {od_Stuck_shows an_Stuck_shows : Option Addr} {sl_Stuck_shows : Array (Option Value)} {oc_Stuck_shows kV_Stuck_shows dc_Stuck_shows pm_Stuck_shows cd_Stuck_shows ct_Stuck_shows : Value}
    {f_Begins___init__ : Addr} {od_Begins___init__ an_Begins___init__ : Option Addr} {sl_Begins___init__ : Array (Option Value)} {oc_Begins___init__ kV_Begins___init__ dc_Begins___init__ pm_Begins___init__ cd_Begins___init__ ct_Begins___init__ : Value}
    {f_Begins_shows : Addr} {od_Begins_shows an_Begins_shows : Option Addr} {sl_Begins_shows : Array (Option Value)} {oc_Begins_shows kV_Begins_shows dc_Begins_shows pm_Begins_shows cd_Begins_shows ct_Begins_shows : Value}
    {f_Apart___init__ : Addr} {od_Apart___init__ an_Apart___init__ : Option Addr} {sl_Apart___init__ : Array (Option Value)} {oc_Apart___init__ kV_Apart___init__ dc_Apart___init__ pm_Apart___init__ cd_Apart___init__ ct_Apart___init__ : Value}
    {f_Apart_shows : Addr} {od_Apart_shows an_Apart_shows : Option Addr} {sl_Apart_shows : Array (Option Value)} {oc_Apart_shows kV_Apart_shows dc_Apart_shows pm_Apart_shows cd_Apart_shows ct_Apart_shows : Value}
    {f_Words___init__ : Addr} {od_Words___init__ an_Words___init__ : Option Addr} {sl_Words___init__ : Array (Option Value)} {oc_Words___init__ kV_Words___init__ dc_Words___init__ pm_Words___init__ cd_Words___init__ ct_Words___init__ : Value}
    {f_Words_shows : Addr} {od_Words_shows an_Words_shows : Option Addr} {sl_Words_shows : Array (Option Value)} {oc_Words_shows kV_Words_shows dc_Words_shows pm_Words_shows cd_Words_shows ct_Words_shows : Value}
    {f_Full_shows : Addr} {od_Full_shows an_Full_shows : Option Addr} {sl_Full_shows : Array (Option Value)} {oc_Full_shows kV_Full_shows dc_Full_shows pm_Full_shows cd_Full_shows ct_Full_shows : Value}
    {tL : Tok}
    (a_stands : PySem.W.nsIn K mainGlobals "stands" = some (some (.ref f_stands)))
    (l_stands : K.lookup f_stands = some ⟨oc_stands, od_stands, .func (PySem.W.fnOf "stands" "stands" (defArgs s_stands) (defBody s_stands) (defScope s_stands) .none kV_stands dc_stands pm_stands an_stands cd_stands ct_stands), sl_stands⟩)
    (c_stands : PySem.W.codeIn K cd_stands "stands" = true)
    (k_stands : PySem.W.keepIn K (.ref f_stands) = true)
    (a_is_text : PySem.W.nsIn K mainGlobals "is_text" = some (some (.ref f_is_text)))
    (l_is_text : K.lookup f_is_text = some ⟨oc_is_text, od_is_text, .func (PySem.W.fnOf "is_text" "is_text" (defArgs s_is_text) (defBody s_is_text) (defScope s_is_text) .none kV_is_text dc_is_text pm_is_text an_is_text cd_is_text ct_is_text), sl_is_text⟩)
    (c_is_text : PySem.W.codeIn K cd_is_text "is_text" = true)
    (k_is_text : PySem.W.keepIn K (.ref f_is_text) = true)
    (a_asked_code : PySem.W.nsIn K mainGlobals "asked_code" = some (some (.ref f_asked_code)))
    (l_asked_code : K.lookup f_asked_code = some ⟨oc_asked_code, od_asked_code, .func (PySem.W.fnOf "asked_code" "asked_code" (defArgs s_asked_code) (defBody s_asked_code) (defScope s_asked_code) .none kV_asked_code dc_asked_code pm_asked_code an_asked_code cd_asked_code ct_asked_code), sl_asked_code⟩)
    (c_asked_code : PySem.W.codeIn K cd_asked_code "asked_code" = true)
    (k_asked_code : PySem.W.keepIn K (.ref f_asked_code) = true)
    (a_asked_text : PySem.W.nsIn K mainGlobals "asked_text" = some (some (.ref f_asked_text)))
    (l_asked_text : K.lookup f_asked_text = some ⟨oc_asked_text, od_asked_text, .func (PySem.W.fnOf "asked_text" "asked_text" (defArgs s_asked_text) (defBody s_asked_text) (defScope s_asked_text) .none kV_asked_text dc_asked_text pm_asked_text an_asked_text cd_asked_text ct_asked_text), sl_asked_text⟩)
    (c_asked_text : PySem.W.codeIn K cd_asked_text "asked_text" = true)
    (k_asked_text : PySem.W.keepIn K (.ref f_asked_text) = true)
    (a_joined : PySem.W.nsIn K mainGlobals "joined" = some (some (.ref f_joined)))
    (l_joined : K.lookup f_joined = some ⟨oc_joined, od_joined, .func (PySem.W.fnOf "joined" "joined" (defArgs s_joined) (defBody s_joined) (defScope s_joined) .none kV_joined dc_joined pm_joined an_joined cd_joined ct_joined), sl_joined⟩)
    (c_joined : PySem.W.codeIn K cd_joined "joined" = true)
    (k_joined : PySem.W.keepIn K (.ref f_joined) = true)
    (a_are_places : PySem.W.nsIn K mainGlobals "are_places" = some (some (.ref f_are_places)))
    (l_are_places : K.lookup f_are_places = some ⟨oc_are_places, od_are_places, .func (PySem.W.fnOf "are_places" "are_places" (defArgs s_are_places) (defBody s_are_places) (defScope s_are_places) .none kV_are_places dc_are_places pm_are_places an_are_places cd_are_places ct_are_places), sl_are_places⟩)
    (c_are_places : PySem.W.codeIn K cd_are_places "are_places" = true)
    (k_are_places : PySem.W.keepIn K (.ref f_are_places) = true)
    (a_table_of : PySem.W.nsIn K mainGlobals "table_of" = some (some (.ref f_table_of)))
    (l_table_of : K.lookup f_table_of = some ⟨oc_table_of, od_table_of, .func (PySem.W.fnOf "table_of" "table_of" (defArgs s_table_of) (defBody s_table_of) (defScope s_table_of) .none kV_table_of dc_table_of pm_table_of an_table_of cd_table_of ct_table_of), sl_table_of⟩)
    (c_table_of : PySem.W.codeIn K cd_table_of "table_of" = true)
    (k_table_of : PySem.W.keepIn K (.ref f_table_of) = true)
    (a_nth : PySem.W.nsIn K mainGlobals "nth" = some (some (.ref f_nth)))
    (l_nth : K.lookup f_nth = some ⟨oc_nth, od_nth, .func (PySem.W.fnOf "nth" "nth" (defArgs s_nth) (defBody s_nth) (defScope s_nth) .none kV_nth dc_nth pm_nth an_nth cd_nth ct_nth), sl_nth⟩)
    (c_nth : PySem.W.codeIn K cd_nth "nth" = true)
    (k_nth : PySem.W.keepIn K (.ref f_nth) = true)
    (a_marks_of : PySem.W.nsIn K mainGlobals "marks_of" = some (some (.ref f_marks_of)))
    (l_marks_of : K.lookup f_marks_of = some ⟨oc_marks_of, od_marks_of, .func (PySem.W.fnOf "marks_of" "marks_of" (defArgs s_marks_of) (defBody s_marks_of) (defScope s_marks_of) .none kV_marks_of dc_marks_of pm_marks_of an_marks_of cd_marks_of ct_marks_of), sl_marks_of⟩)
    (c_marks_of : PySem.W.codeIn K cd_marks_of "marks_of" = true)
    (k_marks_of : PySem.W.keepIn K (.ref f_marks_of) = true)
    (a_read : PySem.W.nsIn K mainGlobals "read" = some (some (.ref f_read)))
    (l_read : K.lookup f_read = some ⟨oc_read, od_read, .func (PySem.W.fnOf "read" "read" (defArgs s_read) (defBody s_read) (defScope s_read) .none kV_read dc_read pm_read an_read cd_read ct_read), sl_read⟩)
    (c_read : PySem.W.codeIn K cd_read "read" = true)
    (k_read : PySem.W.keepIn K (.ref f_read) = true)
    (a_first_tails : PySem.W.nsIn K mainGlobals "first_tails" = some (some (.ref f_first_tails)))
    (l_first_tails : K.lookup f_first_tails = some ⟨oc_first_tails, od_first_tails, .func (PySem.W.fnOf "first_tails" "first_tails" (defArgs s_first_tails) (defBody s_first_tails) (defScope s_first_tails) .none kV_first_tails dc_first_tails pm_first_tails an_first_tails cd_first_tails ct_first_tails), sl_first_tails⟩)
    (c_first_tails : PySem.W.codeIn K cd_first_tails "first_tails" = true)
    (k_first_tails : PySem.W.keepIn K (.ref f_first_tails) = true)
    (a_next_tails : PySem.W.nsIn K mainGlobals "next_tails" = some (some (.ref f_next_tails)))
    (l_next_tails : K.lookup f_next_tails = some ⟨oc_next_tails, od_next_tails, .func (PySem.W.fnOf "next_tails" "next_tails" (defArgs s_next_tails) (defBody s_next_tails) (defScope s_next_tails) .none kV_next_tails dc_next_tails pm_next_tails an_next_tails cd_next_tails ct_next_tails), sl_next_tails⟩)
    (c_next_tails : PySem.W.codeIn K cd_next_tails "next_tails" = true)
    (k_next_tails : PySem.W.keepIn K (.ref f_next_tails) = true)
    (a_once : PySem.W.nsIn K mainGlobals "once" = some (some (.ref f_once)))
    (l_once : K.lookup f_once = some ⟨oc_once, od_once, .func (PySem.W.fnOf "once" "once" (defArgs s_once) (defBody s_once) (defScope s_once) .none kV_once dc_once pm_once an_once cd_once ct_once), sl_once⟩)
    (c_once : PySem.W.codeIn K cd_once "once" = true)
    (k_once : PySem.W.keepIn K (.ref f_once) = true)
    (a__law_code : PySem.W.nsIn K mainGlobals "_law_code" = some (some (.ref f__law_code)))
    (l__law_code : K.lookup f__law_code = some ⟨oc__law_code, od__law_code, .func (PySem.W.fnOf "_law_code" "_law_code" (defArgs s__law_code) (defBody s__law_code) (defScope s__law_code) .none kV__law_code dc__law_code pm__law_code an__law_code cd__law_code ct__law_code), sl__law_code⟩)
    (c__law_code : PySem.W.codeIn K cd__law_code "_law_code" = true)
    (k__law_code : PySem.W.keepIn K (.ref f__law_code) = true)
    (a__law_stands : PySem.W.nsIn K mainGlobals "_law_stands" = some (some (.ref f__law_stands)))
    (l__law_stands : K.lookup f__law_stands = some ⟨oc__law_stands, od__law_stands, .func (PySem.W.fnOf "_law_stands" "_law_stands" (defArgs s__law_stands) (defBody s__law_stands) (defScope s__law_stands) .none kV__law_stands dc__law_stands pm__law_stands an__law_stands cd__law_stands ct__law_stands), sl__law_stands⟩)
    (c__law_stands : PySem.W.codeIn K cd__law_stands "_law_stands" = true)
    (k__law_stands : PySem.W.keepIn K (.ref f__law_stands) = true)
    (a__law_text : PySem.W.nsIn K mainGlobals "_law_text" = some (some (.ref f__law_text)))
    (l__law_text : K.lookup f__law_text = some ⟨oc__law_text, od__law_text, .func (PySem.W.fnOf "_law_text" "_law_text" (defArgs s__law_text) (defBody s__law_text) (defScope s__law_text) .none kV__law_text dc__law_text pm__law_text an__law_text cd__law_text ct__law_text), sl__law_text⟩)
    (c__law_text : PySem.W.codeIn K cd__law_text "_law_text" = true)
    (k__law_text : PySem.W.keepIn K (.ref f__law_text) = true)
    (a__law_says : PySem.W.nsIn K mainGlobals "_law_says" = some (some (.ref f__law_says)))
    (l__law_says : K.lookup f__law_says = some ⟨oc__law_says, od__law_says, .func (PySem.W.fnOf "_law_says" "_law_says" (defArgs s__law_says) (defBody s__law_says) (defScope s__law_says) .none kV__law_says dc__law_says pm__law_says an__law_says cd__law_says ct__law_says), sl__law_says⟩)
    (c__law_says : PySem.W.codeIn K cd__law_says "_law_says" = true)
    (k__law_says : PySem.W.keepIn K (.ref f__law_says) = true)
    (a__law_bent : PySem.W.nsIn K mainGlobals "_law_bent" = some (some (.ref f__law_bent)))
    (l__law_bent : K.lookup f__law_bent = some ⟨oc__law_bent, od__law_bent, .func (PySem.W.fnOf "_law_bent" "_law_bent" (defArgs s__law_bent) (defBody s__law_bent) (defScope s__law_bent) .none kV__law_bent dc__law_bent pm__law_bent an__law_bent cd__law_bent ct__law_bent), sl__law_bent⟩)
    (c__law_bent : PySem.W.codeIn K cd__law_bent "_law_bent" = true)
    (k__law_bent : PySem.W.keepIn K (.ref f__law_bent) = true)
    (a__law_made : PySem.W.nsIn K mainGlobals "_law_made" = some (some (.ref f__law_made)))
    (l__law_made : K.lookup f__law_made = some ⟨oc__law_made, od__law_made, .func (PySem.W.fnOf "_law_made" "_law_made" (defArgs s__law_made) (defBody s__law_made) (defScope s__law_made) .none kV__law_made dc__law_made pm__law_made an__law_made cd__law_made ct__law_made), sl__law_made⟩)
    (c__law_made : PySem.W.codeIn K cd__law_made "_law_made" = true)
    (k__law_made : PySem.W.keepIn K (.ref f__law_made) = true)
    (a__law_tails : PySem.W.nsIn K mainGlobals "_law_tails" = some (some (.ref f__law_tails)))
    (l__law_tails : K.lookup f__law_tails = some ⟨oc__law_tails, od__law_tails, .func (PySem.W.fnOf "_law_tails" "_law_tails" (defArgs s__law_tails) (defBody s__law_tails) (defScope s__law_tails) .none kV__law_tails dc__law_tails pm__law_tails an__law_tails cd__law_tails ct__law_tails), sl__law_tails⟩)
    (c__law_tails : PySem.W.codeIn K cd__law_tails "_law_tails" = true)
    (k__law_tails : PySem.W.keepIn K (.ref f__law_tails) = true)
    (a__law_stuck : PySem.W.nsIn K mainGlobals "_law_stuck" = some (some (.ref f__law_stuck)))
    (l__law_stuck : K.lookup f__law_stuck = some ⟨oc__law_stuck, od__law_stuck, .func (PySem.W.fnOf "_law_stuck" "_law_stuck" (defArgs s__law_stuck) (defBody s__law_stuck) (defScope s__law_stuck) .none kV__law_stuck dc__law_stuck pm__law_stuck an__law_stuck cd__law_stuck ct__law_stuck), sl__law_stuck⟩)
    (c__law_stuck : PySem.W.codeIn K cd__law_stuck "_law_stuck" = true)
    (k__law_stuck : PySem.W.keepIn K (.ref f__law_stuck) = true)
    (a__law_beside : PySem.W.nsIn K mainGlobals "_law_beside" = some (some (.ref f__law_beside)))
    (l__law_beside : K.lookup f__law_beside = some ⟨oc__law_beside, od__law_beside, .func (PySem.W.fnOf "_law_beside" "_law_beside" (defArgs s__law_beside) (defBody s__law_beside) (defScope s__law_beside) .none kV__law_beside dc__law_beside pm__law_beside an__law_beside cd__law_beside ct__law_beside), sl__law_beside⟩)
    (c__law_beside : PySem.W.codeIn K cd__law_beside "_law_beside" = true)
    (k__law_beside : PySem.W.keepIn K (.ref f__law_beside) = true)
    (a__law_codes_right : PySem.W.nsIn K mainGlobals "_law_codes_right" = some (some (.ref f__law_codes_right)))
    (l__law_codes_right : K.lookup f__law_codes_right = some ⟨oc__law_codes_right, od__law_codes_right, .func (PySem.W.fnOf "_law_codes_right" "_law_codes_right" (defArgs s__law_codes_right) (defBody s__law_codes_right) (defScope s__law_codes_right) .none kV__law_codes_right dc__law_codes_right pm__law_codes_right an__law_codes_right cd__law_codes_right ct__law_codes_right), sl__law_codes_right⟩)
    (c__law_codes_right : PySem.W.codeIn K cd__law_codes_right "_law_codes_right" = true)
    (k__law_codes_right : PySem.W.keepIn K (.ref f__law_codes_right) = true)
    (a__law_texts_right : PySem.W.nsIn K mainGlobals "_law_texts_right" = some (some (.ref f__law_texts_right)))
    (l__law_texts_right : K.lookup f__law_texts_right = some ⟨oc__law_texts_right, od__law_texts_right, .func (PySem.W.fnOf "_law_texts_right" "_law_texts_right" (defArgs s__law_texts_right) (defBody s__law_texts_right) (defScope s__law_texts_right) .none kV__law_texts_right dc__law_texts_right pm__law_texts_right an__law_texts_right cd__law_texts_right ct__law_texts_right), sl__law_texts_right⟩)
    (c__law_texts_right : PySem.W.codeIn K cd__law_texts_right "_law_texts_right" = true)
    (k__law_texts_right : PySem.W.keepIn K (.ref f__law_texts_right) = true)
    (a__law_begins_right : PySem.W.nsIn K mainGlobals "_law_begins_right" = some (some (.ref f__law_begins_right)))
    (l__law_begins_right : K.lookup f__law_begins_right = some ⟨oc__law_begins_right, od__law_begins_right, .func (PySem.W.fnOf "_law_begins_right" "_law_begins_right" (defArgs s__law_begins_right) (defBody s__law_begins_right) (defScope s__law_begins_right) .none kV__law_begins_right dc__law_begins_right pm__law_begins_right an__law_begins_right (.ref c_) ct__law_begins_right), sl__law_begins_right⟩)
    (c__law_begins_right : PySem.W.codeIn K (.ref c_) "_law_begins_right" = true)
    (k__law_begins_right : PySem.W.keepIn K (.ref f__law_begins_right) = true)
    (code_c : K.lookup c_ = some ⟨.type "code", od_c, .fields vs_c, sl_c⟩)
    (code_P : (vs_c[11]? : Option Value) = some (.ref P_))
    (code_hd : PySem.W.codeHdIn K c_ P_ = true)
    (code_no : K.lookup P_ = none)
    (code_at : h.get? P_ = some (PySem.W.tabObj #[]))
    (a__law_words_right : PySem.W.nsIn K mainGlobals "_law_words_right" = some (some (.ref f__law_words_right)))
    (l__law_words_right : K.lookup f__law_words_right = some ⟨oc__law_words_right, od__law_words_right, .func (PySem.W.fnOf "_law_words_right" "_law_words_right" (defArgs s__law_words_right) (defBody s__law_words_right) (defScope s__law_words_right) .none kV__law_words_right dc__law_words_right pm__law_words_right an__law_words_right cd__law_words_right ct__law_words_right), sl__law_words_right⟩)
    (c__law_words_right : PySem.W.codeIn K cd__law_words_right "_law_words_right" = true)
    (k__law_words_right : PySem.W.keepIn K (.ref f__law_words_right) = true)
    (a_law : PySem.W.nsIn K mainGlobals "law" = some (some (.ref f_law)))
    (l_law : K.lookup f_law = some ⟨oc_law, od_law, .func (PySem.W.fnOf "law" "law" (defArgs s_law) (defBody s_law) (defScope s_law) .none kV_law dc_law pm_law an_law cd_law ct_law), sl_law⟩)
    (c_law : PySem.W.codeIn K cd_law "law" = true)
    (k_law : PySem.W.keepIn K (.ref f_law) = true)
    (g_Clash : PySem.W.nsIn K mainGlobals "Clash" = some (some (.ref aCl)))
    (g_Tails : PySem.W.nsIn K mainGlobals "Tails" = some (some (.ref aTl)))
    (g_Reading : PySem.W.nsIn K mainGlobals "Reading" = some (some (.ref aRd)))
    (g_Stuck : PySem.W.nsIn K mainGlobals "Stuck" = some (some (.ref aSt)))
    (g_Begins : PySem.W.nsIn K mainGlobals "Begins" = some (some (.ref aBe)))
    (g_Apart : PySem.W.nsIn K mainGlobals "Apart" = some (some (.ref aAp)))
    (g_Words : PySem.W.nsIn K mainGlobals "Words" = some (some (.ref aWo)))
    (g_Full : PySem.W.nsIn K mainGlobals "Full" = some (some (.ref aFu)))
    (e6 : PySem.W.specialIn K (.builtin "object.__class__") "__get__" = some (some (.builtin "getset_descriptor.__get__")))
    (e7 : PySem.W.takesIn K (.builtin "object.__class__") = some true)
    (q1_Clash : PySem.W.plainGet K aCl Str.empty = true)
    (q2_Clash : PySem.W.hasDictIn K aCl = true)
    (q3_Clash : PySem.W.plainOver K aCl = true)
    (q4_Clash : PySem.W.findIn K (.ref aCl) "__setattr__" = some (some (.builtin "object.__setattr__")))
    (q5_Clash : PySem.W.findIn K (.ref aCl) "__class__" = some (some (.builtin "object.__class__")))
    (q6_Clash : PySem.W.mroIn K aCl (.type "object") = some true)
    (q7_Clash : PySem.W.makesIn K aCl = true)
    (q8_Clash : PySem.W.keepIn K (.ref aCl) = true)
    (n_Clash_one : PySem.W.findIn K (.ref aCl) "one" = some none)
    (n_Clash_other : PySem.W.findIn K (.ref aCl) "other" = some none)
    (i_Clash___init__ : PySem.W.findIn K (.ref aCl) "__init__" = some (some (.ref f_Clash___init__)))
    (w_Clash___init__ : PySem.W.isFn K (.ref f_Clash___init__) = true)
    (l_Clash___init__ : K.lookup f_Clash___init__ = some ⟨oc_Clash___init__, od_Clash___init__, .func (PySem.W.fnOf "__init__" "Clash.__init__" (defArgs s_Clash___init__) (defBody s_Clash___init__) (defScope s_Clash___init__) .none kV_Clash___init__ dc_Clash___init__ pm_Clash___init__ an_Clash___init__ cd_Clash___init__ ct_Clash___init__), sl_Clash___init__⟩)
    (c_Clash___init__ : PySem.W.codeIn K cd_Clash___init__ "Clash.__init__" = true)
    (k_Clash___init__ : PySem.W.keepIn K (.ref f_Clash___init__) = true)
    (i_Clash_shows : PySem.W.findIn K (.ref aCl) "shows" = some (some (.ref f_Clash_shows)))
    (w_Clash_shows : PySem.W.isFn K (.ref f_Clash_shows) = true)
    (l_Clash_shows : K.lookup f_Clash_shows = some ⟨oc_Clash_shows, od_Clash_shows, .func (PySem.W.fnOf "shows" "Clash.shows" (defArgs s_Clash_shows) (defBody s_Clash_shows) (defScope s_Clash_shows) .none kV_Clash_shows dc_Clash_shows pm_Clash_shows an_Clash_shows cd_Clash_shows ct_Clash_shows), sl_Clash_shows⟩)
    (c_Clash_shows : PySem.W.codeIn K cd_Clash_shows "Clash.shows" = true)
    (k_Clash_shows : PySem.W.keepIn K (.ref f_Clash_shows) = true)
    (q1_Tails : PySem.W.plainGet K aTl Str.empty = true)
    (q2_Tails : PySem.W.hasDictIn K aTl = true)
    (q3_Tails : PySem.W.plainOver K aTl = true)
    (q4_Tails : PySem.W.findIn K (.ref aTl) "__setattr__" = some (some (.builtin "object.__setattr__")))
    (q5_Tails : PySem.W.findIn K (.ref aTl) "__class__" = some (some (.builtin "object.__class__")))
    (q6_Tails : PySem.W.mroIn K aTl (.type "object") = some true)
    (q7_Tails : PySem.W.makesIn K aTl = true)
    (q8_Tails : PySem.W.keepIn K (.ref aTl) = true)
    (n_Tails_tails : PySem.W.findIn K (.ref aTl) "tails" = some none)
    (i_Tails___init__ : PySem.W.findIn K (.ref aTl) "__init__" = some (some (.ref f_Tails___init__)))
    (w_Tails___init__ : PySem.W.isFn K (.ref f_Tails___init__) = true)
    (l_Tails___init__ : K.lookup f_Tails___init__ = some ⟨oc_Tails___init__, od_Tails___init__, .func (PySem.W.fnOf "__init__" "Tails.__init__" (defArgs s_Tails___init__) (defBody s_Tails___init__) (defScope s_Tails___init__) .none kV_Tails___init__ dc_Tails___init__ pm_Tails___init__ an_Tails___init__ cd_Tails___init__ ct_Tails___init__), sl_Tails___init__⟩)
    (c_Tails___init__ : PySem.W.codeIn K cd_Tails___init__ "Tails.__init__" = true)
    (k_Tails___init__ : PySem.W.keepIn K (.ref f_Tails___init__) = true)
    (i_Tails_shows : PySem.W.findIn K (.ref aTl) "shows" = some (some (.ref f_Tails_shows)))
    (w_Tails_shows : PySem.W.isFn K (.ref f_Tails_shows) = true)
    (l_Tails_shows : K.lookup f_Tails_shows = some ⟨oc_Tails_shows, od_Tails_shows, .func (PySem.W.fnOf "shows" "Tails.shows" (defArgs s_Tails_shows) (defBody s_Tails_shows) (defScope s_Tails_shows) .none kV_Tails_shows dc_Tails_shows pm_Tails_shows an_Tails_shows cd_Tails_shows ct_Tails_shows), sl_Tails_shows⟩)
    (c_Tails_shows : PySem.W.codeIn K cd_Tails_shows "Tails.shows" = true)
    (k_Tails_shows : PySem.W.keepIn K (.ref f_Tails_shows) = true)
    (q1_Reading : PySem.W.plainGet K aRd Str.empty = true)
    (q2_Reading : PySem.W.hasDictIn K aRd = true)
    (q3_Reading : PySem.W.plainOver K aRd = true)
    (q4_Reading : PySem.W.findIn K (.ref aRd) "__setattr__" = some (some (.builtin "object.__setattr__")))
    (q5_Reading : PySem.W.findIn K (.ref aRd) "__class__" = some (some (.builtin "object.__class__")))
    (q6_Reading : PySem.W.mroIn K aRd (.type "object") = some true)
    (q7_Reading : PySem.W.makesIn K aRd = true)
    (q8_Reading : PySem.W.keepIn K (.ref aRd) = true)
    (n_Reading_places : PySem.W.findIn K (.ref aRd) "places" = some none)
    (i_Reading___init__ : PySem.W.findIn K (.ref aRd) "__init__" = some (some (.ref f_Reading___init__)))
    (w_Reading___init__ : PySem.W.isFn K (.ref f_Reading___init__) = true)
    (l_Reading___init__ : K.lookup f_Reading___init__ = some ⟨oc_Reading___init__, od_Reading___init__, .func (PySem.W.fnOf "__init__" "Reading.__init__" (defArgs s_Reading___init__) (defBody s_Reading___init__) (defScope s_Reading___init__) .none kV_Reading___init__ dc_Reading___init__ pm_Reading___init__ an_Reading___init__ cd_Reading___init__ ct_Reading___init__), sl_Reading___init__⟩)
    (c_Reading___init__ : PySem.W.codeIn K cd_Reading___init__ "Reading.__init__" = true)
    (k_Reading___init__ : PySem.W.keepIn K (.ref f_Reading___init__) = true)
    (i_Reading_shows : PySem.W.findIn K (.ref aRd) "shows" = some (some (.ref f_Reading_shows)))
    (w_Reading_shows : PySem.W.isFn K (.ref f_Reading_shows) = true)
    (l_Reading_shows : K.lookup f_Reading_shows = some ⟨oc_Reading_shows, od_Reading_shows, .func (PySem.W.fnOf "shows" "Reading.shows" (defArgs s_Reading_shows) (defBody s_Reading_shows) (defScope s_Reading_shows) .none kV_Reading_shows dc_Reading_shows pm_Reading_shows an_Reading_shows cd_Reading_shows ct_Reading_shows), sl_Reading_shows⟩)
    (c_Reading_shows : PySem.W.codeIn K cd_Reading_shows "Reading.shows" = true)
    (k_Reading_shows : PySem.W.keepIn K (.ref f_Reading_shows) = true)
    (q1_Stuck : PySem.W.plainGet K aSt Str.empty = true)
    (q2_Stuck : PySem.W.hasDictIn K aSt = true)
    (q3_Stuck : PySem.W.plainOver K aSt = true)
    (q4_Stuck : PySem.W.findIn K (.ref aSt) "__setattr__" = some (some (.builtin "object.__setattr__")))
    (q5_Stuck : PySem.W.findIn K (.ref aSt) "__class__" = some (some (.builtin "object.__class__")))
    (q6_Stuck : PySem.W.mroIn K aSt (.type "object") = some true)
    (q7_Stuck : PySem.W.makesIn K aSt = true)
    (q8_Stuck : PySem.W.keepIn K (.ref aSt) = true)
    (n_Stuck_marks : PySem.W.findIn K (.ref aSt) "marks" = some none)
    (i_Stuck___init__ : PySem.W.findIn K (.ref aSt) "__init__" = some (some (.ref f_Stuck___init__)))
    (w_Stuck___init__ : PySem.W.isFn K (.ref f_Stuck___init__) = true)
    (l_Stuck___init__ : K.lookup f_Stuck___init__ = some ⟨oc_Stuck___init__, od_Stuck___init__, .func (PySem.W.fnOf "__init__" "Stuck.__init__" (defArgs s_Stuck___init__) (defBody s_Stuck___init__) (defScope s_Stuck___init__) .none kV_Stuck___init__ dc_Stuck___init__ pm_Stuck___init__ an_Stuck___init__ cd_Stuck___init__ ct_Stuck___init__), sl_Stuck___init__⟩)
    (c_Stuck___init__ : PySem.W.codeIn K cd_Stuck___init__ "Stuck.__init__" = true)
    (k_Stuck___init__ : PySem.W.keepIn K (.ref f_Stuck___init__) = true)
    (i_Stuck_shows : PySem.W.findIn K (.ref aSt) "shows" = some (some (.ref f_Stuck_shows)))
    (w_Stuck_shows : PySem.W.isFn K (.ref f_Stuck_shows) = true)
    (l_Stuck_shows : K.lookup f_Stuck_shows = some ⟨oc_Stuck_shows, od_Stuck_shows, .func (PySem.W.fnOf "shows" "Stuck.shows" (defArgs s_Stuck_shows) (defBody s_Stuck_shows) (defScope s_Stuck_shows) .none kV_Stuck_shows dc_Stuck_shows pm_Stuck_shows an_Stuck_shows cd_Stuck_shows ct_Stuck_shows), sl_Stuck_shows⟩)
    (c_Stuck_shows : PySem.W.codeIn K cd_Stuck_shows "Stuck.shows" = true)
    (k_Stuck_shows : PySem.W.keepIn K (.ref f_Stuck_shows) = true)
    (q1_Begins : PySem.W.plainGet K aBe Str.empty = true)
    (q2_Begins : PySem.W.hasDictIn K aBe = true)
    (q3_Begins : PySem.W.plainOver K aBe = true)
    (q4_Begins : PySem.W.findIn K (.ref aBe) "__setattr__" = some (some (.builtin "object.__setattr__")))
    (q5_Begins : PySem.W.findIn K (.ref aBe) "__class__" = some (some (.builtin "object.__class__")))
    (q6_Begins : PySem.W.mroIn K aBe (.type "object") = some true)
    (q7_Begins : PySem.W.makesIn K aBe = true)
    (q8_Begins : PySem.W.keepIn K (.ref aBe) = true)
    (n_Begins_one : PySem.W.findIn K (.ref aBe) "one" = some none)
    (n_Begins_other : PySem.W.findIn K (.ref aBe) "other" = some none)
    (i_Begins___init__ : PySem.W.findIn K (.ref aBe) "__init__" = some (some (.ref f_Begins___init__)))
    (w_Begins___init__ : PySem.W.isFn K (.ref f_Begins___init__) = true)
    (l_Begins___init__ : K.lookup f_Begins___init__ = some ⟨oc_Begins___init__, od_Begins___init__, .func (PySem.W.fnOf "__init__" "Begins.__init__" (defArgs s_Begins___init__) (defBody s_Begins___init__) (defScope s_Begins___init__) .none kV_Begins___init__ dc_Begins___init__ pm_Begins___init__ an_Begins___init__ cd_Begins___init__ ct_Begins___init__), sl_Begins___init__⟩)
    (c_Begins___init__ : PySem.W.codeIn K cd_Begins___init__ "Begins.__init__" = true)
    (k_Begins___init__ : PySem.W.keepIn K (.ref f_Begins___init__) = true)
    (i_Begins_shows : PySem.W.findIn K (.ref aBe) "shows" = some (some (.ref f_Begins_shows)))
    (w_Begins_shows : PySem.W.isFn K (.ref f_Begins_shows) = true)
    (l_Begins_shows : K.lookup f_Begins_shows = some ⟨oc_Begins_shows, od_Begins_shows, .func (PySem.W.fnOf "shows" "Begins.shows" (defArgs s_Begins_shows) (defBody s_Begins_shows) (defScope s_Begins_shows) .none kV_Begins_shows dc_Begins_shows pm_Begins_shows an_Begins_shows cd_Begins_shows ct_Begins_shows), sl_Begins_shows⟩)
    (c_Begins_shows : PySem.W.codeIn K cd_Begins_shows "Begins.shows" = true)
    (k_Begins_shows : PySem.W.keepIn K (.ref f_Begins_shows) = true)
    (q1_Apart : PySem.W.plainGet K aAp Str.empty = true)
    (q2_Apart : PySem.W.hasDictIn K aAp = true)
    (q3_Apart : PySem.W.plainOver K aAp = true)
    (q4_Apart : PySem.W.findIn K (.ref aAp) "__setattr__" = some (some (.builtin "object.__setattr__")))
    (q5_Apart : PySem.W.findIn K (.ref aAp) "__class__" = some (some (.builtin "object.__class__")))
    (q6_Apart : PySem.W.mroIn K aAp (.type "object") = some true)
    (q7_Apart : PySem.W.makesIn K aAp = true)
    (q8_Apart : PySem.W.keepIn K (.ref aAp) = true)
    (n_Apart_order : PySem.W.findIn K (.ref aAp) "order" = some none)
    (i_Apart___init__ : PySem.W.findIn K (.ref aAp) "__init__" = some (some (.ref f_Apart___init__)))
    (w_Apart___init__ : PySem.W.isFn K (.ref f_Apart___init__) = true)
    (l_Apart___init__ : K.lookup f_Apart___init__ = some ⟨oc_Apart___init__, od_Apart___init__, .func (PySem.W.fnOf "__init__" "Apart.__init__" (defArgs s_Apart___init__) (defBody s_Apart___init__) (defScope s_Apart___init__) .none kV_Apart___init__ dc_Apart___init__ pm_Apart___init__ an_Apart___init__ cd_Apart___init__ ct_Apart___init__), sl_Apart___init__⟩)
    (c_Apart___init__ : PySem.W.codeIn K cd_Apart___init__ "Apart.__init__" = true)
    (k_Apart___init__ : PySem.W.keepIn K (.ref f_Apart___init__) = true)
    (i_Apart_shows : PySem.W.findIn K (.ref aAp) "shows" = some (some (.ref f_Apart_shows)))
    (w_Apart_shows : PySem.W.isFn K (.ref f_Apart_shows) = true)
    (l_Apart_shows : K.lookup f_Apart_shows = some ⟨oc_Apart_shows, od_Apart_shows, .func (PySem.W.fnOf "shows" "Apart.shows" (defArgs s_Apart_shows) (defBody s_Apart_shows) (defScope s_Apart_shows) .none kV_Apart_shows dc_Apart_shows pm_Apart_shows an_Apart_shows cd_Apart_shows ct_Apart_shows), sl_Apart_shows⟩)
    (c_Apart_shows : PySem.W.codeIn K cd_Apart_shows "Apart.shows" = true)
    (k_Apart_shows : PySem.W.keepIn K (.ref f_Apart_shows) = true)
    (q1_Words : PySem.W.plainGet K aWo Str.empty = true)
    (q2_Words : PySem.W.hasDictIn K aWo = true)
    (q3_Words : PySem.W.plainOver K aWo = true)
    (q4_Words : PySem.W.findIn K (.ref aWo) "__setattr__" = some (some (.builtin "object.__setattr__")))
    (q5_Words : PySem.W.findIn K (.ref aWo) "__class__" = some (some (.builtin "object.__class__")))
    (q6_Words : PySem.W.mroIn K aWo (.type "object") = some true)
    (q7_Words : PySem.W.makesIn K aWo = true)
    (q8_Words : PySem.W.keepIn K (.ref aWo) = true)
    (n_Words_words : PySem.W.findIn K (.ref aWo) "words" = some none)
    (i_Words___init__ : PySem.W.findIn K (.ref aWo) "__init__" = some (some (.ref f_Words___init__)))
    (w_Words___init__ : PySem.W.isFn K (.ref f_Words___init__) = true)
    (l_Words___init__ : K.lookup f_Words___init__ = some ⟨oc_Words___init__, od_Words___init__, .func (PySem.W.fnOf "__init__" "Words.__init__" (defArgs s_Words___init__) (defBody s_Words___init__) (defScope s_Words___init__) .none kV_Words___init__ dc_Words___init__ pm_Words___init__ an_Words___init__ cd_Words___init__ ct_Words___init__), sl_Words___init__⟩)
    (c_Words___init__ : PySem.W.codeIn K cd_Words___init__ "Words.__init__" = true)
    (k_Words___init__ : PySem.W.keepIn K (.ref f_Words___init__) = true)
    (i_Words_shows : PySem.W.findIn K (.ref aWo) "shows" = some (some (.ref f_Words_shows)))
    (w_Words_shows : PySem.W.isFn K (.ref f_Words_shows) = true)
    (l_Words_shows : K.lookup f_Words_shows = some ⟨oc_Words_shows, od_Words_shows, .func (PySem.W.fnOf "shows" "Words.shows" (defArgs s_Words_shows) (defBody s_Words_shows) (defScope s_Words_shows) .none kV_Words_shows dc_Words_shows pm_Words_shows an_Words_shows cd_Words_shows ct_Words_shows), sl_Words_shows⟩)
    (c_Words_shows : PySem.W.codeIn K cd_Words_shows "Words.shows" = true)
    (k_Words_shows : PySem.W.keepIn K (.ref f_Words_shows) = true)
    (q1_Full : PySem.W.plainGet K aFu Str.empty = true)
    (q2_Full : PySem.W.hasDictIn K aFu = true)
    (q3_Full : PySem.W.plainOver K aFu = true)
    (q4_Full : PySem.W.findIn K (.ref aFu) "__setattr__" = some (some (.builtin "object.__setattr__")))
    (q5_Full : PySem.W.findIn K (.ref aFu) "__class__" = some (some (.builtin "object.__class__")))
    (q6_Full : PySem.W.mroIn K aFu (.type "object") = some true)
    (q7_Full : PySem.W.makesIn K aFu = true)
    (q8_Full : PySem.W.keepIn K (.ref aFu) = true)
    (i_Full_shows : PySem.W.findIn K (.ref aFu) "shows" = some (some (.ref f_Full_shows)))
    (w_Full_shows : PySem.W.isFn K (.ref f_Full_shows) = true)
    (l_Full_shows : K.lookup f_Full_shows = some ⟨oc_Full_shows, od_Full_shows, .func (PySem.W.fnOf "shows" "Full.shows" (defArgs s_Full_shows) (defBody s_Full_shows) (defScope s_Full_shows) .none kV_Full_shows dc_Full_shows pm_Full_shows an_Full_shows cd_Full_shows ct_Full_shows), sl_Full_shows⟩)
    (c_Full_shows : PySem.W.codeIn K cd_Full_shows "Full.shows" = true)
    (k_Full_shows : PySem.W.keepIn K (.ref f_Full_shows) = true)
    (z_len : PySem.W.nsIn K mainGlobals "len" = some none)
    (z_all : PySem.W.nsIn K mainGlobals "all" = some none)
    (z_any : PySem.W.nsIn K mainGlobals "any" = some none)
    (z_isinstance : PySem.W.nsIn K mainGlobals "isinstance" = some none)
    (z_range : PySem.W.nsIn K mainGlobals "range" = some none)
    (z_sum : PySem.W.nsIn K mainGlobals "sum" = some none)
    (z_sorted : PySem.W.nsIn K mainGlobals "sorted" = some none)
    (z_enumerate : PySem.W.nsIn K mainGlobals "enumerate" = some none)
    (z_max : PySem.W.nsIn K mainGlobals "max" = some none)
    (z_min : PySem.W.nsIn K mainGlobals "min" = some none)
    (z_reversed : PySem.W.nsIn K mainGlobals "reversed" = some none)
    (z_list : PySem.W.nsIn K mainGlobals "list" = some none)
    (z_int : PySem.W.nsIn K mainGlobals "int" = some none)
    (z_str : PySem.W.nsIn K mainGlobals "str" = some none)
    (z_bool : PySem.W.nsIn K mainGlobals "bool" = some none)
    (z_set : PySem.W.nsIn K mainGlobals "set" = some none)
    (z_ValueError : PySem.W.nsIn K mainGlobals "ValueError" = some none)
    (z_LETTERS : PySem.W.nsIn K mainGlobals "LETTERS" = some (some (.str "abcdefghijklmnopqrstuvwxyz" tL)))
    (y_aCl_aCl : PySem.W.kitOne K (.ref aCl) (.ref aCl) = some true)
    (y_aTl_aCl : PySem.W.kitOne K (.ref aTl) (.ref aCl) = some false)
    (y_aRd_aRd : PySem.W.kitOne K (.ref aRd) (.ref aRd) = some true)
    (y_aSt_aRd : PySem.W.kitOne K (.ref aSt) (.ref aRd) = some false)
    (ini_Full : PySem.W.findIn K (.ref aFu) "__init__" = some (some (.builtin "object.__init__")))
    : LamX.LawAtS l w K (L2N.CX l.prog w) 5 63 "_law_script" mg fa h := by
  have e := hfa.symm.trans (PySem.W.mg_of X G a_law)
  cases e
  refine ⟨PySem.W.fnOf "law" "law" (defArgs s_law) (defBody s_law) (defScope s_law) .none kV_law dc_law pm_law an_law cd_law ct_law, [(c_, P_)], spLaw K (TL P_ "_law_begins_right" s__law_begins_right), fun p hp => by rw [List.mem_singleton.mp hp]; exact code_at, fun p hp => by rw [List.mem_singleton.mp hp]; exact code_no, fun p hp => by rw [List.mem_singleton.mp hp]; exact PySem.W.codeHd_of_K X code_hd, fun s v => .of_eq rfl, fun H a ns hl _ hH hS => ⟨a, ns, rfl, hS, hl, fun p hp => by rw [List.mem_singleton.mp hp]; exact LamX.TabS.nil (hH (c_, P_) (List.mem_singleton.mpr rfl)), fun _ => rfl⟩, fun base _ _ hTB => ?_⟩
  have D_stands : DefAt K mg "stands" s_stands ["word", "text", "at"] := ⟨_, _, fun_mk l_stands c_stands k_stands, PySem.W.mg_of X G a_stands, (fun_mk l_stands c_stands k_stands).binds fun _ _ _ _ _ _ us hl => match us, hl with | [_, _, _], _ => rfl⟩
  have D_is_text : DefAt K mg "is_text" s_is_text ["thing"] := ⟨_, _, fun_mk l_is_text c_is_text k_is_text, PySem.W.mg_of X G a_is_text, (fun_mk l_is_text c_is_text k_is_text).binds fun _ _ _ _ _ _ us hl => match us, hl with | [_], _ => rfl⟩
  have D_asked_code : DefAt K mg "asked_code" s_asked_code ["code"] := ⟨_, _, fun_mk l_asked_code c_asked_code k_asked_code, PySem.W.mg_of X G a_asked_code, (fun_mk l_asked_code c_asked_code k_asked_code).binds fun _ _ _ _ _ _ us hl => match us, hl with | [_], _ => rfl⟩
  have D_asked_text : DefAt K mg "asked_text" s_asked_text ["text"] := ⟨_, _, fun_mk l_asked_text c_asked_text k_asked_text, PySem.W.mg_of X G a_asked_text, (fun_mk l_asked_text c_asked_text k_asked_text).binds fun _ _ _ _ _ _ us hl => match us, hl with | [_], _ => rfl⟩
  have D_joined : DefAt K mg "joined" s_joined ["code", "places"] := ⟨_, _, fun_mk l_joined c_joined k_joined, PySem.W.mg_of X G a_joined, (fun_mk l_joined c_joined k_joined).binds fun _ _ _ _ _ _ us hl => match us, hl with | [_, _], _ => rfl⟩
  have D_are_places : DefAt K mg "are_places" s_are_places ["code", "places"] := ⟨_, _, fun_mk l_are_places c_are_places k_are_places, PySem.W.mg_of X G a_are_places, (fun_mk l_are_places c_are_places k_are_places).binds fun _ _ _ _ _ _ us hl => match us, hl with | [_, _], _ => rfl⟩
  have D_table_of : DefAt K mg "table_of" s_table_of ["code", "text"] := ⟨_, _, fun_mk l_table_of c_table_of k_table_of, PySem.W.mg_of X G a_table_of, (fun_mk l_table_of c_table_of k_table_of).binds fun _ _ _ _ _ _ us hl => match us, hl with | [_, _], _ => rfl⟩
  have D_nth : DefAt K mg "nth" s_nth ["code", "text", "table", "number"] := ⟨_, _, fun_mk l_nth c_nth k_nth, PySem.W.mg_of X G a_nth, (fun_mk l_nth c_nth k_nth).binds fun _ _ _ _ _ _ us hl => match us, hl with | [_, _, _, _], _ => rfl⟩
  have D_marks_of : DefAt K mg "marks_of" s_marks_of ["code", "text"] := ⟨_, _, fun_mk l_marks_of c_marks_of k_marks_of, PySem.W.mg_of X G a_marks_of, (fun_mk l_marks_of c_marks_of k_marks_of).binds fun _ _ _ _ _ _ us hl => match us, hl with | [_, _], _ => rfl⟩
  have D_read : DefAt K mg "read" s_read ["code", "text"] := ⟨_, _, fun_mk l_read c_read k_read, PySem.W.mg_of X G a_read, (fun_mk l_read c_read k_read).binds fun _ _ _ _ _ _ us hl => match us, hl with | [_, _], _ => rfl⟩
  have D_first_tails : DefAt K mg "first_tails" s_first_tails ["code"] := ⟨_, _, fun_mk l_first_tails c_first_tails k_first_tails, PySem.W.mg_of X G a_first_tails, (fun_mk l_first_tails c_first_tails k_first_tails).binds fun _ _ _ _ _ _ us hl => match us, hl with | [_], _ => rfl⟩
  have D_next_tails : DefAt K mg "next_tails" s_next_tails ["code", "told"] := ⟨_, _, fun_mk l_next_tails c_next_tails k_next_tails, PySem.W.mg_of X G a_next_tails, (fun_mk l_next_tails c_next_tails k_next_tails).binds fun _ _ _ _ _ _ us hl => match us, hl with | [_, _], _ => rfl⟩
  have D_once : DefAt K mg "once" s_once ["code"] := ⟨_, _, fun_mk l_once c_once k_once, PySem.W.mg_of X G a_once, (fun_mk l_once c_once k_once).binds fun _ _ _ _ _ _ us hl => match us, hl with | [_], _ => rfl⟩
  have D__law_code : DefAt K mg "_law_code" s__law_code ["_law_script"] := ⟨_, _, fun_mk l__law_code c__law_code k__law_code, PySem.W.mg_of X G a__law_code, (fun_mk l__law_code c__law_code k__law_code).binds fun _ _ _ _ _ _ us hl => match us, hl with | [_], _ => rfl⟩
  have D__law_stands : DefAt K mg "_law_stands" s__law_stands ["_law_word", "_law_text_here", "_law_at"] := ⟨_, _, fun_mk l__law_stands c__law_stands k__law_stands, PySem.W.mg_of X G a__law_stands, (fun_mk l__law_stands c__law_stands k__law_stands).binds fun _ _ _ _ _ _ us hl => match us, hl with | [_, _, _], _ => rfl⟩
  have D__law_text : DefAt K mg "_law_text" s__law_text ["_law_code_here", "_law_script"] := ⟨_, _, fun_mk l__law_text c__law_text k__law_text, PySem.W.mg_of X G a__law_text, (fun_mk l__law_text c__law_text k__law_text).binds fun _ _ _ _ _ _ us hl => match us, hl with | [_, _], _ => rfl⟩
  have D__law_says : DefAt K mg "_law_says" s__law_says ["_law_said", "_law_due"] := ⟨_, _, fun_mk l__law_says c__law_says k__law_says, PySem.W.mg_of X G a__law_says, (fun_mk l__law_says c__law_says k__law_says).binds fun _ _ _ _ _ _ us hl => match us, hl with | [_, _], _ => rfl⟩
  have D__law_bent : DefAt K mg "_law_bent" s__law_bent ["_law_some", "_law_cell", "_law_more"] := ⟨_, _, fun_mk l__law_bent c__law_bent k__law_bent, PySem.W.mg_of X G a__law_bent, (fun_mk l__law_bent c__law_bent k__law_bent).binds fun _ _ _ _ _ _ us hl => match us, hl with | [_, _, _], _ => rfl⟩
  have D__law_made : DefAt K mg "_law_made" s__law_made ["_law_code_here", "_law_places"] := ⟨_, _, fun_mk l__law_made c__law_made k__law_made, PySem.W.mg_of X G a__law_made, (fun_mk l__law_made c__law_made k__law_made).binds fun _ _ _ _ _ _ us hl => match us, hl with | [_, _], _ => rfl⟩
  have D__law_tails : DefAt K mg "_law_tails" s__law_tails ["_law_code_here", "_law_tails_here"] := ⟨_, _, fun_mk l__law_tails c__law_tails k__law_tails, PySem.W.mg_of X G a__law_tails, (fun_mk l__law_tails c__law_tails k__law_tails).binds fun _ _ _ _ _ _ us hl => match us, hl with | [_, _], _ => rfl⟩
  have D__law_stuck : DefAt K mg "_law_stuck" s__law_stuck ["_law_code_here", "_law_text_here", "_law_marks"] := ⟨_, _, fun_mk l__law_stuck c__law_stuck k__law_stuck, PySem.W.mg_of X G a__law_stuck, (fun_mk l__law_stuck c__law_stuck k__law_stuck).binds fun _ _ _ _ _ _ us hl => match us, hl with | [_, _, _], _ => rfl⟩
  have D__law_beside : DefAt K mg "_law_beside" s__law_beside ["_law_words"] := ⟨_, _, fun_mk l__law_beside c__law_beside k__law_beside, PySem.W.mg_of X G a__law_beside, (fun_mk l__law_beside c__law_beside k__law_beside).binds fun _ _ _ _ _ _ us hl => match us, hl with | [_], _ => rfl⟩
  have D__law_codes_right : DefAt K mg "_law_codes_right" s__law_codes_right ["_law_code_here", "_law_cell"] := ⟨_, _, fun_mk l__law_codes_right c__law_codes_right k__law_codes_right, PySem.W.mg_of X G a__law_codes_right, (fun_mk l__law_codes_right c__law_codes_right k__law_codes_right).binds fun _ _ _ _ _ _ us hl => match us, hl with | [_, _], _ => rfl⟩
  have D__law_texts_right : DefAt K mg "_law_texts_right" s__law_texts_right ["_law_code_here", "_law_text_here", "_law_cell"] := ⟨_, _, fun_mk l__law_texts_right c__law_texts_right k__law_texts_right, PySem.W.mg_of X G a__law_texts_right, (fun_mk l__law_texts_right c__law_texts_right k__law_texts_right).binds fun _ _ _ _ _ _ us hl => match us, hl with | [_, _, _], _ => rfl⟩
  have TB : LamX.TabB base mg c_ P_ := hTB (c_, P_) (List.mem_singleton.mpr rfl)
  have D__law_begins_right : DefAtC K mg "_law_begins_right" s__law_begins_right ["_law_code_here", "_law_cell"] c_ := ⟨_, _, fun_mk l__law_begins_right c__law_begins_right k__law_begins_right, PySem.W.mg_of X G a__law_begins_right, (fun_mk l__law_begins_right c__law_begins_right k__law_begins_right).binds fun _ _ _ _ _ _ us hl => match us, hl with | [_, _], _ => rfl, rfl⟩
  have D__law_words_right : DefAt K mg "_law_words_right" s__law_words_right ["_law_code_here", "_law_cell"] := ⟨_, _, fun_mk l__law_words_right c__law_words_right k__law_words_right, PySem.W.mg_of X G a__law_words_right, (fun_mk l__law_words_right c__law_words_right k__law_words_right).binds fun _ _ _ _ _ _ us hl => match us, hl with | [_, _], _ => rfl⟩
  have G_Clash : mg "Clash" = some (.ref aCl) := PySem.W.mg_of X G g_Clash
  have G_Tails : mg "Tails" = some (.ref aTl) := PySem.W.mg_of X G g_Tails
  have G_Reading : mg "Reading" = some (.ref aRd) := PySem.W.mg_of X G g_Reading
  have G_Stuck : mg "Stuck" = some (.ref aSt) := PySem.W.mg_of X G g_Stuck
  have G_Begins : mg "Begins" = some (.ref aBe) := PySem.W.mg_of X G g_Begins
  have G_Apart : mg "Apart" = some (.ref aAp) := PySem.W.mg_of X G g_Apart
  have G_Words : mg "Words" = some (.ref aWo) := PySem.W.mg_of X G g_Words
  have G_Full : mg "Full" = some (.ref aFu) := PySem.W.mg_of X G g_Full
  have L_Clash : ClsI K aCl := ⟨⟨q1_Clash, q2_Clash, q3_Clash, q4_Clash⟩, q5_Clash, e6, e7, q6_Clash⟩
  have N_Clash_one : NoAttr K aCl "one" := n_Clash_one
  have N_Clash_other : NoAttr K aCl "other" := n_Clash_other
  have D_Clash___init__ : IniAt K aCl "Clash.__init__" s_Clash___init__ ["self", "one", "other"] := ⟨_, _, fun_mk l_Clash___init__ c_Clash___init__ k_Clash___init__, ⟨q7_Clash, i_Clash___init__, w_Clash___init__, q8_Clash⟩, (fun_mk l_Clash___init__ c_Clash___init__ k_Clash___init__).binds fun _ _ _ _ _ _ us hl => match us, hl with | [_, _, _], _ => rfl⟩
  have D_Clash_shows : MthAt K aCl "shows" "Clash.shows" s_Clash_shows ["self", "code"] := ⟨_, _, fun_mk l_Clash_shows c_Clash_shows k_Clash_shows, ⟨i_Clash_shows, w_Clash_shows, k_Clash_shows⟩, (fun_mk l_Clash_shows c_Clash_shows k_Clash_shows).binds fun _ _ _ _ _ _ us hl => match us, hl with | [_, _], _ => rfl⟩
  have L_Tails : ClsI K aTl := ⟨⟨q1_Tails, q2_Tails, q3_Tails, q4_Tails⟩, q5_Tails, e6, e7, q6_Tails⟩
  have N_Tails_tails : NoAttr K aTl "tails" := n_Tails_tails
  have D_Tails___init__ : IniAt K aTl "Tails.__init__" s_Tails___init__ ["self", "tails"] := ⟨_, _, fun_mk l_Tails___init__ c_Tails___init__ k_Tails___init__, ⟨q7_Tails, i_Tails___init__, w_Tails___init__, q8_Tails⟩, (fun_mk l_Tails___init__ c_Tails___init__ k_Tails___init__).binds fun _ _ _ _ _ _ us hl => match us, hl with | [_, _], _ => rfl⟩
  have D_Tails_shows : MthAt K aTl "shows" "Tails.shows" s_Tails_shows ["self", "code"] := ⟨_, _, fun_mk l_Tails_shows c_Tails_shows k_Tails_shows, ⟨i_Tails_shows, w_Tails_shows, k_Tails_shows⟩, (fun_mk l_Tails_shows c_Tails_shows k_Tails_shows).binds fun _ _ _ _ _ _ us hl => match us, hl with | [_, _], _ => rfl⟩
  have L_Reading : ClsI K aRd := ⟨⟨q1_Reading, q2_Reading, q3_Reading, q4_Reading⟩, q5_Reading, e6, e7, q6_Reading⟩
  have N_Reading_places : NoAttr K aRd "places" := n_Reading_places
  have D_Reading___init__ : IniAt K aRd "Reading.__init__" s_Reading___init__ ["self", "places"] := ⟨_, _, fun_mk l_Reading___init__ c_Reading___init__ k_Reading___init__, ⟨q7_Reading, i_Reading___init__, w_Reading___init__, q8_Reading⟩, (fun_mk l_Reading___init__ c_Reading___init__ k_Reading___init__).binds fun _ _ _ _ _ _ us hl => match us, hl with | [_, _], _ => rfl⟩
  have D_Reading_shows : MthAt K aRd "shows" "Reading.shows" s_Reading_shows ["self", "code", "text"] := ⟨_, _, fun_mk l_Reading_shows c_Reading_shows k_Reading_shows, ⟨i_Reading_shows, w_Reading_shows, k_Reading_shows⟩, (fun_mk l_Reading_shows c_Reading_shows k_Reading_shows).binds fun _ _ _ _ _ _ us hl => match us, hl with | [_, _, _], _ => rfl⟩
  have L_Stuck : ClsI K aSt := ⟨⟨q1_Stuck, q2_Stuck, q3_Stuck, q4_Stuck⟩, q5_Stuck, e6, e7, q6_Stuck⟩
  have N_Stuck_marks : NoAttr K aSt "marks" := n_Stuck_marks
  have D_Stuck___init__ : IniAt K aSt "Stuck.__init__" s_Stuck___init__ ["self", "marks"] := ⟨_, _, fun_mk l_Stuck___init__ c_Stuck___init__ k_Stuck___init__, ⟨q7_Stuck, i_Stuck___init__, w_Stuck___init__, q8_Stuck⟩, (fun_mk l_Stuck___init__ c_Stuck___init__ k_Stuck___init__).binds fun _ _ _ _ _ _ us hl => match us, hl with | [_, _], _ => rfl⟩
  have D_Stuck_shows : MthAt K aSt "shows" "Stuck.shows" s_Stuck_shows ["self", "code", "text"] := ⟨_, _, fun_mk l_Stuck_shows c_Stuck_shows k_Stuck_shows, ⟨i_Stuck_shows, w_Stuck_shows, k_Stuck_shows⟩, (fun_mk l_Stuck_shows c_Stuck_shows k_Stuck_shows).binds fun _ _ _ _ _ _ us hl => match us, hl with | [_, _, _], _ => rfl⟩
  have L_Begins : ClsI K aBe := ⟨⟨q1_Begins, q2_Begins, q3_Begins, q4_Begins⟩, q5_Begins, e6, e7, q6_Begins⟩
  have N_Begins_one : NoAttr K aBe "one" := n_Begins_one
  have N_Begins_other : NoAttr K aBe "other" := n_Begins_other
  have D_Begins___init__ : IniAt K aBe "Begins.__init__" s_Begins___init__ ["self", "one", "other"] := ⟨_, _, fun_mk l_Begins___init__ c_Begins___init__ k_Begins___init__, ⟨q7_Begins, i_Begins___init__, w_Begins___init__, q8_Begins⟩, (fun_mk l_Begins___init__ c_Begins___init__ k_Begins___init__).binds fun _ _ _ _ _ _ us hl => match us, hl with | [_, _, _], _ => rfl⟩
  have D_Begins_shows : MthAt K aBe "shows" "Begins.shows" s_Begins_shows ["self", "code"] := ⟨_, _, fun_mk l_Begins_shows c_Begins_shows k_Begins_shows, ⟨i_Begins_shows, w_Begins_shows, k_Begins_shows⟩, (fun_mk l_Begins_shows c_Begins_shows k_Begins_shows).binds fun _ _ _ _ _ _ us hl => match us, hl with | [_, _], _ => rfl⟩
  have L_Apart : ClsI K aAp := ⟨⟨q1_Apart, q2_Apart, q3_Apart, q4_Apart⟩, q5_Apart, e6, e7, q6_Apart⟩
  have N_Apart_order : NoAttr K aAp "order" := n_Apart_order
  have D_Apart___init__ : IniAt K aAp "Apart.__init__" s_Apart___init__ ["self", "order"] := ⟨_, _, fun_mk l_Apart___init__ c_Apart___init__ k_Apart___init__, ⟨q7_Apart, i_Apart___init__, w_Apart___init__, q8_Apart⟩, (fun_mk l_Apart___init__ c_Apart___init__ k_Apart___init__).binds fun _ _ _ _ _ _ us hl => match us, hl with | [_, _], _ => rfl⟩
  have D_Apart_shows : MthAt K aAp "shows" "Apart.shows" s_Apart_shows ["self", "code"] := ⟨_, _, fun_mk l_Apart_shows c_Apart_shows k_Apart_shows, ⟨i_Apart_shows, w_Apart_shows, k_Apart_shows⟩, (fun_mk l_Apart_shows c_Apart_shows k_Apart_shows).binds fun _ _ _ _ _ _ us hl => match us, hl with | [_, _], _ => rfl⟩
  have L_Words : ClsI K aWo := ⟨⟨q1_Words, q2_Words, q3_Words, q4_Words⟩, q5_Words, e6, e7, q6_Words⟩
  have N_Words_words : NoAttr K aWo "words" := n_Words_words
  have D_Words___init__ : IniAt K aWo "Words.__init__" s_Words___init__ ["self", "words"] := ⟨_, _, fun_mk l_Words___init__ c_Words___init__ k_Words___init__, ⟨q7_Words, i_Words___init__, w_Words___init__, q8_Words⟩, (fun_mk l_Words___init__ c_Words___init__ k_Words___init__).binds fun _ _ _ _ _ _ us hl => match us, hl with | [_, _], _ => rfl⟩
  have D_Words_shows : MthAt K aWo "shows" "Words.shows" s_Words_shows ["self", "letters", "lengths"] := ⟨_, _, fun_mk l_Words_shows c_Words_shows k_Words_shows, ⟨i_Words_shows, w_Words_shows, k_Words_shows⟩, (fun_mk l_Words_shows c_Words_shows k_Words_shows).binds fun _ _ _ _ _ _ us hl => match us, hl with | [_, _, _], _ => rfl⟩
  have L_Full : ClsI K aFu := ⟨⟨q1_Full, q2_Full, q3_Full, q4_Full⟩, q5_Full, e6, e7, q6_Full⟩
  have D_Full_shows : MthAt K aFu "shows" "Full.shows" s_Full_shows ["self", "letters", "lengths"] := ⟨_, _, fun_mk l_Full_shows c_Full_shows k_Full_shows, ⟨i_Full_shows, w_Full_shows, k_Full_shows⟩, (fun_mk l_Full_shows c_Full_shows k_Full_shows).binds fun _ _ _ _ _ _ us hl => match us, hl with | [_, _, _], _ => rfl⟩
  have T : Blt mg := ⟨PySem.W.mg_none_of X G z_len, PySem.W.mg_none_of X G z_all, PySem.W.mg_none_of X G z_any, PySem.W.mg_none_of X G z_isinstance, PySem.W.mg_none_of X G z_range, PySem.W.mg_none_of X G z_sum, PySem.W.mg_none_of X G z_sorted, PySem.W.mg_none_of X G z_enumerate, PySem.W.mg_none_of X G z_max, PySem.W.mg_none_of X G z_min, PySem.W.mg_none_of X G z_reversed, PySem.W.mg_none_of X G z_list, PySem.W.mg_none_of X G z_int, PySem.W.mg_none_of X G z_str, PySem.W.mg_none_of X G z_bool, PySem.W.mg_none_of X G z_set, PySem.W.mg_none_of X G z_ValueError, ⟨_, PySem.W.mg_of X G z_LETTERS, tL, rfl⟩⟩
  have K_Full : Mk0At K mg "Full" aFu := ⟨G_Full, q7_Full, ini_Full, q8_Full⟩
  have OK : OncK K aCl aTl := ⟨fun b => match b with | true => y_aCl_aCl | false => y_aTl_aCl, fun b => match b with | true => L_Clash | false => L_Tails, N_Clash_one, N_Clash_other, N_Tails_tails⟩
  have RK : RedK K aRd aSt := ⟨fun b => match b with | true => y_aRd_aRd | false => y_aSt_aRd, fun b => match b with | true => L_Reading | false => L_Stuck, N_Reading_places, N_Stuck_marks⟩
  have C_stands := ok_stands (P := l.prog) (w := w) (base := base) D_stands T
  have C_is_text := ok_is_text (P := l.prog) (w := w) (base := base) D_is_text T
  have C_asked_code := ok_asked_code (P := l.prog) (w := w) (base := base) D_asked_code T C_is_text
  have C_asked_text := ok_asked_text (P := l.prog) (w := w) (base := base) D_asked_text T C_is_text
  have C_joined := ok_joined (P := l.prog) (w := w) (base := base) D_joined T
  have C_are_places := ok_are_places (P := l.prog) (w := w) (base := base) D_are_places T
  have K_Clash := ok_Clash___init__ (P := l.prog) (w := w) (base := base) D_Clash___init__ T G_Clash L_Clash N_Clash_one N_Clash_other
  have K_Tails := ok_Tails___init__ (P := l.prog) (w := w) (base := base) D_Tails___init__ T G_Tails L_Tails N_Tails_tails
  have M_Clash_shows := ok_Clash_shows (P := l.prog) (w := w) (base := base) D_Clash_shows T L_Clash N_Clash_one N_Clash_other C_are_places C_joined
  have M_Tails_shows := ok_Tails_shows (P := l.prog) (w := w) (base := base) D_Tails_shows T L_Tails N_Tails_tails C_stands
  have K_Reading := ok_Reading___init__ (P := l.prog) (w := w) (base := base) D_Reading___init__ T G_Reading L_Reading N_Reading_places
  have K_Stuck := ok_Stuck___init__ (P := l.prog) (w := w) (base := base) D_Stuck___init__ T G_Stuck L_Stuck N_Stuck_marks
  have M_Reading_shows := ok_Reading_shows (P := l.prog) (w := w) (base := base) D_Reading_shows T L_Reading N_Reading_places C_are_places C_joined
  have M_Stuck_shows := ok_Stuck_shows (P := l.prog) (w := w) (base := base) D_Stuck_shows T L_Stuck N_Stuck_marks C_stands
  have K_Begins := ok_Begins___init__ (P := l.prog) (w := w) (base := base) D_Begins___init__ T G_Begins L_Begins N_Begins_one N_Begins_other
  have M_Begins_shows := ok_Begins_shows (P := l.prog) (w := w) (base := base) D_Begins_shows T L_Begins N_Begins_one N_Begins_other C_are_places C_stands
  have K_Apart := ok_Apart___init__ (P := l.prog) (w := w) (base := base) D_Apart___init__ T G_Apart L_Apart N_Apart_order
  have M_Apart_shows := ok_Apart_shows (P := l.prog) (w := w) (base := base) D_Apart_shows T L_Apart N_Apart_order C_stands
  have K_Words := ok_Words___init__ (P := l.prog) (w := w) (base := base) D_Words___init__ T G_Words L_Words N_Words_words
  have M_Words_shows := ok_Words_shows (P := l.prog) (w := w) (base := base) D_Words_shows T L_Words N_Words_words C_is_text C_stands
  have M_Full_shows := ok_Full_shows (P := l.prog) (w := w) (base := base) D_Full_shows T L_Full
  have C_table_of := ok_table_of (P := l.prog) (w := w) (base := base) D_table_of T C_stands
  have C_nth := ok_nth (P := l.prog) (w := w) (base := base) D_nth T C_stands
  have C_marks_of := ok_marks_of (P := l.prog) (w := w) (base := base) D_marks_of T C_stands
  have C_read := ok_read (P := l.prog) (w := w) (base := base) D_read T C_asked_code C_asked_text C_table_of C_nth C_marks_of K_Reading K_Stuck
  have C_first_tails := ok_first_tails (P := l.prog) (w := w) (base := base) D_first_tails T C_stands
  have C_next_tails := ok_next_tails (P := l.prog) (w := w) (base := base) D_next_tails T C_stands
  have C_once := ok_once (P := l.prog) (w := w) (base := base) D_once T C_asked_code C_first_tails C_next_tails K_Clash K_Tails
  have C__law_code := ok__law_code (P := l.prog) (w := w) (base := base) D__law_code T
  have C__law_stands := ok__law_stands (P := l.prog) (w := w) (base := base) D__law_stands T
  have C__law_text := ok__law_text (P := l.prog) (w := w) (base := base) D__law_text T
  have C__law_says := ok__law_says (P := l.prog) (w := w) (base := base) D__law_says T
  have C__law_bent := ok__law_bent (P := l.prog) (w := w) (base := base) D__law_bent T
  have C__law_made := ok__law_made (P := l.prog) (w := w) (base := base) D__law_made T
  have C__law_tails := ok__law_tails (P := l.prog) (w := w) (base := base) D__law_tails T C__law_stands
  have C__law_stuck := ok__law_stuck (P := l.prog) (w := w) (base := base) D__law_stuck T C__law_stands
  have C__law_beside := ok__law_beside (P := l.prog) (w := w) (base := base) D__law_beside T C__law_stands
  have C__law_codes_right := ok__law_codes_right (P := l.prog) (w := w) (base := base) D__law_codes_right T G_Clash OK C_once C__law_bent K_Clash K_Tails C__law_made C__law_says C__law_tails M_Clash_shows M_Tails_shows
  have C__law_texts_right := ok__law_texts_right (P := l.prog) (w := w) (base := base) D__law_texts_right T G_Reading RK C_read C__law_bent K_Reading K_Stuck C__law_made C__law_says C__law_stuck M_Reading_shows M_Stuck_shows
  have C__law_begins_right := ok__law_begins_right (P := l.prog) (w := w) (base := base) D__law_begins_right TB T L_Begins L_Apart N_Begins_one N_Begins_other N_Apart_order K_Begins K_Apart C__law_stands C__law_bent C__law_beside C__law_says M_Begins_shows M_Apart_shows
  have C__law_words_right := ok__law_words_right (P := l.prog) (w := w) (base := base) D__law_words_right T L_Words N_Words_words K_Full K_Words C__law_bent C__law_beside C__law_says M_Words_shows M_Full_shows
  exact ok_law (fun_mk l_law c_law k_law) T C__law_code C__law_text C__law_codes_right C__law_texts_right C__law_begins_right C__law_words_right C__law_says K_Clash K_Tails M_Clash_shows M_Tails_shows
end
theorem walk {l : PySem.W.OpenLaw} {q : Program} {loose : List Str} {XP : (Str → Option Value) → Heap → Prop} {YP : World → Heap → Prop} {d : DefRec} {K : Params → PySem.W.Frag} (hn : l.most = some 63) (hdf : d.params.defaults = [])
    (hY : ∀ (w : World) (h : Heap), YP w h → (K w.params).In h)
    (F : ∀ (w : World) (mg : Str → Option Value) (fa : Addr) (h : Heap), YP w h → (K w.params).In h → h.Ns mainGlobals mg → mg d.name = some (.ref fa) → LamX.LawAtS l w (K w.params) (L2N.CX l.prog w) 5 63 "_law_script" mg fa h) :
    PySem.W.WalkO q loose XP YP l.row.toRowW d [] (fun f vs => PySem.call f vs) :=
  LamX.walk_ofTs (n := 63) (k := 5) (x := "_law_script") (CX := fun w => L2N.CX l.prog w) hn (by decide) hdf ⟨rfl, by decide, by decide⟩ hY F fun _ _ _ _ _ z => by
    obtain ⟨_, _, _, _, _, _, _, _, _, _, _, _, y⟩ := z
    exact y
end Tr
open PySem PySem.W PyProof.Rows
set_option maxRecDepth 100000 in
set_option maxHeartbeats 0 in
theorem PySem.Challenge.cw_tworeadings_k06_answers_by_hand_holds : PySem.Challenge.rw_tworeadings_k06_answers_by_hand.Holds := by
  w_on; o_law; k_head; (case hw => w_witness2)
  k_fill
  refine Tr.walk (l := PySem.Challenge.rw_tworeadings_k06_answers_by_hand) rfl rfl (fun w h Y => by first | exact PySem.W.kIn_of Y | exact PySem.W.km_in_of Y) ?F
  case F =>
    intro w mg fa h Y KX G hmg
    refine' Tr.all_mk KX G hmg ?a_stands ?l_stands ?c_stands ?k_stands ?a_is_text ?l_is_text ?c_is_text ?k_is_text ?a_asked_code ?l_asked_code ?c_asked_code ?k_asked_code ?a_asked_text ?l_asked_text ?c_asked_text ?k_asked_text ?a_joined ?l_joined ?c_joined ?k_joined ?a_are_places ?l_are_places ?c_are_places ?k_are_places ?a_table_of ?l_table_of ?c_table_of ?k_table_of ?a_nth ?l_nth ?c_nth ?k_nth ?a_marks_of ?l_marks_of ?c_marks_of ?k_marks_of ?a_read ?l_read ?c_read ?k_read ?a_first_tails ?l_first_tails ?c_first_tails ?k_first_tails ?a_next_tails ?l_next_tails ?c_next_tails ?k_next_tails ?a_once ?l_once ?c_once ?k_once ?a__law_code ?l__law_code ?c__law_code ?k__law_code ?a__law_stands ?l__law_stands ?c__law_stands ?k__law_stands ?a__law_text ?l__law_text ?c__law_text ?k__law_text ?a__law_says ?l__law_says ?c__law_says ?k__law_says ?a__law_bent ?l__law_bent ?c__law_bent ?k__law_bent ?a__law_made ?l__law_made ?c__law_made ?k__law_made ?a__law_tails ?l__law_tails ?c__law_tails ?k__law_tails ?a__law_stuck ?l__law_stuck ?c__law_stuck ?k__law_stuck ?a__law_beside ?l__law_beside ?c__law_beside ?k__law_beside ?a__law_codes_right ?l__law_codes_right ?c__law_codes_right ?k__law_codes_right ?a__law_texts_right ?l__law_texts_right ?c__law_texts_right ?k__law_texts_right ?a__law_begins_right ?l__law_begins_right ?c__law_begins_right ?k__law_begins_right ?code_c ?code_P ?code_hd ?code_no ?code_at ?a__law_words_right ?l__law_words_right ?c__law_words_right ?k__law_words_right ?a_law ?l_law ?c_law ?k_law ?g_Clash ?g_Tails ?g_Reading ?g_Stuck ?g_Begins ?g_Apart ?g_Words ?g_Full ?e6 ?e7 ?q1_Clash ?q2_Clash ?q3_Clash ?q4_Clash ?q5_Clash ?q6_Clash ?q7_Clash ?q8_Clash ?n_Clash_one ?n_Clash_other ?i_Clash___init__ ?w_Clash___init__ ?l_Clash___init__ ?c_Clash___init__ ?k_Clash___init__ ?i_Clash_shows ?w_Clash_shows ?l_Clash_shows ?c_Clash_shows ?k_Clash_shows ?q1_Tails ?q2_Tails ?q3_Tails ?q4_Tails ?q5_Tails ?q6_Tails ?q7_Tails ?q8_Tails ?n_Tails_tails ?i_Tails___init__ ?w_Tails___init__ ?l_Tails___init__ ?c_Tails___init__ ?k_Tails___init__ ?i_Tails_shows ?w_Tails_shows ?l_Tails_shows ?c_Tails_shows ?k_Tails_shows ?q1_Reading ?q2_Reading ?q3_Reading ?q4_Reading ?q5_Reading ?q6_Reading ?q7_Reading ?q8_Reading ?n_Reading_places ?i_Reading___init__ ?w_Reading___init__ ?l_Reading___init__ ?c_Reading___init__ ?k_Reading___init__ ?i_Reading_shows ?w_Reading_shows ?l_Reading_shows ?c_Reading_shows ?k_Reading_shows ?q1_Stuck ?q2_Stuck ?q3_Stuck ?q4_Stuck ?q5_Stuck ?q6_Stuck ?q7_Stuck ?q8_Stuck ?n_Stuck_marks ?i_Stuck___init__ ?w_Stuck___init__ ?l_Stuck___init__ ?c_Stuck___init__ ?k_Stuck___init__ ?i_Stuck_shows ?w_Stuck_shows ?l_Stuck_shows ?c_Stuck_shows ?k_Stuck_shows ?q1_Begins ?q2_Begins ?q3_Begins ?q4_Begins ?q5_Begins ?q6_Begins ?q7_Begins ?q8_Begins ?n_Begins_one ?n_Begins_other ?i_Begins___init__ ?w_Begins___init__ ?l_Begins___init__ ?c_Begins___init__ ?k_Begins___init__ ?i_Begins_shows ?w_Begins_shows ?l_Begins_shows ?c_Begins_shows ?k_Begins_shows ?q1_Apart ?q2_Apart ?q3_Apart ?q4_Apart ?q5_Apart ?q6_Apart ?q7_Apart ?q8_Apart ?n_Apart_order ?i_Apart___init__ ?w_Apart___init__ ?l_Apart___init__ ?c_Apart___init__ ?k_Apart___init__ ?i_Apart_shows ?w_Apart_shows ?l_Apart_shows ?c_Apart_shows ?k_Apart_shows ?q1_Words ?q2_Words ?q3_Words ?q4_Words ?q5_Words ?q6_Words ?q7_Words ?q8_Words ?n_Words_words ?i_Words___init__ ?w_Words___init__ ?l_Words___init__ ?c_Words___init__ ?k_Words___init__ ?i_Words_shows ?w_Words_shows ?l_Words_shows ?c_Words_shows ?k_Words_shows ?q1_Full ?q2_Full ?q3_Full ?q4_Full ?q5_Full ?q6_Full ?q7_Full ?q8_Full ?i_Full_shows ?w_Full_shows ?l_Full_shows ?c_Full_shows ?k_Full_shows ?z_len ?z_all ?z_any ?z_isinstance ?z_range ?z_sum ?z_sorted ?z_enumerate ?z_max ?z_min ?z_reversed ?z_list ?z_int ?z_str ?z_bool ?z_set ?z_ValueError ?z_LETTERS ?y_aCl_aCl ?y_aTl_aCl ?y_aRd_aRd ?y_aSt_aRd ?ini_Full
    (case a_stands => first | k_is | rfl); (case l_stands => first | k_is | rfl); (case c_stands => first | k_is | rfl); (case k_stands => first | k_is | rfl); (case a_is_text => first | k_is | rfl); (case l_is_text => first | k_is | rfl)
    (case c_is_text => first | k_is | rfl); (case k_is_text => first | k_is | rfl); (case a_asked_code => first | k_is | rfl); (case l_asked_code => first | k_is | rfl); (case c_asked_code => first | k_is | rfl); (case k_asked_code => first | k_is | rfl)
    (case a_asked_text => first | k_is | rfl); (case l_asked_text => first | k_is | rfl); (case c_asked_text => first | k_is | rfl); (case k_asked_text => first | k_is | rfl); (case a_joined => first | k_is | rfl); (case l_joined => first | k_is | rfl)
    (case c_joined => first | k_is | rfl); (case k_joined => first | k_is | rfl); (case a_are_places => first | k_is | rfl); (case l_are_places => first | k_is | rfl); (case c_are_places => first | k_is | rfl); (case k_are_places => first | k_is | rfl)
    (case a_table_of => first | k_is | rfl); (case l_table_of => first | k_is | rfl); (case c_table_of => first | k_is | rfl); (case k_table_of => first | k_is | rfl); (case a_nth => first | k_is | rfl); (case l_nth => first | k_is | rfl)
    (case c_nth => first | k_is | rfl); (case k_nth => first | k_is | rfl); (case a_marks_of => first | k_is | rfl); (case l_marks_of => first | k_is | rfl); (case c_marks_of => first | k_is | rfl); (case k_marks_of => first | k_is | rfl)
    (case a_read => first | k_is | rfl); (case l_read => first | k_is | rfl); (case c_read => first | k_is | rfl); (case k_read => first | k_is | rfl); (case a_first_tails => first | k_is | rfl); (case l_first_tails => first | k_is | rfl)
    (case c_first_tails => first | k_is | rfl); (case k_first_tails => first | k_is | rfl); (case a_next_tails => first | k_is | rfl); (case l_next_tails => first | k_is | rfl); (case c_next_tails => first | k_is | rfl); (case k_next_tails => first | k_is | rfl)
    (case a_once => first | k_is | rfl); (case l_once => first | k_is | rfl); (case c_once => first | k_is | rfl); (case k_once => first | k_is | rfl); (case a__law_code => first | k_is | rfl); (case l__law_code => first | k_is | rfl)
    (case c__law_code => first | k_is | rfl); (case k__law_code => first | k_is | rfl); (case a__law_stands => first | k_is | rfl); (case l__law_stands => first | k_is | rfl); (case c__law_stands => first | k_is | rfl); (case k__law_stands => first | k_is | rfl)
    (case a__law_text => first | k_is | rfl); (case l__law_text => first | k_is | rfl); (case c__law_text => first | k_is | rfl); (case k__law_text => first | k_is | rfl); (case a__law_says => first | k_is | rfl); (case l__law_says => first | k_is | rfl)
    (case c__law_says => first | k_is | rfl); (case k__law_says => first | k_is | rfl); (case a__law_bent => first | k_is | rfl); (case l__law_bent => first | k_is | rfl); (case c__law_bent => first | k_is | rfl); (case k__law_bent => first | k_is | rfl)
    (case a__law_made => first | k_is | rfl); (case l__law_made => first | k_is | rfl); (case c__law_made => first | k_is | rfl); (case k__law_made => first | k_is | rfl); (case a__law_tails => first | k_is | rfl); (case l__law_tails => first | k_is | rfl)
    (case c__law_tails => first | k_is | rfl); (case k__law_tails => first | k_is | rfl); (case a__law_stuck => first | k_is | rfl); (case l__law_stuck => first | k_is | rfl); (case c__law_stuck => first | k_is | rfl); (case k__law_stuck => first | k_is | rfl)
    (case a__law_beside => first | k_is | rfl); (case l__law_beside => first | k_is | rfl); (case c__law_beside => first | k_is | rfl); (case k__law_beside => first | k_is | rfl); (case a__law_codes_right => first | k_is | rfl); (case l__law_codes_right => first | k_is | rfl)
    (case c__law_codes_right => first | k_is | rfl); (case k__law_codes_right => first | k_is | rfl); (case a__law_texts_right => first | k_is | rfl); (case l__law_texts_right => first | k_is | rfl); (case c__law_texts_right => first | k_is | rfl); (case k__law_texts_right => first | k_is | rfl)
    (case a__law_begins_right => first | k_is | rfl); (case l__law_begins_right => first | k_is | rfl); (case c__law_begins_right => first | k_is | rfl); (case k__law_begins_right => first | k_is | rfl); (case code_c => first | k_is | rfl); (case code_P => first | rfl | decide +kernel | k_is)
    (case code_hd => first | rfl | decide +kernel | k_is); (case code_no => first | rfl | decide +kernel | k_is); (case code_at => exact PySem.W.km_tabs_of Y _ (by first | exact List.mem_singleton.mpr rfl | exact List.mem_cons_self .. | simp)); (case a__law_words_right => first | k_is | rfl); (case l__law_words_right => first | k_is | rfl); (case c__law_words_right => first | k_is | rfl)
    (case k__law_words_right => first | k_is | rfl); (case a_law => first | k_is | rfl); (case l_law => first | k_is | rfl); (case c_law => first | k_is | rfl); (case k_law => first | k_is | rfl); (case g_Clash => first | k_is | rfl)
    (case g_Tails => first | k_is | rfl); (case g_Reading => first | k_is | rfl); (case g_Stuck => first | k_is | rfl); (case g_Begins => first | k_is | rfl); (case g_Apart => first | k_is | rfl); (case g_Words => first | k_is | rfl)
    (case g_Full => first | k_is | rfl); (case e6 => first | k_is | rfl); (case e7 => first | k_is | rfl); (case q1_Clash => first | k_is | rfl); (case q2_Clash => first | k_is | rfl); (case q3_Clash => first | k_is | rfl)
    (case q4_Clash => first | k_is | rfl); (case q5_Clash => first | k_is | rfl); (case q6_Clash => first | k_is | rfl); (case q7_Clash => first | k_is | rfl); (case q8_Clash => first | k_is | rfl); (case n_Clash_one => first | k_is | rfl)
    (case n_Clash_other => first | k_is | rfl); (case i_Clash___init__ => first | k_is | rfl); (case w_Clash___init__ => first | k_is | rfl); (case l_Clash___init__ => first | k_is | rfl); (case c_Clash___init__ => first | k_is | rfl); (case k_Clash___init__ => first | k_is | rfl)
    (case i_Clash_shows => first | k_is | rfl); (case w_Clash_shows => first | k_is | rfl); (case l_Clash_shows => first | k_is | rfl); (case c_Clash_shows => first | k_is | rfl); (case k_Clash_shows => first | k_is | rfl); (case q1_Tails => first | k_is | rfl)
    (case q2_Tails => first | k_is | rfl); (case q3_Tails => first | k_is | rfl); (case q4_Tails => first | k_is | rfl); (case q5_Tails => first | k_is | rfl); (case q6_Tails => first | k_is | rfl); (case q7_Tails => first | k_is | rfl)
    (case q8_Tails => first | k_is | rfl); (case n_Tails_tails => first | k_is | rfl); (case i_Tails___init__ => first | k_is | rfl); (case w_Tails___init__ => first | k_is | rfl); (case l_Tails___init__ => first | k_is | rfl); (case c_Tails___init__ => first | k_is | rfl)
    (case k_Tails___init__ => first | k_is | rfl); (case i_Tails_shows => first | k_is | rfl); (case w_Tails_shows => first | k_is | rfl); (case l_Tails_shows => first | k_is | rfl); (case c_Tails_shows => first | k_is | rfl); (case k_Tails_shows => first | k_is | rfl)
    (case q1_Reading => first | k_is | rfl); (case q2_Reading => first | k_is | rfl); (case q3_Reading => first | k_is | rfl); (case q4_Reading => first | k_is | rfl); (case q5_Reading => first | k_is | rfl); (case q6_Reading => first | k_is | rfl)
    (case q7_Reading => first | k_is | rfl); (case q8_Reading => first | k_is | rfl); (case n_Reading_places => first | k_is | rfl); (case i_Reading___init__ => first | k_is | rfl); (case w_Reading___init__ => first | k_is | rfl); (case l_Reading___init__ => first | k_is | rfl)
    (case c_Reading___init__ => first | k_is | rfl); (case k_Reading___init__ => first | k_is | rfl); (case i_Reading_shows => first | k_is | rfl); (case w_Reading_shows => first | k_is | rfl); (case l_Reading_shows => first | k_is | rfl); (case c_Reading_shows => first | k_is | rfl)
    (case k_Reading_shows => first | k_is | rfl); (case q1_Stuck => first | k_is | rfl); (case q2_Stuck => first | k_is | rfl); (case q3_Stuck => first | k_is | rfl); (case q4_Stuck => first | k_is | rfl); (case q5_Stuck => first | k_is | rfl)
    (case q6_Stuck => first | k_is | rfl); (case q7_Stuck => first | k_is | rfl); (case q8_Stuck => first | k_is | rfl); (case n_Stuck_marks => first | k_is | rfl); (case i_Stuck___init__ => first | k_is | rfl); (case w_Stuck___init__ => first | k_is | rfl)
    (case l_Stuck___init__ => first | k_is | rfl); (case c_Stuck___init__ => first | k_is | rfl); (case k_Stuck___init__ => first | k_is | rfl); (case i_Stuck_shows => first | k_is | rfl); (case w_Stuck_shows => first | k_is | rfl); (case l_Stuck_shows => first | k_is | rfl)
    (case c_Stuck_shows => first | k_is | rfl); (case k_Stuck_shows => first | k_is | rfl); (case q1_Begins => first | k_is | rfl); (case q2_Begins => first | k_is | rfl); (case q3_Begins => first | k_is | rfl); (case q4_Begins => first | k_is | rfl)
    (case q5_Begins => first | k_is | rfl); (case q6_Begins => first | k_is | rfl); (case q7_Begins => first | k_is | rfl); (case q8_Begins => first | k_is | rfl); (case n_Begins_one => first | k_is | rfl); (case n_Begins_other => first | k_is | rfl)
    (case i_Begins___init__ => first | k_is | rfl); (case w_Begins___init__ => first | k_is | rfl); (case l_Begins___init__ => first | k_is | rfl); (case c_Begins___init__ => first | k_is | rfl); (case k_Begins___init__ => first | k_is | rfl); (case i_Begins_shows => first | k_is | rfl)
    (case w_Begins_shows => first | k_is | rfl); (case l_Begins_shows => first | k_is | rfl); (case c_Begins_shows => first | k_is | rfl); (case k_Begins_shows => first | k_is | rfl); (case q1_Apart => first | k_is | rfl); (case q2_Apart => first | k_is | rfl)
    (case q3_Apart => first | k_is | rfl); (case q4_Apart => first | k_is | rfl); (case q5_Apart => first | k_is | rfl); (case q6_Apart => first | k_is | rfl); (case q7_Apart => first | k_is | rfl); (case q8_Apart => first | k_is | rfl)
    (case n_Apart_order => first | k_is | rfl); (case i_Apart___init__ => first | k_is | rfl); (case w_Apart___init__ => first | k_is | rfl); (case l_Apart___init__ => first | k_is | rfl); (case c_Apart___init__ => first | k_is | rfl); (case k_Apart___init__ => first | k_is | rfl)
    (case i_Apart_shows => first | k_is | rfl); (case w_Apart_shows => first | k_is | rfl); (case l_Apart_shows => first | k_is | rfl); (case c_Apart_shows => first | k_is | rfl); (case k_Apart_shows => first | k_is | rfl); (case q1_Words => first | k_is | rfl)
    (case q2_Words => first | k_is | rfl); (case q3_Words => first | k_is | rfl); (case q4_Words => first | k_is | rfl); (case q5_Words => first | k_is | rfl); (case q6_Words => first | k_is | rfl); (case q7_Words => first | k_is | rfl)
    (case q8_Words => first | k_is | rfl); (case n_Words_words => first | k_is | rfl); (case i_Words___init__ => first | k_is | rfl); (case w_Words___init__ => first | k_is | rfl); (case l_Words___init__ => first | k_is | rfl); (case c_Words___init__ => first | k_is | rfl)
    (case k_Words___init__ => first | k_is | rfl); (case i_Words_shows => first | k_is | rfl); (case w_Words_shows => first | k_is | rfl); (case l_Words_shows => first | k_is | rfl); (case c_Words_shows => first | k_is | rfl); (case k_Words_shows => first | k_is | rfl)
    (case q1_Full => first | k_is | rfl); (case q2_Full => first | k_is | rfl); (case q3_Full => first | k_is | rfl); (case q4_Full => first | k_is | rfl); (case q5_Full => first | k_is | rfl); (case q6_Full => first | k_is | rfl)
    (case q7_Full => first | k_is | rfl); (case q8_Full => first | k_is | rfl); (case i_Full_shows => first | k_is | rfl); (case w_Full_shows => first | k_is | rfl); (case l_Full_shows => first | k_is | rfl); (case c_Full_shows => first | k_is | rfl)
    (case k_Full_shows => first | k_is | rfl); (case z_len => first | k_is | rfl); (case z_all => first | k_is | rfl); (case z_any => first | k_is | rfl); (case z_isinstance => first | k_is | rfl); (case z_range => first | k_is | rfl)
    (case z_sum => first | k_is | rfl); (case z_sorted => first | k_is | rfl); (case z_enumerate => first | k_is | rfl); (case z_max => first | k_is | rfl); (case z_min => first | k_is | rfl); (case z_reversed => first | k_is | rfl)
    (case z_list => first | k_is | rfl); (case z_int => first | k_is | rfl); (case z_str => first | k_is | rfl); (case z_bool => first | k_is | rfl); (case z_set => first | k_is | rfl); (case z_ValueError => first | k_is | rfl)
    (case z_LETTERS => first | k_is | rfl); (case y_aCl_aCl => first | k_is | rfl); (case y_aTl_aCl => first | k_is | rfl); (case y_aRd_aRd => first | k_is | rfl); (case y_aSt_aRd => first | k_is | rfl); (case ini_Full => first | k_is | rfl)
#print axioms PySem.Challenge.cw_tworeadings_k06_answers_by_hand_holds
