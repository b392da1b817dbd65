import PyProof.Rows.All
import Wide.All
import OpenK.AllK
import Wide.FinOn
import HandS.ForMost
import HandS.ForExc
import HandS.Evl
import HandS.IsInst
import HandS.StrMore
import HandS.Style
import HandS.SortInts
import HandS.SortRule
import HandS.SortKw
import HandS.RevRange
import HandS.SetFor
import HandS.Strs
import HandS.More
import HandS.ExcIs
import HandS.ExcCtx
import HandS.HotCalls
import HandS.Dict
import HandS.Hot
import PySem.Challenge.RW_tworeadings_k07_refused
import PyProof.StrOps2
import KE.LtSeq
import HandS.TupLe
set_option Elab.async false
set_option linter.all false
set_option maxRecDepth 100000
set_option maxHeartbeats 4000000
/-! TrA: defs that may be called (Cal, DefAt), texts as lists of codes, pure expressions. -/
namespace Tr
open PySem PySem.Spec PyProof.Rows L2 Evl

/-! ### defs -/
section
variable {P : Program} {w : World} {K : PySem.W.Frag} {mg : Str → Option Value} {base : Heap}
/-- a def that may be called by its name -/
structure Cal (P : Program) (w : World) (K : PySem.W.Frag) (mg : Str → Option Value) (base : Heap) (k : Nat) (x : Str) (sp : Sp) : Prop where
  ex : ∃ (f : Addr) (fd : FuncData) (ps : List Str), FnOk P w K mg base (L2N.CX P w) k f fd ps sp ∧ mg x = some (.ref f) ∧ PySem.W.keepIn K (.ref f) = true ∧ Binds K fd ps []
/-- a def as the top has left it -/
structure DefAt (K : PySem.W.Frag) (mg : Str → Option Value) (x : Str) (st : Stmt) (ps : List Str) : Prop where
  ex : ∃ (f : Addr) (fd : FuncData), Fun K x x st f fd ∧ mg x = some (.ref f) ∧ Binds K fd ps []
theorem cal_of {x : Str} {st : Stmt} {N ps : List Str} {k : Nat} {sp : Sp} (D : DefAt K mg x st ps) (S : FnScope N ps (defScope st)) (len : ∀ vs H Q E, sp vs H Q E → vs.length = ps.length)
    (hbody : ∀ (f : Addr) (cdv : Value) (A : Around) (outer : List Env) (s : Shared) (H : Hp) (vs : List V) (Q : VK) (E : XK), Room k (A.deeper (envOfC x (defScope st) s.heap.objs.size f cdv)) → sp vs H Q E →
      ∃ t, PSs (cxOf (L2N.CX P w) P w K mg base N x (defScope st) f cdv A outer s H E).nox (defBody st) t ∧ t { nx := fun _ H' => Q .non H', rt := Q } (start N vs) H) : Cal P w K mg base (k + 1) x sp := by
  obtain ⟨f, fd, F, m, b⟩ := D.ex
  obtain ⟨oc, od, kV, doc, pm, an, cdv, ct, osl, rfl, lk, hcd⟩ := F.ex
  refine ⟨f, _, ps, fn_of lk hcd S len fun A outer s H vs Q E hr hsp => ?_, m, F.kp, b⟩
  obtain ⟨t, h, q⟩ := hbody f cdv A outer s H vs Q E hr hsp
  exact ⟨t, h.nox, q⟩
/-- .. of the law itself -/
theorem fnok_of {x : Str} {st : Stmt} {N ps : List Str} {k : Nat} {sp : Sp} {f : Addr} {fd : FuncData} (F : Fun K x x st f fd) (S : FnScope N ps (defScope st)) (len : ∀ vs H Q E, sp vs H Q E → vs.length = ps.length)
    (hbody : ∀ (f : Addr) (cdv : Value) (A : Around) (outer : List Env) (s : Shared) (H : Hp) (vs : List V) (Q : VK) (E : XK), Room k (A.deeper (envOfC x (defScope st) s.heap.objs.size f cdv)) → sp vs H Q E →
      ∃ t, PSs (cxOf (L2N.CX P w) P w K mg base N x (defScope st) f cdv A outer s H E).nox (defBody st) t ∧ t { nx := fun _ H' => Q .non H', rt := Q } (start N vs) H) : FnOk P w K mg base (L2N.CX P w) (k + 1) f fd ps sp := by
  obtain ⟨oc, od, kV, doc, pm, an, cdv, ct, osl, rfl, lk, hcd⟩ := F.ex
  refine fn_of lk hcd S len fun A outer s H vs Q E hr hsp => ?_
  obtain ⟨t, h, q⟩ := hbody f cdv A outer s H vs Q E hr hsp
  exact ⟨t, h.nox, q⟩
/-- .. of a def that may raise -/
theorem calX_of {x : Str} {st : Stmt} {N ps : List Str} {k : Nat} {sp : Sp} (D : DefAt K mg x st ps) (S : FnScope N ps (defScope st)) (len : ∀ vs H Q E, sp vs H Q E → vs.length = ps.length)
    (hbody : ∀ (f : Addr) (cdv : Value) (A : Around) (outer : List Env) (s : Shared) (H : Hp) (vs : List V) (Q : VK) (E : XK), Room k (A.deeper (envOfC x (defScope st) s.heap.objs.size f cdv)) → sp vs H Q E →
      ∃ t, PSs (cxOf (L2N.CX P w) P w K mg base N x (defScope st) f cdv A outer s H E) (defBody st) t ∧ t { nx := fun _ H' => Q .non H', rt := Q } (start N vs) H) : Cal P w K mg base (k + 1) x sp := by
  obtain ⟨f, fd, F, m, b⟩ := D.ex
  obtain ⟨oc, od, kV, doc, pm, an, cdv, ct, osl, rfl, lk, hcd⟩ := F.ex
  exact ⟨f, _, ps, fn_of lk hcd S len fun A outer s H vs Q E hr hsp => hbody f cdv A outer s H vs Q E hr hsp, m, F.kp, b⟩
end
section
variable {X : Cx} {k j : Nat} {x : Str} {sp : Sp} {p pos : Pos} {e : Expr} {es : List Expr} {t : TA}
theorem passN : Passes (L2N.CX X.prog X.w) X E0 := fun _ _ _ _ _ _ _ c => by
  obtain ⟨_, _, _, _, _, _, _, _, _, _, _, _, z⟩ := c
  exact False.elim z
/-- f(e, ..), nothing raised -/
theorem pe_c (c : Cal X.prog X.w X.K X.mg X.base k x sp) (hr : Room j X.A) (hk : k ≤ j) (hg : Gl X x) (ha : PA X (e :: es) t) (hdb : (x == ("__debug__" : Str)) = false := by decide)
    (he : starEach (e :: es) X.env = (false, eval e X.env) :: starEach es X.env := by rfl) (hpl : (backTo pos (starEach es X.env)).any (·.1) = false := by rfl) : PE X (.Call (.Name x p) (e :: es) [] pos) (tCall sp [] E0 t) := by
  obtain ⟨f, fd, ps, F, m, kp, b⟩ := c.ex
  exact pe_call F (hr.mono hk) hg m kp b .nil passN ha hdb he hpl
/-- f(e, ..), what it raises leaves this def too -/
theorem pe_cX {E : XK} (tk : L2N.Takes X fun cls d _ H => E cls d H) (c : Cal X.prog X.w X.K X.mg X.base k x sp) (hr : Room j X.A) (hk : k ≤ j) (hg : Gl X x) (ha : PA X (e :: es) t) (hdb : (x == ("__debug__" : Str)) = false := by decide)
    (he : starEach (e :: es) X.env = (false, eval e X.env) :: starEach es X.env := by rfl) (hpl : (backTo pos (starEach es X.env)).any (·.1) = false := by rfl) : PE X (.Call (.Name x p) (e :: es) [] pos) (tCall sp [] E t) := by
  obtain ⟨f, fd, ps, F, m, kp, b⟩ := c.ex
  exact pe_call F (hr.mono hk) hg m kp b .nil (L2N.passes_call tk fun _ _ _ _ h => h) ha hdb he hpl
/-- f(e, ..) within a try: what it raises is looked at there -/
theorem pe_cT {W : WX} (tk : L2N.Takes X W) (c : Cal X.prog X.w X.K X.mg X.base k x sp) (hr : Room j X.A) (hk : k ≤ j) (hg : Gl X x) (ha : PA X (e :: es) t) (hdb : (x == ("__debug__" : Str)) = false := by decide)
    (he : starEach (e :: es) X.env = (false, eval e X.env) :: starEach es X.env := by rfl) (hpl : (backTo pos (starEach es X.env)).any (·.1) = false := by rfl) : PE X (.Call (.Name x p) (e :: es) [] pos) (tCallS sp (WE W) t) := by
  obtain ⟨f, fd, ps, F, m, kp, b⟩ := c.ex
  exact pe_callS F (hr.mono hk) hg m kp b (fun σ => L2N.passAt tk σ) ha hdb he hpl
theorem takes0N : L2N.Takes X (fun _ _ _ _ => False) := fun _ _ x => by
  obtain ⟨_, _, _, _, _, _, _, _, _, _, _, _, _, _, _, _, z⟩ := x
  exact z.elim
end

/-! ### exception classes of the text -/
structure ExcAt (K : PySem.W.Frag) (mg : Str → Option Value) (x : Str) (C : Addr) : Prop where
  g : mg x = some (.ref C)
  xin : PySem.W.excIn K C [.type "ValueError", .type "Exception", .type "BaseException", .type "object"] "ValueError.__new__" = true
  kp : PySem.W.keepIn K (.ref C) = true
  sb : PySem.W.subIn K (.ref C) (.type "BaseException") = some true
  ty : PySem.W.typeIn K (.ref C) = some (.type "type")
theorem pmk_c {X : Cx} {K : PySem.W.Frag} {mg : Str → Option Value} {x m : Str} {C : Addr} {j : Nat} {p p2 pos : Pos} (hK : X.K = K) (hm : X.mg = mg) (A : ExcAt K mg x C) (hg : Gl X x) (hdb : (x == ("__debug__" : Str)) = false := by decide) :
    L2N.PMk X (.Call (.Name x p) [.Constant (.str m) j p2] [] pos) (fun _ H Q => Q (.ref C) none H) := by
  subst hK hm
  exact L2N.pmk_own PySem.F.excBase_ValueError A.xin A.g A.kp (raises_own A.sb A.ty) hg hdb
theorem pe_exc {X : Cx} {mg : Str → Option Value} {x : Str} {C : Addr} {pos : Pos} (hm : X.mg = mg) (g : mg x = some (.ref C)) (hg : Gl X x) (hdb : (x == ("__debug__" : Str)) = false := by decide) : PE X (.Name x pos) (tC (.ref C)) := by
  subst hm
  exact pe_glob hg g rfl hdb
/-! ### the rules that name the written part, with it as a letter -/
section
variable {X : Cx} {K : PySem.W.Frag}
theorem ix_listK (h : X.K = K) : IxR X (rIxL K) := h ▸ ix_list
theorem ix_tupK (h : X.K = K) : IxR X (rIxT K) := h ▸ ix_tup
theorem call_isiK' (h : X.K = K) : CallR X (.builtin "isinstance") (rIsi K) := h ▸ call_isi
theorem cr_allK (h : X.K = K) (hc : X.calm = true) : CallR X (.builtin "all") (rAll K) := h ▸ cr_all hc
theorem cr_anyK (h : X.K = K) (hc : X.calm = true) : CallR X (.builtin "any") (rAny K) := h ▸ cr_any hc
theorem cr_sumK (h : X.K = K) (hc : X.calm = true) : CallR X (.builtin "sum") (rSum K) := h ▸ cr_sum hc
theorem cr_sortedIK (h : X.K = K) : CallR X (.builtin "sorted") (rSortedI K) := h ▸ cr_sortedI
theorem cr_sortedSK (h : X.K = K) : CallR X (.builtin "sorted") (rSortedS K) := h ▸ cr_sortedS
theorem cr_sortedPOK (h : X.K = K) : CallR X (.builtin "sorted") (rSortedPO K) := h ▸ cr_sortedPO
theorem op_in_seqK (h : X.K = K) : OpR X (compareOp .In) (rIn K false) := h ▸ op_in_seq
theorem op_notIn_seqK (h : X.K = K) : OpR X (compareOp .NotIn) (rIn K true) := h ▸ op_notIn_seq
theorem op_eqDK (h : X.K = K) (hu : X.A.units + 64 < cLine) : OpR X (compareOp .Eq) (rEqD K) := h ▸ op_eqD hu
theorem op_neDK (h : X.K = K) (hu : X.A.units + 64 < cLine) : OpR X (compareOp .NotEq) (rNeD K) := h ▸ op_neD hu
theorem sl_listK (h : X.K = K) : SlR X (rSlL K) := h ▸ sl_list
/-- len of a list or a tuple -/
def rLenQ (K : PySem.W.Frag) : List V → Hp → VK → Prop := fun xs H Q => ∃ p ys, xs = [.ref p] ∧ (SqL K H p ys ∨ SqT K H p ys) ∧ Q (.int ys.length) H
theorem call_len_seqK (h : X.K = K) : CallR X (.builtin "len") (rLenQ K) := h ▸ call_len_seq
def rListQ (K : PySem.W.Frag) : List V → Hp → VK → Prop := fun xs H Q => ∃ p ys, xs = [.ref p] ∧ (SqL K H p ys ∨ SqT K H p ys) ∧ ∀ l, H l = none → Q (.ref l) (upd H l (.lst ys))
theorem call_list_ofK (h : X.K = K) : CallR X (.type "list") (rListQ K) := h ▸ call_list_of
theorem mt_lcountK (h : X.K = K) : MtR X "list.count" (rCntI K) := h ▸ mt_lcount
theorem pi_listK {tg l : Expr} {tl : TE} (h : X.K = K) (hl : PE X l tl) : PI X tg l (iList K tl) := h ▸ pi_list hl
theorem pi_enumK {e : Expr} {ta : TA} {p pos tpos : Pos} {elts : List Expr} {kk : Nat} (h : X.K = K) (hg : Gl X "enumerate") (hm : X.mg "enumerate" = none) (ha : PA X [e] ta) (hs : starEach [e] X.env = (false, eval e X.env) :: starEach [] X.env := by rfl) :
    PI X (.Tuple elts kk tpos) (.Call (.Name "enumerate" p) [e] [] pos) (iEnum K ta) := h ▸ pi_enum hg hm ha hs
theorem pg_tupK {es : List Expr} {k : Nat} {t : TGs} {n : Nat} {pos : Pos} (h : X.K = K) (hc : X.calm = true) (hp : PGs X es t) (hn : (assignEach es X.env).length = n := by rfl) (hst : (assignEach es X.env).findIdx? (·.1) = none := by rfl) : PG X (.Tuple es k pos) (gTup K n t) := h ▸ pg_tup hc hp hn hst
theorem pe_fldK {e : Expr} {f : Str} {pos : Pos} {ta : TE} (h : X.K = K) (he : PE X e ta) (hb : attributeBase e f X.env (eval e X.env) = eval e X.env := by rfl) : PE X (.Attribute e f pos) (tFld K ta f) := h ▸ pe_fld he hb
theorem ps_fldK {o value : Expr} {f : Str} {pos pos' : Pos} {ta tv : TE} (h : X.K = K) (ha : PE X o ta) (hv : PE X value tv) (hs : swapsWith value (some (.Attribute o f pos')) pos.line X.env = pure false := by rfl) : PS X (.Assign [.Attribute o f pos'] value pos) (sFld K ta tv f) := h ▸ ps_fld ha hv hs
theorem pe_revLK {e : Expr} {te : TE} {k : Nat} {p1 p2 p3 pos : Pos} (h : X.K = K) (he : PE X e te) : PE X (.Subscript e (.Slice none none (some (.UnaryOp .USub (.Constant (.int 1) k p1) p2)) p3) pos) (tRevL K te) := h ▸ pe_revL he
def rJoin (K : PySem.W.Frag) : V → List V → Hp → VK → Prop := fun x xs H Q => ∃ a p, ∃ ys : List Str, x = .str a ∧ xs = [.ref p] ∧ (SqL K H p (ys.map V.str) ∨ SqT K H p (ys.map V.str)) ∧ (ys.map (·.length)).sum + ys.length * a.length ≤ 16777216 ∧ Q (.str (Txt.join a ys)) H
theorem pe_joinK {o e : Expr} {to te : TE} {apos pos : Pos} (h : X.K = K) (ho : PE X o to) (he : PE X e te) (hs : starEach [e] X.env = [(false, eval e X.env)] := by rfl) (hbase : attributeBase o "join" X.env (eval o X.env) = eval o X.env := by rfl)
    (hline : (apos.endLine == pos.line) = true := by rfl) : PE X (.Call (.Attribute o "join" apos) [e] [] pos) (tM1 (rJoin K) to te) := h ▸ pe_join ho he hs hbase hline
theorem pe_appK {o e : Expr} {to : TE} {t : TA} {apos cpos : Pos} (h : X.K = K) (ho : PE X o to) (ha : PA X [e] t) (h1 : PE X (.Call (.Attribute o "append" apos) [e] [] cpos) (tBM X.K "list" rAppend to t)) : PE X (.Call (.Attribute o "append" apos) [e] [] cpos) (tBM K "list" rAppend to t) := h ▸ h1
end
/-! ### texts by their codes -/
abbrev Wd := List Nat
def S (a : Wd) : Str := ⟨a.toArray⟩
def tx (a : Wd) : V := .str (S a)
theorem S_len (a : Wd) : (S a).length = a.length := by
  show a.toArray.size = a.length
  simp
theorem S_cps (a : Wd) : (S a).cps.toList = a := by simp [S]
theorem S_inj {a b : Wd} (h : S a = S b) : a = b := by
  have := congrArg (fun x : Str => x.cps.toList) h
  simpa [S] using this
theorem S_app (a b : Wd) : S a ++ S b = S (a ++ b) := by
  apply TL.ext_tl
  rw [TL.tl_append]
  simp [S, TL.tl]
theorem tx_eq (a b : Wd) : decide (tx a = tx b) = decide (a = b) := by
  by_cases h : a = b
  · subst h; simp
  · have : ¬ tx a = tx b := fun e => h (S_inj (V.str.inj e))
    simp [h, this]
theorem tx_inj {a b : Wd} (h : tx a = tx b) : a = b := S_inj (V.str.inj h)
theorem S_get (a : Wd) (i : Nat) : (S a).cps[i]? = a[i]? := by simp [S]
theorem S_cut (a : Wd) (lo hi : Option Int) : cutS (S a) lo hi = S ((a.drop (HT.sIx a.length 0 lo)).take (HT.sIx a.length a.length hi - HT.sIx a.length 0 lo)) := by
  unfold cutS
  rw [S_len, S_cps]
  rfl
/-- the signs of b alone -/
theorem strip_iff (a b : Wd) : (Txt.stripChars (S a) (S b) = S []) ↔ ∀ c ∈ a, c ∈ b := by
  unfold Txt.stripChars
  rw [PyProof.Rows.stripBy_eq]
  obtain ⟨l1, l2, l3⟩ := PyProof.Rows.lo_facts (S b).cps.contains (S a)
  obtain ⟨h1, h2, h3, h4⟩ := PyProof.Rows.hi_facts (S b).cps.contains (S a) _ l1
  generalize stripLo (S b).cps.contains true (S a) = lo at *
  generalize stripHi (S b).cps.contains true (S a) lo = hi at *
  have hg : ∀ k, k < a.length → (S a).cps.getD k 0 = a.getD k 0 := fun k hk => by
    simp [S, Array.getD, List.getD, hk]
  have hc : ∀ c, (S b).cps.contains c = decide (c ∈ b) := fun c => by simp [S]
  rw [S_len] at l1 l3 h2 h3
  have e : TL.tl (PySem.Builtin.Str.strSub (S a) lo hi) = (a.drop lo).take (hi - lo) := by
    rw [TL.tl_strSub]; simp [S, TL.tl]
  constructor
  · intro h c hm
    have e2 : (a.drop lo).take (hi - lo) = [] := by
      rw [← e, h]; simp [S, TL.tl]
    have hl : min (hi - lo) (a.length - lo) = 0 := by
      have := congrArg List.length e2
      simpa using this
    obtain ⟨k, hk, rfl⟩ := List.getElem_of_mem hm
    have hgo : (S b).cps.contains ((S a).cps.getD k 0) = true := by
      rcases Nat.lt_or_ge k lo with h0 | h0
      · exact l2 k h0
      · exact h3 k (by omega) hk
    rw [hg k hk, hc] at hgo
    have : a.getD k 0 = a[k] := by simp [List.getD, hk]
    rw [this] at hgo
    exact of_decide_eq_true hgo
  · intro h
    apply TL.ext_tl
    rw [e]
    have hlo : lo = a.length := by
      rcases l3 with h0 | h0
      · exact h0
      · rcases Nat.lt_or_ge lo a.length with hk | hk
        · rw [hg lo hk, hc] at h0
          have : a.getD lo 0 = a[lo] := by simp [List.getD, hk]
          rw [this] at h0
          have := h a[lo] (List.getElem_mem hk)
          simp [this] at h0
        · omega
    rw [hlo]
    simp [S, TL.tl]
def codes (s : Str) : Wd := s.cps.toList
theorem S_codes (s : Str) : S (codes s) = s := TL.ext_tl (by simp [S, TL.tl, codes])
theorem codes_S (a : Wd) : codes (S a) = a := by simp [S, codes]

/-! ### expressions -/
section
variable {K : PySem.W.Frag} {σ : L2.St} {H H' : Hp} {ta tb te tx' : TE} {t u : TT} {x y z v : V}
theorem ev_cS {s : Str} : Ev (tC (.str s)) σ H (tx (codes s)) := by
  unfold tx; rw [S_codes]; exact ev_c
theorem rv_add {i j : Int} : RV (rI0 fun i j => .int (i + j)) (.int i) (.int j) H (.int (i + j)) := rv_I0
theorem rv_sub {i j : Int} : RV (rI0 fun i j => .int (i - j)) (.int i) (.int j) H (.int (i - j)) := rv_I0
theorem rv_mul {i j : Int} (h : CMul i j) : RV (rI CMul fun i j => .int (i * j)) (.int i) (.int j) H (.int (i * j)) := rv_I h
theorem rv_fdiv {i j : Int} (h : CDiv i j) : RV (rI CDiv fun i j => .int (i / j)) (.int i) (.int j) H (.int (i / j)) := rv_I h
theorem rv_mod {i j : Int} (h : 0 < j) : RV (rI (fun _ j => 0 < j) fun i j => .int (i % j)) (.int i) (.int j) H (.int (i % j)) := rv_I (C := fun _ j => 0 < j) h
theorem rv_lt {i j : Int} : RV (rI0 fun i j => .bl (decide (i < j))) (.int i) (.int j) H (.bl (decide (i < j))) := rv_I0 (g := fun i j => V.bl (decide (i < j)))
theorem rv_le {i j : Int} : RV (rI0 fun i j => .bl (decide (i ≤ j))) (.int i) (.int j) H (.bl (decide (i ≤ j))) := rv_I0 (g := fun i j => V.bl (decide (i ≤ j)))
theorem rv_gt {i j : Int} : RV (rI0 fun i j => .bl (decide (j < i))) (.int i) (.int j) H (.bl (decide (j < i))) := rv_I0 (g := fun i j => V.bl (decide (j < i)))
theorem rv_ge {i j : Int} : RV (rI0 fun i j => .bl (decide (j ≤ i))) (.int i) (.int j) H (.bl (decide (j ≤ i))) := rv_I0 (g := fun i j => V.bl (decide (j ≤ i)))
theorem rv_eqI {i j : Int} : RV rEq (.int i) (.int j) H (.bl (decide (i = j))) := by
  have h := rv_eq (x := V.int i) (y := V.int j) (H := H) rfl
  have e : decide (V.int i = V.int j) = decide (i = j) := by simp
  rw [e] at h; exact h
theorem rv_eqB {i j : Bool} : RV rEq (.bl i) (.bl j) H (.bl (decide (i = j))) := by
  have h := rv_eq (x := V.bl i) (y := V.bl j) (H := H) rfl
  have e : decide (V.bl i = V.bl j) = decide (i = j) := by simp
  rw [e] at h; exact h
theorem rv_eqS {a b : Wd} : RV rEq (tx a) (tx b) H (.bl (decide (a = b))) := by
  have h := rv_eq (x := tx a) (y := tx b) (H := H) rfl
  rw [tx_eq] at h; exact h
theorem rv_neI {i j : Int} : RV rNe (.int i) (.int j) H (.bl (!decide (i = j))) := by
  have h := rv_ne (x := V.int i) (y := V.int j) (H := H) rfl
  have e : decide (V.int i = V.int j) = decide (i = j) := by simp
  rw [e] at h; exact h
theorem rv_neB {i j : Bool} : RV rNe (.bl i) (.bl j) H (.bl (!decide (i = j))) := by
  have h := rv_ne (x := V.bl i) (y := V.bl j) (H := H) rfl
  have e : decide (V.bl i = V.bl j) = decide (i = j) := by simp
  rw [e] at h; exact h
theorem rv_neS {a b : Wd} : RV rNe (tx a) (tx b) H (.bl (!decide (a = b))) := by
  have h := rv_ne (x := tx a) (y := tx b) (H := H) rfl
  rw [tx_eq] at h; exact h
theorem rv_addS {a b : Wd} (h : a.length + b.length ≤ 100000) : RV (fun x y H Q => ∃ i j, x = .str i ∧ y = .str j ∧ i.length + j.length ≤ sizeLine ∧ Q (.str (i ++ j)) H) (tx a) (tx b) H (tx (a ++ b)) := fun H1 _ Q q =>
  ⟨S a, S b, rfl, rfl, sz_of (by rw [S_len, S_len]; exact h), by rw [S_app]; exact q H1 (Ex.refl H1)⟩
theorem rv_ixW {a : Wd} {i : Int} {c : Nat} (h : a.length ≤ 100000) (ha : atI a i = some c) : RV rIxS (tx a) (.int i) H (tx [c]) := fun H1 _ _ q =>
  ⟨S a, i, c, rfl, rfl, sz_of (by rw [S_len]; exact h), by rw [S_cps]; exact ha, q H1 (Ex.refl H1)⟩
theorem rv_isB {a b : Bool} : RV rIsB (.bl a) (.bl b) H (.bl (decide (a = b))) := fun H1 _ _ q => ⟨a, b, rfl, rfl, q H1 (Ex.refl H1)⟩
theorem rv_notB {a b : Bool} : RV rNotB (.bl a) (.bl b) H (.bl (!decide (a = b))) := fun H1 _ _ q => ⟨a, b, rfl, rfl, q H1 (Ex.refl H1)⟩
/-- slices of texts -/
def cutW (a : Wd) (lo hi : Option Int) : Wd := (a.drop (HT.sIx a.length 0 lo)).take (HT.sIx a.length a.length hi - HT.sIx a.length 0 lo)
theorem ev_slS {a : Wd} {lo hi : Option Int} {tl th : TO} (h : Ev te σ H (tx a)) (h1 : EvO tl σ H lo) (h2 : EvO th σ H hi) (hs : a.length ≤ 100000) : Ev (tSl rSlS te tl th) σ H (tx (cutW a lo hi)) := fun H1 e _ q =>
  h H1 e _ fun H2 e2 => h1 H2 (e.trans e2) _ fun H3 e3 => h2 H3 ((e.trans e2).trans e3) _ fun H4 e4 =>
    ⟨S a, rfl, sz_of (by rw [S_len]; exact hs), by rw [S_cut]; exact q H4 ((e2.trans e3).trans e4)⟩
theorem sIx_nat' (n d : Nat) (i : Int) (k : Nat) (h : i = k) : HT.sIx n d (some i) = min k n := by
  subst h; exact HT.sIx_nat n d k
theorem drop_min (a : Wd) (i : Nat) : a.drop (min i a.length) = a.drop i := by
  rcases Nat.le_total i a.length with h | h
  · rw [Nat.min_eq_left h]
  · rw [Nat.min_eq_right h, List.drop_length, List.drop_eq_nil_of_le h]
theorem cut_nn (a : Wd) (i j : Nat) : cutW a (some (i : Int)) (some (j : Int)) = (a.drop i).take (j - i) := by
  unfold cutW
  rw [HT.sIx_nat, HT.sIx_nat, drop_min]
  rcases Nat.le_total i a.length with h | h
  · rcases Nat.le_total j a.length with h2 | h2
    · rw [Nat.min_eq_left h, Nat.min_eq_left h2]
    · rw [Nat.min_eq_left h, Nat.min_eq_right h2, List.take_of_length_le (by simp), List.take_of_length_le (by simp; omega)]
  · rw [List.drop_eq_nil_of_le h]; simp
theorem cut_from (a : Wd) (i : Nat) : cutW a (some (i : Int)) none = a.drop i := by
  unfold cutW
  rw [HT.sIx_nat, HT.sIx_none, drop_min]
  exact List.take_of_length_le (by simp; omega)
theorem cut_to (a : Wd) (j : Nat) : cutW a none (some (j : Int)) = a.take j := by
  unfold cutW
  rw [HT.sIx_nat, HT.sIx_none]
  show (a.drop 0).take (min j a.length - 0) = _
  rw [List.drop_zero, Nat.sub_zero]
  rcases Nat.le_total j a.length with h | h
  · rw [Nat.min_eq_left h]
  · rw [Nat.min_eq_right h, List.take_of_length_le (Nat.le_refl _), List.take_of_length_le h]
/-- len of a text -/
theorem ev_lenS {a : Wd} (h : Ev ta σ H (tx a)) (hs : a.length ≤ 100000) : Ev (tCB (fun xs H Q => ∃ x : Str, xs = [.str x] ∧ x.length ≤ sizeLine ∧ Q (.int x.length) H) (tCons ta tNil)) σ H (.int (a.length : Int)) := fun H1 e Q q =>
  h H1 e _ fun H2 e2 => ⟨S a, rfl, sz_of (by rw [S_len]; exact hs), by rw [S_len]; exact q H2 e2⟩
/-- strip -/
theorem ev_strip {a b : Wd} (h : Ev ta σ H (tx a)) (hb : Ev tb σ H (tx b)) (hs : a.length ≤ 100000) : Ev (tM1 (fun x xs H Q => ∃ a b, x = .str a ∧ xs = [.str b] ∧ a.length ≤ sizeLine ∧ Q (.str (Txt.stripChars a b)) H) ta tb) σ H (tx (codes (Txt.stripChars (S a) (S b)))) := fun H1 e Q q =>
  h H1 e _ fun H2 e2 => ⟨⟨S a, rfl⟩, hb H2 (e.trans e2) _ fun H3 e3 => ⟨S a, S b, rfl, rfl, sz_of (by rw [S_len]; exact hs), by
    have := q H3 (e2.trans e3)
    unfold tx at this; rw [S_codes] at this; exact this⟩⟩
/-- all, any, sum of a new list; len of one -/
theorem ev_all {bs : List Bool} (h : EvL ta σ H (bs.map V.bl)) : Ev (tCB (rAll K) (tCons ta tNil)) σ H (.bl (bs.all id)) := fun H1 e Q q =>
  h H1 e _ fun p H2 _ e2 h2 => ⟨p, bs, rfl, sq_of h2, q H2 e2⟩
theorem ev_any {bs : List Bool} (h : EvL ta σ H (bs.map V.bl)) : Ev (tCB (rAny K) (tCons ta tNil)) σ H (.bl (bs.any id)) := fun H1 e Q q =>
  h H1 e _ fun p H2 _ e2 h2 => ⟨p, bs, rfl, sq_of h2, q H2 e2⟩
theorem ev_sumN {ns : List Int} (h : EvL ta σ H (ns.map V.int)) : Ev (tCB (rSum K) (tCons ta tNil)) σ H (.int ns.sum) := fun H1 e Q q =>
  h H1 e _ fun p H2 _ e2 h2 => ⟨p, ns, rfl, sq_of h2, q H2 e2⟩
theorem ev_sum {ns : List Int} {p : Addr} (h : Ev ta σ H (.ref p)) (hs : SqL K H p (ns.map V.int)) : Ev (tCB (rSum K) (tCons ta tNil)) σ H (.int ns.sum) := fun H1 e Q q =>
  h H1 e _ fun H2 e2 => ⟨p, ns, rfl, ex_l (e.trans e2) hs, q H2 e2⟩
theorem ev_len' {p : Addr} {xs : List V} (ha : Ev ta σ H (.ref p)) (h : SqL K H p xs) : Ev (tCB (rLenQ K) (tCons ta tNil)) σ H (.int (xs.length : Int)) := fun H1 e Q q =>
  ha H1 e _ fun H2 e2 => ⟨p, xs, rfl, Or.inl (ex_l (e.trans e2) h), q H2 e2⟩
theorem ev_listOf {p : Addr} {xs : List V} (ha : Ev ta σ H (.ref p)) (h : SqL K H p xs) : EvL (tCB (rListQ K) (tCons ta tNil)) σ H xs := el_list ha h
theorem ev_lenL {xs : List V} (ha : EvL ta σ H xs) : Ev (tCB (rLenQ K) (tCons ta tNil)) σ H (.int (xs.length : Int)) := ev_lenN ha
/-- isinstance of a scalar -/
theorem ev_isi {T : String} {tv : Value} {b : Bool} (h : Ev ta σ H x) (hc : Ev tb σ H (.ty T)) (hx : ∀ H1, Ex H H1 → TyX K H1 x tv) (e : PySem.W.kitOne K tv (.type T) = some b) : Ev (tCB (rIsi K) (tCons ta (tCons tb tNil))) σ H (.bl b) := fun H1 e1 Q q =>
  h H1 e1 _ fun H2 e2 => hc H2 (e1.trans e2) _ fun H3 e3 => ⟨x, .ty T, tv, .type T, b, rfl, .ty T, hx H3 ((e1.trans e2).trans e3), e, q H3 (e2.trans e3)⟩
theorem ty_list {p : Addr} {xs : List V} (h : SqL K H p xs) : ∀ H1, Ex H H1 → TyX K H1 (.ref p) (.type "list") := fun H1 e => by
  rcases h with (h | ⟨o, h⟩) | ⟨o, its, n, h, hc, _⟩
  · exact .base (.lst (e p _ h))
  · exact .base (.frz (e p _ h))
  · exact .kList h hc
theorem ty_int {i : Int} : ∀ H1, Ex H H1 → TyX K H1 (.int i) (.type "int") := fun _ _ => .base (.int i)
theorem ty_bl {i : Bool} : ∀ H1, Ex H H1 → TyX K H1 (.bl i) (.type "bool") := fun _ _ => .base (.bl i)
theorem ty_str {a : Wd} : ∀ H1, Ex H H1 → TyX K H1 (tx a) (.type "str") := fun _ _ => .base (.str (S a))
/-- comparisons chained -/
theorem ev_chain {r r' : R2} {a b : Bool} (ha : Ev ta σ H x) (hb : Ev tb σ H y) (hc : Ev te σ H z) (h1 : RV r x y H (.bl a)) (h2 : a = true → RV r' y z H (.bl b)) : Ev (tChain r r' ta tb te) σ H (.bl (a && b)) := fun H1 e Q q =>
  ha H1 e _ fun H2 e2 => hb H2 (e.trans e2) _ fun H3 e3 => h1 H3 ((e.trans e2).trans e3) _ fun H4 e4 => ⟨a, rfl, by
    have e04 := ((e.trans e2).trans e3).trans e4
    cases a with
    | true =>
      show te σ H4 _
      exact hc H4 e04 _ fun H5 e5 => h2 rfl H5 (e04.trans e5) Q fun H6 e6 => q H6 ((((e2.trans e3).trans e4).trans e5).trans e6)
    | false =>
      show Q (.bl false) H4
      exact q H4 ((e2.trans e3).trans e4)⟩
/-! comprehensions over lists -/
theorem given_all {α : Type} (ys : List α) (g : α → V) (v : Nat → V) (hv : ∀ i y, ys[i]? = some y → v i = g y) : given ys.length (fun _ => true) v = ys.map g := by
  unfold given
  rw [List.filter_eq_self.mpr (fun _ _ => rfl)]
  apply List.ext_getElem?
  intro i
  rw [List.getElem?_map, List.getElem?_map]
  rcases Nat.lt_or_ge i ys.length with h | h
  · rw [List.getElem?_range h, List.getElem?_eq_getElem h]
    show some (v i) = some (g ys[i])
    rw [hv i ys[i] (List.getElem?_eq_getElem h)]
  · rw [List.getElem?_eq_none (by simpa using h), List.getElem?_eq_none h]; rfl
theorem given_take {α : Type} (ys : List α) (p : α → Bool) (g : α → V) (f : Nat → Bool) (v : Nat → V) (h : ∀ i y, ys[i]? = some y → f i = p y ∧ v i = g y) : ∀ n, n ≤ ys.length → given n f v = ((ys.take n).filter p).map g
  | 0, _ => by simp [given]
  | n + 1, hn => by
    have ih := given_take ys p g f v h n (by omega)
    have hy := h n ys[n] (List.getElem?_eq_getElem (by omega))
    rw [List.take_succ, List.getElem?_eq_getElem (show n < ys.length by omega), List.filter_append, List.map_append]
    cases hp : p ys[n] with
    | true =>
      rw [given_yes (by rw [hy.1, hp]), ih, hy.2]
      simp [hp]
    | false =>
      rw [given_no (by rw [hy.1, hp]), ih]
      simp [hp]
theorem given_filter {α : Type} (ys : List α) (p : α → Bool) (g : α → V) (f : Nat → Bool) (v : Nat → V) (h : ∀ i y, ys[i]? = some y → f i = p y ∧ v i = g y) : given ys.length f v = (ys.filter p).map g := by
  rw [given_take ys p g f v h ys.length (Nat.le_refl _), List.take_length]
theorem el_map {α : Type} {a : Addr} {ys : List α} {tl : TE} {j : Nat} {vs : List Nat} (φ g : α → V) (h : Ev tl σ H (.ref a)) (hx : SqL K H a (ys.map φ)) (hz : ys.length ≤ 40000) (hw : ∀ x, wipe ((wipe σ vs).set j (some x)) vs = wipe σ vs)
    (he : ∀ y, y ∈ ys → Ev te ((wipe σ vs).set j (some (φ y))) H (g y)) : EvL (tLc (iList K tl) (gName j) tYes te vs) σ H (ys.map g) := by
  rcases Nat.eq_zero_or_pos ys.length with hn | hn
  · have e0 : ys = [] := List.eq_nil_of_length_eq_zero hn
    subst e0
    have := el_lcL (t := tYes) (te := te) (j := j) (vs := vs) (fun _ => true) (fun _ => V.non) h hx (by simp) hw (fun i x H1 _ hi => by simp at hi) (fun i x H1 _ hi => by simp at hi)
    simpa [given] using this
  · let y0 := ys[0]
    have := el_lcL (t := tYes) (te := te) (j := j) (vs := vs) (fun _ => true) (fun i => g (ys.getD i y0)) h hx (by simpa using hz) hw (fun i x H1 _ hi H2 e2 Q q => q H2 (Ex.refl H2)) (fun i x H1 e1 hi _ => by
      rw [List.getElem?_map] at hi
      cases hy : ys[i]? with
      | none => rw [hy] at hi; cases hi
      | some y =>
        rw [hy] at hi
        have ex : φ y = x := Option.some.inj hi
        subst ex
        have eg : ys.getD i y0 = y := by simp [List.getD, hy]
        rw [eg]
        exact (he y (List.mem_of_getElem? hy)).mono e1)
    rw [List.length_map, given_all ys g _ (fun i y hy => by simp [List.getD, hy])] at this
    exact this
theorem el_filter {α : Type} {a : Addr} {ys : List α} {tl : TE} {j : Nat} {vs : List Nat} (φ g : α → V) (p : α → Bool) (h : Ev tl σ H (.ref a)) (hx : SqL K H a (ys.map φ)) (hz : ys.length ≤ 40000) (hw : ∀ x, wipe ((wipe σ vs).set j (some x)) vs = wipe σ vs)
    (ht : ∀ y, y ∈ ys → EvT t ((wipe σ vs).set j (some (φ y))) H (p y)) (he : ∀ y, y ∈ ys → p y = true → Ev te ((wipe σ vs).set j (some (φ y))) H (g y)) : EvL (tLc (iList K tl) (gName j) t te vs) σ H ((ys.filter p).map g) := by
  rcases Nat.eq_zero_or_pos ys.length with hn | hn
  · have e0 : ys = [] := List.eq_nil_of_length_eq_zero hn
    subst e0
    have := el_lcL (t := t) (te := te) (j := j) (vs := vs) (fun _ => true) (fun _ => V.non) h hx (by simp) hw (fun i x H1 _ hi => by simp at hi) (fun i x H1 _ hi => by simp at hi)
    simpa [given] using this
  · let y0 := ys[0]
    have key : ∀ (i : Nat) (x : V), (ys.map φ)[i]? = some x → ∃ y, y ∈ ys ∧ ys[i]? = some y ∧ φ y = x ∧ ys.getD i y0 = y := fun i x hi => by
      rw [List.getElem?_map] at hi
      cases hy : ys[i]? with
      | none => rw [hy] at hi; cases hi
      | some y =>
        rw [hy] at hi
        exact ⟨y, List.mem_of_getElem? hy, rfl, Option.some.inj hi, by simp [List.getD, hy]⟩
    have := el_lcL (t := t) (te := te) (j := j) (vs := vs) (fun i => p (ys.getD i y0)) (fun i => g (ys.getD i y0)) h hx (by simpa using hz) hw (fun i x H1 e1 hi => by
      obtain ⟨y, hm, _, rfl, eg⟩ := key i x hi
      rw [eg]; exact (ht y hm).mono e1) (fun i x H1 e1 hi hf => by
      obtain ⟨y, hm, _, rfl, eg⟩ := key i x hi
      rw [eg] at hf ⊢
      exact (he y hm hf).mono e1)
    rw [List.length_map, given_filter ys p g _ _ (fun i y hy => ⟨by simp [List.getD, hy], by simp [List.getD, hy]⟩)] at this
    exact this
/-- over a new list -/
theorem el_mapN {α : Type} {ys : List α} {tl : TE} {j : Nat} {vs : List Nat} (φ g : α → V) (h : EvL tl σ H (ys.map φ)) (hz : ys.length ≤ 40000) (hw : ∀ x, wipe ((wipe σ vs).set j (some x)) vs = wipe σ vs)
    (he : ∀ y, y ∈ ys → Ev te ((wipe σ vs).set j (some (φ y))) H (g y)) : EvL (tLc (iList K tl) (gName j) tYes te vs) σ H (ys.map g) := by
  rcases Nat.eq_zero_or_pos ys.length with hn | hn
  · have e0 : ys = [] := List.eq_nil_of_length_eq_zero hn
    subst e0
    have := el_lcNL (K := K) (t := tYes) (te := te) (j := j) (vs := vs) (fun _ => true) (fun _ => V.non) h (by simp) hw (fun i x H1 _ hi => by simp at hi) (fun i x H1 _ hi => by simp at hi)
    simpa [given] using this
  · let y0 := ys[0]
    have := el_lcNL (K := K) (t := tYes) (te := te) (j := j) (vs := vs) (fun _ => true) (fun i => g (ys.getD i y0)) h (by simpa using hz) hw (fun i x H1 _ hi H2 e2 Q q => q H2 (Ex.refl H2)) (fun i x H1 e1 hi _ => by
      rw [List.getElem?_map] at hi
      cases hy : ys[i]? with
      | none => rw [hy] at hi; cases hi
      | some y =>
        rw [hy] at hi
        have ex : φ y = x := Option.some.inj hi
        subst ex
        have eg : ys.getD i y0 = y := by simp [List.getD, hy]
        rw [eg]
        exact (he y (List.mem_of_getElem? hy)).mono e1)
    rw [List.length_map, given_all ys g _ (fun i y hy => by simp [List.getD, hy])] at this
    exact this
/-- over a range from 0 -/
theorem el_range {ta : TA} {j : Nat} {vs : List Nat} (n : Nat) (g : Nat → V) (h : EvA ta σ H [.int (n : Int)]) (hn : n ≤ 40000) (hw : ∀ x, wipe ((wipe σ vs).set j (some x)) vs = wipe σ vs)
    (he : ∀ i, i < n → Ev te ((wipe σ vs).set j (some (.int (i : Int)))) H (g i)) : EvL (tLc (iRng1 ta) (gName j) tYes te vs) σ H ((List.range n).map g) := by
  have := el_lcR1 (t := tYes) (te := te) (j := j) (vs := vs) (fun _ => true) g h ⟨by omega, by omega⟩ hw (fun i H1 _ hi H2 e2 Q q => q H2 (Ex.refl H2)) (fun i H1 e1 hi _ => (he i (by omega)).mono e1)
  have e : (n : Int).toNat = n := by omega
  rw [e] at this
  unfold given at this
  rw [List.filter_eq_self.mpr (fun _ _ => rfl)] at this
  exact this
/-! .. by the kind of the items -/
section
variable {α : Type} {a : Addr} {ys : List α} {tl : TE} {j : Nat} {vs : List Nat} {φ : α → V}
theorem el_mapB {g : α → Bool} (h : Ev tl σ H (.ref a)) (hx : SqL K H a (ys.map φ)) (hz : ys.length ≤ 40000) (hw : ∀ x, wipe ((wipe σ vs).set j (some x)) vs = wipe σ vs)
    (he : ∀ y, y ∈ ys → Ev te ((wipe σ vs).set j (some (φ y))) H (.bl (g y))) : EvL (tLc (iList K tl) (gName j) tYes te vs) σ H ((ys.map g).map V.bl) := by
  rw [List.map_map]; exact el_map φ (V.bl ∘ g) h hx hz hw he
theorem el_mapI {g : α → Int} (h : Ev tl σ H (.ref a)) (hx : SqL K H a (ys.map φ)) (hz : ys.length ≤ 40000) (hw : ∀ x, wipe ((wipe σ vs).set j (some x)) vs = wipe σ vs)
    (he : ∀ y, y ∈ ys → Ev te ((wipe σ vs).set j (some (φ y))) H (.int (g y))) : EvL (tLc (iList K tl) (gName j) tYes te vs) σ H ((ys.map g).map V.int) := by
  rw [List.map_map]; exact el_map φ (V.int ∘ g) h hx hz hw he
theorem el_mapS {g : α → Wd} (h : Ev tl σ H (.ref a)) (hx : SqL K H a (ys.map φ)) (hz : ys.length ≤ 40000) (hw : ∀ x, wipe ((wipe σ vs).set j (some x)) vs = wipe σ vs)
    (he : ∀ y, y ∈ ys → Ev te ((wipe σ vs).set j (some (φ y))) H (tx (g y))) : EvL (tLc (iList K tl) (gName j) tYes te vs) σ H ((ys.map g).map tx) := by
  rw [List.map_map]; exact el_map φ (tx ∘ g) h hx hz hw he
theorem el_mapNB {g : α → Bool} (h : EvL tl σ H (ys.map φ)) (hz : ys.length ≤ 40000) (hw : ∀ x, wipe ((wipe σ vs).set j (some x)) vs = wipe σ vs)
    (he : ∀ y, y ∈ ys → Ev te ((wipe σ vs).set j (some (φ y))) H (.bl (g y))) : EvL (tLc (iList K tl) (gName j) tYes te vs) σ H ((ys.map g).map V.bl) := by
  rw [List.map_map]; exact el_mapN φ (V.bl ∘ g) h hz hw he
theorem el_mapNS {g : α → Wd} (h : EvL tl σ H (ys.map φ)) (hz : ys.length ≤ 40000) (hw : ∀ x, wipe ((wipe σ vs).set j (some x)) vs = wipe σ vs)
    (he : ∀ y, y ∈ ys → Ev te ((wipe σ vs).set j (some (φ y))) H (tx (g y))) : EvL (tLc (iList K tl) (gName j) tYes te vs) σ H ((ys.map g).map tx) := by
  rw [List.map_map]; exact el_mapN φ (tx ∘ g) h hz hw he
theorem el_filterI {g : α → Int} {p : α → Bool} (h : Ev tl σ H (.ref a)) (hx : SqL K H a (ys.map φ)) (hz : ys.length ≤ 40000) (hw : ∀ x, wipe ((wipe σ vs).set j (some x)) vs = wipe σ vs)
    (ht : ∀ y, y ∈ ys → EvT t ((wipe σ vs).set j (some (φ y))) H (p y)) (he : ∀ y, y ∈ ys → p y = true → Ev te ((wipe σ vs).set j (some (φ y))) H (.int (g y))) : EvL (tLc (iList K tl) (gName j) t te vs) σ H (((ys.filter p).map g).map V.int) := by
  rw [List.map_map]; exact el_filter φ (V.int ∘ g) p h hx hz hw ht he
end
theorem el_rangeB {ta : TA} {j : Nat} {vs : List Nat} {n : Nat} {g : Nat → Bool} (h : EvA ta σ H [.int (n : Int)]) (hn : n ≤ 40000) (hw : ∀ x, wipe ((wipe σ vs).set j (some x)) vs = wipe σ vs)
    (he : ∀ i, i < n → Ev te ((wipe σ vs).set j (some (.int (i : Int)))) H (.bl (g i))) : EvL (tLc (iRng1 ta) (gName j) tYes te vs) σ H (((List.range n).map g).map V.bl) := by
  rw [List.map_map]; exact el_range n (V.bl ∘ g) h hn hw he
/-! ### straight code that gives back a value -/
def SEv (ts : TS) (σ : L2.St) (H : Hp) (v : V) : Prop := ∀ H1, Ex H H1 → ∀ D : Ends, (∀ H2, Ex H1 H2 → D.rt v H2) → ts D σ H1
theorem sev_run {ts : TS} {D : Ends} (h : SEv ts σ H v) (q : ∀ H2, Ex H H2 → D.rt v H2) : ts D σ H := h H (Ex.refl H) D q
theorem sev_is {ts : TS} {w : V} (h : SEv ts σ H v) (e : v = w) : SEv ts σ H w := by rw [← e]; exact h
theorem sev_ret (h : Ev te σ H v) : SEv (tRet te) σ H v := fun H1 e D k => h H1 e _ k
theorem sev_asg {i : Nat} {tz : TS} (h : Ev te σ H x) (k : SEv tz (σ.set i (some x)) H v) : SEv (tSeq (tAsg te (gName i)) tz) σ H v := fun H1 e D q =>
  h H1 e _ fun H2 e2 => k H2 (e.trans e2) D fun H3 e3 => q H3 (e2.trans e3)
theorem sev_when {b : Bool} {tu tz : TS} (h : EvT t σ H b) (k1 : b = true → SEv tu σ H v) (k2 : b = false → SEv tz σ H v) : SEv (tSeq (tIfS t tu tNext) tz) σ H v := fun H1 e D q =>
  h H1 e _ fun H2 e2 => by
    cases b with
    | true => exact k1 rfl H2 (e.trans e2) { D with nx := tz D } fun H3 e3 => q H3 (e2.trans e3)
    | false => exact k2 rfl H2 (e.trans e2) D fun H3 e3 => q H3 (e2.trans e3)
theorem sev_drop {tz : TS} (h : Ev te σ H x) (k : SEv tz σ H v) : SEv (tSeq (tDrop te) tz) σ H v := fun H1 e D q =>
  h H1 e _ fun H2 e2 => k H2 (e.trans e2) D fun H3 e3 => q H3 (e2.trans e3)
/-- code that falls through -/
def SNx (ts : TS) (σ : L2.St) (H : Hp) : Prop := ∀ H1, Ex H H1 → ∀ D : Ends, (∀ H2, Ex H1 H2 → D.nx σ H2) → ts D σ H1
theorem snx_skip {tu : TS} (h : EvT t σ H false) : SNx (tIfS t tu tNext) σ H := fun H1 e D q => h H1 e _ fun H2 e2 => q H2 e2
theorem snx_run {ts : TS} {D : Ends} (h : SNx ts σ H) (q : ∀ H2, Ex H H2 → D.nx σ H2) : ts D σ H := h H (Ex.refl H) D q
theorem sev_skip {tu tz : TS} (h : EvT t σ H false) (k : SEv tz σ H v) : SEv (tSeq (tIfS t tu tNext) tz) σ H v := fun H1 e D q =>
  h H1 e _ fun H2 e2 => k H2 (e.trans e2) D fun H3 e3 => q H3 (e2.trans e3)
/-- sep.join of a new list, the empty sep -/
theorem join_S (ys : List Wd) : Txt.join (S []) (ys.map S) = S ys.flatten := by
  apply TL.ext_tl
  rw [TL.join_eq, TL.tl_join, List.map_map]
  have h1 : TL.tl (S []) = [] := by simp [S, TL.tl]
  have h2 : ∀ zs : List Wd, TL.joinL [] zs = zs.flatten := by
    intro zs
    induction zs with
    | nil => rfl
    | cons z r ih =>
      cases r with
      | nil => simp [TL.joinL]
      | cons y r =>
        show z ++ ([] ++ TL.joinL [] (y :: r)) = _
        rw [ih]
        rfl
  have h3 : ys.map (TL.tl ∘ S) = ys := by
    have : (TL.tl ∘ S) = id := by funext a; simp [S, TL.tl]
    rw [this, List.map_id]
  rw [h1, h3, h2]
  simp [S, TL.tl]
theorem ev_join {ys : List Wd} (ha : Ev ta σ H (tx [])) (hb : EvL tb σ H (ys.map tx)) (hz : ys.flatten.length ≤ 100000) :
    Ev (tM1 (rJoin K) ta tb) σ H (tx ys.flatten) := fun H1 e Q q =>
  ha H1 e _ fun H2 e2 => ⟨⟨S [], rfl⟩, hb H2 (e.trans e2) _ fun p H3 hp e3 h3 => ⟨S [], p, ys.map S, rfl, rfl, .inl (sq_of (by rw [h3, List.map_map]; rfl)), by
    have h1 : (S []).length = 0 := by rw [S_len]; rfl
    have h2 : ((ys.map S).map (·.length)).sum = ys.flatten.length := by
      rw [List.map_map, List.length_flatten]
      exact congrArg List.sum (List.map_congr_left fun a _ => S_len a)
    rw [h1, h2]; omega, by rw [join_S]; exact q H3 (e2.trans e3)⟩⟩
/-! ### further loops -/
section
variable {D : Ends} {tu : TS}
theorem s_forRev {j : Nat} {n : Nat} (h : Ev ta σ H (.int (n : Int))) (hn : n ≤ 100000) (Pv : Nat → L2.St → Hp → Prop) (h0 : ∀ H1, Ex H H1 → Pv 0 σ H1)
    (hs : ∀ i σ' H', i < n → Pv i σ' H' → tu { D with nx := Pv (i + 1), ct := Pv (i + 1), bk := D.nx } (σ'.set j (some (.int ((n - 1 - i : Nat) : Int)))) H') (hd : ∀ σ' H', Pv n σ' H' → D.nx σ' H') :
    tFor (iRevR (tRg1 ta)) (gName j) tu D σ H :=
  h H (Ex.refl H) _ fun H1 e => ⟨(n : Int), rfl, by decide, by decide, by omega, by omega, by
    have e0 : ((n : Int) - 0).toNat = n := by omega
    rw [e0]
    refine for_rangeC Pv (h0 H1 e) (fun i σ' H' hi p => ?_) hd
    have e1 : (0 : Int) + (n : Int) - 1 + (i : Int) * (-1) = ((n - 1 - i : Nat) : Int) := by omega
    show tu _ (σ'.set j (some (.int ((0 : Int) + (n : Int) - 1 + (i : Int) * (-1))))) H'
    rw [e1]
    exact hs i σ' H' hi p⟩
theorem s_forEnum {i1 i2 : Nat} {a : Addr} {xs : List V} (h : Ev ta σ H (.ref a)) (hx : SqL K H a xs) (Pv : Nat → L2.St → Hp → Prop) (h0 : ∀ H1, Ex H H1 → Pv 0 σ H1) (hl : ∀ i σ' H', Pv i σ' H' → SqL K H' a xs)
    (hm : ∀ i σ' H' H'', Pv i σ' H' → Ex H' H'' → Pv i σ' H'')
    (hs : ∀ i x σ' H', xs[i]? = some x → Pv i σ' H' → tu { D with nx := Pv (i + 1), ct := Pv (i + 1), bk := D.nx } ((σ'.set i1 (some (.int (i : Int)))).set i2 (some x)) H') (hd : ∀ σ' H', Pv xs.length σ' H' → D.nx σ' H') :
    tFor (iEnum K (tCons ta tNil)) (gTup K 2 (gCons (gName i1) (gCons (gName i2) gNil))) tu D σ H :=
  h H (Ex.refl H) _ fun H1 e => ⟨a, xs, rfl, ex_l e hx, fun i m σ' H' => Pv i σ' H' ∧ i + m = xs.length, ⟨xs.length, h0 H1 e, by omega⟩, fun i m σ' H' hw => by
    obtain ⟨p, em⟩ := hw
    rcases Nat.lt_or_ge i xs.length with hi | hi
    · have hx' : xs[i]? = some xs[i] := List.getElem?_eq_getElem hi
      refine .inr ⟨⟨xs, xs[i], hl i σ' H' p, hx'⟩, Pv (i + 1), fun σ2 H2 p2 => ⟨m - 1, by omega, p2, by omega⟩, fun x H2 hy => ?_⟩
      obtain ⟨T, y, rfl, nT, rfl, f⟩ := hy
      have ey : y = xs[i] := Option.some.inj ((f xs (hl i σ' H' p)).symm.trans hx')
      subst ey
      refine ⟨T, [.int (i : Int), xs[i]], rfl, st_of upd_same, rfl, _, _, rfl, _, _, rfl, rfl, ?_⟩
      exact hs i xs[i] σ' _ hx' (hm i σ' H' _ p (Ex.new nT))
    · have ei : i = xs.length := by omega
      subst ei
      exact .inl ⟨⟨xs, hl _ σ' H' p, Nat.le_refl _⟩, hd σ' H' p⟩⟩
variable {tz : TS}
theorem q_forRev {j : Nat} {n : Nat} (h : Ev ta σ H (.int (n : Int))) (hn : n ≤ 100000) (Pv : Nat → L2.St → Hp → Prop) (h0 : ∀ H1, Ex H H1 → Pv 0 σ H1)
    (hs : ∀ i σ' H', i < n → Pv i σ' H' → tu { D with nx := Pv (i + 1), ct := Pv (i + 1), bk := tz D } (σ'.set j (some (.int ((n - 1 - i : Nat) : Int)))) H') (hd : ∀ σ' H', Pv n σ' H' → tz D σ' H') :
    tSeq (tFor (iRevR (tRg1 ta)) (gName j) tu) tz D σ H := s_forRev (D := { D with nx := tz D }) h hn Pv h0 hs hd
theorem q_forEnum {i1 i2 : Nat} {a : Addr} {xs : List V} (h : Ev ta σ H (.ref a)) (hx : SqL K H a xs) (Pv : Nat → L2.St → Hp → Prop) (h0 : ∀ H1, Ex H H1 → Pv 0 σ H1) (hl : ∀ i σ' H', Pv i σ' H' → SqL K H' a xs)
    (hm : ∀ i σ' H' H'', Pv i σ' H' → Ex H' H'' → Pv i σ' H'')
    (hs : ∀ i x σ' H', xs[i]? = some x → Pv i σ' H' → tu { D with nx := Pv (i + 1), ct := Pv (i + 1), bk := tz D } ((σ'.set i1 (some (.int (i : Int)))).set i2 (some x)) H') (hd : ∀ σ' H', Pv xs.length σ' H' → tz D σ' H') :
    tSeq (tFor (iEnum K (tCons ta tNil)) (gTup K 2 (gCons (gName i1) (gCons (gName i2) gNil))) tu) tz D σ H := s_forEnum (D := { D with nx := tz D }) h hx Pv h0 hl hm hs hd
/-- a list handed out by an own def, straight on -/
theorem q_dropS {tz : TS} (h : Ev te σ H x) (k : ∀ H1, Ex H H1 → tz D σ H1) : tSeq (tDrop te) tz D σ H := q_drop h k
theorem q_skip {t : TT} (h : EvT t σ H false) (k : ∀ H1, Ex H H1 → tz D σ H1) : tSeq (tIfS t tu tNext) tz D σ H := h H (Ex.refl H) _ fun H1 e => k H1 e
end
end
end Tr

set_option Elab.async false
set_option linter.all false
set_option maxRecDepth 100000
set_option maxHeartbeats 4000000
/-! TrD: dicts, lists of one kind compared, by Ev. -/
namespace Tr
open PySem PySem.Spec PyProof.Rows L2 Evl
section
variable {K : PySem.W.Frag} {σ : L2.St} {H H' : Hp} {ta tb te td ty tx' : TE} {t u : TT} {x y z v : V} {D : Ends} {tz tu : TS}
/-! ### dicts -/
theorem ev_dget {a : Addr} {kvs : List (Key × V)} {k : Key} (hd : Ev td σ H (.ref a)) (hi : Ev ty σ H (kV k)) (he : Rd H a (.dK kvs)) (hv : valV kvs k = some v) : Ev (tDGet td ty) σ H v := fun H1 e Q q =>
  hd H1 e _ fun H2 e2 => hi H2 (e.trans e2) _ fun H3 e3 => ⟨a, v, rfl, .inl ⟨kvs, k, ex_rd ((e.trans e2).trans e3) he, rfl, hv.symm⟩, q H3 (e2.trans e3)⟩
theorem ev_dget2 {a : Addr} {kvs : List (Key × V)} {k : Key} (hd : Ev td σ H (.ref a)) (hi : Ev ty σ H (kV k)) (hx : Ev tx' σ H x) (he : Rd H a (.dK kvs)) : Ev (tDGet2 td ty tx') σ H ((valV kvs k).getD x) := fun H1 e Q q =>
  hd H1 e _ fun H2 e2 => ⟨a, rfl, .inl ⟨kvs, ex_rd (e.trans e2) he⟩, hi H2 (e.trans e2) _ fun H3 e3 => hx H3 ((e.trans e2).trans e3) _ fun H4 e4 =>
    ⟨_, .inl ⟨kvs, k, ex_rd (((e.trans e2).trans e3).trans e4) he, rfl, rfl⟩, q H4 ((e2.trans e3).trans e4)⟩⟩
theorem ev_din {a : Addr} {kvs : List (Key × V)} {k : Key} (hi : Ev ty σ H (kV k)) (hd : Ev td σ H (.ref a)) (he : Rd H a (.dK kvs)) : Ev (tDIn ty td) σ H (.bl (valV kvs k).isSome) := fun H1 e Q q =>
  hi H1 e _ fun H2 e2 => hd H2 (e.trans e2) _ fun H3 e3 => ⟨a, _, rfl, .inl ⟨kvs, k, ex_rd ((e.trans e2).trans e3) he, rfl, rfl⟩, q H3 (e2.trans e3)⟩
theorem ev_dnotin {a : Addr} {kvs : List (Key × V)} {k : Key} (hi : Ev ty σ H (kV k)) (hd : Ev td σ H (.ref a)) (he : Rd H a (.dK kvs)) : Ev (tDNotIn ty td) σ H (.bl (!(valV kvs k).isSome)) := fun H1 e Q q =>
  hi H1 e _ fun H2 e2 => hd H2 (e.trans e2) _ fun H3 e3 => ⟨a, _, rfl, .inl ⟨kvs, k, ex_rd ((e.trans e2).trans e3) he, rfl, rfl⟩, q H3 (e2.trans e3)⟩
theorem s_dput {a : Addr} {kvs : List (Key × V)} {k : Key} {tv : TE} (hk : H a = some (.dK kvs)) (hv : Ev tv σ H v) (hd : Ev td σ H (.ref a)) (hi : Ev ty σ H (kV k)) (hz : kvs.length < 100000)
    (q : ∀ H1, Ex H H1 → D.nx σ (upd H1 a (.dK (putK kvs k v)))) : sDPut td ty tv D σ H := hv H (Ex.refl H) _ fun H1 e1 => hd H1 e1 _ fun H2 e2 => hi H2 (e1.trans e2) _ fun H3 e3 =>
  ⟨a, _, rfl, DPut.k (((e1.trans e2).trans e3) a _ hk) (sz_lt hz), q H3 ((e1.trans e2).trans e3)⟩
theorem q_dput {a : Addr} {kvs : List (Key × V)} {k : Key} {tv : TE} (hk : H a = some (.dK kvs)) (hv : Ev tv σ H v) (hd : Ev td σ H (.ref a)) (hi : Ev ty σ H (kV k)) (hz : kvs.length < 100000)
    (q : ∀ H1, Ex H H1 → tz D σ (upd H1 a (.dK (putK kvs k v)))) : tSeq (sDPut td ty tv) tz D σ H := s_dput (D := { D with nx := tz D }) hk hv hd hi hz q
theorem putK_len {κ : Type} [DecidableEq κ] (kvs : List (κ × V)) (k : κ) (v : V) : (putK kvs k v).length ≤ kvs.length + 1 := by
  unfold putK
  split
  · rw [List.length_map]; omega
  · rw [List.length_append]; simp
/-- x = {k: v} -/
theorem q_asgD1 {i : Nat} {k : Key} {tk tv : TE} (hk : Ev tk σ H (kV k)) (hv : Ev tv σ H v) (q : ∀ p H1, H p = none → Ex H H1 → H1 p = some (.dK [(k, v)]) → tz D (σ.set i (some (.ref p))) H1) : tSeq (tAsg (tDisp [(tk, tv)]) (gName i)) tz D σ H := fun p hp => by
  have e0 : Ex H (upd H p (.dK [])) := Ex.new hp
  refine hk _ e0 _ fun H2 e2 => hv H2 (e0.trans e2) _ fun H3 e3 => ?_
  have ep : H3 p = some (.dK []) := (e2.trans e3) p _ upd_same
  refine ⟨ep, [(k, v)], rfl, by simp, ?_⟩
  have em : mergeK [] [(k, v)] = [(k, v)] := by simp [mergeK, putK]
  rw [em]
  exact q p _ hp (Ex.mut ((e0.trans e2).trans e3) hp) upd_same
/-- x = {} -/
theorem q_asgD0 {i : Nat} (q : ∀ p, H p = none → tz D (σ.set i (some (.ref p))) (upd H p (.dK []))) : tSeq (tAsg tDNewK (gName i)) tz D σ H := fun p hp => q p hp
/-- if t: xs.append(e) -/
theorem q_ifApp {b : Bool} {l : Addr} {xs : List V} (hl : H l = some (.lst xs)) (h : EvT t σ H b) (ha : Ev ta σ H (.ref l)) (hx : b = true → Ev te σ H v) (hz : xs.length < 100000)
    (k : ∀ H0, Ex H H0 → tz D σ (upd H0 l (.lst (if b = true then xs ++ [v] else xs)))) : tSeq (tIfS t (tDrop (tBM K "list" rAppend ta (tCons te tNil))) tNext) tz D σ H := by
  refine q_when h (fun hb H1 e1 => ?_) (fun hb H1 e1 => ?_)
  · refine s_app (e1 l _ hl) (ha.mono e1) ((hx hb).mono e1) hz fun H2 e2 => ?_
    have := k H2 (e1.trans e2)
    rw [if_pos hb] at this
    exact this
  · have := k H1 e1
    rw [if_neg (by rw [hb]; decide)] at this
    have e : upd H1 l (.lst xs) = H1 := by
      funext a
      by_cases ha : a = l
      · subst ha; rw [upd_same, e1 _ _ hl]
      · rw [upd_ne ha]
    rw [e] at this
    exact this
/-! ### a value that is a list by now -/
def EvQ (K : PySem.W.Frag) (te : TE) (σ : L2.St) (H : Hp) (xs : List V) : Prop := ∀ H1, Ex H H1 → ∀ Q : VK, (∀ p H2, Ex H1 H2 → SqL K H2 p xs → Q (.ref p) H2) → te σ H1 Q
theorem eq_at {p : Addr} {xs : List V} (h : Ev te σ H (.ref p)) (hs : SqL K H p xs) : EvQ K te σ H xs := fun H1 e Q q => h H1 e _ fun H2 e2 => q p H2 e2 (ex_l (e.trans e2) hs)
theorem eq_new {xs : List V} (h : EvL te σ H xs) : EvQ K te σ H xs := fun H1 e Q q => h H1 e _ fun p H2 _ e2 h2 => q p H2 e2 (sq_of h2)
theorem EvQ.mono {xs : List V} (e : Ex H H') (h : EvQ K te σ H xs) : EvQ K te σ H' xs := fun H1 a Q q => h H1 (e.trans a) Q q
/-! ### data of one kind -/
structure Enc {α : Type} [DecidableEq α] (φ : α → V) (δ : α → PyData) (ok : α → Prop) : Prop where
  dp : ∀ (K : PySem.W.Frag) (H : Hp) a, Dp K H (φ a) (δ a)
  lay : ∀ a, ok a → (δ a).canLay0 = true
  depth : ∀ a, (δ a).depth = 0
  eqv : ∀ a b, PyData.eqv (δ a) (δ b) = decide (a = b)
theorem enc_int : Enc V.int PyData.int (fun _ => True) := ⟨fun _ _ i => .int i, fun _ _ => by simp [PyData.canLay0], fun _ => by simp [PyData.depth], fun a b => by
  simp only [PyData.eqv]; by_cases h : a = b <;> simp [h]⟩
theorem enc_bl : Enc V.bl PyData.bool (fun _ => True) := ⟨fun _ _ i => .bl i, fun _ _ => by simp [PyData.canLay0], fun _ => by simp [PyData.depth], fun a b => by
  simp only [PyData.eqv]; by_cases h : a = b <;> simp [h]⟩
def okC (a : Wd) : Prop := ∀ c ∈ a, c < 0x110000
theorem enc_tx : Enc tx (fun a => PyData.str (S a)) okC := ⟨fun _ _ a => .str (S a), fun a h => by
    rw [PyData.canLay0]
    unfold PyData.strOk
    rw [Array.all_eq_true_iff_forall_mem]
    intro c hc
    exact decide_eq_true (h c (by simpa [S] using hc)), fun _ => by simp [PyData.depth], fun a b => by
  simp only [PyData.eqv]
  by_cases h : a = b
  · subst h; simp
  · have : ¬ S a = S b := fun e => h (S_inj e)
    simp [h, this]⟩
section
variable {α : Type} [DecidableEq α] {φ : α → V} {δ : α → PyData} {ok : α → Prop}
theorem enc_all (E : Enc φ δ ok) (K : PySem.W.Frag) (H : Hp) : ∀ xs : List α, DpAll K H (xs.map φ) (xs.map δ)
  | [] => .nil
  | x :: xs => .cons (E.dp K H x) (enc_all E K H xs)
theorem enc_lay (E : Enc φ δ ok) : ∀ xs : List α, (∀ x ∈ xs, ok x) → PyData.canLayAll0 (xs.map δ) = true
  | [], _ => by simp [PyData.canLayAll0]
  | x :: xs, h => by
    rw [List.map_cons, PyData.canLayAll0, E.lay x (h x (by simp)), enc_lay E xs fun y hy => h y (by simp [hy])]
    rfl
theorem enc_depth (E : Enc φ δ ok) : ∀ xs : List α, PyData.depthAll (xs.map δ) = 0
  | [] => by simp [PyData.depthAll]
  | x :: xs => by
    rw [List.map_cons, PyData.depthAll, E.depth x, enc_depth E xs]
    rfl
theorem enc_eqv (E : Enc φ δ ok) : ∀ xs ys : List α, PyData.eqvAll (xs.map δ) (ys.map δ) = decide (xs = ys)
  | [], [] => by simp [PyData.eqvAll]
  | [], _ :: _ => by simp [PyData.eqvAll]
  | _ :: _, [] => by simp [PyData.eqvAll]
  | x :: xs, y :: ys => by
    rw [List.map_cons, List.map_cons, PyData.eqvAll, E.eqv x y, enc_eqv E xs ys]
    by_cases h1 : x = y <;> by_cases h2 : xs = ys <;> simp [h1, h2]
theorem enc_shaped (E : Enc φ δ ok) (xs : List α) (h : ∀ x ∈ xs, ok x) : SeqAt.shaped (.list (xs.map δ)) = true := by
  unfold SeqAt.shaped
  rw [PyData.canLay0, enc_lay E xs h, PyData.depth, enc_depth E xs]
  rfl
theorem rv_eqLs {a b : Addr} {xs ys : List α} (E : Enc φ δ ok) (ha : SqL K H a (xs.map φ)) (hb : SqL K H b (ys.map φ)) (h1 : ∀ x ∈ xs, ok x) (h2 : ∀ x ∈ ys, ok x) : RV (rEqD K) (.ref a) (.ref b) H (.bl (decide (xs = ys))) := fun H1 e Q q =>
  ⟨.list (xs.map δ), .list (ys.map δ), .lst (ex_l e ha) (enc_all E K H1 xs), .lst (ex_l e hb) (enc_all E K H1 ys), enc_shaped E xs h1, enc_shaped E ys h2, by
    rw [PyData.eqv, enc_eqv E xs ys]
    exact q H1 (Ex.refl H1)⟩
theorem rv_neLs {a b : Addr} {xs ys : List α} (E : Enc φ δ ok) (ha : SqL K H a (xs.map φ)) (hb : SqL K H b (ys.map φ)) (h1 : ∀ x ∈ xs, ok x) (h2 : ∀ x ∈ ys, ok x) : RV (rNeD K) (.ref a) (.ref b) H (.bl (!decide (xs = ys))) := fun H1 e Q q =>
  ⟨.list (xs.map δ), .list (ys.map δ), .lst (ex_l e ha) (enc_all E K H1 xs), .lst (ex_l e hb) (enc_all E K H1 ys), enc_shaped E xs h1, enc_shaped E ys h2, by
    rw [PyData.eqv, enc_eqv E xs ys]
    exact q H1 (Ex.refl H1)⟩
theorem ev_eqQ {xs ys : List α} (E : Enc φ δ ok) (ha : EvQ K ta σ H (xs.map φ)) (hb : EvQ K tb σ H (ys.map φ)) (h1 : ∀ x ∈ xs, ok x) (h2 : ∀ x ∈ ys, ok x) : Ev (tOp (rEqD K) ta tb) σ H (.bl (decide (xs = ys))) := fun H1 e Q q =>
  ha H1 e _ fun p H2 e2 s2 => hb H2 (e.trans e2) _ fun p3 H3 e3 s3 => rv_eqLs E (ex_l e3 s2) s3 h1 h2 H3 (Ex.refl H3) Q fun H4 e4 => q H4 ((e2.trans e3).trans e4)
theorem ev_neQ {xs ys : List α} (E : Enc φ δ ok) (ha : EvQ K ta σ H (xs.map φ)) (hb : EvQ K tb σ H (ys.map φ)) (h1 : ∀ x ∈ xs, ok x) (h2 : ∀ x ∈ ys, ok x) : Ev (tOp (rNeD K) ta tb) σ H (.bl (!decide (xs = ys))) := fun H1 e Q q =>
  ha H1 e _ fun p H2 e2 s2 => hb H2 (e.trans e2) _ fun p3 H3 e3 s3 => rv_neLs E (ex_l e3 s2) s3 h1 h2 H3 (Ex.refl H3) Q fun H4 e4 => q H4 ((e2.trans e3).trans e4)
end
/-- a new list of what follows -/
theorem el_lst0 : EvL (tLst tNil) σ H [] := el_lst ea_nil (by simp)
end
end Tr

set_option Elab.async false
set_option linter.all false
set_option maxRecDepth 100000
set_option maxHeartbeats 4000000
/-! TrH: any(list) and isinstance within an except suite. -/
namespace Tr
open PySem PySem.Spec PyProof.Rows L2 Evl HotX L2H
section
variable {prog : Program} {w : World} {A : Around} {E : Value → Shared → Prop} {s : Shared}
theorem list_end_hot {it l x1 : Addr} {i : Nat} {items : Array Value} {Q : Option Value → Shared → Prop} (hot : HotAt A x1 s.heap) (hne : it ≠ x1)
    (hit : s.heap.IsListIter it l i) (hl : s.heap.IsList l items) (hx : items[i]? = none)
    (hQ : ∀ h', Heap.ExtBut it s.heap h' → Q none { s with heap := h' }) : wpAny (model prog w) A (pyNext (.ref it)) Q E s := by
  obtain ⟨o, ho, hc, hd⟩ := id hit
  obtain ⟨ol, hol, _, nl, hdl⟩ := hl
  obtain ⟨hh, o1, vs1, h1, d1, c1⟩ := hot
  unfold pyNext
  refine wpAny_bind (wpAny_attempt (wpAny_callSpecial?_slot (name := Str.ofString "__next__") hit.typeIs slot_listiter_next
    (wpAny_call_entry slot_listiter_next hit.typeIs entry_listiter_next ?_ (args_listiter_next _))))
  show wpAny _ _ (field (.ref it) 0 >>= _) _ _ s
  refine wpAny_bind (wpAny_field ho hd (x := .ref l) rfl ?_)
  show wpAny _ _ (if (Value.ref l == Value.none) = true then _ else _) _ _ s
  rw [if_neg (show ¬ ((Value.ref l == Value.none) = true) from Bool.false_ne_true)]
  show wpAny _ _ (field (.ref it) 1 >>= _) _ _ s
  refine wpAny_bind (wpAny_field ho hd (x := .int i 0) rfl ?_)
  show wpAny _ _ (seqItems? (.ref l) >>= _) _ _ s
  refine wpAny_bind (wpAny_seqItems hol hdl ?_)
  simp only [Int.toNat_natCast, hx]
  refine wpAny_bind (wpAny_rule (wpAny_bind (wpAny_setField ho hd (by simp) ?_)))
  have h1' : (s.heap.update it (Obj.mapFields (·.setIfInBounds 0 Value.none))).get? x1 = some o1 := by
    rw [Heap.get?_update_other _ _ hne]; exact h1
  have sb : Heap.ExtBut it s.heap (s.heap.update it (Obj.mapFields (·.setIfInBounds 0 Value.none))) := (Heap.SameBut.update ..).extBut
  generalize s.heap.update it (Obj.mapFields (·.setIfInBounds 0 Value.none)) = hp at *
  show wpAny _ _ (newExc (.type "StopIteration") [] >>= _) _ _ _
  refine wpAny_bind ?_
  simp only [newExc, newTuple]
  refine wpAny_bind (wpAny_newObj_type ?_ (by size_fits))
  refine wpAny_bind (m := firstArgMember _ _) (wpAny_of_eq (a := Value.none) (by first | rfl | (simp only [firstArgMember]; rfl)) ?_)
  refine wpAny_newObj_type ?_ (by size_fits)
  refine raiseNew_hot ⟨hh, o1, vs1, Heap.get?_push_of_some _ (Heap.get?_push_of_some _ h1'), d1, c1⟩ (Nat.ne_of_lt (Heap.lt_size (Heap.get?_push_of_some _ h1'))) (Heap.get?_push_size _ rfl) rfl (by first | (simp; done) | (simp; omega) | (simp only [Array.size_append]; simp; omega)) ?_
  refine wpAny_bind (wpAny_isInstance (T := "StopIteration") (b := true) ⟨_, Heap.get?_update_self _ (Heap.get?_push_size _ rfl) rfl, rfl⟩ isSubtype_stop ?_)
  refine wpAny_pure (hQ _ fun b o hb e => ?_)
  have e2 := sb b o hb e
  rw [Heap.get?_update_other _ _ (Nat.ne_of_gt (Heap.lt_size (Heap.get?_push_of_some _ e2)))]
  exact Heap.get?_push_of_some _ (Heap.get?_push_of_some _ e2)
theorem walks_listHot (x1 : Addr) (hA : A.handled = some (.ref x1)) (I ax : Addr) (hne : ax ≠ I) (hI : I ≠ x1) (items : Array Value) :
    Walks prog w A I [I, ax, x1] [I] items.size (fun i v => items[i]? = some v) (fun i h => h.IsListIter I ax i ∧ h.IsList ax items ∧ HotAt A x1 h) where
  sub := fun b hb => by simp at hb; simp [hb]
  frame := fun _ _ _ st hk => ⟨st.1.at fun o e => hk I (by simp) o e, st.2.1.at fun o e => hk ax (by simp) o e, by
    obtain ⟨hh, o1, vs1, h1, d1, c1⟩ := st.2.2
    exact ⟨hh, o1, vs1, hk x1 (by simp) _ h1, d1, c1⟩⟩
  item := fun i s Q E hi st hQ => by
    refine wpAny_pyNext_list_item st.1 st.2.1 (x := items[i]) (by simp [hi]) fun h' hit' hs' => ?_
    refine hQ _ h' s.toks (by simp [hi]) ⟨hit', st.2.1.extBut hs'.extBut hne, ?_⟩ fun b o hb e => hs'.extBut b o (fun h => hb (by simp [h])) e
    obtain ⟨hh, o1, vs1, h1, d1, c1⟩ := st.2.2
    exact ⟨hh, o1, vs1, hs'.extBut x1 o1 (Ne.symm hI) h1, d1, c1⟩
  done := fun s Q E st hQ => list_end_hot st.2.2 hI st.1 st.2.1 (by simp) fun h' he' => hQ h' s.toks fun b o hb e => he' b o (fun h => hb (by simp [h])) e
  self := fun _ _ _ _ st hQ => wpAny_pyIter_listiter st.1 hQ
end
theorem cr_anyH {X : Cx} {K : PySem.W.Frag} (hK : X.K = K) (c : HotC X) : CallR X (.builtin "any") (rAny K) := by
  subst hK
  intro pins s σ H vs us Q I r h
  obtain ⟨a, bs, rfl, hs, q⟩ := h
  obtain ⟨its, rv, hl, _⟩ := I.list hs
  obtain ⟨x1, hh, o1, vs1, h1, d1, c1⟩ := c.at I
  rw [Vals.ref1 r]
  have hb := rv.bls
  refine call_any_walk (iter_any hl.isList fun s₂ e2 st hne => ?_)
  subst e2
  have hI : s.heap.objs.size ≠ x1 := Nat.ne_of_gt (Heap.lt_size h1)
  refine ⟨_, _, _, _, _, _, _, rfl, walks_listHot (A := X.A.in1) x1 hh _ a hne hI its.toArray, ⟨st.1, st.2, hh, o1, vs1, Heap.get?_push_of_some _ h1, d1, c1⟩, truth_bools hb, fun h' tk hk => ?_⟩
  refine ⟨.bl _, H, I.kept fun b o eo => hk b o (fun hmem => ?_) (Heap.get?_push_of_some _ eo), ?_, q⟩
  · rcases List.mem_cons.mp hmem with e1 | hmem
    · exact absurd (e1 ▸ Heap.lt_size eo) (Nat.lt_irrefl _)
    · cases hmem
  · show Value.bool _ = Value.bool _
    rw [← L2.any_range, hb, List.size_toArray, List.length_map]
/-! ### isinstance of what the suite has caught -/
theorem hotC_of {X : Cx} {a : Addr} {oe : Obj} {cls : Value} {d : Option Addr} {pn : List (Addr × Obj)} (hz : L2N.Zn cls d oe) (hf : ∃ vs, oe.data = .fields vs) : HotC (X.suite a ((a, oe) :: pn)) := by
  obtain ⟨vs, hv⟩ := hf
  exact ⟨(a, oe), ⟨rfl, vs, hv, hz.2.2 vs hv⟩, List.mem_cons_self⟩
def rIsA (K : PySem.W.Frag) (cls : Value) (d : Option Addr) (a : Addr) : List V → Hp → VK → Prop := fun xs H Q => ∃ (D : Addr) (c : V) (cv : Value) (b : Bool), cls = .ref D ∧ d = none ∧ ExcC K D ∧ xs = [.ref a, c] ∧ (∀ u, RelV c u → u = cv) ∧ PySem.W.kitOne K (.ref D) cv = some b ∧ Q (.bl b) H
theorem call_isA {X : Cx} {K : PySem.W.Frag} {a : Addr} {oe : Obj} {cls : Value} {d : Option Addr} {pn : List (Addr × Obj)} (hK : X.K = K) (hz : L2N.Zn cls d oe) (hf : ∃ vs, oe.data = .fields vs) : CallR (X.suite a ((a, oe) :: pn)) (.builtin "isinstance") (rIsA K cls d a) := by
  subst hK
  intro pins s σ H xs us Q I r h
  obtain ⟨D, c, cv, b, rfl, rfl, C, e, h1, h2, q⟩ := h
  exact call_isE C hz.zc hf pins s σ H xs us Q I r ⟨c, cv, b, e, h1, h2, q⟩
section
variable {K : PySem.W.Frag} {σ : L2.St} {H : Hp} {ta tb : TE}
theorem ev_isA {D a : Addr} {c : V} {cv : Value} {b : Bool} (C : ExcC K D) (ha : Ev ta σ H (.ref a)) (hc : Ev tb σ H c) (hv : ∀ u, RelV c u → u = cv) (e : PySem.W.kitOne K (.ref D) cv = some b) : Ev (tCB (rIsA K (.ref D) none a) (tCons ta (tCons tb tNil))) σ H (.bl b) := fun H1 e1 Q q =>
  ha H1 e1 _ fun H2 e2 => hc H2 (e1.trans e2) _ fun H3 e3 => ⟨D, c, cv, b, rfl, rfl, C, rfl, hv, e, q H3 (e2.trans e3)⟩
theorem ev_anyA {bs : List Bool} {p : Addr} (h : Ev ta σ H (.ref p)) (hs : SqL K H p (bs.map V.bl)) : Ev (tCB (rAny K) (tCons ta tNil)) σ H (.bl (bs.any id)) := fun H1 e Q q =>
  h H1 e _ fun H2 e2 => ⟨p, bs, rfl, ex_l (e.trans e2) hs, q H2 e2⟩
/-- try: f(..) except c as n: what f raises, of one class alone, is caught -/
theorem q_tryCall {sp : Sp} {tz : TS} {ta : TA} {vs : List V} {c : Value} {i : Nat} {ts : Addr → Value → Option Addr → TS} {Wout : WX} {D : Ends} (C : Addr) (ha : EvA ta σ H vs) (hc : PySem.W.exmOne K (.ref C) c = some true)
    (h : ∀ H1, Ex H H1 → ∀ (Q : VK) (E : XK), (∀ H2, Ex H1 H2 → E (.ref C) none H2) → sp vs H1 Q E)
    (k : ∀ H1, Ex H H1 → ∀ a, H1 a = none → ts a (.ref C) none { nx := fun σ' H' => tz D (σ'.set i none) H', rt := D.rt, bk := fun σ' H' => D.bk (σ'.set i none) H', ct := fun σ' H' => D.ct (σ'.set i none) H' } (σ.set i (some (.ref a))) H1) :
    tSeq (fun D σ H => tDrop (tCallS sp (WE (wAs K c i ts Wout D)) ta) D σ H) tz D σ H := ha H (Ex.refl _) _ fun H1 e1 => h H1 e1 _ _ fun H2 e2 =>
  ⟨true, hc, fun _ a na => k H2 (e1.trans e2) a na, fun z => nomatch z⟩
end
end Tr

set_option Elab.async false
set_option linter.all false
set_option maxRecDepth 100000
set_option maxHeartbeats 4000000
/-! TrE: values told by a property (EvP), calls of what an expression gives, raising calls within a try. -/
namespace Tr
open PySem PySem.Spec PyProof.Rows L2 Evl
/-! ### a call f(e, ..) where f is a subscript -/
theorem arm_call_sub (a b : Expr) (sp : Pos) (args : List Expr) (keywords : List Keyword) (pos : Pos) (env : Env) : eval (.Call (.Subscript a b sp) args keywords pos) env = (do
    callWith pos (← eval (.Subscript a b sp) env) [] (backTo pos (starEach args env)) (backToKw pos (keywordEach keywords env))) := rfl
structure HeldE (P : Program) (w : World) (K : PySem.W.Frag) (mg : Str → Option Value) (base : Heap) (j : Nat) (f : Addr) (sp : Sp) : Prop where
  ex : ∃ (k : Nat) (fd : FuncData) (ps : List Str), k ≤ j ∧ FnOk P w K mg base (L2N.CX P w) k f fd ps sp ∧ PySem.W.keepIn K (.ref f) = true ∧ Binds K fd ps []
def tCallE (HD : Addr → Sp → Prop) (E : XK) (tf : TE) (t : TA) : TE := fun σ H Q => tf σ H fun v H1 => ∃ f sp, v = .ref f ∧ HD f sp ∧ t σ H1 fun vs H2 => sp vs H2 Q E
section
variable {X : Cx} {j : Nat} {p pos spos : Pos} {a b e : Expr} {es : List Expr} {t : TA} {tf : TE}
theorem pe_callE {E : XK} (tk : L2N.Takes X fun cls d _ H => E cls d H) (hr : Room j X.A) (hf : PE X (.Subscript a b spos) tf) (ha : PA X (e :: es) t)
    (he : starEach (e :: es) X.env = (false, eval e X.env) :: starEach es X.env := by rfl) (hpl : (backTo pos (starEach es X.env)).any (·.1) = false := by rfl) :
    PE X (.Call (.Subscript a b spos) (e :: es) [] pos) (tCallE (HeldE X.prog X.w X.K X.mg X.base j) E tf t) := by
  refine ⟨fun pins s σ H Q I h => ?_⟩
  rw [arm_call_sub]
  refine wpAny_bind (thn (hf.run pins s σ H _ I h) fun u s1 ⟨v, H1, I1, r1, f, sp, ev, hd, ht⟩ => ?_)
  subst ev
  cases r1
  obtain ⟨k, fd, ps, hkj, F, hk, hb⟩ := hd.ex
  refine PySem.W.callWith_K (h₀ := X.base) I1.ok.mod.kin hk (thn (ha.run pos pins s1 σ H1 _ I1 ht) fun us s2 ⟨vs, H2, I2, r, q⟩ => ⟨I2.kIn, ?_⟩) he hpl
  exact run_fn F (hr.mono hkj) hb .nil (L2N.passes_call tk fun _ _ _ _ h => h) I2 r (by rw [List.append_nil]; exact q)
end
section
variable {K : PySem.W.Frag} {σ : L2.St} {H H' : Hp} {ta tb te : TE} {t tr : TA} {v : V} {D : Ends} {tz : TS} {B C : Hp → V → Prop}
/-! ### values told by a property -/
def EvP (te : TE) (σ : L2.St) (H : Hp) (B : Hp → V → Prop) : Prop := ∀ H1, Ex H H1 → ∀ Q : VK, (∀ v H2, Ex H1 H2 → B H2 v → Q v H2) → te σ H1 Q
def EvAQ (ta : TA) (σ : L2.St) (H : Hp) (B : Hp → List V → Prop) : Prop := ∀ H1, Ex H H1 → ∀ Q : List V → Hp → Prop, (∀ vs H2, Ex H1 H2 → B H2 vs → Q vs H2) → ta σ H1 Q
def Up {α : Type} (B : Hp → α → Prop) : Prop := ∀ H H' v, Ex H H' → B H v → B H' v
theorem EvP.mono (e : Ex H H') (h : EvP te σ H B) : EvP te σ H' B := fun H1 a Q q => h H1 (e.trans a) Q q
theorem ep_ev (h : Ev te σ H v) (hb : ∀ H1, Ex H H1 → B H1 v) : EvP te σ H B := fun H1 e Q q => h H1 e _ fun H2 e2 => q v H2 e2 (hb H2 (e.trans e2))
theorem ep_el {xs : List V} (h : EvL te σ H xs) (hb : ∀ p H1, Ex H H1 → H1 p = some (.lst xs) → B H1 (.ref p)) : EvP te σ H B := fun H1 e Q q => h H1 e _ fun p H2 _ e2 hp => q _ H2 e2 (hb p H2 (e.trans e2) hp)
theorem ep_eu {xs : List V} (h : EvU te σ H xs) (hb : ∀ p H1, Ex H H1 → H1 p = some (.tup xs) → B H1 (.ref p)) : EvP te σ H B := fun H1 e Q q => h H1 e _ fun p H2 _ e2 hp => q _ H2 e2 (hb p H2 (e.trans e2) hp)
theorem ep_weak (h : EvP te σ H B) (hb : ∀ H1 v, Ex H H1 → B H1 v → C H1 v) : EvP te σ H C := fun H1 e Q q => h H1 e _ fun v H2 e2 b => q v H2 e2 (hb H2 v (e.trans e2) b)
theorem eaq_weak {B C : Hp → List V → Prop} (h : EvAQ t σ H B) (hb : ∀ H1 v, Ex H H1 → B H1 v → C H1 v) : EvAQ t σ H C := fun H1 e Q q => h H1 e _ fun v H2 e2 b => q v H2 e2 (hb H2 v (e.trans e2) b)
theorem eaq_nil : EvAQ tNil σ H (fun _ vs => vs = []) := fun H1 _ Q q => q [] H1 (Ex.refl H1) rfl
theorem eaq_cons {P : Hp → List V → Prop} (u : Up B) (h : EvP te σ H B) (hr : EvAQ tr σ H P) : EvAQ (tCons te tr) σ H (fun H vs => ∃ v r, vs = v :: r ∧ B H v ∧ P H r) := fun H1 e Q q =>
  h H1 e _ fun v H2 e2 b => hr H2 (e.trans e2) _ fun vs H3 e3 hp => q _ H3 (e2.trans e3) ⟨v, vs, rfl, u _ _ _ e3 b, hp⟩
/-- n items, each of them so -/
def LB (n : Nat) (C : Hp → V → Prop) : Hp → V → Prop := fun H v => ∃ p vs, v = .ref p ∧ H p = some (.lst vs) ∧ vs.length = n ∧ ∀ u ∈ vs, C H u
def TB (n : Nat) (C : Hp → V → Prop) : Hp → V → Prop := fun H v => ∃ p vs, v = .ref p ∧ H p = some (.tup vs) ∧ vs.length = n ∧ ∀ u ∈ vs, C H u
def AB (n : Nat) (C : Hp → V → Prop) : Hp → List V → Prop := fun H vs => vs.length = n ∧ ∀ u ∈ vs, C H u
theorem up_LB {n : Nat} (u : Up C) : Up (LB n C) := fun H H' v e ⟨p, vs, h1, h2, h3, h4⟩ => ⟨p, vs, h1, e p _ h2, h3, fun x hx => u _ _ _ e (h4 x hx)⟩
theorem ab_nil : EvAQ tNil σ H (AB 0 C) := eaq_weak eaq_nil fun H1 vs _ h => by subst h; exact ⟨rfl, by simp⟩
theorem ab_cons {n : Nat} (u : Up C) (h : EvP te σ H C) (hr : EvAQ tr σ H (AB n C)) : EvAQ (tCons te tr) σ H (AB (n + 1) C) := eaq_weak (eaq_cons u h hr) fun H1 vs _ ⟨v, r, e, hv, hl, hr⟩ => by
  subst e
  refine ⟨by rw [List.length_cons, hl], fun x hx => ?_⟩
  rcases List.mem_cons.mp hx with rfl | hx
  · exact hv
  · exact hr x hx
theorem ep_lst {n : Nat} (u : Up C) (h : EvAQ t σ H (AB n C)) (hn : n ≤ 100000) : EvP (tLst t) σ H (LB n C) := fun H1 e Q q =>
  h H1 e _ fun vs H2 e2 ⟨hl, hc⟩ => ⟨sz_of (by rw [hl]; exact hn), fun p hp => q _ _ (e2.trans (Ex.new hp)) ⟨p, vs, rfl, upd_same, hl, fun x hx => u _ _ _ (Ex.new hp) (hc x hx)⟩⟩
theorem ep_tup {n : Nat} (u : Up C) (h : EvAQ t σ H (AB n C)) (hn : n ≤ 100000) : EvP (tTup t) σ H (TB n C) := fun H1 e Q q =>
  h H1 e _ fun vs H2 e2 ⟨hl, hc⟩ => ⟨sz_of (by rw [hl]; exact hn), fun p hp => q _ _ (e2.trans (Ex.new hp)) ⟨p, vs, rfl, upd_same, hl, fun x hx => u _ _ _ (Ex.new hp) (hc x hx)⟩⟩
theorem ep_cat {n m : Nat} (u : Up C) (ha : EvP ta σ H (LB n C)) (hb : EvP tb σ H (LB m C)) (hz : n + m ≤ 100000) : EvP (tOp rCat ta tb) σ H (LB (n + m) C) := fun H1 e Q q =>
  ha H1 e _ fun v H2 e2 ⟨p, xs, e3, hp, hl, hx⟩ => hb H2 (e.trans e2) _ fun v2 H3 e4 ⟨p2, ys, e5, hp2, hl2, hy⟩ =>
    ⟨p, p2, xs, ys, e3, e5, e4 p _ hp, hp2, sz_of (by omega), fun r hr => q _ _ ((e2.trans e4).trans (Ex.new hr)) ⟨r, xs ++ ys, rfl, upd_same, by rw [List.length_append, hl, hl2], fun x hx' => by
      rcases List.mem_append.mp hx' with h | h
      · exact u _ _ _ (e4.trans (Ex.new hr)) (hx x h)
      · exact u _ _ _ (Ex.new hr) (hy x h)⟩⟩
theorem at_some {xs : List V} {i : Int} (h0 : 0 ≤ i) (h1 : i < (xs.length : Int)) : ∃ u, u ∈ xs ∧ atI xs i = some u := by
  have hl : i.toNat < xs.length := by omega
  refine ⟨xs[i.toNat], List.getElem_mem hl, ?_⟩
  have e : i = ((i.toNat : Nat) : Int) := by omega
  conv => lhs; rw [e]
  exact atI_nat (List.getElem?_eq_getElem hl)
theorem ep_pick {n : Nat} {i : Int} (u : Up C) (h : EvP te σ H (LB n C)) (hi : Ev tb σ H (.int i)) (h0 : 0 ≤ i) (h1 : i < (n : Int)) : EvP (tOp (rIxL K) te tb) σ H C := fun H1 e Q q =>
  h H1 e _ fun v H2 e2 ⟨p, vs, e3, hp, hl, hc⟩ => hi H2 (e.trans e2) _ fun H3 e4 => by
    obtain ⟨x, hx, ha⟩ := at_some (xs := vs) h0 (by omega)
    exact ⟨p, vs, i, x, e3, rfl, sq_of (e4 p _ hp), ha, q x H3 (e2.trans e4) (u _ _ _ e4 (hc x hx))⟩
theorem ep_pickT {n : Nat} {i : Int} (u : Up C) (h : EvP te σ H (TB n C)) (hi : Ev tb σ H (.int i)) (h0 : 0 ≤ i) (h1 : i < (n : Int)) : EvP (tOp (rIxT K) te tb) σ H C := fun H1 e Q q =>
  h H1 e _ fun v H2 e2 ⟨p, vs, e3, hp, hl, hc⟩ => hi H2 (e.trans e2) _ fun H3 e4 => by
    obtain ⟨x, hx, ha⟩ := at_some (xs := vs) h0 (by omega)
    exact ⟨p, vs, i, x, e3, rfl, st_of (e4 p _ hp), ha, q x H3 (e2.trans e4) (u _ _ _ e4 (hc x hx))⟩
/-- xs * k -/
theorem el_rep {xs : List V} {k : Int} (h : EvL ta σ H xs) (hi : Ev tb σ H (.int k)) (h0 : 0 ≤ k) (h1 : k ≤ 1000) (hz : xs.length ≤ 100) : EvL (tOp rRep ta tb) σ H (List.replicate k.toNat xs).flatten := fun H1 e Q q =>
  h H1 e _ fun p H2 np e2 hp => hi H2 (e.trans e2) _ fun H3 e3 => ⟨p, k, xs, rfl, rfl, e3 p _ hp, by omega, by omega, by
    have := Nat.mul_le_mul hz (show k.toNat ≤ 1000 by omega)
    exact sz_of (by omega), fun r hr => q r _ (fresh_back (e2.trans e3) hr) ((e2.trans e3).trans (Ex.new hr)) upd_same⟩
/-! ### statements -/
theorem q_asgP {i : Nat} (h : EvP te σ H B) (k : ∀ v H1, Ex H H1 → B H1 v → tz D (σ.set i (some v)) H1) : tSeq (tAsg te (gName i)) tz D σ H := h H (Ex.refl H) _ fun v H1 e b => k v H1 e b
theorem s_retC {sp : Sp} {E : XK} {P : Hp → List V → Prop} (ha : EvAQ t σ H P) (h : ∀ H1 vs, Ex H H1 → P H1 vs → sp vs H1 D.rt E) : tRet (tCall sp [] E t) D σ H := ha H (Ex.refl H) _ fun vs H1 e hp => by
  rw [List.append_nil]
  exact h H1 vs e hp
theorem s_retE {HD : Addr → Sp → Prop} {tf : TE} {E : XK} {F : V → Prop} {P : Hp → List V → Prop} (hf : EvP tf σ H (fun _ v => F v)) (ha : EvAQ t σ H P)
    (h : ∀ v, F v → ∃ f sp, v = .ref f ∧ HD f sp ∧ ∀ H1 vs, Ex H H1 → P H1 vs → sp vs H1 D.rt E) : tRet (tCallE HD E tf t) D σ H := hf H (Ex.refl H) _ fun v H1 e hv => by
  obtain ⟨f, sp, ev, hd, hs⟩ := h v hv
  exact ⟨f, sp, ev, hd, ha H1 e _ fun vs H2 e2 hp => hs H2 vs (e.trans e2) hp⟩
theorem s_dropC {sp : Sp} {E : XK} {vs : List V} (ha : EvA t σ H vs) (h : ∀ H1, Ex H H1 → sp vs H1 (fun _ H2 => D.nx σ H2) E) : tDrop (tCall sp [] E t) D σ H := ha H (Ex.refl H) _ fun H1 e => by
  rw [List.append_nil]
  exact h H1 e
theorem q_dropC {sp : Sp} {E : XK} {vs : List V} (ha : EvA t σ H vs) (h : ∀ H1, Ex H H1 → sp vs H1 (fun _ H2 => tz D σ H2) E) : tSeq (tDrop (tCall sp [] E t)) tz D σ H := s_dropC (D := { D with nx := tz D }) ha h
/-- within a try .. except c as n: what f raises, of one class alone, is caught -/
theorem s_callW {sp : Sp} {vs : List V} {c : Value} {i : Nat} {ts : Addr → Value → Option Addr → TS} {Wout : WX} {D D0 : Ends} (C : Addr) (ha : EvA t σ H vs) (hc : PySem.W.exmOne K (.ref C) c = some true)
    (h : ∀ H1, Ex H H1 → ∀ (Q : VK) (E : XK), (∀ H2, Ex H1 H2 → E (.ref C) none H2) → sp vs H1 Q E)
    (k : ∀ H1, Ex H H1 → ∀ a, H1 a = none → ts a (.ref C) none { nx := fun σ' H' => D0.nx (σ'.set i none) H', rt := D0.rt, bk := fun σ' H' => D0.bk (σ'.set i none) H', ct := fun σ' H' => D0.ct (σ'.set i none) H' } (σ.set i (some (.ref a))) H1) :
    tDrop (tCallS sp (WE (wAs K c i ts Wout D0)) t) D σ H := ha H (Ex.refl _) _ fun H1 e1 => h H1 e1 _ _ fun H2 e2 =>
  ⟨true, hc, fun _ a na => k H2 (e1.trans e2) a na, fun z => nomatch z⟩
end
end Tr

set_option linter.all false
/-! M3: counting readings, in plain Lean -/
namespace M3
abbrev Wd := List Nat
def pre (a t : Wd) : Bool := decide (t.take a.length = a)
def waysF (ws : List Wd) : Nat → Wd → Nat
  | _, [] => 1
  | 0, _ :: _ => 0
  | n + 1, c :: r => ((ws.filter fun a => pre a (c :: r)).map fun a => waysF ws n ((c :: r).drop a.length)).sum
def ways (ws : List Wd) (t : Wd) : Nat := waysF ws t.length t
theorem sum_congr {α : Type} {f g : α → Nat} : ∀ {l : List α}, (∀ x ∈ l, f x = g x) → (l.map f).sum = (l.map g).sum
  | [], _ => rfl
  | x :: r, h => by
    simp only [List.map_cons, List.sum_cons]
    rw [h x (by simp), sum_congr fun y hy => h y (by simp [hy])]
theorem waysF_fuel (ws : List Wd) (hw : ∀ a ∈ ws, a ≠ []) : ∀ (n m : Nat) (t : Wd), t.length ≤ n → t.length ≤ m → waysF ws n t = waysF ws m t
  | n, m, [], _, _ => by cases n <;> cases m <;> rfl
  | 0, m, c :: r, h, _ => by simp at h
  | n + 1, 0, c :: r, _, h => by simp at h
  | n + 1, m + 1, c :: r, h1, h2 => by
    simp only [waysF]
    apply sum_congr
    intro a ha
    have ha' := List.mem_filter.mp ha
    have hl : 0 < a.length := List.length_pos_iff.mpr (hw a ha'.1)
    apply waysF_fuel ws hw
    · simp only [List.length_drop, List.length_cons] at h1 ⊢; omega
    · simp only [List.length_drop, List.length_cons] at h2 ⊢; omega
theorem ways_nil (ws : List Wd) : ways ws [] = 1 := rfl
theorem ways_eq (ws : List Wd) (hw : ∀ a ∈ ws, a ≠ []) {t : Wd} (ht : t ≠ []) : ways ws t = ((ws.filter fun a => pre a t).map fun a => ways ws (t.drop a.length)).sum := by
  cases t with
  | nil => exact absurd rfl ht
  | cons c r =>
    show waysF ws (r.length + 1) (c :: r) = _
    simp only [waysF]
    apply sum_congr
    intro a ha
    have ha' := List.mem_filter.mp ha
    have hl : 0 < a.length := List.length_pos_iff.mpr (hw a ha'.1)
    unfold ways
    apply waysF_fuel ws hw
    · simp only [List.length_drop, List.length_cons]; omega
    · exact Nat.le_refl _
theorem pre_len {a t : Wd} (h : pre a t = true) : a.length ≤ t.length := by
  have := of_decide_eq_true h
  have h2 := congrArg List.length this
  simp only [List.length_take] at h2
  omega
theorem pre_app {a t : Wd} (h : pre a t = true) : a ++ t.drop a.length = t := by
  have := of_decide_eq_true h
  have h2 := List.take_append_drop a.length t
  rw [this] at h2; exact h2
/-! the counts ahead of a place -/
def bef (ws : List Wd) (t : Wd) (p : Nat) : Nat := (((ws.take p).filter fun a => pre a t).map fun a => ways ws (t.drop a.length)).sum
theorem bef_zero (ws : List Wd) (t : Wd) : bef ws t 0 = 0 := by simp [bef]
theorem bef_succ (ws : List Wd) (t : Wd) {p : Nat} {a : Wd} (h : ws[p]? = some a) : bef ws t (p + 1) = bef ws t p + (if pre a t = true then ways ws (t.drop a.length) else 0) := by
  unfold bef
  rw [List.take_succ, h, List.filter_append, List.map_append, List.sum_append]
  by_cases hp : pre a t = true <;> simp [hp]
theorem bef_all (ws : List Wd) (hw : ∀ a ∈ ws, a ≠ []) {t : Wd} (ht : t ≠ []) : bef ws t ws.length = ways ws t := by
  rw [ways_eq ws hw ht]; unfold bef; rw [List.take_length]
theorem bef_mono (ws : List Wd) (t : Wd) {p q : Nat} (h : p ≤ q) : bef ws t p ≤ bef ws t q := by
  induction q with
  | zero => have : p = 0 := by omega
            subst this; exact Nat.le_refl _
  | succ q ih =>
    rcases Nat.lt_or_ge p (q + 1) with h1 | h1
    · refine Nat.le_trans (ih (by omega)) ?_
      cases hq : ws[q]? with
      | some a => rw [bef_succ ws t hq]; omega
      | none =>
        have : ws.length ≤ q := List.getElem?_eq_none_iff.mp hq
        unfold bef
        rw [List.take_of_length_le this, List.take_of_length_le (by omega)]
        exact Nat.le_refl _
    · have : p = q + 1 := by omega
      subst this; exact Nat.le_refl _
/-- the first place whose count reaches behind k -/
def pick (ws : List Wd) (t : Wd) : List Wd → Nat → Nat → Option (Nat × Nat)
  | [], _, _ => none
  | a :: r, i, k => if pre a t = true then (if k < ways ws (t.drop a.length) then some (i, k) else pick ws t r (i + 1) (k - ways ws (t.drop a.length))) else pick ws t r (i + 1) k
def wat (ws : List Wd) (i : Nat) : Wd := ws.getD i []
theorem pick_some (ws : List Wd) (t : Wd) : ∀ (r : List Wd) (i k : Nat), ws.drop i = r → i ≤ ws.length → bef ws t i + k < bef ws t ws.length →
    ∃ j k', pick ws t r i k = some (j, k') ∧ j < ws.length ∧ pre (wat ws j) t = true ∧ k' < ways ws (t.drop (wat ws j).length) ∧ bef ws t j + k' = bef ws t i + k := by
  intro r
  induction r with
  | nil =>
    intro i k hd hi hk
    have : ws.length ≤ i := by
      have := congrArg List.length hd
      simp at this; omega
    have e : i = ws.length := by omega
    subst e; omega
  | cons a r ih =>
    intro i k hd hi hk
    have hil : i < ws.length := by
      have := congrArg List.length hd
      simp at this; omega
    have ha : ws[i]? = some a := by
      have := List.getElem?_drop (xs := ws) (i := i) (j := 0)
      rw [hd] at this
      simpa using this.symm
    have hr : ws.drop (i + 1) = r := by
      rw [← List.drop_drop, hd]; rfl
    have ew : wat ws i = a := by simp [wat, List.getD, ha]
    have hb := bef_succ ws t ha
    unfold pick
    by_cases hp : pre a t = true
    · rw [if_pos hp] at hb ⊢
      by_cases hk2 : k < ways ws (t.drop a.length)
      · rw [if_pos hk2]
        exact ⟨i, k, rfl, hil, by rw [ew]; exact hp, by rw [ew]; exact hk2, rfl⟩
      · rw [if_neg hk2]
        obtain ⟨j, k', e1, e2, e3, e4, e5⟩ := ih (i + 1) (k - ways ws (t.drop a.length)) hr (by omega) (by rw [hb]; omega)
        exact ⟨j, k', e1, e2, e3, e4, by rw [e5, hb]; omega⟩
    · rw [if_neg hp] at hb ⊢
      obtain ⟨j, k', e1, e2, e3, e4, e5⟩ := ih (i + 1) k hr (by omega) (by rw [hb]; omega)
      exact ⟨j, k', e1, e2, e3, e4, by rw [e5, hb]; omega⟩
/-- the reading of a count -/
def nthF (ws : List Wd) : Nat → Wd → Nat → List Nat
  | _, [], _ => []
  | 0, _ :: _, _ => []
  | n + 1, c :: r, k => match pick ws (c :: r) ws 0 k with
    | some (j, k') => j :: nthF ws n ((c :: r).drop (wat ws j).length) k'
    | none => []
def nthW (ws : List Wd) (t : Wd) (k : Nat) : List Nat := nthF ws t.length t k
def joinW (ws : List Wd) (ns : List Nat) : Wd := (ns.map (wat ws)).flatten
/-- a reading's count -/
def num (ws : List Wd) : Wd → List Nat → Nat
  | _, [] => 0
  | t, p :: r => bef ws t p + num ws (t.drop (wat ws p).length) r
theorem wat_ne {ws : List Wd} (hw : ∀ a ∈ ws, a ≠ []) {j : Nat} (h : j < ws.length) : 0 < (wat ws j).length := by
  have : wat ws j = ws[j] := by simp [wat, List.getD, h]
  rw [this]
  exact List.length_pos_iff.mpr (hw _ (List.getElem_mem h))
theorem nthF_ok (ws : List Wd) (hw : ∀ a ∈ ws, a ≠ []) : ∀ (n : Nat) (t : Wd) (k : Nat), t.length ≤ n → k < ways ws t →
    joinW ws (nthF ws n t k) = t ∧ (∀ p ∈ nthF ws n t k, p < ws.length) ∧ num ws t (nthF ws n t k) = k := by
  intro n
  induction n with
  | zero =>
    intro t k ht hk
    have : t = [] := List.eq_nil_of_length_eq_zero (by omega)
    subst this
    rw [ways_nil] at hk
    exact ⟨rfl, by simp [nthF], by simp [nthF, num]; omega⟩
  | succ n ih =>
    intro t k ht hk
    cases t with
    | nil =>
      rw [ways_nil] at hk
      exact ⟨rfl, by simp [nthF], by simp [nthF, num]; omega⟩
    | cons c r =>
      have hne : (c :: r) ≠ [] := by simp
      obtain ⟨j, k', e1, e2, e3, e4, e5⟩ := pick_some ws (c :: r) ws 0 k rfl (by omega) (by rw [bef_zero, bef_all ws hw hne]; omega)
      have hl := wat_ne hw e2
      obtain ⟨i1, i2, i3⟩ := ih ((c :: r).drop (wat ws j).length) k' (by simp only [List.length_drop, List.length_cons] at ht ⊢; omega) e4
      simp only [nthF, e1]
      refine ⟨?_, ?_, ?_⟩
      · show (wat ws j) ++ joinW ws _ = _
        rw [i1]; exact pre_app e3
      · intro p hp
        rcases List.mem_cons.mp hp with rfl | hp
        · exact e2
        · exact i2 p hp
      · show bef ws (c :: r) j + num ws _ _ = k
        rw [i3, e5, bef_zero, Nat.zero_add]
theorem nthW_ok (ws : List Wd) (hw : ∀ a ∈ ws, a ≠ []) {t : Wd} {k : Nat} (hk : k < ways ws t) :
    joinW ws (nthW ws t k) = t ∧ (∀ p ∈ nthW ws t k, p < ws.length) ∧ num ws t (nthW ws t k) = k := nthF_ok ws hw _ t k (Nat.le_refl _) hk
theorem join_cons (ws : List Wd) (p : Nat) (r : List Nat) : joinW ws (p :: r) = wat ws p ++ joinW ws r := rfl
theorem join_len (ws : List Wd) (hw : ∀ a ∈ ws, a ≠ []) : ∀ ns : List Nat, (∀ p ∈ ns, p < ws.length) → ns.length ≤ (joinW ws ns).length
  | [], _ => by simp
  | p :: r, h => by
    rw [join_cons, List.length_append, List.length_cons]
    have h1 := wat_ne hw (h p (by simp))
    have h2 := join_len ws hw r fun q hq => h q (by simp [hq])
    omega
theorem pre_of_join {ws : List Wd} {p : Nat} {r : List Nat} {t : Wd} (h : joinW ws (p :: r) = t) : pre (wat ws p) t = true ∧ joinW ws r = t.drop (wat ws p).length := by
  rw [join_cons] at h
  subst h
  exact ⟨by simp [pre], by simp⟩
theorem wat_getElem {ws : List Wd} {p : Nat} (h : p < ws.length) : ws[p]? = some (wat ws p) := by
  simp [wat, List.getD, h]
theorem num_lt (ws : List Wd) (hw : ∀ a ∈ ws, a ≠ []) : ∀ (ns : List Nat) (t : Wd), (∀ p ∈ ns, p < ws.length) → joinW ws ns = t → num ws t ns < ways ws t
  | [], t, _, h => by
    have : t = [] := h.symm
    subst this; simp [num, ways_nil]
  | p :: r, t, hp, h => by
    obtain ⟨h1, h2⟩ := pre_of_join h
    have hpl := hp p (by simp)
    have ih := num_lt ws hw r (t.drop (wat ws p).length) (fun q hq => hp q (by simp [hq])) h2
    have hne : t ≠ [] := fun e => by
      have := pre_len h1
      have h3 := wat_ne hw hpl
      rw [e, List.length_nil] at this; omega
    have hm := bef_mono ws t (show p + 1 ≤ ws.length by omega)
    rw [bef_all ws hw hne] at hm
    have e : num ws t (p :: r) = bef ws t p + num ws (t.drop (wat ws p).length) r := rfl
    rw [e]
    rw [bef_succ ws t (wat_getElem hpl), if_pos h1] at hm
    exact Nat.lt_of_lt_of_le (Nat.add_lt_add_left ih _) hm
/-- a list not before another one, as Python's >= tells -/
def lexGe : List Nat → List Nat → Bool
  | _, [] => true
  | [], _ :: _ => false
  | x :: xs, y :: ys => if x = y then lexGe xs ys else decide (y ≤ x)
theorem num_ge (ws : List Wd) (hw : ∀ a ∈ ws, a ≠ []) : ∀ (xs ys : List Nat) (t : Wd), (∀ p ∈ xs, p < ws.length) → (∀ p ∈ ys, p < ws.length) → joinW ws xs = t → joinW ws ys = t → lexGe xs ys = true → num ws t ys ≤ num ws t xs
  | [], [], _, _, _, _, _, _ => Nat.le_refl _
  | [], y :: ys, _, _, _, _, _, h => by simp [lexGe] at h
  | x :: xs, [], t, _, _, _, _, _ => by simp [num]
  | x :: xs, y :: ys, t, hx, hy, jx, jy, h => by
    obtain ⟨x1, x2⟩ := pre_of_join jx
    obtain ⟨y1, y2⟩ := pre_of_join jy
    have hxl := hx x (by simp)
    have hyl := hy y (by simp)
    unfold lexGe at h
    by_cases e : x = y
    · subst e
      rw [if_pos rfl] at h
      have ih := num_ge ws hw xs ys (t.drop (wat ws x).length) (fun q hq => hx q (by simp [hq])) (fun q hq => hy q (by simp [hq])) x2 y2 h
      show bef ws t x + _ ≤ bef ws t x + _
      omega
    · rw [if_neg e] at h
      have hle := of_decide_eq_true h
      have hb := bef_succ ws t (wat_getElem hyl)
      rw [if_pos y1] at hb
      have hm := bef_mono ws t (show y + 1 ≤ x by omega)
      have hl := num_lt ws hw ys (t.drop (wat ws y).length) (fun q hq => hy q (by simp [hq])) y2
      show bef ws t y + _ ≤ bef ws t x + _
      omega
theorem nth_rising (ws : List Wd) (hw : ∀ a ∈ ws, a ≠ []) {t : Wd} {k l : Nat} (hl : l < ways ws t) (h : k < l) : lexGe (nthW ws t k) (nthW ws t l) = false := by
  obtain ⟨a1, a2, a3⟩ := nthW_ok ws hw (show k < ways ws t by omega)
  obtain ⟨b1, b2, b3⟩ := nthW_ok ws hw hl
  cases e : lexGe (nthW ws t k) (nthW ws t l) with
  | false => rfl
  | true =>
    have := num_ge ws hw _ _ t a2 b2 a1 b1 e
    rw [a3, b3] at this
    omega
/-! counting from the beginning on -/
/-- the sum of F j * ways of what is behind j, j from m on, k of them -/
def pot (ws : List Wd) (t : Wd) (F : Nat → Nat) : Nat → Nat → Nat
  | _, 0 => 0
  | m, k + 1 => F m * ways ws (t.drop m) + pot ws t F (m + 1) k
def bump (F : Nat → Nat) (j x : Nat) : Nat → Nat := fun i => if i = j then F i + x else F i
theorem pot_out (ws : List Wd) (t : Wd) (F : Nat → Nat) (j x : Nat) : ∀ (k m : Nat), (j < m ∨ m + k ≤ j) → pot ws t (bump F j x) m k = pot ws t F m k
  | 0, _, _ => rfl
  | k + 1, m, h => by
    simp only [pot]
    rw [pot_out ws t F j x k (m + 1) (by omega)]
    have : bump F j x m = F m := by unfold bump; rw [if_neg (by omega)]
    rw [this]
theorem pot_in (ws : List Wd) (t : Wd) (F : Nat → Nat) (j x : Nat) : ∀ (k m : Nat), m ≤ j → j < m + k → pot ws t (bump F j x) m k = pot ws t F m k + x * ways ws (t.drop j)
  | 0, m, h1, h2 => by omega
  | k + 1, m, h1, h2 => by
    simp only [pot]
    by_cases e : m = j
    · subst e
      rw [pot_out ws t F m x k (m + 1) (by omega)]
      have : bump F m x m = F m + x := by unfold bump; rw [if_pos rfl]
      rw [this, Nat.add_mul]; omega
    · rw [pot_in ws t F j x k (m + 1) (by omega) (by omega)]
      have : bump F j x m = F m := by unfold bump; rw [if_neg e]
      rw [this]; omega
/-- the words that stand at m, one after another -/
def spread (t : Wd) (m : Nat) (F : Nat → Nat) (ws : List Wd) : Nat → Nat := ws.foldl (fun G a => if pre a (t.drop m) = true then bump G (m + a.length) (F m) else G) F
theorem spread_at (t : Wd) (m : Nat) (F : Nat → Nat) : ∀ (us : List Wd), (∀ a ∈ us, a ≠ []) → ∀ G : Nat → Nat, G m = F m → (us.foldl (fun G a => if pre a (t.drop m) = true then bump G (m + a.length) (F m) else G) G) m = F m
  | [], _, G, h => h
  | a :: r, hw, G, h => by
    simp only [List.foldl_cons]
    apply spread_at t m F r (fun b hb => hw b (by simp [hb]))
    have hl : 0 < a.length := List.length_pos_iff.mpr (hw a (by simp))
    by_cases hp : pre a (t.drop m) = true
    · rw [if_pos hp]; unfold bump; rw [if_neg (by omega)]; exact h
    · rw [if_neg hp]; exact h
theorem spread_pot (ws : List Wd) (t : Wd) (m : Nat) (hm : m < t.length) (x : Nat) : ∀ (us : List Wd), (∀ a ∈ us, a ≠ []) → ∀ G : Nat → Nat,
    pot ws t (us.foldl (fun G a => if pre a (t.drop m) = true then bump G (m + a.length) x else G) G) (m + 1) (t.length - m) =
    pot ws t G (m + 1) (t.length - m) + x * ((us.filter fun a => pre a (t.drop m)).map fun a => ways ws ((t.drop m).drop a.length)).sum
  | [], _, G => by simp
  | a :: r, hw, G => by
    have hl : 0 < a.length := List.length_pos_iff.mpr (hw a (by simp))
    simp only [List.foldl_cons]
    rw [spread_pot ws t m hm x r (fun b hb => hw b (by simp [hb]))]
    by_cases hp : pre a (t.drop m) = true
    · have hpl := pre_len hp
      rw [List.length_drop] at hpl
      rw [if_pos hp, pot_in ws t G (m + a.length) x _ _ (by omega) (by omega), List.filter_cons, if_pos hp, List.map_cons, List.sum_cons, List.drop_drop, Nat.mul_add]
      omega
    · rw [if_neg hp, List.filter_cons, if_neg hp]
theorem spread_step (ws : List Wd) (hw : ∀ a ∈ ws, a ≠ []) (t : Wd) (m : Nat) (hm : m < t.length) (F : Nat → Nat) :
    pot ws t (spread t m F ws) (m + 1) (t.length - m) = pot ws t F m (t.length - m + 1) := by
  unfold spread
  rw [spread_pot ws t m hm (F m) ws hw F]
  show _ = F m * ways ws (t.drop m) + pot ws t F (m + 1) (t.length - m)
  have hne : t.drop m ≠ [] := fun e => by
    have := congrArg List.length e
    simp at this; omega
  rw [ways_eq ws hw hne]
  omega
/-- where nothing leads, nothing is spread -/
theorem bump_zero (F : Nat → Nat) (j : Nat) : bump F j 0 = F := by
  funext i; unfold bump; split <;> rfl
theorem spread_zero (t : Wd) (m : Nat) (F : Nat → Nat) (h : F m = 0) (ws : List Wd) : spread t m F ws = F := by
  unfold spread
  rw [h]
  induction ws with
  | nil => rfl
  | cons a r ih =>
    simp only [List.foldl_cons, bump_zero, ite_self] at ih ⊢
    exact ih
end M3

set_option Elab.async false
set_option linter.all false
set_option maxRecDepth 100000
set_option maxHeartbeats 4000000
namespace Tr
open PySem PySem.Spec PyProof.Rows L2 Evl
open M3 (wat joinW pre)
def topS (i : Nat) : Stmt := PySem.Challenge.pw_tworeadings_k07_refused.main.body.getD i (.Pass ⟨0, 0, 0, 0⟩)
abbrev s_is_number : Stmt := topS 10
abbrev N_is_number : List Str := ["thing", "least", "most"]
theorem sc_is_number : FnScope N_is_number ["thing", "least", "most"] (defScope s_is_number) := ⟨rfl, rfl, rfl, by decide +kernel, rfl, by decide +kernel, by decide +kernel⟩
abbrev s_is_text : Stmt := topS 11
abbrev N_is_text : List Str := ["thing"]
theorem sc_is_text : FnScope N_is_text ["thing"] (defScope s_is_text) := ⟨rfl, rfl, rfl, by decide +kernel, rfl, by decide +kernel, by decide +kernel⟩
abbrev s_asked_code : Stmt := topS 12
abbrev N_asked_code : List Str := ["code", "word"]
theorem sc_asked_code : FnScope N_asked_code ["code"] (defScope s_asked_code) := ⟨rfl, rfl, rfl, by decide +kernel, rfl, by decide +kernel, by decide +kernel⟩
abbrev s_asked_text : Stmt := topS 13
abbrev N_asked_text : List Str := ["text"]
theorem sc_asked_text : FnScope N_asked_text ["text"] (defScope s_asked_text) := ⟨rfl, rfl, rfl, by decide +kernel, rfl, by decide +kernel, by decide +kernel⟩
abbrev s_joined : Stmt := topS 14
abbrev N_joined : List Str := ["code", "places", "place"]
theorem sc_joined : FnScope N_joined ["code", "places"] (defScope s_joined) := ⟨rfl, rfl, rfl, by decide +kernel, rfl, by decide +kernel, by decide +kernel⟩
abbrev s_stands : Stmt := topS 16
abbrev N_stands : List Str := ["word", "text", "at"]
theorem sc_stands : FnScope N_stands ["word", "text", "at"] (defScope s_stands) := ⟨rfl, rfl, rfl, by decide +kernel, rfl, by decide +kernel, by decide +kernel⟩
local macro_rules | `(tactic| walk_at "sd") => `(tactic| first | assumption | rfl | omega | decide | (solve_by_elim) | (refine Nat.le_trans (m := 1000) (by solve_by_elim) (by decide)))
local macro_rules | `(tactic| walk_at "rv") => `(tactic| first
  | exact rv_add | exact rv_sub | exact rv_lt | exact rv_le | exact rv_gt | exact rv_ge | exact rv_eqI | exact rv_eqS | exact rv_eqB | exact rv_neI | exact rv_neS | exact rv_neB
  | exact rv_mod (by walk_at "sd") | exact rv_fdiv (by first | assumption | exact ⟨by omega, by omega⟩) | exact rv_addS (by walk_at "sd") | exact rv_isB | exact rv_notB | assumption)
local macro_rules | `(tactic| walk_at "ea") => `(tactic| first
  | exact ea_nil
  | (refine' ea_cons ?k1 ?k2; (case k1 => walk_at "ev"); (case k2 => walk_at "ea")))
local macro_rules | `(tactic| walk_at "eo") => `(tactic| first
  | exact eo_none
  | (refine' eo_some ?k1; (case k1 => walk_at "ev")))
local macro_rules | `(tactic| walk_at "et") => `(tactic| first
  | (refine' et_test ?k1; (case k1 => walk_at "ev"))
  | (refine' et_B ?k1; (case k1 => walk_at "ev"))
  | (refine' et_and ?k1 ?k2; (case k1 => walk_at "et"); (case k2 => (intro _; walk_at "et")))
  | (refine' et_or ?k1 ?k2; (case k1 => walk_at "et"); (case k2 => (intro _; walk_at "et")))
  | (refine' et_not ?k1; (case k1 => walk_at "et"))
  | assumption)
local macro_rules | `(tactic| walk_at "ev") => `(tactic| first
  | assumption
  | exact ev_cS
  | exact ev_c
  | exact ev_var rfl
  | (refine' ev_op ?k1 ?k2 ?k3; (case k1 => walk_at "ev"); (case k2 => walk_at "ev"); (case k3 => walk_at "rv"))
  | (refine' ev_un ?k1 ru_neg; (case k1 => walk_at "ev"))
  | (refine' ev_chain ?k1 ?k2 ?k3 ?k4 ?k5; (case k1 => walk_at "ev"); (case k2 => walk_at "ev"); (case k3 => walk_at "ev"); (case k4 => walk_at "rv"); (case k5 => (intro _; walk_at "rv")))
  | (refine' ev_slS ?k1 ?k2 ?k3 ?k4; (case k1 => walk_at "ev"); (case k2 => walk_at "eo"); (case k3 => walk_at "eo"); (case k4 => walk_at "sd"))
  | (refine' ev_lenS ?k1 ?k2; (case k1 => walk_at "ev"); (case k2 => walk_at "sd"))
  | (refine' ev_len' ?k1 ?k2; (case k1 => walk_at "ev"); (case k2 => walk_at "sd"))
  | (refine' ev_strip ?k1 ?k2 ?k3; (case k1 => walk_at "ev"); (case k2 => walk_at "ev"); (case k3 => walk_at "sd"))
  | (refine' ev_sum ?k1 ?k2; (case k1 => walk_at "ev"); (case k2 => walk_at "sd"))
  | (refine' ev_isi ?k1 ?k2 ?k3 ?k4; (case k1 => walk_at "ev"); (case k2 => walk_at "ev"); (case k3 => first | exact ty_int | exact ty_bl | exact ty_str | exact ty_list (by walk_at "sd")); (case k4 => first | exact kit_ty (r := true) (by decide +kernel) | exact kit_ty (r := false) (by decide +kernel)))
  | (refine' ev_andV ?k1 ?k2; (case k1 => walk_at "ev"); (case k2 => (intro _; walk_at "ev")))
  | (refine' ev_orV ?k1 ?k2; (case k1 => walk_at "ev"); (case k2 => (intro _; walk_at "ev")))
  | (refine' ev_notV ?k1; (case k1 => walk_at "ev"))
  | (refine' ev_call ?k1 ?k2; (case k1 => walk_at "ea"); (case k2 => walk_at "sv")))
local macro_rules | `(tactic| walk_at "el") => `(tactic| first
  | assumption
  | (refine' el_mapB ?k1 ?k2 ?k3 (fun _ => rfl) ?k5; (case k1 => walk_at "ev"); (case k2 => walk_at "sd"); (case k3 => walk_at "sd"); (case k5 => (intro _ _; walk_at "ev")))
  | (refine' el_mapI ?k1 ?k2 ?k3 (fun _ => rfl) ?k5; (case k1 => walk_at "ev"); (case k2 => walk_at "sd"); (case k3 => walk_at "sd"); (case k5 => (intro _ _; walk_at "ev")))
  | (refine' el_mapS ?k1 ?k2 ?k3 (fun _ => rfl) ?k5; (case k1 => walk_at "ev"); (case k2 => walk_at "sd"); (case k3 => walk_at "sd"); (case k5 => (intro _ _; walk_at "ev"))))
local macro_rules | `(tactic| walk_at "ev") => `(tactic| first
  | (refine' ev_all ?k1; (case k1 => walk_at "el"))
  | (refine' ev_any ?k1; (case k1 => walk_at "el"))
  | (refine' ev_sumN ?k1; (case k1 => walk_at "el"))
  | (refine' ev_join ?k1 ?k2 ?k3; (case k1 => exact ev_is ev_cS (congrArg tx codes_nil)); (case k2 => walk_at "el"); (case k3 => walk_at "sd")))

/-- the built-in names, LETTERS -/
structure Blt (mg : Str → Option Value) : Prop where
  len : mg "len" = none
  all : mg "all" = none
  any : mg "any" = none
  isinstance : mg "isinstance" = none
  range : mg "range" = none
  sum : mg "sum" = none
  sorted : mg "sorted" = none
  enumerate : mg "enumerate" = none
  max : mg "max" = none
  min : mg "min" = none
  reversed : mg "reversed" = none
  list : mg "list" = none
  int : mg "int" = none
  str : mg "str" = none
  bool : mg "bool" = none
  set : mg "set" = none
  ValueError : mg "ValueError" = none
  LETTERS : ∃ u, mg "LETTERS" = some u ∧ RelV (.str "abcdefghijklmnopqrstuvwxyz") u
theorem pe_gv {X : Cx} {x : Str} {v : V} {pos : Pos} (hg : Gl X x) (h : ∃ u, X.mg x = some u ∧ RelV v u) (hd : (x == ("__debug__" : Str)) = false := by decide) : PE X (.Name x pos) (tC v) := by
  obtain ⟨u, h1, h2⟩ := h
  exact pe_glob hg h1 h2 hd
def okW (a : Wd) : Prop := ∀ c ∈ a, 97 ≤ c ∧ c ≤ 122
instance (a : Wd) : Decidable (okW a) := inferInstanceAs (Decidable (∀ c ∈ a, 97 ≤ c ∧ c ≤ 122))
def abc : Wd := codes ("abcdefghijklmnopqrstuvwxyz" : Str)
theorem abc_eq : abc = List.range' 97 26 := by decide +kernel
theorem mem_abc {c : Nat} : c ∈ abc ↔ 97 ≤ c ∧ c ≤ 122 := by
  rw [abc_eq, List.mem_range'_1]
  omega
theorem codes_nil : codes ("" : Str) = [] := by decide +kernel
theorem S_nil : S [] = ("" : Str) := by decide +kernel
def standsB (a t : Wd) (i : Nat) : Bool := pre a (t.drop i)
section
variable {P : Program} {w : World} {K : PySem.W.Frag} {mg : Str → Option Value} {base : Heap} {H : Hp}
/-! ### stands -/
def spStands : Sp := fun vs H Q _ => ∃ (a t : Wd) (i : Nat), vs = [tx a, tx t, .int (i : Int)] ∧ a.length ≤ 10000 ∧ t.length ≤ 10000 ∧ ∀ H', Ex H H' → Q (.bl (standsB a t i)) H'
theorem sv_stands {a t : Wd} {i : Nat} (h1 : a.length ≤ 10000) (h2 : t.length ≤ 10000) : SpV spStands [tx a, tx t, .int (i : Int)] H (.bl (standsB a t i)) := fun _ _ _ q _ => ⟨a, t, i, rfl, h1, h2, q⟩
theorem ok_stands (D : DefAt K mg "stands" s_stands ["word", "text", "at"]) (T : Blt mg) : Cal P w K mg base 1 "stands" spStands := by
  refine cal_of D sc_stands (fun vs H Q E h => ?_) (fun f cdv A outer s H vs Q E hr h => ?_)
  · obtain ⟨a, t, i, rfl, _⟩ := h; rfl
  · obtain ⟨a, t, i, rfl, h1, h2, q⟩ := h
    refine ⟨_, (pss_one (ps_ret (pe_cmpR op_eq (pe_slice sl_str (pv 1) (po_some (pv 2)) (po_some (pe_op op_add (pv 2) (pe_callB call_len_str (by rfl) T.len (by decide +kernel) (pa_cons (pv 0) pa_nil))))) (pv 0) (nomark _)))), ?_⟩
    refine sev_run (sev_is (sev_ret (by walk_at "ev")) (congrArg V.bl ?_)) q
    unfold standsB pre
    have h3 : (i : Int) + (a.length : Int) = ((i + a.length : Nat) : Int) := by omega
    have h4 : i + a.length - i = a.length := by omega
    rw [h3, cut_nn, h4]
/-! ### is_number, is_text -/
def spIsNumber : Sp := fun vs H Q _ => ∃ n lo hi : Int, vs = [.int n, .int lo, .int hi] ∧ ∀ H', Ex H H' → Q (.bl (decide (lo ≤ n) && decide (n ≤ hi))) H'
theorem sv_is_number {n lo hi : Int} : SpV spIsNumber [.int n, .int lo, .int hi] H (.bl (decide (lo ≤ n) && decide (n ≤ hi))) := fun _ _ _ q _ => ⟨n, lo, hi, rfl, q⟩
theorem ok_is_number (D : DefAt K mg "is_number" s_is_number ["thing", "least", "most"]) (T : Blt mg) : Cal P w K mg base 1 "is_number" spIsNumber := by
  refine cal_of D sc_is_number (fun vs H Q E h => ?_) (fun f cdv A outer s H vs Q E hr h => ?_)
  · obtain ⟨n, lo, hi, rfl, _⟩ := h; rfl
  · obtain ⟨n, lo, hi, rfl, q⟩ := h
    refine ⟨_, (pss_one (ps_ret (pe_and (pe_callB (call_isiK' (K := K) rfl) (by rfl) T.isinstance (by decide +kernel) (pa_cons (pv 0) (pa_cons (pe_bltn (v := .ty "int") (by rfl) T.int (by decide +kernel) rfl) pa_nil))) (pe_and (pe_not (pe_callB (call_isiK' (K := K) rfl) (by rfl) T.isinstance (by decide +kernel) (pa_cons (pv 0) (pa_cons (pe_bltn (v := .ty "bool") (by rfl) T.bool (by decide +kernel) rfl) pa_nil)))) (pe_one (pe_chain op_le op_le (pv 1) (pv 0) (pv 2))))))), ?_⟩
    refine sev_run (sev_is (sev_ret (by walk_at "ev")) ?_) q
    rfl
def spIsText : Sp := fun vs H Q _ => ∃ a : Wd, vs = [tx a] ∧ a.length ≤ 10000 ∧ ∀ H', Ex H H' → Q (.bl (decide (okW a))) H'
theorem sv_is_text {a : Wd} (h : a.length ≤ 10000) : SpV spIsText [tx a] H (.bl (decide (okW a))) := fun _ _ _ q _ => ⟨a, rfl, h, q⟩
theorem strip_abc (a : Wd) : decide (codes (Txt.stripChars (S a) (S abc)) = codes ("" : Str)) = decide (okW a) := by
  have h : (codes (Txt.stripChars (S a) (S abc)) = codes ("" : Str)) ↔ okW a := by
    rw [codes_nil]
    constructor
    · intro e c hc
      have e2 : Txt.stripChars (S a) (S abc) = S [] := by
        rw [← S_codes (Txt.stripChars (S a) (S abc)), e]
      exact mem_abc.mp ((strip_iff a abc).mp e2 c hc)
    · intro o
      rw [(strip_iff a abc).mpr fun c hc => mem_abc.mpr (o c hc), codes_S]
  simp only [h]
theorem ok_is_text (D : DefAt K mg "is_text" s_is_text ["thing"]) (T : Blt mg) : Cal P w K mg base 1 "is_text" spIsText := by
  refine cal_of D sc_is_text (fun vs H Q E h => ?_) (fun f cdv A outer s H vs Q E hr h => ?_)
  · obtain ⟨a, rfl, _⟩ := h; rfl
  · obtain ⟨a, rfl, h1, q⟩ := h
    refine ⟨_, (pss_one (ps_ret (pe_and (pe_callB (call_isiK' (K := K) rfl) (by rfl) T.isinstance (by decide +kernel) (pa_cons (pv 0) (pa_cons (pe_bltn (v := .ty "str") (by rfl) T.str (by decide +kernel) rfl) pa_nil))) (pe_one (pe_cmpR op_eq (pe_m1 PySem.F.slot_str_strip PySem.F.type_str_strip mt_stripChars (pv 0) (pe_gv (by rfl) T.LETTERS)) pe_str (nomark _)))))), ?_⟩
    refine sev_run (sev_is (sev_ret (by walk_at "ev")) (congrArg V.bl ?_)) q
    rw [Bool.true_and]
    exact strip_abc a
/-! ### asked_code, asked_text -/
/-- a list of words stands at p -/
structure CodeAt (K : PySem.W.Frag) (H : Hp) (p : Addr) (ws : List Wd) : Prop where
  sq : SqL K H p (ws.map tx)
  ok : ∀ a ∈ ws, a ≠ [] ∧ okW a ∧ a.length ≤ 1000
  len : ws.length ≤ 1000
theorem CodeAt.ex {p : Addr} {ws : List Wd} {H H' : Hp} (e : Ex H H') (h : CodeAt K H p ws) : CodeAt K H' p ws := ⟨ex_l e h.sq, h.ok, h.len⟩
def spAskedCode (K : PySem.W.Frag) : Sp := fun vs H Q _ => ∃ (p : Addr) (ws : List Wd), vs = [.ref p] ∧ CodeAt K H p ws ∧ ∀ H', Ex H H' → Q .non H'
theorem sv_asked_code {p : Addr} {ws : List Wd} (h : CodeAt K H p ws) : SpV (spAskedCode K) [.ref p] H .non := fun _ e _ q _ => ⟨p, ws, rfl, h.ex e, q⟩
local macro_rules | `(tactic| walk_at "sv") => `(tactic| first | exact sv_is_text (by walk_at "sd") | exact sv_stands (by walk_at "sd") (by walk_at "sd"))
theorem ok_asked_code (D : DefAt K mg "asked_code" s_asked_code ["code"]) (T : Blt mg) (C_is_text : Cal P w K mg base 1 "is_text" spIsText) : Cal P w K mg base 2 "asked_code" (spAskedCode K) := by
  refine cal_of D sc_asked_code (fun vs H Q E h => ?_) (fun f cdv A outer s H vs Q E hr h => ?_)
  · obtain ⟨p, ws, rfl, _⟩ := h; rfl
  · obtain ⟨p, ws, rfl, hc, q⟩ := h
    refine ⟨_, (pss_one (ps_if (PW.pt (pw_or (pt_not (pt_val (pe_callB (call_isiK' (K := K) rfl) (by rfl) T.isinstance (by decide +kernel) (pa_cons (pv 0) (pa_cons (pe_bltn (v := .ty "list") (by rfl) T.list (by decide +kernel) rfl) pa_nil))))) (pw_or1 (pt_not (pt_val (pe_callB (cr_allK (K := K) rfl rfl) (by rfl) T.all (by decide +kernel) (pa_cons (pe_lc (own := [("word", 1)]) rfl sc_asked_code.nd (pi_listK (K := K) rfl (pv 0)) (blkOk_by (own := [("word", 1)]) (N := N_asked_code) (sc := defScope s_asked_code) (by decide +kernel)) (fun _ _ _ _ _ => (pg_name (i := 1) sc_asked_code.nd rfl (.inl rfl))) (fun _ _ _ _ _ => pts_nil) (fun _ _ _ _ _ => (pe_and (pe_c C_is_text hr (by decide) (by rfl) (pa_cons (pv 1) pa_nil)) (pe_one (pe_cmpR op_ne (pv 1) pe_str (nomark _)))))) pa_nil))))))) (pss_one ps_never) pss_nil)), ?_⟩
    have hsq := hc.sq
    have hz : ws.length ≤ 40000 := Nat.le_trans hc.len (by decide)
    have hb : ∀ a, a ∈ ws → a.length ≤ 1000 := fun a ha => (hc.ok a ha).2.2
    refine snx_run (snx_skip (et_is (by walk_at "et") ?_)) q
    have : (ws.map fun a => decide (okW a) && !decide (a = codes ("" : Str))).all id = true := by
      rw [List.all_map, List.all_eq_true]
      intro a ha
      obtain ⟨h1, h2, h3⟩ := hc.ok a ha
      simp [h1, h2, codes_nil]
    rw [this]
    rfl
def spAskedText : Sp := fun vs H Q _ => ∃ a : Wd, vs = [tx a] ∧ a.length ≤ 10000 ∧ okW a ∧ ∀ H', Ex H H' → Q .non H'
theorem sv_asked_text {a : Wd} (h : a.length ≤ 10000) (o : okW a) : SpV spAskedText [tx a] H .non := fun _ _ _ q _ => ⟨a, rfl, h, o, q⟩
theorem ok_asked_text (D : DefAt K mg "asked_text" s_asked_text ["text"]) (T : Blt mg) (C_is_text : Cal P w K mg base 1 "is_text" spIsText) : Cal P w K mg base 2 "asked_text" spAskedText := by
  refine cal_of D sc_asked_text (fun vs H Q E h => ?_) (fun f cdv A outer s H vs Q E hr h => ?_)
  · obtain ⟨a, rfl, _⟩ := h; rfl
  · obtain ⟨a, rfl, h1, o, q⟩ := h
    refine ⟨_, (pss_one (ps_if (pt_not (pt_val (pe_c C_is_text hr (by decide) (by rfl) (pa_cons (pv 0) pa_nil)))) (pss_one ps_never) pss_nil)), ?_⟩
    refine snx_run (snx_skip (et_is (by walk_at "et") ?_)) q
    simp [o]
/-! ### joined -/
def nI (n : Nat) : V := .int (n : Int)
theorem wat_get {ws : List Wd} {i : Nat} (h : i < ws.length) : (ws.map tx)[i]? = some (tx (wat ws i)) := by
  simp [wat, List.getD, List.getElem?_map, h]
def spJoined (K : PySem.W.Frag) : Sp := fun vs H Q _ => ∃ (p q : Addr) (ws : List Wd) (ns : List Nat), vs = [.ref p, .ref q] ∧ SqL K H p (ws.map tx) ∧ SqL K H q (ns.map nI) ∧ ns.length ≤ 40000 ∧ (∀ n ∈ ns, n < ws.length) ∧ (joinW ws ns).length ≤ 100000 ∧ ∀ H', Ex H H' → Q (tx (joinW ws ns)) H'
theorem sv_joined {p q : Addr} {ws : List Wd} {ns : List Nat} (h1 : SqL K H p (ws.map tx)) (h2 : SqL K H q (ns.map nI)) (h3 : ns.length ≤ 40000) (h4 : ∀ n ∈ ns, n < ws.length) (h5 : (joinW ws ns).length ≤ 100000) : SpV (spJoined K) [.ref p, .ref q] H (tx (joinW ws ns)) :=
  fun _ e _ k _ => ⟨p, q, ws, ns, rfl, ex_l e h1, ex_l e h2, h3, h4, h5, k⟩
theorem ok_joined (D : DefAt K mg "joined" s_joined ["code", "places"]) (T : Blt mg) : Cal P w K mg base 1 "joined" (spJoined K) := by
  refine cal_of D sc_joined (fun vs H Q E h => ?_) (fun f cdv A outer s H vs Q E hr h => ?_)
  · obtain ⟨p, q, ws, ns, rfl, _⟩ := h; rfl
  · obtain ⟨p, q, ws, ns, rfl, h1, h2, h3, h4, h5, k⟩ := h
    refine ⟨_, (pss_one (ps_ret (pe_joinK (K := K) rfl pe_str (pe_lc (own := [("place", 2)]) rfl sc_joined.nd (pi_listK (K := K) rfl (pv 1)) (blkOk_by (own := [("place", 2)]) (N := N_joined) (sc := defScope s_joined) (by decide +kernel)) (fun _ _ _ _ _ => (pg_name (i := 2) sc_joined.nd rfl (.inl rfl))) (fun _ _ _ _ _ => pts_nil) (fun _ _ _ _ _ => (pe_ix (ix_listK (K := K) rfl) (pv 0) (pv 2) (fun _ _ => rfl))))))), ?_⟩
    refine sev_run (sev_ret ?_) k
    refine ev_join (ev_is ev_cS (congrArg tx codes_nil)) (el_mapS (ev_var rfl) h2 h3 (fun _ => rfl) fun n hn => ?_) h5
    exact ev_op (ev_var rfl) (ev_var rfl) (rv_ixL h1 (atI_nat (wat_get (h4 n hn))))
end
end Tr

set_option Elab.async false
set_option linter.all false
set_option maxRecDepth 100000
set_option maxHeartbeats 4000000
namespace Tr
open PySem PySem.Spec PyProof.Rows L2 Evl
open M3 (wat joinW pre ways pick nthW bef num)
abbrev s_table_of : Stmt := topS 29
abbrev N_table_of : List Str := ["code", "text", "mark", "found", "word"]
theorem sc_table_of : FnScope N_table_of ["code", "text"] (defScope s_table_of) := ⟨rfl, rfl, rfl, by decide +kernel, rfl, by decide +kernel, by decide +kernel⟩
abbrev s_nth : Stmt := topS 32
abbrev N_nth : List Str := ["code", "text", "table", "number", "found", "mark", "left", "step", "place", "word", "many"]
theorem sc_nth : FnScope N_nth ["code", "text", "table", "number"] (defScope s_nth) := ⟨rfl, rfl, rfl, by decide +kernel, rfl, by decide +kernel, by decide +kernel⟩
abbrev s_how_many : Stmt := topS 33
abbrev N_how_many : List Str := ["code", "text"]
theorem sc_how_many : FnScope N_how_many ["code", "text"] (defScope s_how_many) := ⟨rfl, rfl, rfl, by decide +kernel, rfl, by decide +kernel, by decide +kernel⟩
abbrev s_told : Stmt := topS 34
abbrev N_told : List Str := ["code", "text", "number", "table"]
theorem sc_told : FnScope N_told ["code", "text", "number"] (defScope s_told) := ⟨rfl, rfl, rfl, by decide +kernel, rfl, by decide +kernel, by decide +kernel⟩
abbrev s_number_of : Stmt := topS 35
abbrev N_number_of : List Str := ["code", "text", "places", "table", "place", "found", "mark", "other"]
theorem sc_number_of : FnScope N_number_of ["code", "text", "places"] (defScope s_number_of) := ⟨rfl, rfl, rfl, by decide +kernel, rfl, by decide +kernel, by decide +kernel⟩
local macro_rules | `(tactic| walk_at "sd") => `(tactic| first | assumption | rfl | omega | decide | (solve_by_elim) | (refine Nat.le_trans (m := 1000) (by solve_by_elim) (by decide)))
local macro_rules | `(tactic| walk_at "rv") => `(tactic| first
  | exact rv_add | exact rv_sub | exact rv_lt | exact rv_le | exact rv_gt | exact rv_ge | exact rv_eqI | exact rv_eqS | exact rv_eqB | exact rv_neI | exact rv_neS | exact rv_neB
  | exact rv_mod (by walk_at "sd") | exact rv_fdiv (by first | assumption | exact ⟨by omega, by omega⟩) | exact rv_addS (by walk_at "sd") | exact rv_isB | exact rv_notB | assumption)
local macro_rules | `(tactic| walk_at "ea") => `(tactic| first
  | exact ea_nil
  | (refine' ea_cons ?k1 ?k2; (case k1 => walk_at "ev"); (case k2 => walk_at "ea")))
local macro_rules | `(tactic| walk_at "eo") => `(tactic| first
  | exact eo_none
  | (refine' eo_some ?k1; (case k1 => walk_at "ev")))
local macro_rules | `(tactic| walk_at "et") => `(tactic| first
  | (refine' et_test ?k1; (case k1 => walk_at "ev"))
  | (refine' et_B ?k1; (case k1 => walk_at "ev"))
  | (refine' et_and ?k1 ?k2; (case k1 => walk_at "et"); (case k2 => (intro _; walk_at "et")))
  | (refine' et_or ?k1 ?k2; (case k1 => walk_at "et"); (case k2 => (intro _; walk_at "et")))
  | (refine' et_not ?k1; (case k1 => walk_at "et"))
  | assumption)
local macro_rules | `(tactic| walk_at "ev") => `(tactic| first
  | assumption
  | exact ev_cS
  | exact ev_c
  | exact ev_var rfl
  | (refine' ev_op ?k1 ?k2 ?k3; (case k1 => walk_at "ev"); (case k2 => walk_at "ev"); (case k3 => walk_at "rv"))
  | (refine' ev_un ?k1 ru_neg; (case k1 => walk_at "ev"))
  | (refine' ev_chain ?k1 ?k2 ?k3 ?k4 ?k5; (case k1 => walk_at "ev"); (case k2 => walk_at "ev"); (case k3 => walk_at "ev"); (case k4 => walk_at "rv"); (case k5 => (intro _; walk_at "rv")))
  | (refine' ev_slS ?k1 ?k2 ?k3 ?k4; (case k1 => walk_at "ev"); (case k2 => walk_at "eo"); (case k3 => walk_at "eo"); (case k4 => walk_at "sd"))
  | (refine' ev_lenS ?k1 ?k2; (case k1 => walk_at "ev"); (case k2 => walk_at "sd"))
  | (refine' ev_len' ?k1 ?k2; (case k1 => walk_at "ev"); (case k2 => walk_at "sd"))
  | (refine' ev_strip ?k1 ?k2 ?k3; (case k1 => walk_at "ev"); (case k2 => walk_at "ev"); (case k3 => walk_at "sd"))
  | (refine' ev_sum ?k1 ?k2; (case k1 => walk_at "ev"); (case k2 => walk_at "sd"))
  | (refine' ev_isi ?k1 ?k2 ?k3 ?k4; (case k1 => walk_at "ev"); (case k2 => walk_at "ev"); (case k3 => first | exact ty_int | exact ty_bl | exact ty_str | exact ty_list (by walk_at "sd")); (case k4 => first | exact kit_ty (r := true) (by decide +kernel) | exact kit_ty (r := false) (by decide +kernel)))
  | (refine' ev_andV ?k1 ?k2; (case k1 => walk_at "ev"); (case k2 => (intro _; walk_at "ev")))
  | (refine' ev_orV ?k1 ?k2; (case k1 => walk_at "ev"); (case k2 => (intro _; walk_at "ev")))
  | (refine' ev_notV ?k1; (case k1 => walk_at "ev"))
  | (refine' ev_call ?k1 ?k2; (case k1 => walk_at "ea"); (case k2 => walk_at "sv")))
local macro_rules | `(tactic| walk_at "el") => `(tactic| first
  | assumption
  | (refine' el_mapB ?k1 ?k2 ?k3 (fun _ => rfl) ?k5; (case k1 => walk_at "ev"); (case k2 => walk_at "sd"); (case k3 => walk_at "sd"); (case k5 => (intro _ _; walk_at "ev")))
  | (refine' el_mapI ?k1 ?k2 ?k3 (fun _ => rfl) ?k5; (case k1 => walk_at "ev"); (case k2 => walk_at "sd"); (case k3 => walk_at "sd"); (case k5 => (intro _ _; walk_at "ev")))
  | (refine' el_mapS ?k1 ?k2 ?k3 (fun _ => rfl) ?k5; (case k1 => walk_at "ev"); (case k2 => walk_at "sd"); (case k3 => walk_at "sd"); (case k5 => (intro _ _; walk_at "ev"))))
local macro_rules | `(tactic| walk_at "ev") => `(tactic| first
  | (refine' ev_all ?k1; (case k1 => walk_at "el"))
  | (refine' ev_any ?k1; (case k1 => walk_at "el"))
  | (refine' ev_sumN ?k1; (case k1 => walk_at "el"))
  | (refine' ev_join ?k1 ?k2 ?k3; (case k1 => exact ev_is ev_cS (congrArg tx codes_nil)); (case k2 => walk_at "el"); (case k3 => walk_at "sd")))

local macro_rules | `(tactic| walk_at "sv") => `(tactic| first | exact sv_is_text (by walk_at "sd") | exact sv_is_number | exact sv_stands (by walk_at "sd") (by walk_at "sd") | exact sv_asked_code (by walk_at "sd") | exact sv_asked_text (by walk_at "sd") (by walk_at "sd"))
/-- the counts behind each mark -/
def tabN (ws : List Wd) (t : Wd) : List Nat := (List.range (t.length + 1)).map fun m => ways ws (t.drop m)
def tabP (ws : List Wd) (t : Wd) (lo : Nat) : List Nat := (List.range (t.length + 1)).map fun m => if lo ≤ m then ways ws (t.drop m) else 0
theorem tabP_zero (ws : List Wd) (t : Wd) : tabP ws t 0 = tabN ws t := by
  unfold tabP tabN
  apply List.map_congr_left
  intro m _
  rw [if_pos (Nat.zero_le _)]
theorem tabP_set (ws : List Wd) (t : Wd) (lo : Nat) (h : lo ≤ t.length) : ((tabP ws t (lo + 1)).map nI).set lo (nI (ways ws (t.drop lo))) = (tabP ws t lo).map nI := by
  rw [← List.map_set]
  congr 1
  unfold tabP
  apply List.ext_getElem?
  intro i
  rw [List.getElem?_set, List.getElem?_map, List.getElem?_map]
  rcases Nat.lt_or_ge i (t.length + 1) with hi | hi
  · rw [List.getElem?_range hi]
    by_cases e : lo = i
    · subst e
      rw [if_pos rfl, if_pos (by simpa using hi)]
      simp
    · rw [if_neg e]
      simp only [Option.map_some]
      have : (lo + 1 ≤ i) ↔ (lo ≤ i) := by omega
      simp [this]
  · rw [List.getElem?_eq_none (by simpa using hi)]
    have : lo ≠ i := by omega
    simp [this]
theorem tabP_get (ws : List Wd) (t : Wd) {lo m : Nat} (h : lo ≤ m) (hm : m ≤ t.length) : ((tabP ws t lo).map nI)[m]? = some (nI (ways ws (t.drop m))) := by
  unfold tabP
  rw [List.getElem?_map, List.getElem?_map, List.getElem?_range (by omega)]
  simp [h]
theorem tabN_get (ws : List Wd) (t : Wd) {m : Nat} (hm : m ≤ t.length) : ((tabN ws t).map nI)[m]? = some (nI (ways ws (t.drop m))) := by
  rw [← tabP_zero]; exact tabP_get ws t (Nat.zero_le _) hm
section
variable {P : Program} {w : World} {K : PySem.W.Frag} {mg : Str → Option Value} {base : Heap} {H : Hp}
/-! ### table_of -/
def spTable (K : PySem.W.Frag) : Sp := fun vs H Q _ => ∃ (p : Addr) (ws : List Wd) (t : Wd), vs = [.ref p, tx t] ∧ CodeAt K H p ws ∧ t.length ≤ 5000 ∧ RetL ((tabN ws t).map nI) H Q
theorem sl_table {p : Addr} {ws : List Wd} {t : Wd} (h : CodeAt K H p ws) (ht : t.length ≤ 5000) : SpL (spTable K) [.ref p, tx t] H ((tabN ws t).map nI) := fun _ e _ q _ => ⟨p, ws, t, rfl, h.ex e, ht, q⟩
theorem ok_table_of (D : DefAt K mg "table_of" s_table_of ["code", "text"]) (T : Blt mg) (C_stands : Cal P w K mg base 1 "stands" spStands) : Cal P w K mg base 2 "table_of" (spTable K) := by
  refine cal_of D sc_table_of (fun vs H Q E h => ?_) (fun f cdv A outer s H vs Q E hr h => ?_)
  · obtain ⟨p, ws, t, rfl, _⟩ := h; rfl
  · obtain ⟨p, ws, t, rfl, hc, ht, k⟩ := h
    refine ⟨_, (pss_cons (ps_set (i := 3) sc_table_of.nd rfl (.inr rfl) (pe_lc (own := [("mark", 2)]) rfl sc_table_of.nd (pi_range1 (by rfl) T.range (pa_cons (pe_op op_add (pe_callB call_len_str (by rfl) T.len (by decide +kernel) (pa_cons (pv 1) pa_nil)) pe_int) pa_nil)) (blkOk_by (own := [("mark", 2)]) (N := N_table_of) (sc := defScope s_table_of) (by decide +kernel)) (fun _ _ _ _ _ => (pg_name (i := 2) sc_table_of.nd rfl (.inl rfl))) (fun _ _ _ _ _ => pts_nil) (fun _ _ _ _ _ => pe_int)))
      (pss_cons (ps_asg pe_int (pg_sub (pv 3) (pe_callB call_len_str (by rfl) T.len (by decide +kernel) (pa_cons (pv 1) pa_nil)) set_list))
      (pss_cons (ps_for PassesOwn.never rfl (pi_revR (by rfl) T.reversed (prg_1 (by rfl) T.range (pe_callB call_len_str (by rfl) T.len (by decide +kernel) (pa_cons (pv 1) pa_nil)))) (pg_name (i := 2) sc_table_of.nd rfl (.inr rfl)) (pss_one (ps_asg (pe_callB (cr_sumK (K := K) rfl rfl) (by rfl) T.sum (by decide +kernel) (pa_cons (pe_lc (own := [("word", 4)]) rfl sc_table_of.nd (pi_listK (K := K) rfl (pv 0)) (blkOk_by (own := [("word", 4)]) (N := N_table_of) (sc := defScope s_table_of) (by decide +kernel)) (fun _ _ _ _ _ => (pg_name (i := 4) sc_table_of.nd rfl (.inl rfl))) (fun _ _ _ _ _ => (pts_one (pt_val (pe_c C_stands hr (by decide) (by rfl) (pa_cons (pv 4) (pa_cons (pv 1) (pa_cons (pv 2) pa_nil))))))) (fun _ _ _ _ _ => (pe_ix (ix_listK (K := K) rfl) (pv 3) (pe_op op_add (pv 2) (pe_callB call_len_str (by rfl) T.len (by decide +kernel) (pa_cons (pv 4) pa_nil))) (fun _ _ => rfl)))) pa_nil)) (pg_sub (pv 3) (pv 2) set_list))))
      (pss_one (ps_ret (pv 3)))))), ?_⟩
    have hz : ws.length ≤ 40000 := Nat.le_trans hc.len (by decide)
    have hb : ∀ a, a ∈ ws → a.length ≤ 1000 := fun a ha => (hc.ok a ha).2.2
    have hw : ∀ a ∈ ws, a ≠ [] := fun a ha => (hc.ok a ha).1
    have e0 : (((t.length + 1 : Nat) : Int)) = (t.length : Int) + 1 := rfl
    -- found = [0 ..]
    refine q_asgL (el_range (t.length + 1) (fun _ => V.int 0) (by rw [e0]; walk_at "ea") (by omega) (fun _ => rfl) fun i hi => ev_c) fun q H1 nq e1 h1 => ?_
    -- found[len(text)] = 1
    refine q_setL (j := t.length) h1 (v := .int 1) ev_c (ev_var rfl) (by walk_at "ev") (by simp) fun H2 e2 => ?_
    have hset : ((List.range (t.length + 1)).map fun _ => V.int 0).set t.length (.int 1) = (tabP ws t t.length).map nI := by
      have h := tabP_set ws t t.length (Nat.le_refl _)
      rw [← h]
      have h3 : ways ws (t.drop t.length) = 1 := by rw [List.drop_length]; rfl
      rw [h3]
      have h4 : (tabP ws t (t.length + 1)).map nI = (List.range (t.length + 1)).map fun _ => V.int 0 := by
        unfold tabP
        rw [List.map_map]
        apply List.map_congr_left
        intro m hm
        have := List.mem_range.mp hm
        show nI (if t.length + 1 ≤ m then _ else 0) = _
        rw [if_neg (by omega)]
        rfl
      rw [h4]
      rfl
    rw [hset]
    -- the loop
    refine q_forRev (n := t.length) (by walk_at "ev") (by omega) (fun i σ' H' => ∃ mv, σ' = [some (.ref p), some (tx t), mv, some (.ref q), none] ∧ Ex H H' ∧ H' q = some (.lst ((tabP ws t (t.length - i)).map nI)))
      (fun H3 e3 => ⟨_, rfl, ((Ex.mut (e1.trans e2) nq).trans e3), e3 q _ upd_same⟩) (fun i σ' H' hi p => ?_) (fun σ' H' p => ?_)
    · obtain ⟨mv, rfl, e', hq⟩ := p
      have em : t.length - i = (t.length - 1 - i) + 1 := by omega
      rw [em] at hq
      generalize hmm : t.length - 1 - i = m at hq ⊢
      have hm : m < t.length := by omega
      have hcs : SqL K H' p (ws.map tx) := ex_l e' hc.sq
      have hne : t.drop m ≠ [] := fun z => by
        have := congrArg List.length z
        rw [List.length_drop, List.length_nil] at this; omega
      have hsum : (((ws.filter fun a => standsB a t m).map fun a => ((ways ws (t.drop (m + a.length)) : Nat) : Int))).sum = ((ways ws (t.drop m) : Nat) : Int) := by
        rw [M3.ways_eq ws hw hne]
        have h1 : (ws.filter fun a => standsB a t m) = ws.filter fun a => pre a (t.drop m) := rfl
        rw [h1]
        generalize ws.filter (fun a => pre a (t.drop m)) = us
        induction us with
        | nil => rfl
        | cons a r ih =>
          simp only [List.map_cons, List.sum_cons]
          rw [ih, List.drop_drop]
          omega
      refine s_setL (j := m) hq (v := .int ((ways ws (t.drop m) : Nat) : Int)) ?_ (ev_var rfl) (ev_var rfl) (by unfold tabP; simp; omega) fun H2 e2 => ⟨_, rfl, Ex.mut (e'.trans e2) nq, ?_⟩
      · rw [← hsum]
        refine ev_sumN (el_filterI (φ := tx) (p := fun a => standsB a t m) (ev_var rfl) hcs hz (fun _ => rfl) (fun a ha => ?_) (fun a ha hp => ?_))
        · exact et_B (ev_call (by walk_at "ea") (sv_stands (a := a) (t := t) (i := m) (Nat.le_trans (hb a ha) (by decide)) (by omega)))
        · have hpl := M3.pre_len hp
          rw [List.length_drop] at hpl
          have hal : 0 < a.length := List.length_pos_iff.mpr (hw a ha)
          have e9 : (m : Int) + (a.length : Int) = ((m + a.length : Nat) : Int) := by omega
          have hal2 : a.length ≤ 100000 := Nat.le_trans (hb a ha) (by decide)
          refine ev_op (y := .int ((m + a.length : Nat) : Int)) (ev_var rfl) (by rw [← e9]; walk_at "ev") (rv_ixL (sq_of hq) (atI_nat (tabP_get ws t (by omega) (by omega))))
      · have hs := tabP_set ws t m (by omega)
        have e10 : t.length - (i + 1) = m := by omega
        rw [e10, ← hs]
        exact upd_same
    · obtain ⟨mv, rfl, e', hq⟩ := p
      rw [Nat.sub_self, tabP_zero] at hq
      exact ⟨.ref q, rfl, k q H' nq e' hq⟩
/-! ### nth -/
def spNth (K : PySem.W.Frag) : Sp := fun vs H Q _ => ∃ (p q : Addr) (ws : List Wd) (t : Wd) (k : Nat), vs = [.ref p, tx t, .ref q, .int (k : Int)] ∧ CodeAt K H p ws ∧ t.length ≤ 5000 ∧ SqL K H q ((tabN ws t).map nI) ∧ k < ways ws t ∧ RetL ((nthW ws t k).map nI) H Q
theorem sl_nth {p q : Addr} {ws : List Wd} {t : Wd} {k : Nat} (h : CodeAt K H p ws) (ht : t.length ≤ 5000) (hq : SqL K H q ((tabN ws t).map nI)) (hk : k < ways ws t) : SpL (spNth K) [.ref p, tx t, .ref q, .int (k : Int)] H ((nthW ws t k).map nI) :=
  fun _ e _ r _ => ⟨p, q, ws, t, k, rfl, h.ex e, ht, ex_l e hq, hk, r⟩
theorem nthF_fuel (ws : List Wd) (hw : ∀ a ∈ ws, a ≠ []) : ∀ (n m : Nat) (t : Wd) (k : Nat), t.length ≤ n → t.length ≤ m → k < ways ws t → M3.nthF ws n t k = M3.nthF ws m t k
  | n, m, [], _, _, _, _ => by cases n <;> cases m <;> rfl
  | 0, m, c :: r, _, h, _, _ => by simp at h
  | n + 1, 0, c :: r, _, _, h, _ => by simp at h
  | n + 1, m + 1, c :: r, k, h1, h2, hk => by
    have hne : (c :: r) ≠ [] := by simp
    obtain ⟨j, k', e1, e2, e3, e4, e5⟩ := M3.pick_some ws (c :: r) ws 0 k rfl (by omega) (by rw [M3.bef_zero, M3.bef_all ws hw hne]; omega)
    have hl := M3.wat_ne hw e2
    simp only [M3.nthF, e1]
    congr 1
    apply nthF_fuel ws hw
    · simp only [List.length_drop, List.length_cons] at h1 ⊢; omega
    · simp only [List.length_drop, List.length_cons] at h2 ⊢; omega
    · exact e4
theorem nthW_step (ws : List Wd) (hw : ∀ a ∈ ws, a ≠ []) {t : Wd} (ht : t ≠ []) {k j k' : Nat} (hk : k < ways ws t) (hp : pick ws t ws 0 k = some (j, k')) : nthW ws t k = j :: nthW ws (t.drop (wat ws j).length) k' := by
  cases t with
  | nil => exact absurd rfl ht
  | cons c r =>
    obtain ⟨j2, k2, e1, e2, e3, e4, e5⟩ := M3.pick_some ws (c :: r) ws 0 k rfl (by omega) (by rw [M3.bef_zero, M3.bef_all ws hw ht]; omega)
    rw [hp] at e1
    obtain ⟨rfl, rfl⟩ := Prod.mk.inj (Option.some.inj e1)
    have hl := M3.wat_ne hw e2
    show M3.nthF ws (r.length + 1) (c :: r) k = _
    simp only [M3.nthF, hp]
    congr 1
    apply nthF_fuel ws hw
    · simp only [List.length_drop, List.length_cons]; omega
    · exact Nat.le_refl _
    · exact e4
theorem ok_nth (D : DefAt K mg "nth" s_nth ["code", "text", "table", "number"]) (T : Blt mg) (C_stands : Cal P w K mg base 1 "stands" spStands) : Cal P w K mg base 2 "nth" (spNth K) := by
  refine cal_of D sc_nth (fun vs H Q E h => ?_) (fun f cdv A outer s H vs Q E hr h => ?_)
  · obtain ⟨p, q, ws, t, k, rfl, _⟩ := h; rfl
  · obtain ⟨p, q, ws, t, k, rfl, hc, ht, hq, hk, r⟩ := h
    refine ⟨_, (pss_cons (ps_set (i := 4) sc_nth.nd rfl (.inl rfl) (pe_lst pa_nil))
      (pss_cons (ps_set (i := 5) sc_nth.nd rfl (.inl rfl) pe_int)
      (pss_cons (ps_set (i := 6) sc_nth.nd rfl (.inl rfl) (pv 3))
      (pss_cons (ps_while PassesOwn.never (pt_cmpR op_lt (pv 5) (pe_callB call_len_str (by rfl) T.len (by decide +kernel) (pa_cons (pv 1) pa_nil)) (nomark _)) (pss_cons (ps_set (i := 7) sc_nth.nd rfl (.inl rfl) pe_int)
      (pss_cons (ps_for PassesOwn.never rfl (pi_enumK (K := K) rfl (by rfl) T.enumerate (pa_cons (pv 0) pa_nil)) (pg_tupK (K := K) rfl rfl (pgs_cons (pg_name (i := 8) sc_nth.nd rfl (.inl rfl)) (pgs_cons (pg_name (i := 9) sc_nth.nd rfl (.inl rfl)) pgs_nil))) (pss_one (ps_if (PW.pt (pw_and (pt_cmpR op_eq (pv 7) pe_int (nomark _)) (pw_and1 (pt_val (pe_c C_stands hr (by decide) (by rfl) (pa_cons (pv 9) (pa_cons (pv 1) (pa_cons (pv 5) pa_nil)))))))) (pss_cons (ps_set (i := 10) sc_nth.nd rfl (.inl rfl) (pe_ix (ix_listK (K := K) rfl) (pv 2) (pe_op op_add (pv 5) (pe_callB call_len_str (by rfl) T.len (by decide +kernel) (pa_cons (pv 9) pa_nil))) (fun _ _ => rfl)))
      (pss_one (ps_if (pt_cmpR op_lt (pv 6) (pv 10) (nomark _)) (pss_cons (ps_expr (pe_bm PySem.F.plainAttrs_list PySem.F.slot_list_append PySem.F.type_list_append mt_append (pv 4) (pa_cons (pv 8) pa_nil)))
      (pss_one (ps_set (i := 7) sc_nth.nd rfl (.inl rfl) (pe_callB call_len_str (by rfl) T.len (by decide +kernel) (pa_cons (pv 9) pa_nil))))) (pss_one (ps_set (i := 6) sc_nth.nd rfl (.inl rfl) (pe_op op_sub (pv 6) (pv 10))))))) pss_nil)))
      (pss_one (ps_set (i := 5) sc_nth.nd rfl (.inl rfl) (pe_op op_add (pv 5) (pv 7)))))))
      (pss_one (ps_ret (pv 4))))))), ?_⟩
    have hz : ws.length ≤ 40000 := Nat.le_trans hc.len (by decide)
    have hb : ∀ a, a ∈ ws → a.length ≤ 1000 := fun a ha => (hc.ok a ha).2.2
    have hw : ∀ a ∈ ws, a ≠ [] := fun a ha => (hc.ok a ha).1
    have hlen := M3.join_len ws hw _ (M3.nthW_ok ws hw hk).2.1
    rw [(M3.nthW_ok ws hw hk).1] at hlen
    refine q_asgL (el_lst ea_nil (by decide)) fun l H1 nl e1 h1 => ?_
    refine q_asg ev_c fun H2 e2 => q_asg (ev_var rfl) fun H3 e3 => ?_
    have e13 := (e1.trans e2).trans e3
    refine q_while (fun m σ' H' => ∃ (mk kk : Nat) (ns : List Nat) (s7 s8 s9 s10 : Option V), σ' = [some (.ref p), some (tx t), some (.ref q), some (.int (k : Int)), some (.ref l), some (.int (mk : Int)), some (.int (kk : Int)), s7, s8, s9, s10] ∧
        mk + m = t.length ∧ kk < ways ws (t.drop mk) ∧ nthW ws t k = ns ++ nthW ws (t.drop mk) kk ∧ Ex H H' ∧ H' l = some (.lst (ns.map nI))) t.length
      ⟨0, k, [], none, none, none, none, rfl, by omega, hk, rfl, e13, e3 l _ (e2 l _ h1)⟩ fun m σ' H' hW => ?_
    obtain ⟨mk, kk, ns, s7, s8, s9, s10, rfl, hm, hkk, hns, e', hl⟩ := hW
    refine ⟨_, et_test (ev_op (ev_var rfl) (ev_lenS (ev_var rfl) (by omega)) rv_lt), fun hlt H4 e4 => ?_, fun hge H4 e4 => ?_⟩
    · -- a turn
      have hlt' : mk < t.length := by have := of_decide_eq_true hlt; omega
      have hne : t.drop mk ≠ [] := fun z => by
        have := congrArg List.length z
        rw [List.length_drop, List.length_nil] at this; omega
      obtain ⟨j, k', p1, p2, p3, p4, p5⟩ := M3.pick_some ws (t.drop mk) ws 0 kk rfl (by omega) (by rw [M3.bef_zero, M3.bef_all ws hw hne]; omega)
      have hstep := nthW_step ws hw hne hkk p1
      have hjl := M3.wat_ne hw p2
      have hjp := M3.pre_len p3
      rw [List.length_drop] at hjp
      rw [List.drop_drop] at hstep p4
      refine ⟨fun σ2 H2 => ∃ s8 s9 s10, σ2 = [some (.ref p), some (tx t), some (.ref q), some (.int (k : Int)), some (.ref l), some (.int ((mk + (wat ws j).length : Nat) : Int)), some (.int (k' : Int)), some (.int ((wat ws j).length : Int)), s8, s9, s10] ∧
          Ex H H2 ∧ H2 l = some (.lst ((ns ++ [j]).map nI)), fun σ2 H2 hN => ?_, ?_⟩
      · obtain ⟨y8, y9, y10, rfl, e2', hl2⟩ := hN
        refine ⟨m - (wat ws j).length, by omega, mk + (wat ws j).length, k', ns ++ [j], _, y8, y9, y10, rfl, by omega, p4, ?_, e2', hl2⟩
        rw [hns, hstep, List.append_assoc]; rfl
      · refine q_asg ev_c fun H5 e5 => ?_
        have ex5 := (e'.trans e4).trans e5
        -- for place, word in enumerate(code)
        refine q_forEnum (a := p) (xs := ws.map tx) (ev_var rfl) (ex_l ex5 hc.sq)
          (fun i σ2 H2 => ∃ s8 s9 s10, Ex H H2 ∧ ((∃ kc : Nat, σ2 = [some (.ref p), some (tx t), some (.ref q), some (.int (k : Int)), some (.ref l), some (.int (mk : Int)), some (.int (kc : Int)), some (.int 0), s8, s9, s10] ∧
              pick ws (t.drop mk) (ws.drop i) i kc = some (j, k') ∧ H2 l = some (.lst (ns.map nI))) ∨
            (σ2 = [some (.ref p), some (tx t), some (.ref q), some (.int (k : Int)), some (.ref l), some (.int (mk : Int)), some (.int (k' : Int)), some (.int ((wat ws j).length : Int)), s8, s9, s10] ∧ H2 l = some (.lst ((ns ++ [j]).map nI)))))
          (fun H6 e6 => ⟨s8, s9, s10, ex5.trans e6, .inl ⟨kk, rfl, p1, (e4.trans (e5.trans e6)) l _ hl⟩⟩)
          (fun i σ2 H2 hP => by obtain ⟨_, _, _, ex, _⟩ := hP; exact ex_l ex hc.sq)
          (fun i σ2 H2 H6 hP e6 => by
            obtain ⟨y8, y9, y10, ex, hP⟩ := hP
            refine ⟨y8, y9, y10, ex.trans e6, ?_⟩
            rcases hP with ⟨kc, a1, a2, a3⟩ | ⟨a1, a2⟩
            · exact .inl ⟨kc, a1, a2, e6 l _ a3⟩
            · exact .inr ⟨a1, e6 l _ a2⟩)
          (fun i x σ2 H2 hi hP => ?_) (fun σ2 H2 hP => ?_)
        · obtain ⟨y8, y9, y10, ex, hP⟩ := hP
          have hil : i < ws.length := by
            have := (List.getElem?_eq_some_iff.mp hi).1
            rwa [List.length_map] at this
          have hx : x = tx ws[i] := by
            rw [List.getElem?_map, List.getElem?_eq_getElem hil] at hi
            exact (Option.some.inj hi).symm
          subst hx
          have hwl := hb ws[i] (List.getElem_mem hil)
          rcases hP with ⟨kc, rfl, a2, a3⟩ | ⟨rfl, a2⟩
          · -- not found yet
            have hdr : ws.drop i = ws[i] :: ws.drop (i + 1) := (List.getElem_cons_drop hil).symm
            rw [hdr] at a2
            unfold pick at a2
            refine s_when (b := pre ws[i] (t.drop mk)) (et_is (et_and (et_test (ev_op (ev_var rfl) ev_c rv_eqI)) fun _ => et_B (ev_call (by walk_at "ea") (sv_stands (a := ws[i]) (t := t) (i := mk) (by omega) (by omega)))) (by simp [standsB])) (fun hp H6 e6 => ?_) (fun hp H6 e6 => ?_)
            · rw [if_pos hp] at a2
              have hpl := M3.pre_len hp
              rw [List.length_drop] at hpl
              have e9 : (mk : Int) + (ws[i].length : Int) = ((mk + ws[i].length : Nat) : Int) := by omega
              have hq6 : SqL K H6 q ((tabN ws t).map nI) := ex_l (ex.trans e6) hq
              refine q_asg (v := nI (ways ws (t.drop (mk + ws[i].length)))) (ev_op (y := .int ((mk + ws[i].length : Nat) : Int)) (ev_var rfl) (by rw [← e9]; walk_at "ev") (rv_ixL hq6 (atI_nat (tabN_get ws t (by omega))))) fun H7 e7 => ?_
              rw [List.drop_drop] at a2
              refine s_if (et_test (ev_op (ev_var rfl) (ev_var rfl) rv_lt)) (fun hlt H8 e8 => ?_) (fun hge H8 e8 => ?_)
              · have hlt2 : kc < ways ws (t.drop (mk + ws[i].length)) := by have := of_decide_eq_true hlt; omega
                rw [if_pos hlt2] at a2
                obtain ⟨rfl, rfl⟩ := Prod.mk.inj (Option.some.inj a2)
                have ew : wat ws i = ws[i] := by simp [wat, List.getD, hil]
                have hll : ns.length < 100000 := by
                  have := congrArg List.length hns
                  rw [List.length_append] at this; omega
                refine q_app (xs := ns.map nI) (v := .int (i : Int)) (e8 l _ (e7 l _ (e6 l _ a3))) (ev_var rfl) (ev_var rfl) (by simpa using hll) fun H9 e9' => ?_
                refine s_asg (v := .int ((wat ws i).length : Int)) (by rw [ew]; walk_at "ev") fun H10 e10 => ?_
                refine ⟨_, _, _, ?_, .inr ⟨rfl, ?_⟩⟩
                · exact (Ex.mut ((((ex.trans e6).trans e7).trans e8).trans e9') nl).trans e10
                · rw [e10 l _ upd_same, List.map_append]; rfl
              · have hge2 : ¬ kc < ways ws (t.drop (mk + ws[i].length)) := fun z => by
                  have := of_decide_eq_false hge; omega
                rw [if_neg hge2] at a2
                refine s_asg (v := .int ((kc - ways ws (t.drop (mk + ws[i].length)) : Nat) : Int)) (ev_is (ev_op (ev_var rfl) (ev_var rfl) rv_sub) (congrArg V.int (by omega))) fun H9 e9' => ?_
                exact ⟨_, _, _, (((ex.trans e6).trans e7).trans e8).trans e9', .inl ⟨_, rfl, a2, e9' l _ (e8 l _ (e7 l _ (e6 l _ a3)))⟩⟩
            · rw [if_neg (by rw [hp]; decide)] at a2
              exact ⟨_, _, _, ex.trans e6, .inl ⟨kc, rfl, a2, e6 l _ a3⟩⟩
          · -- found
            refine s_when (b := false) (et_is (et_and (b := true) (et_test (ev_op (ev_var rfl) ev_c rv_eqI)) fun hz2 => absurd (of_decide_eq_true hz2) (by omega)) (by
              have : ¬ ((wat ws j).length : Int) = 0 := by omega
              rw [decide_eq_false this]; rfl)) (fun hp => nomatch hp) (fun _ H6 e6 => ⟨_, _, _, ex.trans e6, .inr ⟨rfl, e6 l _ a2⟩⟩)
        · -- behind the for
          obtain ⟨y8, y9, y10, ex, hP⟩ := hP
          rcases hP with ⟨kc, rfl, a2, a3⟩ | ⟨rfl, a2⟩
          · rw [List.length_map, List.drop_length] at a2
            exact absurd a2 (by simp [pick])
          · refine s_asg (v := .int ((mk + (wat ws j).length : Nat) : Int)) (ev_is (ev_op (ev_var rfl) (ev_var rfl) rv_add) (congrArg V.int (by omega))) fun H7 e7 => ?_
            exact ⟨_, _, _, rfl, ex.trans e7, e7 l _ a2⟩
    · have hge' : ¬ mk < t.length := fun z => by have := of_decide_eq_false hge; omega
      have hnil : t.drop mk = [] := List.drop_eq_nil_of_le (by omega)
      rw [hnil] at hns
      have hns2 : nthW ws t k = ns := by rw [hns]; exact List.append_nil ns
      exact ⟨.ref l, rfl, r l H4 nl (e'.trans e4) (by rw [hns2]; exact e4 l _ hl)⟩
/-! ### how_many, told, number_of -/
def spHowMany (K : PySem.W.Frag) : Sp := fun vs H Q _ => ∃ (p : Addr) (ws : List Wd) (t : Wd), vs = [.ref p, tx t] ∧ CodeAt K H p ws ∧ t.length ≤ 5000 ∧ okW t ∧ ∀ H', Ex H H' → Q (.int ((ways ws t : Nat) : Int)) H'
theorem sv_how_many {p : Addr} {ws : List Wd} {t : Wd} (h : CodeAt K H p ws) (ht : t.length ≤ 5000) (ho : okW t) : SpV (spHowMany K) [.ref p, tx t] H (.int ((ways ws t : Nat) : Int)) := fun _ e _ q _ => ⟨p, ws, t, rfl, h.ex e, ht, ho, q⟩
theorem ev_ixN {ta tb : TE} {σ : L2.St} {xs : List V} {v : V} {i : Int} (ha : EvL ta σ H xs) (hb : Ev tb σ H (.int i)) (hv : atI xs i = some v) : Ev (tOp (rIxL K) ta tb) σ H v :=
  ev_opL1 ha (fun H1 e => hb.mono e) fun p H1 h1 e => rv_ixL (sq_of h1) hv
theorem ok_how_many (D : DefAt K mg "how_many" s_how_many ["code", "text"]) (T : Blt mg) (C_asked_code : Cal P w K mg base 2 "asked_code" (spAskedCode K)) (C_asked_text : Cal P w K mg base 2 "asked_text" spAskedText)
    (C_table_of : Cal P w K mg base 2 "table_of" (spTable K)) : Cal P w K mg base 3 "how_many" (spHowMany K) := by
  refine cal_of D sc_how_many (fun vs H Q E h => ?_) (fun f cdv A outer s H vs Q E hr h => ?_)
  · obtain ⟨p, ws, t, rfl, _⟩ := h; rfl
  · obtain ⟨p, ws, t, rfl, hc, ht, ho, q⟩ := h
    refine ⟨_, (pss_cons (ps_expr (pe_c C_asked_code hr (by decide) (by rfl) (pa_cons (pv 0) pa_nil)))
      (pss_cons (ps_expr (pe_c C_asked_text hr (by decide) (by rfl) (pa_cons (pv 1) pa_nil)))
      (pss_one (ps_ret (pe_ix (ix_listK (K := K) rfl) (pe_c C_table_of hr (by decide) (by rfl) (pa_cons (pv 0) (pa_cons (pv 1) pa_nil))) pe_int (fun _ _ => rfl)))))), ?_⟩
    have ht2 : t.length ≤ 10000 := by omega
    refine sev_run (sev_drop (x := .non) (by walk_at "ev") (sev_drop (x := .non) (by walk_at "ev") (sev_ret ?_))) q
    exact ev_ixN (el_call (by walk_at "ea") (sl_table hc ht)) ev_c (atI_nat (j := 0) (tabN_get ws t (Nat.zero_le _)))
/-- told: the ways out -/
def spTold (K : PySem.W.Frag) (aNR aBN : Addr) : Sp := fun vs H Q E => ∃ (p : Addr) (ws : List Wd) (t : Wd) (n : Int), vs = [.ref p, tx t, .int n] ∧ CodeAt K H p ws ∧ t.length ≤ 5000 ∧ okW t ∧
  (ways ws t = 0 → ∀ H', Ex H H' → E (.ref aNR) none H') ∧ (ways ws t ≠ 0 → ¬ (0 ≤ n ∧ n < ((ways ws t : Nat) : Int)) → ∀ H', Ex H H' → E (.ref aBN) none H') ∧
  ((0 ≤ n ∧ n < ((ways ws t : Nat) : Int)) → RetL ((nthW ws t n.toNat).map nI) H Q)
theorem ok_told {aNR aBN : Addr} (D : DefAt K mg "told" s_told ["code", "text", "number"]) (T : Blt mg) (C_asked_code : Cal P w K mg base 2 "asked_code" (spAskedCode K)) (C_asked_text : Cal P w K mg base 2 "asked_text" spAskedText)
    (C_table_of : Cal P w K mg base 2 "table_of" (spTable K)) (C_nth : Cal P w K mg base 2 "nth" (spNth K)) (C_is_number : Cal P w K mg base 1 "is_number" spIsNumber) (X_NoReading : ExcAt K mg "NoReading" aNR) (X_BadNumber : ExcAt K mg "BadNumber" aBN) :
    Cal P w K mg base 3 "told" (spTold K aNR aBN) := by
  refine calX_of D sc_told (fun vs H Q E h => ?_) (fun f cdv A outer s H vs Q E hr h => ?_)
  · obtain ⟨p, ws, t, n, rfl, _⟩ := h; rfl
  · obtain ⟨p, ws, t, n, rfl, hc, ht, ho, k1, k2, k3⟩ := h
    refine ⟨_, (pss_cons (ps_expr (pe_c C_asked_code hr (by decide) (by rfl) (pa_cons (pv 0) pa_nil)))
      (pss_cons (ps_expr (pe_c C_asked_text hr (by decide) (by rfl) (pa_cons (pv 1) pa_nil)))
      (pss_cons (ps_set (i := 3) sc_told.nd rfl (.inl rfl) (pe_c C_table_of hr (by decide) (by rfl) (pa_cons (pv 0) (pa_cons (pv 1) pa_nil))))
      (pss_cons (ps_if (pt_cmpR op_eq (pe_ix (ix_listK (K := K) rfl) (pv 3) pe_int (fun _ _ => rfl)) pe_int (nomark _)) (pss_one (L2N.ps_raise rfl (L2N.takes_of rfl rfl rfl rfl) (pmk_c rfl rfl X_NoReading (by rfl)))) pss_nil)
      (pss_cons (ps_if (pt_not (pt_val (pe_c C_is_number hr (by decide) (by rfl) (pa_cons (pv 2) (pa_cons pe_int (pa_cons (pe_op op_sub (pe_ix (ix_listK (K := K) rfl) (pv 3) pe_int (fun _ _ => rfl)) pe_int) pa_nil)))))) (pss_one (L2N.ps_raise rfl (L2N.takes_of rfl rfl rfl rfl) (pmk_c rfl rfl X_BadNumber (by rfl)))) pss_nil)
      (pss_one (ps_ret (pe_c C_nth hr (by decide) (by rfl) (pa_cons (pv 0) (pa_cons (pv 1) (pa_cons (pv 3) (pa_cons (pv 2) pa_nil)))))))))))), ?_⟩
    have ht2 : t.length ≤ 10000 := by omega
    refine q_drop (v := .non) (by walk_at "ev") fun H1 e1 => ?_
    have hc1 := hc.ex e1
    refine q_drop (v := .non) (by walk_at "ev") fun H2 e2 => ?_
    have hc2 := hc1.ex e2
    refine q_asgL (el_call (by walk_at "ea") (sl_table hc2 ht)) fun q H3 nq e3 hq => ?_
    have ex3 := (e1.trans e2).trans e3
    have g0 : Ev (tOp (rIxL K) (tVar 3) (tC (.int 0))) [some (.ref p), some (tx t), some (.int n), some (.ref q)] H3 (nI (ways ws t)) := ev_op (ev_var rfl) ev_c (rv_ixL (sq_of hq) (atI_nat (j := 0) (tabN_get ws t (Nat.zero_le _))))
    refine q_when (et_test (ev_op g0 ev_c rv_eqI)) (fun hz H4 e4 => ?_) (fun hz H4 e4 => ?_)
    · have h0 : ways ws t = 0 := by have := of_decide_eq_true hz; omega
      exact k1 h0 H4 (ex3.trans e4)
    · have h0 : ways ws t ≠ 0 := fun z => by have := of_decide_eq_false hz; omega
      refine q_when (b := !(decide (0 ≤ n) && decide (n ≤ ((ways ws t : Nat) : Int) - 1))) (et_not (et_B (ev_call (ea_cons (ev_var rfl) (ea_cons ev_c (ea_cons (ev_op (x := nI (ways ws t)) (g0.mono e4) ev_c rv_sub) ea_nil))) sv_is_number))) (fun hn H5 e5 => ?_) (fun hn H5 e5 => ?_)
      · refine k2 h0 (fun z => ?_) H5 ((ex3.trans e4).trans e5)
        have h1 : decide (0 ≤ n) = true := decide_eq_true z.1
        have h2 : decide (n ≤ ((ways ws t : Nat) : Int) - 1) = true := decide_eq_true (by omega)
        rw [h1, h2] at hn; cases hn
      · have h12 : (0 ≤ n ∧ n < ((ways ws t : Nat) : Int)) := by
          have : (decide (0 ≤ n) && decide (n ≤ ((ways ws t : Nat) : Int) - 1)) = true := by
            cases hh : (decide (0 ≤ n) && decide (n ≤ ((ways ws t : Nat) : Int) - 1)) with
            | true => rfl
            | false => rw [hh] at hn; cases hn
          rw [Bool.and_eq_true] at this
          have a1 := of_decide_eq_true this.1
          have a2 := of_decide_eq_true this.2
          omega
        have en : n = ((n.toNat : Nat) : Int) := by omega
        have hq5 : SqL K H5 q ((tabN ws t).map nI) := ex_l (e4.trans e5) (sq_of hq)
        have ex5 := (ex3.trans e4).trans e5
        refine s_retL (xs := (nthW ws t n.toNat).map nI) (el_call (vs := [.ref p, tx t, .ref q, .int ((n.toNat : Nat) : Int)]) (by rw [← en]; walk_at "ea") (sl_nth (hc.ex ex5) ht hq5 (by omega))) fun p2 H6 np e6 h6 => ?_
        exact (k3 h12).go ex5 np e6 h6
/-- number_of, of a reading -/
def spNumberOf (K : PySem.W.Frag) : Sp := fun vs H Q _ => ∃ (p q : Addr) (ws : List Wd) (t : Wd) (ns : List Nat), vs = [.ref p, tx t, .ref q] ∧ CodeAt K H p ws ∧ t.length ≤ 5000 ∧ okW t ∧ SqL K H q (ns.map nI) ∧ (∀ n ∈ ns, n < ws.length) ∧ joinW ws ns = t ∧
  ∀ H', Ex H H' → Q (.int ((num ws t ns : Nat) : Int)) H'
theorem sv_number_of {p q : Addr} {ws : List Wd} {t : Wd} {ns : List Nat} (h : CodeAt K H p ws) (ht : t.length ≤ 5000) (ho : okW t) (hq : SqL K H q (ns.map nI)) (hn : ∀ n ∈ ns, n < ws.length) (hj : joinW ws ns = t) : SpV (spNumberOf K) [.ref p, tx t, .ref q] H (.int ((num ws t ns : Nat) : Int)) :=
  fun _ e _ k _ => ⟨p, q, ws, t, ns, rfl, h.ex e, ht, ho, ex_l e hq, hn, hj, k⟩
theorem num_split (ws : List Wd) : ∀ (xs ys : List Nat) (t : Wd), joinW ws (xs ++ ys) = t → num ws t (xs ++ ys) = num ws t xs + num ws (t.drop (joinW ws xs).length) ys
  | [], ys, t, _ => by simp [num, joinW]
  | x :: xs, ys, t, h => by
    obtain ⟨h1, h2⟩ := M3.pre_of_join (r := xs ++ ys) h
    have ih := num_split ws xs ys (t.drop (wat ws x).length) h2
    show bef ws t x + num ws _ (xs ++ ys) = bef ws t x + num ws _ xs + _
    rw [ih, List.drop_drop, M3.join_cons, List.length_append]
    omega
theorem ok_number_of (D : DefAt K mg "number_of" s_number_of ["code", "text", "places"]) (T : Blt mg) (C_asked_code : Cal P w K mg base 2 "asked_code" (spAskedCode K)) (C_asked_text : Cal P w K mg base 2 "asked_text" spAskedText)
    (C_table_of : Cal P w K mg base 2 "table_of" (spTable K)) (C_joined : Cal P w K mg base 1 "joined" (spJoined K)) (C_is_number : Cal P w K mg base 1 "is_number" spIsNumber) (C_stands : Cal P w K mg base 1 "stands" spStands) :
    Cal P w K mg base 3 "number_of" (spNumberOf K) := by
  refine cal_of D sc_number_of (fun vs H Q E h => ?_) (fun f cdv A outer s H vs Q E hr h => ?_)
  · obtain ⟨p, q, ws, t, ns, rfl, _⟩ := h; rfl
  · obtain ⟨p, q, ws, t, ns, rfl, hc, ht, ho, hq, hn, hj, k⟩ := h
    refine ⟨_, (pss_cons (ps_expr (pe_c C_asked_code hr (by decide) (by rfl) (pa_cons (pv 0) pa_nil)))
      (pss_cons (ps_expr (pe_c C_asked_text hr (by decide) (by rfl) (pa_cons (pv 1) pa_nil)))
      (pss_cons (ps_set (i := 3) sc_number_of.nd rfl (.inl rfl) (pe_c C_table_of hr (by decide) (by rfl) (pa_cons (pv 0) (pa_cons (pv 1) pa_nil))))
      (pss_cons (ps_if (pt_cmpR op_eq (pe_ix (ix_listK (K := K) rfl) (pv 3) pe_int (fun _ _ => rfl)) pe_int (nomark _)) (pss_one ps_never) pss_nil)
      (pss_cons (ps_if (PW.pt (pw_or (pt_not (pt_val (pe_callB (call_isiK' (K := K) rfl) (by rfl) T.isinstance (by decide +kernel) (pa_cons (pv 2) (pa_cons (pe_bltn (v := .ty "list") (by rfl) T.list (by decide +kernel) rfl) pa_nil))))) (pw_or1 (pt_not (pt_val (pe_callB (cr_allK (K := K) rfl rfl) (by rfl) T.all (by decide +kernel) (pa_cons (pe_lc (own := [("place", 4)]) rfl sc_number_of.nd (pi_listK (K := K) rfl (pv 2)) (blkOk_by (own := [("place", 4)]) (N := N_number_of) (sc := defScope s_number_of) (by decide +kernel)) (fun _ _ _ _ _ => (pg_name (i := 4) sc_number_of.nd rfl (.inl rfl))) (fun _ _ _ _ _ => pts_nil) (fun _ _ _ _ _ => (pe_c C_is_number hr (by decide) (by rfl) (pa_cons (pv 4) (pa_cons pe_int (pa_cons (pe_op op_sub (pe_callB (call_len_seqK (K := K) rfl) (by rfl) T.len (by decide +kernel) (pa_cons (pv 0) pa_nil)) pe_int) pa_nil)))))) pa_nil))))))) (pss_one ps_never) pss_nil)
      (pss_cons (ps_if (pt_cmpR op_ne (pe_c C_joined hr (by decide) (by rfl) (pa_cons (pv 0) (pa_cons (pv 2) pa_nil))) (pv 1) (nomark _)) (pss_one ps_never) pss_nil)
      (pss_cons (ps_set (i := 5) sc_number_of.nd rfl (.inl rfl) pe_int)
      (pss_cons (ps_set (i := 6) sc_number_of.nd rfl (.inl rfl) pe_int)
      (pss_cons (ps_for PassesOwn.never rfl (pi_listK (K := K) rfl (pv 2)) (pg_name (i := 4) sc_number_of.nd rfl (.inl rfl)) (pss_cons (ps_for PassesOwn.never rfl (pi_range1 (by rfl) T.range (pa_cons (pv 4) pa_nil)) (pg_name (i := 7) sc_number_of.nd rfl (.inl rfl)) (pss_one (ps_if (pt_val (pe_c C_stands hr (by decide) (by rfl) (pa_cons (pe_ix (ix_listK (K := K) rfl) (pv 0) (pv 7) (fun _ _ => rfl)) (pa_cons (pv 1) (pa_cons (pv 6) pa_nil))))) (pss_one (ps_set (i := 5) sc_number_of.nd rfl (.inl rfl) (pe_op op_add (pv 5) (pe_ix (ix_listK (K := K) rfl) (pv 3) (pe_op op_add (pv 6) (pe_callB call_len_str (by rfl) T.len (by decide +kernel) (pa_cons (pe_ix (ix_listK (K := K) rfl) (pv 0) (pv 7) (fun _ _ => rfl)) pa_nil))) (fun _ _ => rfl))))) pss_nil)))
      (pss_one (ps_set (i := 6) sc_number_of.nd rfl (.inl rfl) (pe_op op_add (pv 6) (pe_callB call_len_str (by rfl) T.len (by decide +kernel) (pa_cons (pe_ix (ix_listK (K := K) rfl) (pv 0) (pv 4) (fun _ _ => rfl)) pa_nil)))))))
      (pss_one (ps_ret (pv 5)))))))))))), ?_⟩
    have ht2 : t.length ≤ 10000 := by omega
    have hz : ws.length ≤ 40000 := Nat.le_trans hc.len (by decide)
    have hb : ∀ a, a ∈ ws → a.length ≤ 1000 := fun a ha => (hc.ok a ha).2.2
    have hw : ∀ a ∈ ws, a ≠ [] := fun a ha => (hc.ok a ha).1
    have hnl := M3.join_len ws hw ns hn
    rw [hj] at hnl
    have hpos := M3.num_lt ws hw ns t hn hj
    refine q_drop (v := .non) (by walk_at "ev") fun H1 e1 => ?_
    have hc1 := hc.ex e1
    refine q_drop (v := .non) (by walk_at "ev") fun H2 e2 => ?_
    have hc2 := hc1.ex e2
    refine q_asgL (el_call (by walk_at "ea") (sl_table hc2 ht)) fun a H3 na e3 ha => ?_
    have ex3 := (e1.trans e2).trans e3
    refine q_skip (et_is (et_test (ev_op (ev_op (ev_var rfl) ev_c (rv_ixL (sq_of ha) (atI_nat (j := 0) (tabN_get ws t (Nat.zero_le _))))) ev_c rv_eqI)) (decide_eq_false (by
      show ¬ ((ways ws (t.drop 0) : Nat) : Int) = 0
      rw [List.drop_zero]; omega))) fun H4 e4 => ?_
    have ex4 := ex3.trans e4
    have hq4 := ex_l ex4 hq
    have hc4 := (hc.ex ex4).sq
    have hnz : ns.length ≤ 40000 := by omega
    refine q_skip (et_is (et_or (et_not (et_B (by walk_at "ev"))) fun _ => et_not (et_B (ev_all (el_mapB (φ := nI) (g := fun n : Nat => decide ((0 : Int) ≤ (n : Int)) && decide ((n : Int) ≤ (ws.length : Int) - 1)) (ev_var rfl) hq4 hnz (fun _ => rfl) fun n hn' => ?_)))) ?_) fun H5 e5 => ?_
    · have e9 : (((ws.map tx).length : Nat) : Int) = (ws.length : Int) := by rw [List.length_map]
      refine ev_call (vs := [.int (n : Int), .int 0, .int ((ws.length : Int) - 1)]) (ea_cons (ev_var rfl) (ea_cons ev_c (ea_cons (ev_op (x := .int (ws.length : Int)) (by rw [← e9]; exact ev_len' (ev_var rfl) hc4) ev_c rv_sub) ea_nil))) sv_is_number
    · have : (ns.map fun n : Nat => decide ((0 : Int) ≤ (n : Int)) && decide ((n : Int) ≤ (ws.length : Int) - 1)).all id = true := by
        rw [List.all_map, List.all_eq_true]
        intro n hn'
        have := hn n hn'
        have h1 : decide ((0 : Int) ≤ (n : Int)) = true := decide_eq_true (by omega)
        have h2 : decide ((n : Int) ≤ (ws.length : Int) - 1) = true := decide_eq_true (by omega)
        have h3 : (decide ((0 : Int) ≤ (n : Int)) && decide ((n : Int) ≤ (ws.length : Int) - 1)) = true := by rw [h1, h2]; rfl
        exact h3
      rw [this]; rfl
    have ex5 := ex4.trans e5
    have hq5 := ex_l ex5 hq
    have hc5 := (hc.ex ex5).sq
    refine q_skip (et_is (et_test (ev_op (ev_call (by walk_at "ea") (sv_joined hc5 hq5 hnz hn (by rw [hj]; omega))) (ev_var rfl) rv_neS)) (by rw [hj]; simp)) fun H6 e6 => ?_
    refine q_asg ev_c fun H7 e7 => q_asg ev_c fun H8 e8 => ?_
    have ex8 := ((ex5.trans e6).trans e7).trans e8
    have ha8 : SqL K H8 a ((tabN ws t).map nI) := sq_of (((((e4.trans e5).trans e6).trans e7).trans e8) a _ ha)
    refine q_forLn (a := q) (xs := ns.map nI) (ev_var rfl) (ex_l ex8 hq) (fun i σ' H' => ∃ s4 s7, Ex H8 H' ∧ σ' = [some (.ref p), some (tx t), some (.ref q), some (.ref a), s4, some (.int ((num ws t (ns.take i) : Nat) : Int)), some (.int (((joinW ws (ns.take i)).length : Nat) : Int)), s7])
      (fun H9 e9 => ⟨_, _, e9, rfl⟩) (fun i σ' H' _ hP => by obtain ⟨_, _, ex, _⟩ := hP; exact ex_l (ex8.trans ex) hq) (fun i x σ' H' hi hP => ?_) (fun σ' H' hP => ?_)
    · obtain ⟨s4, s7, ex, rfl⟩ := hP
      have hil : i < ns.length := by
        have := (List.getElem?_eq_some_iff.mp hi).1
        rwa [List.length_map] at this
      have hx : x = nI ns[i] := by
        rw [List.getElem?_map, List.getElem?_eq_getElem hil] at hi
        exact (Option.some.inj hi).symm
      subst hx
      have hpl : ns[i] < ws.length := hn _ (List.getElem_mem hil)
      have htk : ns.take (i + 1) = ns.take i ++ [ns[i]] := by rw [List.take_succ, List.getElem?_eq_getElem hil]; rfl
      have hjs : joinW ws (ns.take i) ++ joinW ws (ns.drop i) = t := by
        rw [← hj]
        conv => rhs; rw [← List.take_append_drop i ns]
        unfold joinW
        rw [List.map_append, List.flatten_append]
      generalize hM : (joinW ws (ns.take i)).length = M
      have hdrop : t.drop M = joinW ws (ns.drop i) := by rw [← hM]; conv => lhs; rw [← hjs]
                                                         simp
      have hMt : M ≤ t.length := by
        have := congrArg List.length hjs
        rw [List.length_append] at this; omega
      have hdr : ns.drop i = ns[i] :: ns.drop (i + 1) := (List.getElem_cons_drop hil).symm
      have hpre : pre (wat ws ns[i]) (t.drop M) = true := by
        have : joinW ws (ns[i] :: ns.drop (i + 1)) = t.drop M := by rw [hdrop, hdr]
        exact (M3.pre_of_join this).1
      have hc' := hc.ex (ex8.trans ex)
      have ha' : SqL K H' a ((tabN ws t).map nI) := ex_l ex ha8
      refine q_forR1 (n := (ns[i] : Int)) (by walk_at "ea") ⟨by omega, by have := hc.len; omega⟩ (fun i2 σ2 H2 => ∃ s7, Ex H' H2 ∧ σ2 = [some (.ref p), some (tx t), some (.ref q), some (.ref a), some (nI ns[i]), some (.int ((num ws t (ns.take i) + bef ws (t.drop M) i2 : Nat) : Int)), some (.int (M : Int)), s7])
        (fun H9 e9 => ⟨s7, e9, by rw [M3.bef_zero]; rfl⟩) (fun i2 σ2 H2 hi2 hP => ?_) (fun σ2 H2 hP => ?_)
      · obtain ⟨s7, ex2, rfl⟩ := hP
        have hi2' : i2 < ns[i] := by omega
        have hol : i2 < ws.length := by omega
        have hc2' := hc'.ex ex2
        have ha2 := ex_l ex2 ha'
        have hwg : ws[i2]? = some (wat ws i2) := M3.wat_getElem hol
        have hbs := M3.bef_succ ws (t.drop M) hwg
        have hwl : (wat ws i2).length ≤ 1000 := hb _ (List.mem_of_getElem? hwg)
        have gco : Ev (tOp (rIxL K) (tVar 0) (tVar 7)) [some (.ref p), some (tx t), some (.ref q), some (.ref a), some (nI ns[i]), some (.int ((num ws t (ns.take i) + bef ws (t.drop M) i2 : Nat) : Int)), some (.int (M : Int)), some (.int (i2 : Int))] H2 (tx (wat ws i2)) :=
          ev_op (ev_var rfl) (ev_var rfl) (rv_ixL hc2'.sq (atI_nat (wat_get hol)))
        refine s_when (b := standsB (wat ws i2) t M) (et_B (ev_call (vs := [tx (wat ws i2), tx t, .int (M : Int)]) (ea_cons gco (by walk_at "ea")) (sv_stands (a := wat ws i2) (t := t) (i := M) (by omega) ht2))) (fun hp H9 e9 => ?_) (fun hp H9 e9 => ?_) <;> replace hp : pre (wat ws i2) (t.drop M) = _ := hp
        · have hpl2 := M3.pre_len hp
          rw [List.length_drop] at hpl2
          have e10 : (M : Int) + ((wat ws i2).length : Int) = ((M + (wat ws i2).length : Nat) : Int) := by omega
          refine s_asg (v := .int ((num ws t (ns.take i) + bef ws (t.drop M) (i2 + 1) : Nat) : Int)) (ev_is (ev_op (ev_var rfl) (ev_op (y := .int ((M + (wat ws i2).length : Nat) : Int)) (ev_var rfl) (by rw [← e10]; exact ev_op (ev_var rfl) (ev_lenS (gco.mono e9) (by omega)) rv_add) (rv_ixL (ex_l e9 ha2) (atI_nat (tabN_get ws t (by omega))))) rv_add) (congrArg V.int ?_)) fun H10 e11 => ⟨_, (ex2.trans e9).trans e11, rfl⟩
          rw [hbs, if_pos hp, List.drop_drop]; omega
        · refine ⟨some (.int (i2 : Int)), ex2.trans e9, ?_⟩
          rw [hbs, if_neg (by rw [hp]; decide)]; rfl
      · obtain ⟨s7, ex2, rfl⟩ := hP
        have e12 : ((ns[i] : Int)).toNat = ns[i] := by omega
        have hwl : (wat ws ns[i]).length ≤ 1000 := hb _ (List.mem_of_getElem? (M3.wat_getElem hpl))
        refine s_asg (v := .int (((joinW ws (ns.take (i + 1))).length : Nat) : Int)) (ev_is (ev_op (ev_var rfl) (ev_lenS (ev_op (ev_var rfl) (ev_var rfl) (rv_ixL (hc'.ex ex2).sq (atI_nat (wat_get hpl)))) (by omega)) rv_add) (congrArg V.int ?_)) fun H10 e11 => ⟨some (nI ns[i]), s7, (ex.trans ex2).trans e11, ?_⟩
        · rw [htk]
          unfold joinW at hM ⊢
          rw [List.map_append, List.flatten_append, List.length_append, hM]
          simp
        · have hjt : joinW ws (ns.take i ++ ns.drop i) = t := by rw [List.take_append_drop]; exact hj
          have hnum : num ws t (ns.take (i + 1)) = num ws t (ns.take i) + bef ws (t.drop M) ns[i] := by
            rw [htk]
            clear hjt
            have key : ∀ (xs : List Nat) (t : Wd) (y : Nat), num ws t (xs ++ [y]) = num ws t xs + bef ws (t.drop (joinW ws xs).length) y := by
              intro xs
              induction xs with
              | nil => intro t y; simp [num, joinW]
              | cons x xs ih =>
                intro t y
                show bef ws t x + num ws _ (xs ++ [y]) = bef ws t x + num ws _ xs + _
                rw [ih, List.drop_drop, M3.join_cons, List.length_append]
                omega
            rw [key, hM]
          rw [hnum, e12]
          rfl
    · obtain ⟨s4, s7, ex, rfl⟩ := hP
      refine s_ret (v := .int ((num ws t ns : Nat) : Int)) (ev_is (ev_var rfl) ?_) fun H9 e9 => k H9 ((ex8.trans ex).trans e9)
      rw [List.take_of_length_le (by simp)]
end
end Tr

set_option Elab.async false
set_option linter.all false
set_option maxRecDepth 100000
set_option maxHeartbeats 4000000
namespace Tr
open PySem PySem.Spec PyProof.Rows L2 Evl
open M3 (wat joinW pre ways pick nthW bef num)
local macro_rules | `(tactic| walk_at "sd") => `(tactic| first | assumption | rfl | omega | decide | (solve_by_elim) | (refine Nat.le_trans (m := 1000) (by solve_by_elim) (by decide)))
local macro_rules | `(tactic| walk_at "rv") => `(tactic| first
  | exact rv_add | exact rv_sub | exact rv_lt | exact rv_le | exact rv_gt | exact rv_ge | exact rv_eqI | exact rv_eqS | exact rv_eqB | exact rv_neI | exact rv_neS | exact rv_neB
  | exact rv_mod (by walk_at "sd") | exact rv_fdiv (by first | assumption | exact ⟨by omega, by omega⟩) | exact rv_addS (by walk_at "sd") | exact rv_isB | exact rv_notB | assumption)
local macro_rules | `(tactic| walk_at "ea") => `(tactic| first
  | exact ea_nil
  | (refine' ea_cons ?k1 ?k2; (case k1 => walk_at "ev"); (case k2 => walk_at "ea")))
local macro_rules | `(tactic| walk_at "eo") => `(tactic| first
  | exact eo_none
  | (refine' eo_some ?k1; (case k1 => walk_at "ev")))
local macro_rules | `(tactic| walk_at "et") => `(tactic| first
  | (refine' et_test ?k1; (case k1 => walk_at "ev"))
  | (refine' et_B ?k1; (case k1 => walk_at "ev"))
  | (refine' et_and ?k1 ?k2; (case k1 => walk_at "et"); (case k2 => (intro _; walk_at "et")))
  | (refine' et_or ?k1 ?k2; (case k1 => walk_at "et"); (case k2 => (intro _; walk_at "et")))
  | (refine' et_not ?k1; (case k1 => walk_at "et"))
  | assumption)
local macro_rules | `(tactic| walk_at "ev") => `(tactic| first
  | assumption
  | exact ev_cS
  | exact ev_c
  | exact ev_var rfl
  | (refine' ev_op ?k1 ?k2 ?k3; (case k1 => walk_at "ev"); (case k2 => walk_at "ev"); (case k3 => walk_at "rv"))
  | (refine' ev_un ?k1 ru_neg; (case k1 => walk_at "ev"))
  | (refine' ev_chain ?k1 ?k2 ?k3 ?k4 ?k5; (case k1 => walk_at "ev"); (case k2 => walk_at "ev"); (case k3 => walk_at "ev"); (case k4 => walk_at "rv"); (case k5 => (intro _; walk_at "rv")))
  | (refine' ev_slS ?k1 ?k2 ?k3 ?k4; (case k1 => walk_at "ev"); (case k2 => walk_at "eo"); (case k3 => walk_at "eo"); (case k4 => walk_at "sd"))
  | (refine' ev_lenS ?k1 ?k2; (case k1 => walk_at "ev"); (case k2 => walk_at "sd"))
  | (refine' ev_len' ?k1 ?k2; (case k1 => walk_at "ev"); (case k2 => walk_at "sd"))
  | (refine' ev_strip ?k1 ?k2 ?k3; (case k1 => walk_at "ev"); (case k2 => walk_at "ev"); (case k3 => walk_at "sd"))
  | (refine' ev_sum ?k1 ?k2; (case k1 => walk_at "ev"); (case k2 => walk_at "sd"))
  | (refine' ev_isi ?k1 ?k2 ?k3 ?k4; (case k1 => walk_at "ev"); (case k2 => walk_at "ev"); (case k3 => first | exact ty_int | exact ty_bl | exact ty_str | exact ty_list (by walk_at "sd")); (case k4 => first | exact kit_ty (r := true) (by decide +kernel) | exact kit_ty (r := false) (by decide +kernel)))
  | (refine' ev_andV ?k1 ?k2; (case k1 => walk_at "ev"); (case k2 => (intro _; walk_at "ev")))
  | (refine' ev_orV ?k1 ?k2; (case k1 => walk_at "ev"); (case k2 => (intro _; walk_at "ev")))
  | (refine' ev_notV ?k1; (case k1 => walk_at "ev"))
  | (refine' ev_call ?k1 ?k2; (case k1 => walk_at "ea"); (case k2 => walk_at "sv")))
local macro_rules | `(tactic| walk_at "el") => `(tactic| first
  | assumption
  | (refine' el_mapB ?k1 ?k2 ?k3 (fun _ => rfl) ?k5; (case k1 => walk_at "ev"); (case k2 => walk_at "sd"); (case k3 => walk_at "sd"); (case k5 => (intro _ _; walk_at "ev")))
  | (refine' el_mapI ?k1 ?k2 ?k3 (fun _ => rfl) ?k5; (case k1 => walk_at "ev"); (case k2 => walk_at "sd"); (case k3 => walk_at "sd"); (case k5 => (intro _ _; walk_at "ev")))
  | (refine' el_mapS ?k1 ?k2 ?k3 (fun _ => rfl) ?k5; (case k1 => walk_at "ev"); (case k2 => walk_at "sd"); (case k3 => walk_at "sd"); (case k5 => (intro _ _; walk_at "ev"))))
local macro_rules | `(tactic| walk_at "ev") => `(tactic| first
  | (refine' ev_all ?k1; (case k1 => walk_at "el"))
  | (refine' ev_any ?k1; (case k1 => walk_at "el"))
  | (refine' ev_sumN ?k1; (case k1 => walk_at "el"))
  | (refine' ev_join ?k1 ?k2 ?k3; (case k1 => exact ev_is ev_cS (congrArg tx codes_nil)); (case k2 => walk_at "el"); (case k3 => walk_at "sd")))

/-! what is handed in, of any kind -/
section
variable {K : PySem.W.Frag} {H H' : Hp}
/-- not of the built-in type T -/
def NotT (K : PySem.W.Frag) (H : Hp) (T : String) (v : V) : Prop := ∃ t, (∀ H', Ex H H' → TyX K H' v t) ∧ PySem.W.kitOne K t (.type T) = some false
theorem NotT.up {T : String} {v : V} (e : Ex H H') (h : NotT K H T v) : NotT K H' T v := by
  obtain ⟨t, h1, h2⟩ := h
  exact ⟨t, fun H2 e2 => h1 H2 (e.trans e2), h2⟩
def TextB (K : PySem.W.Frag) (H : Hp) (v : V) (b : Bool) : Prop := (∃ a : Wd, v = tx a ∧ a.length ≤ 10000 ∧ b = decide (okW a)) ∨ (NotT K H "str" v ∧ b = false)
def ItemB (K : PySem.W.Frag) (H : Hp) (v : V) (b : Bool) : Prop := (∃ a : Wd, v = tx a ∧ a.length ≤ 10000 ∧ b = (decide (okW a) && !decide (a = []))) ∨ (NotT K H "str" v ∧ b = false)
def NumB (K : PySem.W.Frag) (H : Hp) (lo hi : Int) (v : V) (b : Bool) : Prop := (∃ n : Int, v = .int n ∧ b = (decide (lo ≤ n) && decide (n ≤ hi))) ∨ ((∃ c, v = .bl c) ∧ b = false) ∨ (NotT K H "int" v ∧ b = false)
theorem TextB.up {v : V} {b : Bool} (e : Ex H H') (h : TextB K H v b) : TextB K H' v b := h.imp id fun ⟨h, e2⟩ => ⟨h.up e, e2⟩
theorem ItemB.up {v : V} {b : Bool} (e : Ex H H') (h : ItemB K H v b) : ItemB K H' v b := h.imp id fun ⟨h, e2⟩ => ⟨h.up e, e2⟩
theorem NumB.up {lo hi : Int} {v : V} {b : Bool} (e : Ex H H') (h : NumB K H lo hi v b) : NumB K H' lo hi v b := h.imp id fun h => h.imp id fun ⟨h, e2⟩ => ⟨h.up e, e2⟩
/-- a list, all of whose items are so; or no list -/
def AllB (K : PySem.W.Frag) (H : Hp) (I : Hp → V → Bool → Prop) (v : V) (b : Bool) : Prop := (NotT K H "list" v ∧ b = false) ∨ ∃ (p : Addr) (vbs : List (V × Bool)), v = .ref p ∧ SqL K H p (vbs.map (·.1)) ∧ vbs.length ≤ 1000 ∧ (∀ q ∈ vbs, I H q.1 q.2) ∧ b = (vbs.map (·.2)).all id
theorem AllB.up {I : Hp → V → Bool → Prop} (u : ∀ H H' v b, Ex H H' → I H v b → I H' v b) {v : V} {b : Bool} (e : Ex H H') (h : AllB K H I v b) : AllB K H' I v b := h.imp (fun ⟨h, e2⟩ => ⟨h.up e, e2⟩) fun ⟨p, vbs, h1, h2, h3, h4, h5⟩ => ⟨p, vbs, h1, ex_l e h2, h3, fun q hq => u _ _ _ _ e (h4 q hq), h5⟩
abbrev CodeB (K : PySem.W.Frag) (H : Hp) : V → Bool → Prop := AllB K H (ItemB K)
abbrev NumsB (K : PySem.W.Frag) (H : Hp) (lo hi : Int) : V → Bool → Prop := AllB K H (fun H => NumB K H lo hi)
theorem CodeB.up {v : V} {b : Bool} (e : Ex H H') (h : CodeB K H v b) : CodeB K H' v b := AllB.up (fun _ _ _ _ e h => h.up e) e h
theorem NumsB.up {lo hi : Int} {v : V} {b : Bool} (e : Ex H H') (h : NumsB K H lo hi v b) : NumsB K H' lo hi v b := AllB.up (fun _ _ _ _ e h => h.up e) e h
theorem codeB_of {p : Addr} {ws : List Wd} (h : CodeAt K H p ws) : CodeB K H (.ref p) true := by
  refine .inr ⟨p, ws.map fun a => (tx a, true), rfl, by rw [List.map_map]; exact h.sq, by rw [List.length_map]; exact h.len, fun q hq => ?_, ?_⟩
  · obtain ⟨a, ha, rfl⟩ := List.mem_map.mp hq
    obtain ⟨h1, h2, h3⟩ := h.ok a ha
    refine .inl ⟨a, rfl, by omega, ?_⟩
    rw [decide_eq_true h2, decide_eq_false h1]; rfl
  · rw [List.map_map]
    symm
    rw [List.all_eq_true]
    intro x hx
    obtain ⟨a, _, rfl⟩ := List.mem_map.mp hx
    rfl
theorem numsB_of {lo hi : Int} {p : Addr} {ns : List Nat} (h : SqL K H p (ns.map nI)) (hl : ns.length ≤ 1000) (hn : ∀ n ∈ ns, lo ≤ (n : Int) ∧ (n : Int) ≤ hi) : NumsB K H lo hi (.ref p) true := by
  refine .inr ⟨p, ns.map fun a => (nI a, true), rfl, by rw [List.map_map]; exact h, by rw [List.length_map]; exact hl, fun q hq => ?_, ?_⟩
  · obtain ⟨a, ha, rfl⟩ := List.mem_map.mp hq
    obtain ⟨h1, h2⟩ := hn a ha
    refine .inl ⟨a, rfl, ?_⟩
    rw [decide_eq_true h1, decide_eq_true h2]; rfl
  · rw [List.map_map]
    symm
    rw [List.all_eq_true]
    intro x hx
    obtain ⟨a, _, rfl⟩ := List.mem_map.mp hx
    rfl
end
section
variable {P : Program} {w : World} {K : PySem.W.Frag} {mg : Str → Option Value} {base : Heap} {H : Hp}
theorem ev_notIs {σ : L2.St} {ta tb : TE} {T : String} {v : V} (h : NotT K H T v) (ha : Ev ta σ H v) (hb : Ev tb σ H (.ty T)) : Ev (tCB (rIsi K) (tCons ta (tCons tb tNil))) σ H (.bl false) := fun H1 e1 Q q =>
  ha H1 e1 _ fun H2 e2 => hb H2 (e1.trans e2) _ fun H3 e3 => by
    obtain ⟨t, h1, h2⟩ := h
    exact ⟨v, .ty T, t, .type T, false, rfl, .ty T, h1 H3 ((e1.trans e2).trans e3), h2, q H3 (e2.trans e3)⟩
/-! ### is_text, is_number -/
def spIsTextX (K : PySem.W.Frag) : Sp := fun vs H Q _ => ∃ v b, vs = [v] ∧ TextB K H v b ∧ ∀ H', Ex H H' → Q (.bl b) H'
theorem sv_is_textX {v : V} {b : Bool} (h : TextB K H v b) : SpV (spIsTextX K) [v] H (.bl b) := fun _ e _ q _ => ⟨v, b, rfl, h.up e, q⟩
theorem ok7_is_text (D : DefAt K mg "is_text" s_is_text ["thing"]) (T : Blt mg) : Cal P w K mg base 1 "is_text" (spIsTextX K) := by
  refine cal_of D sc_is_text (fun vs H Q E h => ?_) (fun f cdv A outer s H vs Q E hr h => ?_)
  · obtain ⟨v, b, rfl, _⟩ := h; rfl
  · obtain ⟨v, b, rfl, h1, q⟩ := h
    refine ⟨_, (pss_one (ps_ret (pe_and (pe_callB (call_isiK' (K := K) rfl) (by rfl) T.isinstance (by decide +kernel) (pa_cons (pv 0) (pa_cons (pe_bltn (v := .ty "str") (by rfl) T.str (by decide +kernel) rfl) pa_nil))) (pe_one (pe_cmpR op_eq (pe_m1 PySem.F.slot_str_strip PySem.F.type_str_strip mt_stripChars (pv 0) (pe_gv (by rfl) T.LETTERS)) pe_str (nomark _)))))), ?_⟩
    rcases h1 with ⟨a, rfl, h1, rfl⟩ | ⟨h1, rfl⟩
    · refine sev_run (sev_is (sev_ret (by walk_at "ev")) (congrArg V.bl ?_)) q
      rw [Bool.true_and]
      exact strip_abc a
    · exact sev_run (sev_is (sev_ret (ev_andV (a := false) (b := false) (ev_notIs h1 (ev_var rfl) ev_c) fun z => nomatch z)) rfl) q
def spIsNumberX (K : PySem.W.Frag) : Sp := fun vs H Q _ => ∃ v lo hi b, vs = [v, .int lo, .int hi] ∧ NumB K H lo hi v b ∧ ∀ H', Ex H H' → Q (.bl b) H'
theorem sv_is_numberX {v : V} {lo hi : Int} {b : Bool} (h : NumB K H lo hi v b) : SpV (spIsNumberX K) [v, .int lo, .int hi] H (.bl b) := fun _ e _ q _ => ⟨v, lo, hi, b, rfl, h.up e, q⟩
theorem ok7_is_number (D : DefAt K mg "is_number" s_is_number ["thing", "least", "most"]) (T : Blt mg) : Cal P w K mg base 1 "is_number" (spIsNumberX K) := by
  refine cal_of D sc_is_number (fun vs H Q E h => ?_) (fun f cdv A outer s H vs Q E hr h => ?_)
  · obtain ⟨v, lo, hi, b, rfl, _⟩ := h; rfl
  · obtain ⟨v, lo, hi, b, rfl, h1, q⟩ := h
    refine ⟨_, (pss_one (ps_ret (pe_and (pe_callB (call_isiK' (K := K) rfl) (by rfl) T.isinstance (by decide +kernel) (pa_cons (pv 0) (pa_cons (pe_bltn (v := .ty "int") (by rfl) T.int (by decide +kernel) rfl) pa_nil))) (pe_and (pe_not (pe_callB (call_isiK' (K := K) rfl) (by rfl) T.isinstance (by decide +kernel) (pa_cons (pv 0) (pa_cons (pe_bltn (v := .ty "bool") (by rfl) T.bool (by decide +kernel) rfl) pa_nil)))) (pe_one (pe_chain op_le op_le (pv 1) (pv 0) (pv 2))))))), ?_⟩
    rcases h1 with ⟨n, rfl, rfl⟩ | ⟨⟨c, rfl⟩, rfl⟩ | ⟨h1, rfl⟩
    · refine sev_run (sev_is (sev_ret (by walk_at "ev")) ?_) q
      rfl
    · refine sev_run (sev_is (sev_ret (ev_andV (a := true) (b := false) (by walk_at "ev") fun _ => ev_andV (a := !true) (b := false) (by walk_at "ev") fun z => nomatch z)) rfl) q
    · exact sev_run (sev_is (sev_ret (ev_andV (a := false) (b := false) (ev_notIs h1 (ev_var rfl) ev_c) fun z => nomatch z)) rfl) q
/-! ### asked_code, asked_text -/
def spAskedCodeX (K : PySem.W.Frag) (aBC : Addr) : Sp := fun vs H Q E => ∃ v b, vs = [v] ∧ CodeB K H v b ∧ (b = true → ∀ H', Ex H H' → Q .non H') ∧ (b = false → ∀ H', Ex H H' → E (.ref aBC) none H')
theorem sv_asked_codeX {aBC p : Addr} {ws : List Wd} (h : CodeAt K H p ws) : SpV (spAskedCodeX K aBC) [.ref p] H .non := fun _ e _ q _ => ⟨.ref p, true, rfl, (codeB_of h).up e, fun _ => q, fun z => nomatch z⟩
theorem ev_item {σ : L2.St} {v : V} {b : Bool} (h : ItemB K H v b) {ta tb tc : TE} (ha : Ev ta σ H v) (hb : Ev tb σ H v) (hc : Ev tc σ H (tx [])) : Ev (tAndV (tCall (spIsTextX K) [] E0 (tCons ta tNil)) (tOp rNe tb tc)) σ H (.bl b) := by
  rcases h with ⟨a, rfl, h1, rfl⟩ | ⟨h1, rfl⟩
  · exact ev_andV (ev_call (vs := [tx a]) (ea_cons ha ea_nil) (sv_is_textX (.inl ⟨a, rfl, h1, rfl⟩))) fun _ => ev_op hb hc rv_neS
  · exact ev_andV (a := false) (b := false) (ev_call (vs := [v]) (ea_cons ha ea_nil) (sv_is_textX (.inr ⟨h1, rfl⟩))) fun z => nomatch z
theorem ok7_asked_code {aBC : Addr} (D : DefAt K mg "asked_code" s_asked_code ["code"]) (T : Blt mg) (X_BadCode : ExcAt K mg "BadCode" aBC) (C_is_text : Cal P w K mg base 1 "is_text" (spIsTextX K)) : Cal P w K mg base 2 "asked_code" (spAskedCodeX K aBC) := by
  refine calX_of D sc_asked_code (fun vs H Q E h => ?_) (fun f cdv A outer s H vs Q E hr h => ?_)
  · obtain ⟨v, b, rfl, _⟩ := h; rfl
  · obtain ⟨v, b, rfl, hc, q1, q2⟩ := h
    refine ⟨_, (pss_one (ps_if (PW.pt (pw_or (pt_not (pt_val (pe_callB (call_isiK' (K := K) rfl) (by rfl) T.isinstance (by decide +kernel) (pa_cons (pv 0) (pa_cons (pe_bltn (v := .ty "list") (by rfl) T.list (by decide +kernel) rfl) pa_nil))))) (pw_or1 (pt_not (pt_val (pe_callB (cr_allK (K := K) rfl rfl) (by rfl) T.all (by decide +kernel) (pa_cons (pe_lc (own := [("word", 1)]) rfl sc_asked_code.nd (pi_listK (K := K) rfl (pv 0)) (blkOk_by (own := [("word", 1)]) (N := N_asked_code) (sc := defScope s_asked_code) (by decide +kernel)) (fun _ _ _ _ _ => (pg_name (i := 1) sc_asked_code.nd rfl (.inl rfl))) (fun _ _ _ _ _ => pts_nil) (fun _ _ _ _ _ => (pe_and (pe_c C_is_text hr (by decide) (by rfl) (pa_cons (pv 1) pa_nil)) (pe_one (pe_cmpR op_ne (pv 1) pe_str (nomark _)))))) pa_nil))))))) (pss_one (L2N.ps_raise rfl (L2N.takes_of rfl rfl rfl rfl) (pmk_c rfl rfl X_BadCode (by rfl)))) pss_nil)), ?_⟩
    have key : ∀ tt : TT, EvT tt (start N_asked_code [v]) H (!b) → ∀ D : Ends, (∀ H', Ex H H' → b = true → D.nx (start N_asked_code [v]) H') → ∀ ts : TS, (∀ H', Ex H H' → b = false → ts D (start N_asked_code [v]) H') → tIfS tt ts tNext D (start N_asked_code [v]) H := fun tt ht D h1 ts h2 =>
      s_when ht (fun hb H1 e1 => h2 H1 e1 (by cases b <;> simp_all)) (fun hb H1 e1 => h1 H1 e1 (by cases b <;> simp_all))
    refine key _ ?_ _ (fun H' e hb => q1 hb H' e) _ (fun H' e hb => q2 hb H' e)
    rcases hc with ⟨h1, rfl⟩ | ⟨p, vbs, rfl, hs, hl, hi, rfl⟩
    · exact et_is (et_or (a := true) (b := false) (et_is (et_not (et_B (ev_notIs h1 (ev_var rfl) ev_c))) rfl) fun z => nomatch z) rfl
    · refine et_is (et_or (a := false) (et_is (et_not (et_B (by walk_at "ev"))) rfl) fun _ => et_not (et_B (ev_all (el_mapB (φ := fun q : V × Bool => q.1) (g := fun q : V × Bool => q.2) (ev_var rfl) hs (by omega) (fun _ => rfl) fun y hy => ?_)))) (Bool.false_or _)
      exact ev_item (hi y hy) (ev_var rfl) (ev_var rfl) (ev_is ev_cS (congrArg tx codes_nil))
def spAskedTextX (K : PySem.W.Frag) (aBT : Addr) : Sp := fun vs H Q E => ∃ v b, vs = [v] ∧ TextB K H v b ∧ (b = true → ∀ H', Ex H H' → Q .non H') ∧ (b = false → ∀ H', Ex H H' → E (.ref aBT) none H')
theorem ok7_asked_text {aBT : Addr} (D : DefAt K mg "asked_text" s_asked_text ["text"]) (T : Blt mg) (X_BadText : ExcAt K mg "BadText" aBT) (C_is_text : Cal P w K mg base 1 "is_text" (spIsTextX K)) : Cal P w K mg base 2 "asked_text" (spAskedTextX K aBT) := by
  refine calX_of D sc_asked_text (fun vs H Q E h => ?_) (fun f cdv A outer s H vs Q E hr h => ?_)
  · obtain ⟨v, b, rfl, _⟩ := h; rfl
  · obtain ⟨v, b, rfl, hc, q1, q2⟩ := h
    refine ⟨_, (pss_one (ps_if (pt_not (pt_val (pe_c C_is_text hr (by decide) (by rfl) (pa_cons (pv 0) pa_nil)))) (pss_one (L2N.ps_raise rfl (L2N.takes_of rfl rfl rfl rfl) (pmk_c rfl rfl X_BadText (by rfl)))) pss_nil)), ?_⟩
    refine s_when (b := !b) (et_not (et_B (ev_call (vs := [v]) (ea_cons (ev_var rfl) ea_nil) (sv_is_textX hc)))) (fun hb H1 e1 => q2 (by cases b <;> simp_all) H1 e1) (fun hb H1 e1 => q1 (by cases b <;> simp_all) H1 e1)
end
end Tr

set_option Elab.async false
set_option linter.all false
set_option maxRecDepth 100000
set_option maxHeartbeats 4000000
namespace Tr
open PySem PySem.Spec PyProof.Rows L2 Evl
open M3 (wat joinW pre ways pick nthW bef num)
abbrev s_text_of : Stmt := topS 15
abbrev N_text_of : List Str := ["code", "places", "place"]
theorem sc_text_of : FnScope N_text_of ["code", "places"] (defScope s_text_of) := ⟨rfl, rfl, rfl, by decide +kernel, rfl, by decide +kernel, by decide +kernel⟩
abbrev s_once : Stmt := topS 43
abbrev N_once : List Str := ["code", "waiting", "seen", "at", "tail", "short", "long"]
theorem sc_once : FnScope N_once ["code"] (defScope s_once) := ⟨rfl, rfl, rfl, by decide +kernel, rfl, by decide +kernel, by decide +kernel⟩
abbrev s_begins : Stmt := topS 44
abbrev N_begins : List Str := ["code", "order", "at"]
theorem sc_begins : FnScope N_begins ["code"] (defScope s_begins) := ⟨rfl, rfl, rfl, by decide +kernel, rfl, by decide +kernel, by decide +kernel⟩
abbrev s_read : Stmt := topS 31
abbrev N_read : List Str := ["code", "text", "table"]
theorem sc_read : FnScope N_read ["code", "text"] (defScope s_read) := ⟨rfl, rfl, rfl, by decide +kernel, rfl, by decide +kernel, by decide +kernel⟩
abbrev s_of_lengths : Stmt := topS 39
abbrev N_of_lengths : List Str := ["letters", "lengths", "length", "found", "number", "last", "place", "step"]
theorem sc_of_lengths : FnScope N_of_lengths ["letters", "lengths"] (defScope s_of_lengths) := ⟨rfl, rfl, rfl, by decide +kernel, rfl, by decide +kernel, by decide +kernel⟩
local macro_rules | `(tactic| walk_at "sd") => `(tactic| first | assumption | rfl | omega | decide | (solve_by_elim) | (refine Nat.le_trans (m := 1000) (by solve_by_elim) (by decide)))
local macro_rules | `(tactic| walk_at "rv") => `(tactic| first
  | exact rv_add | exact rv_sub | exact rv_lt | exact rv_le | exact rv_gt | exact rv_ge | exact rv_eqI | exact rv_eqS | exact rv_eqB | exact rv_neI | exact rv_neS | exact rv_neB
  | exact rv_mod (by walk_at "sd") | exact rv_fdiv (by first | assumption | exact ⟨by omega, by omega⟩) | exact rv_addS (by walk_at "sd") | exact rv_isB | exact rv_notB | assumption)
local macro_rules | `(tactic| walk_at "ea") => `(tactic| first
  | exact ea_nil
  | (refine' ea_cons ?k1 ?k2; (case k1 => walk_at "ev"); (case k2 => walk_at "ea")))
local macro_rules | `(tactic| walk_at "eo") => `(tactic| first
  | exact eo_none
  | (refine' eo_some ?k1; (case k1 => walk_at "ev")))
local macro_rules | `(tactic| walk_at "et") => `(tactic| first
  | (refine' et_test ?k1; (case k1 => walk_at "ev"))
  | (refine' et_B ?k1; (case k1 => walk_at "ev"))
  | (refine' et_and ?k1 ?k2; (case k1 => walk_at "et"); (case k2 => (intro _; walk_at "et")))
  | (refine' et_or ?k1 ?k2; (case k1 => walk_at "et"); (case k2 => (intro _; walk_at "et")))
  | (refine' et_not ?k1; (case k1 => walk_at "et"))
  | assumption)
local macro_rules | `(tactic| walk_at "ev") => `(tactic| first
  | assumption
  | exact ev_cS
  | exact ev_c
  | exact ev_var rfl
  | (refine' ev_op ?k1 ?k2 ?k3; (case k1 => walk_at "ev"); (case k2 => walk_at "ev"); (case k3 => walk_at "rv"))
  | (refine' ev_un ?k1 ru_neg; (case k1 => walk_at "ev"))
  | (refine' ev_chain ?k1 ?k2 ?k3 ?k4 ?k5; (case k1 => walk_at "ev"); (case k2 => walk_at "ev"); (case k3 => walk_at "ev"); (case k4 => walk_at "rv"); (case k5 => (intro _; walk_at "rv")))
  | (refine' ev_slS ?k1 ?k2 ?k3 ?k4; (case k1 => walk_at "ev"); (case k2 => walk_at "eo"); (case k3 => walk_at "eo"); (case k4 => walk_at "sd"))
  | (refine' ev_lenS ?k1 ?k2; (case k1 => walk_at "ev"); (case k2 => walk_at "sd"))
  | (refine' ev_len' ?k1 ?k2; (case k1 => walk_at "ev"); (case k2 => walk_at "sd"))
  | (refine' ev_strip ?k1 ?k2 ?k3; (case k1 => walk_at "ev"); (case k2 => walk_at "ev"); (case k3 => walk_at "sd"))
  | (refine' ev_sum ?k1 ?k2; (case k1 => walk_at "ev"); (case k2 => walk_at "sd"))
  | (refine' ev_isi ?k1 ?k2 ?k3 ?k4; (case k1 => walk_at "ev"); (case k2 => walk_at "ev"); (case k3 => first | exact ty_int | exact ty_bl | exact ty_str | exact ty_list (by walk_at "sd")); (case k4 => first | exact kit_ty (r := true) (by decide +kernel) | exact kit_ty (r := false) (by decide +kernel)))
  | (refine' ev_andV ?k1 ?k2; (case k1 => walk_at "ev"); (case k2 => (intro _; walk_at "ev")))
  | (refine' ev_orV ?k1 ?k2; (case k1 => walk_at "ev"); (case k2 => (intro _; walk_at "ev")))
  | (refine' ev_notV ?k1; (case k1 => walk_at "ev"))
  | (refine' ev_call ?k1 ?k2; (case k1 => walk_at "ea"); (case k2 => walk_at "sv")))
local macro_rules | `(tactic| walk_at "el") => `(tactic| first
  | assumption
  | (refine' el_mapB ?k1 ?k2 ?k3 (fun _ => rfl) ?k5; (case k1 => walk_at "ev"); (case k2 => walk_at "sd"); (case k3 => walk_at "sd"); (case k5 => (intro _ _; walk_at "ev")))
  | (refine' el_mapI ?k1 ?k2 ?k3 (fun _ => rfl) ?k5; (case k1 => walk_at "ev"); (case k2 => walk_at "sd"); (case k3 => walk_at "sd"); (case k5 => (intro _ _; walk_at "ev")))
  | (refine' el_mapS ?k1 ?k2 ?k3 (fun _ => rfl) ?k5; (case k1 => walk_at "ev"); (case k2 => walk_at "sd"); (case k3 => walk_at "sd"); (case k5 => (intro _ _; walk_at "ev"))))
local macro_rules | `(tactic| walk_at "ev") => `(tactic| first
  | (refine' ev_all ?k1; (case k1 => walk_at "el"))
  | (refine' ev_any ?k1; (case k1 => walk_at "el"))
  | (refine' ev_sumN ?k1; (case k1 => walk_at "el"))
  | (refine' ev_join ?k1 ?k2 ?k3; (case k1 => exact ev_is ev_cS (congrArg tx codes_nil)); (case k2 => walk_at "el"); (case k3 => walk_at "sd")))

local macro_rules | `(tactic| walk_at "sv") => `(tactic| first | exact sv_stands (by walk_at "sd") (by walk_at "sd"))
section
variable {P : Program} {w : World} {K : PySem.W.Frag} {mg : Str → Option Value} {base : Heap} {H : Hp} {aBC aBT aNR aBN aBP aBL : Addr}
/-- raised, of the class at a, nothing changed -/
def Out (H : Hp) (E : XK) (a : Addr) : Prop := ∀ H', Ex H H' → E (.ref a) none H'
theorem Out.up {H H' : Hp} {E : XK} {a : Addr} (e : Ex H H') (h : Out H E a) : Out H' E a := fun H2 e2 => h H2 (e.trans e2)
/-! ### once, begins -/
def spBad1 (K : PySem.W.Frag) (aBC : Addr) : Sp := fun vs H Q E => ∃ v, vs = [v] ∧ CodeB K H v false ∧ Out H E aBC
theorem q_bad {tz : TS} {D : Ends} {σ : L2.St} {v : V} {E : XK} (hσ : σ[0]? = some (some v)) (hb : CodeB K H v false) (ho : Out H E aBC) : tSeq (tDrop (tCall (spAskedCodeX K aBC) [] E (tCons (tVar 0) tNil))) tz D σ H :=
  q_dropC (vs := [v]) (ea_cons (ev_var hσ) ea_nil) fun H1 e1 => ⟨v, false, rfl, hb.up e1, (fun z => nomatch z), fun _ => ho.up e1⟩
theorem ok7_once (D : DefAt K mg "once" s_once ["code"]) (C_asked_code : Cal P w K mg base 2 "asked_code" (spAskedCodeX K aBC)) : Cal P w K mg base 3 "once" (spBad1 K aBC) := by
  refine calX_of D sc_once (fun vs H Q E h => ?_) (fun f cdv A outer s H vs Q E hr h => ?_)
  · obtain ⟨v, rfl, _⟩ := h; rfl
  · obtain ⟨v, rfl, hb, ho⟩ := h
    exact ⟨_, (pss_cons (ps_expr (pe_cX (L2N.takes_of rfl rfl rfl rfl) C_asked_code hr (by decide) (by rfl) (pa_cons (pv 0) pa_nil)))
      (pss_cons ps_never (pss_cons ps_never (pss_cons ps_never (pss_cons ps_never (pss_one ps_never)))))), q_bad rfl hb ho⟩
theorem ok7_begins (D : DefAt K mg "begins" s_begins ["code"]) (C_asked_code : Cal P w K mg base 2 "asked_code" (spAskedCodeX K aBC)) : Cal P w K mg base 3 "begins" (spBad1 K aBC) := by
  refine calX_of D sc_begins (fun vs H Q E h => ?_) (fun f cdv A outer s H vs Q E hr h => ?_)
  · obtain ⟨v, rfl, _⟩ := h; rfl
  · obtain ⟨v, rfl, hb, ho⟩ := h
    exact ⟨_, (pss_cons (ps_expr (pe_cX (L2N.takes_of rfl rfl rfl rfl) C_asked_code hr (by decide) (by rfl) (pa_cons (pv 0) pa_nil)))
      (pss_cons ps_never (pss_cons ps_never (pss_one ps_never)))), q_bad rfl hb ho⟩
/-! ### all numbers -/
theorem ev_allNums {σ : L2.St} {lo hi : Int} {p : Addr} {vbs : List (V × Bool)} {tl tj tlo thi : TE} {j : Nat} {vs : List Nat} (h : Ev tl σ H (.ref p)) (hs : SqL K H p (vbs.map (·.1))) (hl : vbs.length ≤ 1000) (hi' : ∀ q ∈ vbs, NumB K H lo hi q.1 q.2)
    (hw : ∀ x, wipe ((wipe σ vs).set j (some x)) vs = wipe σ vs) (hj : ∀ x, Ev tj ((wipe σ vs).set j (some x)) H x) (h1 : ∀ x, Ev tlo ((wipe σ vs).set j (some x)) H (.int lo)) (h2 : ∀ x, Ev thi ((wipe σ vs).set j (some x)) H (.int hi)) :
    Ev (tCB (rAll K) (tCons (tLc (iList K tl) (gName j) tYes (tCall (spIsNumberX K) [] E0 (tCons tj (tCons tlo (tCons thi tNil)))) vs) tNil)) σ H (.bl ((vbs.map (·.2)).all id)) :=
  ev_all (el_mapB (φ := fun q : V × Bool => q.1) (g := fun q : V × Bool => q.2) h hs (by omega) hw fun y hy => ev_call (vs := [y.1, .int lo, .int hi]) (ea_cons (hj _) (ea_cons (h1 _) (ea_cons (h2 _) ea_nil))) (sv_is_numberX (hi' y hy)))
theorem et_nums {σ : L2.St} {lo hi : Int} {v : V} {b : Bool} {ta tb tl tj tlo thi : TE} {j : Nat} {vs : List Nat} (hv : NumsB K H lo hi v b) (ha : Ev ta σ H v) (hb : Ev tb σ H (.ty "list")) (h : Ev tl σ H v)
    (hw : ∀ x, wipe ((wipe σ vs).set j (some x)) vs = wipe σ vs) (hj : ∀ x, Ev tj ((wipe σ vs).set j (some x)) H x) (h1 : ∀ x, Ev tlo ((wipe σ vs).set j (some x)) H (.int lo)) (h2 : ∀ x, Ev thi ((wipe σ vs).set j (some x)) H (.int hi)) :
    EvT (tOr (tNot (tB (tCB (rIsi K) (tCons ta (tCons tb tNil))))) (tNot (tB (tCB (rAll K) (tCons (tLc (iList K tl) (gName j) tYes (tCall (spIsNumberX K) [] E0 (tCons tj (tCons tlo (tCons thi tNil)))) vs) tNil))))) σ H (!b) := by
  rcases hv with ⟨h1, rfl⟩ | ⟨p, vbs, rfl, hs, hl, hi', rfl⟩
  · exact et_is (et_or (a := true) (b := false) (et_is (et_not (et_B (ev_notIs h1 ha hb))) rfl) fun z => nomatch z) rfl
  · refine et_is (et_or (a := false) (et_is (et_not (et_B (b := true) (ev_isi (K := K) ha hb (ty_list hs) (kit_ty (r := true) (by decide +kernel))))) rfl) fun _ => et_not (et_B (ev_allNums h hs hl hi' hw hj h1 h2))) (Bool.false_or _)
/-! ### text_of -/
def spTextOf7 (K : PySem.W.Frag) (aBC aBP : Addr) : Sp := fun vs H Q E => ∃ x y, vs = [x, y] ∧ ((CodeB K H x false ∧ Out H E aBC) ∨ ∃ p ws, x = .ref p ∧ CodeAt K H p ws ∧ ((NumsB K H 0 ((ws.length : Int) - 1) y false ∧ Out H E aBP) ∨
  ∃ q ns, y = .ref q ∧ SqL K H q (ns.map nI) ∧ ns.length ≤ 1000 ∧ (∀ n ∈ ns, n < ws.length) ∧ (joinW ws ns).length ≤ 100000 ∧ ∀ H', Ex H H' → Q (tx (joinW ws ns)) H'))
theorem ok7_text_of (D : DefAt K mg "text_of" s_text_of ["code", "places"]) (T : Blt mg) (X_BadPlaces : ExcAt K mg "BadPlaces" aBP) (C_asked_code : Cal P w K mg base 2 "asked_code" (spAskedCodeX K aBC)) (C_is_number : Cal P w K mg base 1 "is_number" (spIsNumberX K))
    (C_joined : Cal P w K mg base 1 "joined" (spJoined K)) : Cal P w K mg base 3 "text_of" (spTextOf7 K aBC aBP) := by
  refine calX_of D sc_text_of (fun vs H Q E h => ?_) (fun f cdv A outer s H vs Q E hr h => ?_)
  · obtain ⟨x, y, rfl, _⟩ := h; rfl
  · obtain ⟨x, y, rfl, h⟩ := h
    refine ⟨_, (pss_cons (ps_expr (pe_cX (L2N.takes_of rfl rfl rfl rfl) C_asked_code hr (by decide) (by rfl) (pa_cons (pv 0) pa_nil)))
      (pss_cons (ps_if (PW.pt (pw_or (pt_not (pt_val (pe_callB (call_isiK' (K := K) rfl) (by rfl) T.isinstance (by decide +kernel) (pa_cons (pv 1) (pa_cons (pe_bltn (v := .ty "list") (by rfl) T.list (by decide +kernel) rfl) pa_nil))))) (pw_or1 (pt_not (pt_val (pe_callB (cr_allK (K := K) rfl rfl) (by rfl) T.all (by decide +kernel) (pa_cons (pe_lc (own := [("place", 2)]) rfl sc_text_of.nd (pi_listK (K := K) rfl (pv 1)) (blkOk_by (own := [("place", 2)]) (N := N_text_of) (sc := defScope s_text_of) (by decide +kernel)) (fun _ _ _ _ _ => (pg_name (i := 2) sc_text_of.nd rfl (.inl rfl))) (fun _ _ _ _ _ => pts_nil) (fun _ _ _ _ _ => (pe_c C_is_number hr (by decide) (by rfl) (pa_cons (pv 2) (pa_cons pe_int (pa_cons (pe_op op_sub (pe_callB (call_len_seqK (K := K) rfl) (by rfl) T.len (by decide +kernel) (pa_cons (pv 0) pa_nil)) pe_int) pa_nil)))))) pa_nil))))))) (pss_one (L2N.ps_raise rfl (L2N.takes_of rfl rfl rfl rfl) (pmk_c rfl rfl X_BadPlaces (by rfl)))) pss_nil)
      (pss_one (ps_ret (pe_c C_joined hr (by decide) (by rfl) (pa_cons (pv 0) (pa_cons (pv 1) pa_nil))))))), ?_⟩
    rcases h with ⟨hb, ho⟩ | ⟨p, ws, rfl, hc, h⟩
    · exact q_bad rfl hb ho
    · refine q_dropC (vs := [.ref p]) (ea_cons (ev_var rfl) ea_nil) fun H1 e1 => ⟨.ref p, true, rfl, codeB_of (hc.ex e1), fun _ H2 e2 => ?_, fun z => nomatch z⟩
      have hc2 := hc.ex (e1.trans e2)
      have e9 : (((ws.map tx).length : Nat) : Int) = (ws.length : Int) := by rw [List.length_map]
      have hlen : ∀ x, Ev (tOp (rI0 fun i j => .int (i - j)) (tCB (rLenQ K) (tCons (tVar 0) tNil)) (tC (.int 1))) [some (.ref p), some y, some x] H2 (.int ((ws.length : Int) - 1)) := fun x =>
        ev_op (x := .int (ws.length : Int)) (by rw [← e9]; exact ev_len' (ev_var rfl) hc2.sq) ev_c rv_sub
      rcases h with ⟨hb, ho⟩ | ⟨q, ns, rfl, hq, hl, hn, hj, k⟩
      · refine q_when (et_nums (hb.up (e1.trans e2)) (ev_var rfl) ev_c (ev_var rfl) (fun _ => rfl) (fun _ => ev_var rfl) (fun _ => ev_c) hlen) (fun _ H3 e3 => ho.up ((e1.trans e2).trans e3) H3 (Ex.refl H3)) (fun z => nomatch z)
      · have hq2 := ex_l (e1.trans e2) hq
        refine q_when (et_nums (numsB_of hq2 hl fun n hn' => by have := hn n hn'; omega) (ev_var rfl) ev_c (ev_var rfl) (fun _ => rfl) (fun _ => ev_var rfl) (fun _ => ev_c) hlen) (fun z => nomatch z) (fun _ H3 e3 => ?_)
        exact s_ret (ev_call (vs := [.ref p, .ref q]) (by walk_at "ea") (sv_joined (hc2.ex e3).sq (ex_l e3 hq2) (by omega) hn hj)) fun H4 e4 => k H4 (((e1.trans e2).trans e3).trans e4)
/-! ### asked of both -/
def Ask2 (K : PySem.W.Frag) (aBC aBT : Addr) (H : Hp) (x y : V) (E : XK) (R : Addr → List Wd → Wd → Prop) : Prop := (CodeB K H x false ∧ Out H E aBC) ∨ ∃ p ws, x = .ref p ∧ CodeAt K H p ws ∧ ((TextB K H y false ∧ Out H E aBT) ∨ ∃ t, y = tx t ∧ t.length ≤ 5000 ∧ okW t ∧ R p ws t)
theorem q_ask2 {tz : TS} {D : Ends} {σ : L2.St} {x y : V} {E : XK} {R : Addr → List Wd → Wd → Prop} (hx : σ[0]? = some (some x)) (hy : σ[1]? = some (some y)) (h : Ask2 K aBC aBT H x y E R)
    (k : ∀ p ws t H1, x = .ref p → y = tx t → CodeAt K H p ws → t.length ≤ 5000 → okW t → R p ws t → Ex H H1 → tz D σ H1) :
    tSeq (tDrop (tCall (spAskedCodeX K aBC) [] E (tCons (tVar 0) tNil))) (tSeq (tDrop (tCall (spAskedTextX K aBT) [] E (tCons (tVar 1) tNil))) tz) D σ H := by
  rcases h with ⟨hb, ho⟩ | ⟨p, ws, rfl, hc, h⟩
  · exact q_bad hx hb ho
  · refine q_dropC (vs := [.ref p]) (ea_cons (ev_var hx) ea_nil) fun H1 e1 => ⟨.ref p, true, rfl, codeB_of (hc.ex e1), fun _ H2 e2 => ?_, fun z => nomatch z⟩
    have e12 := e1.trans e2
    rcases h with ⟨hb, ho⟩ | ⟨t, rfl, ht, ho, hR⟩
    · exact q_dropC (vs := [y]) (ea_cons (ev_var hy) ea_nil) fun H3 e3 => ⟨y, false, rfl, hb.up (e12.trans e3), (fun z => nomatch z), fun _ => ho.up (e12.trans e3)⟩
    · exact q_dropC (vs := [tx t]) (ea_cons (ev_var hy) ea_nil) fun H3 e3 => ⟨tx t, true, rfl, .inl ⟨t, rfl, by omega, (decide_eq_true ho).symm⟩, fun _ H4 e4 => k p ws t H4 rfl rfl hc ht ho hR ((e12.trans e3).trans e4), fun z => nomatch z⟩
/-! ### read, how_many, told, number_of -/
def spRead7 (K : PySem.W.Frag) (aBC aBT : Addr) : Sp := fun vs H Q E => ∃ x y, vs = [x, y] ∧ Ask2 K aBC aBT H x y E fun _ _ _ => False
theorem ok7_read (D : DefAt K mg "read" s_read ["code", "text"]) (C_asked_code : Cal P w K mg base 2 "asked_code" (spAskedCodeX K aBC)) (C_asked_text : Cal P w K mg base 2 "asked_text" (spAskedTextX K aBT)) : Cal P w K mg base 3 "read" (spRead7 K aBC aBT) := by
  refine calX_of D sc_read (fun vs H Q E h => ?_) (fun f cdv A outer s H vs Q E hr h => ?_)
  · obtain ⟨x, y, rfl, _⟩ := h; rfl
  · obtain ⟨x, y, rfl, h⟩ := h
    exact ⟨_, (pss_cons (ps_expr (pe_cX (L2N.takes_of rfl rfl rfl rfl) C_asked_code hr (by decide) (by rfl) (pa_cons (pv 0) pa_nil)))
      (pss_cons (ps_expr (pe_cX (L2N.takes_of rfl rfl rfl rfl) C_asked_text hr (by decide) (by rfl) (pa_cons (pv 1) pa_nil)))
      (pss_cons ps_never (pss_cons ps_never (pss_one ps_never))))), q_ask2 rfl rfl h fun _ _ _ _ _ _ _ _ _ z => z.elim⟩
def spHowMany7 (K : PySem.W.Frag) (aBC aBT : Addr) : Sp := fun vs H Q E => ∃ x y, vs = [x, y] ∧ Ask2 K aBC aBT H x y E fun _ ws t => ∀ H', Ex H H' → Q (nI (ways ws t)) H'
theorem ok7_how_many (D : DefAt K mg "how_many" s_how_many ["code", "text"]) (T : Blt mg) (C_asked_code : Cal P w K mg base 2 "asked_code" (spAskedCodeX K aBC)) (C_asked_text : Cal P w K mg base 2 "asked_text" (spAskedTextX K aBT))
    (C_table_of : Cal P w K mg base 2 "table_of" (spTable K)) : Cal P w K mg base 3 "how_many" (spHowMany7 K aBC aBT) := by
  refine calX_of D sc_how_many (fun vs H Q E h => ?_) (fun f cdv A outer s H vs Q E hr h => ?_)
  · obtain ⟨x, y, rfl, _⟩ := h; rfl
  · obtain ⟨x, y, rfl, h⟩ := h
    refine ⟨_, (pss_cons (ps_expr (pe_cX (L2N.takes_of rfl rfl rfl rfl) C_asked_code hr (by decide) (by rfl) (pa_cons (pv 0) pa_nil)))
      (pss_cons (ps_expr (pe_cX (L2N.takes_of rfl rfl rfl rfl) C_asked_text hr (by decide) (by rfl) (pa_cons (pv 1) pa_nil)))
      (pss_one (ps_ret (pe_ix (ix_listK (K := K) rfl) (pe_c C_table_of hr (by decide) (by rfl) (pa_cons (pv 0) (pa_cons (pv 1) pa_nil))) pe_int (fun _ _ => rfl)))))), q_ask2 rfl rfl h fun p ws t H1 hx hy hc ht ho k e1 => ?_⟩
    subst hx hy
    exact s_ret (ev_ixN (el_call (vs := [.ref p, tx t]) (by walk_at "ea") (sl_table (hc.ex e1) ht)) ev_c (atI_nat (j := 0) (tabN_get ws t (Nat.zero_le _)))) fun H2 e2 => k H2 (e1.trans e2)
def spTold7 (K : PySem.W.Frag) (aBC aBT aNR aBN : Addr) : Sp := fun vs H Q E => ∃ x y z, vs = [x, y, z] ∧ Ask2 K aBC aBT H x y E fun _ ws t => (ways ws t = 0 ∧ Out H E aNR) ∨ (ways ws t ≠ 0 ∧ NumB K H 0 (((ways ws t : Nat) : Int) - 1) z false ∧ Out H E aBN)
theorem ok7_told (D : DefAt K mg "told" s_told ["code", "text", "number"]) (T : Blt mg) (X_NoReading : ExcAt K mg "NoReading" aNR) (X_BadNumber : ExcAt K mg "BadNumber" aBN) (C_asked_code : Cal P w K mg base 2 "asked_code" (spAskedCodeX K aBC)) (C_asked_text : Cal P w K mg base 2 "asked_text" (spAskedTextX K aBT))
    (C_table_of : Cal P w K mg base 2 "table_of" (spTable K)) (C_is_number : Cal P w K mg base 1 "is_number" (spIsNumberX K)) : Cal P w K mg base 3 "told" (spTold7 K aBC aBT aNR aBN) := by
  refine calX_of D sc_told (fun vs H Q E h => ?_) (fun f cdv A outer s H vs Q E hr h => ?_)
  · obtain ⟨x, y, z, rfl, _⟩ := h; rfl
  · obtain ⟨x, y, z, rfl, h⟩ := h
    refine ⟨_, (pss_cons (ps_expr (pe_cX (L2N.takes_of rfl rfl rfl rfl) C_asked_code hr (by decide) (by rfl) (pa_cons (pv 0) pa_nil)))
      (pss_cons (ps_expr (pe_cX (L2N.takes_of rfl rfl rfl rfl) C_asked_text hr (by decide) (by rfl) (pa_cons (pv 1) pa_nil)))
      (pss_cons (ps_set (i := 3) sc_told.nd rfl (.inl rfl) (pe_c C_table_of hr (by decide) (by rfl) (pa_cons (pv 0) (pa_cons (pv 1) pa_nil))))
      (pss_cons (ps_if (pt_cmpR op_eq (pe_ix (ix_listK (K := K) rfl) (pv 3) pe_int (fun _ _ => rfl)) pe_int (nomark _)) (pss_one (L2N.ps_raise rfl (L2N.takes_of rfl rfl rfl rfl) (pmk_c rfl rfl X_NoReading (by rfl)))) pss_nil)
      (pss_cons (ps_if (pt_not (pt_val (pe_c C_is_number hr (by decide) (by rfl) (pa_cons (pv 2) (pa_cons pe_int (pa_cons (pe_op op_sub (pe_ix (ix_listK (K := K) rfl) (pv 3) pe_int (fun _ _ => rfl)) pe_int) pa_nil)))))) (pss_one (L2N.ps_raise rfl (L2N.takes_of rfl rfl rfl rfl) (pmk_c rfl rfl X_BadNumber (by rfl)))) pss_nil)
      (pss_one ps_never)))))), q_ask2 rfl rfl h fun p ws t H1 hx hy hc ht ho hR e1 => ?_⟩
    subst hx hy
    refine q_asgL (el_call (vs := [.ref p, tx t]) (by walk_at "ea") (sl_table (hc.ex e1) ht)) fun q H3 nq e3 hq => ?_
    have ex3 := e1.trans e3
    have g0 : Ev (tOp (rIxL K) (tVar 3) (tC (.int 0))) [some (.ref p), some (tx t), some z, some (.ref q)] H3 (nI (ways ws t)) := ev_op (ev_var rfl) ev_c (rv_ixL (sq_of hq) (atI_nat (j := 0) (tabN_get ws t (Nat.zero_le _))))
    rcases hR with ⟨h0, hE⟩ | ⟨h0, hz, hE⟩
    · exact q_when (b := true) (et_is (et_test (ev_op g0 ev_c rv_eqI)) (by rw [h0]; rfl)) (fun _ H4 e4 => hE H4 (ex3.trans e4)) (fun z => nomatch z)
    · refine q_when (b := false) (et_is (et_test (ev_op g0 ev_c rv_eqI)) (decide_eq_false (by omega))) (fun z => nomatch z) (fun _ H4 e4 => ?_)
      refine q_when (b := true) (et_is (et_not (et_B (ev_call (vs := [z, .int 0, .int (((ways ws t : Nat) : Int) - 1)]) (ea_cons (ev_var rfl) (ea_cons ev_c (ea_cons (ev_op (x := nI (ways ws t)) (g0.mono e4) ev_c rv_sub) ea_nil))) (sv_is_numberX (hz.up (ex3.trans e4)))))) rfl) (fun _ H5 e5 => hE H5 ((ex3.trans e4).trans e5)) (fun z => nomatch z)
end
end Tr

set_option Elab.async false
set_option linter.all false
set_option maxRecDepth 100000
set_option maxHeartbeats 4000000
namespace Tr
open PySem PySem.Spec PyProof.Rows L2 Evl
open M3 (wat joinW pre ways pick nthW bef num)
local macro_rules | `(tactic| walk_at "sd") => `(tactic| first | assumption | rfl | omega | decide | (solve_by_elim) | (refine Nat.le_trans (m := 1000) (by solve_by_elim) (by decide)))
local macro_rules | `(tactic| walk_at "rv") => `(tactic| first
  | exact rv_add | exact rv_sub | exact rv_lt | exact rv_le | exact rv_gt | exact rv_ge | exact rv_eqI | exact rv_eqS | exact rv_eqB | exact rv_neI | exact rv_neS | exact rv_neB
  | exact rv_mod (by walk_at "sd") | exact rv_fdiv (by first | assumption | exact ⟨by omega, by omega⟩) | exact rv_addS (by walk_at "sd") | exact rv_isB | exact rv_notB | assumption)
local macro_rules | `(tactic| walk_at "ea") => `(tactic| first
  | exact ea_nil
  | (refine' ea_cons ?k1 ?k2; (case k1 => walk_at "ev"); (case k2 => walk_at "ea")))
local macro_rules | `(tactic| walk_at "eo") => `(tactic| first
  | exact eo_none
  | (refine' eo_some ?k1; (case k1 => walk_at "ev")))
local macro_rules | `(tactic| walk_at "et") => `(tactic| first
  | (refine' et_test ?k1; (case k1 => walk_at "ev"))
  | (refine' et_B ?k1; (case k1 => walk_at "ev"))
  | (refine' et_and ?k1 ?k2; (case k1 => walk_at "et"); (case k2 => (intro _; walk_at "et")))
  | (refine' et_or ?k1 ?k2; (case k1 => walk_at "et"); (case k2 => (intro _; walk_at "et")))
  | (refine' et_not ?k1; (case k1 => walk_at "et"))
  | assumption)
local macro_rules | `(tactic| walk_at "ev") => `(tactic| first
  | assumption
  | exact ev_cS
  | exact ev_c
  | exact ev_var rfl
  | (refine' ev_op ?k1 ?k2 ?k3; (case k1 => walk_at "ev"); (case k2 => walk_at "ev"); (case k3 => walk_at "rv"))
  | (refine' ev_un ?k1 ru_neg; (case k1 => walk_at "ev"))
  | (refine' ev_chain ?k1 ?k2 ?k3 ?k4 ?k5; (case k1 => walk_at "ev"); (case k2 => walk_at "ev"); (case k3 => walk_at "ev"); (case k4 => walk_at "rv"); (case k5 => (intro _; walk_at "rv")))
  | (refine' ev_slS ?k1 ?k2 ?k3 ?k4; (case k1 => walk_at "ev"); (case k2 => walk_at "eo"); (case k3 => walk_at "eo"); (case k4 => walk_at "sd"))
  | (refine' ev_lenS ?k1 ?k2; (case k1 => walk_at "ev"); (case k2 => walk_at "sd"))
  | (refine' ev_len' ?k1 ?k2; (case k1 => walk_at "ev"); (case k2 => walk_at "sd"))
  | (refine' ev_strip ?k1 ?k2 ?k3; (case k1 => walk_at "ev"); (case k2 => walk_at "ev"); (case k3 => walk_at "sd"))
  | (refine' ev_sum ?k1 ?k2; (case k1 => walk_at "ev"); (case k2 => walk_at "sd"))
  | (refine' ev_isi ?k1 ?k2 ?k3 ?k4; (case k1 => walk_at "ev"); (case k2 => walk_at "ev"); (case k3 => first | exact ty_int | exact ty_bl | exact ty_str | exact ty_list (by walk_at "sd")); (case k4 => first | exact kit_ty (r := true) (by decide +kernel) | exact kit_ty (r := false) (by decide +kernel)))
  | (refine' ev_andV ?k1 ?k2; (case k1 => walk_at "ev"); (case k2 => (intro _; walk_at "ev")))
  | (refine' ev_orV ?k1 ?k2; (case k1 => walk_at "ev"); (case k2 => (intro _; walk_at "ev")))
  | (refine' ev_notV ?k1; (case k1 => walk_at "ev"))
  | (refine' ev_call ?k1 ?k2; (case k1 => walk_at "ea"); (case k2 => walk_at "sv")))
local macro_rules | `(tactic| walk_at "el") => `(tactic| first
  | assumption
  | (refine' el_mapB ?k1 ?k2 ?k3 (fun _ => rfl) ?k5; (case k1 => walk_at "ev"); (case k2 => walk_at "sd"); (case k3 => walk_at "sd"); (case k5 => (intro _ _; walk_at "ev")))
  | (refine' el_mapI ?k1 ?k2 ?k3 (fun _ => rfl) ?k5; (case k1 => walk_at "ev"); (case k2 => walk_at "sd"); (case k3 => walk_at "sd"); (case k5 => (intro _ _; walk_at "ev")))
  | (refine' el_mapS ?k1 ?k2 ?k3 (fun _ => rfl) ?k5; (case k1 => walk_at "ev"); (case k2 => walk_at "sd"); (case k3 => walk_at "sd"); (case k5 => (intro _ _; walk_at "ev"))))
local macro_rules | `(tactic| walk_at "ev") => `(tactic| first
  | (refine' ev_all ?k1; (case k1 => walk_at "el"))
  | (refine' ev_any ?k1; (case k1 => walk_at "el"))
  | (refine' ev_sumN ?k1; (case k1 => walk_at "el"))
  | (refine' ev_join ?k1 ?k2 ?k3; (case k1 => exact ev_is ev_cS (congrArg tx codes_nil)); (case k2 => walk_at "el"); (case k3 => walk_at "sd")))

local macro_rules | `(tactic| walk_at "sv") => `(tactic| first | exact sv_stands (by walk_at "sd") (by walk_at "sd"))
section
variable {P : Program} {w : World} {K : PySem.W.Frag} {mg : Str → Option Value} {base : Heap} {H : Hp} {aBC aBT aNR aBN aBP aBL : Addr}
def spNumberOf7 (K : PySem.W.Frag) (aBC aBT aNR aBP : Addr) : Sp := fun vs H Q E => ∃ x y z, vs = [x, y, z] ∧ Ask2 K aBC aBT H x y E fun p ws t => (ways ws t = 0 ∧ Out H E aNR) ∨ (ways ws t ≠ 0 ∧ ((NumsB K H 0 ((ws.length : Int) - 1) z false ∧ Out H E aBP) ∨
  ∃ q ns, z = .ref q ∧ SqL K H q (ns.map nI) ∧ ns.length ≤ 1000 ∧ (∀ n ∈ ns, n < ws.length) ∧ (joinW ws ns).length ≤ 10000 ∧ ((joinW ws ns ≠ t ∧ Out H E aBP) ∨ (joinW ws ns = t ∧ ∀ H', Ex H H' → Q (nI (num ws t ns)) H'))))
theorem ok7_number_of (D : DefAt K mg "number_of" s_number_of ["code", "text", "places"]) (T : Blt mg) (X_NoReading : ExcAt K mg "NoReading" aNR) (X_BadPlaces : ExcAt K mg "BadPlaces" aBP) (C_asked_code : Cal P w K mg base 2 "asked_code" (spAskedCodeX K aBC)) (C_asked_text : Cal P w K mg base 2 "asked_text" (spAskedTextX K aBT))
    (C_table_of : Cal P w K mg base 2 "table_of" (spTable K)) (C_joined : Cal P w K mg base 1 "joined" (spJoined K)) (C_is_number : Cal P w K mg base 1 "is_number" (spIsNumberX K)) (C_stands : Cal P w K mg base 1 "stands" spStands) :
    Cal P w K mg base 3 "number_of" (spNumberOf7 K aBC aBT aNR aBP) := by
  refine calX_of D sc_number_of (fun vs H Q E h => ?_) (fun f cdv A outer s H vs Q E hr h => ?_)
  · obtain ⟨x, y, z, rfl, _⟩ := h; rfl
  · obtain ⟨x, y, z, rfl, h⟩ := h
    refine ⟨_, (pss_cons (ps_expr (pe_cX (L2N.takes_of rfl rfl rfl rfl) C_asked_code hr (by decide) (by rfl) (pa_cons (pv 0) pa_nil)))
      (pss_cons (ps_expr (pe_cX (L2N.takes_of rfl rfl rfl rfl) C_asked_text hr (by decide) (by rfl) (pa_cons (pv 1) pa_nil)))
      (pss_cons (ps_set (i := 3) sc_number_of.nd rfl (.inl rfl) (pe_c C_table_of hr (by decide) (by rfl) (pa_cons (pv 0) (pa_cons (pv 1) pa_nil))))
      (pss_cons (ps_if (pt_cmpR op_eq (pe_ix (ix_listK (K := K) rfl) (pv 3) pe_int (fun _ _ => rfl)) pe_int (nomark _)) (pss_one (L2N.ps_raise rfl (L2N.takes_of rfl rfl rfl rfl) (pmk_c rfl rfl X_NoReading (by rfl)))) pss_nil)
      (pss_cons (ps_if (PW.pt (pw_or (pt_not (pt_val (pe_callB (call_isiK' (K := K) rfl) (by rfl) T.isinstance (by decide +kernel) (pa_cons (pv 2) (pa_cons (pe_bltn (v := .ty "list") (by rfl) T.list (by decide +kernel) rfl) pa_nil))))) (pw_or1 (pt_not (pt_val (pe_callB (cr_allK (K := K) rfl rfl) (by rfl) T.all (by decide +kernel) (pa_cons (pe_lc (own := [("place", 4)]) rfl sc_number_of.nd (pi_listK (K := K) rfl (pv 2)) (blkOk_by (own := [("place", 4)]) (N := N_number_of) (sc := defScope s_number_of) (by decide +kernel)) (fun _ _ _ _ _ => (pg_name (i := 4) sc_number_of.nd rfl (.inl rfl))) (fun _ _ _ _ _ => pts_nil) (fun _ _ _ _ _ => (pe_c C_is_number hr (by decide) (by rfl) (pa_cons (pv 4) (pa_cons pe_int (pa_cons (pe_op op_sub (pe_callB (call_len_seqK (K := K) rfl) (by rfl) T.len (by decide +kernel) (pa_cons (pv 0) pa_nil)) pe_int) pa_nil)))))) pa_nil))))))) (pss_one (L2N.ps_raise rfl (L2N.takes_of rfl rfl rfl rfl) (pmk_c rfl rfl X_BadPlaces (by rfl)))) pss_nil)
      (pss_cons (ps_if (pt_cmpR op_ne (pe_c C_joined hr (by decide) (by rfl) (pa_cons (pv 0) (pa_cons (pv 2) pa_nil))) (pv 1) (nomark _)) (pss_one (L2N.ps_raise rfl (L2N.takes_of rfl rfl rfl rfl) (pmk_c rfl rfl X_BadPlaces (by rfl)))) pss_nil)
      (pss_cons (ps_set (i := 5) sc_number_of.nd rfl (.inl rfl) pe_int)
      (pss_cons (ps_set (i := 6) sc_number_of.nd rfl (.inl rfl) pe_int)
      (pss_cons (ps_for (passes_of rfl) rfl (pi_listK (K := K) rfl (pv 2)) (pg_name (i := 4) sc_number_of.nd rfl (.inl rfl)) (pss_cons (ps_for (passes_of rfl) rfl (pi_range1 (by rfl) T.range (pa_cons (pv 4) pa_nil)) (pg_name (i := 7) sc_number_of.nd rfl (.inl rfl)) (pss_one (ps_if (pt_val (pe_c C_stands hr (by decide) (by rfl) (pa_cons (pe_ix (ix_listK (K := K) rfl) (pv 0) (pv 7) (fun _ _ => rfl)) (pa_cons (pv 1) (pa_cons (pv 6) pa_nil))))) (pss_one (ps_set (i := 5) sc_number_of.nd rfl (.inl rfl) (pe_op op_add (pv 5) (pe_ix (ix_listK (K := K) rfl) (pv 3) (pe_op op_add (pv 6) (pe_callB call_len_str (by rfl) T.len (by decide +kernel) (pa_cons (pe_ix (ix_listK (K := K) rfl) (pv 0) (pv 7) (fun _ _ => rfl)) pa_nil))) (fun _ _ => rfl))))) pss_nil)))
      (pss_one (ps_set (i := 6) sc_number_of.nd rfl (.inl rfl) (pe_op op_add (pv 6) (pe_callB call_len_str (by rfl) T.len (by decide +kernel) (pa_cons (pe_ix (ix_listK (K := K) rfl) (pv 0) (pv 4) (fun _ _ => rfl)) pa_nil)))))))
      (pss_one (ps_ret (pv 5)))))))))))), q_ask2 rfl rfl h fun p ws t H2 hx hy hc ht ho hR e12 => ?_⟩
    subst hx hy
    have ht2 : t.length ≤ 10000 := by omega
    have hz : ws.length ≤ 40000 := Nat.le_trans hc.len (by decide)
    have hb : ∀ a, a ∈ ws → a.length ≤ 1000 := fun a ha => (hc.ok a ha).2.2
    have hw : ∀ a ∈ ws, a ≠ [] := fun a ha => (hc.ok a ha).1
    refine q_asgL (el_call (vs := [.ref p, tx t]) (by walk_at "ea") (sl_table (hc.ex e12) ht)) fun a H3 na e3 ha => ?_
    have ex3 := e12.trans e3
    have g0 : Ev (tOp (rIxL K) (tVar 3) (tC (.int 0))) [some (.ref p), some (tx t), some z, some (.ref a), none, none, none, none] H3 (nI (ways ws t)) := ev_op (ev_var rfl) ev_c (rv_ixL (sq_of ha) (atI_nat (j := 0) (tabN_get ws t (Nat.zero_le _))))
    rcases hR with ⟨h0, hE⟩ | ⟨h0, hR⟩
    · exact q_when (b := true) (et_is (et_test (ev_op g0 ev_c rv_eqI)) (by rw [h0]; rfl)) (fun _ H4 e4 => hE H4 (ex3.trans e4)) (fun z => nomatch z)
    refine q_when (b := false) (et_is (et_test (ev_op g0 ev_c rv_eqI)) (decide_eq_false (by omega))) (fun z => nomatch z) (fun _ H4 e4 => ?_)
    have ex4 := ex3.trans e4
    have hc4 := (hc.ex ex4).sq
    have e9 : (((ws.map tx).length : Nat) : Int) = (ws.length : Int) := by rw [List.length_map]
    have hlen : ∀ x, Ev (tOp (rI0 fun i j => .int (i - j)) (tCB (rLenQ K) (tCons (tVar 0) tNil)) (tC (.int 1))) ([some (.ref p), some (tx t), some z, some (.ref a), some x, none, none, none]) H4 (.int ((ws.length : Int) - 1)) := fun x =>
      ev_op (x := .int (ws.length : Int)) (by rw [← e9]; exact ev_len' (ev_var rfl) hc4) ev_c rv_sub
    rcases hR with ⟨hbz, hE⟩ | ⟨q, ns, hzq, hq, hnl3, hn, hj3, hR⟩
    · exact q_when (et_nums (hbz.up ex4) (ev_var rfl) ev_c (ev_var rfl) (fun _ => rfl) (fun _ => ev_var rfl) (fun _ => ev_c) hlen) (fun _ H5 e5 => hE H5 (ex4.trans e5)) (fun z => nomatch z)
    subst hzq
    have hq4 := ex_l ex4 hq
    refine q_when (et_nums (numsB_of hq4 hnl3 fun n hn' => by have := hn n hn'; omega) (ev_var rfl) ev_c (ev_var rfl) (fun _ => rfl) (fun _ => ev_var rfl) (fun _ => ev_c) hlen) (fun z => nomatch z) (fun _ H5 e5 => ?_)
    have ex5 := ex4.trans e5
    have hq5 := ex_l ex5 hq
    have hc5 := (hc.ex ex5).sq
    have hnz : ns.length ≤ 40000 := by omega
    have gj := ev_op (H := H5) (ev_call (sp := spJoined K) (dvs := []) (E := E0) (vs := [.ref p, .ref q]) (ta := tCons (tVar 0) (tCons (tVar 2) tNil)) (σ := [some (.ref p), some (tx t), some (.ref q), some (.ref a), none, none, none, none]) (by walk_at "ea") (sv_joined hc5 hq5 hnz hn (by omega))) (ev_var (i := 1) rfl) (rv_neS (a := joinW ws ns) (b := t))
    rcases hR with ⟨hj, hE⟩ | ⟨hj, k⟩
    · exact q_when (b := true) (et_is (et_test gj) (by rw [decide_eq_false hj]; rfl)) (fun _ H6 e6 => hE H6 (ex5.trans e6)) (fun z => nomatch z)
    refine q_when (b := false) (et_is (et_test gj) (by rw [decide_eq_true hj]; rfl)) (fun z => nomatch z) (fun _ H6 e6 => ?_)
    have hnl := M3.join_len ws hw ns hn
    rw [hj] at hnl
    have hpos := M3.num_lt ws hw ns t hn hj
    refine q_asg ev_c fun H7 e7 => q_asg ev_c fun H8 e8 => ?_
    have ex8 := ((ex5.trans e6).trans e7).trans e8
    have ha8 : SqL K H8 a ((tabN ws t).map nI) := sq_of (((((e4.trans e5).trans e6).trans e7).trans e8) a _ ha)
    refine q_forLn (a := q) (xs := ns.map nI) (ev_var rfl) (ex_l ex8 hq) (fun i σ' H' => ∃ s4 s7, Ex H8 H' ∧ σ' = [some (.ref p), some (tx t), some (.ref q), some (.ref a), s4, some (.int ((num ws t (ns.take i) : Nat) : Int)), some (.int (((joinW ws (ns.take i)).length : Nat) : Int)), s7])
      (fun H9 e9 => ⟨_, _, e9, rfl⟩) (fun i σ' H' _ hP => by obtain ⟨_, _, ex, _⟩ := hP; exact ex_l (ex8.trans ex) hq) (fun i x σ' H' hi hP => ?_) (fun σ' H' hP => ?_)
    · obtain ⟨s4, s7, ex, rfl⟩ := hP
      have hil : i < ns.length := by
        have := (List.getElem?_eq_some_iff.mp hi).1
        rwa [List.length_map] at this
      have hx : x = nI ns[i] := by
        rw [List.getElem?_map, List.getElem?_eq_getElem hil] at hi
        exact (Option.some.inj hi).symm
      subst hx
      have hpl : ns[i] < ws.length := hn _ (List.getElem_mem hil)
      have htk : ns.take (i + 1) = ns.take i ++ [ns[i]] := by rw [List.take_succ, List.getElem?_eq_getElem hil]; rfl
      have hjs : joinW ws (ns.take i) ++ joinW ws (ns.drop i) = t := by
        rw [← hj]
        conv => rhs; rw [← List.take_append_drop i ns]
        unfold joinW
        rw [List.map_append, List.flatten_append]
      generalize hM : (joinW ws (ns.take i)).length = M
      have hdrop : t.drop M = joinW ws (ns.drop i) := by rw [← hM]; conv => lhs; rw [← hjs]
                                                         simp
      have hMt : M ≤ t.length := by
        have := congrArg List.length hjs
        rw [List.length_append] at this; omega
      have hdr : ns.drop i = ns[i] :: ns.drop (i + 1) := (List.getElem_cons_drop hil).symm
      have hpre : pre (wat ws ns[i]) (t.drop M) = true := by
        have : joinW ws (ns[i] :: ns.drop (i + 1)) = t.drop M := by rw [hdrop, hdr]
        exact (M3.pre_of_join this).1
      have hc' := hc.ex (ex8.trans ex)
      have ha' : SqL K H' a ((tabN ws t).map nI) := ex_l ex ha8
      refine q_forR1 (n := (ns[i] : Int)) (by walk_at "ea") ⟨by omega, by have := hc.len; omega⟩ (fun i2 σ2 H2 => ∃ s7, Ex H' H2 ∧ σ2 = [some (.ref p), some (tx t), some (.ref q), some (.ref a), some (nI ns[i]), some (.int ((num ws t (ns.take i) + bef ws (t.drop M) i2 : Nat) : Int)), some (.int (M : Int)), s7])
        (fun H9 e9 => ⟨s7, e9, by rw [M3.bef_zero]; rfl⟩) (fun i2 σ2 H2 hi2 hP => ?_) (fun σ2 H2 hP => ?_)
      · obtain ⟨s7, ex2, rfl⟩ := hP
        have hi2' : i2 < ns[i] := by omega
        have hol : i2 < ws.length := by omega
        have hc2' := hc'.ex ex2
        have ha2 := ex_l ex2 ha'
        have hwg : ws[i2]? = some (wat ws i2) := M3.wat_getElem hol
        have hbs := M3.bef_succ ws (t.drop M) hwg
        have hwl : (wat ws i2).length ≤ 1000 := hb _ (List.mem_of_getElem? hwg)
        have gco : Ev (tOp (rIxL K) (tVar 0) (tVar 7)) [some (.ref p), some (tx t), some (.ref q), some (.ref a), some (nI ns[i]), some (.int ((num ws t (ns.take i) + bef ws (t.drop M) i2 : Nat) : Int)), some (.int (M : Int)), some (.int (i2 : Int))] H2 (tx (wat ws i2)) :=
          ev_op (ev_var rfl) (ev_var rfl) (rv_ixL hc2'.sq (atI_nat (wat_get hol)))
        refine s_when (b := standsB (wat ws i2) t M) (et_B (ev_call (vs := [tx (wat ws i2), tx t, .int (M : Int)]) (ea_cons gco (by walk_at "ea")) (sv_stands (a := wat ws i2) (t := t) (i := M) (by omega) ht2))) (fun hp H9 e9 => ?_) (fun hp H9 e9 => ?_) <;> replace hp : pre (wat ws i2) (t.drop M) = _ := hp
        · have hpl2 := M3.pre_len hp
          rw [List.length_drop] at hpl2
          have e10 : (M : Int) + ((wat ws i2).length : Int) = ((M + (wat ws i2).length : Nat) : Int) := by omega
          refine s_asg (v := .int ((num ws t (ns.take i) + bef ws (t.drop M) (i2 + 1) : Nat) : Int)) (ev_is (ev_op (ev_var rfl) (ev_op (y := .int ((M + (wat ws i2).length : Nat) : Int)) (ev_var rfl) (by rw [← e10]; exact ev_op (ev_var rfl) (ev_lenS (gco.mono e9) (by omega)) rv_add) (rv_ixL (ex_l e9 ha2) (atI_nat (tabN_get ws t (by omega))))) rv_add) (congrArg V.int ?_)) fun H10 e11 => ⟨_, (ex2.trans e9).trans e11, rfl⟩
          rw [hbs, if_pos hp, List.drop_drop]; omega
        · refine ⟨some (.int (i2 : Int)), ex2.trans e9, ?_⟩
          rw [hbs, if_neg (by rw [hp]; decide)]; rfl
      · obtain ⟨s7, ex2, rfl⟩ := hP
        have e12 : ((ns[i] : Int)).toNat = ns[i] := by omega
        have hwl : (wat ws ns[i]).length ≤ 1000 := hb _ (List.mem_of_getElem? (M3.wat_getElem hpl))
        refine s_asg (v := .int (((joinW ws (ns.take (i + 1))).length : Nat) : Int)) (ev_is (ev_op (ev_var rfl) (ev_lenS (ev_op (ev_var rfl) (ev_var rfl) (rv_ixL (hc'.ex ex2).sq (atI_nat (wat_get hpl)))) (by omega)) rv_add) (congrArg V.int ?_)) fun H10 e11 => ⟨some (nI ns[i]), s7, (ex.trans ex2).trans e11, ?_⟩
        · rw [htk]
          unfold joinW at hM ⊢
          rw [List.map_append, List.flatten_append, List.length_append, hM]
          simp
        · have hjt : joinW ws (ns.take i ++ ns.drop i) = t := by rw [List.take_append_drop]; exact hj
          have hnum : num ws t (ns.take (i + 1)) = num ws t (ns.take i) + bef ws (t.drop M) ns[i] := by
            rw [htk]
            clear hjt
            have key : ∀ (xs : List Nat) (t : Wd) (y : Nat), num ws t (xs ++ [y]) = num ws t xs + bef ws (t.drop (joinW ws xs).length) y := by
              intro xs
              induction xs with
              | nil => intro t y; simp [num, joinW]
              | cons x xs ih =>
                intro t y
                show bef ws t x + num ws _ (xs ++ [y]) = bef ws t x + num ws _ xs + _
                rw [ih, List.drop_drop, M3.join_cons, List.length_append]
                omega
            rw [key, hM]
          rw [hnum, e12]
          rfl
    · obtain ⟨s4, s7, ex, rfl⟩ := hP
      refine s_ret (v := .int ((num ws t ns : Nat) : Int)) (ev_is (ev_var rfl) ?_) fun H9 e9 => k H9 ((ex8.trans ex).trans e9)
      rw [List.take_of_length_le (by simp)]
end
end Tr

set_option Elab.async false
set_option linter.all false
set_option maxRecDepth 100000
set_option maxHeartbeats 4000000
/-! TrB: rules that the layer lacks: text * int, text[::-1], set(list of ints), list >= list of ints. -/
namespace Tr
open PySem PySem.Spec PyProof.Rows L2 Evl
/-! ### a text times an int -/
def repW (a : Wd) (n : Int) : Wd := (List.replicate n.toNat a).flatten
theorem fold_rep (a : Wd) (k : Nat) : ∀ acc : Wd, List.foldl (fun x y => x ++ y) acc.toArray (List.replicate k a.toArray) = (acc ++ (List.replicate k a).flatten).toArray := by
  induction k with
  | zero => intro acc; simp
  | succ k ih =>
    intro acc
    rw [List.replicate_succ, List.foldl_cons]
    have : acc.toArray ++ a.toArray = (acc ++ a).toArray := by simp
    rw [this, ih, List.replicate_succ, List.flatten_cons, List.append_assoc]
def rRepS : R2 := fun x y H Q => ∃ (a : Wd) (n : Int), x = tx a ∧ y = .int n ∧ -1000 ≤ n ∧ n ≤ 1000 ∧ a.length ≤ 1000 ∧ Q (tx (repW a n)) H
theorem op_rep_str {X : Cx} : OpR X (binaryOp .Mult) rRepS := by
  intro pins s σ H x y v u Q I rx ry h
  obtain ⟨a, n, rfl, rfl, h1, h2, h3, q⟩ := h
  obtain ⟨t, rfl⟩ := rx
  obtain ⟨t', rfl⟩ := ry
  have hmul : a.length * n.toNat ≤ 1000 * 1000 := Nat.mul_le_mul h3 (by omega)
  refine P.mul_str ?_ ?_ ?_ ?_
  · have e1 : ¬ n < -(2 ^ 63 : Int) := by omega
    have e2 : ¬ n ≥ 2 ^ 63 := by omega
    rw [decide_eq_false e1, decide_eq_false e2]; rfl
  · intro hn _ hc
    rw [S_len] at hc
    have e3 : (1000 : Int) ≤ (2 ^ 63 - 1) / n := by
      rw [Int.le_ediv_iff_mul_le (by omega)]; omega
    omega
  · intro hn _
    rw [S_len]
    unfold Builtin.Str.tooLong
    exact decide_eq_false (by rw [sizeLine_eq]; omega)
  · have fin : ∀ (b : Wd) (k : Tok) (tk : Tok), b = repW a n → EP X pins σ Q (.str (S b) k) { s with toks := tk } := fun b k tk e => ⟨tx (repW a n), H, I.tok _, ⟨k, by rw [e]⟩, q⟩
    by_cases hn : n < 1
    · rw [if_pos hn]
      refine ⟨by decide, ?_⟩
      have e0 : repW a n = [] := by
        unfold repW
        have : n.toNat = 0 := by omega
        rw [this]; rfl
      exact fin [] _ _ e0.symm
    · rw [if_neg hn]
      by_cases h4 : (n == 1 || (S a).length == 0) = true
      · rw [if_pos h4]
        have e0 : repW a n = a := by
          unfold repW
          rw [Bool.or_eq_true, beq_iff_eq, beq_iff_eq, S_len] at h4
          rcases h4 with h4 | h4
          · subst h4; simp
          · have : a = [] := List.eq_nil_of_length_eq_zero h4
            subst this
            have hh : ∀ k, (List.replicate k ([] : Wd)).flatten = [] := fun k => by induction k with
              | zero => rfl
              | succ k ih => rw [List.replicate_succ, List.flatten_cons, ih]; rfl
            exact hh _
        exact fin a t s.toks e0.symm
      · rw [if_neg h4]
        have e0 : (⟨(List.replicate n.toNat (S a).cps).foldl (· ++ ·) #[]⟩ : Str) = S (repW a n) := by
          show Str.mk (List.foldl (fun x y => x ++ y) ([] : Wd).toArray (List.replicate n.toNat a.toArray)) = _
          rw [fold_rep]; rfl
        rw [e0]
        refine ⟨by rw [S_len]; unfold repW; rw [List.length_flatten, List.map_replicate, List.sum_replicate_nat, Nat.mul_comm]; rw [sizeLine_eq]; omega, ?_⟩
        exact fin _ _ _ rfl
theorem rv_repS {H : Hp} {a : Wd} {n : Int} (h : (-1000 ≤ n ∧ n ≤ 1000) ∧ a.length ≤ 1000) : RV rRepS (tx a) (.int n) H (tx (repW a n)) := fun H1 _ Q q => ⟨a, n, rfl, rfl, h.1.1, h.1.2, h.2, q H1 (Ex.refl H1)⟩
/-! ### text[::-1] -/
def tRevS (te : TE) : TE := fun σ H Q => te σ H fun x H1 => ∃ a : Wd, x = tx a ∧ a.length ≤ 100000 ∧ Q (tx a.reverse) H1
theorem rev_indices (a : Wd) : (Builtin.Str.strSliceIndices none none (-1) (S a).length).filterMap ((S a).cps[·]?) = a.reverse := by
  have h1 : Builtin.Str.strSliceIndices none none (-1) (S a).length = sliceRange (((S a).length : Int) - 1) (-1) (-1) := rfl
  have h2 : (S a).length = a.toArray.size := rfl
  rw [h1, h2, PySem.W.krv_sliceRange, PySem.W.krv_range, List.filterMap_reverse]
  have h3 := PySem.W.krv_all a.toArray
  exact congrArg List.reverse (by simpa [S] using h3)
theorem pe_revS {X : Cx} {e : Expr} {te : TE} {k : Nat} {p1 p2 p3 pos : Pos} (he : PE X e te) : PE X (.Subscript e (.Slice none none (some (.UnaryOp .USub (.Constant (.int 1) k p1) p2)) p3) pos) (tRevS te) := by
  refine ⟨fun pins s σ H Q I h => Subscript_ (thn (he.run pins s σ H _ I h) fun v s1 ⟨x, H1, I1, r1, a, ex, hz, q⟩ => ?_)⟩
  subst ex
  obtain ⟨t, rfl⟩ := r1
  have hst : PO X (some (.UnaryOp .USub (.Constant (.int 1) k p1) p2)) (tPart (tUn (rU fun i => .int (-i)) (tC (.int 1)))) := po_some (pe_un un_neg pe_int)
  refine wpAny_Slice (thn (po_none.run pins s1 σ H1 (fun o H2 => o = none ∧ H2 = H1) I1 ⟨rfl, rfl⟩) fun vl s2 ⟨o2, H2, I2, pl, e2, e3⟩ => ?_)
  subst e2 e3
  refine thn (po_none.run pins s2 σ H2 (fun o H3 => o = none ∧ H3 = H2) I2 ⟨rfl, rfl⟩) fun vu s3 ⟨o3, H3, I3, pu, e4, e5⟩ => ?_
  subst e4 e5
  refine thn (hst.run pins s3 σ H3 (fun o H4 => o = some (-1) ∧ H4 = H3) I3 ⟨1, rfl, -1, rfl, rfl, rfl⟩) fun vs s4 ⟨o4, H4, I4, ps, e6, e7⟩ => ?_
  subst e6 e7
  obtain ⟨pl', rfl, hl⟩ := IsPart.raw pl
  obtain ⟨pu', rfl, hu⟩ := IsPart.raw pu
  obtain ⟨ps', rfl, hs⟩ := IsPart.raw ps
  have I5 : Inv X pins σ H4 { s4 with heap := s4.heap.push { cls := .type "slice", data := .fields #[partValue pl', partValue pu', partValue ps'] } } := I4.kept (t' := s4.toks) fun b ob q => Heap.get?_push_of_some _ q
  show wpAny (model X.prog X.w) X.A (subscriptTail e (.Slice none none (some (.UnaryOp .USub (.Constant (.int 1) k p1) p2)) p3) (.str (S a) t) (.ref s4.heap.objs.size)) (EP X pins σ Q) X.xe { s4 with heap := s4.heap.push { cls := .type "slice", data := .fields #[partValue pl', partValue pu', partValue ps'] } }
  refine tail_any (ops := [.str (S a) t, .ref s4.heap.objs.size]) (typeIs_str _ _ _) F.slot_str_getitem.lookup ?_ (by with_unfolding_all rfl)
  refine wpAny_getItem_str_slice (l := pl') (u := pu') (st := ps') ⟨_, Heap.get?_push_size _ rfl, rfl, rfl⟩ (by rw [hs]; rfl) ?_
  unfold sliceMade slicePicked
  rw [hs, hl, hu]
  show Made.post (if ((-1 : Int) == 1 && _) = true then _ else Made.str ⟨((Builtin.Str.strSliceIndices none none (-1) (S a).length).filterMap ((S a).cps[·]?)).toArray⟩) (EP X pins σ Q) _
  rw [if_neg (by simp)]
  show Made.post (Made.str ⟨((Builtin.Str.strSliceIndices none none (-1) (S a).length).filterMap ((S a).cps[·]?)).toArray⟩) (EP X pins σ Q) _
  rw [rev_indices]
  refine ⟨?_, tx a.reverse, H4, I5.tok _, ⟨_, rfl⟩, q⟩
  show (S a.reverse).length ≤ sizeLine
  rw [S_len, List.length_reverse]
  exact sz_of hz
theorem ev_revS {te : TE} {σ : L2.St} {H : Hp} {a : Wd} (h : Ev te σ H (tx a)) (hz : a.length ≤ 100000) : Ev (tRevS te) σ H (tx a.reverse) := fun H1 e Q q => h H1 e _ fun H2 e2 => ⟨a, rfl, hz, q H2 e2⟩
/-! ### list >= list of ints -/
end Tr
namespace TrG
open PySem PySem.SeqAt
open PySem.AutoSeq1 (wpAny_loadPart')
open PySem.MeetsSeq PySem.MeetsSeq2 PySem.MeetsSeq3 PySem.SeqRoads2
abbrev LObj (dd : Option Addr) (xs : Array Value) (n : Nat) (sl : Array (Option Value)) : Obj := { cls := .type "list", dict := dd, data := .seq xs n, slots := sl }
theorem ge_loop (l b : Addr) (xs ys : Array Value) (n n2 : Nat) (dd dd2 : Option Addr) (sl sl2 : Array (Option Value)) (e r : Nat → Bool) : ∀ (k i : Nat), min xs.size ys.size - i = k →
    Meets (Builtin.«list.__eq__.loop» ⟨[.ref l, .ref b, rawInt i, rawInt 5], []⟩) fun A R s =>
      s.heap.get? l = some (LObj dd xs n sl) ∧ s.heap.get? b = some (LObj dd2 ys n2 sl2) ∧ (∀ j (h1 : j < xs.size) (h2 : j < ys.size), EqAt A.in1 s xs[j] ys[j] (e j)) ∧
      (∀ j (h1 : j < xs.size) (h2 : j < ys.size), e j = false → Ob.RcOp .GtE A.in1 s xs[j] ys[j] (r j)) ∧ R (.ok (.ret (.bool (Ob.lexAt e r (decide (xs.size ≥ ys.size)) i k)))) s
  | 0, i, hk => fun prog w A R s h => by
    obtain ⟨h0, g, d, tk, os⟩ := s
    obtain ⟨hl, hb, he, hr, h⟩ := h
    wp_walk using wpAny_loadPart' hl, wpAny_loadPart' hb
    rcases Nat.lt_or_ge i xs.size with h1 | h1
    · have q1 : xs[((i : Nat) : Int).toNat]? = some xs[i] := by simp [h1]
      have q2 : ys[((i : Nat) : Int).toNat]? = none := by simp; omega
      rw [q1, q2]
      wp_walk using wpAny_loadPart' hl, wpAny_loadPart' hb
      exact h
    · have q1 : xs[((i : Nat) : Int).toNat]? = none := by simp; omega
      rw [q1]
      wp_walk using wpAny_loadPart' hl, wpAny_loadPart' hb
      exact h
  | k + 1, i, hk => fun prog w A R s h => by
    obtain ⟨h0, g, d, tk, os⟩ := s
    obtain ⟨hl, hb, he, hr, h⟩ := h
    wp_walk using wpAny_loadPart' hl, wpAny_loadPart' hb
    have l1 : i < xs.size := by omega
    have l2 : i < ys.size := by omega
    have q1 : xs[((i : Nat) : Int).toNat]? = some xs[i] := by simp [l1]
    have q2 : ys[((i : Nat) : Int).toNat]? = some ys[i] := by simp [l2]
    rw [Ob.lexAt_succ] at h
    rw [q1, q2]
    refine wpAny_bind (he i l1 l2 prog w _ _ ?_)
    cases hei : e i with
    | true =>
      rw [hei, if_pos rfl] at h
      wp_walk
      have q3 : (i : Int) + 1 = ((i + 1 : Nat) : Int) := by omega
      rw [q3]
      exact ⟨plainId_quiet plain_eq_loop _, codeAny_builtin entry_eq_loop (by
        rw [Around.under_plainId plain_eq_loop _]
        exact ge_loop l b xs ys n n2 dd dd2 sl sl2 e r k (i + 1) (by omega) prog w A R _ ⟨hl, hb, he, hr, h⟩)⟩
    | false =>
      rw [hei, if_neg Bool.false_ne_true] at h
      wp_walk using wpAny_loadPart' hl, wpAny_loadPart' hb
      rw [q1, q2]
      have hri := hr i l1 l2 hei prog w
      wp_walk using hri
      exact h
theorem ge_at (l b : Addr) (xs ys : Array Value) (n n2 : Nat) (dd dd2 : Option Addr) (sl sl2 : Array (Option Value)) (e r : Nat → Bool) :
    Meets (Builtin.«list.__ge__» ⟨[.ref l, .ref b], []⟩) fun A R s =>
      s.heap.get? l = some (LObj dd xs n sl) ∧ s.heap.get? b = some (LObj dd2 ys n2 sl2) ∧ (∀ j (h1 : j < xs.size) (h2 : j < ys.size), EqAt A.in1 s xs[j] ys[j] (e j)) ∧
      (∀ j (h1 : j < xs.size) (h2 : j < ys.size), e j = false → Ob.RcOp .GtE A.in1 s xs[j] ys[j] (r j)) ∧ R (.ok (.ret (.bool (Ob.lexAt e r (decide (xs.size ≥ ys.size)) 0 (min xs.size ys.size))))) s := fun prog w A R s h => by
  obtain ⟨h0, g, d, tk, os⟩ := s
  obtain ⟨hl, hb, he, hr, h⟩ := h
  have f3 := AutoSeq1.sub_list_list
  wp_walk using wpAny_loadPart' hl, wpAny_loadPart' hb
  exact ⟨plainId_quiet plain_eq_loop _, codeAny_builtin entry_eq_loop (by
    rw [Around.under_plainId plain_eq_loop _]
    exact ge_loop l b xs ys n n2 dd dd2 sl sl2 e r _ 0 rfl prog w A R _ ⟨hl, hb, he, hr, by simpa using h⟩)⟩
theorem ge_lists {A : Around} {s : Shared} {l b : Addr} {xs ys : Array Value} {e r : Nat → Bool} (hl : s.heap.IsList l xs) (hb : s.heap.IsList b ys) (hu : A.units < cLine) (he : ∀ j (h1 : j < xs.size) (h2 : j < ys.size), EqAt A.in1 s xs[j] ys[j] (e j))
    (hr : ∀ j (h1 : j < xs.size) (h2 : j < ys.size), e j = false → Ob.RcOp .GtE A.in1 s xs[j] ys[j] (r j)) : Ob.RcOp .GtE A s (.ref l) (.ref b) (Ob.lexAt e r (decide (xs.size ≥ ys.size)) 0 (min xs.size ys.size)) := fun prog w E Q h => by
  obtain ⟨⟨c1, d1, x1, s1⟩, g1, k1, n, k2⟩ := id hl
  obtain ⟨⟨c2, d2, x2, s2⟩, g2, k3, n2, k4⟩ := id hb
  dsimp only at k1 k2 k3 k4
  subst k1 k2 k3 k4
  exact richCompare_meets_room (op := .GtE) ⟨_, g1, rfl⟩ ⟨_, g2, rfl⟩ F.slot_list_ge F.entry_list_ge (F.args_list_ge_2 _ _) (ge_at l b xs ys n n2 d1 d2 s1 s2 e r) ⟨g1, g2, he, hr, ⟨(fun x => nomatch x), h⟩⟩ hu
end TrG
namespace Tr
open PySem PySem.Spec PyProof.Rows L2 Evl
/-- a >= b of lists of ints, as the machine finds it -/
def geI (ns ms : List Int) : Bool := Ob.lexAt (fun j => decide (ns.getD j 0 = ms.getD j 0)) (fun j => decide (ms.getD j 0 ≤ ns.getD j 0)) (decide (ns.length ≥ ms.length)) 0 (min ns.length ms.length)
def rGeL (K : PySem.W.Frag) : R2 := fun x y H Q => ∃ (a b : Addr) (ns ms : List Int), x = .ref a ∧ y = .ref b ∧ SqL K H a (ns.map V.int) ∧ SqL K H b (ms.map V.int) ∧ Q (.bl (geI ns ms)) H
theorem op_geLK {X : Cx} {K : PySem.W.Frag} (hK : X.K = K) (hu : X.A.units < cLine) : OpR X (compareOp .GtE) (rGeL K) := by
  subst hK
  intro pins s σ H x y v u Q I rx ry h
  obtain ⟨a, b, ns, ms, rfl, rfl, ha, hb, q⟩ := h
  cases rx
  cases ry
  obtain ⟨us, r1, p1, _⟩ := I.list ha
  obtain ⟨us2, r2, p2, _⟩ := I.list hb
  have i1 : IntsAre us ns := Vals.ints r1
  have i2 : IntsAre us2 ms := Vals.ints r2
  have z1 : us.toArray.size = ns.length := by rw [List.size_toArray]; exact i1.length
  have z2 : us2.toArray.size = ms.length := by rw [List.size_toArray]; exact i2.length
  have t1 : ∀ j (h1 : j < us.toArray.size), ∃ t, us.toArray[j] = .int (ns.getD j 0) t := fun j h1 => PyProof.Rows.IntsAre.int_at i1 _ _ (by simp at h1; simp [h1])
  have t2 : ∀ j (h1 : j < us2.toArray.size), ∃ t, us2.toArray[j] = .int (ms.getD j 0) t := fun j h1 => PyProof.Rows.IntsAre.int_at i2 _ _ (by simp at h1; simp [h1])
  have R := TrG.ge_lists (A := X.A) (s := s) (e := fun j => decide (ns.getD j 0 = ms.getD j 0)) (r := fun j => decide (ms.getD j 0 ≤ ns.getD j 0)) p1.isList p2.isList hu (fun j h1 h2 => by
    obtain ⟨t, et⟩ := t1 j h1
    obtain ⟨t', et'⟩ := t2 j h2
    rw [et, et', show decide (ns.getD j 0 = ms.getD j 0) = (ns.getD j 0 == ms.getD j 0) from (Bool.beq_eq_decide_eq _ _).symm]
    exact SeqAt.EqAt.int_int _ _ _ _) (fun j h1 h2 _ => by
    obtain ⟨t, et⟩ := t1 j h1
    obtain ⟨t', et'⟩ := t2 j h2
    rw [et, et']
    exact Ob.RcOp.ge_int _ _ _ _)
  rw [z1, z2] at R
  exact (R X.prog X.w X.xe (EP X pins σ Q) ⟨.bl _, H, I, rfl, q⟩ : wpAny (model X.prog X.w) X.A (compareOp .GtE (.ref a) (.ref b)) (EP X pins σ Q) X.xe s)
theorem rv_geL {K : PySem.W.Frag} {H : Hp} {a b : Addr} {ns ms : List Int} (ha : SqL K H a (ns.map V.int)) (hb : SqL K H b (ms.map V.int)) : RV (rGeL K) (.ref a) (.ref b) H (.bl (geI ns ms)) := fun H1 e _ q => ⟨a, b, ns, ms, rfl, rfl, ex_l e ha, ex_l e hb, q H1 (Ex.refl H1)⟩
end Tr

set_option Elab.async false
set_option linter.all false
set_option maxRecDepth 100000
set_option maxHeartbeats 4000000
namespace Tr
open PySem PySem.Spec PyProof.Rows L2 Evl
open M3 (wat joinW pre ways pick nthW bef num)
abbrev s__law_code_asked : Stmt := topS 46
abbrev N__law_code_asked : List Str := ["_law_which", "_law_more", "_law_bad", "_law_door"]
theorem sc__law_code_asked : FnScope N__law_code_asked ["_law_which", "_law_more"] (defScope s__law_code_asked) := ⟨rfl, rfl, rfl, by decide +kernel, rfl, by decide +kernel, by decide +kernel⟩
abbrev s__law_text_asked : Stmt := topS 47
abbrev N__law_text_asked : List Str := ["_law_which", "_law_more", "_law_bad", "_law_door"]
theorem sc__law_text_asked : FnScope N__law_text_asked ["_law_which", "_law_more"] (defScope s__law_text_asked) := ⟨rfl, rfl, rfl, by decide +kernel, rfl, by decide +kernel, by decide +kernel⟩
abbrev s__law_others_asked : Stmt := topS 48
abbrev N__law_others_asked : List Str := ["_law_kind", "_law_which", "_law_more", "_law_text", "_law_bad"]
theorem sc__law_others_asked : FnScope N__law_others_asked ["_law_kind", "_law_which", "_law_more"] (defScope s__law_others_asked) := ⟨rfl, rfl, rfl, by decide +kernel, rfl, by decide +kernel, by decide +kernel⟩
local macro_rules | `(tactic| walk_at "sd") => `(tactic| first | assumption | rfl | omega | decide | (solve_by_elim) | (refine Nat.le_trans (m := 1000) (by solve_by_elim) (by decide)))
local macro_rules | `(tactic| walk_at "rv") => `(tactic| first
  | exact rv_add | exact rv_sub | exact rv_lt | exact rv_le | exact rv_gt | exact rv_ge | exact rv_eqI | exact rv_eqS | exact rv_eqB | exact rv_neI | exact rv_neS | exact rv_neB
  | exact rv_mod (by walk_at "sd") | exact rv_fdiv (by first | assumption | exact ⟨by omega, by omega⟩) | exact rv_addS (by walk_at "sd") | exact rv_isB | exact rv_notB | assumption)
local macro_rules | `(tactic| walk_at "ea") => `(tactic| first
  | exact ea_nil
  | (refine' ea_cons ?k1 ?k2; (case k1 => walk_at "ev"); (case k2 => walk_at "ea")))
local macro_rules | `(tactic| walk_at "eo") => `(tactic| first
  | exact eo_none
  | (refine' eo_some ?k1; (case k1 => walk_at "ev")))
local macro_rules | `(tactic| walk_at "et") => `(tactic| first
  | (refine' et_test ?k1; (case k1 => walk_at "ev"))
  | (refine' et_B ?k1; (case k1 => walk_at "ev"))
  | (refine' et_and ?k1 ?k2; (case k1 => walk_at "et"); (case k2 => (intro _; walk_at "et")))
  | (refine' et_or ?k1 ?k2; (case k1 => walk_at "et"); (case k2 => (intro _; walk_at "et")))
  | (refine' et_not ?k1; (case k1 => walk_at "et"))
  | assumption)
local macro_rules | `(tactic| walk_at "ev") => `(tactic| first
  | assumption
  | exact ev_cS
  | exact ev_c
  | exact ev_var rfl
  | (refine' ev_op ?k1 ?k2 ?k3; (case k1 => walk_at "ev"); (case k2 => walk_at "ev"); (case k3 => walk_at "rv"))
  | (refine' ev_un ?k1 ru_neg; (case k1 => walk_at "ev"))
  | (refine' ev_chain ?k1 ?k2 ?k3 ?k4 ?k5; (case k1 => walk_at "ev"); (case k2 => walk_at "ev"); (case k3 => walk_at "ev"); (case k4 => walk_at "rv"); (case k5 => (intro _; walk_at "rv")))
  | (refine' ev_slS ?k1 ?k2 ?k3 ?k4; (case k1 => walk_at "ev"); (case k2 => walk_at "eo"); (case k3 => walk_at "eo"); (case k4 => walk_at "sd"))
  | (refine' ev_lenS ?k1 ?k2; (case k1 => walk_at "ev"); (case k2 => walk_at "sd"))
  | (refine' ev_len' ?k1 ?k2; (case k1 => walk_at "ev"); (case k2 => walk_at "sd"))
  | (refine' ev_strip ?k1 ?k2 ?k3; (case k1 => walk_at "ev"); (case k2 => walk_at "ev"); (case k3 => walk_at "sd"))
  | (refine' ev_sum ?k1 ?k2; (case k1 => walk_at "ev"); (case k2 => walk_at "sd"))
  | (refine' ev_isi ?k1 ?k2 ?k3 ?k4; (case k1 => walk_at "ev"); (case k2 => walk_at "ev"); (case k3 => first | exact ty_int | exact ty_bl | exact ty_str | exact ty_list (by walk_at "sd")); (case k4 => first | exact kit_ty (r := true) (by decide +kernel) | exact kit_ty (r := false) (by decide +kernel)))
  | (refine' ev_andV ?k1 ?k2; (case k1 => walk_at "ev"); (case k2 => (intro _; walk_at "ev")))
  | (refine' ev_orV ?k1 ?k2; (case k1 => walk_at "ev"); (case k2 => (intro _; walk_at "ev")))
  | (refine' ev_notV ?k1; (case k1 => walk_at "ev"))
  | (refine' ev_call ?k1 ?k2; (case k1 => walk_at "ea"); (case k2 => walk_at "sv")))
local macro_rules | `(tactic| walk_at "el") => `(tactic| first
  | assumption
  | (refine' el_mapB ?k1 ?k2 ?k3 (fun _ => rfl) ?k5; (case k1 => walk_at "ev"); (case k2 => walk_at "sd"); (case k3 => walk_at "sd"); (case k5 => (intro _ _; walk_at "ev")))
  | (refine' el_mapI ?k1 ?k2 ?k3 (fun _ => rfl) ?k5; (case k1 => walk_at "ev"); (case k2 => walk_at "sd"); (case k3 => walk_at "sd"); (case k5 => (intro _ _; walk_at "ev")))
  | (refine' el_mapS ?k1 ?k2 ?k3 (fun _ => rfl) ?k5; (case k1 => walk_at "ev"); (case k2 => walk_at "sd"); (case k3 => walk_at "sd"); (case k5 => (intro _ _; walk_at "ev"))))
local macro_rules | `(tactic| walk_at "ev") => `(tactic| first
  | (refine' ev_all ?k1; (case k1 => walk_at "el"))
  | (refine' ev_any ?k1; (case k1 => walk_at "el"))
  | (refine' ev_sumN ?k1; (case k1 => walk_at "el"))
  | (refine' ev_join ?k1 ?k2 ?k3; (case k1 => exact ev_is ev_cS (congrArg tx codes_nil)); (case k2 => walk_at "el"); (case k3 => walk_at "sd")))

section
variable {P : Program} {w : World} {K : PySem.W.Frag} {mg : Str → Option Value} {base : Heap} {H : Hp} {aBC aBT aNR aBN aBP aBL : Addr}
/-! ### of_lengths, refusing -/
def spOfLengths7 (K : PySem.W.Frag) (aBL : Addr) : Sp := fun vs H Q E => ∃ x y b1 b2, vs = [x, y] ∧ NumB K H 1 26 x b1 ∧ NumsB K H 1 100 y b2 ∧ (b1 && b2) = false ∧ Out H E aBL
theorem ok7_of_lengths (D : DefAt K mg "of_lengths" s_of_lengths ["letters", "lengths"]) (T : Blt mg) (TLong : ∃ u, mg "LONGEST" = some u ∧ RelV (.int 100) u) (X_BadLengths : ExcAt K mg "BadLengths" aBL) (C_is_number : Cal P w K mg base 1 "is_number" (spIsNumberX K)) :
    Cal P w K mg base 3 "of_lengths" (spOfLengths7 K aBL) := by
  refine calX_of D sc_of_lengths (fun vs H Q E h => ?_) (fun f cdv A outer s H vs Q E hr h => ?_)
  · obtain ⟨x, y, b1, b2, rfl, _⟩ := h; rfl
  · obtain ⟨x, y, b1, b2, rfl, h1, h2, h3, ho⟩ := h
    refine ⟨_, (pss_cons (ps_if (PW.pt (pw_or (pt_not (pt_val (pe_c C_is_number hr (by decide) (by rfl) (pa_cons (pv 0) (pa_cons pe_int (pa_cons (pe_callB call_len_str (by rfl) T.len (by decide +kernel) (pa_cons (pe_gv (by rfl) T.LETTERS) pa_nil)) pa_nil)))))) (pw_or1 (pt_not (pt_val (pe_callB (call_isiK' (K := K) rfl) (by rfl) T.isinstance (by decide +kernel) (pa_cons (pv 1) (pa_cons (pe_bltn (v := .ty "list") (by rfl) T.list (by decide +kernel) rfl) pa_nil)))))))) (pss_one (L2N.ps_raise rfl (L2N.takes_of rfl rfl rfl rfl) (pmk_c rfl rfl X_BadLengths (by rfl)))) pss_nil)
      (pss_cons (ps_if (pt_not (pt_val (pe_callB (cr_allK (K := K) rfl rfl) (by rfl) T.all (by decide +kernel) (pa_cons (pe_lc (own := [("length", 2)]) rfl sc_of_lengths.nd (pi_listK (K := K) rfl (pv 1)) (blkOk_by (own := [("length", 2)]) (N := N_of_lengths) (sc := defScope s_of_lengths) (by decide +kernel)) (fun _ _ _ _ _ => (pg_name (i := 2) sc_of_lengths.nd rfl (.inl rfl))) (fun _ _ _ _ _ => pts_nil) (fun _ _ _ _ _ => (pe_c C_is_number hr (by decide) (by rfl) (pa_cons (pv 2) (pa_cons pe_int (pa_cons (pe_gv (by rfl) TLong) pa_nil)))))) pa_nil)))) (pss_one (L2N.ps_raise rfl (L2N.takes_of rfl rfl rfl rfl) (pmk_c rfl rfl X_BadLengths (by rfl)))) pss_nil)
      (pss_cons ps_never (pss_cons ps_never (pss_cons ps_never (pss_cons ps_never (pss_cons ps_never (pss_one ps_never)))))))), ?_⟩
    have g1 : EvT (tNot (tB (tCall (spIsNumberX K) [] E0 (tCons (tVar 0) (tCons (tC (.int 1)) (tCons (tCB (fun xs H Q => ∃ x : Str, xs = [.str x] ∧ x.length ≤ sizeLine ∧ Q (.int x.length) H) (tCons (tC (.str "abcdefghijklmnopqrstuvwxyz")) tNil)) tNil)))))) (start N_of_lengths [x, y]) H (!b1) :=
      et_not (et_B (ev_call (vs := [x, .int 1, .int 26]) (ea_cons (ev_var rfl) (ea_cons ev_c (ea_cons (ev_is (ev_lenS (a := abc) ev_cS (by decide +kernel)) (congrArg V.int (by decide +kernel))) ea_nil))) (sv_is_numberX h1)))
    rcases h2 with ⟨h2, rfl⟩ | ⟨p, vbs, rfl, hs, hl, hi, rfl⟩
    · exact q_when (b := !b1 || !false) (et_or g1 fun _ => et_not (et_B (ev_notIs h2 (ev_var rfl) ev_c))) (fun _ H1 e1 => ho H1 e1) (fun z => by cases b1 <;> cases z)
    · refine q_when (b := !b1 || !true) (et_or g1 fun _ => et_not (et_B (ev_isi (K := K) (ev_var rfl) ev_c (ty_list hs) (kit_ty (r := true) (by decide +kernel))))) (fun _ H1 e1 => ho H1 e1) (fun z H1 e1 => ?_)
      have hb1 : b1 = true := by cases b1 <;> simp_all
      subst hb1
      refine q_when (et_not (et_B (ev_allNums (lo := 1) (hi := 100) (ev_var rfl) (ex_l e1 hs) hl (fun q hq => (hi q hq).up e1) (fun _ => rfl) (fun _ => ev_var rfl) (fun _ => ev_c) (fun _ => ev_c)))) (fun _ H2 e2 => ho H2 (e1.trans e2)) (fun z => ?_)
      rw [Bool.true_and] at h3
      rw [h3] at z
      cases z
/-! ### what is no code, no text, no count, no reading -/
theorem nt_of {T T0 : String} {v : V} (h : ∀ H', Ex H H' → TyOf K H' v (.type T0)) (e : kitB T0 T = some false) : NotT K H T v := ⟨.type T0, fun H' e' => .base (h H' e'), kit_ty e⟩
theorem nt_non {T : String} (e : kitB "NoneType" T = some false) : NotT K H T .non := nt_of (fun _ _ => .non) e
theorem nt_int {T : String} {n : Int} (e : kitB "int" T = some false) : NotT K H T (.int n) := nt_of (fun _ _ => .int n) e
theorem nt_str {T : String} {s : Str} (e : kitB "str" T = some false) : NotT K H T (.str s) := nt_of (fun _ _ => .str s) e
theorem nt_tup {T : String} {p : Addr} {xs : List V} (h : H p = some (.tup xs)) (e : kitB "tuple" T = some false) : NotT K H T (.ref p) := nt_of (fun H' e' => .tup (e' p _ h)) e
theorem nt_lst {T : String} {p : Addr} {xs : List V} (h : H p = some (.lst xs)) (e : kitB "list" T = some false) : NotT K H T (.ref p) := nt_of (fun H' e' => .lst (e' p _ h)) e
theorem allB_lst {I : Hp → V → Bool → Prop} {p : Addr} {vbs : List (V × Bool)} (h : H p = some (.lst (vbs.map (·.1)))) (hl : vbs.length ≤ 1000) (hi : ∀ q ∈ vbs, I H q.1 q.2) (x : V) (hx : (x, false) ∈ vbs) : AllB K H I (.ref p) false :=
  .inr ⟨p, vbs, rfl, sq_of h, hl, hi, (List.all_eq_false.mpr ⟨false, List.mem_map.mpr ⟨_, hx, rfl⟩, by decide⟩).symm⟩
theorem it_word {s : Str} (b : Bool) (h1 : (codes s).length ≤ 10000) (h2 : b = (decide (okW (codes s)) && !decide (codes s = []))) : ItemB K H (.str s) b := .inl ⟨codes s, by unfold tx; rw [S_codes], h1, h2⟩
def BC (K : PySem.W.Frag) : Hp → V → Prop := fun H v => CodeB K H v false
theorem up_BC : Up (BC K) := fun _ _ _ e h => CodeB.up e h
theorem up_F {F : V → Prop} : Up (fun (_ : Hp) v => F v) := fun _ _ _ _ h => h
def NS (K : PySem.W.Frag) : Hp → V → Prop := fun H v => NotT K H "str" v
theorem up_NS : Up (NS K) := fun _ _ _ e h => h.up e
theorem el_catLL {σ : L2.St} {ta tb : TE} {xs ys : List V} (ha : EvL ta σ H xs) (hb : EvL tb σ H ys) (hz : xs.length + ys.length ≤ 100000) : EvL (tOp rCat ta tb) σ H (xs ++ ys) := fun H1 e Q q =>
  ha H1 e _ fun p H2 np e2 hp => hb H2 (e.trans e2) _ fun p2 H3 np2 e3 hp2 => ⟨p, p2, xs, ys, rfl, rfl, e3 p _ hp, hp2, sz_of hz, fun r hr => q r _ (fresh_back (e2.trans e3) hr) ((e2.trans e3).trans (Ex.new hr)) upd_same⟩
def spCodeAsked (aBC : Addr) : Sp := fun vs H Q E => ∃ n m : Int, vs = [.int n, .int m] ∧ 0 ≤ n ∧ 0 ≤ m ∧ Out H E aBC
theorem ok__law_code_asked (D : DefAt K mg "_law_code_asked" s__law_code_asked ["_law_which", "_law_more"]) (T : Blt mg) (C_once : Cal P w K mg base 3 "once" (spBad1 K aBC)) (C_begins : Cal P w K mg base 3 "begins" (spBad1 K aBC)) (C_text_of : Cal P w K mg base 3 "text_of" (spTextOf7 K aBC aBP))
    (C_read : Cal P w K mg base 3 "read" (spRead7 K aBC aBT)) (C_how_many : Cal P w K mg base 3 "how_many" (spHowMany7 K aBC aBT)) (C_told : Cal P w K mg base 3 "told" (spTold7 K aBC aBT aNR aBN)) (C_number_of : Cal P w K mg base 3 "number_of" (spNumberOf7 K aBC aBT aNR aBP)) :
    Cal P w K mg base 4 "_law_code_asked" (spCodeAsked aBC) := by
  obtain ⟨f1, fd1, ps1, F1, m_once, kp1, b1⟩ := C_once.ex
  obtain ⟨f2, fd2, ps2, F2, m_begins, kp2, b2⟩ := C_begins.ex
  obtain ⟨f3, fd3, ps3, F3, m_text_of, kp3, b3⟩ := C_text_of.ex
  obtain ⟨f4, fd4, ps4, F4, m_read, kp4, b4⟩ := C_read.ex
  obtain ⟨f5, fd5, ps5, F5, m_how_many, kp5, b5⟩ := C_how_many.ex
  obtain ⟨f6, fd6, ps6, F6, m_told, kp6, b6⟩ := C_told.ex
  obtain ⟨f7, fd7, ps7, F7, m_number_of, kp7, b7⟩ := C_number_of.ex
  refine calX_of D sc__law_code_asked (fun vs H Q E h => ?_) (fun f cdv A outer s H vs Q E hr h => ?_)
  · obtain ⟨n, m, rfl, _⟩ := h; rfl
  · obtain ⟨n, m, rfl, hn, hm, ho⟩ := h
    refine ⟨_, (pss_cons (ps_set (i := 2) sc__law_code_asked.nd rfl (.inl rfl) (pe_lst (pa_cons pe_non (pa_cons (pe_tup (pa_cons pe_str pa_nil)) (pa_cons pe_str (pa_cons pe_int (pa_cons (pe_lst (pa_cons pe_str pa_nil)) (pa_cons (pe_lst (pa_cons pe_str (pa_cons pe_str pa_nil))) (pa_cons (pe_lst (pa_cons pe_str (pa_cons pe_non pa_nil))) (pa_cons (pe_lst (pa_cons (pe_lst (pa_cons pe_str pa_nil)) pa_nil)) (pa_cons (pe_op op_cat (pe_op op_rep (pe_lst (pa_cons pe_str pa_nil)) (pe_op op_mod (pv 1) pe_int)) (pe_lst (pa_cons pe_str (pa_cons pe_str pa_nil)))) pa_nil)))))))))))
      (pss_cons (ps_set (i := 2) sc__law_code_asked.nd rfl (.inl rfl) (pe_ix (ix_listK (K := K) rfl) (pe_op op_cat (pv 2) (pe_lst (pa_cons (pe_lst (pa_cons pe_str (pa_cons pe_str pa_nil))) pa_nil))) (pe_op op_mod (pv 0) pe_int) (fun _ _ => rfl)))
      (pss_cons (ps_set (i := 3) sc__law_code_asked.nd rfl (.inl rfl) (pe_op op_mod (pe_op op_fdiv (pv 0) pe_int) pe_int))
      (pss_cons (ps_if (pt_cmpR op_lt (pv 3) pe_int (nomark _)) (pss_one (ps_ret (pe_callE (L2N.takes_of rfl rfl rfl rfl) hr (pe_ix (ix_listK (K := K) rfl) (pe_lst (pa_cons (pe_exc (mg := mg) rfl m_once (by rfl)) (pa_cons (pe_exc (mg := mg) rfl m_begins (by rfl)) pa_nil))) (pv 3) (fun _ _ => rfl)) (pa_cons (pv 2) pa_nil)))) pss_nil)
      (pss_cons (ps_if (pt_cmpR op_lt (pv 3) pe_int (nomark _)) (pss_one (ps_ret (pe_callE (L2N.takes_of rfl rfl rfl rfl) hr (pe_ix (ix_listK (K := K) rfl) (pe_lst (pa_cons (pe_exc (mg := mg) rfl m_text_of (by rfl)) (pa_cons (pe_exc (mg := mg) rfl m_read (by rfl)) (pa_cons (pe_exc (mg := mg) rfl m_how_many (by rfl)) pa_nil)))) (pe_op op_sub (pv 3) pe_int) (fun _ _ => rfl)) (pa_cons (pv 2) (pa_cons pe_non pa_nil))))) pss_nil)
      (pss_one (ps_ret (pe_callE (L2N.takes_of rfl rfl rfl rfl) hr (pe_ix (ix_listK (K := K) rfl) (pe_lst (pa_cons (pe_exc (mg := mg) rfl m_told (by rfl)) (pa_cons (pe_exc (mg := mg) rfl m_number_of (by rfl)) pa_nil))) (pe_op op_sub (pv 3) pe_int) (fun _ _ => rfl)) (pa_cons (pv 2) (pa_cons pe_non (pa_cons pe_non pa_nil))))))))))), ?_⟩
    have hm5 := Int.emod_nonneg m (show (5 : Int) ≠ 0 by decide)
    have hm5' := Int.emod_lt_of_pos m (show (0 : Int) < 5 by decide)
    refine q_asgP (B := LB 9 (BC K)) (ep_lst (n := 9) up_BC (ab_cons up_BC (ep_ev ev_c fun H1 _ => .inl ⟨nt_non (by decide +kernel), rfl⟩) (ab_cons up_BC (ep_eu (eu_tup (ea_cons ev_c ea_nil) (by simp)) fun p H1 _ hp => .inl ⟨nt_tup hp (by decide +kernel), rfl⟩)
      (ab_cons up_BC (ep_ev ev_c fun H1 _ => .inl ⟨nt_str (by decide +kernel), rfl⟩) (ab_cons up_BC (ep_ev ev_c fun H1 _ => .inl ⟨nt_int (by decide +kernel), rfl⟩) (ab_cons up_BC (ep_el (el_lst (ea_cons ev_c ea_nil) (by simp)) fun p H1 _ hp => allB_lst (vbs := [(.str "", false)]) hp (by simp) (fun q hq => ?_) _ (List.mem_cons_self ..))
      (ab_cons up_BC (ep_el (el_lst (ea_cons ev_c (ea_cons ev_c ea_nil)) (by simp)) fun p H1 _ hp => allB_lst (vbs := [(.str "a", true), (.str "B", false)]) hp (by simp) (fun q hq => ?_) (.str "B") (by simp))
      (ab_cons up_BC (ep_el (el_lst (ea_cons ev_c (ea_cons ev_c ea_nil)) (by simp)) fun p H1 _ hp => allB_lst (vbs := [(.str "a", true), (.non, false)]) hp (by simp) (fun q hq => ?_) .non (by simp))
      (ab_cons up_BC (ep_weak (ep_lst (C := NS K) (n := 1) up_NS (ab_cons up_NS (ep_el (el_lst (ea_cons ev_c ea_nil) (by simp)) fun p H1 _ hp => nt_lst hp (by decide +kernel)) ab_nil) (by decide)) fun H1 v _ hv => ?_)
      (ab_cons up_BC (ep_el (el_catLL (el_rep (k := m % 5) (el_lst (ea_cons ev_c ea_nil) (by simp)) (ev_op (ev_var rfl) ev_c (rv_mod (by decide))) (by omega) (by omega) (by simp)) (el_lst (ea_cons ev_c (ea_cons ev_c ea_nil)) (by simp)) (by simp; omega)) fun p H1 _ hp => ?_) ab_nil))))))))) (by decide)) fun v1 H1 e1 hv1 => ?_
    · rw [List.mem_singleton.mp hq]; exact it_word false (by decide +kernel) (by decide +kernel)
    · rcases List.mem_cons.mp hq with rfl | hq
      · exact it_word true (by decide +kernel) (by decide +kernel)
      · rw [List.mem_singleton.mp hq]; exact it_word false (by decide +kernel) (by decide +kernel)
    · rcases List.mem_cons.mp hq with rfl | hq
      · exact it_word true (by decide +kernel) (by decide +kernel)
      · rw [List.mem_singleton.mp hq]; exact .inr ⟨nt_non (by decide +kernel), rfl⟩
    · obtain ⟨p, vs, rfl, hp, hl, hc⟩ := hv
      match vs, hl with
      | [u], _ => exact allB_lst (vbs := [(u, false)]) hp (by simp) (fun q hq => by rw [List.mem_singleton.mp hq]; exact .inr ⟨hc u (by simp), rfl⟩) u (by simp)
    · refine allB_lst (vbs := (List.replicate (m % 5).toNat [((.str "ab" : V), true)]).flatten ++ [(.str "a b", false), (.str "a", true)]) (by rw [hp]; simp) (by simp; omega) (fun q hq => ?_) (.str "a b") (by simp)
      simp only [List.mem_append, List.mem_flatten, List.mem_replicate, List.mem_cons, List.not_mem_nil, or_false] at hq
      rcases hq with ⟨l, ⟨_, rfl⟩, hq⟩ | rfl | rfl
      · rw [List.mem_singleton.mp hq]; exact it_word true (by decide +kernel) (by decide +kernel)
      · exact it_word false (by decide +kernel) (by decide +kernel)
      · exact it_word true (by decide +kernel) (by decide +kernel)
    refine q_asgP (B := BC K) (ep_pick (n := 9 + 1) up_BC (ep_cat up_BC (ep_ev (ev_var rfl) fun H2 e2 => up_LB up_BC _ _ _ e2 hv1) (ep_lst (n := 1) up_BC (ab_cons up_BC (ep_el (el_lst (ea_cons ev_c (ea_cons ev_c ea_nil)) (by simp)) fun p H1 _ hp => allB_lst (vbs := [(.str "a", true), (.str "b~", false)]) hp (by simp) (fun q hq => ?_) (.str "b~") (by simp)) ab_nil) (by decide)) (by decide))
      (ev_op (ev_var rfl) ev_c (rv_mod (by decide))) (Int.emod_nonneg n (by decide)) (by have := Int.emod_lt_of_pos n (show (0 : Int) < 10 by decide); omega)) fun v2 H2 e2 hv2 => ?_
    · rcases List.mem_cons.mp hq with rfl | hq
      · exact it_word true (by decide +kernel) (by decide +kernel)
      · rw [List.mem_singleton.mp hq]; exact it_word false (by decide +kernel) (by decide +kernel)
    have hd0 := Int.emod_nonneg (n / 10) (show (7 : Int) ≠ 0 by decide)
    have hd1 := Int.emod_lt_of_pos (n / 10) (show (0 : Int) < 7 by decide)
    refine q_asg (v := .int (n / 10 % 7)) (ev_op (ev_op (ev_var rfl) ev_c (rv_fdiv ⟨by decide, by decide⟩)) ev_c (rv_mod (by decide))) fun H3 e3 => ?_
    generalize n / 10 % 7 = d at *
    have ex3 := (e1.trans e2).trans e3
    refine q_when (et_test (ev_op (ev_var rfl) ev_c rv_lt)) (fun hd H4 e4 => ?_) (fun hd H4 e4 => ?_)
    · have hd := of_decide_eq_true hd
      refine s_retE (F := fun v => ∃ f sp, v = .ref f ∧ HeldE P w K mg base 3 f sp ∧ ∀ H1 u, BC K H1 u → Out H1 E aBC → sp [u] H1 Q E) (ep_pick (n := 2) up_F (ep_lst (n := 2) up_F (ab_cons up_F (ep_ev ev_c fun _ _ => ⟨f1, _, rfl, ⟨3, fd1, ps1, Nat.le_refl _, F1, kp1, b1⟩, fun H1 u hu ho => ⟨u, rfl, hu, ho⟩⟩)
        (ab_cons up_F (ep_ev ev_c fun _ _ => ⟨f2, _, rfl, ⟨3, fd2, ps2, Nat.le_refl _, F2, kp2, b2⟩, fun H1 u hu ho => ⟨u, rfl, hu, ho⟩⟩) ab_nil)) (by decide)) (ev_var rfl) hd0 (by omega)) (eaq_cons up_BC (ep_ev (ev_var rfl) fun H5 e5 => up_BC _ _ _ ((e3.trans e4).trans e5) hv2) eaq_nil) fun v hv => ?_
      obtain ⟨f, sp, rfl, hh, hsp⟩ := hv
      refine ⟨f, sp, rfl, hh, fun H5 vs e5 hvs => ?_⟩
      obtain ⟨u, r, rfl, hu, rfl⟩ := hvs
      exact hsp H5 u hu (ho.up ((ex3.trans e4).trans e5))
    · have hd := of_decide_eq_false hd
      refine q_when (et_test (ev_op (ev_var rfl) ev_c rv_lt)) (fun hd2 H5 e5 => ?_) (fun hd2 H5 e5 => ?_)
      · have hd2 := of_decide_eq_true hd2
        refine s_retE (F := fun v => ∃ f sp, v = .ref f ∧ HeldE P w K mg base 3 f sp ∧ ∀ H1 u, BC K H1 u → Out H1 E aBC → sp [u, .non] H1 Q E) (ep_pick (n := 3) up_F (ep_lst (n := 3) up_F (ab_cons up_F (ep_ev ev_c fun _ _ => ⟨f3, _, rfl, ⟨3, fd3, ps3, Nat.le_refl _, F3, kp3, b3⟩, fun H1 u hu ho => ⟨u, .non, rfl, .inl ⟨hu, ho⟩⟩⟩)
          (ab_cons up_F (ep_ev ev_c fun _ _ => ⟨f4, _, rfl, ⟨3, fd4, ps4, Nat.le_refl _, F4, kp4, b4⟩, fun H1 u hu ho => ⟨u, .non, rfl, .inl ⟨hu, ho⟩⟩⟩) (ab_cons up_F (ep_ev ev_c fun _ _ => ⟨f5, _, rfl, ⟨3, fd5, ps5, Nat.le_refl _, F5, kp5, b5⟩, fun H1 u hu ho => ⟨u, .non, rfl, .inl ⟨hu, ho⟩⟩⟩) ab_nil))) (by decide))
          (ev_op (ev_var rfl) ev_c rv_sub) (by omega) (by omega)) (eaq_cons up_BC (ep_ev (ev_var rfl) fun H6 e6 => up_BC _ _ _ (((e3.trans e4).trans e5).trans e6) hv2) (eaq_cons (B := fun _ v => v = .non) up_F (ep_ev ev_c fun _ _ => rfl) eaq_nil)) fun v hv => ?_
        obtain ⟨f, sp, rfl, hh, hsp⟩ := hv
        refine ⟨f, sp, rfl, hh, fun H6 vs e6 hvs => ?_⟩
        obtain ⟨u, r, rfl, hu, u2, r2, rfl, rfl, rfl⟩ := hvs
        exact hsp H6 u hu (ho.up (((ex3.trans e4).trans e5).trans e6))
      · have hd2 := of_decide_eq_false hd2
        refine s_retE (F := fun v => ∃ f sp, v = .ref f ∧ HeldE P w K mg base 3 f sp ∧ ∀ H1 u, BC K H1 u → Out H1 E aBC → sp [u, .non, .non] H1 Q E) (ep_pick (n := 2) up_F (ep_lst (n := 2) up_F (ab_cons up_F (ep_ev ev_c fun _ _ => ⟨f6, _, rfl, ⟨3, fd6, ps6, Nat.le_refl _, F6, kp6, b6⟩, fun H1 u hu ho => ⟨u, .non, .non, rfl, .inl ⟨hu, ho⟩⟩⟩)
          (ab_cons up_F (ep_ev ev_c fun _ _ => ⟨f7, _, rfl, ⟨3, fd7, ps7, Nat.le_refl _, F7, kp7, b7⟩, fun H1 u hu ho => ⟨u, .non, .non, rfl, .inl ⟨hu, ho⟩⟩⟩) ab_nil)) (by decide))
          (ev_op (ev_var rfl) ev_c rv_sub) (by omega) (by omega)) (eaq_cons up_BC (ep_ev (ev_var rfl) fun H6 e6 => up_BC _ _ _ (((e3.trans e4).trans e5).trans e6) hv2) (eaq_cons (B := fun _ v => v = .non) up_F (ep_ev ev_c fun _ _ => rfl) (eaq_cons (B := fun _ v => v = .non) up_F (ep_ev ev_c fun _ _ => rfl) eaq_nil))) fun v hv => ?_
        obtain ⟨f, sp, rfl, hh, hsp⟩ := hv
        refine ⟨f, sp, rfl, hh, fun H6 vs e6 hvs => ?_⟩
        obtain ⟨u, r, rfl, hu, u2, r2, rfl, rfl, u3, r3, rfl, rfl, rfl⟩ := hvs
        exact hsp H6 u hu (ho.up (((ex3.trans e4).trans e5).trans e6))
/-! ### no text -/
def BT (K : PySem.W.Frag) : Hp → V → Prop := fun H v => TextB K H v false
theorem up_BT : Up (BT K) := fun _ _ _ e h => TextB.up e h
theorem tb_word {s : Str} (h1 : (codes s).length ≤ 10000) (h2 : okW (codes s) → False) : BT K H (.str s) := .inl ⟨codes s, by unfold tx; rw [S_codes], h1, (decide_eq_false h2).symm⟩
def CA (K : PySem.W.Frag) (ws : List Wd) : Hp → V → Prop := fun H v => ∃ p, v = .ref p ∧ CodeAt K H p ws
theorem up_CA {ws : List Wd} : Up (CA K ws) := fun _ _ _ e ⟨p, h1, h2⟩ => ⟨p, h1, h2.ex e⟩
theorem codeAt1 {p : Addr} {s : Str} (h : H p = some (.lst [.str s])) (h1 : (codes s).length ≤ 1000 ∧ okW (codes s) ∧ codes s ≠ []) : CodeAt K H p [codes s] := ⟨sq_of (by rw [h]; simp [tx, S_codes]), fun a ha => by rw [List.mem_singleton.mp ha]; exact ⟨h1.2.2, h1.2.1, h1.1⟩, by simp⟩
theorem codeAt2 {p : Addr} {s t : Str} (h : H p = some (.lst [.str s, .str t])) (h1 : (codes s).length ≤ 1000 ∧ okW (codes s) ∧ codes s ≠ []) (h2 : (codes t).length ≤ 1000 ∧ okW (codes t) ∧ codes t ≠ []) : CodeAt K H p [codes s, codes t] := ⟨sq_of (by rw [h]; simp [tx, S_codes]), fun a ha => by
  rcases List.mem_cons.mp ha with rfl | ha
  · exact ⟨h1.2.2, h1.2.1, h1.1⟩
  · rw [List.mem_singleton.mp ha]; exact ⟨h2.2.2, h2.2.1, h2.1⟩, by simp⟩
theorem repW_mem {a : Wd} {n : Int} {c : Nat} (h : c ∈ repW a n) : c ∈ a := by
  unfold repW at h
  simp only [List.mem_flatten, List.mem_replicate] at h
  obtain ⟨l, ⟨_, rfl⟩, h⟩ := h
  exact h
theorem repW_len (a : Wd) (n : Int) : (repW a n).length = n.toNat * a.length := by
  unfold repW
  rw [List.length_flatten, List.map_replicate, List.sum_replicate_nat]
def spTextAsked (aBT : Addr) : Sp := fun vs H Q E => ∃ n m : Int, vs = [.int n, .int m] ∧ 0 ≤ n ∧ 0 ≤ m ∧ Out H E aBT
theorem ok__law_text_asked (D : DefAt K mg "_law_text_asked" s__law_text_asked ["_law_which", "_law_more"]) (T : Blt mg)
    (C_read : Cal P w K mg base 3 "read" (spRead7 K aBC aBT)) (C_how_many : Cal P w K mg base 3 "how_many" (spHowMany7 K aBC aBT)) (C_told : Cal P w K mg base 3 "told" (spTold7 K aBC aBT aNR aBN)) (C_number_of : Cal P w K mg base 3 "number_of" (spNumberOf7 K aBC aBT aNR aBP)) :
    Cal P w K mg base 4 "_law_text_asked" (spTextAsked aBT) := by
  obtain ⟨f4, fd4, ps4, F4, m_read, kp4, b4⟩ := C_read.ex
  obtain ⟨f5, fd5, ps5, F5, m_how_many, kp5, b5⟩ := C_how_many.ex
  obtain ⟨f6, fd6, ps6, F6, m_told, kp6, b6⟩ := C_told.ex
  obtain ⟨f7, fd7, ps7, F7, m_number_of, kp7, b7⟩ := C_number_of.ex
  refine calX_of D sc__law_text_asked (fun vs H Q E h => ?_) (fun f cdv A outer s H vs Q E hr h => ?_)
  · obtain ⟨n, m, rfl, _⟩ := h; rfl
  · obtain ⟨n, m, rfl, hn, hm, ho⟩ := h
    refine ⟨_, (pss_cons (ps_set (i := 2) sc__law_text_asked.nd rfl (.inl rfl) (pe_ix (ix_listK (K := K) rfl) (pe_lst (pa_cons pe_non (pa_cons pe_int (pa_cons (pe_lst (pa_cons pe_str pa_nil)) (pa_cons pe_str (pa_cons pe_str (pa_cons (pe_op op_add_str (pe_op op_rep_str pe_str (pe_op op_mod (pv 1) pe_int)) pe_str) (pa_cons pe_str pa_nil)))))))) (pe_op op_mod (pv 0) pe_int) (fun _ _ => rfl)))
      (pss_cons (ps_set (i := 3) sc__law_text_asked.nd rfl (.inl rfl) (pe_op op_mod (pe_op op_fdiv (pv 0) pe_int) pe_int))
      (pss_cons (ps_if (pt_cmpR op_lt (pv 3) pe_int (nomark _)) (pss_one (ps_ret (pe_callE (L2N.takes_of rfl rfl rfl rfl) hr (pe_ix (ix_listK (K := K) rfl) (pe_lst (pa_cons (pe_exc (mg := mg) rfl m_read (by rfl)) (pa_cons (pe_exc (mg := mg) rfl m_how_many (by rfl)) pa_nil))) (pv 3) (fun _ _ => rfl)) (pa_cons (pe_lst (pa_cons pe_str pa_nil)) (pa_cons (pv 2) pa_nil))))) pss_nil)
      (pss_one (ps_ret (pe_callE (L2N.takes_of rfl rfl rfl rfl) hr (pe_ix (ix_listK (K := K) rfl) (pe_lst (pa_cons (pe_exc (mg := mg) rfl m_told (by rfl)) (pa_cons (pe_exc (mg := mg) rfl m_number_of (by rfl)) pa_nil))) (pe_op op_sub (pv 3) pe_int) (fun _ _ => rfl)) (pa_cons (pe_lst (pa_cons pe_str pa_nil)) (pa_cons (pv 2) (pa_cons pe_non pa_nil))))))))), ?_⟩
    have hm5 := Int.emod_nonneg m (show (5 : Int) ≠ 0 by decide)
    have hm5' := Int.emod_lt_of_pos m (show (0 : Int) < 5 by decide)
    have hca : ∀ (σ : L2.St) (H' : Hp), EvP (tLst (tCons (tC (.str "a")) tNil)) σ H' (CA K [codes "a"]) := fun σ H' => ep_el (el_lst (ea_cons ev_c ea_nil) (by simp)) fun p H1 _ hp => ⟨p, rfl, codeAt1 hp (by decide +kernel)⟩
    refine q_asgP (B := BT K) (ep_pick (n := 7) (i := n % 7) up_BT (ep_lst (n := 7) up_BT (ab_cons up_BT (ep_ev ev_c fun H1 _ => .inr ⟨nt_non (by decide +kernel), rfl⟩) (ab_cons up_BT (ep_ev ev_c fun H1 _ => .inr ⟨nt_int (by decide +kernel), rfl⟩) (ab_cons up_BT (ep_el (el_lst (ea_cons ev_c ea_nil) (by simp)) fun p H1 _ hp => .inr ⟨nt_lst hp (by decide +kernel), rfl⟩)
      (ab_cons up_BT (ep_ev ev_c fun H1 _ => tb_word (by decide +kernel) (by decide +kernel)) (ab_cons up_BT (ep_ev ev_c fun H1 _ => tb_word (by decide +kernel) (by decide +kernel)) (ab_cons up_BT (ep_ev (ev_op (ev_op ev_cS (ev_op (ev_var rfl) ev_c (rv_mod (by decide))) (rv_repS (a := codes "a") (n := m % 5) ⟨⟨by omega, by omega⟩, by decide +kernel⟩)) ev_cS (rv_addS (b := codes "\n") (by
          rw [repW_len]; have e : (codes "a").length = 1 := by decide +kernel
          have e2 : (codes "\n").length = 1 := by decide +kernel
          rw [e, e2]; omega))) fun H1 _ => .inl ⟨_, rfl, ?_, ?_⟩) (ab_cons up_BT (ep_ev ev_c fun H1 _ => tb_word (by decide +kernel) (by decide +kernel)) ab_nil))))))) (by decide))
      (ev_op (ev_var rfl) ev_c (rv_mod (by decide))) (Int.emod_nonneg n (by decide)) (by have := Int.emod_lt_of_pos n (show (0 : Int) < 7 by decide); omega)) fun v2 H2 e2 hv2 => ?_
    · rw [List.length_append, repW_len]
      have e : (codes "a").length = 1 := by decide +kernel
      have e2 : (codes "\n").length = 1 := by decide +kernel
      rw [e, e2]; omega
    · refine (decide_eq_false fun z => ?_).symm
      have := z 10 (List.mem_append_right _ (by decide +kernel))
      omega
    have hd0 := Int.emod_nonneg (n / 7) (show (4 : Int) ≠ 0 by decide)
    have hd1 := Int.emod_lt_of_pos (n / 7) (show (0 : Int) < 4 by decide)
    refine q_asg (v := .int (n / 7 % 4)) (ev_op (ev_op (ev_var rfl) ev_c (rv_fdiv ⟨by decide, by decide⟩)) ev_c (rv_mod (by decide))) fun H3 e3 => ?_
    generalize n / 7 % 4 = d at *
    have ex3 := e2.trans e3
    refine q_when (et_test (ev_op (ev_var rfl) ev_c rv_lt)) (fun hd H4 e4 => ?_) (fun hd H4 e4 => ?_)
    · have hd := of_decide_eq_true hd
      refine s_retE (F := fun v => ∃ f sp, v = .ref f ∧ HeldE P w K mg base 3 f sp ∧ ∀ H1 c u, CA K [codes "a"] H1 c → BT K H1 u → Out H1 E aBT → sp [c, u] H1 Q E) (ep_pick (n := 2) up_F (ep_lst (n := 2) up_F (ab_cons up_F (ep_ev ev_c fun _ _ => ⟨f4, _, rfl, ⟨3, fd4, ps4, Nat.le_refl _, F4, kp4, b4⟩, fun H1 c u ⟨p, hc, hca⟩ hu ho => ⟨c, u, rfl, .inr ⟨p, _, hc, hca, .inl ⟨hu, ho⟩⟩⟩⟩)
        (ab_cons up_F (ep_ev ev_c fun _ _ => ⟨f5, _, rfl, ⟨3, fd5, ps5, Nat.le_refl _, F5, kp5, b5⟩, fun H1 c u ⟨p, hc, hca⟩ hu ho => ⟨c, u, rfl, .inr ⟨p, _, hc, hca, .inl ⟨hu, ho⟩⟩⟩⟩) ab_nil)) (by decide)) (ev_var rfl) hd0 (by omega)) (eaq_cons up_CA (hca _ _) (eaq_cons up_BT (ep_ev (ev_var rfl) fun H5 e5 => up_BT _ _ _ ((e3.trans e4).trans e5) hv2) eaq_nil)) fun v hv => ?_
      obtain ⟨f, sp, rfl, hh, hsp⟩ := hv
      refine ⟨f, sp, rfl, hh, fun H5 vs e5 hvs => ?_⟩
      obtain ⟨c, r, rfl, hc, u, r2, rfl, hu, rfl⟩ := hvs
      exact hsp H5 c u hc hu (ho.up ((ex3.trans e4).trans e5))
    · have hd := of_decide_eq_false hd
      refine s_retE (F := fun v => ∃ f sp, v = .ref f ∧ HeldE P w K mg base 3 f sp ∧ ∀ H1 c u, CA K [codes "a"] H1 c → BT K H1 u → Out H1 E aBT → sp [c, u, .non] H1 Q E) (ep_pick (n := 2) up_F (ep_lst (n := 2) up_F (ab_cons up_F (ep_ev ev_c fun _ _ => ⟨f6, _, rfl, ⟨3, fd6, ps6, Nat.le_refl _, F6, kp6, b6⟩, fun H1 c u ⟨p, hc, hca⟩ hu ho => ⟨c, u, .non, rfl, .inr ⟨p, _, hc, hca, .inl ⟨hu, ho⟩⟩⟩⟩)
        (ab_cons up_F (ep_ev ev_c fun _ _ => ⟨f7, _, rfl, ⟨3, fd7, ps7, Nat.le_refl _, F7, kp7, b7⟩, fun H1 c u ⟨p, hc, hca⟩ hu ho => ⟨c, u, .non, rfl, .inr ⟨p, _, hc, hca, .inl ⟨hu, ho⟩⟩⟩⟩) ab_nil)) (by decide)) (ev_op (ev_var rfl) ev_c rv_sub) (by omega) (by omega)) (eaq_cons up_CA (hca _ _) (eaq_cons up_BT (ep_ev (ev_var rfl) fun H5 e5 => up_BT _ _ _ ((e3.trans e4).trans e5) hv2) (eaq_cons (B := fun _ v => v = .non) up_F (ep_ev ev_c fun _ _ => rfl) eaq_nil))) fun v hv => ?_
      obtain ⟨f, sp, rfl, hh, hsp⟩ := hv
      refine ⟨f, sp, rfl, hh, fun H5 vs e5 hvs => ?_⟩
      obtain ⟨c, r, rfl, hc, u, r2, rfl, hu, u3, r3, rfl, rfl, rfl⟩ := hvs
      exact hsp H5 c u hc hu (ho.up ((ex3.trans e4).trans e5))
end
end Tr

set_option Elab.async false
set_option linter.all false
set_option maxRecDepth 100000
set_option maxHeartbeats 4000000
namespace Tr
open PySem PySem.Spec PyProof.Rows L2 Evl
open M3 (wat joinW pre ways pick nthW bef num)
local macro_rules | `(tactic| walk_at "sd") => `(tactic| first | assumption | rfl | omega | decide | (solve_by_elim) | (refine Nat.le_trans (m := 1000) (by solve_by_elim) (by decide)))
local macro_rules | `(tactic| walk_at "rv") => `(tactic| first
  | exact rv_add | exact rv_sub | exact rv_lt | exact rv_le | exact rv_gt | exact rv_ge | exact rv_eqI | exact rv_eqS | exact rv_eqB | exact rv_neI | exact rv_neS | exact rv_neB
  | exact rv_mod (by walk_at "sd") | exact rv_fdiv (by first | assumption | exact ⟨by omega, by omega⟩) | exact rv_addS (by walk_at "sd") | exact rv_isB | exact rv_notB | assumption)
local macro_rules | `(tactic| walk_at "ea") => `(tactic| first
  | exact ea_nil
  | (refine' ea_cons ?k1 ?k2; (case k1 => walk_at "ev"); (case k2 => walk_at "ea")))
local macro_rules | `(tactic| walk_at "eo") => `(tactic| first
  | exact eo_none
  | (refine' eo_some ?k1; (case k1 => walk_at "ev")))
local macro_rules | `(tactic| walk_at "et") => `(tactic| first
  | (refine' et_test ?k1; (case k1 => walk_at "ev"))
  | (refine' et_B ?k1; (case k1 => walk_at "ev"))
  | (refine' et_and ?k1 ?k2; (case k1 => walk_at "et"); (case k2 => (intro _; walk_at "et")))
  | (refine' et_or ?k1 ?k2; (case k1 => walk_at "et"); (case k2 => (intro _; walk_at "et")))
  | (refine' et_not ?k1; (case k1 => walk_at "et"))
  | assumption)
local macro_rules | `(tactic| walk_at "ev") => `(tactic| first
  | assumption
  | exact ev_cS
  | exact ev_c
  | exact ev_var rfl
  | (refine' ev_op ?k1 ?k2 ?k3; (case k1 => walk_at "ev"); (case k2 => walk_at "ev"); (case k3 => walk_at "rv"))
  | (refine' ev_un ?k1 ru_neg; (case k1 => walk_at "ev"))
  | (refine' ev_chain ?k1 ?k2 ?k3 ?k4 ?k5; (case k1 => walk_at "ev"); (case k2 => walk_at "ev"); (case k3 => walk_at "ev"); (case k4 => walk_at "rv"); (case k5 => (intro _; walk_at "rv")))
  | (refine' ev_slS ?k1 ?k2 ?k3 ?k4; (case k1 => walk_at "ev"); (case k2 => walk_at "eo"); (case k3 => walk_at "eo"); (case k4 => walk_at "sd"))
  | (refine' ev_lenS ?k1 ?k2; (case k1 => walk_at "ev"); (case k2 => walk_at "sd"))
  | (refine' ev_len' ?k1 ?k2; (case k1 => walk_at "ev"); (case k2 => walk_at "sd"))
  | (refine' ev_strip ?k1 ?k2 ?k3; (case k1 => walk_at "ev"); (case k2 => walk_at "ev"); (case k3 => walk_at "sd"))
  | (refine' ev_sum ?k1 ?k2; (case k1 => walk_at "ev"); (case k2 => walk_at "sd"))
  | (refine' ev_isi ?k1 ?k2 ?k3 ?k4; (case k1 => walk_at "ev"); (case k2 => walk_at "ev"); (case k3 => first | exact ty_int | exact ty_bl | exact ty_str | exact ty_list (by walk_at "sd")); (case k4 => first | exact kit_ty (r := true) (by decide +kernel) | exact kit_ty (r := false) (by decide +kernel)))
  | (refine' ev_andV ?k1 ?k2; (case k1 => walk_at "ev"); (case k2 => (intro _; walk_at "ev")))
  | (refine' ev_orV ?k1 ?k2; (case k1 => walk_at "ev"); (case k2 => (intro _; walk_at "ev")))
  | (refine' ev_notV ?k1; (case k1 => walk_at "ev"))
  | (refine' ev_call ?k1 ?k2; (case k1 => walk_at "ea"); (case k2 => walk_at "sv")))
local macro_rules | `(tactic| walk_at "el") => `(tactic| first
  | assumption
  | (refine' el_mapB ?k1 ?k2 ?k3 (fun _ => rfl) ?k5; (case k1 => walk_at "ev"); (case k2 => walk_at "sd"); (case k3 => walk_at "sd"); (case k5 => (intro _ _; walk_at "ev")))
  | (refine' el_mapI ?k1 ?k2 ?k3 (fun _ => rfl) ?k5; (case k1 => walk_at "ev"); (case k2 => walk_at "sd"); (case k3 => walk_at "sd"); (case k5 => (intro _ _; walk_at "ev")))
  | (refine' el_mapS ?k1 ?k2 ?k3 (fun _ => rfl) ?k5; (case k1 => walk_at "ev"); (case k2 => walk_at "sd"); (case k3 => walk_at "sd"); (case k5 => (intro _ _; walk_at "ev"))))
local macro_rules | `(tactic| walk_at "ev") => `(tactic| first
  | (refine' ev_all ?k1; (case k1 => walk_at "el"))
  | (refine' ev_any ?k1; (case k1 => walk_at "el"))
  | (refine' ev_sumN ?k1; (case k1 => walk_at "el"))
  | (refine' ev_join ?k1 ?k2 ?k3; (case k1 => exact ev_is ev_cS (congrArg tx codes_nil)); (case k2 => walk_at "el"); (case k3 => walk_at "sd")))

section
variable {P : Program} {w : World} {K : PySem.W.Frag} {mg : Str → Option Value} {base : Heap} {H : Hp} {aBC aBT aNR aBN aBP aBL : Addr}
def wsB : List Wd := [codes "ab", codes "b"]
def wsA : List Wd := [codes "a", codes "aa"]
def WX : V → Prop := fun v => ∃ t : Wd, v = tx t ∧ t.length ≤ 5000 ∧ okW t ∧ ways wsB t = 0
theorem wx_word {s : Str} (h : (codes s).length ≤ 5000 ∧ okW (codes s) ∧ ways wsB (codes s) = 0) : WX (.str s) := ⟨codes s, by unfold tx; rw [S_codes], h.1, h.2.1, h.2.2⟩
def NX (K : PySem.W.Frag) : Hp → V → Prop := fun H v => NumB K H 0 (((2 : Nat) : Int) - 1) v false
theorem up_NX : Up (NX K) := fun _ _ _ e h => NumB.up e h
def PX (K : PySem.W.Frag) : Hp → V → Prop := fun H v => NumsB K H 0 (((2 : Nat) : Int) - 1) v false
theorem up_PX : Up (PX K) := fun _ _ _ e h => NumsB.up e h
theorem px_one {p : Addr} {v : V} (h : H p = some (.lst [v])) (hv : NX K H v) : PX K H (.ref p) := allB_lst (I := fun H => NumB K H 0 (((2 : Nat) : Int) - 1)) (vbs := [(v, false)]) h (by simp) (fun q hq => by rw [List.mem_singleton.mp hq]; exact hv) v (by simp)
theorem nx_lo {m : Int} (h : m < 0) : NX K H (.int m) := .inl ⟨m, rfl, by rw [decide_eq_false (show ¬ (0 : Int) ≤ m by omega)]; rfl⟩
theorem nx_hi {m : Int} (h : 2 ≤ m) : NX K H (.int m) := .inl ⟨m, rfl, by rw [decide_eq_false (show ¬ m ≤ ((2 : Nat) : Int) - 1 by omega), Bool.and_false]⟩
def RX (K : PySem.W.Frag) : Hp → V → Prop := fun H v => PX K H v ∨ ∃ (q : Addr) (ns : List Nat), v = .ref q ∧ H q = some (.lst (ns.map nI)) ∧ (ns = [0] ∨ ns = [0, 1] ∨ ns = [])
theorem up_RX : Up (RX K) := fun _ _ _ e h => h.imp (up_PX _ _ _ e) fun ⟨q, ns, h1, h2, h3⟩ => ⟨q, ns, h1, e q _ h2, h3⟩
def QX (K : PySem.W.Frag) : Hp → V → Prop := fun H v => ∃ t x y b1 b2, v = .ref t ∧ H t = some (.tup [x, y]) ∧ NumB K H 1 26 x b1 ∧ NumsB K H 1 100 y b2 ∧ (b1 && b2) = false
theorem up_QX : Up (QX K) := fun _ _ _ e ⟨t, x, y, b1, b2, h1, h2, h3, h4, h5⟩ => ⟨t, x, y, b1, b2, h1, e t _ h2, h3.up e, h4.up e, h5⟩
def NB (K : PySem.W.Frag) (b : Bool) : Hp → V → Prop := fun H v => NumB K H 1 26 v b
theorem up_NB {b : Bool} : Up (NB K b) := fun _ _ _ e h => h.up e
def LsB (K : PySem.W.Frag) (b : Bool) : Hp → V → Prop := fun H v => NumsB K H 1 100 v b
theorem up_LsB {b : Bool} : Up (LsB K b) := fun _ _ _ e h => NumsB.up e h
theorem qx_pair {σ : L2.St} {b1 b2 : Bool} {ta tb : TE} (ha : EvP ta σ H (NB K b1)) (hb : EvP tb σ H (LsB K b2)) (hz : (b1 && b2) = false) : EvP (tTup (tCons ta (tCons tb tNil))) σ H (QX K) := fun H1 e Q q =>
  ha H1 e _ fun x H2 e2 hx => hb H2 (e.trans e2) _ fun y H3 e3 hy => ⟨by simp [sizeLine_eq], fun p hp => q _ _ ((e2.trans e3).trans (Ex.new hp)) ⟨p, x, y, b1, b2, rfl, upd_same, hx.up (e3.trans (Ex.new hp)), NumsB.up (Ex.new hp) hy, hz⟩⟩
theorem ls_lst {p : Addr} {vbs : List (V × Bool)} {b : Bool} (h : H p = some (.lst (vbs.map (·.1)))) (hl : vbs.length ≤ 1000) (hi : ∀ q ∈ vbs, NumB K H 1 100 q.1 q.2) (hb : b = (vbs.map (·.2)).all id) : LsB K b H (.ref p) := .inr ⟨p, vbs, rfl, sq_of h, hl, hi, hb⟩
theorem nb_int {lo hi m : Int} {b : Bool} (hb : b = (decide (lo ≤ m) && decide (m ≤ hi))) : NumB K H lo hi (.int m) b := .inl ⟨m, rfl, hb⟩
def spOthersAsked (aNR aBN aBP aBL : Addr) : Sp := fun vs H Q E => ∃ k n m : Int, vs = [.int k, .int n, .int m] ∧ 0 ≤ n ∧ 0 ≤ m ∧ ((k = 2 ∧ Out H E aNR) ∨ (k = 3 ∧ Out H E aBN) ∨ (k = 4 ∧ Out H E aBP) ∨ (k = 5 ∧ Out H E aBL))
theorem ok__law_others_asked (D : DefAt K mg "_law_others_asked" s__law_others_asked ["_law_kind", "_law_which", "_law_more"]) (T : Blt mg) (C_text_of : Cal P w K mg base 3 "text_of" (spTextOf7 K aBC aBP)) (C_told : Cal P w K mg base 3 "told" (spTold7 K aBC aBT aNR aBN))
    (C_number_of : Cal P w K mg base 3 "number_of" (spNumberOf7 K aBC aBT aNR aBP)) (C_of_lengths : Cal P w K mg base 3 "of_lengths" (spOfLengths7 K aBL)) : Cal P w K mg base 4 "_law_others_asked" (spOthersAsked aNR aBN aBP aBL) := by
  obtain ⟨f6, fd6, ps6, F6, m_told, kp6, b6⟩ := C_told.ex
  obtain ⟨f7, fd7, ps7, F7, m_number_of, kp7, b7⟩ := C_number_of.ex
  refine calX_of D sc__law_others_asked (fun vs H Q E h => ?_) (fun f cdv A outer s H vs Q E hr h => ?_)
  · obtain ⟨k, n, m, rfl, _⟩ := h; rfl
  · obtain ⟨k, n, m, rfl, hn, hm, hk⟩ := h
    refine ⟨_, (pss_cons (ps_if (pt_cmpR op_eq (pv 0) pe_int (nomark _)) (pss_cons (ps_set (i := 3) sc__law_others_asked.nd rfl (.inl rfl) (pe_ix (ix_listK (K := K) rfl) (pe_lst (pa_cons pe_str (pa_cons pe_str (pa_cons (pe_op op_add_str (pe_op op_rep_str pe_str (pe_op op_mod (pv 2) pe_int)) pe_str) (pa_cons pe_str pa_nil))))) (pe_op op_mod (pe_op op_fdiv (pv 1) pe_int) pe_int) (fun _ _ => rfl)))
      (pss_one (ps_ret (pe_callE (L2N.takes_of rfl rfl rfl rfl) hr (pe_ix (ix_listK (K := K) rfl) (pe_lst (pa_cons (pe_exc (mg := mg) rfl m_told (by rfl)) (pa_cons (pe_exc (mg := mg) rfl m_number_of (by rfl)) pa_nil))) (pe_op op_mod (pv 1) pe_int) (fun _ _ => rfl)) (pa_cons (pe_lst (pa_cons pe_str (pa_cons pe_str pa_nil))) (pa_cons (pv 3) (pa_cons pe_non pa_nil))))))) pss_nil)
      (pss_cons (ps_if (pt_cmpR op_eq (pv 0) pe_int (nomark _)) (pss_one (ps_ret (pe_cX (L2N.takes_of rfl rfl rfl rfl) C_told hr (by decide) (by rfl) (pa_cons (pe_lst (pa_cons pe_str (pa_cons pe_str pa_nil))) (pa_cons pe_str (pa_cons (pe_ix (ix_listK (K := K) rfl) (pe_lst (pa_cons pe_non (pa_cons pe_str (pa_cons pe_bl (pa_cons (pe_lst (pa_cons pe_int pa_nil)) (pa_cons (pe_op op_sub (pe_un un_neg pe_int) (pv 2)) (pa_cons (pe_op op_add pe_int (pv 2)) (pa_cons (pe_tup (pa_cons pe_int pa_nil)) pa_nil)))))))) (pe_op op_mod (pv 1) pe_int) (fun _ _ => rfl)) pa_nil)))))) pss_nil)
      (pss_cons (ps_if (pt_cmpR op_eq (pv 0) pe_int (nomark _)) (pss_cons (ps_set (i := 4) sc__law_others_asked.nd rfl (.inl rfl) (pe_ix (ix_listK (K := K) rfl) (pe_lst (pa_cons pe_non (pa_cons (pe_tup (pa_cons pe_int pa_nil)) (pa_cons pe_str (pa_cons (pe_lst (pa_cons (pe_op op_add pe_int (pv 2)) pa_nil)) (pa_cons (pe_lst (pa_cons (pe_op op_sub (pe_un un_neg pe_int) (pv 2)) pa_nil)) (pa_cons (pe_lst (pa_cons pe_bl pa_nil)) (pa_cons (pe_lst (pa_cons pe_str pa_nil)) (pa_cons (pe_lst (pa_cons pe_non pa_nil)) (pa_cons pe_int (pa_cons (pe_lst (pa_cons (pe_lst (pa_cons pe_int pa_nil)) pa_nil)) pa_nil))))))))))) (pe_op op_mod (pv 1) pe_int) (fun _ _ => rfl)))
      (pss_cons (ps_if (pt_cmpR op_eq (pe_op op_mod (pe_op op_fdiv (pv 1) pe_int) pe_int) pe_int (nomark _)) (pss_one (ps_ret (pe_cX (L2N.takes_of rfl rfl rfl rfl) C_text_of hr (by decide) (by rfl) (pa_cons (pe_lst (pa_cons pe_str (pa_cons pe_str pa_nil))) (pa_cons (pv 4) pa_nil))))) pss_nil)
      (pss_one (ps_ret (pe_cX (L2N.takes_of rfl rfl rfl rfl) C_number_of hr (by decide) (by rfl) (pa_cons (pe_lst (pa_cons pe_str (pa_cons pe_str pa_nil))) (pa_cons pe_str (pa_cons (pe_ix (ix_tupK (K := K) rfl) (pe_tup (pa_cons (pv 4) (pa_cons (pe_lst (pa_cons pe_int pa_nil)) (pa_cons (pe_lst (pa_cons pe_int (pa_cons pe_int pa_nil))) (pa_cons (pe_lst pa_nil) pa_nil))))) (pe_op op_mod (pe_op op_fdiv (pv 1) pe_int) pe_int) (fun _ _ => rfl)) pa_nil)))))))) pss_nil)
      (pss_cons (ps_set (i := 4) sc__law_others_asked.nd rfl (.inl rfl) (pe_lst (pa_cons (pe_tup (pa_cons pe_non (pa_cons (pe_lst (pa_cons pe_int pa_nil)) pa_nil))) (pa_cons (pe_tup (pa_cons pe_int (pa_cons (pe_lst (pa_cons pe_int pa_nil)) pa_nil))) (pa_cons (pe_tup (pa_cons (pe_op op_add pe_int (pv 2)) (pa_cons (pe_lst (pa_cons pe_int pa_nil)) pa_nil))) (pa_cons (pe_tup (pa_cons pe_bl (pa_cons (pe_lst (pa_cons pe_int pa_nil)) pa_nil))) (pa_cons (pe_tup (pa_cons pe_str (pa_cons (pe_lst (pa_cons pe_int pa_nil)) pa_nil))) (pa_cons (pe_tup (pa_cons pe_int (pa_cons pe_non pa_nil))) (pa_cons (pe_tup (pa_cons pe_int (pa_cons (pe_tup (pa_cons pe_int pa_nil)) pa_nil))) (pa_cons (pe_tup (pa_cons pe_int (pa_cons (pe_lst (pa_cons pe_int pa_nil)) pa_nil))) pa_nil))))))))))
      (pss_cons (ps_set (i := 4) sc__law_others_asked.nd rfl (.inl rfl) (pe_op op_cat (pv 4) (pe_lst (pa_cons (pe_tup (pa_cons pe_int (pa_cons (pe_lst (pa_cons pe_int (pa_cons (pe_op op_add pe_int (pv 2)) pa_nil))) pa_nil))) (pa_cons (pe_tup (pa_cons pe_int (pa_cons (pe_lst (pa_cons pe_int (pa_cons pe_bl pa_nil))) pa_nil))) (pa_cons (pe_tup (pa_cons pe_int (pa_cons (pe_lst (pa_cons pe_str pa_nil)) pa_nil))) (pa_cons (pe_tup (pa_cons (pe_op op_sub (pe_un un_neg pe_int) (pv 2)) (pa_cons (pe_lst pa_nil) pa_nil))) pa_nil)))))))
      (pss_one (ps_ret (pe_cX (L2N.takes_of rfl rfl rfl rfl) C_of_lengths hr (by decide) (by rfl) (pa_cons (pe_ix (ix_tupK (K := K) rfl) (pe_ix (ix_listK (K := K) rfl) (pv 4) (pe_op op_mod (pv 1) pe_int) (fun _ _ => rfl)) pe_int (fun _ _ => rfl)) (pa_cons (pe_ix (ix_tupK (K := K) rfl) (pe_ix (ix_listK (K := K) rfl) (pv 4) (pe_op op_mod (pv 1) pe_int) (fun _ _ => rfl)) pe_int (fun _ _ => rfl)) pa_nil)))))))))), ?_⟩
    have hwA : ways wsA (codes "aa") = 2 := by decide +kernel
    have hcB : ∀ (σ : L2.St) (H' : Hp), EvP (tLst (tCons (tC (.str "ab")) (tCons (tC (.str "b")) tNil))) σ H' (CA K wsB) := fun σ H' => ep_el (el_lst (ea_cons ev_c (ea_cons ev_c ea_nil)) (by simp)) fun p H1 _ hp => ⟨p, rfl, codeAt2 hp (by decide +kernel) (by decide +kernel)⟩
    have hcA : ∀ (σ : L2.St) (H' : Hp), EvP (tLst (tCons (tC (.str "a")) (tCons (tC (.str "aa")) tNil))) σ H' (CA K wsA) := fun σ H' => ep_el (el_lst (ea_cons ev_c (ea_cons ev_c ea_nil)) (by simp)) fun p H1 _ hp => ⟨p, rfl, codeAt2 hp (by decide +kernel) (by decide +kernel)⟩
    have haa : (.str "aa" : V) = tx (codes "aa") := by unfold tx; rw [S_codes]
    rcases hk with ⟨rfl, ho⟩ | ⟨rfl, ho⟩ | ⟨rfl, ho⟩ | ⟨rfl, ho⟩
    · -- a text without a reading
      refine q_when (et_test (ev_op (ev_var rfl) ev_c rv_eqI)) (fun _ H1 e1 => ?_) (fun hb => absurd (of_decide_eq_false hb) (by decide))
      have hm3 := Int.emod_nonneg m (show (3 : Int) ≠ 0 by decide)
      have hm3' := Int.emod_lt_of_pos m (show (0 : Int) < 3 by decide)
      refine q_asgP (B := fun _ v => WX v) (ep_pick (n := 4) (i := n / 2 % 4) up_F (ep_lst (n := 4) up_F (ab_cons up_F (ep_ev ev_c fun _ _ => wx_word (by decide +kernel)) (ab_cons up_F (ep_ev ev_c fun _ _ => wx_word (by decide +kernel)) (ab_cons up_F (ep_ev (ev_op (ev_op ev_cS (ev_op (ev_var rfl) ev_c (rv_mod (by decide))) (rv_repS (a := codes "abab") (n := m % 3) ⟨⟨by omega, by omega⟩, by decide +kernel⟩)) ev_cS (rv_addS (b := codes "c") (by
          rw [repW_len]; have e : (codes "abab").length = 4 := by decide +kernel
          have e2 : (codes "c").length = 1 := by decide +kernel
          rw [e, e2]; omega))) fun _ _ => ?_) (ab_cons up_F (ep_ev ev_c fun _ _ => wx_word (by decide +kernel)) ab_nil)))) (by decide))
        (ev_op (ev_op (ev_var rfl) ev_c (rv_fdiv ⟨by decide, by decide⟩)) ev_c (rv_mod (by decide))) (Int.emod_nonneg _ (by decide)) (by have := Int.emod_lt_of_pos (n / 2) (show (0 : Int) < 4 by decide); omega)) fun v2 H2 e2 hv2 => ?_
      · have h012 : m % 3 = 0 ∨ m % 3 = 1 ∨ m % 3 = 2 := by omega
        rcases h012 with h | h | h <;> rw [h] <;> exact ⟨_, rfl, by decide +kernel⟩
      obtain ⟨t, rfl, ht, hot, hwt⟩ := hv2
      refine s_retE (F := fun v => ∃ f sp, v = .ref f ∧ HeldE P w K mg base 3 f sp ∧ ∀ H1 c, CA K wsB H1 c → Out H1 E aNR → sp [c, tx t, .non] H1 Q E) (ep_pick (n := 2) (i := n % 2) up_F (ep_lst (n := 2) up_F (ab_cons up_F (ep_ev ev_c fun _ _ => ⟨f6, _, rfl, ⟨3, fd6, ps6, Nat.le_refl _, F6, kp6, b6⟩, fun H1 c ⟨p, hc, hca⟩ ho => ⟨c, tx t, .non, rfl, .inr ⟨p, _, hc, hca, .inr ⟨t, rfl, ht, hot, .inl ⟨hwt, ho⟩⟩⟩⟩⟩)
        (ab_cons up_F (ep_ev ev_c fun _ _ => ⟨f7, _, rfl, ⟨3, fd7, ps7, Nat.le_refl _, F7, kp7, b7⟩, fun H1 c ⟨p, hc, hca⟩ ho => ⟨c, tx t, .non, rfl, .inr ⟨p, _, hc, hca, .inr ⟨t, rfl, ht, hot, .inl ⟨hwt, ho⟩⟩⟩⟩⟩) ab_nil)) (by decide)) (ev_op (ev_var rfl) ev_c (rv_mod (by decide))) (Int.emod_nonneg _ (by decide)) (by have := Int.emod_lt_of_pos n (show (0 : Int) < 2 by decide); omega))
        (eaq_cons up_CA (hcB _ _) (eaq_cons (B := fun _ v => v = tx t) up_F (ep_ev (ev_var rfl) fun _ _ => rfl) (eaq_cons (B := fun _ v => v = .non) up_F (ep_ev ev_c fun _ _ => rfl) eaq_nil))) fun v hv => ?_
      obtain ⟨f, sp, rfl, hh, hsp⟩ := hv
      refine ⟨f, sp, rfl, hh, fun H5 vs e5 hvs => ?_⟩
      obtain ⟨c, r, rfl, hc, u, r2, rfl, rfl, u3, r3, rfl, rfl, rfl⟩ := hvs
      exact hsp H5 c hc (ho.up ((e1.trans e2).trans e5))
    · -- no count
      refine q_when (et_test (ev_op (ev_var rfl) ev_c rv_eqI)) (fun hb => absurd (of_decide_eq_true hb) (by decide)) (fun _ H1 e1 => ?_)
      refine q_when (et_test (ev_op (ev_var rfl) ev_c rv_eqI)) (fun _ H2 e2 => ?_) (fun hb => absurd (of_decide_eq_false hb) (by decide))
      refine s_retC (eaq_cons up_CA (hcA _ _) (eaq_cons (B := fun _ v => v = .str "aa") up_F (ep_ev ev_c fun _ _ => rfl) (eaq_cons (up_NX (K := K)) (ep_pick (C := NX K) (n := 7) (i := n % 7) up_NX (ep_lst (n := 7) up_NX (ab_cons up_NX (ep_ev ev_c fun _ _ => .inr (.inr ⟨nt_non (by decide +kernel), rfl⟩)) (ab_cons up_NX (ep_ev ev_c fun _ _ => .inr (.inr ⟨nt_str (by decide +kernel), rfl⟩))
        (ab_cons up_NX (ep_ev ev_c fun _ _ => .inr (.inl ⟨⟨_, rfl⟩, rfl⟩)) (ab_cons up_NX (ep_el (el_lst (ea_cons ev_c ea_nil) (by simp)) fun p H1 _ hp => .inr (.inr ⟨nt_lst hp (by decide +kernel), rfl⟩)) (ab_cons up_NX (ep_ev (ev_op (ev_un ev_c ru_neg) (ev_var rfl) rv_sub) fun _ _ => nx_lo (by omega)) (ab_cons up_NX (ep_ev (ev_op ev_c (ev_var rfl) rv_add) fun _ _ => nx_hi (by omega))
        (ab_cons up_NX (ep_eu (eu_tup (ea_cons ev_c ea_nil) (by simp)) fun p H1 _ hp => .inr (.inr ⟨nt_tup hp (by decide +kernel), rfl⟩)) ab_nil))))))) (by decide)) (ev_op (ev_var rfl) ev_c (rv_mod (by decide))) (Int.emod_nonneg _ (by decide)) (by have := Int.emod_lt_of_pos n (show (0 : Int) < 7 by decide); omega)) eaq_nil))) fun H3 vs e3 hvs => ?_
      obtain ⟨c, r, rfl, ⟨p, hp, hca⟩, u, r2, rfl, rfl, u3, r3, rfl, hu, rfl⟩ := hvs
      exact ⟨c, _, u3, rfl, .inr ⟨p, _, hp, hca, .inr ⟨codes "aa", haa, by decide +kernel, by decide +kernel, .inr ⟨by rw [hwA]; decide, by rw [hwA]; exact hu, ho.up ((e1.trans e2).trans e3)⟩⟩⟩⟩
    · -- no reading
      refine q_when (et_test (ev_op (ev_var rfl) ev_c rv_eqI)) (fun hb => absurd (of_decide_eq_true hb) (by decide)) (fun _ H1 e1 => ?_)
      refine q_when (et_test (ev_op (ev_var rfl) ev_c rv_eqI)) (fun hb => absurd (of_decide_eq_true hb) (by decide)) (fun _ H2 e2 => ?_)
      refine q_when (et_test (ev_op (ev_var rfl) ev_c rv_eqI)) (fun _ H3 e3 => ?_) (fun hb => absurd (of_decide_eq_false hb) (by decide))
      refine q_asgP (B := PX K) (ep_pick (n := 10) (i := n % 10) up_PX (ep_lst (n := 10) up_PX (ab_cons up_PX (ep_ev ev_c fun _ _ => .inl ⟨nt_non (by decide +kernel), rfl⟩) (ab_cons up_PX (ep_eu (eu_tup (ea_cons ev_c ea_nil) (by simp)) fun p H1 _ hp => .inl ⟨nt_tup hp (by decide +kernel), rfl⟩)
        (ab_cons up_PX (ep_ev ev_c fun _ _ => .inl ⟨nt_str (by decide +kernel), rfl⟩) (ab_cons up_PX (ep_el (el_lst (ea_cons (ev_op ev_c (ev_var rfl) rv_add) ea_nil) (by simp)) fun p H1 _ hp => px_one hp (nx_hi (by omega))) (ab_cons up_PX (ep_el (el_lst (ea_cons (ev_op (ev_un ev_c ru_neg) (ev_var rfl) rv_sub) ea_nil) (by simp)) fun p H1 _ hp => px_one hp (nx_lo (by omega)))
        (ab_cons up_PX (ep_el (el_lst (ea_cons ev_c ea_nil) (by simp)) fun p H1 _ hp => px_one hp (.inr (.inl ⟨⟨_, rfl⟩, rfl⟩))) (ab_cons up_PX (ep_el (el_lst (ea_cons ev_c ea_nil) (by simp)) fun p H1 _ hp => px_one hp (.inr (.inr ⟨nt_str (by decide +kernel), rfl⟩))) (ab_cons up_PX (ep_el (el_lst (ea_cons ev_c ea_nil) (by simp)) fun p H1 _ hp => px_one hp (.inr (.inr ⟨nt_non (by decide +kernel), rfl⟩)))
        (ab_cons up_PX (ep_ev ev_c fun _ _ => .inl ⟨nt_int (by decide +kernel), rfl⟩) (ab_cons up_PX (ep_weak (ep_lst (C := NX K) (n := 1) up_NX (ab_cons up_NX (ep_el (el_lst (ea_cons ev_c ea_nil) (by simp)) fun p H1 _ hp => .inr (.inr ⟨nt_lst hp (by decide +kernel), rfl⟩)) ab_nil) (by decide)) fun H1 v _ hv => ?_) ab_nil)))))))))) (by decide))
        (ev_op (ev_var rfl) ev_c (rv_mod (by decide))) (Int.emod_nonneg _ (by decide)) (by have := Int.emod_lt_of_pos n (show (0 : Int) < 10 by decide); omega)) fun v2 H4 e4 hv2 => ?_
      · obtain ⟨p, vs, rfl, hp, hl, hc⟩ := hv
        match vs, hl with
        | [u], _ => exact px_one hp (hc u (by simp))
      have ex4 := (((e1.trans e2).trans e3).trans e4)
      refine q_when (et_test (ev_op (ev_op (ev_op (ev_var rfl) ev_c (rv_fdiv ⟨by decide, by decide⟩)) ev_c (rv_mod (by decide))) ev_c rv_eqI)) (fun _ H5 e5 => ?_) (fun _ H5 e5 => ?_)
      · refine s_retC (eaq_cons up_CA (hcA _ _) (eaq_cons up_PX (ep_ev (ev_var rfl) fun H6 e6 => up_PX _ _ _ (e5.trans e6) hv2) eaq_nil)) fun H6 vs e6 hvs => ?_
        obtain ⟨c, r, rfl, ⟨p, hp, hca⟩, u, r2, rfl, hu, rfl⟩ := hvs
        exact ⟨c, u, rfl, .inr ⟨p, _, hp, hca, .inl ⟨hu, ho.up ((ex4.trans e5).trans e6)⟩⟩⟩
      · refine s_retC (eaq_cons up_CA (hcA _ _) (eaq_cons (B := fun _ v => v = .str "aa") up_F (ep_ev ev_c fun _ _ => rfl) (eaq_cons (up_RX (K := K)) (ep_pickT (C := RX K) (n := 4) (i := n / 20 % 4) up_RX (ep_tup (n := 4) up_RX (ab_cons up_RX (ep_ev (ev_var rfl) fun H6 e6 => .inl (up_PX _ _ _ (e5.trans e6) hv2)) (ab_cons up_RX (ep_el (el_lst (ea_cons ev_c ea_nil) (by simp)) fun p H1 _ hp => .inr ⟨p, [0], rfl, hp, .inl rfl⟩)
          (ab_cons up_RX (ep_el (el_lst (ea_cons ev_c (ea_cons ev_c ea_nil)) (by simp)) fun p H1 _ hp => .inr ⟨p, [0, 1], rfl, hp, .inr (.inl rfl)⟩) (ab_cons up_RX (ep_el (el_lst ea_nil (by simp)) fun p H1 _ hp => .inr ⟨p, [], rfl, hp, .inr (.inr rfl)⟩) ab_nil)))) (by decide))
          (ev_op (ev_op (ev_var rfl) ev_c (rv_fdiv ⟨by decide, by decide⟩)) ev_c (rv_mod (by decide))) (Int.emod_nonneg _ (by decide)) (by have := Int.emod_lt_of_pos (n / 20) (show (0 : Int) < 4 by decide); omega)) eaq_nil))) fun H6 vs e6 hvs => ?_
        obtain ⟨c, r, rfl, ⟨p, hp, hca⟩, u, r2, rfl, rfl, u3, r3, rfl, hu, rfl⟩ := hvs
        have ho6 := ho.up ((ex4.trans e5).trans e6)
        refine ⟨c, _, u3, rfl, .inr ⟨p, _, hp, hca, .inr ⟨codes "aa", haa, by decide +kernel, by decide +kernel, .inr ⟨by rw [hwA]; decide, ?_⟩⟩⟩⟩
        rcases hu with hu | ⟨q, ns, rfl, hq, hns⟩
        · exact .inl ⟨hu, ho6⟩
        · refine .inr ⟨q, ns, rfl, sq_of hq, ?_⟩
          rcases hns with rfl | rfl | rfl
          · exact ⟨by decide, by decide, by decide +kernel, .inl ⟨by decide +kernel, ho6⟩⟩
          · exact ⟨by decide, by decide, by decide +kernel, .inl ⟨by decide +kernel, ho6⟩⟩
          · exact ⟨by decide, by decide, by decide +kernel, .inl ⟨by decide +kernel, ho6⟩⟩
    · -- no letters or lengths
      refine q_when (et_test (ev_op (ev_var rfl) ev_c rv_eqI)) (fun hb => absurd (of_decide_eq_true hb) (by decide)) (fun _ H1 e1 => ?_)
      refine q_when (et_test (ev_op (ev_var rfl) ev_c rv_eqI)) (fun hb => absurd (of_decide_eq_true hb) (by decide)) (fun _ H2 e2 => ?_)
      refine q_when (et_test (ev_op (ev_var rfl) ev_c rv_eqI)) (fun hb => absurd (of_decide_eq_true hb) (by decide)) (fun _ H3 e3 => ?_)
      have g1 : ∀ (σ : L2.St) (H' : Hp), EvP (tLst (tCons (tC (.int 1)) tNil)) σ H' (LsB K true) := fun σ H' => ep_el (el_lst (ea_cons ev_c ea_nil) (by simp)) fun p H1 _ hp => ls_lst (vbs := [(.int 1, true)]) hp (by simp) (fun q hq => by rw [List.mem_singleton.mp hq]; exact nb_int rfl) rfl
      have g2 : ∀ (σ : L2.St) (H' : Hp), EvP (tC (.int 2)) σ H' (NB K true) := fun σ H' => ep_ev ev_c fun _ _ => nb_int rfl
      have hnf : ∀ {σ : L2.St} {H' : Hp} {te : TE} {v : V}, Ev te σ H' v → (∀ H1, Ex H' H1 → NumB K H1 1 26 v false) → EvP te σ H' (NB K false) := fun h hb => ep_ev h hb
      refine q_asgP (B := LB 8 (QX K)) (ep_lst (n := 8) up_QX (ab_cons up_QX (qx_pair (hnf ev_c fun _ _ => .inr (.inr ⟨nt_non (by decide +kernel), rfl⟩)) (g1 _ _) rfl) (ab_cons up_QX (qx_pair (hnf ev_c fun _ _ => nb_int rfl) (g1 _ _) rfl)
        (ab_cons up_QX (qx_pair (hnf (ev_op ev_c (ev_var rfl) rv_add) fun _ _ => nb_int (by rw [decide_eq_false (show ¬ 27 + m ≤ 26 by omega), Bool.and_false])) (g1 _ _) rfl) (ab_cons up_QX (qx_pair (hnf ev_c fun _ _ => .inr (.inl ⟨⟨_, rfl⟩, rfl⟩)) (g1 _ _) rfl)
        (ab_cons up_QX (qx_pair (hnf ev_c fun _ _ => .inr (.inr ⟨nt_str (by decide +kernel), rfl⟩)) (g1 _ _) rfl) (ab_cons up_QX (qx_pair (b2 := false) (g2 _ _) (ep_ev ev_c fun _ _ => .inl ⟨nt_non (by decide +kernel), rfl⟩) rfl)
        (ab_cons up_QX (qx_pair (b2 := false) (g2 _ _) (ep_eu (eu_tup (ea_cons ev_c ea_nil) (by simp)) fun p H1 _ hp => .inl ⟨nt_tup hp (by decide +kernel), rfl⟩) rfl)
        (ab_cons up_QX (qx_pair (b2 := false) (g2 _ _) (ep_el (el_lst (ea_cons ev_c ea_nil) (by simp)) fun p H1 _ hp => ls_lst (vbs := [(.int 0, false)]) hp (by simp) (fun q hq => by rw [List.mem_singleton.mp hq]; exact nb_int rfl) rfl) rfl) ab_nil)))))))) (by decide)) fun v4 H4 e4 hv4 => ?_
      refine q_asgP (B := LB (8 + 4) (QX K)) (ep_cat up_QX (ep_ev (ev_var rfl) fun H5 e5 => up_LB up_QX _ _ _ e5 hv4) (ep_lst (n := 4) up_QX
        (ab_cons up_QX (qx_pair (b2 := false) (g2 _ _) (ep_el (el_lst (ea_cons ev_c (ea_cons (ev_op ev_c (ev_var rfl) rv_add) ea_nil)) (by simp)) fun p H1 _ hp => ls_lst (vbs := [(.int 1, true), (.int (101 + m), false)]) hp (by simp) (fun q hq => ?_) rfl) rfl)
        (ab_cons up_QX (qx_pair (b2 := false) (g2 _ _) (ep_el (el_lst (ea_cons ev_c (ea_cons ev_c ea_nil)) (by simp)) fun p H1 _ hp => ls_lst (vbs := [(.int 1, true), (.bl true, false)]) hp (by simp) (fun q hq => ?_) rfl) rfl)
        (ab_cons up_QX (qx_pair (b2 := false) (g2 _ _) (ep_el (el_lst (ea_cons ev_c ea_nil) (by simp)) fun p H1 _ hp => ls_lst (vbs := [(.str "1", false)]) hp (by simp) (fun q hq => by rw [List.mem_singleton.mp hq]; exact .inr (.inr ⟨nt_str (by decide +kernel), rfl⟩)) rfl) rfl)
        (ab_cons up_QX (qx_pair (b2 := true) (hnf (ev_op (ev_un ev_c ru_neg) (ev_var rfl) rv_sub) fun _ _ => nb_int (by rw [decide_eq_false (show ¬ (1 : Int) ≤ -1 - m by omega)]; rfl)) (ep_el (el_lst ea_nil (by simp)) fun p H1 _ hp => ls_lst (vbs := []) hp (by simp) (fun q hq => nomatch hq) rfl) rfl) ab_nil)))) (by decide)) (by decide)) fun v5 H5 e5 hv5 => ?_
      · rcases List.mem_cons.mp hq with rfl | hq
        · exact nb_int rfl
        · rw [List.mem_singleton.mp hq]; exact nb_int (by rw [decide_eq_false (show ¬ 101 + m ≤ 100 by omega), Bool.and_false])
      · rcases List.mem_cons.mp hq with rfl | hq
        · exact nb_int rfl
        · rw [List.mem_singleton.mp hq]; exact .inr (.inl ⟨⟨_, rfl⟩, rfl⟩)
      obtain ⟨p, vs, rfl, hp, hl, hc⟩ := hv5
      obtain ⟨u, hu, hat⟩ := at_some (xs := vs) (i := n % 12) (Int.emod_nonneg _ (by decide)) (by have := Int.emod_lt_of_pos n (show (0 : Int) < 12 by decide); omega)
      obtain ⟨t, x, y, b1, b2, rfl, ht, hx, hy, hb⟩ := hc u hu
      have gp : ∀ (j : Int) (v : V), atI [x, y] j = some v → Ev (tOp (rIxT K) (tOp (rIxL K) (tVar 4) (tOp (rI (fun _ j => 0 < j) fun i j => .int (i % j)) (tVar 1) (tC (.int 12)))) (tC (.int j))) [some (.int 5), some (.int n), some (.int m), none, some (.ref p)] H5 v := fun j v hj =>
        ev_op (ev_op (ev_var rfl) (ev_op (ev_var rfl) ev_c (rv_mod (by decide))) (rv_ixL (sq_of hp) hat)) ev_c (rv_ixT (st_of ht) hj)
      have ex5 := (((e1.trans e2).trans e3).trans e4).trans e5
      refine s_retC (eaq_cons (B := fun _ v => v = x) up_F (ep_ev (gp 0 x rfl) fun _ _ => rfl) (eaq_cons (B := fun _ v => v = y) up_F (ep_ev (gp 1 y rfl) fun _ _ => rfl) eaq_nil)) fun H6 vs e6 hvs => ?_
      obtain ⟨v, r, rfl, rfl, v3, r3, rfl, rfl, rfl⟩ := hvs
      exact ⟨v, v3, b1, b2, rfl, hx.up e6, NumsB.up e6 hy, hb, ho.up (ex5.trans e6)⟩
end
end Tr


set_option Elab.async false
set_option linter.all false
set_option maxRecDepth 100000
set_option maxHeartbeats 4000000
namespace Tr
open PySem PySem.Spec PyProof.Rows L2 Evl
open M3 (wat joinW pre ways pick nthW bef num)
abbrev s__law_told : Stmt := topS 49
abbrev N__law_told : List Str := ["_law_kind", "_law_which", "_law_more", "error", "_law_found"]
theorem sc__law_told : FnScope N__law_told ["_law_kind", "_law_which", "_law_more"] (defScope s__law_told) := ⟨rfl, rfl, rfl, by decide +kernel, rfl, by decide +kernel, by decide +kernel⟩
abbrev s_law : Stmt := topS 50
abbrev N_law : List Str := ["_law_script", "_law_cell", "_law_kind", "_law_due"]
theorem sc_law : FnScope N_law ["_law_script"] (defScope s_law) := ⟨rfl, rfl, rfl, by decide +kernel, rfl, by decide +kernel, by decide +kernel⟩
local macro_rules | `(tactic| walk_at "sd") => `(tactic| first | assumption | rfl | omega | decide | (solve_by_elim) | (refine Nat.le_trans (m := 1000) (by solve_by_elim) (by decide)))
local macro_rules | `(tactic| walk_at "rv") => `(tactic| first
  | exact rv_add | exact rv_sub | exact rv_lt | exact rv_le | exact rv_gt | exact rv_ge | exact rv_eqI | exact rv_eqS | exact rv_eqB | exact rv_neI | exact rv_neS | exact rv_neB
  | exact rv_mod (by walk_at "sd") | exact rv_fdiv (by first | assumption | exact ⟨by omega, by omega⟩) | exact rv_addS (by walk_at "sd") | exact rv_isB | exact rv_notB | assumption)
local macro_rules | `(tactic| walk_at "ea") => `(tactic| first
  | exact ea_nil
  | (refine' ea_cons ?k1 ?k2; (case k1 => walk_at "ev"); (case k2 => walk_at "ea")))
local macro_rules | `(tactic| walk_at "eo") => `(tactic| first
  | exact eo_none
  | (refine' eo_some ?k1; (case k1 => walk_at "ev")))
local macro_rules | `(tactic| walk_at "et") => `(tactic| first
  | (refine' et_test ?k1; (case k1 => walk_at "ev"))
  | (refine' et_B ?k1; (case k1 => walk_at "ev"))
  | (refine' et_and ?k1 ?k2; (case k1 => walk_at "et"); (case k2 => (intro _; walk_at "et")))
  | (refine' et_or ?k1 ?k2; (case k1 => walk_at "et"); (case k2 => (intro _; walk_at "et")))
  | (refine' et_not ?k1; (case k1 => walk_at "et"))
  | assumption)
local macro_rules | `(tactic| walk_at "ev") => `(tactic| first
  | assumption
  | exact ev_cS
  | exact ev_c
  | exact ev_var rfl
  | (refine' ev_op ?k1 ?k2 ?k3; (case k1 => walk_at "ev"); (case k2 => walk_at "ev"); (case k3 => walk_at "rv"))
  | (refine' ev_un ?k1 ru_neg; (case k1 => walk_at "ev"))
  | (refine' ev_chain ?k1 ?k2 ?k3 ?k4 ?k5; (case k1 => walk_at "ev"); (case k2 => walk_at "ev"); (case k3 => walk_at "ev"); (case k4 => walk_at "rv"); (case k5 => (intro _; walk_at "rv")))
  | (refine' ev_slS ?k1 ?k2 ?k3 ?k4; (case k1 => walk_at "ev"); (case k2 => walk_at "eo"); (case k3 => walk_at "eo"); (case k4 => walk_at "sd"))
  | (refine' ev_lenS ?k1 ?k2; (case k1 => walk_at "ev"); (case k2 => walk_at "sd"))
  | (refine' ev_len' ?k1 ?k2; (case k1 => walk_at "ev"); (case k2 => walk_at "sd"))
  | (refine' ev_strip ?k1 ?k2 ?k3; (case k1 => walk_at "ev"); (case k2 => walk_at "ev"); (case k3 => walk_at "sd"))
  | (refine' ev_sum ?k1 ?k2; (case k1 => walk_at "ev"); (case k2 => walk_at "sd"))
  | (refine' ev_isi ?k1 ?k2 ?k3 ?k4; (case k1 => walk_at "ev"); (case k2 => walk_at "ev"); (case k3 => first | exact ty_int | exact ty_bl | exact ty_str | exact ty_list (by walk_at "sd")); (case k4 => first | exact kit_ty (r := true) (by decide +kernel) | exact kit_ty (r := false) (by decide +kernel)))
  | (refine' ev_andV ?k1 ?k2; (case k1 => walk_at "ev"); (case k2 => (intro _; walk_at "ev")))
  | (refine' ev_orV ?k1 ?k2; (case k1 => walk_at "ev"); (case k2 => (intro _; walk_at "ev")))
  | (refine' ev_notV ?k1; (case k1 => walk_at "ev"))
  | (refine' ev_call ?k1 ?k2; (case k1 => walk_at "ea"); (case k2 => walk_at "sv")))
local macro_rules | `(tactic| walk_at "el") => `(tactic| first
  | assumption
  | (refine' el_mapB ?k1 ?k2 ?k3 (fun _ => rfl) ?k5; (case k1 => walk_at "ev"); (case k2 => walk_at "sd"); (case k3 => walk_at "sd"); (case k5 => (intro _ _; walk_at "ev")))
  | (refine' el_mapI ?k1 ?k2 ?k3 (fun _ => rfl) ?k5; (case k1 => walk_at "ev"); (case k2 => walk_at "sd"); (case k3 => walk_at "sd"); (case k5 => (intro _ _; walk_at "ev")))
  | (refine' el_mapS ?k1 ?k2 ?k3 (fun _ => rfl) ?k5; (case k1 => walk_at "ev"); (case k2 => walk_at "sd"); (case k3 => walk_at "sd"); (case k5 => (intro _ _; walk_at "ev"))))
local macro_rules | `(tactic| walk_at "ev") => `(tactic| first
  | (refine' ev_all ?k1; (case k1 => walk_at "el"))
  | (refine' ev_any ?k1; (case k1 => walk_at "el"))
  | (refine' ev_sumN ?k1; (case k1 => walk_at "el"))
  | (refine' ev_join ?k1 ?k2 ?k3; (case k1 => exact ev_is ev_cS (congrArg tx codes_nil)); (case k2 => walk_at "el"); (case k3 => walk_at "sd")))

/-- what an error of the class at D is, of the classes named -/
structure ErrAt (K : PySem.W.Frag) (D : Addr) (aWE : Addr) (cs : List (Addr × Bool)) : Prop where
  ex : ExcC K D
  cat : PySem.W.exmOne K (.ref D) (.ref aWE) = some true
  ve : PySem.W.kitOne K (.ref D) (.type "ValueError") = some true
  is : ∀ p ∈ cs, PySem.W.kitOne K (.ref D) (.ref p.1) = some p.2
def clsL (aBC aBT aNR aBN aBP aBL : Addr) (j : Nat) : List (Addr × Bool) := [(aBC, decide (j = 0)), (aBT, decide (j = 1)), (aNR, decide (j = 2)), (aBN, decide (j = 3)), (aBP, decide (j = 4)), (aBL, decide (j = 5))]
def dueL (j : Nat) : List Bool := [decide (j = 0), decide (j = 1), decide (j = 2), decide (j = 3), decide (j = 4), decide (j = 5), true]
section
variable {P : Program} {w : World} {K : PySem.W.Frag} {mg : Str → Option Value} {base : Heap} {H : Hp} {aWE aBC aBT aNR aBN aBP aBL : Addr}
theorem el_catV {σ : L2.St} {ta tb : TE} {a : Addr} {xs ys : List V} (ha : Ev ta σ H (.ref a)) (hx : H a = some (.lst xs)) (hb : EvL tb σ H ys) (hz : xs.length + ys.length ≤ 100000) : EvL (tOp rCat ta tb) σ H (xs ++ ys) := fun H1 e Q q =>
  ha H1 e _ fun H2 e2 => hb H2 (e.trans e2) _ fun p H3 np e3 h3 => ⟨a, p, xs, ys, rfl, rfl, ((e.trans e2).trans e3) a _ hx, h3, sz_of hz, fun p2 np2 => q p2 _ (fresh_back (e2.trans e3) np2) ((e2.trans e3).trans (Ex.new np2)) upd_same⟩
theorem ev_callQ {sp : Sp} {E : XK} {σ : L2.St} {t : TA} {z : V} {Pr : Hp → List V → Prop} (h : EvAQ t σ H Pr) (hs : ∀ H1 vs, Ex H H1 → Pr H1 vs → SpV sp vs H1 z) : Ev (tCall sp [] E t) σ H z := fun H1 e Q q =>
  h H1 e _ fun vs H2 e2 hp => by
    rw [List.append_nil]
    exact hs H2 vs (e.trans e2) hp H2 (Ex.refl H2) Q (fun H3 e3 => q H3 (e2.trans e3)) E
def spLawTold (K : PySem.W.Frag) : Sp := fun vs H Q _ => ∃ (j : Nat) (n m : Int), vs = [.int (j : Int), .int n, .int m] ∧ j < 6 ∧ 0 ≤ n ∧ 0 ≤ m ∧ RetL ((dueL j).map V.bl) H Q
theorem sl_law_told {j : Nat} {n m : Int} (h1 : j < 6) (h2 : 0 ≤ n) (h3 : 0 ≤ m) : SpL (spLawTold K) [.int (j : Int), .int n, .int m] H ((dueL j).map V.bl) := fun _ e _ q _ => ⟨j, n, m, rfl, h1, h2, h3, q⟩
theorem ok__law_told (D : DefAt K mg "_law_told" s__law_told ["_law_kind", "_law_which", "_law_more"]) (T : Blt mg)
    (G_WordError : mg "WordError" = some (.ref aWE)) (G_BadCode : mg "BadCode" = some (.ref aBC)) (G_BadLengths : mg "BadLengths" = some (.ref aBL)) (G_BadPlaces : mg "BadPlaces" = some (.ref aBP)) (G_BadText : mg "BadText" = some (.ref aBT)) (G_NoReading : mg "NoReading" = some (.ref aNR)) (G_BadNumber : mg "BadNumber" = some (.ref aBN))
    (ER0 : ErrAt K aBC aWE (clsL aBC aBT aNR aBN aBP aBL 0)) (ER1 : ErrAt K aBT aWE (clsL aBC aBT aNR aBN aBP aBL 1)) (ER2 : ErrAt K aNR aWE (clsL aBC aBT aNR aBN aBP aBL 2)) (ER3 : ErrAt K aBN aWE (clsL aBC aBT aNR aBN aBP aBL 3)) (ER4 : ErrAt K aBP aWE (clsL aBC aBT aNR aBN aBP aBL 4)) (ER5 : ErrAt K aBL aWE (clsL aBC aBT aNR aBN aBP aBL 5))
    (C__law_code_asked : Cal P w K mg base 4 "_law_code_asked" (spCodeAsked aBC)) (C__law_text_asked : Cal P w K mg base 4 "_law_text_asked" (spTextAsked aBT)) (C__law_others_asked : Cal P w K mg base 4 "_law_others_asked" (spOthersAsked aNR aBN aBP aBL)) :
    Cal P w K mg base 5 "_law_told" (spLawTold K) := by
  refine cal_of D sc__law_told (fun vs H Q E h => ?_) (fun f cdv A outer s H vs Q E hr h => ?_)
  · obtain ⟨j, n, m, rfl, _⟩ := h; rfl
  · obtain ⟨j, n, m, rfl, hj, hn, hm, k⟩ := h
    refine ⟨_, (pss_cons (L2N.ps_try_as (i := 3) (Wout := fun _ _ _ _ => False) rfl rfl sc__law_told.nd rfl rfl ⟨rfl, by decide, .inl G_WordError⟩ takes0N (fun W pn xe tk _ => (pss_one (ps_if (pt_cmpR op_eq (pv 0) pe_int (nomark _)) (pss_one (ps_expr (pe_cT tk C__law_code_asked hr (by decide) (by rfl) (pa_cons (pv 1) (pa_cons (pv 2) pa_nil))))) (pss_one (ps_if (pt_cmpR op_eq (pv 0) pe_int (nomark _)) (pss_one (ps_expr (pe_cT tk C__law_text_asked hr (by decide) (by rfl) (pa_cons (pv 1) (pa_cons (pv 2) pa_nil))))) (pss_one (ps_expr (pe_cT tk C__law_others_asked hr (by decide) (by rfl) (pa_cons (pv 0) (pa_cons (pv 1) (pa_cons (pv 2) pa_nil))))))))))) (fun a oe cls d pn hz hf => (pss_cons (ps_set (i := 4) sc__law_told.nd rfl (.inl rfl) (pe_lst (pa_cons (pe_callB (call_isA (K := K) rfl hz hf) (by rfl) T.isinstance (by decide +kernel) (pa_cons (pv 3) (pa_cons (pe_exc (mg := mg) rfl G_BadCode (by rfl)) pa_nil))) (pa_cons (pe_callB (call_isA (K := K) rfl hz hf) (by rfl) T.isinstance (by decide +kernel) (pa_cons (pv 3) (pa_cons (pe_exc (mg := mg) rfl G_BadText (by rfl)) pa_nil))) (pa_cons (pe_callB (call_isA (K := K) rfl hz hf) (by rfl) T.isinstance (by decide +kernel) (pa_cons (pv 3) (pa_cons (pe_exc (mg := mg) rfl G_NoReading (by rfl)) pa_nil))) pa_nil)))))
      (pss_cons (ps_set (i := 4) sc__law_told.nd rfl (.inl rfl) (pe_op op_cat (pv 4) (pe_lst (pa_cons (pe_callB (call_isA (K := K) rfl hz hf) (by rfl) T.isinstance (by decide +kernel) (pa_cons (pv 3) (pa_cons (pe_exc (mg := mg) rfl G_BadNumber (by rfl)) pa_nil))) (pa_cons (pe_callB (call_isA (K := K) rfl hz hf) (by rfl) T.isinstance (by decide +kernel) (pa_cons (pv 3) (pa_cons (pe_exc (mg := mg) rfl G_BadPlaces (by rfl)) pa_nil))) (pa_cons (pe_callB (call_isA (K := K) rfl hz hf) (by rfl) T.isinstance (by decide +kernel) (pa_cons (pv 3) (pa_cons (pe_exc (mg := mg) rfl G_BadLengths (by rfl)) pa_nil))) pa_nil))))))
      (pss_one (ps_ret (pe_op op_cat (pv 4) (pe_lst (pa_cons (pe_callB (call_isA (K := K) rfl hz hf) (by rfl) T.isinstance (by decide +kernel) (pa_cons (pv 3) (pa_cons (pe_bltn (v := .ty "ValueError") (by rfl) T.ValueError (by decide +kernel) rfl) pa_nil))) pa_nil)))))))))
      (pss_one (ps_ret (pe_lst pa_nil)))), ?_⟩
    have gi : ∀ (C : Addr) (EC : ErrAt K C aWE (clsL aBC aBT aNR aBN aBP aBL j)) (x : Addr) (r : Bool) (σ : L2.St) (H' : Hp) (a : Addr), (x, r) ∈ clsL aBC aBT aNR aBN aBP aBL j → σ[3]? = some (some (.ref a)) → Ev (tCB (rIsA K (.ref C) none a) (tCons (tVar 3) (tCons (tC (.ref x)) tNil))) σ H' (.bl r) := fun C EC x r σ H' a hm h4 =>
      ev_isA EC.ex (ev_var h4) ev_c (fun u h => h) (EC.is _ hm)
    have ea3 : ∀ H', EvA (tCons (tVar 1) (tCons (tVar 2) tNil)) [some (.int (j : Int)), some (.int n), some (.int m), none, none] H' [.int n, .int m] := fun H' => ea_cons (ev_var rfl) (ea_cons (ev_var rfl) ea_nil)
    have e40 : ∀ i : Nat, i < 6 → decide ((j : Int) = (i : Int)) = decide (j = i) := fun i _ => by by_cases h : j = i <;> simp [h]; omega
    by_cases h0 : j = 0
    · refine s_if (b := true) (et_is (et_test (ev_op (ev_var rfl) ev_c rv_eqI)) (decide_eq_true (by omega))) (fun _ H1 e1 => ?_) (fun z => nomatch z)
      subst h0
      refine s_callW aBC (ea3 _) ER0.cat (fun H2 e2 Q E ho => ⟨n, m, rfl, hn, hm, ho⟩) fun H2 e2 a na => ?_
      have EC := ER0
      refine q_asgL (el_lst (vs := ([true, false, false] : List Bool).map V.bl) (ea_cons (gi _ EC aBC true _ _ a (by simp [clsL]) rfl) (ea_cons (gi _ EC aBT false _ _ a (by simp [clsL]) rfl) (ea_cons (gi _ EC aNR false _ _ a (by simp [clsL]) rfl) ea_nil))) (by simp)) fun l1 H3 n3 e3 h3 => ?_
      refine q_asgL (el_catV (ev_var rfl) h3 (el_lst (vs := ([false, false, false] : List Bool).map V.bl) (ea_cons (gi _ EC aBN false _ _ a (by simp [clsL]) rfl) (ea_cons (gi _ EC aBP false _ _ a (by simp [clsL]) rfl) (ea_cons (gi _ EC aBL false _ _ a (by simp [clsL]) rfl) ea_nil))) (by simp)) (by simp)) fun l2 H4 n4 e4 h4 => ?_
      refine s_retL (el_catV (ev_var rfl) h4 (el_lst (vs := ([true] : List Bool).map V.bl) (ea_cons (ev_isA (b := true) EC.ex (ev_var rfl) ev_c (fun u h => h) EC.ve) ea_nil) (by simp)) (by simp)) fun l3 H5 n5 e5 h5 => ?_
      exact k.go (((e1.trans e2).trans e3).trans e4) n5 e5 h5
    refine s_if (b := false) (et_is (et_test (ev_op (ev_var rfl) ev_c rv_eqI)) (decide_eq_false (by omega))) (fun z => nomatch z) (fun _ H1 e1 => ?_)
    by_cases h1 : j = 1
    · refine s_if (b := true) (et_is (et_test (ev_op (ev_var rfl) ev_c rv_eqI)) (decide_eq_true (by omega))) (fun _ H1' e1' => ?_) (fun z => nomatch z)
      subst h1
      refine s_callW aBT (ea3 _) ER1.cat (fun H2 e2 Q E ho => ⟨n, m, rfl, hn, hm, ho⟩) fun H2 e2 a na => ?_
      have EC := ER1
      refine q_asgL (el_lst (vs := ([false, true, false] : List Bool).map V.bl) (ea_cons (gi _ EC aBC false _ _ a (by simp [clsL]) rfl) (ea_cons (gi _ EC aBT true _ _ a (by simp [clsL]) rfl) (ea_cons (gi _ EC aNR false _ _ a (by simp [clsL]) rfl) ea_nil))) (by simp)) fun l1 H3 n3 e3 h3 => ?_
      refine q_asgL (el_catV (ev_var rfl) h3 (el_lst (vs := ([false, false, false] : List Bool).map V.bl) (ea_cons (gi _ EC aBN false _ _ a (by simp [clsL]) rfl) (ea_cons (gi _ EC aBP false _ _ a (by simp [clsL]) rfl) (ea_cons (gi _ EC aBL false _ _ a (by simp [clsL]) rfl) ea_nil))) (by simp)) (by simp)) fun l2 H4 n4 e4 h4 => ?_
      refine s_retL (el_catV (ev_var rfl) h4 (el_lst (vs := ([true] : List Bool).map V.bl) (ea_cons (ev_isA (b := true) EC.ex (ev_var rfl) ev_c (fun u h => h) EC.ve) ea_nil) (by simp)) (by simp)) fun l3 H5 n5 e5 h5 => ?_
      exact k.go ((((e1.trans e1').trans e2).trans e3).trans e4) n5 e5 h5
    refine s_if (b := false) (et_is (et_test (ev_op (ev_var rfl) ev_c rv_eqI)) (decide_eq_false (by omega))) (fun z => nomatch z) (fun _ H1' e1' => ?_)
    obtain ⟨C, EC, hsp⟩ : ∃ C, ErrAt K C aWE (clsL aBC aBT aNR aBN aBP aBL j) ∧ ∀ H1, ∀ (Q : VK) (E : XK), (∀ H2, Ex H1 H2 → E (.ref C) none H2) → spOthersAsked aNR aBN aBP aBL [.int (j : Int), .int n, .int m] H1 Q E := by
      have : j = 2 ∨ j = 3 ∨ j = 4 ∨ j = 5 := by omega
      rcases this with rfl | rfl | rfl | rfl
      · exact ⟨aNR, ER2, fun H1 Q E ho => ⟨_, n, m, rfl, hn, hm, .inl ⟨rfl, ho⟩⟩⟩
      · exact ⟨aBN, ER3, fun H1 Q E ho => ⟨_, n, m, rfl, hn, hm, .inr (.inl ⟨rfl, ho⟩)⟩⟩
      · exact ⟨aBP, ER4, fun H1 Q E ho => ⟨_, n, m, rfl, hn, hm, .inr (.inr (.inl ⟨rfl, ho⟩))⟩⟩
      · exact ⟨aBL, ER5, fun H1 Q E ho => ⟨_, n, m, rfl, hn, hm, .inr (.inr (.inr ⟨rfl, ho⟩))⟩⟩
    refine s_callW C (ea_cons (ev_var rfl) (ea3 _)) EC.cat (fun H2 e2 Q E ho => hsp H2 Q E ho) fun H2 e2 a na => ?_
    refine q_asgL (el_lst (vs := ([decide (j = 0), decide (j = 1), decide (j = 2)] : List Bool).map V.bl) (ea_cons (gi _ EC aBC _ _ _ a (by simp [clsL]) rfl) (ea_cons (gi _ EC aBT _ _ _ a (by simp [clsL]) rfl) (ea_cons (gi _ EC aNR _ _ _ a (by simp [clsL]) rfl) ea_nil))) (by simp)) fun l1 H3 n3 e3 h3 => ?_
    refine q_asgL (el_catV (ev_var rfl) h3 (el_lst (vs := ([decide (j = 3), decide (j = 4), decide (j = 5)] : List Bool).map V.bl) (ea_cons (gi _ EC aBN _ _ _ a (by simp [clsL]) rfl) (ea_cons (gi _ EC aBP _ _ _ a (by simp [clsL]) rfl) (ea_cons (gi _ EC aBL _ _ _ a (by simp [clsL]) rfl) ea_nil))) (by simp)) (by simp)) fun l2 H4 n4 e4 h4 => ?_
    refine s_retL (el_catV (ev_var rfl) h4 (el_lst (vs := ([true] : List Bool).map V.bl) (ea_cons (ev_isA (b := true) EC.ex (ev_var rfl) ev_c (fun u h => h) EC.ve) ea_nil) (by simp)) (by simp)) fun l3 H5 n5 e5 h5 => ?_
    exact k.go ((((e1.trans e1').trans e2).trans e3).trans e4) n5 e5 h5
/-! ### the law -/
theorem fib_step (n : Nat) : ways wsA (List.replicate (n + 2) 97) = ways wsA (List.replicate (n + 1) 97) + ways wsA (List.replicate n 97) := by
  rw [M3.ways_eq wsA (by decide +kernel) (by simp [List.replicate_succ])]
  have hA : wsA = [[97], [97, 97]] := by decide +kernel
  have h1 : pre [97] (List.replicate (n + 2) 97) = true := by simp [pre, List.replicate_succ]
  have h2 : pre [97, 97] (List.replicate (n + 2) 97) = true := by simp [pre, List.replicate_succ]
  have h3 : (wsA.filter fun a => pre a (List.replicate (n + 2) 97)) = [[97], [97, 97]] := by
    rw [hA, List.filter_cons, if_pos h1, List.filter_cons, if_pos h2]; rfl
  rw [h3]
  simp [List.replicate_succ]
def fibP : Nat → Nat × Nat
  | 0 => (1, 1)
  | n + 1 => ((fibP n).2, (fibP n).1 + (fibP n).2)
theorem fib_ways (n : Nat) : ways wsA (List.replicate n 97) = (fibP n).1 ∧ ways wsA (List.replicate (n + 1) 97) = (fibP n).2 := by
  induction n with
  | zero => exact ⟨by decide +kernel, by decide +kernel⟩
  | succ n ih =>
    refine ⟨ih.2, ?_⟩
    rw [fib_step, ih.1, ih.2]
    simp only [fibP]; omega
theorem ways60 : ways wsA (repW (codes "a") 60) = 2504730781961 := by
  have e : repW (codes "a") 60 = List.replicate 60 97 := by decide +kernel
  rw [e, (fib_ways 60).1]
  decide +kernel
def spLaw (K : PySem.W.Frag) : Sp := fun vs H Q _ => ∃ (s : Addr) (ns : List Int), vs = [.ref s] ∧ SqL K H s (ns.map V.int) ∧ ns.length ≤ 63 ∧ ∀ H', Ex H H' → Q (.bl true) H'
theorem ok_law {f : Addr} {fd : FuncData} (F : Fun K "law" "law" s_law f fd) (T : Blt mg) (C__law_told : Cal P w K mg base 5 "_law_told" (spLawTold K)) (C_text_of : Cal P w K mg base 3 "text_of" (spTextOf7 K aBC aBP)) (C_how_many : Cal P w K mg base 3 "how_many" (spHowMany7 K aBC aBT))
    (C_number_of : Cal P w K mg base 3 "number_of" (spNumberOf7 K aBC aBT aNR aBP)) : FnOk P w K mg base (L2N.CX P w) 6 f fd ["_law_script"] (spLaw K) := by
  refine fnok_of F sc_law (fun vs H Q E h => ?_) (fun f cdv A outer s H vs Q E hr h => ?_)
  · obtain ⟨p, ns, rfl, _⟩ := h; rfl
  · obtain ⟨s2, ns, rfl, hs, hn, k⟩ := h
    refine ⟨_, (pss_cons (ps_for PassesOwn.never rfl (pi_listK (K := K) rfl (pv 0)) (pg_name (i := 1) sc_law.nd rfl (.inl rfl)) (pss_cons (ps_set (i := 2) sc_law.nd rfl (.inl rfl) (pe_op op_mod (pv 1) pe_int))
      (pss_cons (ps_set (i := 3) sc_law.nd rfl (.inl rfl) (pe_lst (pa_cons (pe_cmpR op_eq (pv 2) pe_int (nomark _)) (pa_cons (pe_cmpR op_eq (pv 2) pe_int (nomark _)) (pa_cons (pe_cmpR op_eq (pv 2) pe_int (nomark _)) (pa_cons (pe_cmpR op_eq (pv 2) pe_int (nomark _)) (pa_cons (pe_cmpR op_eq (pv 2) pe_int (nomark _)) (pa_cons (pe_cmpR op_eq (pv 2) pe_int (nomark _)) (pa_cons pe_bl pa_nil)))))))))
      (pss_one (ps_if (pt_cmpR (op_neDK (K := K) rfl hr.units) (pe_c C__law_told hr (by decide) (by rfl) (pa_cons (pv 2) (pa_cons (pe_op op_mod (pe_op op_fdiv (pv 1) pe_int) pe_int) (pa_cons (pe_op op_mod (pe_op op_fdiv (pv 1) pe_int) pe_int) pa_nil)))) (pv 3) (nomark _)) (pss_one (ps_ret pe_bl)) pss_nil)))))
      (pss_cons (ps_if (PW.pt (pw_or (pt_cmpR op_ne (pe_c C_text_of hr (by decide) (by rfl) (pa_cons (pe_lst pa_nil) (pa_cons (pe_lst pa_nil) pa_nil))) pe_str (nomark _)) (pw_or (pt_cmpR op_ne (pe_c C_how_many hr (by decide) (by rfl) (pa_cons (pe_lst pa_nil) (pa_cons pe_str pa_nil))) pe_int (nomark _)) (pw_or (pt_cmpR op_ne (pe_c C_how_many hr (by decide) (by rfl) (pa_cons (pe_lst pa_nil) (pa_cons pe_str pa_nil))) pe_int (nomark _)) (pw_or1 (pt_cmpR op_ne (pe_c C_number_of hr (by decide) (by rfl) (pa_cons (pe_lst (pa_cons pe_str pa_nil)) (pa_cons pe_str (pa_cons (pe_lst pa_nil) pa_nil)))) pe_int (nomark _))))))) (pss_one (ps_ret pe_bl)) pss_nil)
      (pss_one (ps_ret (pe_and (pe_cmpR op_eq (pe_c C_how_many hr (by decide) (by rfl) (pa_cons (pe_lst (pa_cons pe_str (pa_cons pe_str pa_nil))) (pa_cons (pe_op op_rep_str pe_str pe_int) pa_nil))) pe_int (nomark _)) (pe_one (pe_cmpR op_eq (pe_c C_number_of hr (by decide) (by rfl) (pa_cons (pe_lst (pa_cons pe_str (pa_cons pe_str pa_nil))) (pa_cons pe_str (pa_cons (pe_lst (pa_cons pe_int pa_nil)) pa_nil)))) pe_int (nomark _)))))))), ?_⟩
    refine q_forLn (a := s2) (xs := ns.map V.int) (ev_var rfl) hs (fun i σ' H' => ∃ s1 s2' s3, Ex H H' ∧ σ' = [some (.ref s2), s1, s2', s3]) (fun H1 e1 => ⟨_, _, _, e1, rfl⟩) (fun i σ' H' _ hP => by obtain ⟨_, _, _, e, _⟩ := hP; exact ex_l e hs) (fun i x σ' H' hi hP => ?_) (fun σ' H' hP => ?_)
    · obtain ⟨s1, s2', s3, ex, rfl⟩ := hP
      obtain ⟨c, _, rfl⟩ : ∃ c, c ∈ ns ∧ x = .int c := by
        obtain ⟨c, hc, e⟩ := List.mem_map.mp (List.mem_of_getElem? hi)
        exact ⟨c, hc, e.symm⟩
      have h0 := Int.emod_nonneg c (show (6 : Int) ≠ 0 by decide)
      have h6 := Int.emod_lt_of_pos c (show (0 : Int) < 6 by decide)
      obtain ⟨j, hj⟩ : ∃ j : Nat, c % 6 = (j : Int) := ⟨(c % 6).toNat, by omega⟩
      refine q_asg (v := .int (j : Int)) (ev_is (ev_op (ev_var rfl) ev_c (rv_mod (by decide))) (congrArg V.int hj)) fun H1 e1 => ?_
      have gd : ∀ (i : Nat) (σ : L2.St) (H' : Hp), σ[2]? = some (some (.int (j : Int))) → Ev (tOp rEq (tVar 2) (tC (.int (i : Int)))) σ H' (.bl (decide (j = i))) := fun i σ H' hσ => ev_is (ev_op (ev_var hσ) ev_c rv_eqI) (congrArg V.bl (by by_cases h : j = i <;> simp [h]; omega))
      refine q_asgL (xs := (dueL j).map V.bl) (el_lst (ea_cons (gd 0 _ _ rfl) (ea_cons (gd 1 _ _ rfl) (ea_cons (gd 2 _ _ rfl) (ea_cons (gd 3 _ _ rfl) (ea_cons (gd 4 _ _ rfl) (ea_cons (gd 5 _ _ rfl) (ea_cons ev_c ea_nil))))))) (by simp [dueL])) fun l H2 n2 e2 h2 => ?_
      refine s_when (b := false) (et_is (et_test (ev_neQ (xs := dueL j) (ys := dueL j) enc_bl (eq_new (el_call (vs := [.int (j : Int), .int (c / 6 % 100000), .int (c / 600000 % 1000)]) (ea_cons (ev_var rfl) (ea_cons (ev_op (ev_op (ev_var rfl) ev_c (rv_fdiv ⟨by decide, by decide⟩)) ev_c (rv_mod (by decide))) (ea_cons (ev_op (ev_op (ev_var rfl) ev_c (rv_fdiv ⟨by decide, by decide⟩)) ev_c (rv_mod (by decide))) ea_nil)))
        (sl_law_told (by omega) (Int.emod_nonneg _ (by decide)) (Int.emod_nonneg _ (by decide))))) (eq_at (ev_var rfl) (sq_of h2)) (by simp) (by simp))) (by simp)) (fun z => nomatch z) (fun _ H3 e3 => ⟨_, _, _, ((ex.trans e1).trans e2).trans e3, rfl⟩)
    · obtain ⟨s1, s2', s3, ex, rfl⟩ := hP
      have hc0 : ∀ (σ : L2.St) (H' : Hp), EvP (tLst tNil) σ H' (CA K []) := fun σ H' => ep_el (el_lst ea_nil (by simp)) fun p H1 _ hp => ⟨p, rfl, sq_of hp, by simp, by simp⟩
      have hc1 : ∀ (σ : L2.St) (H' : Hp), EvP (tLst (tCons (tC (.str "a")) tNil)) σ H' (CA K [codes "a"]) := fun σ H' => ep_el (el_lst (ea_cons ev_c ea_nil) (by simp)) fun p H1 _ hp => ⟨p, rfl, codeAt1 hp (by decide +kernel)⟩
      have hcA : ∀ (σ : L2.St) (H' : Hp), EvP (tLst (tCons (tC (.str "a")) (tCons (tC (.str "aa")) tNil))) σ H' (CA K wsA) := fun σ H' => ep_el (el_lst (ea_cons ev_c (ea_cons ev_c ea_nil)) (by simp)) fun p H1 _ hp => ⟨p, rfl, codeAt2 hp (by decide +kernel) (by decide +kernel)⟩
      have hns : ∀ (σ : L2.St) (H' : Hp), EvP (tLst tNil) σ H' (fun H v => ∃ q, v = .ref q ∧ H q = some (.lst (([] : List Nat).map nI))) := fun σ H' => ep_el (el_lst ea_nil (by simp)) fun p H1 _ hp => ⟨p, rfl, hp⟩
      have hns1 : ∀ (σ : L2.St) (H' : Hp), EvP (tLst (tCons (tC (.int 1)) tNil)) σ H' (fun H v => ∃ q, v = .ref q ∧ H q = some (.lst (([1] : List Nat).map nI))) := fun σ H' => ep_el (el_lst (ea_cons ev_c ea_nil) (by simp)) fun p H1 _ hp => ⟨p, rfl, hp⟩
      have upn : ∀ ns : List Nat, Up (fun (H : Hp) (v : V) => ∃ q, v = .ref q ∧ H q = some (.lst (ns.map nI))) := fun ns H H' v e ⟨q, h1, h2⟩ => ⟨q, h1, e q _ h2⟩
      have gH : ∀ (σ : L2.St) (H' : Hp) {tl tt : TE} (ws : List Wd) (t : Wd), EvP tl σ H' (CA K ws) → Ev tt σ H' (tx t) → t.length ≤ 5000 → okW t → Ev (tCall (spHowMany7 K aBC aBT) [] E0 (tCons tl (tCons tt tNil))) σ H' (nI (ways ws t)) := fun σ H' tl tt ws t h1 h2 h3 h4 =>
        ev_callQ (eaq_cons up_CA h1 (eaq_cons (B := fun _ v => v = tx t) up_F (ep_ev h2 fun _ _ => rfl) eaq_nil)) fun H1 vs e1 hvs => by
          obtain ⟨c, r, rfl, ⟨p, rfl, hca⟩, u, r2, rfl, rfl, rfl⟩ := hvs
          exact fun H2 e2 Q q E => ⟨_, _, rfl, .inr ⟨p, ws, rfl, hca.ex e2, .inr ⟨t, rfl, h3, h4, q⟩⟩⟩
      have gN : ∀ (σ : L2.St) (H' : Hp) {tl tt tq : TE} (ws : List Wd) (t : Wd) (ns : List Nat), EvP tl σ H' (CA K ws) → Ev tt σ H' (tx t) → EvP tq σ H' (fun H v => ∃ q, v = .ref q ∧ H q = some (.lst (ns.map nI))) → t.length ≤ 5000 → okW t → ways ws t ≠ 0 → ns.length ≤ 1000 → (∀ n ∈ ns, n < ws.length) → (joinW ws ns).length ≤ 10000 → joinW ws ns = t → Ev (tCall (spNumberOf7 K aBC aBT aNR aBP) [] E0 (tCons tl (tCons tt (tCons tq tNil)))) σ H' (nI (num ws t ns)) := fun σ H' tl tt tq ws t ns h1 h2 h3 h4 h5 h6 h7 h8 h9 h10 =>
        ev_callQ (eaq_cons up_CA h1 (eaq_cons (B := fun _ v => v = tx t) up_F (ep_ev h2 fun _ _ => rfl) (eaq_cons (upn ns) h3 eaq_nil))) fun H1 vs e1 hvs => by
          obtain ⟨c, r, rfl, ⟨p, rfl, hca⟩, u, r2, rfl, rfl, v, r3, rfl, ⟨q, rfl, hq⟩, rfl⟩ := hvs
          exact fun H2 e2 Q kk E => ⟨_, _, _, rfl, .inr ⟨p, ws, rfl, hca.ex e2, .inr ⟨t, rfl, h4, h5, .inr ⟨h6, .inr ⟨q, ns, rfl, sq_of (e2 q _ hq), h7, h8, h9, .inr ⟨h10, kk⟩⟩⟩⟩⟩⟩
      have gT : ∀ (σ : L2.St) (H' : Hp) {tl tq : TE}, EvP tl σ H' (CA K []) → EvP tq σ H' (fun H v => ∃ q, v = .ref q ∧ H q = some (.lst (([] : List Nat).map nI))) → Ev (tCall (spTextOf7 K aBC aBP) [] E0 (tCons tl (tCons tq tNil))) σ H' (tx []) := fun σ H' tl tq h1 h3 =>
        ev_callQ (eaq_cons up_CA h1 (eaq_cons (upn []) h3 eaq_nil)) fun H1 vs e1 hvs => by
          obtain ⟨c, r, rfl, ⟨p, rfl, hca⟩, v, r3, rfl, ⟨q, rfl, hq⟩, rfl⟩ := hvs
          exact fun H2 e2 Q kk E => ⟨_, _, rfl, .inr ⟨p, [], rfl, hca.ex e2, .inr ⟨q, [], rfl, sq_of (e2 q _ hq), by simp, by simp, by decide, kk⟩⟩⟩
      have eW : ∀ (a b : Nat), a = b → (!decide ((a : Int) = (b : Int))) = false := fun a b h => by rw [h]; simp
      refine q_when (b := false) (et_is (et_or (a := false) (et_is (et_test (ev_op (gT _ _ (hc0 _ _) (hns _ _)) ev_cS rv_neS)) (by decide +kernel)) fun _ => et_or (a := false) (et_is (et_test (ev_op (gH _ _ [] (codes "") (hc0 _ _) ev_cS (by decide +kernel) (by decide +kernel)) ev_c rv_neI)) (eW _ 1 (by decide +kernel))) fun _ =>
        et_or (a := false) (et_is (et_test (ev_op (gH _ _ [] (codes "a") (hc0 _ _) ev_cS (by decide +kernel) (by decide +kernel)) ev_c rv_neI)) (eW _ 0 (by decide +kernel))) fun _ =>
        et_is (et_test (ev_op (gN _ _ [codes "a"] (codes "") [] (hc1 _ _) ev_cS (hns _ _) (by decide +kernel) (by decide +kernel) (by decide +kernel) (by decide) (by simp) (by decide +kernel) (by decide +kernel)) ev_c rv_neI)) (eW _ 0 (by decide +kernel))) rfl) (fun z => nomatch z) (fun _ H2 e2 => ?_)
      refine s_ret (v := .bl (true && true)) (ev_andV (a := true) (b := true) (ev_is (ev_op (gH _ _ wsA (repW (codes "a") 60) (hcA _ _) (ev_op ev_cS ev_c (rv_repS ⟨by decide, by decide +kernel⟩)) (by decide +kernel) (by decide +kernel)) ev_c rv_eqI) (congrArg V.bl (decide_eq_true (by rw [ways60]; rfl)))) fun _ =>
        ev_is (ev_op (gN _ _ wsA (codes "aa") [1] (hcA _ _) ev_cS (hns1 _ _) (by decide +kernel) (by decide +kernel) (by decide +kernel) (by decide) (by decide +kernel) (by decide +kernel) (by decide +kernel)) ev_c rv_eqI) (congrArg V.bl (decide_eq_true (by decide +kernel)))) fun H3 e3 => k H3 ((ex.trans e2).trans e3)
end
end Tr


set_option Elab.async false
set_option linter.all false
set_option maxRecDepth 100000
set_option maxHeartbeats 4000000
namespace Tr
open PySem PySem.Spec PyProof.Rows L2 Evl
section
theorem all_mk {l : PySem.W.OpenLaw} {w : World} {K : PySem.W.Frag} {h : Heap} {mg : Str → Option Value} {fa : Addr} (X : K.In h) (G : h.Ns mainGlobals mg) (hfa : mg "law" = some (.ref fa))
    {f_stands : Addr} {od_stands an_stands : Option Addr} {sl_stands : Array (Option Value)} {oc_stands kV_stands dc_stands pm_stands cd_stands ct_stands : Value}
    {f_is_number : Addr} {od_is_number an_is_number : Option Addr} {sl_is_number : Array (Option Value)} {oc_is_number kV_is_number dc_is_number pm_is_number cd_is_number ct_is_number : Value}
    {f_is_text : Addr} {od_is_text an_is_text : Option Addr} {sl_is_text : Array (Option Value)} {oc_is_text kV_is_text dc_is_text pm_is_text cd_is_text ct_is_text : Value}
    {f_asked_code : Addr} {od_asked_code an_asked_code : Option Addr} {sl_asked_code : Array (Option Value)} {oc_asked_code kV_asked_code dc_asked_code pm_asked_code cd_asked_code ct_asked_code : Value}
    {f_asked_text : Addr} {od_asked_text an_asked_text : Option Addr} {sl_asked_text : Array (Option Value)} {oc_asked_text kV_asked_text dc_asked_text pm_asked_text cd_asked_text ct_asked_text : Value}
    {f_joined : Addr} {od_joined an_joined : Option Addr} {sl_joined : Array (Option Value)} {oc_joined kV_joined dc_joined pm_joined cd_joined ct_joined : Value}
    {f_table_of : Addr} {od_table_of an_table_of : Option Addr} {sl_table_of : Array (Option Value)} {oc_table_of kV_table_of dc_table_of pm_table_of cd_table_of ct_table_of : Value}
    {f_text_of : Addr} {od_text_of an_text_of : Option Addr} {sl_text_of : Array (Option Value)} {oc_text_of kV_text_of dc_text_of pm_text_of cd_text_of ct_text_of : Value}
    {f_once : Addr} {od_once an_once : Option Addr} {sl_once : Array (Option Value)} {oc_once kV_once dc_once pm_once cd_once ct_once : Value}
    {f_begins : Addr} {od_begins an_begins : Option Addr} {sl_begins : Array (Option Value)} {oc_begins kV_begins dc_begins pm_begins cd_begins ct_begins : Value}
    {f_read : Addr} {od_read an_read : Option Addr} {sl_read : Array (Option Value)} {oc_read kV_read dc_read pm_read cd_read ct_read : Value}
    {f_how_many : Addr} {od_how_many an_how_many : Option Addr} {sl_how_many : Array (Option Value)} {oc_how_many kV_how_many dc_how_many pm_how_many cd_how_many ct_how_many : Value}
    {f_told : Addr} {od_told an_told : Option Addr} {sl_told : Array (Option Value)} {oc_told kV_told dc_told pm_told cd_told ct_told : Value}
    {f_number_of : Addr} {od_number_of an_number_of : Option Addr} {sl_number_of : Array (Option Value)} {oc_number_of kV_number_of dc_number_of pm_number_of cd_number_of ct_number_of : Value}
    {f_of_lengths : Addr} {od_of_lengths an_of_lengths : Option Addr} {sl_of_lengths : Array (Option Value)} {oc_of_lengths kV_of_lengths dc_of_lengths pm_of_lengths cd_of_lengths ct_of_lengths : Value}
    {f__law_code_asked : Addr} {od__law_code_asked an__law_code_asked : Option Addr} {sl__law_code_asked : Array (Option Value)} {oc__law_code_asked kV__law_code_asked dc__law_code_asked pm__law_code_asked cd__law_code_asked ct__law_code_asked : Value}
    {f__law_text_asked : Addr} {od__law_text_asked an__law_text_asked : Option Addr} {sl__law_text_asked : Array (Option Value)} {oc__law_text_asked kV__law_text_asked dc__law_text_asked pm__law_text_asked cd__law_text_asked ct__law_text_asked : Value}
    {f__law_others_asked : Addr} {od__law_others_asked an__law_others_asked : Option Addr} {sl__law_others_asked : Array (Option Value)} {oc__law_others_asked kV__law_others_asked dc__law_others_asked pm__law_others_asked cd__law_others_asked ct__law_others_asked : Value}
    {f__law_told : Addr} {od__law_told an__law_told : Option Addr} {sl__law_told : Array (Option Value)} {oc__law_told kV__law_told dc__law_told pm__law_told cd__law_told ct__law_told : Value}
    {f_law : Addr} {od_law an_law : Option Addr} {sl_law : Array (Option Value)} {oc_law kV_law dc_law pm_law cd_law ct_law : Value}
    {tL : Tok}
    {tG : Tok}
    {aWE : Addr}
    {aBC : Addr}
    {aBT : Addr}
    {aNR : Addr}
    {aBN : Addr}
    {aBP : Addr}
    {aBL : Addr}
    (a_stands : PySem.W.nsIn K mainGlobals "stands" = some (some (.ref f_stands)))
    (l_stands : K.lookup f_stands = some ⟨oc_stands, od_stands, .func (PySem.W.fnOf "stands" "stands" (defArgs s_stands) (defBody s_stands) (defScope s_stands) .none kV_stands dc_stands pm_stands an_stands cd_stands ct_stands), sl_stands⟩)
    (c_stands : PySem.W.codeIn K cd_stands "stands" = true)
    (k_stands : PySem.W.keepIn K (.ref f_stands) = true)
    (a_is_number : PySem.W.nsIn K mainGlobals "is_number" = some (some (.ref f_is_number)))
    (l_is_number : K.lookup f_is_number = some ⟨oc_is_number, od_is_number, .func (PySem.W.fnOf "is_number" "is_number" (defArgs s_is_number) (defBody s_is_number) (defScope s_is_number) .none kV_is_number dc_is_number pm_is_number an_is_number cd_is_number ct_is_number), sl_is_number⟩)
    (c_is_number : PySem.W.codeIn K cd_is_number "is_number" = true)
    (k_is_number : PySem.W.keepIn K (.ref f_is_number) = true)
    (a_is_text : PySem.W.nsIn K mainGlobals "is_text" = some (some (.ref f_is_text)))
    (l_is_text : K.lookup f_is_text = some ⟨oc_is_text, od_is_text, .func (PySem.W.fnOf "is_text" "is_text" (defArgs s_is_text) (defBody s_is_text) (defScope s_is_text) .none kV_is_text dc_is_text pm_is_text an_is_text cd_is_text ct_is_text), sl_is_text⟩)
    (c_is_text : PySem.W.codeIn K cd_is_text "is_text" = true)
    (k_is_text : PySem.W.keepIn K (.ref f_is_text) = true)
    (a_asked_code : PySem.W.nsIn K mainGlobals "asked_code" = some (some (.ref f_asked_code)))
    (l_asked_code : K.lookup f_asked_code = some ⟨oc_asked_code, od_asked_code, .func (PySem.W.fnOf "asked_code" "asked_code" (defArgs s_asked_code) (defBody s_asked_code) (defScope s_asked_code) .none kV_asked_code dc_asked_code pm_asked_code an_asked_code cd_asked_code ct_asked_code), sl_asked_code⟩)
    (c_asked_code : PySem.W.codeIn K cd_asked_code "asked_code" = true)
    (k_asked_code : PySem.W.keepIn K (.ref f_asked_code) = true)
    (a_asked_text : PySem.W.nsIn K mainGlobals "asked_text" = some (some (.ref f_asked_text)))
    (l_asked_text : K.lookup f_asked_text = some ⟨oc_asked_text, od_asked_text, .func (PySem.W.fnOf "asked_text" "asked_text" (defArgs s_asked_text) (defBody s_asked_text) (defScope s_asked_text) .none kV_asked_text dc_asked_text pm_asked_text an_asked_text cd_asked_text ct_asked_text), sl_asked_text⟩)
    (c_asked_text : PySem.W.codeIn K cd_asked_text "asked_text" = true)
    (k_asked_text : PySem.W.keepIn K (.ref f_asked_text) = true)
    (a_joined : PySem.W.nsIn K mainGlobals "joined" = some (some (.ref f_joined)))
    (l_joined : K.lookup f_joined = some ⟨oc_joined, od_joined, .func (PySem.W.fnOf "joined" "joined" (defArgs s_joined) (defBody s_joined) (defScope s_joined) .none kV_joined dc_joined pm_joined an_joined cd_joined ct_joined), sl_joined⟩)
    (c_joined : PySem.W.codeIn K cd_joined "joined" = true)
    (k_joined : PySem.W.keepIn K (.ref f_joined) = true)
    (a_table_of : PySem.W.nsIn K mainGlobals "table_of" = some (some (.ref f_table_of)))
    (l_table_of : K.lookup f_table_of = some ⟨oc_table_of, od_table_of, .func (PySem.W.fnOf "table_of" "table_of" (defArgs s_table_of) (defBody s_table_of) (defScope s_table_of) .none kV_table_of dc_table_of pm_table_of an_table_of cd_table_of ct_table_of), sl_table_of⟩)
    (c_table_of : PySem.W.codeIn K cd_table_of "table_of" = true)
    (k_table_of : PySem.W.keepIn K (.ref f_table_of) = true)
    (a_text_of : PySem.W.nsIn K mainGlobals "text_of" = some (some (.ref f_text_of)))
    (l_text_of : K.lookup f_text_of = some ⟨oc_text_of, od_text_of, .func (PySem.W.fnOf "text_of" "text_of" (defArgs s_text_of) (defBody s_text_of) (defScope s_text_of) .none kV_text_of dc_text_of pm_text_of an_text_of cd_text_of ct_text_of), sl_text_of⟩)
    (c_text_of : PySem.W.codeIn K cd_text_of "text_of" = true)
    (k_text_of : PySem.W.keepIn K (.ref f_text_of) = true)
    (a_once : PySem.W.nsIn K mainGlobals "once" = some (some (.ref f_once)))
    (l_once : K.lookup f_once = some ⟨oc_once, od_once, .func (PySem.W.fnOf "once" "once" (defArgs s_once) (defBody s_once) (defScope s_once) .none kV_once dc_once pm_once an_once cd_once ct_once), sl_once⟩)
    (c_once : PySem.W.codeIn K cd_once "once" = true)
    (k_once : PySem.W.keepIn K (.ref f_once) = true)
    (a_begins : PySem.W.nsIn K mainGlobals "begins" = some (some (.ref f_begins)))
    (l_begins : K.lookup f_begins = some ⟨oc_begins, od_begins, .func (PySem.W.fnOf "begins" "begins" (defArgs s_begins) (defBody s_begins) (defScope s_begins) .none kV_begins dc_begins pm_begins an_begins cd_begins ct_begins), sl_begins⟩)
    (c_begins : PySem.W.codeIn K cd_begins "begins" = true)
    (k_begins : PySem.W.keepIn K (.ref f_begins) = true)
    (a_read : PySem.W.nsIn K mainGlobals "read" = some (some (.ref f_read)))
    (l_read : K.lookup f_read = some ⟨oc_read, od_read, .func (PySem.W.fnOf "read" "read" (defArgs s_read) (defBody s_read) (defScope s_read) .none kV_read dc_read pm_read an_read cd_read ct_read), sl_read⟩)
    (c_read : PySem.W.codeIn K cd_read "read" = true)
    (k_read : PySem.W.keepIn K (.ref f_read) = true)
    (a_how_many : PySem.W.nsIn K mainGlobals "how_many" = some (some (.ref f_how_many)))
    (l_how_many : K.lookup f_how_many = some ⟨oc_how_many, od_how_many, .func (PySem.W.fnOf "how_many" "how_many" (defArgs s_how_many) (defBody s_how_many) (defScope s_how_many) .none kV_how_many dc_how_many pm_how_many an_how_many cd_how_many ct_how_many), sl_how_many⟩)
    (c_how_many : PySem.W.codeIn K cd_how_many "how_many" = true)
    (k_how_many : PySem.W.keepIn K (.ref f_how_many) = true)
    (a_told : PySem.W.nsIn K mainGlobals "told" = some (some (.ref f_told)))
    (l_told : K.lookup f_told = some ⟨oc_told, od_told, .func (PySem.W.fnOf "told" "told" (defArgs s_told) (defBody s_told) (defScope s_told) .none kV_told dc_told pm_told an_told cd_told ct_told), sl_told⟩)
    (c_told : PySem.W.codeIn K cd_told "told" = true)
    (k_told : PySem.W.keepIn K (.ref f_told) = true)
    (a_number_of : PySem.W.nsIn K mainGlobals "number_of" = some (some (.ref f_number_of)))
    (l_number_of : K.lookup f_number_of = some ⟨oc_number_of, od_number_of, .func (PySem.W.fnOf "number_of" "number_of" (defArgs s_number_of) (defBody s_number_of) (defScope s_number_of) .none kV_number_of dc_number_of pm_number_of an_number_of cd_number_of ct_number_of), sl_number_of⟩)
    (c_number_of : PySem.W.codeIn K cd_number_of "number_of" = true)
    (k_number_of : PySem.W.keepIn K (.ref f_number_of) = true)
    (a_of_lengths : PySem.W.nsIn K mainGlobals "of_lengths" = some (some (.ref f_of_lengths)))
    (l_of_lengths : K.lookup f_of_lengths = some ⟨oc_of_lengths, od_of_lengths, .func (PySem.W.fnOf "of_lengths" "of_lengths" (defArgs s_of_lengths) (defBody s_of_lengths) (defScope s_of_lengths) .none kV_of_lengths dc_of_lengths pm_of_lengths an_of_lengths cd_of_lengths ct_of_lengths), sl_of_lengths⟩)
    (c_of_lengths : PySem.W.codeIn K cd_of_lengths "of_lengths" = true)
    (k_of_lengths : PySem.W.keepIn K (.ref f_of_lengths) = true)
    (a__law_code_asked : PySem.W.nsIn K mainGlobals "_law_code_asked" = some (some (.ref f__law_code_asked)))
    (l__law_code_asked : K.lookup f__law_code_asked = some ⟨oc__law_code_asked, od__law_code_asked, .func (PySem.W.fnOf "_law_code_asked" "_law_code_asked" (defArgs s__law_code_asked) (defBody s__law_code_asked) (defScope s__law_code_asked) .none kV__law_code_asked dc__law_code_asked pm__law_code_asked an__law_code_asked cd__law_code_asked ct__law_code_asked), sl__law_code_asked⟩)
    (c__law_code_asked : PySem.W.codeIn K cd__law_code_asked "_law_code_asked" = true)
    (k__law_code_asked : PySem.W.keepIn K (.ref f__law_code_asked) = true)
    (a__law_text_asked : PySem.W.nsIn K mainGlobals "_law_text_asked" = some (some (.ref f__law_text_asked)))
    (l__law_text_asked : K.lookup f__law_text_asked = some ⟨oc__law_text_asked, od__law_text_asked, .func (PySem.W.fnOf "_law_text_asked" "_law_text_asked" (defArgs s__law_text_asked) (defBody s__law_text_asked) (defScope s__law_text_asked) .none kV__law_text_asked dc__law_text_asked pm__law_text_asked an__law_text_asked cd__law_text_asked ct__law_text_asked), sl__law_text_asked⟩)
    (c__law_text_asked : PySem.W.codeIn K cd__law_text_asked "_law_text_asked" = true)
    (k__law_text_asked : PySem.W.keepIn K (.ref f__law_text_asked) = true)
    (a__law_others_asked : PySem.W.nsIn K mainGlobals "_law_others_asked" = some (some (.ref f__law_others_asked)))
    (l__law_others_asked : K.lookup f__law_others_asked = some ⟨oc__law_others_asked, od__law_others_asked, .func (PySem.W.fnOf "_law_others_asked" "_law_others_asked" (defArgs s__law_others_asked) (defBody s__law_others_asked) (defScope s__law_others_asked) .none kV__law_others_asked dc__law_others_asked pm__law_others_asked an__law_others_asked cd__law_others_asked ct__law_others_asked), sl__law_others_asked⟩)
    (c__law_others_asked : PySem.W.codeIn K cd__law_others_asked "_law_others_asked" = true)
    (k__law_others_asked : PySem.W.keepIn K (.ref f__law_others_asked) = true)
    (a__law_told : PySem.W.nsIn K mainGlobals "_law_told" = some (some (.ref f__law_told)))
    (l__law_told : K.lookup f__law_told = some ⟨oc__law_told, od__law_told, .func (PySem.W.fnOf "_law_told" "_law_told" (defArgs s__law_told) (defBody s__law_told) (defScope s__law_told) .none kV__law_told dc__law_told pm__law_told an__law_told cd__law_told ct__law_told), sl__law_told⟩)
    (c__law_told : PySem.W.codeIn K cd__law_told "_law_told" = true)
    (k__law_told : PySem.W.keepIn K (.ref f__law_told) = true)
    (a_law : PySem.W.nsIn K mainGlobals "law" = some (some (.ref f_law)))
    (l_law : K.lookup f_law = some ⟨oc_law, od_law, .func (PySem.W.fnOf "law" "law" (defArgs s_law) (defBody s_law) (defScope s_law) .none kV_law dc_law pm_law an_law cd_law ct_law), sl_law⟩)
    (c_law : PySem.W.codeIn K cd_law "law" = true)
    (k_law : PySem.W.keepIn K (.ref f_law) = true)
    (z_len : PySem.W.nsIn K mainGlobals "len" = some none)
    (z_all : PySem.W.nsIn K mainGlobals "all" = some none)
    (z_any : PySem.W.nsIn K mainGlobals "any" = some none)
    (z_isinstance : PySem.W.nsIn K mainGlobals "isinstance" = some none)
    (z_range : PySem.W.nsIn K mainGlobals "range" = some none)
    (z_sum : PySem.W.nsIn K mainGlobals "sum" = some none)
    (z_sorted : PySem.W.nsIn K mainGlobals "sorted" = some none)
    (z_enumerate : PySem.W.nsIn K mainGlobals "enumerate" = some none)
    (z_max : PySem.W.nsIn K mainGlobals "max" = some none)
    (z_min : PySem.W.nsIn K mainGlobals "min" = some none)
    (z_reversed : PySem.W.nsIn K mainGlobals "reversed" = some none)
    (z_list : PySem.W.nsIn K mainGlobals "list" = some none)
    (z_int : PySem.W.nsIn K mainGlobals "int" = some none)
    (z_str : PySem.W.nsIn K mainGlobals "str" = some none)
    (z_bool : PySem.W.nsIn K mainGlobals "bool" = some none)
    (z_set : PySem.W.nsIn K mainGlobals "set" = some none)
    (z_ValueError : PySem.W.nsIn K mainGlobals "ValueError" = some none)
    (z_LETTERS : PySem.W.nsIn K mainGlobals "LETTERS" = some (some (.str "abcdefghijklmnopqrstuvwxyz" tL)))
    (z_LONGEST : PySem.W.nsIn K mainGlobals "LONGEST" = some (some (.int 100 tG)))
    (g_WordError : PySem.W.nsIn K mainGlobals "WordError" = some (some (.ref aWE)))
    (g_BadCode : PySem.W.nsIn K mainGlobals "BadCode" = some (some (.ref aBC)))
    (x_BadCode : PySem.W.excIn K aBC [.type "ValueError", .type "Exception", .type "BaseException", .type "object"] "ValueError.__new__" = true)
    (y_BadCode : PySem.W.keepIn K (.ref aBC) = true)
    (s_BadCode : PySem.W.subIn K (.ref aBC) (.type "BaseException") = some true)
    (t_BadCode : PySem.W.typeIn K (.ref aBC) = some (.type "type"))
    (g_BadText : PySem.W.nsIn K mainGlobals "BadText" = some (some (.ref aBT)))
    (x_BadText : PySem.W.excIn K aBT [.type "ValueError", .type "Exception", .type "BaseException", .type "object"] "ValueError.__new__" = true)
    (y_BadText : PySem.W.keepIn K (.ref aBT) = true)
    (s_BadText : PySem.W.subIn K (.ref aBT) (.type "BaseException") = some true)
    (t_BadText : PySem.W.typeIn K (.ref aBT) = some (.type "type"))
    (g_NoReading : PySem.W.nsIn K mainGlobals "NoReading" = some (some (.ref aNR)))
    (x_NoReading : PySem.W.excIn K aNR [.type "ValueError", .type "Exception", .type "BaseException", .type "object"] "ValueError.__new__" = true)
    (y_NoReading : PySem.W.keepIn K (.ref aNR) = true)
    (s_NoReading : PySem.W.subIn K (.ref aNR) (.type "BaseException") = some true)
    (t_NoReading : PySem.W.typeIn K (.ref aNR) = some (.type "type"))
    (g_BadNumber : PySem.W.nsIn K mainGlobals "BadNumber" = some (some (.ref aBN)))
    (x_BadNumber : PySem.W.excIn K aBN [.type "ValueError", .type "Exception", .type "BaseException", .type "object"] "ValueError.__new__" = true)
    (y_BadNumber : PySem.W.keepIn K (.ref aBN) = true)
    (s_BadNumber : PySem.W.subIn K (.ref aBN) (.type "BaseException") = some true)
    (t_BadNumber : PySem.W.typeIn K (.ref aBN) = some (.type "type"))
    (g_BadPlaces : PySem.W.nsIn K mainGlobals "BadPlaces" = some (some (.ref aBP)))
    (x_BadPlaces : PySem.W.excIn K aBP [.type "ValueError", .type "Exception", .type "BaseException", .type "object"] "ValueError.__new__" = true)
    (y_BadPlaces : PySem.W.keepIn K (.ref aBP) = true)
    (s_BadPlaces : PySem.W.subIn K (.ref aBP) (.type "BaseException") = some true)
    (t_BadPlaces : PySem.W.typeIn K (.ref aBP) = some (.type "type"))
    (g_BadLengths : PySem.W.nsIn K mainGlobals "BadLengths" = some (some (.ref aBL)))
    (x_BadLengths : PySem.W.excIn K aBL [.type "ValueError", .type "Exception", .type "BaseException", .type "object"] "ValueError.__new__" = true)
    (y_BadLengths : PySem.W.keepIn K (.ref aBL) = true)
    (s_BadLengths : PySem.W.subIn K (.ref aBL) (.type "BaseException") = some true)
    (t_BadLengths : PySem.W.typeIn K (.ref aBL) = some (.type "type"))
    (e1_aBC : PySem.W.findIn K (.ref aBC) "__getattribute__" = some (some (.builtin "BaseException.__getattribute__")))
    (e2_aBC : PySem.W.findIn K (.ref aBC) "__getattr__" = some none)
    (e4_aBC : PySem.W.hasDictIn K aBC = true)
    (e5_aBC : PySem.W.findIn K (.ref aBC) "__class__" = some (some (.builtin "object.__class__")))
    (e8_aBC : PySem.W.mroIn K aBC (.type "object") = some true)
    (e9_aBC : PySem.W.exmOne K (.ref aBC) (.ref aWE) = some true)
    (e0_aBC : PySem.W.kitOne K (.ref aBC) (.type "ValueError") = some true)
    (i_aBC_aBC : PySem.W.kitOne K (.ref aBC) (.ref aBC) = some true)
    (i_aBC_aBT : PySem.W.kitOne K (.ref aBC) (.ref aBT) = some false)
    (i_aBC_aNR : PySem.W.kitOne K (.ref aBC) (.ref aNR) = some false)
    (i_aBC_aBN : PySem.W.kitOne K (.ref aBC) (.ref aBN) = some false)
    (i_aBC_aBP : PySem.W.kitOne K (.ref aBC) (.ref aBP) = some false)
    (i_aBC_aBL : PySem.W.kitOne K (.ref aBC) (.ref aBL) = some false)
    (e1_aBT : PySem.W.findIn K (.ref aBT) "__getattribute__" = some (some (.builtin "BaseException.__getattribute__")))
    (e2_aBT : PySem.W.findIn K (.ref aBT) "__getattr__" = some none)
    (e4_aBT : PySem.W.hasDictIn K aBT = true)
    (e5_aBT : PySem.W.findIn K (.ref aBT) "__class__" = some (some (.builtin "object.__class__")))
    (e8_aBT : PySem.W.mroIn K aBT (.type "object") = some true)
    (e9_aBT : PySem.W.exmOne K (.ref aBT) (.ref aWE) = some true)
    (e0_aBT : PySem.W.kitOne K (.ref aBT) (.type "ValueError") = some true)
    (i_aBT_aBC : PySem.W.kitOne K (.ref aBT) (.ref aBC) = some false)
    (i_aBT_aBT : PySem.W.kitOne K (.ref aBT) (.ref aBT) = some true)
    (i_aBT_aNR : PySem.W.kitOne K (.ref aBT) (.ref aNR) = some false)
    (i_aBT_aBN : PySem.W.kitOne K (.ref aBT) (.ref aBN) = some false)
    (i_aBT_aBP : PySem.W.kitOne K (.ref aBT) (.ref aBP) = some false)
    (i_aBT_aBL : PySem.W.kitOne K (.ref aBT) (.ref aBL) = some false)
    (e1_aNR : PySem.W.findIn K (.ref aNR) "__getattribute__" = some (some (.builtin "BaseException.__getattribute__")))
    (e2_aNR : PySem.W.findIn K (.ref aNR) "__getattr__" = some none)
    (e4_aNR : PySem.W.hasDictIn K aNR = true)
    (e5_aNR : PySem.W.findIn K (.ref aNR) "__class__" = some (some (.builtin "object.__class__")))
    (e8_aNR : PySem.W.mroIn K aNR (.type "object") = some true)
    (e9_aNR : PySem.W.exmOne K (.ref aNR) (.ref aWE) = some true)
    (e0_aNR : PySem.W.kitOne K (.ref aNR) (.type "ValueError") = some true)
    (i_aNR_aBC : PySem.W.kitOne K (.ref aNR) (.ref aBC) = some false)
    (i_aNR_aBT : PySem.W.kitOne K (.ref aNR) (.ref aBT) = some false)
    (i_aNR_aNR : PySem.W.kitOne K (.ref aNR) (.ref aNR) = some true)
    (i_aNR_aBN : PySem.W.kitOne K (.ref aNR) (.ref aBN) = some false)
    (i_aNR_aBP : PySem.W.kitOne K (.ref aNR) (.ref aBP) = some false)
    (i_aNR_aBL : PySem.W.kitOne K (.ref aNR) (.ref aBL) = some false)
    (e1_aBN : PySem.W.findIn K (.ref aBN) "__getattribute__" = some (some (.builtin "BaseException.__getattribute__")))
    (e2_aBN : PySem.W.findIn K (.ref aBN) "__getattr__" = some none)
    (e4_aBN : PySem.W.hasDictIn K aBN = true)
    (e5_aBN : PySem.W.findIn K (.ref aBN) "__class__" = some (some (.builtin "object.__class__")))
    (e8_aBN : PySem.W.mroIn K aBN (.type "object") = some true)
    (e9_aBN : PySem.W.exmOne K (.ref aBN) (.ref aWE) = some true)
    (e0_aBN : PySem.W.kitOne K (.ref aBN) (.type "ValueError") = some true)
    (i_aBN_aBC : PySem.W.kitOne K (.ref aBN) (.ref aBC) = some false)
    (i_aBN_aBT : PySem.W.kitOne K (.ref aBN) (.ref aBT) = some false)
    (i_aBN_aNR : PySem.W.kitOne K (.ref aBN) (.ref aNR) = some false)
    (i_aBN_aBN : PySem.W.kitOne K (.ref aBN) (.ref aBN) = some true)
    (i_aBN_aBP : PySem.W.kitOne K (.ref aBN) (.ref aBP) = some false)
    (i_aBN_aBL : PySem.W.kitOne K (.ref aBN) (.ref aBL) = some false)
    (e1_aBP : PySem.W.findIn K (.ref aBP) "__getattribute__" = some (some (.builtin "BaseException.__getattribute__")))
    (e2_aBP : PySem.W.findIn K (.ref aBP) "__getattr__" = some none)
    (e4_aBP : PySem.W.hasDictIn K aBP = true)
    (e5_aBP : PySem.W.findIn K (.ref aBP) "__class__" = some (some (.builtin "object.__class__")))
    (e8_aBP : PySem.W.mroIn K aBP (.type "object") = some true)
    (e9_aBP : PySem.W.exmOne K (.ref aBP) (.ref aWE) = some true)
    (e0_aBP : PySem.W.kitOne K (.ref aBP) (.type "ValueError") = some true)
    (i_aBP_aBC : PySem.W.kitOne K (.ref aBP) (.ref aBC) = some false)
    (i_aBP_aBT : PySem.W.kitOne K (.ref aBP) (.ref aBT) = some false)
    (i_aBP_aNR : PySem.W.kitOne K (.ref aBP) (.ref aNR) = some false)
    (i_aBP_aBN : PySem.W.kitOne K (.ref aBP) (.ref aBN) = some false)
    (i_aBP_aBP : PySem.W.kitOne K (.ref aBP) (.ref aBP) = some true)
    (i_aBP_aBL : PySem.W.kitOne K (.ref aBP) (.ref aBL) = some false)
    (e1_aBL : PySem.W.findIn K (.ref aBL) "__getattribute__" = some (some (.builtin "BaseException.__getattribute__")))
    (e2_aBL : PySem.W.findIn K (.ref aBL) "__getattr__" = some none)
    (e4_aBL : PySem.W.hasDictIn K aBL = true)
    (e5_aBL : PySem.W.findIn K (.ref aBL) "__class__" = some (some (.builtin "object.__class__")))
    (e8_aBL : PySem.W.mroIn K aBL (.type "object") = some true)
    (e9_aBL : PySem.W.exmOne K (.ref aBL) (.ref aWE) = some true)
    (e0_aBL : PySem.W.kitOne K (.ref aBL) (.type "ValueError") = some true)
    (i_aBL_aBC : PySem.W.kitOne K (.ref aBL) (.ref aBC) = some false)
    (i_aBL_aBT : PySem.W.kitOne K (.ref aBL) (.ref aBT) = some false)
    (i_aBL_aNR : PySem.W.kitOne K (.ref aBL) (.ref aNR) = some false)
    (i_aBL_aBN : PySem.W.kitOne K (.ref aBL) (.ref aBN) = some false)
    (i_aBL_aBP : PySem.W.kitOne K (.ref aBL) (.ref aBP) = some false)
    (i_aBL_aBL : PySem.W.kitOne K (.ref aBL) (.ref aBL) = some true)
    (e6 : PySem.W.specialIn K (.builtin "object.__class__") "__get__" = some (some (.builtin "getset_descriptor.__get__")))
    (e7 : PySem.W.takesIn K (.builtin "object.__class__") = some true)
    : ∃ fd : FuncData, (∀ (s : Shared) (v : Value), BindsTo s fd ⟨[v], []⟩ [("_law_script", v)]) ∧ ∀ base : Heap, K.In base → base.Ns mainGlobals mg → FnOk l.prog w K mg base (L2N.CX l.prog w) 6 fa fd ["_law_script"] (spLaw K) := by
  have e := hfa.symm.trans (PySem.W.mg_of X G a_law)
  cases e
  refine ⟨PySem.W.fnOf "law" "law" (defArgs s_law) (defBody s_law) (defScope s_law) .none kV_law dc_law pm_law an_law cd_law ct_law, fun s v => .of_eq rfl, fun base _ _ => ?_⟩
  have D_stands : DefAt K mg "stands" s_stands ["word", "text", "at"] := ⟨_, _, fun_mk l_stands c_stands k_stands, PySem.W.mg_of X G a_stands, (fun_mk l_stands c_stands k_stands).binds fun _ _ _ _ _ _ us hl => match us, hl with | [_, _, _], _ => rfl⟩
  have D_is_number : DefAt K mg "is_number" s_is_number ["thing", "least", "most"] := ⟨_, _, fun_mk l_is_number c_is_number k_is_number, PySem.W.mg_of X G a_is_number, (fun_mk l_is_number c_is_number k_is_number).binds fun _ _ _ _ _ _ us hl => match us, hl with | [_, _, _], _ => rfl⟩
  have D_is_text : DefAt K mg "is_text" s_is_text ["thing"] := ⟨_, _, fun_mk l_is_text c_is_text k_is_text, PySem.W.mg_of X G a_is_text, (fun_mk l_is_text c_is_text k_is_text).binds fun _ _ _ _ _ _ us hl => match us, hl with | [_], _ => rfl⟩
  have D_asked_code : DefAt K mg "asked_code" s_asked_code ["code"] := ⟨_, _, fun_mk l_asked_code c_asked_code k_asked_code, PySem.W.mg_of X G a_asked_code, (fun_mk l_asked_code c_asked_code k_asked_code).binds fun _ _ _ _ _ _ us hl => match us, hl with | [_], _ => rfl⟩
  have D_asked_text : DefAt K mg "asked_text" s_asked_text ["text"] := ⟨_, _, fun_mk l_asked_text c_asked_text k_asked_text, PySem.W.mg_of X G a_asked_text, (fun_mk l_asked_text c_asked_text k_asked_text).binds fun _ _ _ _ _ _ us hl => match us, hl with | [_], _ => rfl⟩
  have D_joined : DefAt K mg "joined" s_joined ["code", "places"] := ⟨_, _, fun_mk l_joined c_joined k_joined, PySem.W.mg_of X G a_joined, (fun_mk l_joined c_joined k_joined).binds fun _ _ _ _ _ _ us hl => match us, hl with | [_, _], _ => rfl⟩
  have D_table_of : DefAt K mg "table_of" s_table_of ["code", "text"] := ⟨_, _, fun_mk l_table_of c_table_of k_table_of, PySem.W.mg_of X G a_table_of, (fun_mk l_table_of c_table_of k_table_of).binds fun _ _ _ _ _ _ us hl => match us, hl with | [_, _], _ => rfl⟩
  have D_text_of : DefAt K mg "text_of" s_text_of ["code", "places"] := ⟨_, _, fun_mk l_text_of c_text_of k_text_of, PySem.W.mg_of X G a_text_of, (fun_mk l_text_of c_text_of k_text_of).binds fun _ _ _ _ _ _ us hl => match us, hl with | [_, _], _ => rfl⟩
  have D_once : DefAt K mg "once" s_once ["code"] := ⟨_, _, fun_mk l_once c_once k_once, PySem.W.mg_of X G a_once, (fun_mk l_once c_once k_once).binds fun _ _ _ _ _ _ us hl => match us, hl with | [_], _ => rfl⟩
  have D_begins : DefAt K mg "begins" s_begins ["code"] := ⟨_, _, fun_mk l_begins c_begins k_begins, PySem.W.mg_of X G a_begins, (fun_mk l_begins c_begins k_begins).binds fun _ _ _ _ _ _ us hl => match us, hl with | [_], _ => rfl⟩
  have D_read : DefAt K mg "read" s_read ["code", "text"] := ⟨_, _, fun_mk l_read c_read k_read, PySem.W.mg_of X G a_read, (fun_mk l_read c_read k_read).binds fun _ _ _ _ _ _ us hl => match us, hl with | [_, _], _ => rfl⟩
  have D_how_many : DefAt K mg "how_many" s_how_many ["code", "text"] := ⟨_, _, fun_mk l_how_many c_how_many k_how_many, PySem.W.mg_of X G a_how_many, (fun_mk l_how_many c_how_many k_how_many).binds fun _ _ _ _ _ _ us hl => match us, hl with | [_, _], _ => rfl⟩
  have D_told : DefAt K mg "told" s_told ["code", "text", "number"] := ⟨_, _, fun_mk l_told c_told k_told, PySem.W.mg_of X G a_told, (fun_mk l_told c_told k_told).binds fun _ _ _ _ _ _ us hl => match us, hl with | [_, _, _], _ => rfl⟩
  have D_number_of : DefAt K mg "number_of" s_number_of ["code", "text", "places"] := ⟨_, _, fun_mk l_number_of c_number_of k_number_of, PySem.W.mg_of X G a_number_of, (fun_mk l_number_of c_number_of k_number_of).binds fun _ _ _ _ _ _ us hl => match us, hl with | [_, _, _], _ => rfl⟩
  have D_of_lengths : DefAt K mg "of_lengths" s_of_lengths ["letters", "lengths"] := ⟨_, _, fun_mk l_of_lengths c_of_lengths k_of_lengths, PySem.W.mg_of X G a_of_lengths, (fun_mk l_of_lengths c_of_lengths k_of_lengths).binds fun _ _ _ _ _ _ us hl => match us, hl with | [_, _], _ => rfl⟩
  have D__law_code_asked : DefAt K mg "_law_code_asked" s__law_code_asked ["_law_which", "_law_more"] := ⟨_, _, fun_mk l__law_code_asked c__law_code_asked k__law_code_asked, PySem.W.mg_of X G a__law_code_asked, (fun_mk l__law_code_asked c__law_code_asked k__law_code_asked).binds fun _ _ _ _ _ _ us hl => match us, hl with | [_, _], _ => rfl⟩
  have D__law_text_asked : DefAt K mg "_law_text_asked" s__law_text_asked ["_law_which", "_law_more"] := ⟨_, _, fun_mk l__law_text_asked c__law_text_asked k__law_text_asked, PySem.W.mg_of X G a__law_text_asked, (fun_mk l__law_text_asked c__law_text_asked k__law_text_asked).binds fun _ _ _ _ _ _ us hl => match us, hl with | [_, _], _ => rfl⟩
  have D__law_others_asked : DefAt K mg "_law_others_asked" s__law_others_asked ["_law_kind", "_law_which", "_law_more"] := ⟨_, _, fun_mk l__law_others_asked c__law_others_asked k__law_others_asked, PySem.W.mg_of X G a__law_others_asked, (fun_mk l__law_others_asked c__law_others_asked k__law_others_asked).binds fun _ _ _ _ _ _ us hl => match us, hl with | [_, _, _], _ => rfl⟩
  have D__law_told : DefAt K mg "_law_told" s__law_told ["_law_kind", "_law_which", "_law_more"] := ⟨_, _, fun_mk l__law_told c__law_told k__law_told, PySem.W.mg_of X G a__law_told, (fun_mk l__law_told c__law_told k__law_told).binds fun _ _ _ _ _ _ us hl => match us, hl with | [_, _, _], _ => rfl⟩
  have T : Blt mg := ⟨PySem.W.mg_none_of X G z_len, PySem.W.mg_none_of X G z_all, PySem.W.mg_none_of X G z_any, PySem.W.mg_none_of X G z_isinstance, PySem.W.mg_none_of X G z_range, PySem.W.mg_none_of X G z_sum, PySem.W.mg_none_of X G z_sorted, PySem.W.mg_none_of X G z_enumerate, PySem.W.mg_none_of X G z_max, PySem.W.mg_none_of X G z_min, PySem.W.mg_none_of X G z_reversed, PySem.W.mg_none_of X G z_list, PySem.W.mg_none_of X G z_int, PySem.W.mg_none_of X G z_str, PySem.W.mg_none_of X G z_bool, PySem.W.mg_none_of X G z_set, PySem.W.mg_none_of X G z_ValueError, ⟨_, PySem.W.mg_of X G z_LETTERS, tL, rfl⟩⟩
  have TLong : ∃ u, mg "LONGEST" = some u ∧ RelV (.int 100) u := ⟨_, PySem.W.mg_of X G z_LONGEST, tG, rfl⟩
  have G_WordError : mg "WordError" = some (.ref aWE) := PySem.W.mg_of X G g_WordError
  have G_BadCode : mg "BadCode" = some (.ref aBC) := PySem.W.mg_of X G g_BadCode
  have X_BadCode : ExcAt K mg "BadCode" aBC := ⟨PySem.W.mg_of X G g_BadCode, x_BadCode, y_BadCode, s_BadCode, t_BadCode⟩
  have G_BadText : mg "BadText" = some (.ref aBT) := PySem.W.mg_of X G g_BadText
  have X_BadText : ExcAt K mg "BadText" aBT := ⟨PySem.W.mg_of X G g_BadText, x_BadText, y_BadText, s_BadText, t_BadText⟩
  have G_NoReading : mg "NoReading" = some (.ref aNR) := PySem.W.mg_of X G g_NoReading
  have X_NoReading : ExcAt K mg "NoReading" aNR := ⟨PySem.W.mg_of X G g_NoReading, x_NoReading, y_NoReading, s_NoReading, t_NoReading⟩
  have G_BadNumber : mg "BadNumber" = some (.ref aBN) := PySem.W.mg_of X G g_BadNumber
  have X_BadNumber : ExcAt K mg "BadNumber" aBN := ⟨PySem.W.mg_of X G g_BadNumber, x_BadNumber, y_BadNumber, s_BadNumber, t_BadNumber⟩
  have G_BadPlaces : mg "BadPlaces" = some (.ref aBP) := PySem.W.mg_of X G g_BadPlaces
  have X_BadPlaces : ExcAt K mg "BadPlaces" aBP := ⟨PySem.W.mg_of X G g_BadPlaces, x_BadPlaces, y_BadPlaces, s_BadPlaces, t_BadPlaces⟩
  have G_BadLengths : mg "BadLengths" = some (.ref aBL) := PySem.W.mg_of X G g_BadLengths
  have X_BadLengths : ExcAt K mg "BadLengths" aBL := ⟨PySem.W.mg_of X G g_BadLengths, x_BadLengths, y_BadLengths, s_BadLengths, t_BadLengths⟩
  have ER0 : ErrAt K aBC aWE [(aBC, true), (aBT, false), (aNR, false), (aBN, false), (aBP, false), (aBL, false)] := ⟨⟨e1_aBC, e2_aBC, s_BadCode, e4_aBC, e5_aBC, e6, e7, e8_aBC⟩, e9_aBC, e0_aBC, fun p hp => by
      simp only [List.mem_cons, List.not_mem_nil, or_false] at hp
      rcases hp with rfl | rfl | rfl | rfl | rfl | rfl
      · exact i_aBC_aBC
      · exact i_aBC_aBT
      · exact i_aBC_aNR
      · exact i_aBC_aBN
      · exact i_aBC_aBP
      · exact i_aBC_aBL⟩
  have ER1 : ErrAt K aBT aWE [(aBC, false), (aBT, true), (aNR, false), (aBN, false), (aBP, false), (aBL, false)] := ⟨⟨e1_aBT, e2_aBT, s_BadText, e4_aBT, e5_aBT, e6, e7, e8_aBT⟩, e9_aBT, e0_aBT, fun p hp => by
      simp only [List.mem_cons, List.not_mem_nil, or_false] at hp
      rcases hp with rfl | rfl | rfl | rfl | rfl | rfl
      · exact i_aBT_aBC
      · exact i_aBT_aBT
      · exact i_aBT_aNR
      · exact i_aBT_aBN
      · exact i_aBT_aBP
      · exact i_aBT_aBL⟩
  have ER2 : ErrAt K aNR aWE [(aBC, false), (aBT, false), (aNR, true), (aBN, false), (aBP, false), (aBL, false)] := ⟨⟨e1_aNR, e2_aNR, s_NoReading, e4_aNR, e5_aNR, e6, e7, e8_aNR⟩, e9_aNR, e0_aNR, fun p hp => by
      simp only [List.mem_cons, List.not_mem_nil, or_false] at hp
      rcases hp with rfl | rfl | rfl | rfl | rfl | rfl
      · exact i_aNR_aBC
      · exact i_aNR_aBT
      · exact i_aNR_aNR
      · exact i_aNR_aBN
      · exact i_aNR_aBP
      · exact i_aNR_aBL⟩
  have ER3 : ErrAt K aBN aWE [(aBC, false), (aBT, false), (aNR, false), (aBN, true), (aBP, false), (aBL, false)] := ⟨⟨e1_aBN, e2_aBN, s_BadNumber, e4_aBN, e5_aBN, e6, e7, e8_aBN⟩, e9_aBN, e0_aBN, fun p hp => by
      simp only [List.mem_cons, List.not_mem_nil, or_false] at hp
      rcases hp with rfl | rfl | rfl | rfl | rfl | rfl
      · exact i_aBN_aBC
      · exact i_aBN_aBT
      · exact i_aBN_aNR
      · exact i_aBN_aBN
      · exact i_aBN_aBP
      · exact i_aBN_aBL⟩
  have ER4 : ErrAt K aBP aWE [(aBC, false), (aBT, false), (aNR, false), (aBN, false), (aBP, true), (aBL, false)] := ⟨⟨e1_aBP, e2_aBP, s_BadPlaces, e4_aBP, e5_aBP, e6, e7, e8_aBP⟩, e9_aBP, e0_aBP, fun p hp => by
      simp only [List.mem_cons, List.not_mem_nil, or_false] at hp
      rcases hp with rfl | rfl | rfl | rfl | rfl | rfl
      · exact i_aBP_aBC
      · exact i_aBP_aBT
      · exact i_aBP_aNR
      · exact i_aBP_aBN
      · exact i_aBP_aBP
      · exact i_aBP_aBL⟩
  have ER5 : ErrAt K aBL aWE [(aBC, false), (aBT, false), (aNR, false), (aBN, false), (aBP, false), (aBL, true)] := ⟨⟨e1_aBL, e2_aBL, s_BadLengths, e4_aBL, e5_aBL, e6, e7, e8_aBL⟩, e9_aBL, e0_aBL, fun p hp => by
      simp only [List.mem_cons, List.not_mem_nil, or_false] at hp
      rcases hp with rfl | rfl | rfl | rfl | rfl | rfl
      · exact i_aBL_aBC
      · exact i_aBL_aBT
      · exact i_aBL_aNR
      · exact i_aBL_aBN
      · exact i_aBL_aBP
      · exact i_aBL_aBL⟩
  have C_stands := ok_stands (P := l.prog) (w := w) (base := base) D_stands T
  have C_is_number := ok7_is_number (P := l.prog) (w := w) (base := base) D_is_number T
  have C_is_text := ok7_is_text (P := l.prog) (w := w) (base := base) D_is_text T
  have C_asked_code := ok7_asked_code (P := l.prog) (w := w) (base := base) D_asked_code T X_BadCode C_is_text
  have C_asked_text := ok7_asked_text (P := l.prog) (w := w) (base := base) D_asked_text T X_BadText C_is_text
  have C_joined := ok_joined (P := l.prog) (w := w) (base := base) D_joined T
  have C_table_of := ok_table_of (P := l.prog) (w := w) (base := base) D_table_of T C_stands
  have C_text_of := ok7_text_of (P := l.prog) (w := w) (base := base) D_text_of T X_BadPlaces C_asked_code C_is_number C_joined
  have C_once := ok7_once (P := l.prog) (w := w) (base := base) D_once C_asked_code
  have C_begins := ok7_begins (P := l.prog) (w := w) (base := base) D_begins C_asked_code
  have C_read := ok7_read (P := l.prog) (w := w) (base := base) D_read C_asked_code C_asked_text
  have C_how_many := ok7_how_many (P := l.prog) (w := w) (base := base) D_how_many T C_asked_code C_asked_text C_table_of
  have C_told := ok7_told (P := l.prog) (w := w) (base := base) D_told T X_NoReading X_BadNumber C_asked_code C_asked_text C_table_of C_is_number
  have C_number_of := ok7_number_of (P := l.prog) (w := w) (base := base) D_number_of T X_NoReading X_BadPlaces C_asked_code C_asked_text C_table_of C_joined C_is_number C_stands
  have C_of_lengths := ok7_of_lengths (P := l.prog) (w := w) (base := base) D_of_lengths T TLong X_BadLengths C_is_number
  have C__law_code_asked := ok__law_code_asked (P := l.prog) (w := w) (base := base) D__law_code_asked T C_once C_begins C_text_of C_read C_how_many C_told C_number_of
  have C__law_text_asked := ok__law_text_asked (P := l.prog) (w := w) (base := base) D__law_text_asked T C_read C_how_many C_told C_number_of
  have C__law_others_asked := ok__law_others_asked (P := l.prog) (w := w) (base := base) D__law_others_asked T C_text_of C_told C_number_of C_of_lengths
  have C__law_told := ok__law_told (P := l.prog) (w := w) (base := base) D__law_told T G_WordError G_BadCode G_BadLengths G_BadPlaces G_BadText G_NoReading G_BadNumber ER0 ER1 ER2 ER3 ER4 ER5 C__law_code_asked C__law_text_asked C__law_others_asked
  exact ok_law (fun_mk l_law c_law k_law) T C__law_told C_text_of C_how_many C_number_of
end
theorem walk {l : PySem.W.OpenLaw} {q : Program} {loose : List Str} {XP : (Str → Option Value) → Heap → Prop} {YP : World → Heap → Prop} {d : DefRec} {K : Params → PySem.W.Frag} (hn : l.most = some 63) (hdf : d.params.defaults = [])
    (hY : ∀ (w : World) (h : Heap), YP w h → (K w.params).In h)
    (F : ∀ (w : World) (mg : Str → Option Value) (fa : Addr) (h : Heap), (K w.params).In h → h.Ns mainGlobals mg → mg d.name = some (.ref fa) →
      ∃ fd : FuncData, (∀ (s : Shared) (u : Value), BindsTo s fd ⟨[u], []⟩ [("_law_script", u)]) ∧ ∀ base : Heap, (K w.params).In base → base.Ns mainGlobals mg → FnOk l.prog w (K w.params) mg base (L2N.CX l.prog w) 6 fa fd ["_law_script"] (spLaw (K w.params))) :
    PySem.W.WalkO q loose XP YP l.row.toRowW d [] (fun f vs => PySem.call f vs) :=
  L2.walk_of (n := 63) (k := 6) (x := "_law_script") (CX := fun w => L2N.CX l.prog w) (sp := fun w => spLaw (K w.params)) hn (by decide) hdf ⟨rfl, by decide, by decide⟩ hY F (fun _ _ a ns hl _ hS => ⟨a, ns, rfl, hS, hl, fun _ _ => rfl⟩) fun _ _ _ _ _ z => by
    obtain ⟨_, _, _, _, _, _, _, _, _, _, _, _, y⟩ := z
    exact y
end Tr
open PySem PySem.W PyProof.Rows
set_option maxRecDepth 100000 in
set_option maxHeartbeats 0 in
theorem PySem.Challenge.cw_tworeadings_k07_refused_holds : PySem.Challenge.rw_tworeadings_k07_refused.Holds := by
  w_on; o_law; k_head; (case hw => w_witness2)
  k_fill
  refine Tr.walk (l := PySem.Challenge.rw_tworeadings_k07_refused) rfl rfl (fun w h Y => by first | exact PySem.W.kIn_of Y | exact PySem.W.km_in_of Y) ?F
  case F =>
    intro w mg fa h KX G hmg
    refine' Tr.all_mk KX G hmg ?a_stands ?l_stands ?c_stands ?k_stands ?a_is_number ?l_is_number ?c_is_number ?k_is_number ?a_is_text ?l_is_text ?c_is_text ?k_is_text ?a_asked_code ?l_asked_code ?c_asked_code ?k_asked_code ?a_asked_text ?l_asked_text ?c_asked_text ?k_asked_text ?a_joined ?l_joined ?c_joined ?k_joined ?a_table_of ?l_table_of ?c_table_of ?k_table_of ?a_text_of ?l_text_of ?c_text_of ?k_text_of ?a_once ?l_once ?c_once ?k_once ?a_begins ?l_begins ?c_begins ?k_begins ?a_read ?l_read ?c_read ?k_read ?a_how_many ?l_how_many ?c_how_many ?k_how_many ?a_told ?l_told ?c_told ?k_told ?a_number_of ?l_number_of ?c_number_of ?k_number_of ?a_of_lengths ?l_of_lengths ?c_of_lengths ?k_of_lengths ?a__law_code_asked ?l__law_code_asked ?c__law_code_asked ?k__law_code_asked ?a__law_text_asked ?l__law_text_asked ?c__law_text_asked ?k__law_text_asked ?a__law_others_asked ?l__law_others_asked ?c__law_others_asked ?k__law_others_asked ?a__law_told ?l__law_told ?c__law_told ?k__law_told ?a_law ?l_law ?c_law ?k_law ?z_len ?z_all ?z_any ?z_isinstance ?z_range ?z_sum ?z_sorted ?z_enumerate ?z_max ?z_min ?z_reversed ?z_list ?z_int ?z_str ?z_bool ?z_set ?z_ValueError ?z_LETTERS ?z_LONGEST ?g_WordError ?g_BadCode ?x_BadCode ?y_BadCode ?s_BadCode ?t_BadCode ?g_BadText ?x_BadText ?y_BadText ?s_BadText ?t_BadText ?g_NoReading ?x_NoReading ?y_NoReading ?s_NoReading ?t_NoReading ?g_BadNumber ?x_BadNumber ?y_BadNumber ?s_BadNumber ?t_BadNumber ?g_BadPlaces ?x_BadPlaces ?y_BadPlaces ?s_BadPlaces ?t_BadPlaces ?g_BadLengths ?x_BadLengths ?y_BadLengths ?s_BadLengths ?t_BadLengths ?e1_aBC ?e2_aBC ?e4_aBC ?e5_aBC ?e8_aBC ?e9_aBC ?e0_aBC ?i_aBC_aBC ?i_aBC_aBT ?i_aBC_aNR ?i_aBC_aBN ?i_aBC_aBP ?i_aBC_aBL ?e1_aBT ?e2_aBT ?e4_aBT ?e5_aBT ?e8_aBT ?e9_aBT ?e0_aBT ?i_aBT_aBC ?i_aBT_aBT ?i_aBT_aNR ?i_aBT_aBN ?i_aBT_aBP ?i_aBT_aBL ?e1_aNR ?e2_aNR ?e4_aNR ?e5_aNR ?e8_aNR ?e9_aNR ?e0_aNR ?i_aNR_aBC ?i_aNR_aBT ?i_aNR_aNR ?i_aNR_aBN ?i_aNR_aBP ?i_aNR_aBL ?e1_aBN ?e2_aBN ?e4_aBN ?e5_aBN ?e8_aBN ?e9_aBN ?e0_aBN ?i_aBN_aBC ?i_aBN_aBT ?i_aBN_aNR ?i_aBN_aBN ?i_aBN_aBP ?i_aBN_aBL ?e1_aBP ?e2_aBP ?e4_aBP ?e5_aBP ?e8_aBP ?e9_aBP ?e0_aBP ?i_aBP_aBC ?i_aBP_aBT ?i_aBP_aNR ?i_aBP_aBN ?i_aBP_aBP ?i_aBP_aBL ?e1_aBL ?e2_aBL ?e4_aBL ?e5_aBL ?e8_aBL ?e9_aBL ?e0_aBL ?i_aBL_aBC ?i_aBL_aBT ?i_aBL_aNR ?i_aBL_aBN ?i_aBL_aBP ?i_aBL_aBL ?e6 ?e7
    (case a_stands => first | k_is | rfl); (case l_stands => first | k_is | rfl); (case c_stands => first | k_is | rfl); (case k_stands => first | k_is | rfl); (case a_is_number => first | k_is | rfl); (case l_is_number => first | k_is | rfl)
    (case c_is_number => first | k_is | rfl); (case k_is_number => first | k_is | rfl); (case a_is_text => first | k_is | rfl); (case l_is_text => first | k_is | rfl); (case c_is_text => first | k_is | rfl); (case k_is_text => first | k_is | rfl)
    (case a_asked_code => first | k_is | rfl); (case l_asked_code => first | k_is | rfl); (case c_asked_code => first | k_is | rfl); (case k_asked_code => first | k_is | rfl); (case a_asked_text => first | k_is | rfl); (case l_asked_text => first | k_is | rfl)
    (case c_asked_text => first | k_is | rfl); (case k_asked_text => first | k_is | rfl); (case a_joined => first | k_is | rfl); (case l_joined => first | k_is | rfl); (case c_joined => first | k_is | rfl); (case k_joined => first | k_is | rfl)
    (case a_table_of => first | k_is | rfl); (case l_table_of => first | k_is | rfl); (case c_table_of => first | k_is | rfl); (case k_table_of => first | k_is | rfl); (case a_text_of => first | k_is | rfl); (case l_text_of => first | k_is | rfl)
    (case c_text_of => first | k_is | rfl); (case k_text_of => first | k_is | rfl); (case a_once => first | k_is | rfl); (case l_once => first | k_is | rfl); (case c_once => first | k_is | rfl); (case k_once => first | k_is | rfl)
    (case a_begins => first | k_is | rfl); (case l_begins => first | k_is | rfl); (case c_begins => first | k_is | rfl); (case k_begins => first | k_is | rfl); (case a_read => first | k_is | rfl); (case l_read => first | k_is | rfl)
    (case c_read => first | k_is | rfl); (case k_read => first | k_is | rfl); (case a_how_many => first | k_is | rfl); (case l_how_many => first | k_is | rfl); (case c_how_many => first | k_is | rfl); (case k_how_many => first | k_is | rfl)
    (case a_told => first | k_is | rfl); (case l_told => first | k_is | rfl); (case c_told => first | k_is | rfl); (case k_told => first | k_is | rfl); (case a_number_of => first | k_is | rfl); (case l_number_of => first | k_is | rfl)
    (case c_number_of => first | k_is | rfl); (case k_number_of => first | k_is | rfl); (case a_of_lengths => first | k_is | rfl); (case l_of_lengths => first | k_is | rfl); (case c_of_lengths => first | k_is | rfl); (case k_of_lengths => first | k_is | rfl)
    (case a__law_code_asked => first | k_is | rfl); (case l__law_code_asked => first | k_is | rfl); (case c__law_code_asked => first | k_is | rfl); (case k__law_code_asked => first | k_is | rfl); (case a__law_text_asked => first | k_is | rfl); (case l__law_text_asked => first | k_is | rfl)
    (case c__law_text_asked => first | k_is | rfl); (case k__law_text_asked => first | k_is | rfl); (case a__law_others_asked => first | k_is | rfl); (case l__law_others_asked => first | k_is | rfl); (case c__law_others_asked => first | k_is | rfl); (case k__law_others_asked => first | k_is | rfl)
    (case a__law_told => first | k_is | rfl); (case l__law_told => first | k_is | rfl); (case c__law_told => first | k_is | rfl); (case k__law_told => first | k_is | rfl); (case a_law => first | k_is | rfl); (case l_law => first | k_is | rfl)
    (case c_law => first | k_is | rfl); (case k_law => first | k_is | rfl); (case z_len => first | k_is | rfl); (case z_all => first | k_is | rfl); (case z_any => first | k_is | rfl); (case z_isinstance => first | k_is | rfl)
    (case z_range => first | k_is | rfl); (case z_sum => first | k_is | rfl); (case z_sorted => first | k_is | rfl); (case z_enumerate => first | k_is | rfl); (case z_max => first | k_is | rfl); (case z_min => first | k_is | rfl)
    (case z_reversed => first | k_is | rfl); (case z_list => first | k_is | rfl); (case z_int => first | k_is | rfl); (case z_str => first | k_is | rfl); (case z_bool => first | k_is | rfl); (case z_set => first | k_is | rfl)
    (case z_ValueError => first | k_is | rfl); (case z_LETTERS => first | k_is | rfl); (case z_LONGEST => first | k_is | rfl); (case g_WordError => first | k_is | rfl); (case g_BadCode => first | k_is | rfl); (case x_BadCode => k_exc)
    (case y_BadCode => first | k_is | rfl); (case s_BadCode => first | k_is | rfl); (case t_BadCode => first | k_is | rfl); (case g_BadText => first | k_is | rfl); (case x_BadText => k_exc); (case y_BadText => first | k_is | rfl)
    (case s_BadText => first | k_is | rfl); (case t_BadText => first | k_is | rfl); (case g_NoReading => first | k_is | rfl); (case x_NoReading => k_exc); (case y_NoReading => first | k_is | rfl); (case s_NoReading => first | k_is | rfl)
    (case t_NoReading => first | k_is | rfl); (case g_BadNumber => first | k_is | rfl); (case x_BadNumber => k_exc); (case y_BadNumber => first | k_is | rfl); (case s_BadNumber => first | k_is | rfl); (case t_BadNumber => first | k_is | rfl)
    (case g_BadPlaces => first | k_is | rfl); (case x_BadPlaces => k_exc); (case y_BadPlaces => first | k_is | rfl); (case s_BadPlaces => first | k_is | rfl); (case t_BadPlaces => first | k_is | rfl); (case g_BadLengths => first | k_is | rfl)
    (case x_BadLengths => k_exc); (case y_BadLengths => first | k_is | rfl); (case s_BadLengths => first | k_is | rfl); (case t_BadLengths => first | k_is | rfl); (case e1_aBC => first | k_is | rfl); (case e2_aBC => first | k_is | rfl)
    (case e4_aBC => first | k_is | rfl); (case e5_aBC => first | k_is | rfl); (case e8_aBC => first | k_is | rfl); (case e9_aBC => first | k_is | rfl); (case e0_aBC => first | k_is | rfl); (case i_aBC_aBC => first | k_is | rfl)
    (case i_aBC_aBT => first | k_is | rfl); (case i_aBC_aNR => first | k_is | rfl); (case i_aBC_aBN => first | k_is | rfl); (case i_aBC_aBP => first | k_is | rfl); (case i_aBC_aBL => first | k_is | rfl); (case e1_aBT => first | k_is | rfl)
    (case e2_aBT => first | k_is | rfl); (case e4_aBT => first | k_is | rfl); (case e5_aBT => first | k_is | rfl); (case e8_aBT => first | k_is | rfl); (case e9_aBT => first | k_is | rfl); (case e0_aBT => first | k_is | rfl)
    (case i_aBT_aBC => first | k_is | rfl); (case i_aBT_aBT => first | k_is | rfl); (case i_aBT_aNR => first | k_is | rfl); (case i_aBT_aBN => first | k_is | rfl); (case i_aBT_aBP => first | k_is | rfl); (case i_aBT_aBL => first | k_is | rfl)
    (case e1_aNR => first | k_is | rfl); (case e2_aNR => first | k_is | rfl); (case e4_aNR => first | k_is | rfl); (case e5_aNR => first | k_is | rfl); (case e8_aNR => first | k_is | rfl); (case e9_aNR => first | k_is | rfl)
    (case e0_aNR => first | k_is | rfl); (case i_aNR_aBC => first | k_is | rfl); (case i_aNR_aBT => first | k_is | rfl); (case i_aNR_aNR => first | k_is | rfl); (case i_aNR_aBN => first | k_is | rfl); (case i_aNR_aBP => first | k_is | rfl)
    (case i_aNR_aBL => first | k_is | rfl); (case e1_aBN => first | k_is | rfl); (case e2_aBN => first | k_is | rfl); (case e4_aBN => first | k_is | rfl); (case e5_aBN => first | k_is | rfl); (case e8_aBN => first | k_is | rfl)
    (case e9_aBN => first | k_is | rfl); (case e0_aBN => first | k_is | rfl); (case i_aBN_aBC => first | k_is | rfl); (case i_aBN_aBT => first | k_is | rfl); (case i_aBN_aNR => first | k_is | rfl); (case i_aBN_aBN => first | k_is | rfl)
    (case i_aBN_aBP => first | k_is | rfl); (case i_aBN_aBL => first | k_is | rfl); (case e1_aBP => first | k_is | rfl); (case e2_aBP => first | k_is | rfl); (case e4_aBP => first | k_is | rfl); (case e5_aBP => first | k_is | rfl)
    (case e8_aBP => first | k_is | rfl); (case e9_aBP => first | k_is | rfl); (case e0_aBP => first | k_is | rfl); (case i_aBP_aBC => first | k_is | rfl); (case i_aBP_aBT => first | k_is | rfl); (case i_aBP_aNR => first | k_is | rfl)
    (case i_aBP_aBN => first | k_is | rfl); (case i_aBP_aBP => first | k_is | rfl); (case i_aBP_aBL => first | k_is | rfl); (case e1_aBL => first | k_is | rfl); (case e2_aBL => first | k_is | rfl); (case e4_aBL => first | k_is | rfl)
    (case e5_aBL => first | k_is | rfl); (case e8_aBL => first | k_is | rfl); (case e9_aBL => first | k_is | rfl); (case e0_aBL => first | k_is | rfl); (case i_aBL_aBC => first | k_is | rfl); (case i_aBL_aBT => first | k_is | rfl)
    (case i_aBL_aNR => first | k_is | rfl); (case i_aBL_aBN => first | k_is | rfl); (case i_aBL_aBP => first | k_is | rfl); (case i_aBL_aBL => first | k_is | rfl); (case e6 => first | k_is | rfl); (case e7 => first | k_is | rfl)
#print axioms PySem.Challenge.cw_tworeadings_k07_refused_holds
