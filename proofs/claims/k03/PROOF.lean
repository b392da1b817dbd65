import PyProof.Rows.All
import Wide.All
import OpenK.AllK
import Wide.FinOn
import HandS.ForMost
import HandS.ForExc
import HandS.Evl
import HandS.IsInst
import HandS.StrMore
import HandS.Style
import HandS.SortInts
import HandS.SortRule
import HandS.SortKw
import HandS.RevRange
import HandS.SetFor
import HandS.Strs
import HandS.More
import HandS.ExcIs
import HandS.ExcCtx
import HandS.HotCalls
import HandS.Dict
import HandS.Hot
import PySem.Challenge.RW_tworeadings_k03_whole_counted
import PyProof.StrOps2
import KE.LtSeq
import HandS.TupLe
import PyProof.Rows.SetFrom
set_option Elab.async false
set_option linter.all false
set_option maxRecDepth 100000
set_option maxHeartbeats 4000000
/-! TrA: defs that may be called (Cal, DefAt), texts as lists of codes, pure expressions. -/
namespace Tr
open PySem PySem.Spec PyProof.Rows L2 Evl

/-! ### defs -/
section
variable {P : Program} {w : World} {K : PySem.W.Frag} {mg : Str → Option Value} {base : Heap}
/-- a def that may be called by its name -/
structure Cal (P : Program) (w : World) (K : PySem.W.Frag) (mg : Str → Option Value) (base : Heap) (k : Nat) (x : Str) (sp : Sp) : Prop where
  ex : ∃ (f : Addr) (fd : FuncData) (ps : List Str), FnOk P w K mg base (L2N.CX P w) k f fd ps sp ∧ mg x = some (.ref f) ∧ PySem.W.keepIn K (.ref f) = true ∧ Binds K fd ps []
/-- a def as the top has left it -/
structure DefAt (K : PySem.W.Frag) (mg : Str → Option Value) (x : Str) (st : Stmt) (ps : List Str) : Prop where
  ex : ∃ (f : Addr) (fd : FuncData), Fun K x x st f fd ∧ mg x = some (.ref f) ∧ Binds K fd ps []
theorem cal_of {x : Str} {st : Stmt} {N ps : List Str} {k : Nat} {sp : Sp} (D : DefAt K mg x st ps) (S : FnScope N ps (defScope st)) (len : ∀ vs H Q E, sp vs H Q E → vs.length = ps.length)
    (hbody : ∀ (f : Addr) (cdv : Value) (A : Around) (outer : List Env) (s : Shared) (H : Hp) (vs : List V) (Q : VK) (E : XK), Room k (A.deeper (envOfC x (defScope st) s.heap.objs.size f cdv)) → sp vs H Q E →
      ∃ t, PSs (cxOf (L2N.CX P w) P w K mg base N x (defScope st) f cdv A outer s H E).nox (defBody st) t ∧ t { nx := fun _ H' => Q .non H', rt := Q } (start N vs) H) : Cal P w K mg base (k + 1) x sp := by
  obtain ⟨f, fd, F, m, b⟩ := D.ex
  obtain ⟨oc, od, kV, doc, pm, an, cdv, ct, osl, rfl, lk, hcd⟩ := F.ex
  refine ⟨f, _, ps, fn_of lk hcd S len fun A outer s H vs Q E hr hsp => ?_, m, F.kp, b⟩
  obtain ⟨t, h, q⟩ := hbody f cdv A outer s H vs Q E hr hsp
  exact ⟨t, h.nox, q⟩
/-- .. of the law itself -/
theorem fnok_of {x : Str} {st : Stmt} {N ps : List Str} {k : Nat} {sp : Sp} {f : Addr} {fd : FuncData} (F : Fun K x x st f fd) (S : FnScope N ps (defScope st)) (len : ∀ vs H Q E, sp vs H Q E → vs.length = ps.length)
    (hbody : ∀ (f : Addr) (cdv : Value) (A : Around) (outer : List Env) (s : Shared) (H : Hp) (vs : List V) (Q : VK) (E : XK), Room k (A.deeper (envOfC x (defScope st) s.heap.objs.size f cdv)) → sp vs H Q E →
      ∃ t, PSs (cxOf (L2N.CX P w) P w K mg base N x (defScope st) f cdv A outer s H E).nox (defBody st) t ∧ t { nx := fun _ H' => Q .non H', rt := Q } (start N vs) H) : FnOk P w K mg base (L2N.CX P w) (k + 1) f fd ps sp := by
  obtain ⟨oc, od, kV, doc, pm, an, cdv, ct, osl, rfl, lk, hcd⟩ := F.ex
  refine fn_of lk hcd S len fun A outer s H vs Q E hr hsp => ?_
  obtain ⟨t, h, q⟩ := hbody f cdv A outer s H vs Q E hr hsp
  exact ⟨t, h.nox, q⟩
/-- .. of a def that may raise -/
theorem calX_of {x : Str} {st : Stmt} {N ps : List Str} {k : Nat} {sp : Sp} (D : DefAt K mg x st ps) (S : FnScope N ps (defScope st)) (len : ∀ vs H Q E, sp vs H Q E → vs.length = ps.length)
    (hbody : ∀ (f : Addr) (cdv : Value) (A : Around) (outer : List Env) (s : Shared) (H : Hp) (vs : List V) (Q : VK) (E : XK), Room k (A.deeper (envOfC x (defScope st) s.heap.objs.size f cdv)) → sp vs H Q E →
      ∃ t, PSs (cxOf (L2N.CX P w) P w K mg base N x (defScope st) f cdv A outer s H E) (defBody st) t ∧ t { nx := fun _ H' => Q .non H', rt := Q } (start N vs) H) : Cal P w K mg base (k + 1) x sp := by
  obtain ⟨f, fd, F, m, b⟩ := D.ex
  obtain ⟨oc, od, kV, doc, pm, an, cdv, ct, osl, rfl, lk, hcd⟩ := F.ex
  exact ⟨f, _, ps, fn_of lk hcd S len fun A outer s H vs Q E hr hsp => hbody f cdv A outer s H vs Q E hr hsp, m, F.kp, b⟩
end
section
variable {X : Cx} {k j : Nat} {x : Str} {sp : Sp} {p pos : Pos} {e : Expr} {es : List Expr} {t : TA}
theorem passN : Passes (L2N.CX X.prog X.w) X E0 := fun _ _ _ _ _ _ _ c => by
  obtain ⟨_, _, _, _, _, _, _, _, _, _, _, _, z⟩ := c
  exact False.elim z
/-- f(e, ..), nothing raised -/
theorem pe_c (c : Cal X.prog X.w X.K X.mg X.base k x sp) (hr : Room j X.A) (hk : k ≤ j) (hg : Gl X x) (ha : PA X (e :: es) t) (hdb : (x == ("__debug__" : Str)) = false := by decide)
    (he : starEach (e :: es) X.env = (false, eval e X.env) :: starEach es X.env := by rfl) (hpl : (backTo pos (starEach es X.env)).any (·.1) = false := by rfl) : PE X (.Call (.Name x p) (e :: es) [] pos) (tCall sp [] E0 t) := by
  obtain ⟨f, fd, ps, F, m, kp, b⟩ := c.ex
  exact pe_call F (hr.mono hk) hg m kp b .nil passN ha hdb he hpl
/-- f(e, ..), what it raises leaves this def too -/
theorem pe_cX {E : XK} (tk : L2N.Takes X fun cls d _ H => E cls d H) (c : Cal X.prog X.w X.K X.mg X.base k x sp) (hr : Room j X.A) (hk : k ≤ j) (hg : Gl X x) (ha : PA X (e :: es) t) (hdb : (x == ("__debug__" : Str)) = false := by decide)
    (he : starEach (e :: es) X.env = (false, eval e X.env) :: starEach es X.env := by rfl) (hpl : (backTo pos (starEach es X.env)).any (·.1) = false := by rfl) : PE X (.Call (.Name x p) (e :: es) [] pos) (tCall sp [] E t) := by
  obtain ⟨f, fd, ps, F, m, kp, b⟩ := c.ex
  exact pe_call F (hr.mono hk) hg m kp b .nil (L2N.passes_call tk fun _ _ _ _ h => h) ha hdb he hpl
/-- f(e, ..) within a try: what it raises is looked at there -/
theorem pe_cT {W : WX} (tk : L2N.Takes X W) (c : Cal X.prog X.w X.K X.mg X.base k x sp) (hr : Room j X.A) (hk : k ≤ j) (hg : Gl X x) (ha : PA X (e :: es) t) (hdb : (x == ("__debug__" : Str)) = false := by decide)
    (he : starEach (e :: es) X.env = (false, eval e X.env) :: starEach es X.env := by rfl) (hpl : (backTo pos (starEach es X.env)).any (·.1) = false := by rfl) : PE X (.Call (.Name x p) (e :: es) [] pos) (tCallS sp (WE W) t) := by
  obtain ⟨f, fd, ps, F, m, kp, b⟩ := c.ex
  exact pe_callS F (hr.mono hk) hg m kp b (fun σ => L2N.passAt tk σ) ha hdb he hpl
theorem takes0N : L2N.Takes X (fun _ _ _ _ => False) := fun _ _ x => by
  obtain ⟨_, _, _, _, _, _, _, _, _, _, _, _, _, _, _, _, z⟩ := x
  exact z.elim
end

/-! ### exception classes of the text -/
structure ExcAt (K : PySem.W.Frag) (mg : Str → Option Value) (x : Str) (C : Addr) : Prop where
  g : mg x = some (.ref C)
  xin : PySem.W.excIn K C [.type "ValueError", .type "Exception", .type "BaseException", .type "object"] "ValueError.__new__" = true
  kp : PySem.W.keepIn K (.ref C) = true
  sb : PySem.W.subIn K (.ref C) (.type "BaseException") = some true
  ty : PySem.W.typeIn K (.ref C) = some (.type "type")
theorem pmk_c {X : Cx} {K : PySem.W.Frag} {mg : Str → Option Value} {x m : Str} {C : Addr} {j : Nat} {p p2 pos : Pos} (hK : X.K = K) (hm : X.mg = mg) (A : ExcAt K mg x C) (hg : Gl X x) (hdb : (x == ("__debug__" : Str)) = false := by decide) :
    L2N.PMk X (.Call (.Name x p) [.Constant (.str m) j p2] [] pos) (fun _ H Q => Q (.ref C) none H) := by
  subst hK hm
  exact L2N.pmk_own PySem.F.excBase_ValueError A.xin A.g A.kp (raises_own A.sb A.ty) hg hdb
theorem pe_exc {X : Cx} {mg : Str → Option Value} {x : Str} {C : Addr} {pos : Pos} (hm : X.mg = mg) (g : mg x = some (.ref C)) (hg : Gl X x) (hdb : (x == ("__debug__" : Str)) = false := by decide) : PE X (.Name x pos) (tC (.ref C)) := by
  subst hm
  exact pe_glob hg g rfl hdb
/-! ### the rules that name the written part, with it as a letter -/
section
variable {X : Cx} {K : PySem.W.Frag}
theorem ix_listK (h : X.K = K) : IxR X (rIxL K) := h ▸ ix_list
theorem ix_tupK (h : X.K = K) : IxR X (rIxT K) := h ▸ ix_tup
theorem call_isiK' (h : X.K = K) : CallR X (.builtin "isinstance") (rIsi K) := h ▸ call_isi
theorem cr_allK (h : X.K = K) (hc : X.calm = true) : CallR X (.builtin "all") (rAll K) := h ▸ cr_all hc
theorem cr_anyK (h : X.K = K) (hc : X.calm = true) : CallR X (.builtin "any") (rAny K) := h ▸ cr_any hc
theorem cr_sumK (h : X.K = K) (hc : X.calm = true) : CallR X (.builtin "sum") (rSum K) := h ▸ cr_sum hc
theorem cr_sortedIK (h : X.K = K) : CallR X (.builtin "sorted") (rSortedI K) := h ▸ cr_sortedI
theorem cr_sortedSK (h : X.K = K) : CallR X (.builtin "sorted") (rSortedS K) := h ▸ cr_sortedS
theorem cr_sortedPOK (h : X.K = K) : CallR X (.builtin "sorted") (rSortedPO K) := h ▸ cr_sortedPO
theorem op_in_seqK (h : X.K = K) : OpR X (compareOp .In) (rIn K false) := h ▸ op_in_seq
theorem op_notIn_seqK (h : X.K = K) : OpR X (compareOp .NotIn) (rIn K true) := h ▸ op_notIn_seq
theorem op_eqDK (h : X.K = K) (hu : X.A.units + 64 < cLine) : OpR X (compareOp .Eq) (rEqD K) := h ▸ op_eqD hu
theorem op_neDK (h : X.K = K) (hu : X.A.units + 64 < cLine) : OpR X (compareOp .NotEq) (rNeD K) := h ▸ op_neD hu
theorem sl_listK (h : X.K = K) : SlR X (rSlL K) := h ▸ sl_list
/-- len of a list or a tuple -/
def rLenQ (K : PySem.W.Frag) : List V → Hp → VK → Prop := fun xs H Q => ∃ p ys, xs = [.ref p] ∧ (SqL K H p ys ∨ SqT K H p ys) ∧ Q (.int ys.length) H
theorem call_len_seqK (h : X.K = K) : CallR X (.builtin "len") (rLenQ K) := h ▸ call_len_seq
def rListQ (K : PySem.W.Frag) : List V → Hp → VK → Prop := fun xs H Q => ∃ p ys, xs = [.ref p] ∧ (SqL K H p ys ∨ SqT K H p ys) ∧ ∀ l, H l = none → Q (.ref l) (upd H l (.lst ys))
theorem call_list_ofK (h : X.K = K) : CallR X (.type "list") (rListQ K) := h ▸ call_list_of
theorem mt_lcountK (h : X.K = K) : MtR X "list.count" (rCntI K) := h ▸ mt_lcount
theorem pi_listK {tg l : Expr} {tl : TE} (h : X.K = K) (hl : PE X l tl) : PI X tg l (iList K tl) := h ▸ pi_list hl
theorem pi_enumK {e : Expr} {ta : TA} {p pos tpos : Pos} {elts : List Expr} {kk : Nat} (h : X.K = K) (hg : Gl X "enumerate") (hm : X.mg "enumerate" = none) (ha : PA X [e] ta) (hs : starEach [e] X.env = (false, eval e X.env) :: starEach [] X.env := by rfl) :
    PI X (.Tuple elts kk tpos) (.Call (.Name "enumerate" p) [e] [] pos) (iEnum K ta) := h ▸ pi_enum hg hm ha hs
theorem pg_tupK {es : List Expr} {k : Nat} {t : TGs} {n : Nat} {pos : Pos} (h : X.K = K) (hc : X.calm = true) (hp : PGs X es t) (hn : (assignEach es X.env).length = n := by rfl) (hst : (assignEach es X.env).findIdx? (·.1) = none := by rfl) : PG X (.Tuple es k pos) (gTup K n t) := h ▸ pg_tup hc hp hn hst
theorem pe_fldK {e : Expr} {f : Str} {pos : Pos} {ta : TE} (h : X.K = K) (he : PE X e ta) (hb : attributeBase e f X.env (eval e X.env) = eval e X.env := by rfl) : PE X (.Attribute e f pos) (tFld K ta f) := h ▸ pe_fld he hb
theorem ps_fldK {o value : Expr} {f : Str} {pos pos' : Pos} {ta tv : TE} (h : X.K = K) (ha : PE X o ta) (hv : PE X value tv) (hs : swapsWith value (some (.Attribute o f pos')) pos.line X.env = pure false := by rfl) : PS X (.Assign [.Attribute o f pos'] value pos) (sFld K ta tv f) := h ▸ ps_fld ha hv hs
theorem pe_revLK {e : Expr} {te : TE} {k : Nat} {p1 p2 p3 pos : Pos} (h : X.K = K) (he : PE X e te) : PE X (.Subscript e (.Slice none none (some (.UnaryOp .USub (.Constant (.int 1) k p1) p2)) p3) pos) (tRevL K te) := h ▸ pe_revL he
def rJoin (K : PySem.W.Frag) : V → List V → Hp → VK → Prop := fun x xs H Q => ∃ a p, ∃ ys : List Str, x = .str a ∧ xs = [.ref p] ∧ (SqL K H p (ys.map V.str) ∨ SqT K H p (ys.map V.str)) ∧ (ys.map (·.length)).sum + ys.length * a.length ≤ 16777216 ∧ Q (.str (Txt.join a ys)) H
theorem pe_joinK {o e : Expr} {to te : TE} {apos pos : Pos} (h : X.K = K) (ho : PE X o to) (he : PE X e te) (hs : starEach [e] X.env = [(false, eval e X.env)] := by rfl) (hbase : attributeBase o "join" X.env (eval o X.env) = eval o X.env := by rfl)
    (hline : (apos.endLine == pos.line) = true := by rfl) : PE X (.Call (.Attribute o "join" apos) [e] [] pos) (tM1 (rJoin K) to te) := h ▸ pe_join ho he hs hbase hline
theorem pe_appK {o e : Expr} {to : TE} {t : TA} {apos cpos : Pos} (h : X.K = K) (ho : PE X o to) (ha : PA X [e] t) (h1 : PE X (.Call (.Attribute o "append" apos) [e] [] cpos) (tBM X.K "list" rAppend to t)) : PE X (.Call (.Attribute o "append" apos) [e] [] cpos) (tBM K "list" rAppend to t) := h ▸ h1
end
/-! ### texts by their codes -/
abbrev Wd := List Nat
def S (a : Wd) : Str := ⟨a.toArray⟩
def tx (a : Wd) : V := .str (S a)
theorem S_len (a : Wd) : (S a).length = a.length := by
  show a.toArray.size = a.length
  simp
theorem S_cps (a : Wd) : (S a).cps.toList = a := by simp [S]
theorem S_inj {a b : Wd} (h : S a = S b) : a = b := by
  have := congrArg (fun x : Str => x.cps.toList) h
  simpa [S] using this
theorem S_app (a b : Wd) : S a ++ S b = S (a ++ b) := by
  apply TL.ext_tl
  rw [TL.tl_append]
  simp [S, TL.tl]
theorem tx_eq (a b : Wd) : decide (tx a = tx b) = decide (a = b) := by
  by_cases h : a = b
  · subst h; simp
  · have : ¬ tx a = tx b := fun e => h (S_inj (V.str.inj e))
    simp [h, this]
theorem tx_inj {a b : Wd} (h : tx a = tx b) : a = b := S_inj (V.str.inj h)
theorem S_get (a : Wd) (i : Nat) : (S a).cps[i]? = a[i]? := by simp [S]
theorem S_cut (a : Wd) (lo hi : Option Int) : cutS (S a) lo hi = S ((a.drop (HT.sIx a.length 0 lo)).take (HT.sIx a.length a.length hi - HT.sIx a.length 0 lo)) := by
  unfold cutS
  rw [S_len, S_cps]
  rfl
/-- the signs of b alone -/
theorem strip_iff (a b : Wd) : (Txt.stripChars (S a) (S b) = S []) ↔ ∀ c ∈ a, c ∈ b := by
  unfold Txt.stripChars
  rw [PyProof.Rows.stripBy_eq]
  obtain ⟨l1, l2, l3⟩ := PyProof.Rows.lo_facts (S b).cps.contains (S a)
  obtain ⟨h1, h2, h3, h4⟩ := PyProof.Rows.hi_facts (S b).cps.contains (S a) _ l1
  generalize stripLo (S b).cps.contains true (S a) = lo at *
  generalize stripHi (S b).cps.contains true (S a) lo = hi at *
  have hg : ∀ k, k < a.length → (S a).cps.getD k 0 = a.getD k 0 := fun k hk => by
    simp [S, Array.getD, List.getD, hk]
  have hc : ∀ c, (S b).cps.contains c = decide (c ∈ b) := fun c => by simp [S]
  rw [S_len] at l1 l3 h2 h3
  have e : TL.tl (PySem.Builtin.Str.strSub (S a) lo hi) = (a.drop lo).take (hi - lo) := by
    rw [TL.tl_strSub]; simp [S, TL.tl]
  constructor
  · intro h c hm
    have e2 : (a.drop lo).take (hi - lo) = [] := by
      rw [← e, h]; simp [S, TL.tl]
    have hl : min (hi - lo) (a.length - lo) = 0 := by
      have := congrArg List.length e2
      simpa using this
    obtain ⟨k, hk, rfl⟩ := List.getElem_of_mem hm
    have hgo : (S b).cps.contains ((S a).cps.getD k 0) = true := by
      rcases Nat.lt_or_ge k lo with h0 | h0
      · exact l2 k h0
      · exact h3 k (by omega) hk
    rw [hg k hk, hc] at hgo
    have : a.getD k 0 = a[k] := by simp [List.getD, hk]
    rw [this] at hgo
    exact of_decide_eq_true hgo
  · intro h
    apply TL.ext_tl
    rw [e]
    have hlo : lo = a.length := by
      rcases l3 with h0 | h0
      · exact h0
      · rcases Nat.lt_or_ge lo a.length with hk | hk
        · rw [hg lo hk, hc] at h0
          have : a.getD lo 0 = a[lo] := by simp [List.getD, hk]
          rw [this] at h0
          have := h a[lo] (List.getElem_mem hk)
          simp [this] at h0
        · omega
    rw [hlo]
    simp [S, TL.tl]
def codes (s : Str) : Wd := s.cps.toList
theorem S_codes (s : Str) : S (codes s) = s := TL.ext_tl (by simp [S, TL.tl, codes])
theorem codes_S (a : Wd) : codes (S a) = a := by simp [S, codes]

/-! ### expressions -/
section
variable {K : PySem.W.Frag} {σ : L2.St} {H H' : Hp} {ta tb te tx' : TE} {t u : TT} {x y z v : V}
theorem ev_cS {s : Str} : Ev (tC (.str s)) σ H (tx (codes s)) := by
  unfold tx; rw [S_codes]; exact ev_c
theorem rv_add {i j : Int} : RV (rI0 fun i j => .int (i + j)) (.int i) (.int j) H (.int (i + j)) := rv_I0
theorem rv_sub {i j : Int} : RV (rI0 fun i j => .int (i - j)) (.int i) (.int j) H (.int (i - j)) := rv_I0
theorem rv_mul {i j : Int} (h : CMul i j) : RV (rI CMul fun i j => .int (i * j)) (.int i) (.int j) H (.int (i * j)) := rv_I h
theorem rv_fdiv {i j : Int} (h : CDiv i j) : RV (rI CDiv fun i j => .int (i / j)) (.int i) (.int j) H (.int (i / j)) := rv_I h
theorem rv_mod {i j : Int} (h : 0 < j) : RV (rI (fun _ j => 0 < j) fun i j => .int (i % j)) (.int i) (.int j) H (.int (i % j)) := rv_I (C := fun _ j => 0 < j) h
theorem rv_lt {i j : Int} : RV (rI0 fun i j => .bl (decide (i < j))) (.int i) (.int j) H (.bl (decide (i < j))) := rv_I0 (g := fun i j => V.bl (decide (i < j)))
theorem rv_le {i j : Int} : RV (rI0 fun i j => .bl (decide (i ≤ j))) (.int i) (.int j) H (.bl (decide (i ≤ j))) := rv_I0 (g := fun i j => V.bl (decide (i ≤ j)))
theorem rv_gt {i j : Int} : RV (rI0 fun i j => .bl (decide (j < i))) (.int i) (.int j) H (.bl (decide (j < i))) := rv_I0 (g := fun i j => V.bl (decide (j < i)))
theorem rv_ge {i j : Int} : RV (rI0 fun i j => .bl (decide (j ≤ i))) (.int i) (.int j) H (.bl (decide (j ≤ i))) := rv_I0 (g := fun i j => V.bl (decide (j ≤ i)))
theorem rv_eqI {i j : Int} : RV rEq (.int i) (.int j) H (.bl (decide (i = j))) := by
  have h := rv_eq (x := V.int i) (y := V.int j) (H := H) rfl
  have e : decide (V.int i = V.int j) = decide (i = j) := by simp
  rw [e] at h; exact h
theorem rv_eqB {i j : Bool} : RV rEq (.bl i) (.bl j) H (.bl (decide (i = j))) := by
  have h := rv_eq (x := V.bl i) (y := V.bl j) (H := H) rfl
  have e : decide (V.bl i = V.bl j) = decide (i = j) := by simp
  rw [e] at h; exact h
theorem rv_eqS {a b : Wd} : RV rEq (tx a) (tx b) H (.bl (decide (a = b))) := by
  have h := rv_eq (x := tx a) (y := tx b) (H := H) rfl
  rw [tx_eq] at h; exact h
theorem rv_neI {i j : Int} : RV rNe (.int i) (.int j) H (.bl (!decide (i = j))) := by
  have h := rv_ne (x := V.int i) (y := V.int j) (H := H) rfl
  have e : decide (V.int i = V.int j) = decide (i = j) := by simp
  rw [e] at h; exact h
theorem rv_neB {i j : Bool} : RV rNe (.bl i) (.bl j) H (.bl (!decide (i = j))) := by
  have h := rv_ne (x := V.bl i) (y := V.bl j) (H := H) rfl
  have e : decide (V.bl i = V.bl j) = decide (i = j) := by simp
  rw [e] at h; exact h
theorem rv_neS {a b : Wd} : RV rNe (tx a) (tx b) H (.bl (!decide (a = b))) := by
  have h := rv_ne (x := tx a) (y := tx b) (H := H) rfl
  rw [tx_eq] at h; exact h
theorem rv_addS {a b : Wd} (h : a.length + b.length ≤ 100000) : RV (fun x y H Q => ∃ i j, x = .str i ∧ y = .str j ∧ i.length + j.length ≤ sizeLine ∧ Q (.str (i ++ j)) H) (tx a) (tx b) H (tx (a ++ b)) := fun H1 _ Q q =>
  ⟨S a, S b, rfl, rfl, sz_of (by rw [S_len, S_len]; exact h), by rw [S_app]; exact q H1 (Ex.refl H1)⟩
theorem rv_ixW {a : Wd} {i : Int} {c : Nat} (h : a.length ≤ 100000) (ha : atI a i = some c) : RV rIxS (tx a) (.int i) H (tx [c]) := fun H1 _ _ q =>
  ⟨S a, i, c, rfl, rfl, sz_of (by rw [S_len]; exact h), by rw [S_cps]; exact ha, q H1 (Ex.refl H1)⟩
theorem rv_isB {a b : Bool} : RV rIsB (.bl a) (.bl b) H (.bl (decide (a = b))) := fun H1 _ _ q => ⟨a, b, rfl, rfl, q H1 (Ex.refl H1)⟩
theorem rv_notB {a b : Bool} : RV rNotB (.bl a) (.bl b) H (.bl (!decide (a = b))) := fun H1 _ _ q => ⟨a, b, rfl, rfl, q H1 (Ex.refl H1)⟩
/-- slices of texts -/
def cutW (a : Wd) (lo hi : Option Int) : Wd := (a.drop (HT.sIx a.length 0 lo)).take (HT.sIx a.length a.length hi - HT.sIx a.length 0 lo)
theorem ev_slS {a : Wd} {lo hi : Option Int} {tl th : TO} (h : Ev te σ H (tx a)) (h1 : EvO tl σ H lo) (h2 : EvO th σ H hi) (hs : a.length ≤ 100000) : Ev (tSl rSlS te tl th) σ H (tx (cutW a lo hi)) := fun H1 e _ q =>
  h H1 e _ fun H2 e2 => h1 H2 (e.trans e2) _ fun H3 e3 => h2 H3 ((e.trans e2).trans e3) _ fun H4 e4 =>
    ⟨S a, rfl, sz_of (by rw [S_len]; exact hs), by rw [S_cut]; exact q H4 ((e2.trans e3).trans e4)⟩
theorem sIx_nat' (n d : Nat) (i : Int) (k : Nat) (h : i = k) : HT.sIx n d (some i) = min k n := by
  subst h; exact HT.sIx_nat n d k
theorem drop_min (a : Wd) (i : Nat) : a.drop (min i a.length) = a.drop i := by
  rcases Nat.le_total i a.length with h | h
  · rw [Nat.min_eq_left h]
  · rw [Nat.min_eq_right h, List.drop_length, List.drop_eq_nil_of_le h]
theorem cut_nn (a : Wd) (i j : Nat) : cutW a (some (i : Int)) (some (j : Int)) = (a.drop i).take (j - i) := by
  unfold cutW
  rw [HT.sIx_nat, HT.sIx_nat, drop_min]
  rcases Nat.le_total i a.length with h | h
  · rcases Nat.le_total j a.length with h2 | h2
    · rw [Nat.min_eq_left h, Nat.min_eq_left h2]
    · rw [Nat.min_eq_left h, Nat.min_eq_right h2, List.take_of_length_le (by simp), List.take_of_length_le (by simp; omega)]
  · rw [List.drop_eq_nil_of_le h]; simp
theorem cut_from (a : Wd) (i : Nat) : cutW a (some (i : Int)) none = a.drop i := by
  unfold cutW
  rw [HT.sIx_nat, HT.sIx_none, drop_min]
  exact List.take_of_length_le (by simp; omega)
theorem cut_to (a : Wd) (j : Nat) : cutW a none (some (j : Int)) = a.take j := by
  unfold cutW
  rw [HT.sIx_nat, HT.sIx_none]
  show (a.drop 0).take (min j a.length - 0) = _
  rw [List.drop_zero, Nat.sub_zero]
  rcases Nat.le_total j a.length with h | h
  · rw [Nat.min_eq_left h]
  · rw [Nat.min_eq_right h, List.take_of_length_le (Nat.le_refl _), List.take_of_length_le h]
/-- len of a text -/
theorem ev_lenS {a : Wd} (h : Ev ta σ H (tx a)) (hs : a.length ≤ 100000) : Ev (tCB (fun xs H Q => ∃ x : Str, xs = [.str x] ∧ x.length ≤ sizeLine ∧ Q (.int x.length) H) (tCons ta tNil)) σ H (.int (a.length : Int)) := fun H1 e Q q =>
  h H1 e _ fun H2 e2 => ⟨S a, rfl, sz_of (by rw [S_len]; exact hs), by rw [S_len]; exact q H2 e2⟩
/-- strip -/
theorem ev_strip {a b : Wd} (h : Ev ta σ H (tx a)) (hb : Ev tb σ H (tx b)) (hs : a.length ≤ 100000) : Ev (tM1 (fun x xs H Q => ∃ a b, x = .str a ∧ xs = [.str b] ∧ a.length ≤ sizeLine ∧ Q (.str (Txt.stripChars a b)) H) ta tb) σ H (tx (codes (Txt.stripChars (S a) (S b)))) := fun H1 e Q q =>
  h H1 e _ fun H2 e2 => ⟨⟨S a, rfl⟩, hb H2 (e.trans e2) _ fun H3 e3 => ⟨S a, S b, rfl, rfl, sz_of (by rw [S_len]; exact hs), by
    have := q H3 (e2.trans e3)
    unfold tx at this; rw [S_codes] at this; exact this⟩⟩
/-- all, any, sum of a new list; len of one -/
theorem ev_all {bs : List Bool} (h : EvL ta σ H (bs.map V.bl)) : Ev (tCB (rAll K) (tCons ta tNil)) σ H (.bl (bs.all id)) := fun H1 e Q q =>
  h H1 e _ fun p H2 _ e2 h2 => ⟨p, bs, rfl, sq_of h2, q H2 e2⟩
theorem ev_any {bs : List Bool} (h : EvL ta σ H (bs.map V.bl)) : Ev (tCB (rAny K) (tCons ta tNil)) σ H (.bl (bs.any id)) := fun H1 e Q q =>
  h H1 e _ fun p H2 _ e2 h2 => ⟨p, bs, rfl, sq_of h2, q H2 e2⟩
theorem ev_sumN {ns : List Int} (h : EvL ta σ H (ns.map V.int)) : Ev (tCB (rSum K) (tCons ta tNil)) σ H (.int ns.sum) := fun H1 e Q q =>
  h H1 e _ fun p H2 _ e2 h2 => ⟨p, ns, rfl, sq_of h2, q H2 e2⟩
theorem ev_sum {ns : List Int} {p : Addr} (h : Ev ta σ H (.ref p)) (hs : SqL K H p (ns.map V.int)) : Ev (tCB (rSum K) (tCons ta tNil)) σ H (.int ns.sum) := fun H1 e Q q =>
  h H1 e _ fun H2 e2 => ⟨p, ns, rfl, ex_l (e.trans e2) hs, q H2 e2⟩
theorem ev_len' {p : Addr} {xs : List V} (ha : Ev ta σ H (.ref p)) (h : SqL K H p xs) : Ev (tCB (rLenQ K) (tCons ta tNil)) σ H (.int (xs.length : Int)) := fun H1 e Q q =>
  ha H1 e _ fun H2 e2 => ⟨p, xs, rfl, Or.inl (ex_l (e.trans e2) h), q H2 e2⟩
theorem ev_listOf {p : Addr} {xs : List V} (ha : Ev ta σ H (.ref p)) (h : SqL K H p xs) : EvL (tCB (rListQ K) (tCons ta tNil)) σ H xs := el_list ha h
theorem ev_lenL {xs : List V} (ha : EvL ta σ H xs) : Ev (tCB (rLenQ K) (tCons ta tNil)) σ H (.int (xs.length : Int)) := ev_lenN ha
/-- isinstance of a scalar -/
theorem ev_isi {T : String} {tv : Value} {b : Bool} (h : Ev ta σ H x) (hc : Ev tb σ H (.ty T)) (hx : ∀ H1, Ex H H1 → TyX K H1 x tv) (e : PySem.W.kitOne K tv (.type T) = some b) : Ev (tCB (rIsi K) (tCons ta (tCons tb tNil))) σ H (.bl b) := fun H1 e1 Q q =>
  h H1 e1 _ fun H2 e2 => hc H2 (e1.trans e2) _ fun H3 e3 => ⟨x, .ty T, tv, .type T, b, rfl, .ty T, hx H3 ((e1.trans e2).trans e3), e, q H3 (e2.trans e3)⟩
theorem ty_list {p : Addr} {xs : List V} (h : SqL K H p xs) : ∀ H1, Ex H H1 → TyX K H1 (.ref p) (.type "list") := fun H1 e => by
  rcases h with (h | ⟨o, h⟩) | ⟨o, its, n, h, hc, _⟩
  · exact .base (.lst (e p _ h))
  · exact .base (.frz (e p _ h))
  · exact .kList h hc
theorem ty_int {i : Int} : ∀ H1, Ex H H1 → TyX K H1 (.int i) (.type "int") := fun _ _ => .base (.int i)
theorem ty_bl {i : Bool} : ∀ H1, Ex H H1 → TyX K H1 (.bl i) (.type "bool") := fun _ _ => .base (.bl i)
theorem ty_str {a : Wd} : ∀ H1, Ex H H1 → TyX K H1 (tx a) (.type "str") := fun _ _ => .base (.str (S a))
/-- comparisons chained -/
theorem ev_chain {r r' : R2} {a b : Bool} (ha : Ev ta σ H x) (hb : Ev tb σ H y) (hc : Ev te σ H z) (h1 : RV r x y H (.bl a)) (h2 : a = true → RV r' y z H (.bl b)) : Ev (tChain r r' ta tb te) σ H (.bl (a && b)) := fun H1 e Q q =>
  ha H1 e _ fun H2 e2 => hb H2 (e.trans e2) _ fun H3 e3 => h1 H3 ((e.trans e2).trans e3) _ fun H4 e4 => ⟨a, rfl, by
    have e04 := ((e.trans e2).trans e3).trans e4
    cases a with
    | true =>
      show te σ H4 _
      exact hc H4 e04 _ fun H5 e5 => h2 rfl H5 (e04.trans e5) Q fun H6 e6 => q H6 ((((e2.trans e3).trans e4).trans e5).trans e6)
    | false =>
      show Q (.bl false) H4
      exact q H4 ((e2.trans e3).trans e4)⟩
/-! comprehensions over lists -/
theorem given_all {α : Type} (ys : List α) (g : α → V) (v : Nat → V) (hv : ∀ i y, ys[i]? = some y → v i = g y) : given ys.length (fun _ => true) v = ys.map g := by
  unfold given
  rw [List.filter_eq_self.mpr (fun _ _ => rfl)]
  apply List.ext_getElem?
  intro i
  rw [List.getElem?_map, List.getElem?_map]
  rcases Nat.lt_or_ge i ys.length with h | h
  · rw [List.getElem?_range h, List.getElem?_eq_getElem h]
    show some (v i) = some (g ys[i])
    rw [hv i ys[i] (List.getElem?_eq_getElem h)]
  · rw [List.getElem?_eq_none (by simpa using h), List.getElem?_eq_none h]; rfl
theorem given_take {α : Type} (ys : List α) (p : α → Bool) (g : α → V) (f : Nat → Bool) (v : Nat → V) (h : ∀ i y, ys[i]? = some y → f i = p y ∧ v i = g y) : ∀ n, n ≤ ys.length → given n f v = ((ys.take n).filter p).map g
  | 0, _ => by simp [given]
  | n + 1, hn => by
    have ih := given_take ys p g f v h n (by omega)
    have hy := h n ys[n] (List.getElem?_eq_getElem (by omega))
    rw [List.take_succ, List.getElem?_eq_getElem (show n < ys.length by omega), List.filter_append, List.map_append]
    cases hp : p ys[n] with
    | true =>
      rw [given_yes (by rw [hy.1, hp]), ih, hy.2]
      simp [hp]
    | false =>
      rw [given_no (by rw [hy.1, hp]), ih]
      simp [hp]
theorem given_filter {α : Type} (ys : List α) (p : α → Bool) (g : α → V) (f : Nat → Bool) (v : Nat → V) (h : ∀ i y, ys[i]? = some y → f i = p y ∧ v i = g y) : given ys.length f v = (ys.filter p).map g := by
  rw [given_take ys p g f v h ys.length (Nat.le_refl _), List.take_length]
theorem el_map {α : Type} {a : Addr} {ys : List α} {tl : TE} {j : Nat} {vs : List Nat} (φ g : α → V) (h : Ev tl σ H (.ref a)) (hx : SqL K H a (ys.map φ)) (hz : ys.length ≤ 40000) (hw : ∀ x, wipe ((wipe σ vs).set j (some x)) vs = wipe σ vs)
    (he : ∀ y, y ∈ ys → Ev te ((wipe σ vs).set j (some (φ y))) H (g y)) : EvL (tLc (iList K tl) (gName j) tYes te vs) σ H (ys.map g) := by
  rcases Nat.eq_zero_or_pos ys.length with hn | hn
  · have e0 : ys = [] := List.eq_nil_of_length_eq_zero hn
    subst e0
    have := el_lcL (t := tYes) (te := te) (j := j) (vs := vs) (fun _ => true) (fun _ => V.non) h hx (by simp) hw (fun i x H1 _ hi => by simp at hi) (fun i x H1 _ hi => by simp at hi)
    simpa [given] using this
  · let y0 := ys[0]
    have := el_lcL (t := tYes) (te := te) (j := j) (vs := vs) (fun _ => true) (fun i => g (ys.getD i y0)) h hx (by simpa using hz) hw (fun i x H1 _ hi H2 e2 Q q => q H2 (Ex.refl H2)) (fun i x H1 e1 hi _ => by
      rw [List.getElem?_map] at hi
      cases hy : ys[i]? with
      | none => rw [hy] at hi; cases hi
      | some y =>
        rw [hy] at hi
        have ex : φ y = x := Option.some.inj hi
        subst ex
        have eg : ys.getD i y0 = y := by simp [List.getD, hy]
        rw [eg]
        exact (he y (List.mem_of_getElem? hy)).mono e1)
    rw [List.length_map, given_all ys g _ (fun i y hy => by simp [List.getD, hy])] at this
    exact this
theorem el_filter {α : Type} {a : Addr} {ys : List α} {tl : TE} {j : Nat} {vs : List Nat} (φ g : α → V) (p : α → Bool) (h : Ev tl σ H (.ref a)) (hx : SqL K H a (ys.map φ)) (hz : ys.length ≤ 40000) (hw : ∀ x, wipe ((wipe σ vs).set j (some x)) vs = wipe σ vs)
    (ht : ∀ y, y ∈ ys → EvT t ((wipe σ vs).set j (some (φ y))) H (p y)) (he : ∀ y, y ∈ ys → p y = true → Ev te ((wipe σ vs).set j (some (φ y))) H (g y)) : EvL (tLc (iList K tl) (gName j) t te vs) σ H ((ys.filter p).map g) := by
  rcases Nat.eq_zero_or_pos ys.length with hn | hn
  · have e0 : ys = [] := List.eq_nil_of_length_eq_zero hn
    subst e0
    have := el_lcL (t := t) (te := te) (j := j) (vs := vs) (fun _ => true) (fun _ => V.non) h hx (by simp) hw (fun i x H1 _ hi => by simp at hi) (fun i x H1 _ hi => by simp at hi)
    simpa [given] using this
  · let y0 := ys[0]
    have key : ∀ (i : Nat) (x : V), (ys.map φ)[i]? = some x → ∃ y, y ∈ ys ∧ ys[i]? = some y ∧ φ y = x ∧ ys.getD i y0 = y := fun i x hi => by
      rw [List.getElem?_map] at hi
      cases hy : ys[i]? with
      | none => rw [hy] at hi; cases hi
      | some y =>
        rw [hy] at hi
        exact ⟨y, List.mem_of_getElem? hy, rfl, Option.some.inj hi, by simp [List.getD, hy]⟩
    have := el_lcL (t := t) (te := te) (j := j) (vs := vs) (fun i => p (ys.getD i y0)) (fun i => g (ys.getD i y0)) h hx (by simpa using hz) hw (fun i x H1 e1 hi => by
      obtain ⟨y, hm, _, rfl, eg⟩ := key i x hi
      rw [eg]; exact (ht y hm).mono e1) (fun i x H1 e1 hi hf => by
      obtain ⟨y, hm, _, rfl, eg⟩ := key i x hi
      rw [eg] at hf ⊢
      exact (he y hm hf).mono e1)
    rw [List.length_map, given_filter ys p g _ _ (fun i y hy => ⟨by simp [List.getD, hy], by simp [List.getD, hy]⟩)] at this
    exact this
/-- over a new list -/
theorem el_mapN {α : Type} {ys : List α} {tl : TE} {j : Nat} {vs : List Nat} (φ g : α → V) (h : EvL tl σ H (ys.map φ)) (hz : ys.length ≤ 40000) (hw : ∀ x, wipe ((wipe σ vs).set j (some x)) vs = wipe σ vs)
    (he : ∀ y, y ∈ ys → Ev te ((wipe σ vs).set j (some (φ y))) H (g y)) : EvL (tLc (iList K tl) (gName j) tYes te vs) σ H (ys.map g) := by
  rcases Nat.eq_zero_or_pos ys.length with hn | hn
  · have e0 : ys = [] := List.eq_nil_of_length_eq_zero hn
    subst e0
    have := el_lcNL (K := K) (t := tYes) (te := te) (j := j) (vs := vs) (fun _ => true) (fun _ => V.non) h (by simp) hw (fun i x H1 _ hi => by simp at hi) (fun i x H1 _ hi => by simp at hi)
    simpa [given] using this
  · let y0 := ys[0]
    have := el_lcNL (K := K) (t := tYes) (te := te) (j := j) (vs := vs) (fun _ => true) (fun i => g (ys.getD i y0)) h (by simpa using hz) hw (fun i x H1 _ hi H2 e2 Q q => q H2 (Ex.refl H2)) (fun i x H1 e1 hi _ => by
      rw [List.getElem?_map] at hi
      cases hy : ys[i]? with
      | none => rw [hy] at hi; cases hi
      | some y =>
        rw [hy] at hi
        have ex : φ y = x := Option.some.inj hi
        subst ex
        have eg : ys.getD i y0 = y := by simp [List.getD, hy]
        rw [eg]
        exact (he y (List.mem_of_getElem? hy)).mono e1)
    rw [List.length_map, given_all ys g _ (fun i y hy => by simp [List.getD, hy])] at this
    exact this
/-- over a range from 0 -/
theorem el_range {ta : TA} {j : Nat} {vs : List Nat} (n : Nat) (g : Nat → V) (h : EvA ta σ H [.int (n : Int)]) (hn : n ≤ 40000) (hw : ∀ x, wipe ((wipe σ vs).set j (some x)) vs = wipe σ vs)
    (he : ∀ i, i < n → Ev te ((wipe σ vs).set j (some (.int (i : Int)))) H (g i)) : EvL (tLc (iRng1 ta) (gName j) tYes te vs) σ H ((List.range n).map g) := by
  have := el_lcR1 (t := tYes) (te := te) (j := j) (vs := vs) (fun _ => true) g h ⟨by omega, by omega⟩ hw (fun i H1 _ hi H2 e2 Q q => q H2 (Ex.refl H2)) (fun i H1 e1 hi _ => (he i (by omega)).mono e1)
  have e : (n : Int).toNat = n := by omega
  rw [e] at this
  unfold given at this
  rw [List.filter_eq_self.mpr (fun _ _ => rfl)] at this
  exact this
/-! .. by the kind of the items -/
section
variable {α : Type} {a : Addr} {ys : List α} {tl : TE} {j : Nat} {vs : List Nat} {φ : α → V}
theorem el_mapB {g : α → Bool} (h : Ev tl σ H (.ref a)) (hx : SqL K H a (ys.map φ)) (hz : ys.length ≤ 40000) (hw : ∀ x, wipe ((wipe σ vs).set j (some x)) vs = wipe σ vs)
    (he : ∀ y, y ∈ ys → Ev te ((wipe σ vs).set j (some (φ y))) H (.bl (g y))) : EvL (tLc (iList K tl) (gName j) tYes te vs) σ H ((ys.map g).map V.bl) := by
  rw [List.map_map]; exact el_map φ (V.bl ∘ g) h hx hz hw he
theorem el_mapI {g : α → Int} (h : Ev tl σ H (.ref a)) (hx : SqL K H a (ys.map φ)) (hz : ys.length ≤ 40000) (hw : ∀ x, wipe ((wipe σ vs).set j (some x)) vs = wipe σ vs)
    (he : ∀ y, y ∈ ys → Ev te ((wipe σ vs).set j (some (φ y))) H (.int (g y))) : EvL (tLc (iList K tl) (gName j) tYes te vs) σ H ((ys.map g).map V.int) := by
  rw [List.map_map]; exact el_map φ (V.int ∘ g) h hx hz hw he
theorem el_mapS {g : α → Wd} (h : Ev tl σ H (.ref a)) (hx : SqL K H a (ys.map φ)) (hz : ys.length ≤ 40000) (hw : ∀ x, wipe ((wipe σ vs).set j (some x)) vs = wipe σ vs)
    (he : ∀ y, y ∈ ys → Ev te ((wipe σ vs).set j (some (φ y))) H (tx (g y))) : EvL (tLc (iList K tl) (gName j) tYes te vs) σ H ((ys.map g).map tx) := by
  rw [List.map_map]; exact el_map φ (tx ∘ g) h hx hz hw he
theorem el_mapNB {g : α → Bool} (h : EvL tl σ H (ys.map φ)) (hz : ys.length ≤ 40000) (hw : ∀ x, wipe ((wipe σ vs).set j (some x)) vs = wipe σ vs)
    (he : ∀ y, y ∈ ys → Ev te ((wipe σ vs).set j (some (φ y))) H (.bl (g y))) : EvL (tLc (iList K tl) (gName j) tYes te vs) σ H ((ys.map g).map V.bl) := by
  rw [List.map_map]; exact el_mapN φ (V.bl ∘ g) h hz hw he
theorem el_mapNS {g : α → Wd} (h : EvL tl σ H (ys.map φ)) (hz : ys.length ≤ 40000) (hw : ∀ x, wipe ((wipe σ vs).set j (some x)) vs = wipe σ vs)
    (he : ∀ y, y ∈ ys → Ev te ((wipe σ vs).set j (some (φ y))) H (tx (g y))) : EvL (tLc (iList K tl) (gName j) tYes te vs) σ H ((ys.map g).map tx) := by
  rw [List.map_map]; exact el_mapN φ (tx ∘ g) h hz hw he
theorem el_filterI {g : α → Int} {p : α → Bool} (h : Ev tl σ H (.ref a)) (hx : SqL K H a (ys.map φ)) (hz : ys.length ≤ 40000) (hw : ∀ x, wipe ((wipe σ vs).set j (some x)) vs = wipe σ vs)
    (ht : ∀ y, y ∈ ys → EvT t ((wipe σ vs).set j (some (φ y))) H (p y)) (he : ∀ y, y ∈ ys → p y = true → Ev te ((wipe σ vs).set j (some (φ y))) H (.int (g y))) : EvL (tLc (iList K tl) (gName j) t te vs) σ H (((ys.filter p).map g).map V.int) := by
  rw [List.map_map]; exact el_filter φ (V.int ∘ g) p h hx hz hw ht he
end
theorem el_rangeB {ta : TA} {j : Nat} {vs : List Nat} {n : Nat} {g : Nat → Bool} (h : EvA ta σ H [.int (n : Int)]) (hn : n ≤ 40000) (hw : ∀ x, wipe ((wipe σ vs).set j (some x)) vs = wipe σ vs)
    (he : ∀ i, i < n → Ev te ((wipe σ vs).set j (some (.int (i : Int)))) H (.bl (g i))) : EvL (tLc (iRng1 ta) (gName j) tYes te vs) σ H (((List.range n).map g).map V.bl) := by
  rw [List.map_map]; exact el_range n (V.bl ∘ g) h hn hw he
/-! ### straight code that gives back a value -/
def SEv (ts : TS) (σ : L2.St) (H : Hp) (v : V) : Prop := ∀ H1, Ex H H1 → ∀ D : Ends, (∀ H2, Ex H1 H2 → D.rt v H2) → ts D σ H1
theorem sev_run {ts : TS} {D : Ends} (h : SEv ts σ H v) (q : ∀ H2, Ex H H2 → D.rt v H2) : ts D σ H := h H (Ex.refl H) D q
theorem sev_is {ts : TS} {w : V} (h : SEv ts σ H v) (e : v = w) : SEv ts σ H w := by rw [← e]; exact h
theorem sev_ret (h : Ev te σ H v) : SEv (tRet te) σ H v := fun H1 e D k => h H1 e _ k
theorem sev_asg {i : Nat} {tz : TS} (h : Ev te σ H x) (k : SEv tz (σ.set i (some x)) H v) : SEv (tSeq (tAsg te (gName i)) tz) σ H v := fun H1 e D q =>
  h H1 e _ fun H2 e2 => k H2 (e.trans e2) D fun H3 e3 => q H3 (e2.trans e3)
theorem sev_when {b : Bool} {tu tz : TS} (h : EvT t σ H b) (k1 : b = true → SEv tu σ H v) (k2 : b = false → SEv tz σ H v) : SEv (tSeq (tIfS t tu tNext) tz) σ H v := fun H1 e D q =>
  h H1 e _ fun H2 e2 => by
    cases b with
    | true => exact k1 rfl H2 (e.trans e2) { D with nx := tz D } fun H3 e3 => q H3 (e2.trans e3)
    | false => exact k2 rfl H2 (e.trans e2) D fun H3 e3 => q H3 (e2.trans e3)
theorem sev_drop {tz : TS} (h : Ev te σ H x) (k : SEv tz σ H v) : SEv (tSeq (tDrop te) tz) σ H v := fun H1 e D q =>
  h H1 e _ fun H2 e2 => k H2 (e.trans e2) D fun H3 e3 => q H3 (e2.trans e3)
/-- code that falls through -/
def SNx (ts : TS) (σ : L2.St) (H : Hp) : Prop := ∀ H1, Ex H H1 → ∀ D : Ends, (∀ H2, Ex H1 H2 → D.nx σ H2) → ts D σ H1
theorem snx_skip {tu : TS} (h : EvT t σ H false) : SNx (tIfS t tu tNext) σ H := fun H1 e D q => h H1 e _ fun H2 e2 => q H2 e2
theorem snx_run {ts : TS} {D : Ends} (h : SNx ts σ H) (q : ∀ H2, Ex H H2 → D.nx σ H2) : ts D σ H := h H (Ex.refl H) D q
theorem sev_skip {tu tz : TS} (h : EvT t σ H false) (k : SEv tz σ H v) : SEv (tSeq (tIfS t tu tNext) tz) σ H v := fun H1 e D q =>
  h H1 e _ fun H2 e2 => k H2 (e.trans e2) D fun H3 e3 => q H3 (e2.trans e3)
/-- sep.join of a new list, the empty sep -/
theorem join_S (ys : List Wd) : Txt.join (S []) (ys.map S) = S ys.flatten := by
  apply TL.ext_tl
  rw [TL.join_eq, TL.tl_join, List.map_map]
  have h1 : TL.tl (S []) = [] := by simp [S, TL.tl]
  have h2 : ∀ zs : List Wd, TL.joinL [] zs = zs.flatten := by
    intro zs
    induction zs with
    | nil => rfl
    | cons z r ih =>
      cases r with
      | nil => simp [TL.joinL]
      | cons y r =>
        show z ++ ([] ++ TL.joinL [] (y :: r)) = _
        rw [ih]
        rfl
  have h3 : ys.map (TL.tl ∘ S) = ys := by
    have : (TL.tl ∘ S) = id := by funext a; simp [S, TL.tl]
    rw [this, List.map_id]
  rw [h1, h3, h2]
  simp [S, TL.tl]
theorem ev_join {ys : List Wd} (ha : Ev ta σ H (tx [])) (hb : EvL tb σ H (ys.map tx)) (hz : ys.flatten.length ≤ 100000) :
    Ev (tM1 (rJoin K) ta tb) σ H (tx ys.flatten) := fun H1 e Q q =>
  ha H1 e _ fun H2 e2 => ⟨⟨S [], rfl⟩, hb H2 (e.trans e2) _ fun p H3 hp e3 h3 => ⟨S [], p, ys.map S, rfl, rfl, .inl (sq_of (by rw [h3, List.map_map]; rfl)), by
    have h1 : (S []).length = 0 := by rw [S_len]; rfl
    have h2 : ((ys.map S).map (·.length)).sum = ys.flatten.length := by
      rw [List.map_map, List.length_flatten]
      exact congrArg List.sum (List.map_congr_left fun a _ => S_len a)
    rw [h1, h2]; omega, by rw [join_S]; exact q H3 (e2.trans e3)⟩⟩
/-! ### further loops -/
section
variable {D : Ends} {tu : TS}
theorem s_forRev {j : Nat} {n : Nat} (h : Ev ta σ H (.int (n : Int))) (hn : n ≤ 100000) (Pv : Nat → L2.St → Hp → Prop) (h0 : ∀ H1, Ex H H1 → Pv 0 σ H1)
    (hs : ∀ i σ' H', i < n → Pv i σ' H' → tu { D with nx := Pv (i + 1), ct := Pv (i + 1), bk := D.nx } (σ'.set j (some (.int ((n - 1 - i : Nat) : Int)))) H') (hd : ∀ σ' H', Pv n σ' H' → D.nx σ' H') :
    tFor (iRevR (tRg1 ta)) (gName j) tu D σ H :=
  h H (Ex.refl H) _ fun H1 e => ⟨(n : Int), rfl, by decide, by decide, by omega, by omega, by
    have e0 : ((n : Int) - 0).toNat = n := by omega
    rw [e0]
    refine for_rangeC Pv (h0 H1 e) (fun i σ' H' hi p => ?_) hd
    have e1 : (0 : Int) + (n : Int) - 1 + (i : Int) * (-1) = ((n - 1 - i : Nat) : Int) := by omega
    show tu _ (σ'.set j (some (.int ((0 : Int) + (n : Int) - 1 + (i : Int) * (-1))))) H'
    rw [e1]
    exact hs i σ' H' hi p⟩
theorem s_forEnum {i1 i2 : Nat} {a : Addr} {xs : List V} (h : Ev ta σ H (.ref a)) (hx : SqL K H a xs) (Pv : Nat → L2.St → Hp → Prop) (h0 : ∀ H1, Ex H H1 → Pv 0 σ H1) (hl : ∀ i σ' H', Pv i σ' H' → SqL K H' a xs)
    (hm : ∀ i σ' H' H'', Pv i σ' H' → Ex H' H'' → Pv i σ' H'')
    (hs : ∀ i x σ' H', xs[i]? = some x → Pv i σ' H' → tu { D with nx := Pv (i + 1), ct := Pv (i + 1), bk := D.nx } ((σ'.set i1 (some (.int (i : Int)))).set i2 (some x)) H') (hd : ∀ σ' H', Pv xs.length σ' H' → D.nx σ' H') :
    tFor (iEnum K (tCons ta tNil)) (gTup K 2 (gCons (gName i1) (gCons (gName i2) gNil))) tu D σ H :=
  h H (Ex.refl H) _ fun H1 e => ⟨a, xs, rfl, ex_l e hx, fun i m σ' H' => Pv i σ' H' ∧ i + m = xs.length, ⟨xs.length, h0 H1 e, by omega⟩, fun i m σ' H' hw => by
    obtain ⟨p, em⟩ := hw
    rcases Nat.lt_or_ge i xs.length with hi | hi
    · have hx' : xs[i]? = some xs[i] := List.getElem?_eq_getElem hi
      refine .inr ⟨⟨xs, xs[i], hl i σ' H' p, hx'⟩, Pv (i + 1), fun σ2 H2 p2 => ⟨m - 1, by omega, p2, by omega⟩, fun x H2 hy => ?_⟩
      obtain ⟨T, y, rfl, nT, rfl, f⟩ := hy
      have ey : y = xs[i] := Option.some.inj ((f xs (hl i σ' H' p)).symm.trans hx')
      subst ey
      refine ⟨T, [.int (i : Int), xs[i]], rfl, st_of upd_same, rfl, _, _, rfl, _, _, rfl, rfl, ?_⟩
      exact hs i xs[i] σ' _ hx' (hm i σ' H' _ p (Ex.new nT))
    · have ei : i = xs.length := by omega
      subst ei
      exact .inl ⟨⟨xs, hl _ σ' H' p, Nat.le_refl _⟩, hd σ' H' p⟩⟩
variable {tz : TS}
theorem q_forRev {j : Nat} {n : Nat} (h : Ev ta σ H (.int (n : Int))) (hn : n ≤ 100000) (Pv : Nat → L2.St → Hp → Prop) (h0 : ∀ H1, Ex H H1 → Pv 0 σ H1)
    (hs : ∀ i σ' H', i < n → Pv i σ' H' → tu { D with nx := Pv (i + 1), ct := Pv (i + 1), bk := tz D } (σ'.set j (some (.int ((n - 1 - i : Nat) : Int)))) H') (hd : ∀ σ' H', Pv n σ' H' → tz D σ' H') :
    tSeq (tFor (iRevR (tRg1 ta)) (gName j) tu) tz D σ H := s_forRev (D := { D with nx := tz D }) h hn Pv h0 hs hd
theorem q_forEnum {i1 i2 : Nat} {a : Addr} {xs : List V} (h : Ev ta σ H (.ref a)) (hx : SqL K H a xs) (Pv : Nat → L2.St → Hp → Prop) (h0 : ∀ H1, Ex H H1 → Pv 0 σ H1) (hl : ∀ i σ' H', Pv i σ' H' → SqL K H' a xs)
    (hm : ∀ i σ' H' H'', Pv i σ' H' → Ex H' H'' → Pv i σ' H'')
    (hs : ∀ i x σ' H', xs[i]? = some x → Pv i σ' H' → tu { D with nx := Pv (i + 1), ct := Pv (i + 1), bk := tz D } ((σ'.set i1 (some (.int (i : Int)))).set i2 (some x)) H') (hd : ∀ σ' H', Pv xs.length σ' H' → tz D σ' H') :
    tSeq (tFor (iEnum K (tCons ta tNil)) (gTup K 2 (gCons (gName i1) (gCons (gName i2) gNil))) tu) tz D σ H := s_forEnum (D := { D with nx := tz D }) h hx Pv h0 hl hm hs hd
/-- a list handed out by an own def, straight on -/
theorem q_dropS {tz : TS} (h : Ev te σ H x) (k : ∀ H1, Ex H H1 → tz D σ H1) : tSeq (tDrop te) tz D σ H := q_drop h k
theorem q_skip {t : TT} (h : EvT t σ H false) (k : ∀ H1, Ex H H1 → tz D σ H1) : tSeq (tIfS t tu tNext) tz D σ H := h H (Ex.refl H) _ fun H1 e => k H1 e
end
end
end Tr

set_option Elab.async false
set_option linter.all false
set_option maxRecDepth 100000
set_option maxHeartbeats 4000000
/-! TrD: dicts, lists of one kind compared, by Ev. -/
namespace Tr
open PySem PySem.Spec PyProof.Rows L2 Evl
section
variable {K : PySem.W.Frag} {σ : L2.St} {H H' : Hp} {ta tb te td ty tx' : TE} {t u : TT} {x y z v : V} {D : Ends} {tz tu : TS}
/-! ### dicts -/
theorem ev_dget {a : Addr} {kvs : List (Key × V)} {k : Key} (hd : Ev td σ H (.ref a)) (hi : Ev ty σ H (kV k)) (he : Rd H a (.dK kvs)) (hv : valV kvs k = some v) : Ev (tDGet td ty) σ H v := fun H1 e Q q =>
  hd H1 e _ fun H2 e2 => hi H2 (e.trans e2) _ fun H3 e3 => ⟨a, v, rfl, .inl ⟨kvs, k, ex_rd ((e.trans e2).trans e3) he, rfl, hv.symm⟩, q H3 (e2.trans e3)⟩
theorem ev_dget2 {a : Addr} {kvs : List (Key × V)} {k : Key} (hd : Ev td σ H (.ref a)) (hi : Ev ty σ H (kV k)) (hx : Ev tx' σ H x) (he : Rd H a (.dK kvs)) : Ev (tDGet2 td ty tx') σ H ((valV kvs k).getD x) := fun H1 e Q q =>
  hd H1 e _ fun H2 e2 => ⟨a, rfl, .inl ⟨kvs, ex_rd (e.trans e2) he⟩, hi H2 (e.trans e2) _ fun H3 e3 => hx H3 ((e.trans e2).trans e3) _ fun H4 e4 =>
    ⟨_, .inl ⟨kvs, k, ex_rd (((e.trans e2).trans e3).trans e4) he, rfl, rfl⟩, q H4 ((e2.trans e3).trans e4)⟩⟩
theorem ev_din {a : Addr} {kvs : List (Key × V)} {k : Key} (hi : Ev ty σ H (kV k)) (hd : Ev td σ H (.ref a)) (he : Rd H a (.dK kvs)) : Ev (tDIn ty td) σ H (.bl (valV kvs k).isSome) := fun H1 e Q q =>
  hi H1 e _ fun H2 e2 => hd H2 (e.trans e2) _ fun H3 e3 => ⟨a, _, rfl, .inl ⟨kvs, k, ex_rd ((e.trans e2).trans e3) he, rfl, rfl⟩, q H3 (e2.trans e3)⟩
theorem ev_dnotin {a : Addr} {kvs : List (Key × V)} {k : Key} (hi : Ev ty σ H (kV k)) (hd : Ev td σ H (.ref a)) (he : Rd H a (.dK kvs)) : Ev (tDNotIn ty td) σ H (.bl (!(valV kvs k).isSome)) := fun H1 e Q q =>
  hi H1 e _ fun H2 e2 => hd H2 (e.trans e2) _ fun H3 e3 => ⟨a, _, rfl, .inl ⟨kvs, k, ex_rd ((e.trans e2).trans e3) he, rfl, rfl⟩, q H3 (e2.trans e3)⟩
theorem s_dput {a : Addr} {kvs : List (Key × V)} {k : Key} {tv : TE} (hk : H a = some (.dK kvs)) (hv : Ev tv σ H v) (hd : Ev td σ H (.ref a)) (hi : Ev ty σ H (kV k)) (hz : kvs.length < 100000)
    (q : ∀ H1, Ex H H1 → D.nx σ (upd H1 a (.dK (putK kvs k v)))) : sDPut td ty tv D σ H := hv H (Ex.refl H) _ fun H1 e1 => hd H1 e1 _ fun H2 e2 => hi H2 (e1.trans e2) _ fun H3 e3 =>
  ⟨a, _, rfl, DPut.k (((e1.trans e2).trans e3) a _ hk) (sz_lt hz), q H3 ((e1.trans e2).trans e3)⟩
theorem q_dput {a : Addr} {kvs : List (Key × V)} {k : Key} {tv : TE} (hk : H a = some (.dK kvs)) (hv : Ev tv σ H v) (hd : Ev td σ H (.ref a)) (hi : Ev ty σ H (kV k)) (hz : kvs.length < 100000)
    (q : ∀ H1, Ex H H1 → tz D σ (upd H1 a (.dK (putK kvs k v)))) : tSeq (sDPut td ty tv) tz D σ H := s_dput (D := { D with nx := tz D }) hk hv hd hi hz q
theorem putK_len {κ : Type} [DecidableEq κ] (kvs : List (κ × V)) (k : κ) (v : V) : (putK kvs k v).length ≤ kvs.length + 1 := by
  unfold putK
  split
  · rw [List.length_map]; omega
  · rw [List.length_append]; simp
/-- x = {k: v} -/
theorem q_asgD1 {i : Nat} {k : Key} {tk tv : TE} (hk : Ev tk σ H (kV k)) (hv : Ev tv σ H v) (q : ∀ p H1, H p = none → Ex H H1 → H1 p = some (.dK [(k, v)]) → tz D (σ.set i (some (.ref p))) H1) : tSeq (tAsg (tDisp [(tk, tv)]) (gName i)) tz D σ H := fun p hp => by
  have e0 : Ex H (upd H p (.dK [])) := Ex.new hp
  refine hk _ e0 _ fun H2 e2 => hv H2 (e0.trans e2) _ fun H3 e3 => ?_
  have ep : H3 p = some (.dK []) := (e2.trans e3) p _ upd_same
  refine ⟨ep, [(k, v)], rfl, by simp, ?_⟩
  have em : mergeK [] [(k, v)] = [(k, v)] := by simp [mergeK, putK]
  rw [em]
  exact q p _ hp (Ex.mut ((e0.trans e2).trans e3) hp) upd_same
/-- x = {} -/
theorem q_asgD0 {i : Nat} (q : ∀ p, H p = none → tz D (σ.set i (some (.ref p))) (upd H p (.dK []))) : tSeq (tAsg tDNewK (gName i)) tz D σ H := fun p hp => q p hp
/-- if t: xs.append(e) -/
theorem q_ifApp {b : Bool} {l : Addr} {xs : List V} (hl : H l = some (.lst xs)) (h : EvT t σ H b) (ha : Ev ta σ H (.ref l)) (hx : b = true → Ev te σ H v) (hz : xs.length < 100000)
    (k : ∀ H0, Ex H H0 → tz D σ (upd H0 l (.lst (if b = true then xs ++ [v] else xs)))) : tSeq (tIfS t (tDrop (tBM K "list" rAppend ta (tCons te tNil))) tNext) tz D σ H := by
  refine q_when h (fun hb H1 e1 => ?_) (fun hb H1 e1 => ?_)
  · refine s_app (e1 l _ hl) (ha.mono e1) ((hx hb).mono e1) hz fun H2 e2 => ?_
    have := k H2 (e1.trans e2)
    rw [if_pos hb] at this
    exact this
  · have := k H1 e1
    rw [if_neg (by rw [hb]; decide)] at this
    have e : upd H1 l (.lst xs) = H1 := by
      funext a
      by_cases ha : a = l
      · subst ha; rw [upd_same, e1 _ _ hl]
      · rw [upd_ne ha]
    rw [e] at this
    exact this
/-! ### a value that is a list by now -/
def EvQ (K : PySem.W.Frag) (te : TE) (σ : L2.St) (H : Hp) (xs : List V) : Prop := ∀ H1, Ex H H1 → ∀ Q : VK, (∀ p H2, Ex H1 H2 → SqL K H2 p xs → Q (.ref p) H2) → te σ H1 Q
theorem eq_at {p : Addr} {xs : List V} (h : Ev te σ H (.ref p)) (hs : SqL K H p xs) : EvQ K te σ H xs := fun H1 e Q q => h H1 e _ fun H2 e2 => q p H2 e2 (ex_l (e.trans e2) hs)
theorem eq_new {xs : List V} (h : EvL te σ H xs) : EvQ K te σ H xs := fun H1 e Q q => h H1 e _ fun p H2 _ e2 h2 => q p H2 e2 (sq_of h2)
theorem EvQ.mono {xs : List V} (e : Ex H H') (h : EvQ K te σ H xs) : EvQ K te σ H' xs := fun H1 a Q q => h H1 (e.trans a) Q q
/-! ### data of one kind -/
structure Enc {α : Type} [DecidableEq α] (φ : α → V) (δ : α → PyData) (ok : α → Prop) : Prop where
  dp : ∀ (K : PySem.W.Frag) (H : Hp) a, Dp K H (φ a) (δ a)
  lay : ∀ a, ok a → (δ a).canLay0 = true
  depth : ∀ a, (δ a).depth = 0
  eqv : ∀ a b, PyData.eqv (δ a) (δ b) = decide (a = b)
theorem enc_int : Enc V.int PyData.int (fun _ => True) := ⟨fun _ _ i => .int i, fun _ _ => by simp [PyData.canLay0], fun _ => by simp [PyData.depth], fun a b => by
  simp only [PyData.eqv]; by_cases h : a = b <;> simp [h]⟩
theorem enc_bl : Enc V.bl PyData.bool (fun _ => True) := ⟨fun _ _ i => .bl i, fun _ _ => by simp [PyData.canLay0], fun _ => by simp [PyData.depth], fun a b => by
  simp only [PyData.eqv]; by_cases h : a = b <;> simp [h]⟩
def okC (a : Wd) : Prop := ∀ c ∈ a, c < 0x110000
theorem enc_tx : Enc tx (fun a => PyData.str (S a)) okC := ⟨fun _ _ a => .str (S a), fun a h => by
    rw [PyData.canLay0]
    unfold PyData.strOk
    rw [Array.all_eq_true_iff_forall_mem]
    intro c hc
    exact decide_eq_true (h c (by simpa [S] using hc)), fun _ => by simp [PyData.depth], fun a b => by
  simp only [PyData.eqv]
  by_cases h : a = b
  · subst h; simp
  · have : ¬ S a = S b := fun e => h (S_inj e)
    simp [h, this]⟩
section
variable {α : Type} [DecidableEq α] {φ : α → V} {δ : α → PyData} {ok : α → Prop}
theorem enc_all (E : Enc φ δ ok) (K : PySem.W.Frag) (H : Hp) : ∀ xs : List α, DpAll K H (xs.map φ) (xs.map δ)
  | [] => .nil
  | x :: xs => .cons (E.dp K H x) (enc_all E K H xs)
theorem enc_lay (E : Enc φ δ ok) : ∀ xs : List α, (∀ x ∈ xs, ok x) → PyData.canLayAll0 (xs.map δ) = true
  | [], _ => by simp [PyData.canLayAll0]
  | x :: xs, h => by
    rw [List.map_cons, PyData.canLayAll0, E.lay x (h x (by simp)), enc_lay E xs fun y hy => h y (by simp [hy])]
    rfl
theorem enc_depth (E : Enc φ δ ok) : ∀ xs : List α, PyData.depthAll (xs.map δ) = 0
  | [] => by simp [PyData.depthAll]
  | x :: xs => by
    rw [List.map_cons, PyData.depthAll, E.depth x, enc_depth E xs]
    rfl
theorem enc_eqv (E : Enc φ δ ok) : ∀ xs ys : List α, PyData.eqvAll (xs.map δ) (ys.map δ) = decide (xs = ys)
  | [], [] => by simp [PyData.eqvAll]
  | [], _ :: _ => by simp [PyData.eqvAll]
  | _ :: _, [] => by simp [PyData.eqvAll]
  | x :: xs, y :: ys => by
    rw [List.map_cons, List.map_cons, PyData.eqvAll, E.eqv x y, enc_eqv E xs ys]
    by_cases h1 : x = y <;> by_cases h2 : xs = ys <;> simp [h1, h2]
theorem enc_shaped (E : Enc φ δ ok) (xs : List α) (h : ∀ x ∈ xs, ok x) : SeqAt.shaped (.list (xs.map δ)) = true := by
  unfold SeqAt.shaped
  rw [PyData.canLay0, enc_lay E xs h, PyData.depth, enc_depth E xs]
  rfl
theorem rv_eqLs {a b : Addr} {xs ys : List α} (E : Enc φ δ ok) (ha : SqL K H a (xs.map φ)) (hb : SqL K H b (ys.map φ)) (h1 : ∀ x ∈ xs, ok x) (h2 : ∀ x ∈ ys, ok x) : RV (rEqD K) (.ref a) (.ref b) H (.bl (decide (xs = ys))) := fun H1 e Q q =>
  ⟨.list (xs.map δ), .list (ys.map δ), .lst (ex_l e ha) (enc_all E K H1 xs), .lst (ex_l e hb) (enc_all E K H1 ys), enc_shaped E xs h1, enc_shaped E ys h2, by
    rw [PyData.eqv, enc_eqv E xs ys]
    exact q H1 (Ex.refl H1)⟩
theorem rv_neLs {a b : Addr} {xs ys : List α} (E : Enc φ δ ok) (ha : SqL K H a (xs.map φ)) (hb : SqL K H b (ys.map φ)) (h1 : ∀ x ∈ xs, ok x) (h2 : ∀ x ∈ ys, ok x) : RV (rNeD K) (.ref a) (.ref b) H (.bl (!decide (xs = ys))) := fun H1 e Q q =>
  ⟨.list (xs.map δ), .list (ys.map δ), .lst (ex_l e ha) (enc_all E K H1 xs), .lst (ex_l e hb) (enc_all E K H1 ys), enc_shaped E xs h1, enc_shaped E ys h2, by
    rw [PyData.eqv, enc_eqv E xs ys]
    exact q H1 (Ex.refl H1)⟩
theorem ev_eqQ {xs ys : List α} (E : Enc φ δ ok) (ha : EvQ K ta σ H (xs.map φ)) (hb : EvQ K tb σ H (ys.map φ)) (h1 : ∀ x ∈ xs, ok x) (h2 : ∀ x ∈ ys, ok x) : Ev (tOp (rEqD K) ta tb) σ H (.bl (decide (xs = ys))) := fun H1 e Q q =>
  ha H1 e _ fun p H2 e2 s2 => hb H2 (e.trans e2) _ fun p3 H3 e3 s3 => rv_eqLs E (ex_l e3 s2) s3 h1 h2 H3 (Ex.refl H3) Q fun H4 e4 => q H4 ((e2.trans e3).trans e4)
theorem ev_neQ {xs ys : List α} (E : Enc φ δ ok) (ha : EvQ K ta σ H (xs.map φ)) (hb : EvQ K tb σ H (ys.map φ)) (h1 : ∀ x ∈ xs, ok x) (h2 : ∀ x ∈ ys, ok x) : Ev (tOp (rNeD K) ta tb) σ H (.bl (!decide (xs = ys))) := fun H1 e Q q =>
  ha H1 e _ fun p H2 e2 s2 => hb H2 (e.trans e2) _ fun p3 H3 e3 s3 => rv_neLs E (ex_l e3 s2) s3 h1 h2 H3 (Ex.refl H3) Q fun H4 e4 => q H4 ((e2.trans e3).trans e4)
end
/-- a new list of what follows -/
theorem el_lst0 : EvL (tLst tNil) σ H [] := el_lst ea_nil (by simp)
end
end Tr

set_option Elab.async false
set_option linter.all false
set_option maxRecDepth 100000
set_option maxHeartbeats 4000000
/-! TrH: any(list) and isinstance within an except suite. -/
namespace Tr
open PySem PySem.Spec PyProof.Rows L2 Evl HotX L2H
section
variable {prog : Program} {w : World} {A : Around} {E : Value → Shared → Prop} {s : Shared}
theorem list_end_hot {it l x1 : Addr} {i : Nat} {items : Array Value} {Q : Option Value → Shared → Prop} (hot : HotAt A x1 s.heap) (hne : it ≠ x1)
    (hit : s.heap.IsListIter it l i) (hl : s.heap.IsList l items) (hx : items[i]? = none)
    (hQ : ∀ h', Heap.ExtBut it s.heap h' → Q none { s with heap := h' }) : wpAny (model prog w) A (pyNext (.ref it)) Q E s := by
  obtain ⟨o, ho, hc, hd⟩ := id hit
  obtain ⟨ol, hol, _, nl, hdl⟩ := hl
  obtain ⟨hh, o1, vs1, h1, d1, c1⟩ := hot
  unfold pyNext
  refine wpAny_bind (wpAny_attempt (wpAny_callSpecial?_slot (name := Str.ofString "__next__") hit.typeIs slot_listiter_next
    (wpAny_call_entry slot_listiter_next hit.typeIs entry_listiter_next ?_ (args_listiter_next _))))
  show wpAny _ _ (field (.ref it) 0 >>= _) _ _ s
  refine wpAny_bind (wpAny_field ho hd (x := .ref l) rfl ?_)
  show wpAny _ _ (if (Value.ref l == Value.none) = true then _ else _) _ _ s
  rw [if_neg (show ¬ ((Value.ref l == Value.none) = true) from Bool.false_ne_true)]
  show wpAny _ _ (field (.ref it) 1 >>= _) _ _ s
  refine wpAny_bind (wpAny_field ho hd (x := .int i 0) rfl ?_)
  show wpAny _ _ (seqItems? (.ref l) >>= _) _ _ s
  refine wpAny_bind (wpAny_seqItems hol hdl ?_)
  simp only [Int.toNat_natCast, hx]
  refine wpAny_bind (wpAny_rule (wpAny_bind (wpAny_setField ho hd (by simp) ?_)))
  have h1' : (s.heap.update it (Obj.mapFields (·.setIfInBounds 0 Value.none))).get? x1 = some o1 := by
    rw [Heap.get?_update_other _ _ hne]; exact h1
  have sb : Heap.ExtBut it s.heap (s.heap.update it (Obj.mapFields (·.setIfInBounds 0 Value.none))) := (Heap.SameBut.update ..).extBut
  generalize s.heap.update it (Obj.mapFields (·.setIfInBounds 0 Value.none)) = hp at *
  show wpAny _ _ (newExc (.type "StopIteration") [] >>= _) _ _ _
  refine wpAny_bind ?_
  simp only [newExc, newTuple]
  refine wpAny_bind (wpAny_newObj_type ?_ (by size_fits))
  refine wpAny_bind (m := firstArgMember _ _) (wpAny_of_eq (a := Value.none) (by first | rfl | (simp only [firstArgMember]; rfl)) ?_)
  refine wpAny_newObj_type ?_ (by size_fits)
  refine raiseNew_hot ⟨hh, o1, vs1, Heap.get?_push_of_some _ (Heap.get?_push_of_some _ h1'), d1, c1⟩ (Nat.ne_of_lt (Heap.lt_size (Heap.get?_push_of_some _ h1'))) (Heap.get?_push_size _ rfl) rfl (by first | (simp; done) | (simp; omega) | (simp only [Array.size_append]; simp; omega)) ?_
  refine wpAny_bind (wpAny_isInstance (T := "StopIteration") (b := true) ⟨_, Heap.get?_update_self _ (Heap.get?_push_size _ rfl) rfl, rfl⟩ isSubtype_stop ?_)
  refine wpAny_pure (hQ _ fun b o hb e => ?_)
  have e2 := sb b o hb e
  rw [Heap.get?_update_other _ _ (Nat.ne_of_gt (Heap.lt_size (Heap.get?_push_of_some _ e2)))]
  exact Heap.get?_push_of_some _ (Heap.get?_push_of_some _ e2)
theorem walks_listHot (x1 : Addr) (hA : A.handled = some (.ref x1)) (I ax : Addr) (hne : ax ≠ I) (hI : I ≠ x1) (items : Array Value) :
    Walks prog w A I [I, ax, x1] [I] items.size (fun i v => items[i]? = some v) (fun i h => h.IsListIter I ax i ∧ h.IsList ax items ∧ HotAt A x1 h) where
  sub := fun b hb => by simp at hb; simp [hb]
  frame := fun _ _ _ st hk => ⟨st.1.at fun o e => hk I (by simp) o e, st.2.1.at fun o e => hk ax (by simp) o e, by
    obtain ⟨hh, o1, vs1, h1, d1, c1⟩ := st.2.2
    exact ⟨hh, o1, vs1, hk x1 (by simp) _ h1, d1, c1⟩⟩
  item := fun i s Q E hi st hQ => by
    refine wpAny_pyNext_list_item st.1 st.2.1 (x := items[i]) (by simp [hi]) fun h' hit' hs' => ?_
    refine hQ _ h' s.toks (by simp [hi]) ⟨hit', st.2.1.extBut hs'.extBut hne, ?_⟩ fun b o hb e => hs'.extBut b o (fun h => hb (by simp [h])) e
    obtain ⟨hh, o1, vs1, h1, d1, c1⟩ := st.2.2
    exact ⟨hh, o1, vs1, hs'.extBut x1 o1 (Ne.symm hI) h1, d1, c1⟩
  done := fun s Q E st hQ => list_end_hot st.2.2 hI st.1 st.2.1 (by simp) fun h' he' => hQ h' s.toks fun b o hb e => he' b o (fun h => hb (by simp [h])) e
  self := fun _ _ _ _ st hQ => wpAny_pyIter_listiter st.1 hQ
end
theorem cr_anyH {X : Cx} {K : PySem.W.Frag} (hK : X.K = K) (c : HotC X) : CallR X (.builtin "any") (rAny K) := by
  subst hK
  intro pins s σ H vs us Q I r h
  obtain ⟨a, bs, rfl, hs, q⟩ := h
  obtain ⟨its, rv, hl, _⟩ := I.list hs
  obtain ⟨x1, hh, o1, vs1, h1, d1, c1⟩ := c.at I
  rw [Vals.ref1 r]
  have hb := rv.bls
  refine call_any_walk (iter_any hl.isList fun s₂ e2 st hne => ?_)
  subst e2
  have hI : s.heap.objs.size ≠ x1 := Nat.ne_of_gt (Heap.lt_size h1)
  refine ⟨_, _, _, _, _, _, _, rfl, walks_listHot (A := X.A.in1) x1 hh _ a hne hI its.toArray, ⟨st.1, st.2, hh, o1, vs1, Heap.get?_push_of_some _ h1, d1, c1⟩, truth_bools hb, fun h' tk hk => ?_⟩
  refine ⟨.bl _, H, I.kept fun b o eo => hk b o (fun hmem => ?_) (Heap.get?_push_of_some _ eo), ?_, q⟩
  · rcases List.mem_cons.mp hmem with e1 | hmem
    · exact absurd (e1 ▸ Heap.lt_size eo) (Nat.lt_irrefl _)
    · cases hmem
  · show Value.bool _ = Value.bool _
    rw [← L2.any_range, hb, List.size_toArray, List.length_map]
/-! ### isinstance of what the suite has caught -/
theorem hotC_of {X : Cx} {a : Addr} {oe : Obj} {cls : Value} {d : Option Addr} {pn : List (Addr × Obj)} (hz : L2N.Zn cls d oe) (hf : ∃ vs, oe.data = .fields vs) : HotC (X.suite a ((a, oe) :: pn)) := by
  obtain ⟨vs, hv⟩ := hf
  exact ⟨(a, oe), ⟨rfl, vs, hv, hz.2.2 vs hv⟩, List.mem_cons_self⟩
def rIsA (K : PySem.W.Frag) (cls : Value) (d : Option Addr) (a : Addr) : List V → Hp → VK → Prop := fun xs H Q => ∃ (D : Addr) (c : V) (cv : Value) (b : Bool), cls = .ref D ∧ d = none ∧ ExcC K D ∧ xs = [.ref a, c] ∧ (∀ u, RelV c u → u = cv) ∧ PySem.W.kitOne K (.ref D) cv = some b ∧ Q (.bl b) H
theorem call_isA {X : Cx} {K : PySem.W.Frag} {a : Addr} {oe : Obj} {cls : Value} {d : Option Addr} {pn : List (Addr × Obj)} (hK : X.K = K) (hz : L2N.Zn cls d oe) (hf : ∃ vs, oe.data = .fields vs) : CallR (X.suite a ((a, oe) :: pn)) (.builtin "isinstance") (rIsA K cls d a) := by
  subst hK
  intro pins s σ H xs us Q I r h
  obtain ⟨D, c, cv, b, rfl, rfl, C, e, h1, h2, q⟩ := h
  exact call_isE C hz.zc hf pins s σ H xs us Q I r ⟨c, cv, b, e, h1, h2, q⟩
section
variable {K : PySem.W.Frag} {σ : L2.St} {H : Hp} {ta tb : TE}
theorem ev_isA {D a : Addr} {c : V} {cv : Value} {b : Bool} (C : ExcC K D) (ha : Ev ta σ H (.ref a)) (hc : Ev tb σ H c) (hv : ∀ u, RelV c u → u = cv) (e : PySem.W.kitOne K (.ref D) cv = some b) : Ev (tCB (rIsA K (.ref D) none a) (tCons ta (tCons tb tNil))) σ H (.bl b) := fun H1 e1 Q q =>
  ha H1 e1 _ fun H2 e2 => hc H2 (e1.trans e2) _ fun H3 e3 => ⟨D, c, cv, b, rfl, rfl, C, rfl, hv, e, q H3 (e2.trans e3)⟩
theorem ev_anyA {bs : List Bool} {p : Addr} (h : Ev ta σ H (.ref p)) (hs : SqL K H p (bs.map V.bl)) : Ev (tCB (rAny K) (tCons ta tNil)) σ H (.bl (bs.any id)) := fun H1 e Q q =>
  h H1 e _ fun H2 e2 => ⟨p, bs, rfl, ex_l (e.trans e2) hs, q H2 e2⟩
/-- try: f(..) except c as n: what f raises, of one class alone, is caught -/
theorem q_tryCall {sp : Sp} {tz : TS} {ta : TA} {vs : List V} {c : Value} {i : Nat} {ts : Addr → Value → Option Addr → TS} {Wout : WX} {D : Ends} (C : Addr) (ha : EvA ta σ H vs) (hc : PySem.W.exmOne K (.ref C) c = some true)
    (h : ∀ H1, Ex H H1 → ∀ (Q : VK) (E : XK), (∀ H2, Ex H1 H2 → E (.ref C) none H2) → sp vs H1 Q E)
    (k : ∀ H1, Ex H H1 → ∀ a, H1 a = none → ts a (.ref C) none { nx := fun σ' H' => tz D (σ'.set i none) H', rt := D.rt, bk := fun σ' H' => D.bk (σ'.set i none) H', ct := fun σ' H' => D.ct (σ'.set i none) H' } (σ.set i (some (.ref a))) H1) :
    tSeq (fun D σ H => tDrop (tCallS sp (WE (wAs K c i ts Wout D)) ta) D σ H) tz D σ H := ha H (Ex.refl _) _ fun H1 e1 => h H1 e1 _ _ fun H2 e2 =>
  ⟨true, hc, fun _ a na => k H2 (e1.trans e2) a na, fun z => nomatch z⟩
end
end Tr

set_option linter.all false
/-! M3: counting readings, in plain Lean -/
namespace M3
abbrev Wd := List Nat
def pre (a t : Wd) : Bool := decide (t.take a.length = a)
def waysF (ws : List Wd) : Nat → Wd → Nat
  | _, [] => 1
  | 0, _ :: _ => 0
  | n + 1, c :: r => ((ws.filter fun a => pre a (c :: r)).map fun a => waysF ws n ((c :: r).drop a.length)).sum
def ways (ws : List Wd) (t : Wd) : Nat := waysF ws t.length t
theorem sum_congr {α : Type} {f g : α → Nat} : ∀ {l : List α}, (∀ x ∈ l, f x = g x) → (l.map f).sum = (l.map g).sum
  | [], _ => rfl
  | x :: r, h => by
    simp only [List.map_cons, List.sum_cons]
    rw [h x (by simp), sum_congr fun y hy => h y (by simp [hy])]
theorem waysF_fuel (ws : List Wd) (hw : ∀ a ∈ ws, a ≠ []) : ∀ (n m : Nat) (t : Wd), t.length ≤ n → t.length ≤ m → waysF ws n t = waysF ws m t
  | n, m, [], _, _ => by cases n <;> cases m <;> rfl
  | 0, m, c :: r, h, _ => by simp at h
  | n + 1, 0, c :: r, _, h => by simp at h
  | n + 1, m + 1, c :: r, h1, h2 => by
    simp only [waysF]
    apply sum_congr
    intro a ha
    have ha' := List.mem_filter.mp ha
    have hl : 0 < a.length := List.length_pos_iff.mpr (hw a ha'.1)
    apply waysF_fuel ws hw
    · simp only [List.length_drop, List.length_cons] at h1 ⊢; omega
    · simp only [List.length_drop, List.length_cons] at h2 ⊢; omega
theorem ways_nil (ws : List Wd) : ways ws [] = 1 := rfl
theorem ways_eq (ws : List Wd) (hw : ∀ a ∈ ws, a ≠ []) {t : Wd} (ht : t ≠ []) : ways ws t = ((ws.filter fun a => pre a t).map fun a => ways ws (t.drop a.length)).sum := by
  cases t with
  | nil => exact absurd rfl ht
  | cons c r =>
    show waysF ws (r.length + 1) (c :: r) = _
    simp only [waysF]
    apply sum_congr
    intro a ha
    have ha' := List.mem_filter.mp ha
    have hl : 0 < a.length := List.length_pos_iff.mpr (hw a ha'.1)
    unfold ways
    apply waysF_fuel ws hw
    · simp only [List.length_drop, List.length_cons]; omega
    · exact Nat.le_refl _
theorem pre_len {a t : Wd} (h : pre a t = true) : a.length ≤ t.length := by
  have := of_decide_eq_true h
  have h2 := congrArg List.length this
  simp only [List.length_take] at h2
  omega
theorem pre_app {a t : Wd} (h : pre a t = true) : a ++ t.drop a.length = t := by
  have := of_decide_eq_true h
  have h2 := List.take_append_drop a.length t
  rw [this] at h2; exact h2
/-! the counts ahead of a place -/
def bef (ws : List Wd) (t : Wd) (p : Nat) : Nat := (((ws.take p).filter fun a => pre a t).map fun a => ways ws (t.drop a.length)).sum
theorem bef_zero (ws : List Wd) (t : Wd) : bef ws t 0 = 0 := by simp [bef]
theorem bef_succ (ws : List Wd) (t : Wd) {p : Nat} {a : Wd} (h : ws[p]? = some a) : bef ws t (p + 1) = bef ws t p + (if pre a t = true then ways ws (t.drop a.length) else 0) := by
  unfold bef
  rw [List.take_succ, h, List.filter_append, List.map_append, List.sum_append]
  by_cases hp : pre a t = true <;> simp [hp]
theorem bef_all (ws : List Wd) (hw : ∀ a ∈ ws, a ≠ []) {t : Wd} (ht : t ≠ []) : bef ws t ws.length = ways ws t := by
  rw [ways_eq ws hw ht]; unfold bef; rw [List.take_length]
theorem bef_mono (ws : List Wd) (t : Wd) {p q : Nat} (h : p ≤ q) : bef ws t p ≤ bef ws t q := by
  induction q with
  | zero => have : p = 0 := by omega
            subst this; exact Nat.le_refl _
  | succ q ih =>
    rcases Nat.lt_or_ge p (q + 1) with h1 | h1
    · refine Nat.le_trans (ih (by omega)) ?_
      cases hq : ws[q]? with
      | some a => rw [bef_succ ws t hq]; omega
      | none =>
        have : ws.length ≤ q := List.getElem?_eq_none_iff.mp hq
        unfold bef
        rw [List.take_of_length_le this, List.take_of_length_le (by omega)]
        exact Nat.le_refl _
    · have : p = q + 1 := by omega
      subst this; exact Nat.le_refl _
/-- the first place whose count reaches behind k -/
def pick (ws : List Wd) (t : Wd) : List Wd → Nat → Nat → Option (Nat × Nat)
  | [], _, _ => none
  | a :: r, i, k => if pre a t = true then (if k < ways ws (t.drop a.length) then some (i, k) else pick ws t r (i + 1) (k - ways ws (t.drop a.length))) else pick ws t r (i + 1) k
def wat (ws : List Wd) (i : Nat) : Wd := ws.getD i []
theorem pick_some (ws : List Wd) (t : Wd) : ∀ (r : List Wd) (i k : Nat), ws.drop i = r → i ≤ ws.length → bef ws t i + k < bef ws t ws.length →
    ∃ j k', pick ws t r i k = some (j, k') ∧ j < ws.length ∧ pre (wat ws j) t = true ∧ k' < ways ws (t.drop (wat ws j).length) ∧ bef ws t j + k' = bef ws t i + k := by
  intro r
  induction r with
  | nil =>
    intro i k hd hi hk
    have : ws.length ≤ i := by
      have := congrArg List.length hd
      simp at this; omega
    have e : i = ws.length := by omega
    subst e; omega
  | cons a r ih =>
    intro i k hd hi hk
    have hil : i < ws.length := by
      have := congrArg List.length hd
      simp at this; omega
    have ha : ws[i]? = some a := by
      have := List.getElem?_drop (xs := ws) (i := i) (j := 0)
      rw [hd] at this
      simpa using this.symm
    have hr : ws.drop (i + 1) = r := by
      rw [← List.drop_drop, hd]; rfl
    have ew : wat ws i = a := by simp [wat, List.getD, ha]
    have hb := bef_succ ws t ha
    unfold pick
    by_cases hp : pre a t = true
    · rw [if_pos hp] at hb ⊢
      by_cases hk2 : k < ways ws (t.drop a.length)
      · rw [if_pos hk2]
        exact ⟨i, k, rfl, hil, by rw [ew]; exact hp, by rw [ew]; exact hk2, rfl⟩
      · rw [if_neg hk2]
        obtain ⟨j, k', e1, e2, e3, e4, e5⟩ := ih (i + 1) (k - ways ws (t.drop a.length)) hr (by omega) (by rw [hb]; omega)
        exact ⟨j, k', e1, e2, e3, e4, by rw [e5, hb]; omega⟩
    · rw [if_neg hp] at hb ⊢
      obtain ⟨j, k', e1, e2, e3, e4, e5⟩ := ih (i + 1) k hr (by omega) (by rw [hb]; omega)
      exact ⟨j, k', e1, e2, e3, e4, by rw [e5, hb]; omega⟩
/-- the reading of a count -/
def nthF (ws : List Wd) : Nat → Wd → Nat → List Nat
  | _, [], _ => []
  | 0, _ :: _, _ => []
  | n + 1, c :: r, k => match pick ws (c :: r) ws 0 k with
    | some (j, k') => j :: nthF ws n ((c :: r).drop (wat ws j).length) k'
    | none => []
def nthW (ws : List Wd) (t : Wd) (k : Nat) : List Nat := nthF ws t.length t k
def joinW (ws : List Wd) (ns : List Nat) : Wd := (ns.map (wat ws)).flatten
/-- a reading's count -/
def num (ws : List Wd) : Wd → List Nat → Nat
  | _, [] => 0
  | t, p :: r => bef ws t p + num ws (t.drop (wat ws p).length) r
theorem wat_ne {ws : List Wd} (hw : ∀ a ∈ ws, a ≠ []) {j : Nat} (h : j < ws.length) : 0 < (wat ws j).length := by
  have : wat ws j = ws[j] := by simp [wat, List.getD, h]
  rw [this]
  exact List.length_pos_iff.mpr (hw _ (List.getElem_mem h))
theorem nthF_ok (ws : List Wd) (hw : ∀ a ∈ ws, a ≠ []) : ∀ (n : Nat) (t : Wd) (k : Nat), t.length ≤ n → k < ways ws t →
    joinW ws (nthF ws n t k) = t ∧ (∀ p ∈ nthF ws n t k, p < ws.length) ∧ num ws t (nthF ws n t k) = k := by
  intro n
  induction n with
  | zero =>
    intro t k ht hk
    have : t = [] := List.eq_nil_of_length_eq_zero (by omega)
    subst this
    rw [ways_nil] at hk
    exact ⟨rfl, by simp [nthF], by simp [nthF, num]; omega⟩
  | succ n ih =>
    intro t k ht hk
    cases t with
    | nil =>
      rw [ways_nil] at hk
      exact ⟨rfl, by simp [nthF], by simp [nthF, num]; omega⟩
    | cons c r =>
      have hne : (c :: r) ≠ [] := by simp
      obtain ⟨j, k', e1, e2, e3, e4, e5⟩ := pick_some ws (c :: r) ws 0 k rfl (by omega) (by rw [bef_zero, bef_all ws hw hne]; omega)
      have hl := wat_ne hw e2
      obtain ⟨i1, i2, i3⟩ := ih ((c :: r).drop (wat ws j).length) k' (by simp only [List.length_drop, List.length_cons] at ht ⊢; omega) e4
      simp only [nthF, e1]
      refine ⟨?_, ?_, ?_⟩
      · show (wat ws j) ++ joinW ws _ = _
        rw [i1]; exact pre_app e3
      · intro p hp
        rcases List.mem_cons.mp hp with rfl | hp
        · exact e2
        · exact i2 p hp
      · show bef ws (c :: r) j + num ws _ _ = k
        rw [i3, e5, bef_zero, Nat.zero_add]
theorem nthW_ok (ws : List Wd) (hw : ∀ a ∈ ws, a ≠ []) {t : Wd} {k : Nat} (hk : k < ways ws t) :
    joinW ws (nthW ws t k) = t ∧ (∀ p ∈ nthW ws t k, p < ws.length) ∧ num ws t (nthW ws t k) = k := nthF_ok ws hw _ t k (Nat.le_refl _) hk
theorem join_cons (ws : List Wd) (p : Nat) (r : List Nat) : joinW ws (p :: r) = wat ws p ++ joinW ws r := rfl
theorem join_len (ws : List Wd) (hw : ∀ a ∈ ws, a ≠ []) : ∀ ns : List Nat, (∀ p ∈ ns, p < ws.length) → ns.length ≤ (joinW ws ns).length
  | [], _ => by simp
  | p :: r, h => by
    rw [join_cons, List.length_append, List.length_cons]
    have h1 := wat_ne hw (h p (by simp))
    have h2 := join_len ws hw r fun q hq => h q (by simp [hq])
    omega
theorem pre_of_join {ws : List Wd} {p : Nat} {r : List Nat} {t : Wd} (h : joinW ws (p :: r) = t) : pre (wat ws p) t = true ∧ joinW ws r = t.drop (wat ws p).length := by
  rw [join_cons] at h
  subst h
  exact ⟨by simp [pre], by simp⟩
theorem wat_getElem {ws : List Wd} {p : Nat} (h : p < ws.length) : ws[p]? = some (wat ws p) := by
  simp [wat, List.getD, h]
theorem num_lt (ws : List Wd) (hw : ∀ a ∈ ws, a ≠ []) : ∀ (ns : List Nat) (t : Wd), (∀ p ∈ ns, p < ws.length) → joinW ws ns = t → num ws t ns < ways ws t
  | [], t, _, h => by
    have : t = [] := h.symm
    subst this; simp [num, ways_nil]
  | p :: r, t, hp, h => by
    obtain ⟨h1, h2⟩ := pre_of_join h
    have hpl := hp p (by simp)
    have ih := num_lt ws hw r (t.drop (wat ws p).length) (fun q hq => hp q (by simp [hq])) h2
    have hne : t ≠ [] := fun e => by
      have := pre_len h1
      have h3 := wat_ne hw hpl
      rw [e, List.length_nil] at this; omega
    have hm := bef_mono ws t (show p + 1 ≤ ws.length by omega)
    rw [bef_all ws hw hne] at hm
    have e : num ws t (p :: r) = bef ws t p + num ws (t.drop (wat ws p).length) r := rfl
    rw [e]
    rw [bef_succ ws t (wat_getElem hpl), if_pos h1] at hm
    exact Nat.lt_of_lt_of_le (Nat.add_lt_add_left ih _) hm
/-- a list not before another one, as Python's >= tells -/
def lexGe : List Nat → List Nat → Bool
  | _, [] => true
  | [], _ :: _ => false
  | x :: xs, y :: ys => if x = y then lexGe xs ys else decide (y ≤ x)
theorem num_ge (ws : List Wd) (hw : ∀ a ∈ ws, a ≠ []) : ∀ (xs ys : List Nat) (t : Wd), (∀ p ∈ xs, p < ws.length) → (∀ p ∈ ys, p < ws.length) → joinW ws xs = t → joinW ws ys = t → lexGe xs ys = true → num ws t ys ≤ num ws t xs
  | [], [], _, _, _, _, _, _ => Nat.le_refl _
  | [], y :: ys, _, _, _, _, _, h => by simp [lexGe] at h
  | x :: xs, [], t, _, _, _, _, _ => by simp [num]
  | x :: xs, y :: ys, t, hx, hy, jx, jy, h => by
    obtain ⟨x1, x2⟩ := pre_of_join jx
    obtain ⟨y1, y2⟩ := pre_of_join jy
    have hxl := hx x (by simp)
    have hyl := hy y (by simp)
    unfold lexGe at h
    by_cases e : x = y
    · subst e
      rw [if_pos rfl] at h
      have ih := num_ge ws hw xs ys (t.drop (wat ws x).length) (fun q hq => hx q (by simp [hq])) (fun q hq => hy q (by simp [hq])) x2 y2 h
      show bef ws t x + _ ≤ bef ws t x + _
      omega
    · rw [if_neg e] at h
      have hle := of_decide_eq_true h
      have hb := bef_succ ws t (wat_getElem hyl)
      rw [if_pos y1] at hb
      have hm := bef_mono ws t (show y + 1 ≤ x by omega)
      have hl := num_lt ws hw ys (t.drop (wat ws y).length) (fun q hq => hy q (by simp [hq])) y2
      show bef ws t y + _ ≤ bef ws t x + _
      omega
theorem nth_rising (ws : List Wd) (hw : ∀ a ∈ ws, a ≠ []) {t : Wd} {k l : Nat} (hl : l < ways ws t) (h : k < l) : lexGe (nthW ws t k) (nthW ws t l) = false := by
  obtain ⟨a1, a2, a3⟩ := nthW_ok ws hw (show k < ways ws t by omega)
  obtain ⟨b1, b2, b3⟩ := nthW_ok ws hw hl
  cases e : lexGe (nthW ws t k) (nthW ws t l) with
  | false => rfl
  | true =>
    have := num_ge ws hw _ _ t a2 b2 a1 b1 e
    rw [a3, b3] at this
    omega
/-! counting from the beginning on -/
/-- the sum of F j * ways of what is behind j, j from m on, k of them -/
def pot (ws : List Wd) (t : Wd) (F : Nat → Nat) : Nat → Nat → Nat
  | _, 0 => 0
  | m, k + 1 => F m * ways ws (t.drop m) + pot ws t F (m + 1) k
def bump (F : Nat → Nat) (j x : Nat) : Nat → Nat := fun i => if i = j then F i + x else F i
theorem pot_out (ws : List Wd) (t : Wd) (F : Nat → Nat) (j x : Nat) : ∀ (k m : Nat), (j < m ∨ m + k ≤ j) → pot ws t (bump F j x) m k = pot ws t F m k
  | 0, _, _ => rfl
  | k + 1, m, h => by
    simp only [pot]
    rw [pot_out ws t F j x k (m + 1) (by omega)]
    have : bump F j x m = F m := by unfold bump; rw [if_neg (by omega)]
    rw [this]
theorem pot_in (ws : List Wd) (t : Wd) (F : Nat → Nat) (j x : Nat) : ∀ (k m : Nat), m ≤ j → j < m + k → pot ws t (bump F j x) m k = pot ws t F m k + x * ways ws (t.drop j)
  | 0, m, h1, h2 => by omega
  | k + 1, m, h1, h2 => by
    simp only [pot]
    by_cases e : m = j
    · subst e
      rw [pot_out ws t F m x k (m + 1) (by omega)]
      have : bump F m x m = F m + x := by unfold bump; rw [if_pos rfl]
      rw [this, Nat.add_mul]; omega
    · rw [pot_in ws t F j x k (m + 1) (by omega) (by omega)]
      have : bump F j x m = F m := by unfold bump; rw [if_neg e]
      rw [this]; omega
/-- the words that stand at m, one after another -/
def spread (t : Wd) (m : Nat) (F : Nat → Nat) (ws : List Wd) : Nat → Nat := ws.foldl (fun G a => if pre a (t.drop m) = true then bump G (m + a.length) (F m) else G) F
theorem spread_at (t : Wd) (m : Nat) (F : Nat → Nat) : ∀ (us : List Wd), (∀ a ∈ us, a ≠ []) → ∀ G : Nat → Nat, G m = F m → (us.foldl (fun G a => if pre a (t.drop m) = true then bump G (m + a.length) (F m) else G) G) m = F m
  | [], _, G, h => h
  | a :: r, hw, G, h => by
    simp only [List.foldl_cons]
    apply spread_at t m F r (fun b hb => hw b (by simp [hb]))
    have hl : 0 < a.length := List.length_pos_iff.mpr (hw a (by simp))
    by_cases hp : pre a (t.drop m) = true
    · rw [if_pos hp]; unfold bump; rw [if_neg (by omega)]; exact h
    · rw [if_neg hp]; exact h
theorem spread_pot (ws : List Wd) (t : Wd) (m : Nat) (hm : m < t.length) (x : Nat) : ∀ (us : List Wd), (∀ a ∈ us, a ≠ []) → ∀ G : Nat → Nat,
    pot ws t (us.foldl (fun G a => if pre a (t.drop m) = true then bump G (m + a.length) x else G) G) (m + 1) (t.length - m) =
    pot ws t G (m + 1) (t.length - m) + x * ((us.filter fun a => pre a (t.drop m)).map fun a => ways ws ((t.drop m).drop a.length)).sum
  | [], _, G => by simp
  | a :: r, hw, G => by
    have hl : 0 < a.length := List.length_pos_iff.mpr (hw a (by simp))
    simp only [List.foldl_cons]
    rw [spread_pot ws t m hm x r (fun b hb => hw b (by simp [hb]))]
    by_cases hp : pre a (t.drop m) = true
    · have hpl := pre_len hp
      rw [List.length_drop] at hpl
      rw [if_pos hp, pot_in ws t G (m + a.length) x _ _ (by omega) (by omega), List.filter_cons, if_pos hp, List.map_cons, List.sum_cons, List.drop_drop, Nat.mul_add]
      omega
    · rw [if_neg hp, List.filter_cons, if_neg hp]
theorem spread_step (ws : List Wd) (hw : ∀ a ∈ ws, a ≠ []) (t : Wd) (m : Nat) (hm : m < t.length) (F : Nat → Nat) :
    pot ws t (spread t m F ws) (m + 1) (t.length - m) = pot ws t F m (t.length - m + 1) := by
  unfold spread
  rw [spread_pot ws t m hm (F m) ws hw F]
  show _ = F m * ways ws (t.drop m) + pot ws t F (m + 1) (t.length - m)
  have hne : t.drop m ≠ [] := fun e => by
    have := congrArg List.length e
    simp at this; omega
  rw [ways_eq ws hw hne]
  omega
/-- where nothing leads, nothing is spread -/
theorem bump_zero (F : Nat → Nat) (j : Nat) : bump F j 0 = F := by
  funext i; unfold bump; split <;> rfl
theorem spread_zero (t : Wd) (m : Nat) (F : Nat → Nat) (h : F m = 0) (ws : List Wd) : spread t m F ws = F := by
  unfold spread
  rw [h]
  induction ws with
  | nil => rfl
  | cons a r ih =>
    simp only [List.foldl_cons, bump_zero, ite_self] at ih ⊢
    exact ih
end M3

set_option Elab.async false
set_option linter.all false
set_option maxRecDepth 100000
set_option maxHeartbeats 4000000
namespace Tr
open PySem PySem.Spec PyProof.Rows L2 Evl
open M3 (wat joinW pre)
def topS (i : Nat) : Stmt := PySem.Challenge.pw_tworeadings_k03_whole_counted.main.body.getD i (.Pass ⟨0, 0, 0, 0⟩)
abbrev s_is_number : Stmt := topS 10
abbrev N_is_number : List Str := ["thing", "least", "most"]
theorem sc_is_number : FnScope N_is_number ["thing", "least", "most"] (defScope s_is_number) := ⟨rfl, rfl, rfl, by decide +kernel, rfl, by decide +kernel, by decide +kernel⟩
abbrev s_is_text : Stmt := topS 11
abbrev N_is_text : List Str := ["thing"]
theorem sc_is_text : FnScope N_is_text ["thing"] (defScope s_is_text) := ⟨rfl, rfl, rfl, by decide +kernel, rfl, by decide +kernel, by decide +kernel⟩
abbrev s_asked_code : Stmt := topS 12
abbrev N_asked_code : List Str := ["code", "word"]
theorem sc_asked_code : FnScope N_asked_code ["code"] (defScope s_asked_code) := ⟨rfl, rfl, rfl, by decide +kernel, rfl, by decide +kernel, by decide +kernel⟩
abbrev s_asked_text : Stmt := topS 13
abbrev N_asked_text : List Str := ["text"]
theorem sc_asked_text : FnScope N_asked_text ["text"] (defScope s_asked_text) := ⟨rfl, rfl, rfl, by decide +kernel, rfl, by decide +kernel, by decide +kernel⟩
abbrev s_joined : Stmt := topS 14
abbrev N_joined : List Str := ["code", "places", "place"]
theorem sc_joined : FnScope N_joined ["code", "places"] (defScope s_joined) := ⟨rfl, rfl, rfl, by decide +kernel, rfl, by decide +kernel, by decide +kernel⟩
abbrev s_stands : Stmt := topS 15
abbrev N_stands : List Str := ["word", "text", "at"]
theorem sc_stands : FnScope N_stands ["word", "text", "at"] (defScope s_stands) := ⟨rfl, rfl, rfl, by decide +kernel, rfl, by decide +kernel, by decide +kernel⟩
local macro_rules | `(tactic| walk_at "sd") => `(tactic| first | assumption | rfl | omega | decide | (solve_by_elim) | (refine Nat.le_trans (m := 1000) (by solve_by_elim) (by decide)))
local macro_rules | `(tactic| walk_at "rv") => `(tactic| first
  | exact rv_add | exact rv_sub | exact rv_lt | exact rv_le | exact rv_gt | exact rv_ge | exact rv_eqI | exact rv_eqS | exact rv_eqB | exact rv_neI | exact rv_neS | exact rv_neB
  | exact rv_mod (by walk_at "sd") | exact rv_fdiv (by first | assumption | exact ⟨by omega, by omega⟩) | exact rv_addS (by walk_at "sd") | exact rv_isB | exact rv_notB | assumption)
local macro_rules | `(tactic| walk_at "ea") => `(tactic| first
  | exact ea_nil
  | (refine' ea_cons ?k1 ?k2; (case k1 => walk_at "ev"); (case k2 => walk_at "ea")))
local macro_rules | `(tactic| walk_at "eo") => `(tactic| first
  | exact eo_none
  | (refine' eo_some ?k1; (case k1 => walk_at "ev")))
local macro_rules | `(tactic| walk_at "et") => `(tactic| first
  | (refine' et_test ?k1; (case k1 => walk_at "ev"))
  | (refine' et_B ?k1; (case k1 => walk_at "ev"))
  | (refine' et_and ?k1 ?k2; (case k1 => walk_at "et"); (case k2 => (intro _; walk_at "et")))
  | (refine' et_or ?k1 ?k2; (case k1 => walk_at "et"); (case k2 => (intro _; walk_at "et")))
  | (refine' et_not ?k1; (case k1 => walk_at "et"))
  | assumption)
local macro_rules | `(tactic| walk_at "ev") => `(tactic| first
  | assumption
  | exact ev_cS
  | exact ev_c
  | exact ev_var rfl
  | (refine' ev_op ?k1 ?k2 ?k3; (case k1 => walk_at "ev"); (case k2 => walk_at "ev"); (case k3 => walk_at "rv"))
  | (refine' ev_un ?k1 ru_neg; (case k1 => walk_at "ev"))
  | (refine' ev_chain ?k1 ?k2 ?k3 ?k4 ?k5; (case k1 => walk_at "ev"); (case k2 => walk_at "ev"); (case k3 => walk_at "ev"); (case k4 => walk_at "rv"); (case k5 => (intro _; walk_at "rv")))
  | (refine' ev_slS ?k1 ?k2 ?k3 ?k4; (case k1 => walk_at "ev"); (case k2 => walk_at "eo"); (case k3 => walk_at "eo"); (case k4 => walk_at "sd"))
  | (refine' ev_lenS ?k1 ?k2; (case k1 => walk_at "ev"); (case k2 => walk_at "sd"))
  | (refine' ev_len' ?k1 ?k2; (case k1 => walk_at "ev"); (case k2 => walk_at "sd"))
  | (refine' ev_strip ?k1 ?k2 ?k3; (case k1 => walk_at "ev"); (case k2 => walk_at "ev"); (case k3 => walk_at "sd"))
  | (refine' ev_sum ?k1 ?k2; (case k1 => walk_at "ev"); (case k2 => walk_at "sd"))
  | (refine' ev_isi ?k1 ?k2 ?k3 ?k4; (case k1 => walk_at "ev"); (case k2 => walk_at "ev"); (case k3 => first | exact ty_int | exact ty_bl | exact ty_str | exact ty_list (by walk_at "sd")); (case k4 => first | exact kit_ty (r := true) (by decide +kernel) | exact kit_ty (r := false) (by decide +kernel)))
  | (refine' ev_andV ?k1 ?k2; (case k1 => walk_at "ev"); (case k2 => (intro _; walk_at "ev")))
  | (refine' ev_orV ?k1 ?k2; (case k1 => walk_at "ev"); (case k2 => (intro _; walk_at "ev")))
  | (refine' ev_notV ?k1; (case k1 => walk_at "ev"))
  | (refine' ev_call ?k1 ?k2; (case k1 => walk_at "ea"); (case k2 => walk_at "sv")))
local macro_rules | `(tactic| walk_at "el") => `(tactic| first
  | assumption
  | (refine' el_mapB ?k1 ?k2 ?k3 (fun _ => rfl) ?k5; (case k1 => walk_at "ev"); (case k2 => walk_at "sd"); (case k3 => walk_at "sd"); (case k5 => (intro _ _; walk_at "ev")))
  | (refine' el_mapI ?k1 ?k2 ?k3 (fun _ => rfl) ?k5; (case k1 => walk_at "ev"); (case k2 => walk_at "sd"); (case k3 => walk_at "sd"); (case k5 => (intro _ _; walk_at "ev")))
  | (refine' el_mapS ?k1 ?k2 ?k3 (fun _ => rfl) ?k5; (case k1 => walk_at "ev"); (case k2 => walk_at "sd"); (case k3 => walk_at "sd"); (case k5 => (intro _ _; walk_at "ev"))))
local macro_rules | `(tactic| walk_at "ev") => `(tactic| first
  | (refine' ev_all ?k1; (case k1 => walk_at "el"))
  | (refine' ev_any ?k1; (case k1 => walk_at "el"))
  | (refine' ev_sumN ?k1; (case k1 => walk_at "el"))
  | (refine' ev_join ?k1 ?k2 ?k3; (case k1 => exact ev_is ev_cS (congrArg tx codes_nil)); (case k2 => walk_at "el"); (case k3 => walk_at "sd")))

/-- the built-in names, LETTERS -/
structure Blt (mg : Str → Option Value) : Prop where
  len : mg "len" = none
  all : mg "all" = none
  any : mg "any" = none
  isinstance : mg "isinstance" = none
  range : mg "range" = none
  sum : mg "sum" = none
  sorted : mg "sorted" = none
  enumerate : mg "enumerate" = none
  max : mg "max" = none
  min : mg "min" = none
  reversed : mg "reversed" = none
  list : mg "list" = none
  int : mg "int" = none
  str : mg "str" = none
  bool : mg "bool" = none
  set : mg "set" = none
  ValueError : mg "ValueError" = none
  LETTERS : ∃ u, mg "LETTERS" = some u ∧ RelV (.str "abcdefghijklmnopqrstuvwxyz") u
theorem pe_gv {X : Cx} {x : Str} {v : V} {pos : Pos} (hg : Gl X x) (h : ∃ u, X.mg x = some u ∧ RelV v u) (hd : (x == ("__debug__" : Str)) = false := by decide) : PE X (.Name x pos) (tC v) := by
  obtain ⟨u, h1, h2⟩ := h
  exact pe_glob hg h1 h2 hd
def okW (a : Wd) : Prop := ∀ c ∈ a, 97 ≤ c ∧ c ≤ 122
instance (a : Wd) : Decidable (okW a) := inferInstanceAs (Decidable (∀ c ∈ a, 97 ≤ c ∧ c ≤ 122))
def abc : Wd := codes ("abcdefghijklmnopqrstuvwxyz" : Str)
theorem abc_eq : abc = List.range' 97 26 := by decide +kernel
theorem mem_abc {c : Nat} : c ∈ abc ↔ 97 ≤ c ∧ c ≤ 122 := by
  rw [abc_eq, List.mem_range'_1]
  omega
theorem codes_nil : codes ("" : Str) = [] := by decide +kernel
theorem S_nil : S [] = ("" : Str) := by decide +kernel
def standsB (a t : Wd) (i : Nat) : Bool := pre a (t.drop i)
section
variable {P : Program} {w : World} {K : PySem.W.Frag} {mg : Str → Option Value} {base : Heap} {H : Hp}
/-! ### stands -/
def spStands : Sp := fun vs H Q _ => ∃ (a t : Wd) (i : Nat), vs = [tx a, tx t, .int (i : Int)] ∧ a.length ≤ 10000 ∧ t.length ≤ 10000 ∧ ∀ H', Ex H H' → Q (.bl (standsB a t i)) H'
theorem sv_stands {a t : Wd} {i : Nat} (h1 : a.length ≤ 10000) (h2 : t.length ≤ 10000) : SpV spStands [tx a, tx t, .int (i : Int)] H (.bl (standsB a t i)) := fun _ _ _ q _ => ⟨a, t, i, rfl, h1, h2, q⟩
theorem ok_stands (D : DefAt K mg "stands" s_stands ["word", "text", "at"]) (T : Blt mg) : Cal P w K mg base 1 "stands" spStands := by
  refine cal_of D sc_stands (fun vs H Q E h => ?_) (fun f cdv A outer s H vs Q E hr h => ?_)
  · obtain ⟨a, t, i, rfl, _⟩ := h; rfl
  · obtain ⟨a, t, i, rfl, h1, h2, q⟩ := h
    refine ⟨_, (pss_one (ps_ret (pe_cmpR op_eq (pe_slice sl_str (pv 1) (po_some (pv 2)) (po_some (pe_op op_add (pv 2) (pe_callB call_len_str (by rfl) T.len (by decide +kernel) (pa_cons (pv 0) pa_nil))))) (pv 0) (nomark _)))), ?_⟩
    refine sev_run (sev_is (sev_ret (by walk_at "ev")) (congrArg V.bl ?_)) q
    unfold standsB pre
    have h3 : (i : Int) + (a.length : Int) = ((i + a.length : Nat) : Int) := by omega
    have h4 : i + a.length - i = a.length := by omega
    rw [h3, cut_nn, h4]
/-! ### is_number, is_text -/
def spIsNumber : Sp := fun vs H Q _ => ∃ n lo hi : Int, vs = [.int n, .int lo, .int hi] ∧ ∀ H', Ex H H' → Q (.bl (decide (lo ≤ n) && decide (n ≤ hi))) H'
theorem sv_is_number {n lo hi : Int} : SpV spIsNumber [.int n, .int lo, .int hi] H (.bl (decide (lo ≤ n) && decide (n ≤ hi))) := fun _ _ _ q _ => ⟨n, lo, hi, rfl, q⟩
theorem ok_is_number (D : DefAt K mg "is_number" s_is_number ["thing", "least", "most"]) (T : Blt mg) : Cal P w K mg base 1 "is_number" spIsNumber := by
  refine cal_of D sc_is_number (fun vs H Q E h => ?_) (fun f cdv A outer s H vs Q E hr h => ?_)
  · obtain ⟨n, lo, hi, rfl, _⟩ := h; rfl
  · obtain ⟨n, lo, hi, rfl, q⟩ := h
    refine ⟨_, (pss_one (ps_ret (pe_and (pe_callB (call_isiK' (K := K) rfl) (by rfl) T.isinstance (by decide +kernel) (pa_cons (pv 0) (pa_cons (pe_bltn (v := .ty "int") (by rfl) T.int (by decide +kernel) rfl) pa_nil))) (pe_and (pe_not (pe_callB (call_isiK' (K := K) rfl) (by rfl) T.isinstance (by decide +kernel) (pa_cons (pv 0) (pa_cons (pe_bltn (v := .ty "bool") (by rfl) T.bool (by decide +kernel) rfl) pa_nil)))) (pe_one (pe_chain op_le op_le (pv 1) (pv 0) (pv 2))))))), ?_⟩
    refine sev_run (sev_is (sev_ret (by walk_at "ev")) ?_) q
    rfl
def spIsText : Sp := fun vs H Q _ => ∃ a : Wd, vs = [tx a] ∧ a.length ≤ 10000 ∧ ∀ H', Ex H H' → Q (.bl (decide (okW a))) H'
theorem sv_is_text {a : Wd} (h : a.length ≤ 10000) : SpV spIsText [tx a] H (.bl (decide (okW a))) := fun _ _ _ q _ => ⟨a, rfl, h, q⟩
theorem strip_abc (a : Wd) : decide (codes (Txt.stripChars (S a) (S abc)) = codes ("" : Str)) = decide (okW a) := by
  have h : (codes (Txt.stripChars (S a) (S abc)) = codes ("" : Str)) ↔ okW a := by
    rw [codes_nil]
    constructor
    · intro e c hc
      have e2 : Txt.stripChars (S a) (S abc) = S [] := by
        rw [← S_codes (Txt.stripChars (S a) (S abc)), e]
      exact mem_abc.mp ((strip_iff a abc).mp e2 c hc)
    · intro o
      rw [(strip_iff a abc).mpr fun c hc => mem_abc.mpr (o c hc), codes_S]
  simp only [h]
theorem ok_is_text (D : DefAt K mg "is_text" s_is_text ["thing"]) (T : Blt mg) : Cal P w K mg base 1 "is_text" spIsText := by
  refine cal_of D sc_is_text (fun vs H Q E h => ?_) (fun f cdv A outer s H vs Q E hr h => ?_)
  · obtain ⟨a, rfl, _⟩ := h; rfl
  · obtain ⟨a, rfl, h1, q⟩ := h
    refine ⟨_, (pss_one (ps_ret (pe_and (pe_callB (call_isiK' (K := K) rfl) (by rfl) T.isinstance (by decide +kernel) (pa_cons (pv 0) (pa_cons (pe_bltn (v := .ty "str") (by rfl) T.str (by decide +kernel) rfl) pa_nil))) (pe_one (pe_cmpR op_eq (pe_m1 PySem.F.slot_str_strip PySem.F.type_str_strip mt_stripChars (pv 0) (pe_gv (by rfl) T.LETTERS)) pe_str (nomark _)))))), ?_⟩
    refine sev_run (sev_is (sev_ret (by walk_at "ev")) (congrArg V.bl ?_)) q
    rw [Bool.true_and]
    exact strip_abc a
/-! ### asked_code, asked_text -/
/-- a list of words stands at p -/
structure CodeAt (K : PySem.W.Frag) (H : Hp) (p : Addr) (ws : List Wd) : Prop where
  sq : SqL K H p (ws.map tx)
  ok : ∀ a ∈ ws, a ≠ [] ∧ okW a ∧ a.length ≤ 1000
  len : ws.length ≤ 1000
theorem CodeAt.ex {p : Addr} {ws : List Wd} {H H' : Hp} (e : Ex H H') (h : CodeAt K H p ws) : CodeAt K H' p ws := ⟨ex_l e h.sq, h.ok, h.len⟩
def spAskedCode (K : PySem.W.Frag) : Sp := fun vs H Q _ => ∃ (p : Addr) (ws : List Wd), vs = [.ref p] ∧ CodeAt K H p ws ∧ ∀ H', Ex H H' → Q .non H'
theorem sv_asked_code {p : Addr} {ws : List Wd} (h : CodeAt K H p ws) : SpV (spAskedCode K) [.ref p] H .non := fun _ e _ q _ => ⟨p, ws, rfl, h.ex e, q⟩
local macro_rules | `(tactic| walk_at "sv") => `(tactic| first | exact sv_is_text (by walk_at "sd") | exact sv_is_number | exact sv_stands (by walk_at "sd") (by walk_at "sd"))
theorem ok_asked_code (D : DefAt K mg "asked_code" s_asked_code ["code"]) (T : Blt mg) (C_is_text : Cal P w K mg base 1 "is_text" spIsText) : Cal P w K mg base 2 "asked_code" (spAskedCode K) := by
  refine cal_of D sc_asked_code (fun vs H Q E h => ?_) (fun f cdv A outer s H vs Q E hr h => ?_)
  · obtain ⟨p, ws, rfl, _⟩ := h; rfl
  · obtain ⟨p, ws, rfl, hc, q⟩ := h
    refine ⟨_, (pss_one (ps_if (PW.pt (pw_or (pt_not (pt_val (pe_callB (call_isiK' (K := K) rfl) (by rfl) T.isinstance (by decide +kernel) (pa_cons (pv 0) (pa_cons (pe_bltn (v := .ty "list") (by rfl) T.list (by decide +kernel) rfl) pa_nil))))) (pw_or1 (pt_not (pt_val (pe_callB (cr_allK (K := K) rfl rfl) (by rfl) T.all (by decide +kernel) (pa_cons (pe_lc (own := [("word", 1)]) rfl sc_asked_code.nd (pi_listK (K := K) rfl (pv 0)) (blkOk_by (own := [("word", 1)]) (N := N_asked_code) (sc := defScope s_asked_code) (by decide +kernel)) (fun _ _ _ _ _ => (pg_name (i := 1) sc_asked_code.nd rfl (.inl rfl))) (fun _ _ _ _ _ => pts_nil) (fun _ _ _ _ _ => (pe_and (pe_c C_is_text hr (by decide) (by rfl) (pa_cons (pv 1) pa_nil)) (pe_one (pe_cmpR op_ne (pv 1) pe_str (nomark _)))))) pa_nil))))))) (pss_one ps_never) pss_nil)), ?_⟩
    have hsq := hc.sq
    have hz : ws.length ≤ 40000 := Nat.le_trans hc.len (by decide)
    have hb : ∀ a, a ∈ ws → a.length ≤ 1000 := fun a ha => (hc.ok a ha).2.2
    refine snx_run (snx_skip (et_is (by walk_at "et") ?_)) q
    have : (ws.map fun a => decide (okW a) && !decide (a = codes ("" : Str))).all id = true := by
      rw [List.all_map, List.all_eq_true]
      intro a ha
      obtain ⟨h1, h2, h3⟩ := hc.ok a ha
      simp [h1, h2, codes_nil]
    rw [this]
    rfl
def spAskedText : Sp := fun vs H Q _ => ∃ a : Wd, vs = [tx a] ∧ a.length ≤ 10000 ∧ okW a ∧ ∀ H', Ex H H' → Q .non H'
theorem sv_asked_text {a : Wd} (h : a.length ≤ 10000) (o : okW a) : SpV spAskedText [tx a] H .non := fun _ _ _ q _ => ⟨a, rfl, h, o, q⟩
theorem ok_asked_text (D : DefAt K mg "asked_text" s_asked_text ["text"]) (T : Blt mg) (C_is_text : Cal P w K mg base 1 "is_text" spIsText) : Cal P w K mg base 2 "asked_text" spAskedText := by
  refine cal_of D sc_asked_text (fun vs H Q E h => ?_) (fun f cdv A outer s H vs Q E hr h => ?_)
  · obtain ⟨a, rfl, _⟩ := h; rfl
  · obtain ⟨a, rfl, h1, o, q⟩ := h
    refine ⟨_, (pss_one (ps_if (pt_not (pt_val (pe_c C_is_text hr (by decide) (by rfl) (pa_cons (pv 0) pa_nil)))) (pss_one ps_never) pss_nil)), ?_⟩
    refine snx_run (snx_skip (et_is (by walk_at "et") ?_)) q
    simp [o]
/-! ### joined -/
def nI (n : Nat) : V := .int (n : Int)
theorem wat_get {ws : List Wd} {i : Nat} (h : i < ws.length) : (ws.map tx)[i]? = some (tx (wat ws i)) := by
  simp [wat, List.getD, List.getElem?_map, h]
def spJoined (K : PySem.W.Frag) : Sp := fun vs H Q _ => ∃ (p q : Addr) (ws : List Wd) (ns : List Nat), vs = [.ref p, .ref q] ∧ SqL K H p (ws.map tx) ∧ SqL K H q (ns.map nI) ∧ ns.length ≤ 40000 ∧ (∀ n ∈ ns, n < ws.length) ∧ (joinW ws ns).length ≤ 100000 ∧ ∀ H', Ex H H' → Q (tx (joinW ws ns)) H'
theorem sv_joined {p q : Addr} {ws : List Wd} {ns : List Nat} (h1 : SqL K H p (ws.map tx)) (h2 : SqL K H q (ns.map nI)) (h3 : ns.length ≤ 40000) (h4 : ∀ n ∈ ns, n < ws.length) (h5 : (joinW ws ns).length ≤ 100000) : SpV (spJoined K) [.ref p, .ref q] H (tx (joinW ws ns)) :=
  fun _ e _ k _ => ⟨p, q, ws, ns, rfl, ex_l e h1, ex_l e h2, h3, h4, h5, k⟩
theorem ok_joined (D : DefAt K mg "joined" s_joined ["code", "places"]) (T : Blt mg) : Cal P w K mg base 1 "joined" (spJoined K) := by
  refine cal_of D sc_joined (fun vs H Q E h => ?_) (fun f cdv A outer s H vs Q E hr h => ?_)
  · obtain ⟨p, q, ws, ns, rfl, _⟩ := h; rfl
  · obtain ⟨p, q, ws, ns, rfl, h1, h2, h3, h4, h5, k⟩ := h
    refine ⟨_, (pss_one (ps_ret (pe_joinK (K := K) rfl pe_str (pe_lc (own := [("place", 2)]) rfl sc_joined.nd (pi_listK (K := K) rfl (pv 1)) (blkOk_by (own := [("place", 2)]) (N := N_joined) (sc := defScope s_joined) (by decide +kernel)) (fun _ _ _ _ _ => (pg_name (i := 2) sc_joined.nd rfl (.inl rfl))) (fun _ _ _ _ _ => pts_nil) (fun _ _ _ _ _ => (pe_ix (ix_listK (K := K) rfl) (pv 0) (pv 2) (fun _ _ => rfl))))))), ?_⟩
    refine sev_run (sev_ret ?_) k
    refine ev_join (ev_is ev_cS (congrArg tx codes_nil)) (el_mapS (ev_var rfl) h2 h3 (fun _ => rfl) fun n hn => ?_) h5
    exact ev_op (ev_var rfl) (ev_var rfl) (rv_ixL h1 (atI_nat (wat_get (h4 n hn))))
end
end Tr

set_option Elab.async false
set_option linter.all false
set_option maxRecDepth 100000
set_option maxHeartbeats 4000000
namespace Tr
open PySem PySem.Spec PyProof.Rows L2 Evl
open M3 (wat joinW pre ways pick nthW bef num)
abbrev s_table_of : Stmt := topS 17
abbrev N_table_of : List Str := ["code", "text", "mark", "found", "word"]
theorem sc_table_of : FnScope N_table_of ["code", "text"] (defScope s_table_of) := ⟨rfl, rfl, rfl, by decide +kernel, rfl, by decide +kernel, by decide +kernel⟩
abbrev s_nth : Stmt := topS 18
abbrev N_nth : List Str := ["code", "text", "table", "number", "found", "mark", "left", "step", "place", "word", "many"]
theorem sc_nth : FnScope N_nth ["code", "text", "table", "number"] (defScope s_nth) := ⟨rfl, rfl, rfl, by decide +kernel, rfl, by decide +kernel, by decide +kernel⟩
abbrev s_how_many : Stmt := topS 19
abbrev N_how_many : List Str := ["code", "text"]
theorem sc_how_many : FnScope N_how_many ["code", "text"] (defScope s_how_many) := ⟨rfl, rfl, rfl, by decide +kernel, rfl, by decide +kernel, by decide +kernel⟩
abbrev s_told : Stmt := topS 20
abbrev N_told : List Str := ["code", "text", "number", "table"]
theorem sc_told : FnScope N_told ["code", "text", "number"] (defScope s_told) := ⟨rfl, rfl, rfl, by decide +kernel, rfl, by decide +kernel, by decide +kernel⟩
abbrev s_number_of : Stmt := topS 21
abbrev N_number_of : List Str := ["code", "text", "places", "table", "place", "found", "mark", "other"]
theorem sc_number_of : FnScope N_number_of ["code", "text", "places"] (defScope s_number_of) := ⟨rfl, rfl, rfl, by decide +kernel, rfl, by decide +kernel, by decide +kernel⟩
local macro_rules | `(tactic| walk_at "sd") => `(tactic| first | assumption | rfl | omega | decide | (solve_by_elim) | (refine Nat.le_trans (m := 1000) (by solve_by_elim) (by decide)))
local macro_rules | `(tactic| walk_at "rv") => `(tactic| first
  | exact rv_add | exact rv_sub | exact rv_lt | exact rv_le | exact rv_gt | exact rv_ge | exact rv_eqI | exact rv_eqS | exact rv_eqB | exact rv_neI | exact rv_neS | exact rv_neB
  | exact rv_mod (by walk_at "sd") | exact rv_fdiv (by first | assumption | exact ⟨by omega, by omega⟩) | exact rv_addS (by walk_at "sd") | exact rv_isB | exact rv_notB | assumption)
local macro_rules | `(tactic| walk_at "ea") => `(tactic| first
  | exact ea_nil
  | (refine' ea_cons ?k1 ?k2; (case k1 => walk_at "ev"); (case k2 => walk_at "ea")))
local macro_rules | `(tactic| walk_at "eo") => `(tactic| first
  | exact eo_none
  | (refine' eo_some ?k1; (case k1 => walk_at "ev")))
local macro_rules | `(tactic| walk_at "et") => `(tactic| first
  | (refine' et_test ?k1; (case k1 => walk_at "ev"))
  | (refine' et_B ?k1; (case k1 => walk_at "ev"))
  | (refine' et_and ?k1 ?k2; (case k1 => walk_at "et"); (case k2 => (intro _; walk_at "et")))
  | (refine' et_or ?k1 ?k2; (case k1 => walk_at "et"); (case k2 => (intro _; walk_at "et")))
  | (refine' et_not ?k1; (case k1 => walk_at "et"))
  | assumption)
local macro_rules | `(tactic| walk_at "ev") => `(tactic| first
  | assumption
  | exact ev_cS
  | exact ev_c
  | exact ev_var rfl
  | (refine' ev_op ?k1 ?k2 ?k3; (case k1 => walk_at "ev"); (case k2 => walk_at "ev"); (case k3 => walk_at "rv"))
  | (refine' ev_un ?k1 ru_neg; (case k1 => walk_at "ev"))
  | (refine' ev_chain ?k1 ?k2 ?k3 ?k4 ?k5; (case k1 => walk_at "ev"); (case k2 => walk_at "ev"); (case k3 => walk_at "ev"); (case k4 => walk_at "rv"); (case k5 => (intro _; walk_at "rv")))
  | (refine' ev_slS ?k1 ?k2 ?k3 ?k4; (case k1 => walk_at "ev"); (case k2 => walk_at "eo"); (case k3 => walk_at "eo"); (case k4 => walk_at "sd"))
  | (refine' ev_lenS ?k1 ?k2; (case k1 => walk_at "ev"); (case k2 => walk_at "sd"))
  | (refine' ev_len' ?k1 ?k2; (case k1 => walk_at "ev"); (case k2 => walk_at "sd"))
  | (refine' ev_strip ?k1 ?k2 ?k3; (case k1 => walk_at "ev"); (case k2 => walk_at "ev"); (case k3 => walk_at "sd"))
  | (refine' ev_sum ?k1 ?k2; (case k1 => walk_at "ev"); (case k2 => walk_at "sd"))
  | (refine' ev_isi ?k1 ?k2 ?k3 ?k4; (case k1 => walk_at "ev"); (case k2 => walk_at "ev"); (case k3 => first | exact ty_int | exact ty_bl | exact ty_str | exact ty_list (by walk_at "sd")); (case k4 => first | exact kit_ty (r := true) (by decide +kernel) | exact kit_ty (r := false) (by decide +kernel)))
  | (refine' ev_andV ?k1 ?k2; (case k1 => walk_at "ev"); (case k2 => (intro _; walk_at "ev")))
  | (refine' ev_orV ?k1 ?k2; (case k1 => walk_at "ev"); (case k2 => (intro _; walk_at "ev")))
  | (refine' ev_notV ?k1; (case k1 => walk_at "ev"))
  | (refine' ev_call ?k1 ?k2; (case k1 => walk_at "ea"); (case k2 => walk_at "sv")))
local macro_rules | `(tactic| walk_at "el") => `(tactic| first
  | assumption
  | (refine' el_mapB ?k1 ?k2 ?k3 (fun _ => rfl) ?k5; (case k1 => walk_at "ev"); (case k2 => walk_at "sd"); (case k3 => walk_at "sd"); (case k5 => (intro _ _; walk_at "ev")))
  | (refine' el_mapI ?k1 ?k2 ?k3 (fun _ => rfl) ?k5; (case k1 => walk_at "ev"); (case k2 => walk_at "sd"); (case k3 => walk_at "sd"); (case k5 => (intro _ _; walk_at "ev")))
  | (refine' el_mapS ?k1 ?k2 ?k3 (fun _ => rfl) ?k5; (case k1 => walk_at "ev"); (case k2 => walk_at "sd"); (case k3 => walk_at "sd"); (case k5 => (intro _ _; walk_at "ev"))))
local macro_rules | `(tactic| walk_at "ev") => `(tactic| first
  | (refine' ev_all ?k1; (case k1 => walk_at "el"))
  | (refine' ev_any ?k1; (case k1 => walk_at "el"))
  | (refine' ev_sumN ?k1; (case k1 => walk_at "el"))
  | (refine' ev_join ?k1 ?k2 ?k3; (case k1 => exact ev_is ev_cS (congrArg tx codes_nil)); (case k2 => walk_at "el"); (case k3 => walk_at "sd")))

local macro_rules | `(tactic| walk_at "sv") => `(tactic| first | exact sv_is_text (by walk_at "sd") | exact sv_is_number | exact sv_stands (by walk_at "sd") (by walk_at "sd") | exact sv_asked_code (by walk_at "sd") | exact sv_asked_text (by walk_at "sd") (by walk_at "sd"))
/-- the counts behind each mark -/
def tabN (ws : List Wd) (t : Wd) : List Nat := (List.range (t.length + 1)).map fun m => ways ws (t.drop m)
def tabP (ws : List Wd) (t : Wd) (lo : Nat) : List Nat := (List.range (t.length + 1)).map fun m => if lo ≤ m then ways ws (t.drop m) else 0
theorem tabP_zero (ws : List Wd) (t : Wd) : tabP ws t 0 = tabN ws t := by
  unfold tabP tabN
  apply List.map_congr_left
  intro m _
  rw [if_pos (Nat.zero_le _)]
theorem tabP_set (ws : List Wd) (t : Wd) (lo : Nat) (h : lo ≤ t.length) : ((tabP ws t (lo + 1)).map nI).set lo (nI (ways ws (t.drop lo))) = (tabP ws t lo).map nI := by
  rw [← List.map_set]
  congr 1
  unfold tabP
  apply List.ext_getElem?
  intro i
  rw [List.getElem?_set, List.getElem?_map, List.getElem?_map]
  rcases Nat.lt_or_ge i (t.length + 1) with hi | hi
  · rw [List.getElem?_range hi]
    by_cases e : lo = i
    · subst e
      rw [if_pos rfl, if_pos (by simpa using hi)]
      simp
    · rw [if_neg e]
      simp only [Option.map_some]
      have : (lo + 1 ≤ i) ↔ (lo ≤ i) := by omega
      simp [this]
  · rw [List.getElem?_eq_none (by simpa using hi)]
    have : lo ≠ i := by omega
    simp [this]
theorem tabP_get (ws : List Wd) (t : Wd) {lo m : Nat} (h : lo ≤ m) (hm : m ≤ t.length) : ((tabP ws t lo).map nI)[m]? = some (nI (ways ws (t.drop m))) := by
  unfold tabP
  rw [List.getElem?_map, List.getElem?_map, List.getElem?_range (by omega)]
  simp [h]
theorem tabN_get (ws : List Wd) (t : Wd) {m : Nat} (hm : m ≤ t.length) : ((tabN ws t).map nI)[m]? = some (nI (ways ws (t.drop m))) := by
  rw [← tabP_zero]; exact tabP_get ws t (Nat.zero_le _) hm
section
variable {P : Program} {w : World} {K : PySem.W.Frag} {mg : Str → Option Value} {base : Heap} {H : Hp}
/-! ### table_of -/
def spTable (K : PySem.W.Frag) : Sp := fun vs H Q _ => ∃ (p : Addr) (ws : List Wd) (t : Wd), vs = [.ref p, tx t] ∧ CodeAt K H p ws ∧ t.length ≤ 5000 ∧ RetL ((tabN ws t).map nI) H Q
theorem sl_table {p : Addr} {ws : List Wd} {t : Wd} (h : CodeAt K H p ws) (ht : t.length ≤ 5000) : SpL (spTable K) [.ref p, tx t] H ((tabN ws t).map nI) := fun _ e _ q _ => ⟨p, ws, t, rfl, h.ex e, ht, q⟩
theorem ok_table_of (D : DefAt K mg "table_of" s_table_of ["code", "text"]) (T : Blt mg) (C_stands : Cal P w K mg base 1 "stands" spStands) : Cal P w K mg base 2 "table_of" (spTable K) := by
  refine cal_of D sc_table_of (fun vs H Q E h => ?_) (fun f cdv A outer s H vs Q E hr h => ?_)
  · obtain ⟨p, ws, t, rfl, _⟩ := h; rfl
  · obtain ⟨p, ws, t, rfl, hc, ht, k⟩ := h
    refine ⟨_, (pss_cons (ps_set (i := 3) sc_table_of.nd rfl (.inr rfl) (pe_lc (own := [("mark", 2)]) rfl sc_table_of.nd (pi_range1 (by rfl) T.range (pa_cons (pe_op op_add (pe_callB call_len_str (by rfl) T.len (by decide +kernel) (pa_cons (pv 1) pa_nil)) pe_int) pa_nil)) (blkOk_by (own := [("mark", 2)]) (N := N_table_of) (sc := defScope s_table_of) (by decide +kernel)) (fun _ _ _ _ _ => (pg_name (i := 2) sc_table_of.nd rfl (.inl rfl))) (fun _ _ _ _ _ => pts_nil) (fun _ _ _ _ _ => pe_int)))
      (pss_cons (ps_asg pe_int (pg_sub (pv 3) (pe_callB call_len_str (by rfl) T.len (by decide +kernel) (pa_cons (pv 1) pa_nil)) set_list))
      (pss_cons (ps_for PassesOwn.never rfl (pi_revR (by rfl) T.reversed (prg_1 (by rfl) T.range (pe_callB call_len_str (by rfl) T.len (by decide +kernel) (pa_cons (pv 1) pa_nil)))) (pg_name (i := 2) sc_table_of.nd rfl (.inr rfl)) (pss_one (ps_asg (pe_callB (cr_sumK (K := K) rfl rfl) (by rfl) T.sum (by decide +kernel) (pa_cons (pe_lc (own := [("word", 4)]) rfl sc_table_of.nd (pi_listK (K := K) rfl (pv 0)) (blkOk_by (own := [("word", 4)]) (N := N_table_of) (sc := defScope s_table_of) (by decide +kernel)) (fun _ _ _ _ _ => (pg_name (i := 4) sc_table_of.nd rfl (.inl rfl))) (fun _ _ _ _ _ => (pts_one (pt_val (pe_c C_stands hr (by decide) (by rfl) (pa_cons (pv 4) (pa_cons (pv 1) (pa_cons (pv 2) pa_nil))))))) (fun _ _ _ _ _ => (pe_ix (ix_listK (K := K) rfl) (pv 3) (pe_op op_add (pv 2) (pe_callB call_len_str (by rfl) T.len (by decide +kernel) (pa_cons (pv 4) pa_nil))) (fun _ _ => rfl)))) pa_nil)) (pg_sub (pv 3) (pv 2) set_list))))
      (pss_one (ps_ret (pv 3)))))), ?_⟩
    have hz : ws.length ≤ 40000 := Nat.le_trans hc.len (by decide)
    have hb : ∀ a, a ∈ ws → a.length ≤ 1000 := fun a ha => (hc.ok a ha).2.2
    have hw : ∀ a ∈ ws, a ≠ [] := fun a ha => (hc.ok a ha).1
    have e0 : (((t.length + 1 : Nat) : Int)) = (t.length : Int) + 1 := rfl
    -- found = [0 ..]
    refine q_asgL (el_range (t.length + 1) (fun _ => V.int 0) (by rw [e0]; walk_at "ea") (by omega) (fun _ => rfl) fun i hi => ev_c) fun q H1 nq e1 h1 => ?_
    -- found[len(text)] = 1
    refine q_setL (j := t.length) h1 (v := .int 1) ev_c (ev_var rfl) (by walk_at "ev") (by simp) fun H2 e2 => ?_
    have hset : ((List.range (t.length + 1)).map fun _ => V.int 0).set t.length (.int 1) = (tabP ws t t.length).map nI := by
      have h := tabP_set ws t t.length (Nat.le_refl _)
      rw [← h]
      have h3 : ways ws (t.drop t.length) = 1 := by rw [List.drop_length]; rfl
      rw [h3]
      have h4 : (tabP ws t (t.length + 1)).map nI = (List.range (t.length + 1)).map fun _ => V.int 0 := by
        unfold tabP
        rw [List.map_map]
        apply List.map_congr_left
        intro m hm
        have := List.mem_range.mp hm
        show nI (if t.length + 1 ≤ m then _ else 0) = _
        rw [if_neg (by omega)]
        rfl
      rw [h4]
      rfl
    rw [hset]
    -- the loop
    refine q_forRev (n := t.length) (by walk_at "ev") (by omega) (fun i σ' H' => ∃ mv, σ' = [some (.ref p), some (tx t), mv, some (.ref q), none] ∧ Ex H H' ∧ H' q = some (.lst ((tabP ws t (t.length - i)).map nI)))
      (fun H3 e3 => ⟨_, rfl, ((Ex.mut (e1.trans e2) nq).trans e3), e3 q _ upd_same⟩) (fun i σ' H' hi p => ?_) (fun σ' H' p => ?_)
    · obtain ⟨mv, rfl, e', hq⟩ := p
      have em : t.length - i = (t.length - 1 - i) + 1 := by omega
      rw [em] at hq
      generalize hmm : t.length - 1 - i = m at hq ⊢
      have hm : m < t.length := by omega
      have hcs : SqL K H' p (ws.map tx) := ex_l e' hc.sq
      have hne : t.drop m ≠ [] := fun z => by
        have := congrArg List.length z
        rw [List.length_drop, List.length_nil] at this; omega
      have hsum : (((ws.filter fun a => standsB a t m).map fun a => ((ways ws (t.drop (m + a.length)) : Nat) : Int))).sum = ((ways ws (t.drop m) : Nat) : Int) := by
        rw [M3.ways_eq ws hw hne]
        have h1 : (ws.filter fun a => standsB a t m) = ws.filter fun a => pre a (t.drop m) := rfl
        rw [h1]
        generalize ws.filter (fun a => pre a (t.drop m)) = us
        induction us with
        | nil => rfl
        | cons a r ih =>
          simp only [List.map_cons, List.sum_cons]
          rw [ih, List.drop_drop]
          omega
      refine s_setL (j := m) hq (v := .int ((ways ws (t.drop m) : Nat) : Int)) ?_ (ev_var rfl) (ev_var rfl) (by unfold tabP; simp; omega) fun H2 e2 => ⟨_, rfl, Ex.mut (e'.trans e2) nq, ?_⟩
      · rw [← hsum]
        refine ev_sumN (el_filterI (φ := tx) (p := fun a => standsB a t m) (ev_var rfl) hcs hz (fun _ => rfl) (fun a ha => ?_) (fun a ha hp => ?_))
        · exact et_B (ev_call (by walk_at "ea") (sv_stands (a := a) (t := t) (i := m) (Nat.le_trans (hb a ha) (by decide)) (by omega)))
        · have hpl := M3.pre_len hp
          rw [List.length_drop] at hpl
          have hal : 0 < a.length := List.length_pos_iff.mpr (hw a ha)
          have e9 : (m : Int) + (a.length : Int) = ((m + a.length : Nat) : Int) := by omega
          have hal2 : a.length ≤ 100000 := Nat.le_trans (hb a ha) (by decide)
          refine ev_op (y := .int ((m + a.length : Nat) : Int)) (ev_var rfl) (by rw [← e9]; walk_at "ev") (rv_ixL (sq_of hq) (atI_nat (tabP_get ws t (by omega) (by omega))))
      · have hs := tabP_set ws t m (by omega)
        have e10 : t.length - (i + 1) = m := by omega
        rw [e10, ← hs]
        exact upd_same
    · obtain ⟨mv, rfl, e', hq⟩ := p
      rw [Nat.sub_self, tabP_zero] at hq
      exact ⟨.ref q, rfl, k q H' nq e' hq⟩
/-! ### nth -/
def spNth (K : PySem.W.Frag) : Sp := fun vs H Q _ => ∃ (p q : Addr) (ws : List Wd) (t : Wd) (k : Nat), vs = [.ref p, tx t, .ref q, .int (k : Int)] ∧ CodeAt K H p ws ∧ t.length ≤ 5000 ∧ SqL K H q ((tabN ws t).map nI) ∧ k < ways ws t ∧ RetL ((nthW ws t k).map nI) H Q
theorem sl_nth {p q : Addr} {ws : List Wd} {t : Wd} {k : Nat} (h : CodeAt K H p ws) (ht : t.length ≤ 5000) (hq : SqL K H q ((tabN ws t).map nI)) (hk : k < ways ws t) : SpL (spNth K) [.ref p, tx t, .ref q, .int (k : Int)] H ((nthW ws t k).map nI) :=
  fun _ e _ r _ => ⟨p, q, ws, t, k, rfl, h.ex e, ht, ex_l e hq, hk, r⟩
theorem nthF_fuel (ws : List Wd) (hw : ∀ a ∈ ws, a ≠ []) : ∀ (n m : Nat) (t : Wd) (k : Nat), t.length ≤ n → t.length ≤ m → k < ways ws t → M3.nthF ws n t k = M3.nthF ws m t k
  | n, m, [], _, _, _, _ => by cases n <;> cases m <;> rfl
  | 0, m, c :: r, _, h, _, _ => by simp at h
  | n + 1, 0, c :: r, _, _, h, _ => by simp at h
  | n + 1, m + 1, c :: r, k, h1, h2, hk => by
    have hne : (c :: r) ≠ [] := by simp
    obtain ⟨j, k', e1, e2, e3, e4, e5⟩ := M3.pick_some ws (c :: r) ws 0 k rfl (by omega) (by rw [M3.bef_zero, M3.bef_all ws hw hne]; omega)
    have hl := M3.wat_ne hw e2
    simp only [M3.nthF, e1]
    congr 1
    apply nthF_fuel ws hw
    · simp only [List.length_drop, List.length_cons] at h1 ⊢; omega
    · simp only [List.length_drop, List.length_cons] at h2 ⊢; omega
    · exact e4
theorem nthW_step (ws : List Wd) (hw : ∀ a ∈ ws, a ≠ []) {t : Wd} (ht : t ≠ []) {k j k' : Nat} (hk : k < ways ws t) (hp : pick ws t ws 0 k = some (j, k')) : nthW ws t k = j :: nthW ws (t.drop (wat ws j).length) k' := by
  cases t with
  | nil => exact absurd rfl ht
  | cons c r =>
    obtain ⟨j2, k2, e1, e2, e3, e4, e5⟩ := M3.pick_some ws (c :: r) ws 0 k rfl (by omega) (by rw [M3.bef_zero, M3.bef_all ws hw ht]; omega)
    rw [hp] at e1
    obtain ⟨rfl, rfl⟩ := Prod.mk.inj (Option.some.inj e1)
    have hl := M3.wat_ne hw e2
    show M3.nthF ws (r.length + 1) (c :: r) k = _
    simp only [M3.nthF, hp]
    congr 1
    apply nthF_fuel ws hw
    · simp only [List.length_drop, List.length_cons]; omega
    · exact Nat.le_refl _
    · exact e4
theorem ok_nth (D : DefAt K mg "nth" s_nth ["code", "text", "table", "number"]) (T : Blt mg) (C_stands : Cal P w K mg base 1 "stands" spStands) : Cal P w K mg base 2 "nth" (spNth K) := by
  refine cal_of D sc_nth (fun vs H Q E h => ?_) (fun f cdv A outer s H vs Q E hr h => ?_)
  · obtain ⟨p, q, ws, t, k, rfl, _⟩ := h; rfl
  · obtain ⟨p, q, ws, t, k, rfl, hc, ht, hq, hk, r⟩ := h
    refine ⟨_, (pss_cons (ps_set (i := 4) sc_nth.nd rfl (.inl rfl) (pe_lst pa_nil))
      (pss_cons (ps_set (i := 5) sc_nth.nd rfl (.inl rfl) pe_int)
      (pss_cons (ps_set (i := 6) sc_nth.nd rfl (.inl rfl) (pv 3))
      (pss_cons (ps_while PassesOwn.never (pt_cmpR op_lt (pv 5) (pe_callB call_len_str (by rfl) T.len (by decide +kernel) (pa_cons (pv 1) pa_nil)) (nomark _)) (pss_cons (ps_set (i := 7) sc_nth.nd rfl (.inl rfl) pe_int)
      (pss_cons (ps_for PassesOwn.never rfl (pi_enumK (K := K) rfl (by rfl) T.enumerate (pa_cons (pv 0) pa_nil)) (pg_tupK (K := K) rfl rfl (pgs_cons (pg_name (i := 8) sc_nth.nd rfl (.inl rfl)) (pgs_cons (pg_name (i := 9) sc_nth.nd rfl (.inl rfl)) pgs_nil))) (pss_one (ps_if (PW.pt (pw_and (pt_cmpR op_eq (pv 7) pe_int (nomark _)) (pw_and1 (pt_val (pe_c C_stands hr (by decide) (by rfl) (pa_cons (pv 9) (pa_cons (pv 1) (pa_cons (pv 5) pa_nil)))))))) (pss_cons (ps_set (i := 10) sc_nth.nd rfl (.inl rfl) (pe_ix (ix_listK (K := K) rfl) (pv 2) (pe_op op_add (pv 5) (pe_callB call_len_str (by rfl) T.len (by decide +kernel) (pa_cons (pv 9) pa_nil))) (fun _ _ => rfl)))
      (pss_one (ps_if (pt_cmpR op_lt (pv 6) (pv 10) (nomark _)) (pss_cons (ps_expr (pe_bm PySem.F.plainAttrs_list PySem.F.slot_list_append PySem.F.type_list_append mt_append (pv 4) (pa_cons (pv 8) pa_nil)))
      (pss_one (ps_set (i := 7) sc_nth.nd rfl (.inl rfl) (pe_callB call_len_str (by rfl) T.len (by decide +kernel) (pa_cons (pv 9) pa_nil))))) (pss_one (ps_set (i := 6) sc_nth.nd rfl (.inl rfl) (pe_op op_sub (pv 6) (pv 10))))))) pss_nil)))
      (pss_one (ps_set (i := 5) sc_nth.nd rfl (.inl rfl) (pe_op op_add (pv 5) (pv 7)))))))
      (pss_one (ps_ret (pv 4))))))), ?_⟩
    have hz : ws.length ≤ 40000 := Nat.le_trans hc.len (by decide)
    have hb : ∀ a, a ∈ ws → a.length ≤ 1000 := fun a ha => (hc.ok a ha).2.2
    have hw : ∀ a ∈ ws, a ≠ [] := fun a ha => (hc.ok a ha).1
    have hlen := M3.join_len ws hw _ (M3.nthW_ok ws hw hk).2.1
    rw [(M3.nthW_ok ws hw hk).1] at hlen
    refine q_asgL (el_lst ea_nil (by decide)) fun l H1 nl e1 h1 => ?_
    refine q_asg ev_c fun H2 e2 => q_asg (ev_var rfl) fun H3 e3 => ?_
    have e13 := (e1.trans e2).trans e3
    refine q_while (fun m σ' H' => ∃ (mk kk : Nat) (ns : List Nat) (s7 s8 s9 s10 : Option V), σ' = [some (.ref p), some (tx t), some (.ref q), some (.int (k : Int)), some (.ref l), some (.int (mk : Int)), some (.int (kk : Int)), s7, s8, s9, s10] ∧
        mk + m = t.length ∧ kk < ways ws (t.drop mk) ∧ nthW ws t k = ns ++ nthW ws (t.drop mk) kk ∧ Ex H H' ∧ H' l = some (.lst (ns.map nI))) t.length
      ⟨0, k, [], none, none, none, none, rfl, by omega, hk, rfl, e13, e3 l _ (e2 l _ h1)⟩ fun m σ' H' hW => ?_
    obtain ⟨mk, kk, ns, s7, s8, s9, s10, rfl, hm, hkk, hns, e', hl⟩ := hW
    refine ⟨_, et_test (ev_op (ev_var rfl) (ev_lenS (ev_var rfl) (by omega)) rv_lt), fun hlt H4 e4 => ?_, fun hge H4 e4 => ?_⟩
    · -- a turn
      have hlt' : mk < t.length := by have := of_decide_eq_true hlt; omega
      have hne : t.drop mk ≠ [] := fun z => by
        have := congrArg List.length z
        rw [List.length_drop, List.length_nil] at this; omega
      obtain ⟨j, k', p1, p2, p3, p4, p5⟩ := M3.pick_some ws (t.drop mk) ws 0 kk rfl (by omega) (by rw [M3.bef_zero, M3.bef_all ws hw hne]; omega)
      have hstep := nthW_step ws hw hne hkk p1
      have hjl := M3.wat_ne hw p2
      have hjp := M3.pre_len p3
      rw [List.length_drop] at hjp
      rw [List.drop_drop] at hstep p4
      refine ⟨fun σ2 H2 => ∃ s8 s9 s10, σ2 = [some (.ref p), some (tx t), some (.ref q), some (.int (k : Int)), some (.ref l), some (.int ((mk + (wat ws j).length : Nat) : Int)), some (.int (k' : Int)), some (.int ((wat ws j).length : Int)), s8, s9, s10] ∧
          Ex H H2 ∧ H2 l = some (.lst ((ns ++ [j]).map nI)), fun σ2 H2 hN => ?_, ?_⟩
      · obtain ⟨y8, y9, y10, rfl, e2', hl2⟩ := hN
        refine ⟨m - (wat ws j).length, by omega, mk + (wat ws j).length, k', ns ++ [j], _, y8, y9, y10, rfl, by omega, p4, ?_, e2', hl2⟩
        rw [hns, hstep, List.append_assoc]; rfl
      · refine q_asg ev_c fun H5 e5 => ?_
        have ex5 := (e'.trans e4).trans e5
        -- for place, word in enumerate(code)
        refine q_forEnum (a := p) (xs := ws.map tx) (ev_var rfl) (ex_l ex5 hc.sq)
          (fun i σ2 H2 => ∃ s8 s9 s10, Ex H H2 ∧ ((∃ kc : Nat, σ2 = [some (.ref p), some (tx t), some (.ref q), some (.int (k : Int)), some (.ref l), some (.int (mk : Int)), some (.int (kc : Int)), some (.int 0), s8, s9, s10] ∧
              pick ws (t.drop mk) (ws.drop i) i kc = some (j, k') ∧ H2 l = some (.lst (ns.map nI))) ∨
            (σ2 = [some (.ref p), some (tx t), some (.ref q), some (.int (k : Int)), some (.ref l), some (.int (mk : Int)), some (.int (k' : Int)), some (.int ((wat ws j).length : Int)), s8, s9, s10] ∧ H2 l = some (.lst ((ns ++ [j]).map nI)))))
          (fun H6 e6 => ⟨s8, s9, s10, ex5.trans e6, .inl ⟨kk, rfl, p1, (e4.trans (e5.trans e6)) l _ hl⟩⟩)
          (fun i σ2 H2 hP => by obtain ⟨_, _, _, ex, _⟩ := hP; exact ex_l ex hc.sq)
          (fun i σ2 H2 H6 hP e6 => by
            obtain ⟨y8, y9, y10, ex, hP⟩ := hP
            refine ⟨y8, y9, y10, ex.trans e6, ?_⟩
            rcases hP with ⟨kc, a1, a2, a3⟩ | ⟨a1, a2⟩
            · exact .inl ⟨kc, a1, a2, e6 l _ a3⟩
            · exact .inr ⟨a1, e6 l _ a2⟩)
          (fun i x σ2 H2 hi hP => ?_) (fun σ2 H2 hP => ?_)
        · obtain ⟨y8, y9, y10, ex, hP⟩ := hP
          have hil : i < ws.length := by
            have := (List.getElem?_eq_some_iff.mp hi).1
            rwa [List.length_map] at this
          have hx : x = tx ws[i] := by
            rw [List.getElem?_map, List.getElem?_eq_getElem hil] at hi
            exact (Option.some.inj hi).symm
          subst hx
          have hwl := hb ws[i] (List.getElem_mem hil)
          rcases hP with ⟨kc, rfl, a2, a3⟩ | ⟨rfl, a2⟩
          · -- not found yet
            have hdr : ws.drop i = ws[i] :: ws.drop (i + 1) := (List.getElem_cons_drop hil).symm
            rw [hdr] at a2
            unfold pick at a2
            refine s_when (b := pre ws[i] (t.drop mk)) (et_is (et_and (et_test (ev_op (ev_var rfl) ev_c rv_eqI)) fun _ => et_B (ev_call (by walk_at "ea") (sv_stands (a := ws[i]) (t := t) (i := mk) (by omega) (by omega)))) (by simp [standsB])) (fun hp H6 e6 => ?_) (fun hp H6 e6 => ?_)
            · rw [if_pos hp] at a2
              have hpl := M3.pre_len hp
              rw [List.length_drop] at hpl
              have e9 : (mk : Int) + (ws[i].length : Int) = ((mk + ws[i].length : Nat) : Int) := by omega
              have hq6 : SqL K H6 q ((tabN ws t).map nI) := ex_l (ex.trans e6) hq
              refine q_asg (v := nI (ways ws (t.drop (mk + ws[i].length)))) (ev_op (y := .int ((mk + ws[i].length : Nat) : Int)) (ev_var rfl) (by rw [← e9]; walk_at "ev") (rv_ixL hq6 (atI_nat (tabN_get ws t (by omega))))) fun H7 e7 => ?_
              rw [List.drop_drop] at a2
              refine s_if (et_test (ev_op (ev_var rfl) (ev_var rfl) rv_lt)) (fun hlt H8 e8 => ?_) (fun hge H8 e8 => ?_)
              · have hlt2 : kc < ways ws (t.drop (mk + ws[i].length)) := by have := of_decide_eq_true hlt; omega
                rw [if_pos hlt2] at a2
                obtain ⟨rfl, rfl⟩ := Prod.mk.inj (Option.some.inj a2)
                have ew : wat ws i = ws[i] := by simp [wat, List.getD, hil]
                have hll : ns.length < 100000 := by
                  have := congrArg List.length hns
                  rw [List.length_append] at this; omega
                refine q_app (xs := ns.map nI) (v := .int (i : Int)) (e8 l _ (e7 l _ (e6 l _ a3))) (ev_var rfl) (ev_var rfl) (by simpa using hll) fun H9 e9' => ?_
                refine s_asg (v := .int ((wat ws i).length : Int)) (by rw [ew]; walk_at "ev") fun H10 e10 => ?_
                refine ⟨_, _, _, ?_, .inr ⟨rfl, ?_⟩⟩
                · exact (Ex.mut ((((ex.trans e6).trans e7).trans e8).trans e9') nl).trans e10
                · rw [e10 l _ upd_same, List.map_append]; rfl
              · have hge2 : ¬ kc < ways ws (t.drop (mk + ws[i].length)) := fun z => by
                  have := of_decide_eq_false hge; omega
                rw [if_neg hge2] at a2
                refine s_asg (v := .int ((kc - ways ws (t.drop (mk + ws[i].length)) : Nat) : Int)) (ev_is (ev_op (ev_var rfl) (ev_var rfl) rv_sub) (congrArg V.int (by omega))) fun H9 e9' => ?_
                exact ⟨_, _, _, (((ex.trans e6).trans e7).trans e8).trans e9', .inl ⟨_, rfl, a2, e9' l _ (e8 l _ (e7 l _ (e6 l _ a3)))⟩⟩
            · rw [if_neg (by rw [hp]; decide)] at a2
              exact ⟨_, _, _, ex.trans e6, .inl ⟨kc, rfl, a2, e6 l _ a3⟩⟩
          · -- found
            refine s_when (b := false) (et_is (et_and (b := true) (et_test (ev_op (ev_var rfl) ev_c rv_eqI)) fun hz2 => absurd (of_decide_eq_true hz2) (by omega)) (by
              have : ¬ ((wat ws j).length : Int) = 0 := by omega
              rw [decide_eq_false this]; rfl)) (fun hp => nomatch hp) (fun _ H6 e6 => ⟨_, _, _, ex.trans e6, .inr ⟨rfl, e6 l _ a2⟩⟩)
        · -- behind the for
          obtain ⟨y8, y9, y10, ex, hP⟩ := hP
          rcases hP with ⟨kc, rfl, a2, a3⟩ | ⟨rfl, a2⟩
          · rw [List.length_map, List.drop_length] at a2
            exact absurd a2 (by simp [pick])
          · refine s_asg (v := .int ((mk + (wat ws j).length : Nat) : Int)) (ev_is (ev_op (ev_var rfl) (ev_var rfl) rv_add) (congrArg V.int (by omega))) fun H7 e7 => ?_
            exact ⟨_, _, _, rfl, ex.trans e7, e7 l _ a2⟩
    · have hge' : ¬ mk < t.length := fun z => by have := of_decide_eq_false hge; omega
      have hnil : t.drop mk = [] := List.drop_eq_nil_of_le (by omega)
      rw [hnil] at hns
      have hns2 : nthW ws t k = ns := by rw [hns]; exact List.append_nil ns
      exact ⟨.ref l, rfl, r l H4 nl (e'.trans e4) (by rw [hns2]; exact e4 l _ hl)⟩
/-! ### how_many, told, number_of -/
def spHowMany (K : PySem.W.Frag) : Sp := fun vs H Q _ => ∃ (p : Addr) (ws : List Wd) (t : Wd), vs = [.ref p, tx t] ∧ CodeAt K H p ws ∧ t.length ≤ 5000 ∧ okW t ∧ ∀ H', Ex H H' → Q (.int ((ways ws t : Nat) : Int)) H'
theorem sv_how_many {p : Addr} {ws : List Wd} {t : Wd} (h : CodeAt K H p ws) (ht : t.length ≤ 5000) (ho : okW t) : SpV (spHowMany K) [.ref p, tx t] H (.int ((ways ws t : Nat) : Int)) := fun _ e _ q _ => ⟨p, ws, t, rfl, h.ex e, ht, ho, q⟩
theorem ev_ixN {ta tb : TE} {σ : L2.St} {xs : List V} {v : V} {i : Int} (ha : EvL ta σ H xs) (hb : Ev tb σ H (.int i)) (hv : atI xs i = some v) : Ev (tOp (rIxL K) ta tb) σ H v :=
  ev_opL1 ha (fun H1 e => hb.mono e) fun p H1 h1 e => rv_ixL (sq_of h1) hv
theorem ok_how_many (D : DefAt K mg "how_many" s_how_many ["code", "text"]) (T : Blt mg) (C_asked_code : Cal P w K mg base 2 "asked_code" (spAskedCode K)) (C_asked_text : Cal P w K mg base 2 "asked_text" spAskedText)
    (C_table_of : Cal P w K mg base 2 "table_of" (spTable K)) : Cal P w K mg base 3 "how_many" (spHowMany K) := by
  refine cal_of D sc_how_many (fun vs H Q E h => ?_) (fun f cdv A outer s H vs Q E hr h => ?_)
  · obtain ⟨p, ws, t, rfl, _⟩ := h; rfl
  · obtain ⟨p, ws, t, rfl, hc, ht, ho, q⟩ := h
    refine ⟨_, (pss_cons (ps_expr (pe_c C_asked_code hr (by decide) (by rfl) (pa_cons (pv 0) pa_nil)))
      (pss_cons (ps_expr (pe_c C_asked_text hr (by decide) (by rfl) (pa_cons (pv 1) pa_nil)))
      (pss_one (ps_ret (pe_ix (ix_listK (K := K) rfl) (pe_c C_table_of hr (by decide) (by rfl) (pa_cons (pv 0) (pa_cons (pv 1) pa_nil))) pe_int (fun _ _ => rfl)))))), ?_⟩
    have ht2 : t.length ≤ 10000 := by omega
    refine sev_run (sev_drop (x := .non) (by walk_at "ev") (sev_drop (x := .non) (by walk_at "ev") (sev_ret ?_))) q
    exact ev_ixN (el_call (by walk_at "ea") (sl_table hc ht)) ev_c (atI_nat (j := 0) (tabN_get ws t (Nat.zero_le _)))
/-- told: the ways out -/
def spTold (K : PySem.W.Frag) (aNR aBN : Addr) : Sp := fun vs H Q E => ∃ (p : Addr) (ws : List Wd) (t : Wd) (n : Int), vs = [.ref p, tx t, .int n] ∧ CodeAt K H p ws ∧ t.length ≤ 5000 ∧ okW t ∧
  (ways ws t = 0 → ∀ H', Ex H H' → E (.ref aNR) none H') ∧ (ways ws t ≠ 0 → ¬ (0 ≤ n ∧ n < ((ways ws t : Nat) : Int)) → ∀ H', Ex H H' → E (.ref aBN) none H') ∧
  ((0 ≤ n ∧ n < ((ways ws t : Nat) : Int)) → RetL ((nthW ws t n.toNat).map nI) H Q)
theorem ok_told {aNR aBN : Addr} (D : DefAt K mg "told" s_told ["code", "text", "number"]) (T : Blt mg) (C_asked_code : Cal P w K mg base 2 "asked_code" (spAskedCode K)) (C_asked_text : Cal P w K mg base 2 "asked_text" spAskedText)
    (C_table_of : Cal P w K mg base 2 "table_of" (spTable K)) (C_nth : Cal P w K mg base 2 "nth" (spNth K)) (C_is_number : Cal P w K mg base 1 "is_number" spIsNumber) (X_NoReading : ExcAt K mg "NoReading" aNR) (X_BadNumber : ExcAt K mg "BadNumber" aBN) :
    Cal P w K mg base 3 "told" (spTold K aNR aBN) := by
  refine calX_of D sc_told (fun vs H Q E h => ?_) (fun f cdv A outer s H vs Q E hr h => ?_)
  · obtain ⟨p, ws, t, n, rfl, _⟩ := h; rfl
  · obtain ⟨p, ws, t, n, rfl, hc, ht, ho, k1, k2, k3⟩ := h
    refine ⟨_, (pss_cons (ps_expr (pe_c C_asked_code hr (by decide) (by rfl) (pa_cons (pv 0) pa_nil)))
      (pss_cons (ps_expr (pe_c C_asked_text hr (by decide) (by rfl) (pa_cons (pv 1) pa_nil)))
      (pss_cons (ps_set (i := 3) sc_told.nd rfl (.inl rfl) (pe_c C_table_of hr (by decide) (by rfl) (pa_cons (pv 0) (pa_cons (pv 1) pa_nil))))
      (pss_cons (ps_if (pt_cmpR op_eq (pe_ix (ix_listK (K := K) rfl) (pv 3) pe_int (fun _ _ => rfl)) pe_int (nomark _)) (pss_one (L2N.ps_raise rfl (L2N.takes_of rfl rfl rfl rfl) (pmk_c rfl rfl X_NoReading (by rfl)))) pss_nil)
      (pss_cons (ps_if (pt_not (pt_val (pe_c C_is_number hr (by decide) (by rfl) (pa_cons (pv 2) (pa_cons pe_int (pa_cons (pe_op op_sub (pe_ix (ix_listK (K := K) rfl) (pv 3) pe_int (fun _ _ => rfl)) pe_int) pa_nil)))))) (pss_one (L2N.ps_raise rfl (L2N.takes_of rfl rfl rfl rfl) (pmk_c rfl rfl X_BadNumber (by rfl)))) pss_nil)
      (pss_one (ps_ret (pe_c C_nth hr (by decide) (by rfl) (pa_cons (pv 0) (pa_cons (pv 1) (pa_cons (pv 3) (pa_cons (pv 2) pa_nil)))))))))))), ?_⟩
    have ht2 : t.length ≤ 10000 := by omega
    refine q_drop (v := .non) (by walk_at "ev") fun H1 e1 => ?_
    have hc1 := hc.ex e1
    refine q_drop (v := .non) (by walk_at "ev") fun H2 e2 => ?_
    have hc2 := hc1.ex e2
    refine q_asgL (el_call (by walk_at "ea") (sl_table hc2 ht)) fun q H3 nq e3 hq => ?_
    have ex3 := (e1.trans e2).trans e3
    have g0 : Ev (tOp (rIxL K) (tVar 3) (tC (.int 0))) [some (.ref p), some (tx t), some (.int n), some (.ref q)] H3 (nI (ways ws t)) := ev_op (ev_var rfl) ev_c (rv_ixL (sq_of hq) (atI_nat (j := 0) (tabN_get ws t (Nat.zero_le _))))
    refine q_when (et_test (ev_op g0 ev_c rv_eqI)) (fun hz H4 e4 => ?_) (fun hz H4 e4 => ?_)
    · have h0 : ways ws t = 0 := by have := of_decide_eq_true hz; omega
      exact k1 h0 H4 (ex3.trans e4)
    · have h0 : ways ws t ≠ 0 := fun z => by have := of_decide_eq_false hz; omega
      refine q_when (b := !(decide (0 ≤ n) && decide (n ≤ ((ways ws t : Nat) : Int) - 1))) (et_not (et_B (ev_call (ea_cons (ev_var rfl) (ea_cons ev_c (ea_cons (ev_op (x := nI (ways ws t)) (g0.mono e4) ev_c rv_sub) ea_nil))) sv_is_number))) (fun hn H5 e5 => ?_) (fun hn H5 e5 => ?_)
      · refine k2 h0 (fun z => ?_) H5 ((ex3.trans e4).trans e5)
        have h1 : decide (0 ≤ n) = true := decide_eq_true z.1
        have h2 : decide (n ≤ ((ways ws t : Nat) : Int) - 1) = true := decide_eq_true (by omega)
        rw [h1, h2] at hn; cases hn
      · have h12 : (0 ≤ n ∧ n < ((ways ws t : Nat) : Int)) := by
          have : (decide (0 ≤ n) && decide (n ≤ ((ways ws t : Nat) : Int) - 1)) = true := by
            cases hh : (decide (0 ≤ n) && decide (n ≤ ((ways ws t : Nat) : Int) - 1)) with
            | true => rfl
            | false => rw [hh] at hn; cases hn
          rw [Bool.and_eq_true] at this
          have a1 := of_decide_eq_true this.1
          have a2 := of_decide_eq_true this.2
          omega
        have en : n = ((n.toNat : Nat) : Int) := by omega
        have hq5 : SqL K H5 q ((tabN ws t).map nI) := ex_l (e4.trans e5) (sq_of hq)
        have ex5 := (ex3.trans e4).trans e5
        refine s_retL (xs := (nthW ws t n.toNat).map nI) (el_call (vs := [.ref p, tx t, .ref q, .int ((n.toNat : Nat) : Int)]) (by rw [← en]; walk_at "ea") (sl_nth (hc.ex ex5) ht hq5 (by omega))) fun p2 H6 np e6 h6 => ?_
        exact (k3 h12).go ex5 np e6 h6
/-- number_of, of a reading -/
def spNumberOf (K : PySem.W.Frag) : Sp := fun vs H Q _ => ∃ (p q : Addr) (ws : List Wd) (t : Wd) (ns : List Nat), vs = [.ref p, tx t, .ref q] ∧ CodeAt K H p ws ∧ t.length ≤ 5000 ∧ okW t ∧ SqL K H q (ns.map nI) ∧ (∀ n ∈ ns, n < ws.length) ∧ joinW ws ns = t ∧
  ∀ H', Ex H H' → Q (.int ((num ws t ns : Nat) : Int)) H'
theorem sv_number_of {p q : Addr} {ws : List Wd} {t : Wd} {ns : List Nat} (h : CodeAt K H p ws) (ht : t.length ≤ 5000) (ho : okW t) (hq : SqL K H q (ns.map nI)) (hn : ∀ n ∈ ns, n < ws.length) (hj : joinW ws ns = t) : SpV (spNumberOf K) [.ref p, tx t, .ref q] H (.int ((num ws t ns : Nat) : Int)) :=
  fun _ e _ k _ => ⟨p, q, ws, t, ns, rfl, h.ex e, ht, ho, ex_l e hq, hn, hj, k⟩
theorem num_split (ws : List Wd) : ∀ (xs ys : List Nat) (t : Wd), joinW ws (xs ++ ys) = t → num ws t (xs ++ ys) = num ws t xs + num ws (t.drop (joinW ws xs).length) ys
  | [], ys, t, _ => by simp [num, joinW]
  | x :: xs, ys, t, h => by
    obtain ⟨h1, h2⟩ := M3.pre_of_join (r := xs ++ ys) h
    have ih := num_split ws xs ys (t.drop (wat ws x).length) h2
    show bef ws t x + num ws _ (xs ++ ys) = bef ws t x + num ws _ xs + _
    rw [ih, List.drop_drop, M3.join_cons, List.length_append]
    omega
theorem ok_number_of (D : DefAt K mg "number_of" s_number_of ["code", "text", "places"]) (T : Blt mg) (C_asked_code : Cal P w K mg base 2 "asked_code" (spAskedCode K)) (C_asked_text : Cal P w K mg base 2 "asked_text" spAskedText)
    (C_table_of : Cal P w K mg base 2 "table_of" (spTable K)) (C_joined : Cal P w K mg base 1 "joined" (spJoined K)) (C_is_number : Cal P w K mg base 1 "is_number" spIsNumber) (C_stands : Cal P w K mg base 1 "stands" spStands) :
    Cal P w K mg base 3 "number_of" (spNumberOf K) := by
  refine cal_of D sc_number_of (fun vs H Q E h => ?_) (fun f cdv A outer s H vs Q E hr h => ?_)
  · obtain ⟨p, q, ws, t, ns, rfl, _⟩ := h; rfl
  · obtain ⟨p, q, ws, t, ns, rfl, hc, ht, ho, hq, hn, hj, k⟩ := h
    refine ⟨_, (pss_cons (ps_expr (pe_c C_asked_code hr (by decide) (by rfl) (pa_cons (pv 0) pa_nil)))
      (pss_cons (ps_expr (pe_c C_asked_text hr (by decide) (by rfl) (pa_cons (pv 1) pa_nil)))
      (pss_cons (ps_set (i := 3) sc_number_of.nd rfl (.inl rfl) (pe_c C_table_of hr (by decide) (by rfl) (pa_cons (pv 0) (pa_cons (pv 1) pa_nil))))
      (pss_cons (ps_if (pt_cmpR op_eq (pe_ix (ix_listK (K := K) rfl) (pv 3) pe_int (fun _ _ => rfl)) pe_int (nomark _)) (pss_one ps_never) pss_nil)
      (pss_cons (ps_if (PW.pt (pw_or (pt_not (pt_val (pe_callB (call_isiK' (K := K) rfl) (by rfl) T.isinstance (by decide +kernel) (pa_cons (pv 2) (pa_cons (pe_bltn (v := .ty "list") (by rfl) T.list (by decide +kernel) rfl) pa_nil))))) (pw_or1 (pt_not (pt_val (pe_callB (cr_allK (K := K) rfl rfl) (by rfl) T.all (by decide +kernel) (pa_cons (pe_lc (own := [("place", 4)]) rfl sc_number_of.nd (pi_listK (K := K) rfl (pv 2)) (blkOk_by (own := [("place", 4)]) (N := N_number_of) (sc := defScope s_number_of) (by decide +kernel)) (fun _ _ _ _ _ => (pg_name (i := 4) sc_number_of.nd rfl (.inl rfl))) (fun _ _ _ _ _ => pts_nil) (fun _ _ _ _ _ => (pe_c C_is_number hr (by decide) (by rfl) (pa_cons (pv 4) (pa_cons pe_int (pa_cons (pe_op op_sub (pe_callB (call_len_seqK (K := K) rfl) (by rfl) T.len (by decide +kernel) (pa_cons (pv 0) pa_nil)) pe_int) pa_nil)))))) pa_nil))))))) (pss_one ps_never) pss_nil)
      (pss_cons (ps_if (pt_cmpR op_ne (pe_c C_joined hr (by decide) (by rfl) (pa_cons (pv 0) (pa_cons (pv 2) pa_nil))) (pv 1) (nomark _)) (pss_one ps_never) pss_nil)
      (pss_cons (ps_set (i := 5) sc_number_of.nd rfl (.inl rfl) pe_int)
      (pss_cons (ps_set (i := 6) sc_number_of.nd rfl (.inl rfl) pe_int)
      (pss_cons (ps_for PassesOwn.never rfl (pi_listK (K := K) rfl (pv 2)) (pg_name (i := 4) sc_number_of.nd rfl (.inl rfl)) (pss_cons (ps_for PassesOwn.never rfl (pi_range1 (by rfl) T.range (pa_cons (pv 4) pa_nil)) (pg_name (i := 7) sc_number_of.nd rfl (.inl rfl)) (pss_one (ps_if (pt_val (pe_c C_stands hr (by decide) (by rfl) (pa_cons (pe_ix (ix_listK (K := K) rfl) (pv 0) (pv 7) (fun _ _ => rfl)) (pa_cons (pv 1) (pa_cons (pv 6) pa_nil))))) (pss_one (ps_set (i := 5) sc_number_of.nd rfl (.inl rfl) (pe_op op_add (pv 5) (pe_ix (ix_listK (K := K) rfl) (pv 3) (pe_op op_add (pv 6) (pe_callB call_len_str (by rfl) T.len (by decide +kernel) (pa_cons (pe_ix (ix_listK (K := K) rfl) (pv 0) (pv 7) (fun _ _ => rfl)) pa_nil))) (fun _ _ => rfl))))) pss_nil)))
      (pss_one (ps_set (i := 6) sc_number_of.nd rfl (.inl rfl) (pe_op op_add (pv 6) (pe_callB call_len_str (by rfl) T.len (by decide +kernel) (pa_cons (pe_ix (ix_listK (K := K) rfl) (pv 0) (pv 4) (fun _ _ => rfl)) pa_nil)))))))
      (pss_one (ps_ret (pv 5)))))))))))), ?_⟩
    have ht2 : t.length ≤ 10000 := by omega
    have hz : ws.length ≤ 40000 := Nat.le_trans hc.len (by decide)
    have hb : ∀ a, a ∈ ws → a.length ≤ 1000 := fun a ha => (hc.ok a ha).2.2
    have hw : ∀ a ∈ ws, a ≠ [] := fun a ha => (hc.ok a ha).1
    have hnl := M3.join_len ws hw ns hn
    rw [hj] at hnl
    have hpos := M3.num_lt ws hw ns t hn hj
    refine q_drop (v := .non) (by walk_at "ev") fun H1 e1 => ?_
    have hc1 := hc.ex e1
    refine q_drop (v := .non) (by walk_at "ev") fun H2 e2 => ?_
    have hc2 := hc1.ex e2
    refine q_asgL (el_call (by walk_at "ea") (sl_table hc2 ht)) fun a H3 na e3 ha => ?_
    have ex3 := (e1.trans e2).trans e3
    refine q_skip (et_is (et_test (ev_op (ev_op (ev_var rfl) ev_c (rv_ixL (sq_of ha) (atI_nat (j := 0) (tabN_get ws t (Nat.zero_le _))))) ev_c rv_eqI)) (decide_eq_false (by
      show ¬ ((ways ws (t.drop 0) : Nat) : Int) = 0
      rw [List.drop_zero]; omega))) fun H4 e4 => ?_
    have ex4 := ex3.trans e4
    have hq4 := ex_l ex4 hq
    have hc4 := (hc.ex ex4).sq
    have hnz : ns.length ≤ 40000 := by omega
    refine q_skip (et_is (et_or (et_not (et_B (by walk_at "ev"))) fun _ => et_not (et_B (ev_all (el_mapB (φ := nI) (g := fun n : Nat => decide ((0 : Int) ≤ (n : Int)) && decide ((n : Int) ≤ (ws.length : Int) - 1)) (ev_var rfl) hq4 hnz (fun _ => rfl) fun n hn' => ?_)))) ?_) fun H5 e5 => ?_
    · have e9 : (((ws.map tx).length : Nat) : Int) = (ws.length : Int) := by rw [List.length_map]
      refine ev_call (vs := [.int (n : Int), .int 0, .int ((ws.length : Int) - 1)]) (ea_cons (ev_var rfl) (ea_cons ev_c (ea_cons (ev_op (x := .int (ws.length : Int)) (by rw [← e9]; exact ev_len' (ev_var rfl) hc4) ev_c rv_sub) ea_nil))) sv_is_number
    · have : (ns.map fun n : Nat => decide ((0 : Int) ≤ (n : Int)) && decide ((n : Int) ≤ (ws.length : Int) - 1)).all id = true := by
        rw [List.all_map, List.all_eq_true]
        intro n hn'
        have := hn n hn'
        have h1 : decide ((0 : Int) ≤ (n : Int)) = true := decide_eq_true (by omega)
        have h2 : decide ((n : Int) ≤ (ws.length : Int) - 1) = true := decide_eq_true (by omega)
        have h3 : (decide ((0 : Int) ≤ (n : Int)) && decide ((n : Int) ≤ (ws.length : Int) - 1)) = true := by rw [h1, h2]; rfl
        exact h3
      rw [this]; rfl
    have ex5 := ex4.trans e5
    have hq5 := ex_l ex5 hq
    have hc5 := (hc.ex ex5).sq
    refine q_skip (et_is (et_test (ev_op (ev_call (by walk_at "ea") (sv_joined hc5 hq5 hnz hn (by rw [hj]; omega))) (ev_var rfl) rv_neS)) (by rw [hj]; simp)) fun H6 e6 => ?_
    refine q_asg ev_c fun H7 e7 => q_asg ev_c fun H8 e8 => ?_
    have ex8 := ((ex5.trans e6).trans e7).trans e8
    have ha8 : SqL K H8 a ((tabN ws t).map nI) := sq_of (((((e4.trans e5).trans e6).trans e7).trans e8) a _ ha)
    refine q_forLn (a := q) (xs := ns.map nI) (ev_var rfl) (ex_l ex8 hq) (fun i σ' H' => ∃ s4 s7, Ex H8 H' ∧ σ' = [some (.ref p), some (tx t), some (.ref q), some (.ref a), s4, some (.int ((num ws t (ns.take i) : Nat) : Int)), some (.int (((joinW ws (ns.take i)).length : Nat) : Int)), s7])
      (fun H9 e9 => ⟨_, _, e9, rfl⟩) (fun i σ' H' _ hP => by obtain ⟨_, _, ex, _⟩ := hP; exact ex_l (ex8.trans ex) hq) (fun i x σ' H' hi hP => ?_) (fun σ' H' hP => ?_)
    · obtain ⟨s4, s7, ex, rfl⟩ := hP
      have hil : i < ns.length := by
        have := (List.getElem?_eq_some_iff.mp hi).1
        rwa [List.length_map] at this
      have hx : x = nI ns[i] := by
        rw [List.getElem?_map, List.getElem?_eq_getElem hil] at hi
        exact (Option.some.inj hi).symm
      subst hx
      have hpl : ns[i] < ws.length := hn _ (List.getElem_mem hil)
      have htk : ns.take (i + 1) = ns.take i ++ [ns[i]] := by rw [List.take_succ, List.getElem?_eq_getElem hil]; rfl
      have hjs : joinW ws (ns.take i) ++ joinW ws (ns.drop i) = t := by
        rw [← hj]
        conv => rhs; rw [← List.take_append_drop i ns]
        unfold joinW
        rw [List.map_append, List.flatten_append]
      generalize hM : (joinW ws (ns.take i)).length = M
      have hdrop : t.drop M = joinW ws (ns.drop i) := by rw [← hM]; conv => lhs; rw [← hjs]
                                                         simp
      have hMt : M ≤ t.length := by
        have := congrArg List.length hjs
        rw [List.length_append] at this; omega
      have hdr : ns.drop i = ns[i] :: ns.drop (i + 1) := (List.getElem_cons_drop hil).symm
      have hpre : pre (wat ws ns[i]) (t.drop M) = true := by
        have : joinW ws (ns[i] :: ns.drop (i + 1)) = t.drop M := by rw [hdrop, hdr]
        exact (M3.pre_of_join this).1
      have hc' := hc.ex (ex8.trans ex)
      have ha' : SqL K H' a ((tabN ws t).map nI) := ex_l ex ha8
      refine q_forR1 (n := (ns[i] : Int)) (by walk_at "ea") ⟨by omega, by have := hc.len; omega⟩ (fun i2 σ2 H2 => ∃ s7, Ex H' H2 ∧ σ2 = [some (.ref p), some (tx t), some (.ref q), some (.ref a), some (nI ns[i]), some (.int ((num ws t (ns.take i) + bef ws (t.drop M) i2 : Nat) : Int)), some (.int (M : Int)), s7])
        (fun H9 e9 => ⟨s7, e9, by rw [M3.bef_zero]; rfl⟩) (fun i2 σ2 H2 hi2 hP => ?_) (fun σ2 H2 hP => ?_)
      · obtain ⟨s7, ex2, rfl⟩ := hP
        have hi2' : i2 < ns[i] := by omega
        have hol : i2 < ws.length := by omega
        have hc2' := hc'.ex ex2
        have ha2 := ex_l ex2 ha'
        have hwg : ws[i2]? = some (wat ws i2) := M3.wat_getElem hol
        have hbs := M3.bef_succ ws (t.drop M) hwg
        have hwl : (wat ws i2).length ≤ 1000 := hb _ (List.mem_of_getElem? hwg)
        have gco : Ev (tOp (rIxL K) (tVar 0) (tVar 7)) [some (.ref p), some (tx t), some (.ref q), some (.ref a), some (nI ns[i]), some (.int ((num ws t (ns.take i) + bef ws (t.drop M) i2 : Nat) : Int)), some (.int (M : Int)), some (.int (i2 : Int))] H2 (tx (wat ws i2)) :=
          ev_op (ev_var rfl) (ev_var rfl) (rv_ixL hc2'.sq (atI_nat (wat_get hol)))
        refine s_when (b := standsB (wat ws i2) t M) (et_B (ev_call (vs := [tx (wat ws i2), tx t, .int (M : Int)]) (ea_cons gco (by walk_at "ea")) (sv_stands (a := wat ws i2) (t := t) (i := M) (by omega) ht2))) (fun hp H9 e9 => ?_) (fun hp H9 e9 => ?_) <;> replace hp : pre (wat ws i2) (t.drop M) = _ := hp
        · have hpl2 := M3.pre_len hp
          rw [List.length_drop] at hpl2
          have e10 : (M : Int) + ((wat ws i2).length : Int) = ((M + (wat ws i2).length : Nat) : Int) := by omega
          refine s_asg (v := .int ((num ws t (ns.take i) + bef ws (t.drop M) (i2 + 1) : Nat) : Int)) (ev_is (ev_op (ev_var rfl) (ev_op (y := .int ((M + (wat ws i2).length : Nat) : Int)) (ev_var rfl) (by rw [← e10]; exact ev_op (ev_var rfl) (ev_lenS (gco.mono e9) (by omega)) rv_add) (rv_ixL (ex_l e9 ha2) (atI_nat (tabN_get ws t (by omega))))) rv_add) (congrArg V.int ?_)) fun H10 e11 => ⟨_, (ex2.trans e9).trans e11, rfl⟩
          rw [hbs, if_pos hp, List.drop_drop]; omega
        · refine ⟨some (.int (i2 : Int)), ex2.trans e9, ?_⟩
          rw [hbs, if_neg (by rw [hp]; decide)]; rfl
      · obtain ⟨s7, ex2, rfl⟩ := hP
        have e12 : ((ns[i] : Int)).toNat = ns[i] := by omega
        have hwl : (wat ws ns[i]).length ≤ 1000 := hb _ (List.mem_of_getElem? (M3.wat_getElem hpl))
        refine s_asg (v := .int (((joinW ws (ns.take (i + 1))).length : Nat) : Int)) (ev_is (ev_op (ev_var rfl) (ev_lenS (ev_op (ev_var rfl) (ev_var rfl) (rv_ixL (hc'.ex ex2).sq (atI_nat (wat_get hpl)))) (by omega)) rv_add) (congrArg V.int ?_)) fun H10 e11 => ⟨some (nI ns[i]), s7, (ex.trans ex2).trans e11, ?_⟩
        · rw [htk]
          unfold joinW at hM ⊢
          rw [List.map_append, List.flatten_append, List.length_append, hM]
          simp
        · have hjt : joinW ws (ns.take i ++ ns.drop i) = t := by rw [List.take_append_drop]; exact hj
          have hnum : num ws t (ns.take (i + 1)) = num ws t (ns.take i) + bef ws (t.drop M) ns[i] := by
            rw [htk]
            clear hjt
            have key : ∀ (xs : List Nat) (t : Wd) (y : Nat), num ws t (xs ++ [y]) = num ws t xs + bef ws (t.drop (joinW ws xs).length) y := by
              intro xs
              induction xs with
              | nil => intro t y; simp [num, joinW]
              | cons x xs ih =>
                intro t y
                show bef ws t x + num ws _ (xs ++ [y]) = bef ws t x + num ws _ xs + _
                rw [ih, List.drop_drop, M3.join_cons, List.length_append]
                omega
            rw [key, hM]
          rw [hnum, e12]
          rfl
    · obtain ⟨s4, s7, ex, rfl⟩ := hP
      refine s_ret (v := .int ((num ws t ns : Nat) : Int)) (ev_is (ev_var rfl) ?_) fun H9 e9 => k H9 ((ex8.trans ex).trans e9)
      rw [List.take_of_length_le (by simp)]
end
end Tr

set_option Elab.async false
set_option linter.all false
set_option maxRecDepth 100000
set_option maxHeartbeats 4000000
/-! TrB: rules that the layer lacks: text * int, text[::-1], set(list of ints), list >= list of ints. -/
namespace Tr
open PySem PySem.Spec PyProof.Rows L2 Evl
/-! ### a text times an int -/
def repW (a : Wd) (n : Int) : Wd := (List.replicate n.toNat a).flatten
theorem fold_rep (a : Wd) (k : Nat) : ∀ acc : Wd, List.foldl (fun x y => x ++ y) acc.toArray (List.replicate k a.toArray) = (acc ++ (List.replicate k a).flatten).toArray := by
  induction k with
  | zero => intro acc; simp
  | succ k ih =>
    intro acc
    rw [List.replicate_succ, List.foldl_cons]
    have : acc.toArray ++ a.toArray = (acc ++ a).toArray := by simp
    rw [this, ih, List.replicate_succ, List.flatten_cons, List.append_assoc]
def rRepS : R2 := fun x y H Q => ∃ (a : Wd) (n : Int), x = tx a ∧ y = .int n ∧ -1000 ≤ n ∧ n ≤ 1000 ∧ a.length ≤ 1000 ∧ Q (tx (repW a n)) H
theorem op_rep_str {X : Cx} : OpR X (binaryOp .Mult) rRepS := by
  intro pins s σ H x y v u Q I rx ry h
  obtain ⟨a, n, rfl, rfl, h1, h2, h3, q⟩ := h
  obtain ⟨t, rfl⟩ := rx
  obtain ⟨t', rfl⟩ := ry
  have hmul : a.length * n.toNat ≤ 1000 * 1000 := Nat.mul_le_mul h3 (by omega)
  refine P.mul_str ?_ ?_ ?_ ?_
  · have e1 : ¬ n < -(2 ^ 63 : Int) := by omega
    have e2 : ¬ n ≥ 2 ^ 63 := by omega
    rw [decide_eq_false e1, decide_eq_false e2]; rfl
  · intro hn _ hc
    rw [S_len] at hc
    have e3 : (1000 : Int) ≤ (2 ^ 63 - 1) / n := by
      rw [Int.le_ediv_iff_mul_le (by omega)]; omega
    omega
  · intro hn _
    rw [S_len]
    unfold Builtin.Str.tooLong
    exact decide_eq_false (by rw [sizeLine_eq]; omega)
  · have fin : ∀ (b : Wd) (k : Tok) (tk : Tok), b = repW a n → EP X pins σ Q (.str (S b) k) { s with toks := tk } := fun b k tk e => ⟨tx (repW a n), H, I.tok _, ⟨k, by rw [e]⟩, q⟩
    by_cases hn : n < 1
    · rw [if_pos hn]
      refine ⟨by decide, ?_⟩
      have e0 : repW a n = [] := by
        unfold repW
        have : n.toNat = 0 := by omega
        rw [this]; rfl
      exact fin [] _ _ e0.symm
    · rw [if_neg hn]
      by_cases h4 : (n == 1 || (S a).length == 0) = true
      · rw [if_pos h4]
        have e0 : repW a n = a := by
          unfold repW
          rw [Bool.or_eq_true, beq_iff_eq, beq_iff_eq, S_len] at h4
          rcases h4 with h4 | h4
          · subst h4; simp
          · have : a = [] := List.eq_nil_of_length_eq_zero h4
            subst this
            have hh : ∀ k, (List.replicate k ([] : Wd)).flatten = [] := fun k => by induction k with
              | zero => rfl
              | succ k ih => rw [List.replicate_succ, List.flatten_cons, ih]; rfl
            exact hh _
        exact fin a t s.toks e0.symm
      · rw [if_neg h4]
        have e0 : (⟨(List.replicate n.toNat (S a).cps).foldl (· ++ ·) #[]⟩ : Str) = S (repW a n) := by
          show Str.mk (List.foldl (fun x y => x ++ y) ([] : Wd).toArray (List.replicate n.toNat a.toArray)) = _
          rw [fold_rep]; rfl
        rw [e0]
        refine ⟨by rw [S_len]; unfold repW; rw [List.length_flatten, List.map_replicate, List.sum_replicate_nat, Nat.mul_comm]; rw [sizeLine_eq]; omega, ?_⟩
        exact fin _ _ _ rfl
theorem rv_repS {H : Hp} {a : Wd} {n : Int} (h : (-1000 ≤ n ∧ n ≤ 1000) ∧ a.length ≤ 1000) : RV rRepS (tx a) (.int n) H (tx (repW a n)) := fun H1 _ Q q => ⟨a, n, rfl, rfl, h.1.1, h.1.2, h.2, q H1 (Ex.refl H1)⟩
/-! ### text[::-1] -/
def tRevS (te : TE) : TE := fun σ H Q => te σ H fun x H1 => ∃ a : Wd, x = tx a ∧ a.length ≤ 100000 ∧ Q (tx a.reverse) H1
theorem rev_indices (a : Wd) : (Builtin.Str.strSliceIndices none none (-1) (S a).length).filterMap ((S a).cps[·]?) = a.reverse := by
  have h1 : Builtin.Str.strSliceIndices none none (-1) (S a).length = sliceRange (((S a).length : Int) - 1) (-1) (-1) := rfl
  have h2 : (S a).length = a.toArray.size := rfl
  rw [h1, h2, PySem.W.krv_sliceRange, PySem.W.krv_range, List.filterMap_reverse]
  have h3 := PySem.W.krv_all a.toArray
  exact congrArg List.reverse (by simpa [S] using h3)
theorem pe_revS {X : Cx} {e : Expr} {te : TE} {k : Nat} {p1 p2 p3 pos : Pos} (he : PE X e te) : PE X (.Subscript e (.Slice none none (some (.UnaryOp .USub (.Constant (.int 1) k p1) p2)) p3) pos) (tRevS te) := by
  refine ⟨fun pins s σ H Q I h => Subscript_ (thn (he.run pins s σ H _ I h) fun v s1 ⟨x, H1, I1, r1, a, ex, hz, q⟩ => ?_)⟩
  subst ex
  obtain ⟨t, rfl⟩ := r1
  have hst : PO X (some (.UnaryOp .USub (.Constant (.int 1) k p1) p2)) (tPart (tUn (rU fun i => .int (-i)) (tC (.int 1)))) := po_some (pe_un un_neg pe_int)
  refine wpAny_Slice (thn (po_none.run pins s1 σ H1 (fun o H2 => o = none ∧ H2 = H1) I1 ⟨rfl, rfl⟩) fun vl s2 ⟨o2, H2, I2, pl, e2, e3⟩ => ?_)
  subst e2 e3
  refine thn (po_none.run pins s2 σ H2 (fun o H3 => o = none ∧ H3 = H2) I2 ⟨rfl, rfl⟩) fun vu s3 ⟨o3, H3, I3, pu, e4, e5⟩ => ?_
  subst e4 e5
  refine thn (hst.run pins s3 σ H3 (fun o H4 => o = some (-1) ∧ H4 = H3) I3 ⟨1, rfl, -1, rfl, rfl, rfl⟩) fun vs s4 ⟨o4, H4, I4, ps, e6, e7⟩ => ?_
  subst e6 e7
  obtain ⟨pl', rfl, hl⟩ := IsPart.raw pl
  obtain ⟨pu', rfl, hu⟩ := IsPart.raw pu
  obtain ⟨ps', rfl, hs⟩ := IsPart.raw ps
  have I5 : Inv X pins σ H4 { s4 with heap := s4.heap.push { cls := .type "slice", data := .fields #[partValue pl', partValue pu', partValue ps'] } } := I4.kept (t' := s4.toks) fun b ob q => Heap.get?_push_of_some _ q
  show wpAny (model X.prog X.w) X.A (subscriptTail e (.Slice none none (some (.UnaryOp .USub (.Constant (.int 1) k p1) p2)) p3) (.str (S a) t) (.ref s4.heap.objs.size)) (EP X pins σ Q) X.xe { s4 with heap := s4.heap.push { cls := .type "slice", data := .fields #[partValue pl', partValue pu', partValue ps'] } }
  refine tail_any (ops := [.str (S a) t, .ref s4.heap.objs.size]) (typeIs_str _ _ _) F.slot_str_getitem.lookup ?_ (by with_unfolding_all rfl)
  refine wpAny_getItem_str_slice (l := pl') (u := pu') (st := ps') ⟨_, Heap.get?_push_size _ rfl, rfl, rfl⟩ (by rw [hs]; rfl) ?_
  unfold sliceMade slicePicked
  rw [hs, hl, hu]
  show Made.post (if ((-1 : Int) == 1 && _) = true then _ else Made.str ⟨((Builtin.Str.strSliceIndices none none (-1) (S a).length).filterMap ((S a).cps[·]?)).toArray⟩) (EP X pins σ Q) _
  rw [if_neg (by simp)]
  show Made.post (Made.str ⟨((Builtin.Str.strSliceIndices none none (-1) (S a).length).filterMap ((S a).cps[·]?)).toArray⟩) (EP X pins σ Q) _
  rw [rev_indices]
  refine ⟨?_, tx a.reverse, H4, I5.tok _, ⟨_, rfl⟩, q⟩
  show (S a.reverse).length ≤ sizeLine
  rw [S_len, List.length_reverse]
  exact sz_of hz
theorem ev_revS {te : TE} {σ : L2.St} {H : Hp} {a : Wd} (h : Ev te σ H (tx a)) (hz : a.length ≤ 100000) : Ev (tRevS te) σ H (tx a.reverse) := fun H1 e Q q => h H1 e _ fun H2 e2 => ⟨a, rfl, hz, q H2 e2⟩
/-! ### list >= list of ints -/
end Tr
namespace TrG
open PySem PySem.SeqAt
open PySem.AutoSeq1 (wpAny_loadPart')
open PySem.MeetsSeq PySem.MeetsSeq2 PySem.MeetsSeq3 PySem.SeqRoads2
abbrev LObj (dd : Option Addr) (xs : Array Value) (n : Nat) (sl : Array (Option Value)) : Obj := { cls := .type "list", dict := dd, data := .seq xs n, slots := sl }
theorem ge_loop (l b : Addr) (xs ys : Array Value) (n n2 : Nat) (dd dd2 : Option Addr) (sl sl2 : Array (Option Value)) (e r : Nat → Bool) : ∀ (k i : Nat), min xs.size ys.size - i = k →
    Meets (Builtin.«list.__eq__.loop» ⟨[.ref l, .ref b, rawInt i, rawInt 5], []⟩) fun A R s =>
      s.heap.get? l = some (LObj dd xs n sl) ∧ s.heap.get? b = some (LObj dd2 ys n2 sl2) ∧ (∀ j (h1 : j < xs.size) (h2 : j < ys.size), EqAt A.in1 s xs[j] ys[j] (e j)) ∧
      (∀ j (h1 : j < xs.size) (h2 : j < ys.size), e j = false → Ob.RcOp .GtE A.in1 s xs[j] ys[j] (r j)) ∧ R (.ok (.ret (.bool (Ob.lexAt e r (decide (xs.size ≥ ys.size)) i k)))) s
  | 0, i, hk => fun prog w A R s h => by
    obtain ⟨h0, g, d, tk, os⟩ := s
    obtain ⟨hl, hb, he, hr, h⟩ := h
    wp_walk using wpAny_loadPart' hl, wpAny_loadPart' hb
    rcases Nat.lt_or_ge i xs.size with h1 | h1
    · have q1 : xs[((i : Nat) : Int).toNat]? = some xs[i] := by simp [h1]
      have q2 : ys[((i : Nat) : Int).toNat]? = none := by simp; omega
      rw [q1, q2]
      wp_walk using wpAny_loadPart' hl, wpAny_loadPart' hb
      exact h
    · have q1 : xs[((i : Nat) : Int).toNat]? = none := by simp; omega
      rw [q1]
      wp_walk using wpAny_loadPart' hl, wpAny_loadPart' hb
      exact h
  | k + 1, i, hk => fun prog w A R s h => by
    obtain ⟨h0, g, d, tk, os⟩ := s
    obtain ⟨hl, hb, he, hr, h⟩ := h
    wp_walk using wpAny_loadPart' hl, wpAny_loadPart' hb
    have l1 : i < xs.size := by omega
    have l2 : i < ys.size := by omega
    have q1 : xs[((i : Nat) : Int).toNat]? = some xs[i] := by simp [l1]
    have q2 : ys[((i : Nat) : Int).toNat]? = some ys[i] := by simp [l2]
    rw [Ob.lexAt_succ] at h
    rw [q1, q2]
    refine wpAny_bind (he i l1 l2 prog w _ _ ?_)
    cases hei : e i with
    | true =>
      rw [hei, if_pos rfl] at h
      wp_walk
      have q3 : (i : Int) + 1 = ((i + 1 : Nat) : Int) := by omega
      rw [q3]
      exact ⟨plainId_quiet plain_eq_loop _, codeAny_builtin entry_eq_loop (by
        rw [Around.under_plainId plain_eq_loop _]
        exact ge_loop l b xs ys n n2 dd dd2 sl sl2 e r k (i + 1) (by omega) prog w A R _ ⟨hl, hb, he, hr, h⟩)⟩
    | false =>
      rw [hei, if_neg Bool.false_ne_true] at h
      wp_walk using wpAny_loadPart' hl, wpAny_loadPart' hb
      rw [q1, q2]
      have hri := hr i l1 l2 hei prog w
      wp_walk using hri
      exact h
theorem ge_at (l b : Addr) (xs ys : Array Value) (n n2 : Nat) (dd dd2 : Option Addr) (sl sl2 : Array (Option Value)) (e r : Nat → Bool) :
    Meets (Builtin.«list.__ge__» ⟨[.ref l, .ref b], []⟩) fun A R s =>
      s.heap.get? l = some (LObj dd xs n sl) ∧ s.heap.get? b = some (LObj dd2 ys n2 sl2) ∧ (∀ j (h1 : j < xs.size) (h2 : j < ys.size), EqAt A.in1 s xs[j] ys[j] (e j)) ∧
      (∀ j (h1 : j < xs.size) (h2 : j < ys.size), e j = false → Ob.RcOp .GtE A.in1 s xs[j] ys[j] (r j)) ∧ R (.ok (.ret (.bool (Ob.lexAt e r (decide (xs.size ≥ ys.size)) 0 (min xs.size ys.size))))) s := fun prog w A R s h => by
  obtain ⟨h0, g, d, tk, os⟩ := s
  obtain ⟨hl, hb, he, hr, h⟩ := h
  have f3 := AutoSeq1.sub_list_list
  wp_walk using wpAny_loadPart' hl, wpAny_loadPart' hb
  exact ⟨plainId_quiet plain_eq_loop _, codeAny_builtin entry_eq_loop (by
    rw [Around.under_plainId plain_eq_loop _]
    exact ge_loop l b xs ys n n2 dd dd2 sl sl2 e r _ 0 rfl prog w A R _ ⟨hl, hb, he, hr, by simpa using h⟩)⟩
theorem ge_lists {A : Around} {s : Shared} {l b : Addr} {xs ys : Array Value} {e r : Nat → Bool} (hl : s.heap.IsList l xs) (hb : s.heap.IsList b ys) (hu : A.units < cLine) (he : ∀ j (h1 : j < xs.size) (h2 : j < ys.size), EqAt A.in1 s xs[j] ys[j] (e j))
    (hr : ∀ j (h1 : j < xs.size) (h2 : j < ys.size), e j = false → Ob.RcOp .GtE A.in1 s xs[j] ys[j] (r j)) : Ob.RcOp .GtE A s (.ref l) (.ref b) (Ob.lexAt e r (decide (xs.size ≥ ys.size)) 0 (min xs.size ys.size)) := fun prog w E Q h => by
  obtain ⟨⟨c1, d1, x1, s1⟩, g1, k1, n, k2⟩ := id hl
  obtain ⟨⟨c2, d2, x2, s2⟩, g2, k3, n2, k4⟩ := id hb
  dsimp only at k1 k2 k3 k4
  subst k1 k2 k3 k4
  exact richCompare_meets_room (op := .GtE) ⟨_, g1, rfl⟩ ⟨_, g2, rfl⟩ F.slot_list_ge F.entry_list_ge (F.args_list_ge_2 _ _) (ge_at l b xs ys n n2 d1 d2 s1 s2 e r) ⟨g1, g2, he, hr, ⟨(fun x => nomatch x), h⟩⟩ hu
end TrG
namespace Tr
open PySem PySem.Spec PyProof.Rows L2 Evl
/-- a >= b of lists of ints, as the machine finds it -/
def geI (ns ms : List Int) : Bool := Ob.lexAt (fun j => decide (ns.getD j 0 = ms.getD j 0)) (fun j => decide (ms.getD j 0 ≤ ns.getD j 0)) (decide (ns.length ≥ ms.length)) 0 (min ns.length ms.length)
def rGeL (K : PySem.W.Frag) : R2 := fun x y H Q => ∃ (a b : Addr) (ns ms : List Int), x = .ref a ∧ y = .ref b ∧ SqL K H a (ns.map V.int) ∧ SqL K H b (ms.map V.int) ∧ Q (.bl (geI ns ms)) H
theorem op_geLK {X : Cx} {K : PySem.W.Frag} (hK : X.K = K) (hu : X.A.units < cLine) : OpR X (compareOp .GtE) (rGeL K) := by
  subst hK
  intro pins s σ H x y v u Q I rx ry h
  obtain ⟨a, b, ns, ms, rfl, rfl, ha, hb, q⟩ := h
  cases rx
  cases ry
  obtain ⟨us, r1, p1, _⟩ := I.list ha
  obtain ⟨us2, r2, p2, _⟩ := I.list hb
  have i1 : IntsAre us ns := Vals.ints r1
  have i2 : IntsAre us2 ms := Vals.ints r2
  have z1 : us.toArray.size = ns.length := by rw [List.size_toArray]; exact i1.length
  have z2 : us2.toArray.size = ms.length := by rw [List.size_toArray]; exact i2.length
  have t1 : ∀ j (h1 : j < us.toArray.size), ∃ t, us.toArray[j] = .int (ns.getD j 0) t := fun j h1 => PyProof.Rows.IntsAre.int_at i1 _ _ (by simp at h1; simp [h1])
  have t2 : ∀ j (h1 : j < us2.toArray.size), ∃ t, us2.toArray[j] = .int (ms.getD j 0) t := fun j h1 => PyProof.Rows.IntsAre.int_at i2 _ _ (by simp at h1; simp [h1])
  have R := TrG.ge_lists (A := X.A) (s := s) (e := fun j => decide (ns.getD j 0 = ms.getD j 0)) (r := fun j => decide (ms.getD j 0 ≤ ns.getD j 0)) p1.isList p2.isList hu (fun j h1 h2 => by
    obtain ⟨t, et⟩ := t1 j h1
    obtain ⟨t', et'⟩ := t2 j h2
    rw [et, et', show decide (ns.getD j 0 = ms.getD j 0) = (ns.getD j 0 == ms.getD j 0) from (Bool.beq_eq_decide_eq _ _).symm]
    exact SeqAt.EqAt.int_int _ _ _ _) (fun j h1 h2 _ => by
    obtain ⟨t, et⟩ := t1 j h1
    obtain ⟨t', et'⟩ := t2 j h2
    rw [et, et']
    exact Ob.RcOp.ge_int _ _ _ _)
  rw [z1, z2] at R
  exact (R X.prog X.w X.xe (EP X pins σ Q) ⟨.bl _, H, I, rfl, q⟩ : wpAny (model X.prog X.w) X.A (compareOp .GtE (.ref a) (.ref b)) (EP X pins σ Q) X.xe s)
theorem rv_geL {K : PySem.W.Frag} {H : Hp} {a b : Addr} {ns ms : List Int} (ha : SqL K H a (ns.map V.int)) (hb : SqL K H b (ms.map V.int)) : RV (rGeL K) (.ref a) (.ref b) H (.bl (geI ns ms)) := fun H1 e _ q => ⟨a, b, ns, ms, rfl, rfl, ex_l e ha, ex_l e hb, q H1 (Ex.refl H1)⟩
end Tr

set_option Elab.async false
set_option linter.all false
set_option maxRecDepth 100000
set_option maxHeartbeats 4000000
namespace Tr
open PySem PySem.Spec PyProof.Rows L2 Evl
open M3 (wat joinW pre ways)
abbrev s__law_code : Stmt := topS 23
abbrev N__law_code : List Str := ["_law_script", "_law_kind", "_law_letters", "_law_words", "_law_word", "_law_cell"]
theorem sc__law_code : FnScope N__law_code ["_law_script"] (defScope s__law_code) := ⟨rfl, rfl, rfl, by decide +kernel, rfl, by decide +kernel, by decide +kernel⟩
abbrev s__law_stands : Stmt := topS 24
abbrev N__law_stands : List Str := ["_law_word", "_law_text_here", "_law_at"]
theorem sc__law_stands : FnScope N__law_stands ["_law_word", "_law_text_here", "_law_at"] (defScope s__law_stands) := ⟨rfl, rfl, rfl, by decide +kernel, rfl, by decide +kernel, by decide +kernel⟩
abbrev s__law_numbers : Stmt := topS 25
abbrev N__law_numbers : List Str := ["_law_found", "_law_one"]
theorem sc__law_numbers : FnScope N__law_numbers ["_law_found"] (defScope s__law_numbers) := ⟨rfl, rfl, rfl, by decide +kernel, rfl, by decide +kernel, by decide +kernel⟩
abbrev s__law_text : Stmt := topS 26
abbrev N__law_text : List Str := ["_law_code_here", "_law_script", "_law_text_here", "_law_at", "_law_cell"]
theorem sc__law_text : FnScope N__law_text ["_law_code_here", "_law_script"] (defScope s__law_text) := ⟨rfl, rfl, rfl, by decide +kernel, rfl, by decide +kernel, by decide +kernel⟩
local macro_rules | `(tactic| walk_at "sd") => `(tactic| first | assumption | rfl | omega | decide | (solve_by_elim) | (refine Nat.le_trans (m := 1000) (by solve_by_elim) (by decide)))
local macro_rules | `(tactic| walk_at "rv") => `(tactic| first
  | exact rv_add | exact rv_sub | exact rv_lt | exact rv_le | exact rv_gt | exact rv_ge | exact rv_eqI | exact rv_eqS | exact rv_eqB | exact rv_neI | exact rv_neS | exact rv_neB
  | exact rv_mod (by walk_at "sd") | exact rv_fdiv (by first | assumption | exact ⟨by omega, by omega⟩) | exact rv_addS (by walk_at "sd") | exact rv_isB | exact rv_notB | assumption)
local macro_rules | `(tactic| walk_at "ea") => `(tactic| first
  | exact ea_nil
  | (refine' ea_cons ?k1 ?k2; (case k1 => walk_at "ev"); (case k2 => walk_at "ea")))
local macro_rules | `(tactic| walk_at "eo") => `(tactic| first
  | exact eo_none
  | (refine' eo_some ?k1; (case k1 => walk_at "ev")))
local macro_rules | `(tactic| walk_at "et") => `(tactic| first
  | (refine' et_test ?k1; (case k1 => walk_at "ev"))
  | (refine' et_B ?k1; (case k1 => walk_at "ev"))
  | (refine' et_and ?k1 ?k2; (case k1 => walk_at "et"); (case k2 => (intro _; walk_at "et")))
  | (refine' et_or ?k1 ?k2; (case k1 => walk_at "et"); (case k2 => (intro _; walk_at "et")))
  | (refine' et_not ?k1; (case k1 => walk_at "et"))
  | assumption)
local macro_rules | `(tactic| walk_at "ev") => `(tactic| first
  | assumption
  | exact ev_cS
  | exact ev_c
  | exact ev_var rfl
  | (refine' ev_op ?k1 ?k2 ?k3; (case k1 => walk_at "ev"); (case k2 => walk_at "ev"); (case k3 => walk_at "rv"))
  | (refine' ev_un ?k1 ru_neg; (case k1 => walk_at "ev"))
  | (refine' ev_chain ?k1 ?k2 ?k3 ?k4 ?k5; (case k1 => walk_at "ev"); (case k2 => walk_at "ev"); (case k3 => walk_at "ev"); (case k4 => walk_at "rv"); (case k5 => (intro _; walk_at "rv")))
  | (refine' ev_slS ?k1 ?k2 ?k3 ?k4; (case k1 => walk_at "ev"); (case k2 => walk_at "eo"); (case k3 => walk_at "eo"); (case k4 => walk_at "sd"))
  | (refine' ev_lenS ?k1 ?k2; (case k1 => walk_at "ev"); (case k2 => walk_at "sd"))
  | (refine' ev_len' ?k1 ?k2; (case k1 => walk_at "ev"); (case k2 => walk_at "sd"))
  | (refine' ev_strip ?k1 ?k2 ?k3; (case k1 => walk_at "ev"); (case k2 => walk_at "ev"); (case k3 => walk_at "sd"))
  | (refine' ev_sum ?k1 ?k2; (case k1 => walk_at "ev"); (case k2 => walk_at "sd"))
  | (refine' ev_isi ?k1 ?k2 ?k3 ?k4; (case k1 => walk_at "ev"); (case k2 => walk_at "ev"); (case k3 => first | exact ty_int | exact ty_bl | exact ty_str | exact ty_list (by walk_at "sd")); (case k4 => first | exact kit_ty (r := true) (by decide +kernel) | exact kit_ty (r := false) (by decide +kernel)))
  | (refine' ev_andV ?k1 ?k2; (case k1 => walk_at "ev"); (case k2 => (intro _; walk_at "ev")))
  | (refine' ev_orV ?k1 ?k2; (case k1 => walk_at "ev"); (case k2 => (intro _; walk_at "ev")))
  | (refine' ev_notV ?k1; (case k1 => walk_at "ev"))
  | (refine' ev_call ?k1 ?k2; (case k1 => walk_at "ea"); (case k2 => walk_at "sv")))
local macro_rules | `(tactic| walk_at "el") => `(tactic| first
  | assumption
  | (refine' el_mapB ?k1 ?k2 ?k3 (fun _ => rfl) ?k5; (case k1 => walk_at "ev"); (case k2 => walk_at "sd"); (case k3 => walk_at "sd"); (case k5 => (intro _ _; walk_at "ev")))
  | (refine' el_mapI ?k1 ?k2 ?k3 (fun _ => rfl) ?k5; (case k1 => walk_at "ev"); (case k2 => walk_at "sd"); (case k3 => walk_at "sd"); (case k5 => (intro _ _; walk_at "ev")))
  | (refine' el_mapS ?k1 ?k2 ?k3 (fun _ => rfl) ?k5; (case k1 => walk_at "ev"); (case k2 => walk_at "sd"); (case k3 => walk_at "sd"); (case k5 => (intro _ _; walk_at "ev"))))
local macro_rules | `(tactic| walk_at "ev") => `(tactic| first
  | (refine' ev_all ?k1; (case k1 => walk_at "el"))
  | (refine' ev_any ?k1; (case k1 => walk_at "el"))
  | (refine' ev_sumN ?k1; (case k1 => walk_at "el"))
  | (refine' ev_join ?k1 ?k2 ?k3; (case k1 => exact ev_is ev_cS (congrArg tx codes_nil)); (case k2 => walk_at "el"); (case k3 => walk_at "sd")))

local macro_rules | `(tactic| walk_at "sv") => `(tactic| first | exact sv_is_text (by walk_at "sd") | exact sv_is_number | exact sv_stands (by walk_at "sd") (by walk_at "sd"))
/-! ### the code of a script -/
def letW (s : Int) : Wd := ([codes "abc", codes "dmz", codes "ahy"] : List Wd).getD (s / 4 % 3).toNat []
def modK (k : Int) : Int := ([2, 3, 2, 3] : List Int).getD k.toNat 0
def stepC (L : Wd) (m : Int) (r : List Wd × Wd) (c : Int) : List Wd × Wd :=
  if c / 3 % 3 = 0 then (r.1 ++ [r.2 ++ [L.getD (c % m).toNat 0]], []) else (r.1, r.2 ++ [L.getD (c % m).toNat 0])
def cutC (L : Wd) (m : Int) (ns : List Int) : List Wd × Wd := ns.foldl (stepC L m) ([], [])
def wordsC (r : List Wd × Wd) : List Wd := if r.2 = [] then r.1 else r.1 ++ [r.2]
def codeOf (ns : List Int) : List Wd :=
  if ns.sum % 4 = 2 then (ns.take 12).map fun c => [(letW ns.sum).getD 1 0] ++ repW [(letW ns.sum).getD 0 0] (c / 2 % 9)
  else if ns.sum % 4 = 3 then (wordsC (cutC (letW ns.sum) (modK (ns.sum % 4)) ns)).map fun a => [(letW ns.sum).getD 2 0] ++ a.reverse
  else wordsC (cutC (letW ns.sum) (modK (ns.sum % 4)) ns)
theorem mod_cases3 (s : Int) : (s % 3).toNat = 0 ∨ (s % 3).toNat = 1 ∨ (s % 3).toNat = 2 := by omega
theorem letW_ok (s : Int) : (letW s).length = 3 ∧ okW (letW s) := by
  unfold letW
  rcases mod_cases3 (s / 4) with h | h | h <;> rw [h] <;> decide +kernel
theorem modK_ok (s : Int) : 2 ≤ modK (s % 4) ∧ modK (s % 4) ≤ 3 := by
  unfold modK
  have : (s % 4).toNat = 0 ∨ (s % 4).toNat = 1 ∨ (s % 4).toNat = 2 ∨ (s % 4).toNat = 3 := by omega
  rcases this with h | h | h | h <;> rw [h] <;> decide
theorem getD_ok {L : Wd} (h : L.length = 3 ∧ okW L) {i : Nat} (hi : i < 3) : 97 ≤ L.getD i 0 ∧ L.getD i 0 ≤ 122 := by
  have e : L.getD i 0 = L[i] := by simp [List.getD, h.1, hi]
  rw [e]
  exact h.2 _ (List.getElem_mem _)
/-- what the loop keeps -/
structure CutOk (r : List Wd × Wd) (n : Nat) : Prop where
  ne : ∀ a ∈ r.1, a ≠ []
  len : (r.1.flatten ++ r.2).length = n
  ok : okW (r.1.flatten ++ r.2)
theorem cut_step {L : Wd} {m : Int} (hL : L.length = 3 ∧ okW L) (hm : 2 ≤ m ∧ m ≤ 3) {r : List Wd × Wd} {n : Nat} (h : CutOk r n) (c : Int) : CutOk (stepC L m r c) (n + 1) := by
  have hc := getD_ok hL (i := (c % m).toNat) (by have := Int.emod_nonneg c (show m ≠ 0 by omega); have := Int.emod_lt_of_pos c (show 0 < m by omega); omega)
  have h2 := h.len
  rw [List.length_append, List.length_flatten] at h2
  unfold stepC
  split
  · refine ⟨fun a ha => ?_, ?_, ?_⟩
    · rcases List.mem_append.mp ha with ha | ha
      · exact h.ne a ha
      · rw [List.mem_singleton.mp ha]; simp
    · simp; omega
    · intro d hd
      simp only [List.flatten_append, List.flatten_cons, List.flatten_nil, List.append_nil, List.mem_append, List.mem_singleton] at hd
      rcases hd with hd | hd | hd
      · exact h.ok d (List.mem_append_left _ hd)
      · exact h.ok d (List.mem_append_right _ hd)
      · rw [hd]; exact hc
  · refine ⟨h.ne, ?_, ?_⟩
    · simp; omega
    · intro d hd
      simp only [List.mem_append, List.mem_singleton] at hd
      rcases hd with hd | hd | hd
      · exact h.ok d (List.mem_append_left _ hd)
      · exact h.ok d (List.mem_append_right _ hd)
      · rw [hd]; exact hc
theorem cut_all {L : Wd} {m : Int} (hL : L.length = 3 ∧ okW L) (hm : 2 ≤ m ∧ m ≤ 3) : ∀ (ns : List Int) (r : List Wd × Wd) (n : Nat), CutOk r n → CutOk (ns.foldl (stepC L m) r) (n + ns.length)
  | [], r, n, h => h
  | c :: ns, r, n, h => by
    rw [List.foldl_cons, List.length_cons, show n + (ns.length + 1) = n + 1 + ns.length by omega]
    exact cut_all hL hm ns _ _ (cut_step hL hm h c)
theorem cut_ok {L : Wd} {m : Int} (hL : L.length = 3 ∧ okW L) (hm : 2 ≤ m ∧ m ≤ 3) (ns : List Int) : CutOk (cutC L m ns) ns.length := by
  have := cut_all hL hm ns ([], []) 0 ⟨by simp, rfl, by simp [okW]⟩
  rwa [Nat.zero_add] at this
theorem len_le_flat : ∀ (ws : List Wd), (∀ a ∈ ws, a ≠ []) → ws.length ≤ ws.flatten.length
  | [], _ => by simp
  | a :: r, h => by
    have := len_le_flat r fun b hb => h b (by simp [hb])
    have h1 : 0 < a.length := List.length_pos_iff.mpr (h a (by simp))
    simp only [List.length_cons, List.flatten_cons, List.length_append]; omega
theorem mem_le_flat {ws : List Wd} {a : Wd} (h : a ∈ ws) : a.length ≤ ws.flatten.length := by
  obtain ⟨s, t, rfl⟩ := List.append_of_mem h
  simp; omega
theorem CutOk.words {r : List Wd × Wd} {n : Nat} (h : CutOk r n) : (∀ a ∈ wordsC r, a ≠ []) ∧ (wordsC r).flatten = r.1.flatten ++ r.2 := by
  unfold wordsC
  split
  · rename_i e; rw [e]; exact ⟨h.ne, by simp⟩
  · rename_i e
    refine ⟨fun a ha => ?_, by simp⟩
    rcases List.mem_append.mp ha with ha | ha
    · exact h.ne a ha
    · rw [List.mem_singleton.mp ha]; exact e
structure WordsOk (ws : List Wd) (n : Nat) : Prop where
  ok : ∀ a ∈ ws, a ≠ [] ∧ okW a ∧ a.length ≤ n
  len : ws.length ≤ 63
theorem CutOk.wok {r : List Wd × Wd} {n : Nat} (h : CutOk r n) (hn : n ≤ 63) : WordsOk (wordsC r) 63 := by
  obtain ⟨h1, h2⟩ := h.words
  have h3 := h.len
  have h4 := h.ok
  rw [← h2] at h3 h4
  refine ⟨fun a ha => ⟨h1 a ha, fun c hc => h4 c (List.mem_flatten.mpr ⟨a, ha, hc⟩), ?_⟩, ?_⟩
  · have := mem_le_flat ha; omega
  · have := len_le_flat _ h1; omega
theorem repW_mem {a : Wd} {n : Int} {c : Nat} (h : c ∈ repW a n) : c ∈ a := by
  unfold repW at h
  obtain ⟨l, hl, hc⟩ := List.mem_flatten.mp h
  rw [(List.mem_replicate.mp hl).2] at hc; exact hc
theorem repW_len1 (c : Nat) (n : Int) : (repW [c] n).length = n.toNat := by
  unfold repW
  rw [List.length_flatten, List.map_replicate, List.sum_replicate_nat]; simp
theorem codeOf_ok {ns : List Int} (hn : ns.length ≤ 63) : WordsOk (codeOf ns) 64 := by
  have hL := letW_ok ns.sum
  have hm := modK_ok ns.sum
  have hw := (cut_ok hL hm ns).wok hn
  unfold codeOf
  split
  · refine ⟨fun a ha => ?_, by simp; omega⟩
    obtain ⟨c, _, rfl⟩ := List.mem_map.mp ha
    refine ⟨by simp, fun d hd => ?_, ?_⟩
    · rcases List.mem_append.mp hd with hd | hd
      · rw [List.mem_singleton.mp hd]; exact getD_ok hL (by decide)
      · rw [List.mem_singleton.mp (repW_mem hd)]; exact getD_ok hL (by decide)
    · rw [List.length_append, repW_len1]; simp; omega
  · split
    · refine ⟨fun a ha => ?_, by rw [List.length_map]; exact hw.len⟩
      obtain ⟨b, hb, rfl⟩ := List.mem_map.mp ha
      obtain ⟨_, h2, h3⟩ := hw.ok b hb
      refine ⟨by simp, fun d hd => ?_, ?_⟩
      · rcases List.mem_append.mp hd with hd | hd
        · rw [List.mem_singleton.mp hd]; exact getD_ok hL (by decide)
        · exact h2 d (List.mem_reverse.mp hd)
      · simp; omega
    · exact ⟨fun a ha => ⟨(hw.ok a ha).1, (hw.ok a ha).2.1, by have := (hw.ok a ha).2.2; omega⟩, hw.len⟩
theorem WordsOk.at {K : PySem.W.Frag} {H : Hp} {p : Addr} {ws : List Wd} {n : Nat} (h : WordsOk ws n) (hn : n ≤ 1000) (hs : SqL K H p (ws.map tx)) : CodeAt K H p ws :=
  ⟨hs, fun a ha => ⟨(h.ok a ha).1, (h.ok a ha).2.1, by have := (h.ok a ha).2.2; omega⟩, by have := h.len; omega⟩
theorem okC_of {a : Wd} (h : okW a) : okC a := fun c hc => by have := (h c hc).2; omega
/-! ### items of tuples, of texts; slices of lists -/
theorem atI_of {α : Type} {xs : List α} {i : Int} {v : α} (h0 : 0 ≤ i) (h : xs[i.toNat]? = some v) : atI xs i = some v := by
  have e : i = (i.toNat : Int) := by omega
  rw [e]; exact atI_nat h
section
variable {K : PySem.W.Frag} {σ : L2.St} {H : Hp} {ta tb te : TE} {x y z v : V}
theorem ev_ixU {xs : List V} {i : Int} (ha : EvU ta σ H xs) (hi : Ev tb σ H (.int i)) (h : atI xs i = some v) : Ev (tOp (rIxT K) ta tb) σ H v := fun H1 e Q q =>
  ha H1 e _ fun p H2 _ e2 h2 => hi H2 (e.trans e2) _ fun H3 e3 => rv_ixT (st_of (e3 p _ h2)) h H3 (Ex.refl H3) Q fun H4 e4 => q H4 ((e2.trans e3).trans e4)
theorem cutV_to (xs : List V) (j : Nat) : cutV xs none (some (j : Int)) = xs.take j := by
  unfold cutV
  rw [HT.sIx_nat, HT.sIx_none]
  show (xs.drop 0).take (min j xs.length - 0) = _
  rw [List.drop_zero, Nat.sub_zero]
  rcases Nat.le_total j xs.length with h | h
  · rw [Nat.min_eq_left h]
  · rw [Nat.min_eq_right h, List.take_of_length_le (Nat.le_refl _), List.take_of_length_le h]
theorem ev_ixW {a : Wd} {i : Int} (ha : Ev ta σ H (tx a)) (hi : Ev tb σ H (.int i)) (hz : a.length ≤ 100000) (h0 : 0 ≤ i) (h : i.toNat < a.length) : Ev (tOp rIxS ta tb) σ H (tx [a.getD i.toNat 0]) :=
  ev_op ha hi (rv_ixW hz (atI_of h0 (by simp [List.getD, h])))
end
section
variable {P : Program} {w : World} {K : PySem.W.Frag} {mg : Str → Option Value} {base : Heap} {H : Hp}
def spLawCode (K : PySem.W.Frag) : Sp := fun vs H Q _ => ∃ (p : Addr) (ns : List Int), vs = [.ref p] ∧ SqL K H p (ns.map V.int) ∧ ns.length ≤ 63 ∧ RetL ((codeOf ns).map tx) H Q
theorem sl_law_code {p : Addr} {ns : List Int} (h : SqL K H p (ns.map V.int)) (hn : ns.length ≤ 63) : SpL (spLawCode K) [.ref p] H ((codeOf ns).map tx) := fun _ e _ q _ => ⟨p, ns, rfl, ex_l e h, hn, q⟩
theorem ok__law_code (D : DefAt K mg "_law_code" s__law_code ["_law_script"]) (T : Blt mg) : Cal P w K mg base 1 "_law_code" (spLawCode K) := by
  refine cal_of D sc__law_code (fun vs H Q E h => ?_) (fun f cdv A outer s H vs Q E hr h => ?_)
  · obtain ⟨p, ns, rfl, _⟩ := h; rfl
  · obtain ⟨p, ns, rfl, hs, hn, q⟩ := h
    refine ⟨_, (pss_cons (ps_set (i := 1) sc__law_code.nd rfl (.inl rfl) (pe_op op_mod (pe_callB (cr_sumK (K := K) rfl rfl) (by rfl) T.sum (by decide +kernel) (pa_cons (pv 0) pa_nil)) pe_int))
      (pss_cons (ps_set (i := 2) sc__law_code.nd rfl (.inr rfl) (pe_ix (ix_tupK (K := K) rfl) (pe_tup (pa_cons pe_str (pa_cons pe_str (pa_cons pe_str pa_nil)))) (pe_op op_mod (pe_op op_fdiv (pe_callB (cr_sumK (K := K) rfl rfl) (by rfl) T.sum (by decide +kernel) (pa_cons (pv 0) pa_nil)) pe_int) pe_int) (fun _ _ => rfl)))
      (pss_cons (ps_set (i := 3) sc__law_code.nd rfl (.inl rfl) (pe_lst pa_nil))
      (pss_cons (ps_set (i := 4) sc__law_code.nd rfl (.inl rfl) pe_str)
      (pss_cons (ps_for PassesOwn.never rfl (pi_listK (K := K) rfl (pv 0)) (pg_name (i := 5) sc__law_code.nd rfl (.inl rfl)) (pss_cons (ps_set (i := 4) sc__law_code.nd rfl (.inl rfl) (pe_op op_add_str (pv 4) (pe_ix ix_str (pv 2) (pe_op op_mod (pv 5) (pe_ix (ix_tupK (K := K) rfl) (pe_tup (pa_cons pe_int (pa_cons pe_int (pa_cons pe_int (pa_cons pe_int pa_nil))))) (pv 1) (fun _ _ => rfl))) (fun _ _ => rfl))))
      (pss_one (ps_if (pt_cmpR op_eq (pe_op op_mod (pe_op op_fdiv (pv 5) pe_int) pe_int) pe_int (nomark _)) (pss_cons (ps_expr (pe_bm PySem.F.plainAttrs_list PySem.F.slot_list_append PySem.F.type_list_append mt_append (pv 3) (pa_cons (pv 4) pa_nil)))
      (pss_one (ps_set (i := 4) sc__law_code.nd rfl (.inl rfl) pe_str))) pss_nil))))
      (pss_cons (ps_if (pt_cmpR op_ne (pv 4) pe_str (nomark _)) (pss_one (ps_expr (pe_bm PySem.F.plainAttrs_list PySem.F.slot_list_append PySem.F.type_list_append mt_append (pv 3) (pa_cons (pv 4) pa_nil)))) pss_nil)
      (pss_cons (ps_if (pt_cmpR op_eq (pv 1) pe_int (nomark _)) (pss_one (ps_ret (pe_lc (own := [("_law_cell", 5)]) rfl sc__law_code.nd (pi_listK (K := K) rfl (pe_slice (sl_listK (K := K) rfl) (pv 0) po_none (po_some pe_int))) (blkOk_by (own := [("_law_cell", 5)]) (N := N__law_code) (sc := defScope s__law_code) (by decide +kernel)) (fun _ _ _ _ _ => (pg_name (i := 5) sc__law_code.nd rfl (.inl rfl))) (fun _ _ _ _ _ => pts_nil) (fun _ _ _ _ _ => (pe_op op_add_str (pe_ix ix_str (pv 2) pe_int (fun _ _ => rfl)) (pe_op op_rep_str (pe_ix ix_str (pv 2) pe_int (fun _ _ => rfl)) (pe_op op_mod (pe_op op_fdiv (pv 5) pe_int) pe_int))))))) pss_nil)
      (pss_one (ps_ret (pe_ifExp (pt_cmpR op_eq (pv 1) pe_int (nomark _)) (pe_lc (own := [("_law_word", 4)]) rfl sc__law_code.nd (pi_listK (K := K) rfl (pv 3)) (blkOk_by (own := [("_law_word", 4)]) (N := N__law_code) (sc := defScope s__law_code) (by decide +kernel)) (fun _ _ _ _ _ => (pg_name (i := 4) sc__law_code.nd rfl (.inl rfl))) (fun _ _ _ _ _ => pts_nil) (fun _ _ _ _ _ => (pe_op op_add_str (pe_ix ix_str (pv 2) pe_int (fun _ _ => rfl)) (pe_revS (pv 4))))) (pv 3))))))))))), ?_⟩
    have hL := letW_ok ns.sum
    have hm := modK_ok ns.sum
    have hsum : ∀ H1, Ex H H1 → ∀ σ : L2.St, σ[0]? = some (some (.ref p)) → Ev (tCB (rSum K) (tCons (tVar 0) tNil)) σ H1 (.int ns.sum) := fun H1 e σ h0 => ev_sum (ev_var h0) (ex_l e hs)
    refine q_asg (v := .int (ns.sum % 4)) (ev_op (hsum _ (Ex.refl _) _ rfl) ev_c (rv_mod (by decide))) fun H1 e1 => ?_
    refine q_asg (v := tx (letW ns.sum)) (ev_ixU (xs := [tx (codes "abc"), tx (codes "dmz"), tx (codes "ahy")]) (eu_tup (by walk_at "ea") (by simp)) (ev_op (ev_op (hsum _ e1 _ rfl) ev_c (rv_fdiv ⟨by decide, by decide⟩)) ev_c (rv_mod (by decide))) (atI_of (by omega) ?_)) fun H2 e2 => ?_
    · unfold letW
      rcases mod_cases3 (ns.sum / 4) with h | h | h <;> rw [h] <;> rfl
    refine q_asgL (el_lst0) fun q0 H3 nq e3 hq => ?_
    refine q_asg (v := tx []) (ev_is ev_cS (congrArg tx codes_nil)) fun H4 e4 => ?_
    have ex4 := ((e1.trans e2).trans e3).trans e4
    have nq0 : H q0 = none := fresh_back (e1.trans e2) nq
    refine q_forLn (a := p) (xs := ns.map V.int) (ev_var rfl) (ex_l ex4 hs) (fun i σ' H' => ∃ s5, Ex H H' ∧ H' q0 = some (.lst ((cutC (letW ns.sum) (modK (ns.sum % 4)) (ns.take i)).1.map tx)) ∧
        σ' = [some (.ref p), some (.int (ns.sum % 4)), some (tx (letW ns.sum)), some (.ref q0), some (tx (cutC (letW ns.sum) (modK (ns.sum % 4)) (ns.take i)).2), s5])
      (fun H5 e5 => ⟨_, ex4.trans e5, e5 q0 _ (e4 q0 _ hq), rfl⟩) (fun i σ' H' _ hP => by obtain ⟨_, ex, _⟩ := hP; exact ex_l ex hs) (fun i x σ' H' hi hP => ?_) (fun σ' H' hP => ?_)
    · obtain ⟨s5, ex, hq', rfl⟩ := hP
      have hil : i < ns.length := by
        have := (List.getElem?_eq_some_iff.mp hi).1
        rwa [List.length_map] at this
      have hx : x = .int ns[i] := by
        rw [List.getElem?_map, List.getElem?_eq_getElem hil] at hi
        exact (Option.some.inj hi).symm
      subst hx
      have hst : cutC (letW ns.sum) (modK (ns.sum % 4)) (ns.take (i + 1)) = stepC (letW ns.sum) (modK (ns.sum % 4)) (cutC (letW ns.sum) (modK (ns.sum % 4)) (ns.take i)) ns[i] := by
        unfold cutC
        rw [List.take_succ, List.getElem?_eq_getElem hil, List.foldl_append]
        rfl
      have hok := cut_ok hL hm (ns.take i)
      rw [hst]
      generalize hR : cutC (letW ns.sum) (modK (ns.sum % 4)) (ns.take i) = r at *
      obtain ⟨ws, wd⟩ := r
      have hlen := hok.len
      rw [List.length_take, Nat.min_eq_left (by omega), List.length_append] at hlen
      have hwl := len_le_flat ws hok.ne
      dsimp only at hlen hq'
      have hwd : wd.length ≤ 63 := by omega
      have hws : ws.length ≤ 63 := by omega
      generalize hd : [(letW ns.sum).getD (ns[i] % modK (ns.sum % 4)).toNat 0] = d
      have hdl : d.length = 1 := by rw [← hd]; rfl
      have hmi := Int.emod_nonneg ns[i] (show modK (ns.sum % 4) ≠ 0 by omega)
      have hmj := Int.emod_lt_of_pos ns[i] (show 0 < modK (ns.sum % 4) by omega)
      refine q_asg (v := tx (wd ++ d)) (ev_op (x := tx wd) (y := tx d) (ev_var rfl) ?_ (rv_addS (by omega))) fun H6 e6 => ?_
      · rw [← hd]
        refine ev_ixW (ev_var rfl) (ev_op (ev_var rfl) (ev_ixU (v := .int (modK (ns.sum % 4))) (xs := [.int 2, .int 3, .int 2, .int 3]) (eu_tup (by walk_at "ea") (by simp)) (ev_var rfl) (atI_of (by omega) ?_)) (rv_mod (by omega))) (by omega) (by omega) (by omega)
        unfold modK
        have : (ns.sum % 4).toNat = 0 ∨ (ns.sum % 4).toNat = 1 ∨ (ns.sum % 4).toNat = 2 ∨ (ns.sum % 4).toNat = 3 := by omega
        rcases this with h | h | h | h <;> rw [h] <;> rfl
      · refine s_when (b := decide (ns[i] / 3 % 3 = 0)) (et_test (ev_op (ev_op (ev_op (ev_var rfl) ev_c (rv_fdiv ⟨by decide, by decide⟩)) ev_c (rv_mod (by decide))) ev_c rv_eqI)) (fun ht H7 e7 => ?_) (fun ht H7 e7 => ?_)
        · have h0 := of_decide_eq_true ht
          refine q_app ((e6.trans e7) q0 _ hq') (ev_var rfl) (v := tx (wd ++ d)) (ev_var rfl) (by rw [List.length_map]; exact Nat.lt_of_le_of_lt hws (by decide)) fun H8 e8 => ?_
          refine s_asg (v := tx []) (ev_is ev_cS (congrArg tx codes_nil)) fun H9 e9 => ⟨some (.int ns[i]), (Ex.mut (((ex.trans e6).trans e7).trans e8) nq0).trans e9, ?_, ?_⟩
          · unfold stepC
            rw [if_pos h0, hd]
            show H9 q0 = some (.lst ((ws ++ [wd ++ d]).map tx))
            rw [List.map_append]
            exact e9 q0 _ upd_same
          · unfold stepC
            rw [if_pos h0]
            rfl
        · have h0 := of_decide_eq_false ht
          unfold stepC
          rw [if_neg h0, hd]
          exact ⟨_, (ex.trans e6).trans e7, (e6.trans e7) q0 _ hq', rfl⟩
    · obtain ⟨s5, ex, hq', rfl⟩ := hP
      rw [List.length_map, List.take_length] at hq' ⊢
      have hok := cut_ok hL hm ns
      generalize hR : cutC (letW ns.sum) (modK (ns.sum % 4)) ns = r at *
      obtain ⟨ws, wd⟩ := r
      have hlen := hok.len
      rw [List.length_append] at hlen
      have hwl := len_le_flat ws hok.ne
      dsimp only at hlen hwl hq'
      have hcode : codeOf ns = (if ns.sum % 4 = 2 then (ns.take 12).map fun c => [(letW ns.sum).getD 1 0] ++ repW [(letW ns.sum).getD 0 0] (c / 2 % 9)
        else if ns.sum % 4 = 3 then (wordsC (ws, wd)).map fun a => [(letW ns.sum).getD 2 0] ++ a.reverse else wordsC (ws, wd)) := by unfold codeOf; rw [hR]
      have wk := hok.wok hn
      have hl1 : ∀ i : Nat, i < 3 → ∀ (c : Nat), [(letW ns.sum).getD i 0].length ≤ 1000 := fun _ _ _ => by simp
      refine q_ifApp (b := !decide (wd = codes "")) hq' (et_test (ev_op (ev_var rfl) ev_cS rv_neS)) (ev_var rfl) (fun _ => ev_var (v := tx wd) rfl) (by rw [List.length_map]; omega) fun H6 e6 => ?_
      have hx6 : (if (!decide (wd = codes "")) = true then ws.map tx ++ [tx wd] else ws.map tx) = (wordsC (ws, wd)).map tx := by
        rw [codes_nil]
        unfold wordsC
        by_cases h : wd = []
        · subst h; simp
        · simp [h]
      rw [hx6]
      generalize hH : upd H6 q0 (.lst ((wordsC (ws, wd)).map tx)) = H7
      have ex7 : Ex H H7 := by rw [← hH]; exact Ex.mut (ex.trans e6) nq0
      have h7 : H7 q0 = some (.lst ((wordsC (ws, wd)).map tx)) := by rw [← hH]; exact upd_same
      have gL : ∀ (i : Nat) (σ : L2.St) (Hx : Hp), i < 3 → σ[2]? = some (some (tx (letW ns.sum))) → Ev (tOp rIxS (tVar 2) (tC (.int (i : Int)))) σ Hx (tx [(letW ns.sum).getD i 0]) := fun i σ Hx hi h =>
        ev_ixW (ev_var h) ev_c (by omega) (by omega) (by omega)
      refine q_when (et_test (ev_op (ev_var rfl) ev_c rv_eqI)) (fun h2 H8 e8 => ?_) (fun h2 H8 e8 => ?_)
      · have h2' := of_decide_eq_true h2
        rw [hcode, if_pos h2'] at q
        refine s_retL (el_mapNS (ys := ns.take 12) (φ := V.int) (g := fun c => [(letW ns.sum).getD 1 0] ++ repW [(letW ns.sum).getD 0 0] (c / 2 % 9)) ?_ (by rw [List.length_take]; omega) (fun _ => rfl) fun c hc => ?_) fun p2 H9 np e9 h9 => q.go (ex7.trans e8) np e9 h9
        · rw [List.map_take, ← cutV_to]
          exact el_sl (ev_var rfl) eo_none (eo_some ev_c) (ex_l (ex7.trans e8) hs)
        · refine ev_op (gL 1 _ _ (by decide) rfl) (ev_op (gL 0 _ _ (by decide) rfl) (ev_op (ev_op (ev_var rfl) ev_c (rv_fdiv ⟨by decide, by decide⟩)) ev_c (rv_mod (by decide))) (rv_repS ⟨⟨by omega, by omega⟩, by simp⟩)) (rv_addS ?_)
          rw [repW_len1]; simp; omega
      · have h2' := of_decide_eq_false h2
        rw [hcode, if_neg h2'] at q
        have hif : EvT (tTest (tOp rEq (tVar 1) (tC (.int 3)))) [some (.ref p), some (.int (ns.sum % 4)), some (tx (letW ns.sum)), some (.ref q0), some (tx wd), s5] H8 (decide (ns.sum % 4 = 3)) := et_test (ev_op (ev_var rfl) ev_c rv_eqI)
        refine hif H8 (Ex.refl _) _ fun H9 e9 => ?_
        have h9 := (e8.trans e9) q0 _ h7
        by_cases h3 : ns.sum % 4 = 3
        · rw [if_pos h3] at q
          rw [decide_eq_true h3]
          have hz : (wordsC (ws, wd)).length ≤ 40000 := by have := wk.len; omega
          have := el_mapS (K := K) (te := tOp (fun x y H Q => ∃ i j, x = .str i ∧ y = .str j ∧ i.length + j.length ≤ sizeLine ∧ Q (.str (i ++ j)) H) (tOp rIxS (tVar 2) (tC (.int 2))) (tRevS (tVar 4))) (tl := tVar 3) (j := 4) (vs := [4]) (φ := tx) (g := fun a : Wd => [(letW ns.sum).getD 2 0] ++ a.reverse)
            (σ := [some (.ref p), some (.int (ns.sum % 4)), some (tx (letW ns.sum)), some (.ref q0), some (tx wd), s5]) (H := H9) (ys := wordsC (ws, wd)) (ev_var rfl) (sq_of h9) hz (fun _ => rfl) fun a ha => by
              have h3 := (wk.ok a ha).2.2
              exact ev_op (gL 2 _ _ (by decide) rfl) (ev_revS (ev_var rfl) (by omega)) (rv_addS (by simp; omega))
          exact this H9 (Ex.refl _) _ fun p2 H10 np e10 h10 => q.go ((ex7.trans e8).trans e9) np e10 h10
        · rw [if_neg h3] at q
          rw [decide_eq_false h3]
          rw [if_neg (by decide)]
          exact ⟨_, rfl, q q0 H9 nq0 ((ex7.trans e8).trans e9) h9⟩
/-! ### _law_stands, _law_numbers -/
def spLawStands : Sp := spStands
theorem ok__law_stands (D : DefAt K mg "_law_stands" s__law_stands ["_law_word", "_law_text_here", "_law_at"]) (T : Blt mg) : Cal P w K mg base 1 "_law_stands" spStands := by
  refine cal_of D sc__law_stands (fun vs H Q E h => ?_) (fun f cdv A outer s H vs Q E hr h => ?_)
  · obtain ⟨a, t, i, rfl, _⟩ := h; rfl
  · obtain ⟨a, t, i, rfl, h1, h2, q⟩ := h
    refine ⟨_, (pss_one (ps_ret (pe_cmpR op_eq (pe_slice sl_str (pv 1) (po_some (pv 2)) (po_some (pe_op op_add (pv 2) (pe_callB call_len_str (by rfl) T.len (by decide +kernel) (pa_cons (pv 0) pa_nil))))) (pv 0) (nomark _)))), ?_⟩
    refine sev_run (sev_is (sev_ret (by walk_at "ev")) (congrArg V.bl ?_)) q
    unfold standsB pre
    have h3 : (i : Int) + (a.length : Int) = ((i + a.length : Nat) : Int) := by omega
    have h4 : i + a.length - i = a.length := by omega
    rw [h3, cut_nn, h4]
/-- a list of ints -/
def spLawNumbers (K : PySem.W.Frag) : Sp := fun vs H Q _ => ∃ (p : Addr) (ns : List Int), vs = [.ref p] ∧ SqL K H p (ns.map V.int) ∧ ns.length ≤ 40000 ∧ ∀ H', Ex H H' → Q (.bl true) H'
theorem sv_law_numbers {p : Addr} {ns : List Int} (h : SqL K H p (ns.map V.int)) (hn : ns.length ≤ 40000) : SpV (spLawNumbers K) [.ref p] H (.bl true) := fun _ e _ q _ => ⟨p, ns, rfl, ex_l e h, hn, q⟩
theorem ok__law_numbers (D : DefAt K mg "_law_numbers" s__law_numbers ["_law_found"]) (T : Blt mg) : Cal P w K mg base 1 "_law_numbers" (spLawNumbers K) := by
  refine cal_of D sc__law_numbers (fun vs H Q E h => ?_) (fun f cdv A outer s H vs Q E hr h => ?_)
  · obtain ⟨p, ns, rfl, _⟩ := h; rfl
  · obtain ⟨p, ns, rfl, hs, hn, q⟩ := h
    refine ⟨_, (pss_cons (ps_if (pt_not (pt_val (pe_callB (call_isiK' (K := K) rfl) (by rfl) T.isinstance (by decide +kernel) (pa_cons (pv 0) (pa_cons (pe_bltn (v := .ty "list") (by rfl) T.list (by decide +kernel) rfl) pa_nil))))) (pss_one (ps_ret pe_bl)) pss_nil)
      (pss_one (ps_ret (pe_callB (cr_allK (K := K) rfl rfl) (by rfl) T.all (by decide +kernel) (pa_cons (pe_lc (own := [("_law_one", 1)]) rfl sc__law_numbers.nd (pi_listK (K := K) rfl (pv 0)) (blkOk_by (own := [("_law_one", 1)]) (N := N__law_numbers) (sc := defScope s__law_numbers) (by decide +kernel)) (fun _ _ _ _ _ => (pg_name (i := 1) sc__law_numbers.nd rfl (.inl rfl))) (fun _ _ _ _ _ => pts_nil) (fun _ _ _ _ _ => (pe_and (pe_callB (call_isiK' (K := K) rfl) (by rfl) T.isinstance (by decide +kernel) (pa_cons (pv 1) (pa_cons (pe_bltn (v := .ty "int") (by rfl) T.int (by decide +kernel) rfl) pa_nil))) (pe_one (pe_not (pe_callB (call_isiK' (K := K) rfl) (by rfl) T.isinstance (by decide +kernel) (pa_cons (pv 1) (pa_cons (pe_bltn (v := .ty "bool") (by rfl) T.bool (by decide +kernel) rfl) pa_nil)))))))) pa_nil))))), ?_⟩
    refine sev_run (sev_skip (et_is (by walk_at "et") ?_) (sev_is (sev_ret (by walk_at "ev")) (congrArg V.bl ?_))) q
    · rfl
    · rw [List.all_map, List.all_eq_true]
      intro a ha
      rfl
/-! ### the text of a script -/
def textOf (ws : List Wd) (ns : List Int) : Wd :=
  if ws = [] then repW (codes "ab") (ns.sum % 3)
  else if 0 < ns.sum / 4 % 3 ∨ ((ns.take 9).map fun c => wat ws (c / 5 % (ws.length : Int)).toNat).flatten = [] then ((ns.take 9).map fun c => wat ws (c / 5 % (ws.length : Int)).toNat).flatten
  else (((ns.take 9).map fun c => wat ws (c / 5 % (ws.length : Int)).toNat).flatten).take (ns.sum / 12 % ((((ns.take 9).map fun c => wat ws (c / 5 % (ws.length : Int)).toNat).flatten).length : Int)).toNat
    ++ [(codes "abz").getD (ns.getD 0 0 % 3).toNat 0] ++ (((ns.take 9).map fun c => wat ws (c / 5 % (ws.length : Int)).toNat).flatten).drop ((ns.sum / 12 % ((((ns.take 9).map fun c => wat ws (c / 5 % (ws.length : Int)).toNat).flatten).length : Int)).toNat + 1)
theorem flat_len_le (n : Nat) : ∀ ws : List Wd, (∀ a ∈ ws, a.length ≤ n) → ws.flatten.length ≤ ws.length * n
  | [], _ => by simp
  | a :: r, h => by
    have h1 := h a (by simp)
    have h2 := flat_len_le n r fun b hb => h b (by simp [hb])
    rw [List.flatten_cons, List.length_append, List.length_cons, Nat.succ_mul]; omega
theorem base_ok {ws : List Wd} (h : WordsOk ws 64) (ns : List Int) (hw : ws ≠ []) : ((ns.take 9).map fun c => wat ws (c / 5 % (ws.length : Int)).toNat).flatten.length ≤ 576 ∧ okW ((ns.take 9).map fun c => wat ws (c / 5 % (ws.length : Int)).toNat).flatten := by
  have hl : 0 < ws.length := List.length_pos_iff.mpr hw
  have hi : ∀ c : Int, wat ws (c / 5 % (ws.length : Int)).toNat ∈ ws := fun c => by
    have h1 := Int.emod_nonneg (c / 5) (show (ws.length : Int) ≠ 0 by omega)
    have h2 := Int.emod_lt_of_pos (c / 5) (show (0 : Int) < ws.length by omega)
    have h3 : (c / 5 % (ws.length : Int)).toNat < ws.length := by omega
    exact List.mem_of_getElem? (M3.wat_getElem h3)
  refine ⟨?_, fun d hd => ?_⟩
  · refine Nat.le_trans (flat_len_le 64 _ fun a ha => ?_) ?_
    · obtain ⟨c, _, rfl⟩ := List.mem_map.mp ha
      exact (h.ok _ (hi c)).2.2
    · rw [List.length_map, List.length_take]; omega
  · obtain ⟨l, hl, hc⟩ := List.mem_flatten.mp hd
    obtain ⟨c, _, rfl⟩ := List.mem_map.mp hl
    exact (h.ok _ (hi c)).2.1 d hc
theorem abz_ok (c : Int) : 97 ≤ (codes "abz").getD (c % 3).toNat 0 ∧ (codes "abz").getD (c % 3).toNat 0 ≤ 122 := by
  rcases mod_cases3 c with h | h | h <;> rw [h] <;> decide +kernel
theorem textOf_ok {ws : List Wd} (h : WordsOk ws 64) (ns : List Int) : (textOf ws ns).length ≤ 1000 ∧ okW (textOf ws ns) := by
  unfold textOf
  split
  · refine ⟨?_, fun d hd => ?_⟩
    · unfold repW
      rw [List.length_flatten, List.map_replicate, List.sum_replicate_nat]
      have : (codes "ab").length = 2 := by decide +kernel
      rw [this]; omega
    · have := repW_mem hd
      have e : okW (codes "ab") := by decide +kernel
      exact e d this
  · rename_i hw
    obtain ⟨h1, h2⟩ := base_ok h ns hw
    generalize ((ns.take 9).map fun c => wat ws (c / 5 % (ws.length : Int)).toNat).flatten = t at *
    split
    · exact ⟨by omega, h2⟩
    · refine ⟨?_, fun d hd => ?_⟩
      · simp only [List.length_append, List.length_take, List.length_drop, List.length_singleton]; omega
      · simp only [List.mem_append, List.mem_singleton] at hd
        rcases hd with (hd | hd) | hd
        · exact h2 d (List.mem_of_mem_take hd)
        · rw [hd]; exact abz_ok _
        · exact h2 d (List.mem_of_mem_drop hd)
def spLawText (K : PySem.W.Frag) : Sp := fun vs H Q _ => ∃ (p s : Addr) (ws : List Wd) (ns : List Int), vs = [.ref p, .ref s] ∧ SqL K H p (ws.map tx) ∧ SqL K H s (ns.map V.int) ∧ WordsOk ws 64 ∧ ns.length ≤ 63 ∧ ∀ H', Ex H H' → Q (tx (textOf ws ns)) H'
theorem sv_law_text {p s : Addr} {ws : List Wd} {ns : List Int} (h1 : SqL K H p (ws.map tx)) (h2 : SqL K H s (ns.map V.int)) (h3 : WordsOk ws 64) (h4 : ns.length ≤ 63) : SpV (spLawText K) [.ref p, .ref s] H (tx (textOf ws ns)) :=
  fun _ e _ q _ => ⟨p, s, ws, ns, rfl, ex_l e h1, ex_l e h2, h3, h4, q⟩
theorem ok__law_text (D : DefAt K mg "_law_text" s__law_text ["_law_code_here", "_law_script"]) (T : Blt mg) : Cal P w K mg base 1 "_law_text" (spLawText K) := by
  refine cal_of D sc__law_text (fun vs H Q E h => ?_) (fun f cdv A outer s H vs Q E hr h => ?_)
  · obtain ⟨p, s, ws, ns, rfl, _⟩ := h; rfl
  · obtain ⟨p, s2, ws, ns, rfl, hp, hs, hw, hn, q⟩ := h
    refine ⟨_, (pss_cons (ps_if (pt_cmpR (op_eqDK (K := K) rfl hr.units) (pv 0) (pe_lst pa_nil) (nomark _)) (pss_one (ps_ret (pe_op op_rep_str pe_str (pe_op op_mod (pe_callB (cr_sumK (K := K) rfl rfl) (by rfl) T.sum (by decide +kernel) (pa_cons (pv 1) pa_nil)) pe_int)))) pss_nil)
      (pss_cons (ps_set (i := 2) sc__law_text.nd rfl (.inl rfl) (pe_joinK (K := K) rfl pe_str (pe_lc (own := [("_law_cell", 4)]) rfl sc__law_text.nd (pi_listK (K := K) rfl (pe_slice (sl_listK (K := K) rfl) (pv 1) po_none (po_some pe_int))) (blkOk_by (own := [("_law_cell", 4)]) (N := N__law_text) (sc := defScope s__law_text) (by decide +kernel)) (fun _ _ _ _ _ => (pg_name (i := 4) sc__law_text.nd rfl (.inl rfl))) (fun _ _ _ _ _ => pts_nil) (fun _ _ _ _ _ => (pe_ix (ix_listK (K := K) rfl) (pv 0) (pe_op op_mod (pe_op op_fdiv (pv 4) pe_int) (pe_callB (call_len_seqK (K := K) rfl) (by rfl) T.len (by decide +kernel) (pa_cons (pv 0) pa_nil))) (fun _ _ => rfl))))))
      (pss_cons (ps_if (PW.pt (pw_or (pt_cmpR op_gt (pe_op op_mod (pe_op op_fdiv (pe_callB (cr_sumK (K := K) rfl rfl) (by rfl) T.sum (by decide +kernel) (pa_cons (pv 1) pa_nil)) pe_int) pe_int) pe_int (nomark _)) (pw_or1 (pt_cmpR op_eq (pv 2) pe_str (nomark _))))) (pss_one (ps_ret (pv 2))) pss_nil)
      (pss_cons (ps_set (i := 3) sc__law_text.nd rfl (.inl rfl) (pe_op op_mod (pe_op op_fdiv (pe_callB (cr_sumK (K := K) rfl rfl) (by rfl) T.sum (by decide +kernel) (pa_cons (pv 1) pa_nil)) pe_int) (pe_callB call_len_str (by rfl) T.len (by decide +kernel) (pa_cons (pv 2) pa_nil))))
      (pss_one (ps_ret (pe_op op_add_str (pe_op op_add_str (pe_slice sl_str (pv 2) po_none (po_some (pv 3))) (pe_ix ix_str pe_str (pe_op op_mod (pe_ix (ix_listK (K := K) rfl) (pv 1) pe_int (fun _ _ => rfl)) pe_int) (fun _ _ => rfl))) (pe_slice sl_str (pv 2) (po_some (pe_op op_add (pv 3) pe_int)) po_none)))))))), ?_⟩
    have hsum : ∀ H1, Ex H H1 → ∀ σ : L2.St, σ[1]? = some (some (.ref s2)) → Ev (tCB (rSum K) (tCons (tVar 1) tNil)) σ H1 (.int ns.sum) := fun H1 e σ h0 => ev_sum (ev_var h0) (ex_l e hs)
    refine sev_run (sev_is (sev_when (b := decide (ws = [])) (et_B (ev_eqQ enc_tx (eq_at (ev_var rfl) hp) (eq_new (xs := ([] : List Wd).map tx) el_lst0) (fun a ha => okC_of (hw.ok a ha).2.1) (by simp))) (fun he => ?_) (fun he => ?_)) (w := tx (textOf ws ns)) rfl) q
    · have he := of_decide_eq_true he
      refine sev_is (sev_ret (ev_op ev_cS (ev_op (hsum _ (Ex.refl _) _ rfl) ev_c (rv_mod (by decide))) (rv_repS ⟨⟨by omega, by omega⟩, by decide +kernel⟩))) ?_
      unfold textOf; rw [if_pos he]
    · have he := of_decide_eq_false he
      obtain ⟨b1, b2⟩ := base_ok hw ns he
      have hl : 0 < ws.length := List.length_pos_iff.mpr he
      refine sev_asg (x := tx ((ns.take 9).map fun c => wat ws (c / 5 % (ws.length : Int)).toNat).flatten) ?_ ?_
      · refine ev_join (ev_is ev_cS (congrArg tx codes_nil)) (el_mapNS (ys := ns.take 9) (φ := V.int) ?_ (by rw [List.length_take]; omega) (fun _ => rfl) fun c hc => ?_) (by omega)
        · rw [List.map_take, ← cutV_to]
          exact el_sl (ev_var rfl) eo_none (eo_some ev_c) hs
        · have h1 := Int.emod_nonneg (c / 5) (show (ws.length : Int) ≠ 0 by omega)
          have h2 := Int.emod_lt_of_pos (c / 5) (show (0 : Int) < ws.length by omega)
          have e9 : (((ws.map tx).length : Nat) : Int) = (ws.length : Int) := by rw [List.length_map]
          refine ev_op (ev_var rfl) (ev_op (ev_op (ev_var rfl) ev_c (rv_fdiv ⟨by decide, by decide⟩)) (y := .int (ws.length : Int)) (by rw [← e9]; exact ev_len' (ev_var rfl) hp) (rv_mod (by omega))) (rv_ixL hp (atI_of h1 (wat_get (by omega))))
      · unfold textOf
        rw [if_neg he]
        have hgen : ((ns.take 9).map fun c => wat ws (c / 5 % (ws.length : Int)).toNat).flatten ≠ [] → ns ≠ [] := fun h e => by subst e; exact h rfl
        generalize ((ns.take 9).map fun c => wat ws (c / 5 % (ws.length : Int)).toNat).flatten = t at *
        refine sev_when (b := decide (0 < ns.sum / 4 % 3) || decide (t = codes "")) (et_or (et_test (ev_op (ev_op (ev_op (hsum _ (Ex.refl _) _ rfl) ev_c (rv_fdiv ⟨by decide, by decide⟩)) ev_c (rv_mod (by decide))) ev_c rv_gt)) fun _ => et_test (ev_op (ev_var rfl) ev_cS rv_eqS)) (fun h2 => ?_) (fun h2 => ?_)
        · rw [codes_nil] at h2
          rw [if_pos (by simpa using h2)]
          exact sev_ret (ev_var rfl)
        · rw [codes_nil] at h2
          rw [if_neg (by simpa using h2)]
          have ht : 0 < t.length := List.length_pos_iff.mpr fun e => by rw [e] at h2; simp at h2
          have h3 := Int.emod_nonneg (ns.sum / 12) (show (t.length : Int) ≠ 0 by omega)
          have h4 := Int.emod_lt_of_pos (ns.sum / 12) (show (0 : Int) < t.length by omega)
          have hns : ns ≠ [] := hgen (List.length_pos_iff.mp ht)
          have hn0 : (ns.map V.int)[0]? = some (.int (ns.getD 0 0)) := by
            cases ns with
            | nil => exact absurd rfl hns
            | cons c r => rfl
          generalize hat : ns.sum / 12 % (t.length : Int) = at' at *
          have e5 : at' = ((at'.toNat : Nat) : Int) := by omega
          refine sev_asg (x := .int ((at'.toNat : Nat) : Int)) (ev_is (ev_op (ev_op (hsum _ (Ex.refl _) _ rfl) ev_c (rv_fdiv ⟨by decide, by decide⟩)) (ev_lenS (ev_var rfl) (by omega)) (rv_mod (by omega))) (by rw [hat, ← e5])) ?_
          have e6 : ((at'.toNat : Nat) : Int) + 1 = ((at'.toNat + 1 : Nat) : Int) := by omega
          have eabz : (codes "abz").length = 3 := by decide +kernel
          have hm0 := Int.emod_nonneg (ns.getD 0 0) (show (3 : Int) ≠ 0 by decide)
          have hm1 := Int.emod_lt_of_pos (ns.getD 0 0) (show (0 : Int) < 3 by decide)
          refine sev_ret (ev_op (x := tx (t.take at'.toNat ++ [(codes "abz").getD (ns.getD 0 0 % 3).toNat 0])) (y := tx (t.drop (at'.toNat + 1))) (ev_op (x := tx (t.take at'.toNat)) (ev_is (ev_slS (ev_var rfl) eo_none (eo_some (ev_var rfl)) (by omega)) (congrArg tx (cut_to _ _)))
            (ev_ixW ev_cS (ev_op (ev_op (x := .ref s2) (ev_var rfl) ev_c (rv_ixL hs (atI_nat (j := 0) hn0))) ev_c (rv_mod (by decide))) (by rw [eabz]; decide) hm0 (by rw [eabz]; omega)) (rv_addS (by simp; omega)))
            (ev_is (ev_slS (ev_var rfl) (eo_some (ev_op (ev_var rfl) ev_c rv_add)) eo_none (by omega)) (congrArg tx (by rw [e6]; exact cut_from _ _))) (rv_addS (by simp; omega)))
end
end Tr

set_option Elab.async false
set_option linter.all false
set_option maxRecDepth 100000
set_option maxHeartbeats 4000000
namespace Tr
open PySem PySem.Spec PyProof.Rows L2 Evl
open M3 (wat joinW pre ways)
abbrev s__law_many : Stmt := topS 27
abbrev N__law_many : List Str := ["_law_code_here", "_law_text_here", "_law_ways", "_law_mark", "_law_word"]
theorem sc__law_many : FnScope N__law_many ["_law_code_here", "_law_text_here"] (defScope s__law_many) := ⟨rfl, rfl, rfl, by decide +kernel, rfl, by decide +kernel, by decide +kernel⟩
local macro_rules | `(tactic| walk_at "sd") => `(tactic| first | assumption | rfl | omega | decide | (solve_by_elim) | (refine Nat.le_trans (m := 1000) (by solve_by_elim) (by decide)))
local macro_rules | `(tactic| walk_at "rv") => `(tactic| first
  | exact rv_add | exact rv_sub | exact rv_lt | exact rv_le | exact rv_gt | exact rv_ge | exact rv_eqI | exact rv_eqS | exact rv_eqB | exact rv_neI | exact rv_neS | exact rv_neB
  | exact rv_mod (by walk_at "sd") | exact rv_fdiv (by first | assumption | exact ⟨by omega, by omega⟩) | exact rv_addS (by walk_at "sd") | exact rv_isB | exact rv_notB | assumption)
local macro_rules | `(tactic| walk_at "ea") => `(tactic| first
  | exact ea_nil
  | (refine' ea_cons ?k1 ?k2; (case k1 => walk_at "ev"); (case k2 => walk_at "ea")))
local macro_rules | `(tactic| walk_at "eo") => `(tactic| first
  | exact eo_none
  | (refine' eo_some ?k1; (case k1 => walk_at "ev")))
local macro_rules | `(tactic| walk_at "et") => `(tactic| first
  | (refine' et_test ?k1; (case k1 => walk_at "ev"))
  | (refine' et_B ?k1; (case k1 => walk_at "ev"))
  | (refine' et_and ?k1 ?k2; (case k1 => walk_at "et"); (case k2 => (intro _; walk_at "et")))
  | (refine' et_or ?k1 ?k2; (case k1 => walk_at "et"); (case k2 => (intro _; walk_at "et")))
  | (refine' et_not ?k1; (case k1 => walk_at "et"))
  | assumption)
local macro_rules | `(tactic| walk_at "ev") => `(tactic| first
  | assumption
  | exact ev_cS
  | exact ev_c
  | exact ev_var rfl
  | (refine' ev_op ?k1 ?k2 ?k3; (case k1 => walk_at "ev"); (case k2 => walk_at "ev"); (case k3 => walk_at "rv"))
  | (refine' ev_un ?k1 ru_neg; (case k1 => walk_at "ev"))
  | (refine' ev_chain ?k1 ?k2 ?k3 ?k4 ?k5; (case k1 => walk_at "ev"); (case k2 => walk_at "ev"); (case k3 => walk_at "ev"); (case k4 => walk_at "rv"); (case k5 => (intro _; walk_at "rv")))
  | (refine' ev_slS ?k1 ?k2 ?k3 ?k4; (case k1 => walk_at "ev"); (case k2 => walk_at "eo"); (case k3 => walk_at "eo"); (case k4 => walk_at "sd"))
  | (refine' ev_lenS ?k1 ?k2; (case k1 => walk_at "ev"); (case k2 => walk_at "sd"))
  | (refine' ev_len' ?k1 ?k2; (case k1 => walk_at "ev"); (case k2 => walk_at "sd"))
  | (refine' ev_strip ?k1 ?k2 ?k3; (case k1 => walk_at "ev"); (case k2 => walk_at "ev"); (case k3 => walk_at "sd"))
  | (refine' ev_sum ?k1 ?k2; (case k1 => walk_at "ev"); (case k2 => walk_at "sd"))
  | (refine' ev_isi ?k1 ?k2 ?k3 ?k4; (case k1 => walk_at "ev"); (case k2 => walk_at "ev"); (case k3 => first | exact ty_int | exact ty_bl | exact ty_str | exact ty_list (by walk_at "sd")); (case k4 => first | exact kit_ty (r := true) (by decide +kernel) | exact kit_ty (r := false) (by decide +kernel)))
  | (refine' ev_andV ?k1 ?k2; (case k1 => walk_at "ev"); (case k2 => (intro _; walk_at "ev")))
  | (refine' ev_orV ?k1 ?k2; (case k1 => walk_at "ev"); (case k2 => (intro _; walk_at "ev")))
  | (refine' ev_notV ?k1; (case k1 => walk_at "ev"))
  | (refine' ev_call ?k1 ?k2; (case k1 => walk_at "ea"); (case k2 => walk_at "sv")))
local macro_rules | `(tactic| walk_at "el") => `(tactic| first
  | assumption
  | (refine' el_mapB ?k1 ?k2 ?k3 (fun _ => rfl) ?k5; (case k1 => walk_at "ev"); (case k2 => walk_at "sd"); (case k3 => walk_at "sd"); (case k5 => (intro _ _; walk_at "ev")))
  | (refine' el_mapI ?k1 ?k2 ?k3 (fun _ => rfl) ?k5; (case k1 => walk_at "ev"); (case k2 => walk_at "sd"); (case k3 => walk_at "sd"); (case k5 => (intro _ _; walk_at "ev")))
  | (refine' el_mapS ?k1 ?k2 ?k3 (fun _ => rfl) ?k5; (case k1 => walk_at "ev"); (case k2 => walk_at "sd"); (case k3 => walk_at "sd"); (case k5 => (intro _ _; walk_at "ev"))))
local macro_rules | `(tactic| walk_at "ev") => `(tactic| first
  | (refine' ev_all ?k1; (case k1 => walk_at "el"))
  | (refine' ev_any ?k1; (case k1 => walk_at "el"))
  | (refine' ev_sumN ?k1; (case k1 => walk_at "el"))
  | (refine' ev_join ?k1 ?k2 ?k3; (case k1 => exact ev_is ev_cS (congrArg tx codes_nil)); (case k2 => walk_at "el"); (case k3 => walk_at "sd")))

local macro_rules | `(tactic| walk_at "sv") => `(tactic| first | exact sv_stands (by walk_at "sd") (by walk_at "sd"))
/-! ### counting from the beginning on -/
/-- the counts in a dict, those not 0 -/
def TabF (kvs : List (Key × V)) (F : Nat → Nat) : Prop := ∀ j : Nat, valV kvs (.inl (j : Int)) = if F j = 0 then none else some (nI (F j))
theorem tabF_start : TabF [(.inl 0, .int 1)] (M3.bump (fun _ => 0) 0 1) := fun j => by
  unfold M3.bump
  cases j with
  | zero => rfl
  | succ j =>
    rw [if_neg (Nat.succ_ne_zero j), if_pos rfl]
    have hne : ¬ (Sum.inl (0 : Int) : Key) = .inl ((j + 1 : Nat) : Int) := fun e => by
      have := Sum.inl.inj e
      omega
    rw [valV_neg (p := ((Sum.inl (0 : Int) : Key), V.int 1)) hne]
    rfl
theorem tabF_get {kvs : List (Key × V)} {F : Nat → Nat} (h : TabF kvs F) (j : Nat) : (valV kvs (.inl (j : Int))).getD (.int 0) = nI (F j) := by
  rw [h j]
  split
  · rename_i e; rw [e]; rfl
  · rfl
theorem tabF_put {kvs : List (Key × V)} {F : Nat → Nat} (h : TabF kvs F) (j x : Nat) (hx : x ≠ 0) : TabF (putK kvs (.inl (j : Int)) (nI (F j + x))) (M3.bump F j x) := fun i => by
  rw [valV_put]
  unfold M3.bump
  by_cases e : i = j
  · subst e
    rw [if_pos rfl, if_pos rfl, if_neg (by omega)]
  · have : ¬ (Sum.inl (i : Int) : Key) = .inl (j : Int) := fun z => by have := Sum.inl.inj z; omega
    rw [if_neg this, if_neg e]
    exact h i
def stepF (t : Wd) (m x : Nat) (G : Nat → Nat) (a : Wd) : Nat → Nat := if pre a (t.drop m) = true then M3.bump G (m + a.length) x else G
theorem pot_zero (ws : List Wd) (t : Wd) : ∀ (k m : Nat), M3.pot ws t (fun _ => 0) m k = 0
  | 0, _ => rfl
  | k + 1, m => by simp only [M3.pot]; rw [pot_zero ws t k (m + 1)]; simp
section
variable {P : Program} {w : World} {K : PySem.W.Frag} {mg : Str → Option Value} {base : Heap} {H : Hp}
def spLawMany (K : PySem.W.Frag) : Sp := fun vs H Q _ => ∃ (p : Addr) (ws : List Wd) (t : Wd), vs = [.ref p, tx t] ∧ CodeAt K H p ws ∧ ws.length ≤ 63 ∧ t.length ≤ 1000 ∧ ∀ H', Ex H H' → Q (nI (ways ws t)) H'
theorem sv_law_many {p : Addr} {ws : List Wd} {t : Wd} (h1 : CodeAt K H p ws) (h2 : ws.length ≤ 63) (h3 : t.length ≤ 1000) : SpV (spLawMany K) [.ref p, tx t] H (nI (ways ws t)) := fun _ e _ q _ => ⟨p, ws, t, rfl, h1.ex e, h2, h3, q⟩
theorem ok__law_many (D : DefAt K mg "_law_many" s__law_many ["_law_code_here", "_law_text_here"]) (T : Blt mg) (C__law_stands : Cal P w K mg base 1 "_law_stands" spStands) : Cal P w K mg base 2 "_law_many" (spLawMany K) := by
  refine cal_of D sc__law_many (fun vs H Q E h => ?_) (fun f cdv A outer s H vs Q E hr h => ?_)
  · obtain ⟨p, ws, t, rfl, _⟩ := h; rfl
  · obtain ⟨p, ws, t, rfl, hc, hw, ht, q⟩ := h
    refine ⟨_, (pss_cons (ps_set (i := 2) sc__law_many.nd rfl (.inl rfl) (pe_disp (pps_cons pe_int pe_int pps_nil) (by rfl) (by rfl) (fun z => by cases z) (by decide)))
      (pss_cons (ps_for PassesOwn.never rfl (pi_range1 (by rfl) T.range (pa_cons (pe_callB call_len_str (by rfl) T.len (by decide +kernel) (pa_cons (pv 1) pa_nil)) pa_nil)) (pg_name (i := 3) sc__law_many.nd rfl (.inl rfl)) (pss_one (ps_if (pt_cmp (pc_din (hu_of hr) (pv 3) (pv 2))) (pss_one (ps_for PassesOwn.never rfl (pi_listK (K := K) rfl (pv 0)) (pg_name (i := 4) sc__law_many.nd rfl (.inl rfl)) (pss_one (ps_if (pt_val (pe_c C__law_stands hr (by decide) (by rfl) (pa_cons (pv 4) (pa_cons (pv 1) (pa_cons (pv 3) pa_nil))))) (pss_one (ps_dput (hu_of hr) (pv 2) (pe_op op_add (pv 3) (pe_callB call_len_str (by rfl) T.len (by decide +kernel) (pa_cons (pv 4) pa_nil))) (pe_op op_add (pe_dget2 (hu_of hr) (pv 2) (pe_op op_add (pv 3) (pe_callB call_len_str (by rfl) T.len (by decide +kernel) (pa_cons (pv 4) pa_nil))) pe_int ⟨by rfl, by rfl, by rfl, by rfl⟩) (pe_dget (hu_of hr) (pv 2) (pv 3) (fun _ _ => rfl))) rfl)) pss_nil)))) pss_nil)))
      (pss_one (ps_ret (pe_dget2 (hu_of hr) (pv 2) (pe_callB call_len_str (by rfl) T.len (by decide +kernel) (pa_cons (pv 1) pa_nil)) pe_int ⟨by rfl, by rfl, by rfl, by rfl⟩))))), ?_⟩
    have hb : ∀ a, a ∈ ws → a.length ≤ 1000 := fun a ha => (hc.ok a ha).2.2
    have hne : ∀ a ∈ ws, a ≠ [] := fun a ha => (hc.ok a ha).1
    refine q_asgD1 (k := .inl 0) (v := .int 1) ev_c ev_c fun d H1 nd e1 hd => ?_
    refine q_forR1 (n := (t.length : Int)) (ea_cons (ev_lenS (ev_var rfl) (by omega)) ea_nil) ⟨by omega, by omega⟩ (fun m σ' H' => ∃ s3 s4 kvs F, Ex H H' ∧ H' d = some (.dK kvs) ∧ TabF kvs F ∧ kvs.length ≤ 1 + m * 63 ∧ M3.pot ws t F m (t.length - m + 1) = ways ws t ∧ σ' = [some (.ref p), some (tx t), some (.ref d), s3, s4])
      (fun H2 e2 => ⟨_, _, _, _, e1.trans e2, e2 d _ hd, tabF_start, by simp, ?_, rfl⟩) (fun m σ' H' hm hP => ?_) (fun σ' H' hP => ?_)
    · rw [M3.pot_in ws t _ 0 1 _ 0 (by omega) (by omega), pot_zero]
      simp
    · obtain ⟨s3, s4, kvs, F, ex, hk, hF, hz, hp, rfl⟩ := hP
      have hmt : m < t.length := by omega
      refine s_when (b := (valV kvs (.inl (m : Int))).isSome) (et_B (ev_din (k := .inl (m : Int)) (ev_var rfl) (ev_var rfl) (.inl hk))) (fun hin H2 e2 => ?_) (fun hin H2 e2 => ?_)
      · have hFm : F m ≠ 0 := fun z => by rw [hF m, if_pos z] at hin; cases hin
        have ex2 := ex.trans e2
        refine s_forLn (a := p) (xs := ws.map tx) (ev_var rfl) (ex_l ex2 hc.sq) (fun i σ' H' => ∃ s4 kvs, Ex H H' ∧ H' d = some (.dK kvs) ∧ TabF kvs ((ws.take i).foldl (stepF t m (F m)) F) ∧ kvs.length ≤ 1 + m * 63 + i ∧ σ' = [some (.ref p), some (tx t), some (.ref d), some (nI m), s4])
          (fun H3 e3 => ⟨_, _, ex2.trans e3, (e2.trans e3) d _ hk, by simpa using hF, by omega, rfl⟩) (fun i σ' H' _ hP => by obtain ⟨_, _, e, _⟩ := hP; exact ex_l e hc.sq) (fun i x σ' H' hi hP => ?_) (fun σ' H' hP => ?_)
        · obtain ⟨s4, kvs, ex3, hk3, hF3, hz3, rfl⟩ := hP
          have hil : i < ws.length := by
            have := (List.getElem?_eq_some_iff.mp hi).1
            rwa [List.length_map] at this
          have hwi : ws[i]? = some ws[i] := List.getElem?_eq_getElem hil
          have hx : x = tx ws[i] := by
            rw [List.getElem?_map, hwi] at hi
            exact (Option.some.inj hi).symm
          subst hx
          have hbi := hb _ (List.getElem_mem hil)
          have htk : (ws.take (i + 1)).foldl (stepF t m (F m)) F = stepF t m (F m) ((ws.take i).foldl (stepF t m (F m)) F) ws[i] := by
            rw [List.take_succ, hwi, List.foldl_append]; rfl
          have hGm : ((ws.take i).foldl (stepF t m (F m)) F) m = F m := M3.spread_at t m F (ws.take i) (fun a ha => hne a (List.mem_of_mem_take ha)) F rfl
          rw [htk]
          generalize (ws.take i).foldl (stepF t m (F m)) F = G at *
          refine s_when (b := standsB ws[i] t m) (et_test (ev_call (vs := [tx ws[i], tx t, .int (m : Int)]) (by walk_at "ea") (sv_stands (by omega) (by omega)))) (fun hs H4 e4 => ?_) (fun hs H4 e4 => ?_)
          · have hs' : pre ws[i] (t.drop m) = true := hs
            have hk4 := e4 d _ hk3
            have eadd : (m : Int) + (ws[i].length : Int) = ((m + ws[i].length : Nat) : Int) := by omega
            have kadd : ∀ H', Ev (tOp (rI0 fun i j => .int (i + j)) (tVar 3) (tCB (fun xs H Q => ∃ x : Str, xs = [.str x] ∧ x.length ≤ sizeLine ∧ Q (.int x.length) H) (tCons (tVar 4) tNil))) [some (.ref p), some (tx t), some (.ref d), some (nI m), some (tx ws[i])] H' (kV (.inl ((m + ws[i].length : Nat) : Int))) := fun H' => by
              show Ev _ _ _ (.int ((m + ws[i].length : Nat) : Int))
              rw [← eadd]
              exact ev_op (ev_var rfl) (ev_lenS (ev_var rfl) (by omega)) rv_add
            refine s_dput (kvs := kvs) (k := .inl ((m + ws[i].length : Nat) : Int)) (v := nI (G (m + ws[i].length) + F m)) hk4 ?_ (ev_var rfl) (kadd _) (by omega) fun H5 e5 => ⟨_, _, Ex.mut ((ex3.trans e4).trans e5) nd, upd_same, ?_, ?_, rfl⟩
            · have e6 : nI (G (m + ws[i].length) + F m) = .int (((G (m + ws[i].length) : Nat) : Int) + ((F m : Nat) : Int)) := congrArg V.int (by omega)
              rw [e6]
              refine ev_op (ev_is (ev_dget2 (ev_var rfl) (kadd _) ev_c (.inl hk4)) (tabF_get hF3 _)) (ev_dget (k := .inl (m : Int)) (v := nI (F m)) (ev_var rfl) (ev_var rfl) (.inl hk4) ?_) rv_add
              rw [hF3 m, hGm, if_neg hFm]
            · unfold stepF
              rw [if_pos hs']
              exact tabF_put hF3 _ _ hFm
            · have := putK_len kvs (Sum.inl ((m + ws[i].length : Nat) : Int) : Key) (nI (G (m + ws[i].length) + F m))
              omega
          · have hs' : pre ws[i] (t.drop m) = false := hs
            refine ⟨_, kvs, ex3.trans e4, e4 d _ hk3, ?_, by omega, rfl⟩
            unfold stepF
            rw [if_neg (by rw [hs']; decide)]
            exact hF3
        · obtain ⟨s4, kvs, ex3, hk3, hF3, hz3, rfl⟩ := hP
          rw [List.length_map, List.take_length] at hF3
          refine ⟨_, _, kvs, _, ex3, hk3, hF3, by rw [List.length_map] at hz3; omega, ?_, rfl⟩
          have := M3.spread_step ws hne t m hmt F
          have e7 : t.length - (m + 1) + 1 = t.length - m := by omega
          rw [e7, ← hp]
          exact this
      · have hFm : F m = 0 := by
          rw [hF m] at hin
          by_cases z : F m = 0
          · exact z
          · rw [if_neg z] at hin; cases hin
        refine ⟨_, _, kvs, F, ex.trans e2, e2 d _ hk, hF, by omega, ?_, rfl⟩
        have := M3.spread_step ws hne t m hmt F
        rw [M3.spread_zero t m F hFm] at this
        have e7 : t.length - (m + 1) + 1 = t.length - m := by omega
        rw [e7, this, hp]
    · obtain ⟨s3, s4, kvs, F, ex, hk, hF, hz, hp, rfl⟩ := hP
      have e0 : (t.length : Int).toNat = t.length := by omega
      rw [e0] at hp
      refine s_ret (ev_is (ev_dget2 (k := .inl (t.length : Int)) (ev_var rfl) (ev_lenS (ev_var rfl) (by omega)) ev_c (.inl hk)) ?_) fun H2 e2 => q H2 (ex.trans e2)
      rw [tabF_get hF, ← hp]
      simp [M3.pot, M3.ways_nil]
end
end Tr

set_option Elab.async false
set_option linter.all false
set_option maxRecDepth 100000
set_option maxHeartbeats 4000000
namespace Tr
open PySem PySem.Spec PyProof.Rows L2 Evl
open M3 (wat joinW pre ways)
abbrev s__law_refused : Stmt := topS 28
abbrev N__law_refused : List Str := ["_law_code_here", "_law_text_here", "_law_number", "_law_due", "error", "_law_others"]
theorem sc__law_refused : FnScope N__law_refused ["_law_code_here", "_law_text_here", "_law_number", "_law_due"] (defScope s__law_refused) := ⟨rfl, rfl, rfl, by decide +kernel, rfl, by decide +kernel, by decide +kernel⟩
local macro_rules | `(tactic| walk_at "sd") => `(tactic| first | assumption | rfl | omega | decide | (solve_by_elim) | (refine Nat.le_trans (m := 1000) (by solve_by_elim) (by decide)))
local macro_rules | `(tactic| walk_at "rv") => `(tactic| first
  | exact rv_add | exact rv_sub | exact rv_lt | exact rv_le | exact rv_gt | exact rv_ge | exact rv_eqI | exact rv_eqS | exact rv_eqB | exact rv_neI | exact rv_neS | exact rv_neB
  | exact rv_mod (by walk_at "sd") | exact rv_fdiv (by first | assumption | exact ⟨by omega, by omega⟩) | exact rv_addS (by walk_at "sd") | exact rv_isB | exact rv_notB | assumption)
local macro_rules | `(tactic| walk_at "ea") => `(tactic| first
  | exact ea_nil
  | (refine' ea_cons ?k1 ?k2; (case k1 => walk_at "ev"); (case k2 => walk_at "ea")))
local macro_rules | `(tactic| walk_at "eo") => `(tactic| first
  | exact eo_none
  | (refine' eo_some ?k1; (case k1 => walk_at "ev")))
local macro_rules | `(tactic| walk_at "et") => `(tactic| first
  | (refine' et_test ?k1; (case k1 => walk_at "ev"))
  | (refine' et_B ?k1; (case k1 => walk_at "ev"))
  | (refine' et_and ?k1 ?k2; (case k1 => walk_at "et"); (case k2 => (intro _; walk_at "et")))
  | (refine' et_or ?k1 ?k2; (case k1 => walk_at "et"); (case k2 => (intro _; walk_at "et")))
  | (refine' et_not ?k1; (case k1 => walk_at "et"))
  | assumption)
local macro_rules | `(tactic| walk_at "ev") => `(tactic| first
  | assumption
  | exact ev_cS
  | exact ev_c
  | exact ev_var rfl
  | (refine' ev_op ?k1 ?k2 ?k3; (case k1 => walk_at "ev"); (case k2 => walk_at "ev"); (case k3 => walk_at "rv"))
  | (refine' ev_un ?k1 ru_neg; (case k1 => walk_at "ev"))
  | (refine' ev_chain ?k1 ?k2 ?k3 ?k4 ?k5; (case k1 => walk_at "ev"); (case k2 => walk_at "ev"); (case k3 => walk_at "ev"); (case k4 => walk_at "rv"); (case k5 => (intro _; walk_at "rv")))
  | (refine' ev_slS ?k1 ?k2 ?k3 ?k4; (case k1 => walk_at "ev"); (case k2 => walk_at "eo"); (case k3 => walk_at "eo"); (case k4 => walk_at "sd"))
  | (refine' ev_lenS ?k1 ?k2; (case k1 => walk_at "ev"); (case k2 => walk_at "sd"))
  | (refine' ev_len' ?k1 ?k2; (case k1 => walk_at "ev"); (case k2 => walk_at "sd"))
  | (refine' ev_strip ?k1 ?k2 ?k3; (case k1 => walk_at "ev"); (case k2 => walk_at "ev"); (case k3 => walk_at "sd"))
  | (refine' ev_sum ?k1 ?k2; (case k1 => walk_at "ev"); (case k2 => walk_at "sd"))
  | (refine' ev_isi ?k1 ?k2 ?k3 ?k4; (case k1 => walk_at "ev"); (case k2 => walk_at "ev"); (case k3 => first | exact ty_int | exact ty_bl | exact ty_str | exact ty_list (by walk_at "sd")); (case k4 => first | exact kit_ty (r := true) (by decide +kernel) | exact kit_ty (r := false) (by decide +kernel)))
  | (refine' ev_andV ?k1 ?k2; (case k1 => walk_at "ev"); (case k2 => (intro _; walk_at "ev")))
  | (refine' ev_orV ?k1 ?k2; (case k1 => walk_at "ev"); (case k2 => (intro _; walk_at "ev")))
  | (refine' ev_notV ?k1; (case k1 => walk_at "ev"))
  | (refine' ev_call ?k1 ?k2; (case k1 => walk_at "ea"); (case k2 => walk_at "sv")))
local macro_rules | `(tactic| walk_at "el") => `(tactic| first
  | assumption
  | (refine' el_mapB ?k1 ?k2 ?k3 (fun _ => rfl) ?k5; (case k1 => walk_at "ev"); (case k2 => walk_at "sd"); (case k3 => walk_at "sd"); (case k5 => (intro _ _; walk_at "ev")))
  | (refine' el_mapI ?k1 ?k2 ?k3 (fun _ => rfl) ?k5; (case k1 => walk_at "ev"); (case k2 => walk_at "sd"); (case k3 => walk_at "sd"); (case k5 => (intro _ _; walk_at "ev")))
  | (refine' el_mapS ?k1 ?k2 ?k3 (fun _ => rfl) ?k5; (case k1 => walk_at "ev"); (case k2 => walk_at "sd"); (case k3 => walk_at "sd"); (case k5 => (intro _ _; walk_at "ev"))))
local macro_rules | `(tactic| walk_at "ev") => `(tactic| first
  | (refine' ev_all ?k1; (case k1 => walk_at "el"))
  | (refine' ev_any ?k1; (case k1 => walk_at "el"))
  | (refine' ev_sumN ?k1; (case k1 => walk_at "el"))
  | (refine' ev_join ?k1 ?k2 ?k3; (case k1 => exact ev_is ev_cS (congrArg tx codes_nil)); (case k2 => walk_at "el"); (case k3 => walk_at "sd")))

/-- what an error of the class at D is, of the classes named -/
structure ErrAt (K : PySem.W.Frag) (D : Addr) (aWE : Addr) (cs : List (Addr × Bool)) : Prop where
  ex : ExcC K D
  cat : PySem.W.exmOne K (.ref D) (.ref aWE) = some true
  ve : PySem.W.kitOne K (.ref D) (.type "ValueError") = some true
  is : ∀ p ∈ cs, PySem.W.kitOne K (.ref D) (.ref p.1) = some p.2
def clsOf (aBC aBL aBP aBT aBN aNR : Addr) (b : Bool) : List (Addr × Bool) := [(aBC, false), (aBL, false), (aBP, false), (aBT, false), (aBN, b), (aNR, !b)]
section
variable {P : Program} {w : World} {K : PySem.W.Frag} {mg : Str → Option Value} {base : Heap} {H : Hp}
/-- told refuses, as is due -/
def spLawRefused (K : PySem.W.Frag) : Sp := fun vs H Q _ => ∃ (p q : Addr) (ws : List Wd) (t : Wd) (n : Int), vs = [.ref p, tx t, .int n, .ref q] ∧ CodeAt K H p ws ∧ t.length ≤ 5000 ∧ okW t ∧ ¬ (0 ≤ n ∧ n < ((ways ws t : Nat) : Int)) ∧
  SqL K H q (([!decide (ways ws t = 0), decide (ways ws t = 0)] : List Bool).map V.bl) ∧ ∀ H', Ex H H' → Q (.bl true) H'
theorem ok__law_refused {aWE aBC aBL aBP aBT aNR aBN : Addr} (D : DefAt K mg "_law_refused" s__law_refused ["_law_code_here", "_law_text_here", "_law_number", "_law_due"]) (T : Blt mg) (C_told : Cal P w K mg base 3 "told" (spTold K aNR aBN))
    (G_WordError : mg "WordError" = some (.ref aWE)) (G_BadCode : mg "BadCode" = some (.ref aBC)) (G_BadLengths : mg "BadLengths" = some (.ref aBL)) (G_BadPlaces : mg "BadPlaces" = some (.ref aBP)) (G_BadText : mg "BadText" = some (.ref aBT)) (G_NoReading : mg "NoReading" = some (.ref aNR)) (G_BadNumber : mg "BadNumber" = some (.ref aBN))
    (ER : ErrAt K aNR aWE (clsOf aBC aBL aBP aBT aBN aNR false)) (EN : ErrAt K aBN aWE (clsOf aBC aBL aBP aBT aBN aNR true)) :
    Cal P w K mg base 4 "_law_refused" (spLawRefused K) := by
  refine cal_of D sc__law_refused (fun vs H Q E h => ?_) (fun f cdv A outer s H vs Q E hr h => ?_)
  · obtain ⟨p, q, ws, t, n, rfl, _⟩ := h; rfl
  · obtain ⟨p, q, ws, t, n, rfl, hc, ht, ho, hn, hq, k⟩ := h
    refine ⟨_, (pss_cons (L2N.ps_try_as (i := 4) (Wout := fun _ _ _ _ => False) rfl rfl sc__law_refused.nd rfl rfl ⟨rfl, by decide, .inl G_WordError⟩ takes0N (fun W pn xe tk _ => (pss_one (ps_expr (pe_cT tk C_told hr (by decide) (by rfl) (pa_cons (pv 0) (pa_cons (pv 1) (pa_cons (pv 2) pa_nil))))))) (fun a oe cls d pn hz hf => (pss_cons (ps_set (i := 5) sc__law_refused.nd rfl (.inl rfl) (pe_lst (pa_cons (pe_callB (call_isA (K := K) rfl hz hf) (by rfl) T.isinstance (by decide +kernel) (pa_cons (pv 4) (pa_cons (pe_exc (mg := mg) rfl G_BadCode (by rfl)) pa_nil))) (pa_cons (pe_callB (call_isA (K := K) rfl hz hf) (by rfl) T.isinstance (by decide +kernel) (pa_cons (pv 4) (pa_cons (pe_exc (mg := mg) rfl G_BadLengths (by rfl)) pa_nil))) (pa_cons (pe_callB (call_isA (K := K) rfl hz hf) (by rfl) T.isinstance (by decide +kernel) (pa_cons (pv 4) (pa_cons (pe_exc (mg := mg) rfl G_BadPlaces (by rfl)) pa_nil))) pa_nil)))))
      (pss_cons (ps_if (PW.pt (pw_or (pt_val (pe_callB (cr_anyH (K := K) rfl (hotC_of hz hf)) (by rfl) T.any (by decide +kernel) (pa_cons (pv 5) pa_nil))) (pw_or (pt_val (pe_callB (call_isA (K := K) rfl hz hf) (by rfl) T.isinstance (by decide +kernel) (pa_cons (pv 4) (pa_cons (pe_exc (mg := mg) rfl G_BadText (by rfl)) pa_nil)))) (pw_or1 (pt_not (pt_val (pe_callB (call_isA (K := K) rfl hz hf) (by rfl) T.isinstance (by decide +kernel) (pa_cons (pv 4) (pa_cons (pe_bltn (v := .ty "ValueError") (by rfl) T.ValueError (by decide +kernel) rfl) pa_nil))))))))) (pss_one (ps_ret pe_bl)) pss_nil)
      (pss_one (ps_ret (pe_cmpR (op_eqDK (K := K) rfl hr.units) (pe_lst (pa_cons (pe_callB (call_isA (K := K) rfl hz hf) (by rfl) T.isinstance (by decide +kernel) (pa_cons (pv 4) (pa_cons (pe_exc (mg := mg) rfl G_BadNumber (by rfl)) pa_nil))) (pa_cons (pe_callB (call_isA (K := K) rfl hz hf) (by rfl) T.isinstance (by decide +kernel) (pa_cons (pv 4) (pa_cons (pe_exc (mg := mg) rfl G_NoReading (by rfl)) pa_nil))) pa_nil))) (pv 3) (nomark _))))))))
      (pss_one (ps_ret pe_bl))), ?_⟩
    obtain ⟨C, b, EC, hb, hsp⟩ : ∃ C b, ErrAt K C aWE (clsOf aBC aBL aBP aBT aBN aNR b) ∧ b = (!decide (ways ws t = 0)) ∧
        ∀ H1, Ex H H1 → ∀ (Q : VK) (E : XK), (∀ H2, Ex H1 H2 → E (.ref C) none H2) → spTold K aNR aBN [.ref p, tx t, .int n] H1 Q E := by
      by_cases h0 : ways ws t = 0
      · exact ⟨aNR, false, ER, by simp [h0], fun H1 e1 Q E hE => ⟨p, ws, t, n, rfl, hc.ex e1, ht, ho, fun _ => hE, fun z => absurd h0 z, fun z => absurd z hn⟩⟩
      · exact ⟨aBN, true, EN, by simp [h0], fun H1 e1 Q E hE => ⟨p, ws, t, n, rfl, hc.ex e1, ht, ho, fun z => absurd z h0, fun _ _ => hE, fun z => absurd z hn⟩⟩
    have gi : ∀ (x : Addr) (r : Bool) (σ : L2.St) (H' : Hp) (a : Addr), (x, r) ∈ clsOf aBC aBL aBP aBT aBN aNR b → σ[4]? = some (some (.ref a)) → Ev (tCB (rIsA K (.ref C) none a) (tCons (tVar 4) (tCons (tC (.ref x)) tNil))) σ H' (.bl r) := fun x r σ H' a hm h4 =>
      ev_isA EC.ex (ev_var h4) ev_c (fun u h => h) (EC.is _ hm)
    refine q_tryCall C (ea_cons (ev_var rfl) (ea_cons (ev_var rfl) (ea_cons (ev_var rfl) ea_nil))) EC.cat hsp fun H1 e1 a na => ?_
    refine q_asgL (el_lst (vs := ([false, false, false] : List Bool).map V.bl) (ea_cons (gi aBC false _ _ a (by simp [clsOf]) rfl) (ea_cons (gi aBL false _ _ a (by simp [clsOf]) rfl) (ea_cons (gi aBP false _ _ a (by simp [clsOf]) rfl) ea_nil))) (by simp)) fun o H2 no e2 ho => ?_
    refine q_skip (et_is (et_or (et_test (ev_anyA (bs := [false, false, false]) (ev_var rfl) (sq_of ho))) fun _ => et_or (et_test (gi aBT false _ _ a (by simp [clsOf]) rfl)) fun _ => et_not (et_test (ev_isA (b := true) EC.ex (ev_var rfl) ev_c (fun u h => h) EC.ve))) rfl) fun H3 e3 => ?_
    refine s_ret (ev_is (ev_eqQ enc_bl (eq_new (el_lst (vs := ([b, !b] : List Bool).map V.bl) (ea_cons (gi aBN b _ _ a (by simp [clsOf]) rfl) (ea_cons (gi aNR (!b) _ _ a (by simp [clsOf]) rfl) ea_nil)) (by simp))) (eq_at (ev_var rfl) (ex_l ((e1.trans e2).trans e3) hq)) (by simp) (by simp)) ?_) fun H4 e4 => k H4 (((e1.trans e2).trans e3).trans e4)
    rw [hb]; simp
end
end Tr

set_option Elab.async false
set_option linter.all false
set_option maxRecDepth 100000
set_option maxHeartbeats 4000000
/-! TrS: set(list of ints). -/
namespace Tr
open PySem PySem.Spec PyProof.Rows L2 Evl
/-! ### set(list of ints) -/
def rSetL (K : PySem.W.Frag) (w : World) : List V → Hp → VK → Prop := fun xs H Q => ∃ (a : Addr) (ns : List Int), xs = [.ref a] ∧ SqL K H a (ns.map V.int) ∧ ns.length + 1 < scanBound ∧
  ∀ (p : Addr) (S : Int → Bool) (c : Nat), (∀ k, S k = true ↔ k ∈ ns) → c ≤ ns.length → H p = none → Q (.ref p) (upd H p (SetO w p S c))
abbrev setO0 (w : World) : Obj := { cls := .type "set", dict := none, data := .set #[] 0 (.fresh 0 0 (!w.params.followText "set-order")) }
set_option maxHeartbeats 6400000 in
theorem call_set_listI {P : Program} {w : World} {A : Around} {E Q : Value → Shared → Prop} {s : Shared} {l : Addr} {its : Array Value} (ns : List Int) (hh : A.handled = none) (hl : s.heap.IsList l its) (hit : IntsAre its.toList ns) (hb : ns.length + 1 < scanBound)
    (h : ∀ (h' : Heap) (tk c : Nat), SetR w h' s.heap.objs.size (fun j => decide (j ∈ ns)) c → c ≤ ns.length → (∀ b o, s.heap.get? b = some o → h'.get? b = some o) → Q (.ref s.heap.objs.size) { s with heap := h', toks := tk }) :
    wpAny (model P w) A (call (.type "set") [.ref l]) Q E s := by
  have hn : its.size = ns.length := by have := hit.length; rwa [Array.length_toList] at this
  obtain ⟨c0, tl0, m0⟩ := PySem.F.called_set.mro
  have made := PySem.F.called_set.made
  have sub0 := PySem.F.called_set.sub
  refine wpAny_call (codeAny_of_tree (?_ : wpAny _ _ (callAny (.type "set") _) _ _ _))
  refine wpAny_pure ⟨Code.quiet_builtin _ (by decide +kernel), codeAny_builtin PySem.F.entry_type_call ?_⟩
  rw [Around.under_plain (weight_type_call_type "set" [.ref l] []) rfl]
  have t1 := PySem.F.called_set.notType
  have t2 := PySem.F.called_set.canCreate
  have t3 := PySem.F.typeCall_set_1 (.ref l)
  repeat (any_goals (first | assumption | wp_step))
  refine codeAny_mono (code_set_led1 (w := w) (.ref l) (E := E) (Q₁ := fun ob s1 => ob = .ref s.heap.objs.size ∧ s1 = { s with heap := s.heap.push (setO0 w) }) ⟨rfl, rfl⟩) fun r s1 hr => ?_
  cases r with
  | error e => exact hr
  | ok fl =>
  cases fl with
  | next => exact hr.elim
  | brk => exact hr.elim
  | cont => exact hr.elim
  | ret ob =>
    obtain ⟨rfl, rfl⟩ := hr
    have gS : (s.heap.push (setO0 w)).get? s.heap.objs.size = some (setO0 w) := Heap.get?_push_size _ rfl
    have gT : Shared.TypeIs { s with heap := s.heap.push (setO0 w) } (.ref s.heap.objs.size) "set" := ⟨_, gS, rfl⟩
    have i1 := PySem.F.called_set.init.lookup
    have i2 := PySem.F.called_set.init.bind (.ref s.heap.objs.size)
    repeat (any_goals (first | assumption | wp_step))
    refine codeAny_mono (codeAny_call_builtin (R := wants (fun r s2 => r = .none ∧ ∃ h' tk c, s2 = { s with heap := h', toks := tk } ∧ SetR w h' s.heap.objs.size (fun j => decide (j ∈ ns)) c ∧ c ≤ ns.length ∧ ∀ b o, s.heap.get? b = some o → h'.get? b = some o) E)
      PySem.F.called_set.init.plain PySem.F.entry_set_init (check_set_init_1 gT ?_)) fun r2 s2 hr2 => ?_
    · obtain ⟨⟨lc, ld, lx, ls⟩, hol, hcl, nl, hdl⟩ := hl
      dsimp only at hcl hdl
      subst hcl hdl
      have hol2 : (s.heap.push (setO0 w)).get? l = some { cls := .type "list", dict := ld, data := .seq its nl, slots := ls } := Heap.get?_push_of_some _ hol
      have s1 := PySem.F.sub_list_set
      have s2 := PySem.F.sub_list_frozenset
      have s3 : (Value.type "list" == Value.type "dict") = false := by decide
      have hl1 : (s.heap.push (setO0 w)).IsList l its := ⟨_, hol2, rfl, nl, rfl⟩
      unfold Builtin.«set.__init__» noKeywords Builtin.Frozenset.updateFrom
      generalize hPI : pyIter = PI
      wp_walk
      subst hPI
      refine wpAny_pyIter_list hl1 (wpAny_bind (wpAny_runValue ?_))
      have lt0 : l < s.heap.objs.size := Heap.lt_size hol
      have hh3 : A.in1.in1.in1.handled = none := by simp [hh]
      have sz1 : (s.heap.push (setO0 w)).objs.size = s.heap.objs.size + 1 := Heap.size_push ..
      have ne1 : l ≠ (s.heap.push (setO0 w)).objs.size := by rw [sz1]; exact Nat.ne_of_lt (Nat.lt_succ_of_lt lt0)
      have ne2 : s.heap.objs.size ∉ [(s.heap.push (setO0 w)).objs.size, l] := by
        rw [sz1]
        intro hm
        rcases List.mem_cons.mp hm with h1 | h1
        · exact absurd h1 (Nat.ne_of_lt (Nat.lt_succ_self _))
        · rcases List.mem_cons.mp h1 with h1 | h1
          · exact absurd h1 (Nat.ne_of_gt lt0)
          · cases h1
      have val : ∀ (i : Nat) (v : Value), its[i]? = some v → ∃ k t, ns[i]? = some k ∧ v = .int k t := fun i v hv => by
        have hi : i < ns.length := by rw [← hn]; exact (Array.getElem?_eq_some_iff.mp hv).1
        obtain ⟨t, e⟩ := PyProof.Rows.IntsAre.int_at hit i v (by rw [Array.getElem?_toList]; exact hv)
        exact ⟨ns[i], t, List.getElem?_eq_getElem hi, by rw [e]; simp [List.getD, hi]⟩
      refine set_update_ints ((Walks.list hh3 _ l ne1 its).toS) s.heap.objs.size ne2 ns hn hb val (its.size - 0) 0 _ (by omega) (Nat.zero_le _) ⟨⟨_, Heap.get?_push_size _ rfl, rfl, rfl⟩, hl1.push _⟩ ⟨0, Nat.le_refl 0, setR_new_at (Heap.get?_push_of_some _ gS)⟩ fun s3 c hm hc hS => ?_
      obtain ⟨h3, g3, d3, tk3, os3⟩ := s3
      have q1 : g3 = s.gens := hm.gens
      have q2 : d3 = s.drawn := hm.drawn
      have q3 : os3 = s.os := hm.os
      subst q1 q2 q3
      refine (wpAny_pure ?_ : wpAny _ _ _ _ _ _)
      show wpAny _ _ (ret Value.none) _ _ _
      rw [hn] at hc
      refine wpAny_pure ⟨rfl, h3, tk3, c, rfl, hS, hc, fun b o e => hm.heap b o (fun hb2 => ?_) (Heap.get?_push_of_some _ (Heap.get?_push_of_some _ e))⟩
      have b0 : b < s.heap.objs.size := Heap.lt_size e
      rcases List.mem_cons.mp hb2 with h1 | h1
      · exact absurd h1 (Nat.ne_of_lt b0)
      · rcases List.mem_cons.mp h1 with h1 | h1
        · rw [sz1] at h1; exact absurd h1 (Nat.ne_of_lt (Nat.lt_succ_of_lt b0))
        · cases h1
    · cases r2 with
      | error e2 => exact hr2
      | ok fl2 =>
      cases fl2 with
      | next => exact hr2.elim
      | brk => exact hr2.elim
      | cont => exact hr2.elim
      | ret r =>
        obtain ⟨rfl, h', tk, c, rfl, hS, hc, hk⟩ := hr2
        repeat (any_goals (first | assumption | wp_step))
        exact h _ _ _ hS hc hk
theorem cr_setLK {X : Cx} {K : PySem.W.Frag} {w : World} (hK : X.K = K) (hw : X.w = w) (hc : X.calm = true) : CallR X (.type "set") (rSetL K w) := by
  subst hK hw
  intro pins s σ H xs us Q I r h
  obtain ⟨a, ns, rfl, hS, hb, q⟩ := h
  obtain ⟨u, rfl, ru⟩ := vals1 r
  cases ru
  obtain ⟨its, rv, hl, hz⟩ := I.list hS
  refine call_set_listI ns (I.ok.hd hc) hl.isList (by simpa using Vals.ints rv) hb fun h' tk c hR hcl hk => ?_
  have nH : H s.heap.objs.size = none := I.fresh
  refine ⟨.ref s.heap.objs.size, _, I.laid (t' := tk) (a := s.heap.objs.size) (o := SetO X.w s.heap.objs.size (fun j => decide (j ∈ ns)) c) hk (Nat.le_refl _) (setO_new hR), rfl, q _ _ _ (fun k => by simp) hcl nH⟩
end Tr

set_option Elab.async false
set_option linter.all false
set_option maxRecDepth 100000
set_option maxHeartbeats 4000000
namespace Tr
open PySem PySem.Spec PyProof.Rows L2 Evl
open M3 (wat joinW pre ways nthW num lexGe)
abbrev s_law : Stmt := topS 29
abbrev N_law : List Str := ["_law_script", "_law_code_here", "_law_text_here", "_law_many_here", "_law_found", "_law_number", "_law_places", "_law_at", "_law_place"]
theorem sc_law : FnScope N_law ["_law_script"] (defScope s_law) := ⟨rfl, rfl, rfl, by decide +kernel, rfl, by decide +kernel, by decide +kernel⟩
local macro_rules | `(tactic| walk_at "sd") => `(tactic| first | assumption | rfl | omega | decide | (solve_by_elim) | (refine Nat.le_trans (m := 1000) (by solve_by_elim) (by decide)))
local macro_rules | `(tactic| walk_at "rv") => `(tactic| first
  | exact rv_add | exact rv_sub | exact rv_lt | exact rv_le | exact rv_gt | exact rv_ge | exact rv_eqI | exact rv_eqS | exact rv_eqB | exact rv_neI | exact rv_neS | exact rv_neB
  | exact rv_mod (by walk_at "sd") | exact rv_fdiv (by first | assumption | exact ⟨by omega, by omega⟩) | exact rv_addS (by walk_at "sd") | exact rv_isB | exact rv_notB | assumption)
local macro_rules | `(tactic| walk_at "ea") => `(tactic| first
  | exact ea_nil
  | (refine' ea_cons ?k1 ?k2; (case k1 => walk_at "ev"); (case k2 => walk_at "ea")))
local macro_rules | `(tactic| walk_at "eo") => `(tactic| first
  | exact eo_none
  | (refine' eo_some ?k1; (case k1 => walk_at "ev")))
local macro_rules | `(tactic| walk_at "et") => `(tactic| first
  | (refine' et_test ?k1; (case k1 => walk_at "ev"))
  | (refine' et_B ?k1; (case k1 => walk_at "ev"))
  | (refine' et_and ?k1 ?k2; (case k1 => walk_at "et"); (case k2 => (intro _; walk_at "et")))
  | (refine' et_or ?k1 ?k2; (case k1 => walk_at "et"); (case k2 => (intro _; walk_at "et")))
  | (refine' et_not ?k1; (case k1 => walk_at "et"))
  | assumption)
local macro_rules | `(tactic| walk_at "ev") => `(tactic| first
  | assumption
  | exact ev_cS
  | exact ev_c
  | exact ev_var rfl
  | (refine' ev_op ?k1 ?k2 ?k3; (case k1 => walk_at "ev"); (case k2 => walk_at "ev"); (case k3 => walk_at "rv"))
  | (refine' ev_un ?k1 ru_neg; (case k1 => walk_at "ev"))
  | (refine' ev_chain ?k1 ?k2 ?k3 ?k4 ?k5; (case k1 => walk_at "ev"); (case k2 => walk_at "ev"); (case k3 => walk_at "ev"); (case k4 => walk_at "rv"); (case k5 => (intro _; walk_at "rv")))
  | (refine' ev_slS ?k1 ?k2 ?k3 ?k4; (case k1 => walk_at "ev"); (case k2 => walk_at "eo"); (case k3 => walk_at "eo"); (case k4 => walk_at "sd"))
  | (refine' ev_lenS ?k1 ?k2; (case k1 => walk_at "ev"); (case k2 => walk_at "sd"))
  | (refine' ev_len' ?k1 ?k2; (case k1 => walk_at "ev"); (case k2 => walk_at "sd"))
  | (refine' ev_strip ?k1 ?k2 ?k3; (case k1 => walk_at "ev"); (case k2 => walk_at "ev"); (case k3 => walk_at "sd"))
  | (refine' ev_sum ?k1 ?k2; (case k1 => walk_at "ev"); (case k2 => walk_at "sd"))
  | (refine' ev_isi ?k1 ?k2 ?k3 ?k4; (case k1 => walk_at "ev"); (case k2 => walk_at "ev"); (case k3 => first | exact ty_int | exact ty_bl | exact ty_str | exact ty_list (by walk_at "sd")); (case k4 => first | exact kit_ty (r := true) (by decide +kernel) | exact kit_ty (r := false) (by decide +kernel)))
  | (refine' ev_andV ?k1 ?k2; (case k1 => walk_at "ev"); (case k2 => (intro _; walk_at "ev")))
  | (refine' ev_orV ?k1 ?k2; (case k1 => walk_at "ev"); (case k2 => (intro _; walk_at "ev")))
  | (refine' ev_notV ?k1; (case k1 => walk_at "ev"))
  | (refine' ev_call ?k1 ?k2; (case k1 => walk_at "ea"); (case k2 => walk_at "sv")))
local macro_rules | `(tactic| walk_at "el") => `(tactic| first
  | assumption
  | (refine' el_mapB ?k1 ?k2 ?k3 (fun _ => rfl) ?k5; (case k1 => walk_at "ev"); (case k2 => walk_at "sd"); (case k3 => walk_at "sd"); (case k5 => (intro _ _; walk_at "ev")))
  | (refine' el_mapI ?k1 ?k2 ?k3 (fun _ => rfl) ?k5; (case k1 => walk_at "ev"); (case k2 => walk_at "sd"); (case k3 => walk_at "sd"); (case k5 => (intro _ _; walk_at "ev")))
  | (refine' el_mapS ?k1 ?k2 ?k3 (fun _ => rfl) ?k5; (case k1 => walk_at "ev"); (case k2 => walk_at "sd"); (case k3 => walk_at "sd"); (case k5 => (intro _ _; walk_at "ev"))))
local macro_rules | `(tactic| walk_at "ev") => `(tactic| first
  | (refine' ev_all ?k1; (case k1 => walk_at "el"))
  | (refine' ev_any ?k1; (case k1 => walk_at "el"))
  | (refine' ev_sumN ?k1; (case k1 => walk_at "el"))
  | (refine' ev_join ?k1 ?k2 ?k3; (case k1 => exact ev_is ev_cS (congrArg tx codes_nil)); (case k2 => walk_at "el"); (case k3 => walk_at "sd")))

/-! ### lists of ints in order -/
theorem lexAt_shift (e r : Nat → Bool) (z : Bool) : ∀ (k i : Nat), Ob.lexAt (fun j => e (j + 1)) (fun j => r (j + 1)) z i k = Ob.lexAt e r z (i + 1) k
  | 0, _ => rfl
  | k + 1, i => by
    rw [Ob.lexAt_succ, Ob.lexAt_succ, lexAt_shift e r z k (i + 1)]
theorem geI_lex : ∀ xs ys : List Nat, geI (List.map (fun n : Nat => (n : Int)) xs) (List.map (fun n : Nat => (n : Int)) ys) = lexGe xs ys
  | xs, [] => by
    unfold geI
    rw [List.map_nil, List.length_nil, Nat.min_zero, Ob.lexAt_zero]
    cases xs <;> simp [lexGe]
  | [], y :: ys => by
    unfold geI
    rw [List.map_nil, List.length_nil, Nat.zero_min, Ob.lexAt_zero]
    simp [lexGe]
  | x :: xs, y :: ys => by
    have ih := geI_lex xs ys
    unfold geI at ih ⊢
    rw [List.map_cons, List.map_cons, List.length_cons, List.length_cons, Nat.succ_min_succ, Ob.lexAt_succ, ← lexAt_shift]
    simp only [List.getD_cons_zero, List.getD_cons_succ]
    unfold lexGe
    have e1 : decide ((List.map (fun n : Nat => (n : Int)) xs).length + 1 ≥ (List.map (fun n : Nat => (n : Int)) ys).length + 1) = decide ((List.map (fun n : Nat => (n : Int)) xs).length ≥ (List.map (fun n : Nat => (n : Int)) ys).length) := by
      by_cases h : (List.map (fun n : Nat => (n : Int)) xs).length ≥ (List.map (fun n : Nat => (n : Int)) ys).length
      · rw [decide_eq_true h, decide_eq_true (by omega)]
      · rw [decide_eq_false h, decide_eq_false (by omega)]
    rw [e1, ih]
    by_cases h : x = y
    · subst h; simp
    · have h2 : ¬ ((x : Int) = (y : Int)) := by omega
      rw [if_neg (by simp [h2]), if_neg h]
      by_cases h3 : y ≤ x
      · rw [decide_eq_true h3, decide_eq_true (by omega)]
      · rw [decide_eq_false h3, decide_eq_false (by omega)]
theorem map_nI (xs : List Nat) : xs.map nI = (List.map (fun n : Nat => (n : Int)) xs).map V.int := by rw [List.map_map]; rfl
/-! ### a new list of ints, not told more than by a property -/
def EvS (te : TE) (σ : L2.St) (H : Hp) (P : List Int → Prop) : Prop := ∀ H1, Ex H H1 → ∀ Q : VK, (∀ ks p H2, P ks → H1 p = none → Ex H1 H2 → H2 p = some (.lst (ks.map V.int)) → Q (.ref p) H2) → te σ H1 Q
section
variable {K : PySem.W.Frag} {σ : L2.St} {H : Hp} {ta tb te tl : TE} {D : Ends} {tu tz : TS}
theorem es_sortedSet {w : World} {ns : List Int} (h : EvL tl σ H (ns.map V.int)) (hn : ns.length < 60) : EvS (tCB (rSortedSet w) (tCons (tCB (rSetL K w) (tCons tl tNil)) tNil)) σ H (fun ks => ks.Pairwise (· < ·) ∧ (∀ k : Int, k ∈ ks ↔ k ∈ ns) ∧ ks.length ≤ ns.length) := fun H1 e Q q =>
  h H1 e _ fun p H2 np e2 h2 => ⟨p, ns, rfl, sq_of h2, Nat.lt_of_le_of_lt (m := 60) (by omega) (by decide), fun p3 S c hS hc np3 => ⟨p3, S, c, rfl, upd_same, by omega, fun ks p4 hk hm hl np4 => by
    have n4 : H2 p4 = none := by
      by_cases e4 : p4 = p3
      · subst e4; rw [upd_same] at np4; cases np4
      · rw [upd_ne e4] at np4; exact np4
    exact q ks p4 _ ⟨hk, fun k => (hm k).trans (hS k), by omega⟩ (fresh_back e2 n4) ((e2.trans (Ex.new np3)).trans (Ex.new np4)) upd_same⟩⟩
theorem q_forS {P : List Int → Prop} {j : Nat} (h : EvS tl σ H P) (Pv : List Int → Addr → Nat → L2.St → Hp → Prop) (h0 : ∀ ks p H1, P ks → H p = none → Ex H H1 → H1 p = some (.lst (ks.map V.int)) → Pv ks p 0 σ H1)
    (hl : ∀ ks p i σ' H', Pv ks p i σ' H' → SqL K H' p (ks.map V.int))
    (hs : ∀ ks p i k σ' H', P ks → ks[i]? = some k → Pv ks p i σ' H' → tu { D with nx := Pv ks p (i + 1), ct := Pv ks p (i + 1), bk := tz D } (σ'.set j (some (.int k))) H') (hd : ∀ ks p σ' H', P ks → Pv ks p ks.length σ' H' → tz D σ' H') :
    tSeq (tFor (iList K tl) (gName j) tu) tz D σ H :=
  h H (Ex.refl H) _ fun ks p H1 hP hp e h1 => ⟨p, rfl, ⟨ks.map V.int, sq_of h1⟩, for_list (D := { D with nx := tz D }) (Pv ks p) (h0 ks p H1 hP hp e h1) (fun i σ' H' _ => hl ks p i σ' H') (fun i x σ' H' hx hv => by
    rw [List.getElem?_map] at hx
    cases hk : ks[i]? with
    | none => rw [hk] at hx; cases hx
    | some k =>
      rw [hk] at hx
      have ex : V.int k = x := Option.some.inj hx
      subst ex
      exact hs ks p i k σ' H' hP hk hv) (fun σ' H' hv => by
    rw [List.length_map] at hv
    exact hd ks p σ' H' hP hv)⟩
/-- f(x, y, z, [..]) -/
theorem ev_call4L {sp : Sp} {t1 t2 t3 t4 : TE} {x1 x2 x3 v : V} {xs : List V} (h1 : Ev t1 σ H x1) (h2 : Ev t2 σ H x2) (h3 : Ev t3 σ H x3) (h4 : EvL t4 σ H xs) (hs : ∀ q H1, Ex H H1 → H1 q = some (.lst xs) → SpV sp [x1, x2, x3, .ref q] H1 v) :
    Ev (tCall sp [] E0 (tCons t1 (tCons t2 (tCons t3 (tCons t4 tNil))))) σ H v := fun H1 e1 Q k =>
  h1 H1 e1 _ fun H2 e2 => h2 H2 (e1.trans e2) _ fun H3 e3 => h3 H3 ((e1.trans e2).trans e3) _ fun H4 e4 => h4 H4 (((e1.trans e2).trans e3).trans e4) _ fun q H5 _ e5 h5 =>
    hs q H5 ((((e1.trans e2).trans e3).trans e4).trans e5) h5 H5 (Ex.refl _) Q (fun H6 e6 => k H6 ((((e2.trans e3).trans e4).trans e5).trans e6)) E0
end
theorem sl_told {K : PySem.W.Frag} {H : Hp} {aNR aBN p : Addr} {ws : List Wd} {t : Wd} {n : Int} (h : CodeAt K H p ws) (ht : t.length ≤ 5000) (ho : okW t) (hn : 0 ≤ n ∧ n < ((ways ws t : Nat) : Int)) : SpL (spTold K aNR aBN) [.ref p, tx t, .int n] H ((nthW ws t n.toNat).map nI) := fun _ e _ q _ =>
  ⟨p, ws, t, n, rfl, h.ex e, ht, ho, fun z => absurd hn.2 (by omega), fun _ z => absurd hn z, fun _ => q⟩
theorem sv_law_refused {K : PySem.W.Frag} {H : Hp} {p q : Addr} {ws : List Wd} {t : Wd} {n : Int} (h : CodeAt K H p ws) (ht : t.length ≤ 5000) (ho : okW t) (hn : ¬ (0 ≤ n ∧ n < ((ways ws t : Nat) : Int))) (hq : SqL K H q (([!decide (ways ws t = 0), decide (ways ws t = 0)] : List Bool).map V.bl)) :
    SpV (spLawRefused K) [.ref p, tx t, .int n, .ref q] H (.bl true) := fun _ e _ k _ => ⟨p, q, ws, t, n, rfl, h.ex e, ht, ho, hn, ex_l e hq, k⟩
section
variable {P : Program} {w : World} {K : PySem.W.Frag} {mg : Str → Option Value} {base : Heap} {H : Hp}
/-- the law: True, whatever the script -/
def spLaw (K : PySem.W.Frag) : Sp := fun vs H Q _ => ∃ (s : Addr) (ns : List Int), vs = [.ref s] ∧ SqL K H s (ns.map V.int) ∧ ns.length ≤ 63 ∧ ∀ H', Ex H H' → Q (.bl true) H'
theorem ok_law {aNR aBN : Addr} {f : Addr} {fd : FuncData} (F : Fun K "law" "law" s_law f fd) (T : Blt mg) (C__law_code : Cal P w K mg base 1 "_law_code" (spLawCode K)) (C__law_text : Cal P w K mg base 1 "_law_text" (spLawText K)) (C_how_many : Cal P w K mg base 3 "how_many" (spHowMany K))
    (C__law_many : Cal P w K mg base 2 "_law_many" (spLawMany K)) (C__law_refused : Cal P w K mg base 4 "_law_refused" (spLawRefused K)) (C_told : Cal P w K mg base 3 "told" (spTold K aNR aBN)) (C__law_numbers : Cal P w K mg base 1 "_law_numbers" (spLawNumbers K))
    (C_number_of : Cal P w K mg base 3 "number_of" (spNumberOf K)) : FnOk P w K mg base (L2N.CX P w) 5 f fd ["_law_script"] (spLaw K) := by
  refine fnok_of F sc_law (fun vs H Q E h => ?_) (fun f cdv A outer s H vs Q E hr h => ?_)
  · obtain ⟨p, ns, rfl, _⟩ := h; rfl
  · obtain ⟨s2, ns, rfl, hs, hn, k⟩ := h
    refine ⟨_, (pss_cons (ps_set (i := 1) sc_law.nd rfl (.inr rfl) (pe_c C__law_code hr (by decide) (by rfl) (pa_cons (pv 0) pa_nil)))
      (pss_cons (ps_set (i := 2) sc_law.nd rfl (.inl rfl) (pe_c C__law_text hr (by decide) (by rfl) (pa_cons (pv 1) (pa_cons (pv 0) pa_nil))))
      (pss_cons (ps_set (i := 3) sc_law.nd rfl (.inl rfl) (pe_c C_how_many hr (by decide) (by rfl) (pa_cons (pv 1) (pa_cons (pv 2) pa_nil))))
      (pss_cons (ps_if (PW.pt (pw_or (pt_val (pe_callB (call_isiK' (K := K) rfl) (by rfl) T.isinstance (by decide +kernel) (pa_cons (pv 3) (pa_cons (pe_bltn (v := .ty "bool") (by rfl) T.bool (by decide +kernel) rfl) pa_nil)))) (pw_or (pt_not (pt_val (pe_callB (call_isiK' (K := K) rfl) (by rfl) T.isinstance (by decide +kernel) (pa_cons (pv 3) (pa_cons (pe_bltn (v := .ty "int") (by rfl) T.int (by decide +kernel) rfl) pa_nil))))) (pw_or1 (pt_cmpR op_ne (pv 3) (pe_c C__law_many hr (by decide) (by rfl) (pa_cons (pv 1) (pa_cons (pv 2) pa_nil))) (nomark _)))))) (pss_one (ps_ret pe_bl)) pss_nil)
      (pss_cons (ps_if (pt_cmpR op_eq (pv 3) pe_int (nomark _)) (pss_one (ps_ret (pe_c C__law_refused hr (by decide) (by rfl) (pa_cons (pv 1) (pa_cons (pv 2) (pa_cons pe_int (pa_cons (pe_lst (pa_cons pe_bl (pa_cons pe_bl pa_nil))) pa_nil))))))) pss_nil)
      (pss_cons (ps_if (PW.pt (pw_or (pt_not (pt_val (pe_c C__law_refused hr (by decide) (by rfl) (pa_cons (pv 1) (pa_cons (pv 2) (pa_cons (pv 3) (pa_cons (pe_lst (pa_cons pe_bl (pa_cons pe_bl pa_nil))) pa_nil))))))) (pw_or1 (pt_not (pt_val (pe_c C__law_refused hr (by decide) (by rfl) (pa_cons (pv 1) (pa_cons (pv 2) (pa_cons (pe_un un_neg pe_int) (pa_cons (pe_lst (pa_cons pe_bl (pa_cons pe_bl pa_nil))) pa_nil)))))))))) (pss_one (ps_ret pe_bl)) pss_nil)
      (pss_cons (ps_set (i := 4) sc_law.nd rfl (.inr rfl) (pe_lst pa_nil))
      (pss_cons (ps_for PassesOwn.never rfl (pi_listK (K := K) rfl (pe_callB (cr_sortedSet rfl) (by rfl) T.sorted (by decide +kernel) (pa_cons (pe_callTy (cr_setLK (K := K) (w := w) rfl rfl rfl) (by rfl) T.set (by decide +kernel) (pa_cons (pe_lst (pa_cons pe_int (pa_cons (pe_op op_sub (pv 3) pe_int) (pa_cons (pe_op op_mod (pe_callB (cr_sumK (K := K) rfl rfl) (by rfl) T.sum (by decide +kernel) (pa_cons (pv 0) pa_nil)) (pv 3)) pa_nil)))) pa_nil)) pa_nil))) (pg_name (i := 5) sc_law.nd rfl (.inl rfl)) (pss_cons (ps_set (i := 6) sc_law.nd rfl (.inl rfl) (pe_c C_told hr (by decide) (by rfl) (pa_cons (pv 1) (pa_cons (pv 2) (pa_cons (pv 5) pa_nil)))))
      (pss_cons (ps_if (PW.pt (pw_or (pt_not (pt_val (pe_c C__law_numbers hr (by decide) (by rfl) (pa_cons (pv 6) pa_nil)))) (pw_or1 (pt_not (pt_val (pe_callB (cr_allK (K := K) rfl rfl) (by rfl) T.all (by decide +kernel) (pa_cons (pe_lc (own := [("_law_place", 8)]) rfl sc_law.nd (pi_listK (K := K) rfl (pv 6)) (blkOk_by (own := [("_law_place", 8)]) (N := N_law) (sc := defScope s_law) (by decide +kernel)) (fun _ _ _ _ _ => (pg_name (i := 8) sc_law.nd rfl (.inl rfl))) (fun _ _ _ _ _ => pts_nil) (fun _ _ _ _ _ => (pe_chain op_le op_lt pe_int (pv 8) (pe_callB (call_len_seqK (K := K) rfl) (by rfl) T.len (by decide +kernel) (pa_cons (pv 1) pa_nil))))) pa_nil))))))) (pss_one (ps_ret pe_bl)) pss_nil)
      (pss_cons (ps_if (PW.pt (pw_or (pt_cmpR op_ne (pe_joinK (K := K) rfl pe_str (pe_lc (own := [("_law_place", 8)]) rfl sc_law.nd (pi_listK (K := K) rfl (pv 6)) (blkOk_by (own := [("_law_place", 8)]) (N := N_law) (sc := defScope s_law) (by decide +kernel)) (fun _ _ _ _ _ => (pg_name (i := 8) sc_law.nd rfl (.inl rfl))) (fun _ _ _ _ _ => pts_nil) (fun _ _ _ _ _ => (pe_ix (ix_listK (K := K) rfl) (pv 1) (pv 8) (fun _ _ => rfl))))) (pv 2) (nomark _)) (pw_or1 (pt_cmpR op_ne (pe_c C_number_of hr (by decide) (by rfl) (pa_cons (pv 1) (pa_cons (pv 2) (pa_cons (pv 6) pa_nil)))) (pv 5) (nomark _))))) (pss_one (ps_ret pe_bl)) pss_nil)
      (pss_cons (ps_expr (pe_bm PySem.F.plainAttrs_list PySem.F.slot_list_append PySem.F.type_list_append mt_append (pv 4) (pa_cons (pe_callTy (call_list_ofK (K := K) rfl) (by rfl) T.list (by decide +kernel) (pa_cons (pv 6) pa_nil)) pa_nil)))
      (pss_one (ps_expr (pe_bm PySem.F.plainAttrs_list PySem.F.slot_list_append PySem.F.type_list_append mt_append (pv 6) (pa_cons pe_int pa_nil)))))))))
      (pss_cons (ps_if (pt_val (pe_callB (cr_anyK (K := K) rfl rfl) (by rfl) T.any (by decide +kernel) (pa_cons (pe_lc (own := [("_law_at", 7)]) rfl sc_law.nd (pi_range1 (by rfl) T.range (pa_cons (pe_op op_sub (pe_callB (call_len_seqK (K := K) rfl) (by rfl) T.len (by decide +kernel) (pa_cons (pv 4) pa_nil)) pe_int) pa_nil)) (blkOk_by (own := [("_law_at", 7)]) (N := N_law) (sc := defScope s_law) (by decide +kernel)) (fun _ _ _ _ _ => (pg_name (i := 7) sc_law.nd rfl (.inl rfl))) (fun _ _ _ _ _ => pts_nil) (fun _ _ _ _ _ => (pe_cmpR (op_geLK (K := K) rfl hr.units0) (pe_ix (ix_listK (K := K) rfl) (pv 4) (pv 7) (fun _ _ => rfl)) (pe_ix (ix_listK (K := K) rfl) (pv 4) (pe_op op_add (pv 7) pe_int) (fun _ _ => rfl)) (nomark _)))) pa_nil))) (pss_one (ps_ret pe_bl)) pss_nil)
      (pss_one (ps_ret (pe_and (pe_cmpR op_eq (pe_c C_how_many hr (by decide) (by rfl) (pa_cons (pv 1) (pa_cons pe_str pa_nil))) pe_int (nomark _)) (pe_one (pe_cmpR (op_eqDK (K := K) rfl hr.units) (pe_c C_told hr (by decide) (by rfl) (pa_cons (pv 1) (pa_cons pe_str (pa_cons pe_int pa_nil)))) (pe_lst pa_nil) (nomark _))))))))))))))), ?_⟩
    have hwo := codeOf_ok hn
    generalize hws : codeOf ns = ws at *
    obtain ⟨ht, ho⟩ := textOf_ok hwo ns
    generalize hte : textOf ws ns = t at *
    have ht5 : t.length ≤ 5000 := by omega
    refine q_asgL (xs := ws.map tx) (by rw [← hws]; exact el_call (by walk_at "ea") (sl_law_code hs hn)) fun p H1 np e1 hp => ?_
    refine q_asg (v := tx t) (by rw [← hte]; exact ev_call (by walk_at "ea") (sv_law_text (sq_of hp) (ex_l e1 hs) hwo hn)) fun H2 e2 => ?_
    have hc2 : CodeAt K H2 p ws := hwo.at (by decide) (sq_of (e2 p _ hp))
    refine q_asg (v := nI (ways ws t)) (ev_call (by walk_at "ea") (sv_how_many hc2 ht5 ho)) fun H3 e3 => ?_
    have hc3 := hc2.ex e3
    refine q_skip (et_is (et_or (et_test (ev_isi (b := false) (ev_var rfl) ev_c ty_int (kit_ty (by decide +kernel)))) fun _ => et_or (et_not (et_test (ev_isi (b := true) (ev_var rfl) ev_c ty_int (kit_ty (by decide +kernel))))) fun _ => et_test (ev_op (x := nI (ways ws t)) (y := nI (ways ws t)) (ev_var rfl) (ev_call (by walk_at "ea") (sv_law_many hc3 hwo.len ht)) rv_neI)) (by simp)) fun H4 e4 => ?_
    have hc4 := hc3.ex e4
    have hs4 := ex_l (((e1.trans e2).trans e3).trans e4) hs
    have hb2 : ∀ (b c : Bool) (H' : Hp) (σ : L2.St), EvL (tLst (tCons (tC (.bl b)) (tCons (tC (.bl c)) tNil))) σ H' (([b, c] : List Bool).map V.bl) := fun b c H' σ => el_lst (ea_cons ev_c (ea_cons ev_c ea_nil)) (by simp)
    refine q_when (et_test (ev_op (x := nI (ways ws t)) (ev_var rfl) ev_c rv_eqI)) (fun h0 H5 e5 => ?_) (fun h0 H5 e5 => ?_)
    · have h0' : ways ws t = 0 := by have := of_decide_eq_true h0; omega
      refine s_ret (ev_call4L (ev_var rfl) (ev_var rfl) ev_c (hb2 false true _ _) fun q H6 e6 hq => sv_law_refused (n := 0) ((hc4.ex e5).ex e6) ht5 ho (by rw [h0']; omega) (sq_of (by rw [hq, h0']; rfl))) fun H7 e7 => k H7 (((((e1.trans e2).trans e3).trans e4).trans e5).trans e7)
    · have h0' : ways ws t ≠ 0 := by have := of_decide_eq_false h0; omega
      have hd0 : decide (ways ws t = 0) = false := decide_eq_false h0'
      have hc5 := hc4.ex e5
      refine q_skip (et_is (et_or (et_not (et_test (ev_call4L (x3 := nI (ways ws t)) (ev_var rfl) (ev_var rfl) (ev_var rfl) (hb2 true false _ _) fun q H6 e6 hq => sv_law_refused (hc5.ex e6) ht5 ho (by omega) (sq_of (by rw [hq, hd0]; rfl)))))
        fun _ => et_not (et_test (ev_call4L (x3 := .int (-1)) (ev_var rfl) (ev_var rfl) (ev_un ev_c ru_neg) (hb2 true false _ _) fun q H6 e6 hq => sv_law_refused (hc5.ex e6) ht5 ho (by omega) (sq_of (by rw [hq, hd0]; rfl))))) rfl) fun H6 e6 => ?_
      have hc6 := hc5.ex e6
      have hs6 := ex_l (e5.trans e6) hs4
      have ex6 : Ex H H6 := (((((e1.trans e2).trans e3).trans e4).trans e5).trans e6)
      refine q_asgL el_lst0 fun q0 H7 nq e7 hq0 => ?_
      have hsn : (ways ws t : Int) ≠ 0 := by omega
      refine q_forS (es_sortedSet (w := w) (ns := [0, ((ways ws t : Nat) : Int) - 1, ns.sum % ((ways ws t : Nat) : Int)]) (el_lst (ea_cons ev_c (ea_cons (ev_op (x := nI (ways ws t)) (ev_var rfl) ev_c rv_sub) (ea_cons (ev_op (y := nI (ways ws t)) (ev_sum (ev_var rfl) (ex_l e7 hs6)) (ev_var rfl) (rv_mod (by omega))) ea_nil))) (by simp)) (by simp))
        (fun ks pk i σ' H' => ∃ (fs : List Addr) (s5 s6 : Option V), fs.length = i ∧ Ex H6 H' ∧ pk ≠ q0 ∧ H' pk = some (.lst (ks.map V.int)) ∧ H' q0 = some (.lst (fs.map V.ref)) ∧
          (∀ (j : Nat) (f : Addr) (kk : Int), fs[j]? = some f → ks[j]? = some kk → f ≠ q0 ∧ H' f = some (.lst ((nthW ws t kk.toNat).map nI))) ∧
          σ' = [some (.ref s2), some (.ref p), some (tx t), some (nI (ways ws t)), some (.ref q0), s5, s6, none, none])
        (fun ks pk H8 hP npk e8 h8 => ⟨[], _, _, rfl, e7.trans e8, fun z => (by rw [z, hq0] at npk; cases npk), h8, by rw [e8 q0 _ hq0]; rfl, fun j f kk hj => by simp at hj, rfl⟩) (fun ks pk i σ' H' hv => by obtain ⟨_, _, _, _, _, _, h, _⟩ := hv; exact sq_of h)
        (fun ks pk i kk σ' H' hP hk hv => ?_) (fun ks pk σ' H' hP hv => ?_)
      · obtain ⟨fs, s5, s6, hfl, ex, hpk, hpl, hql, hfs, rfl⟩ := hv
        have hmem := (hP.2.1 kk).mp (List.mem_of_getElem? hk)
        have hm1 := Int.emod_nonneg ns.sum hsn
        have hm2 := Int.emod_lt_of_pos ns.sum (show (0 : Int) < (ways ws t : Int) by omega)
        have hkr : 0 ≤ kk ∧ kk < ((ways ws t : Nat) : Int) := by
          simp only [List.mem_cons, List.not_mem_nil, or_false] at hmem
          rcases hmem with h | h | h <;> omega
        obtain ⟨n1, n2, n3⟩ := M3.nthW_ok ws (fun a ha => (hwo.ok a ha).1) (show kk.toNat < ways ws t by omega)
        have hnl := M3.join_len ws (fun a ha => (hwo.ok a ha).1) _ n2
        rw [n1] at hnl
        have hc' := hc6.ex ex
        generalize hps : nthW ws t kk.toNat = ps at *
        refine q_asgL (xs := ps.map nI) (by rw [← hps]; exact el_call (vs := [.ref p, tx t, .int kk]) (by walk_at "ea") (sl_told hc' ht5 ho hkr)) fun p1 H9 np1 e9 hp1 => ?_
        have hc9 := hc'.ex e9
        have hsq1 : SqL K H9 p1 (ps.map nI) := sq_of hp1
        refine q_skip (et_is (et_or (et_not (et_test (ev_call (vs := [.ref p1]) (by walk_at "ea") (sv_law_numbers (ns := List.map (fun n : Nat => (n : Int)) ps) (by rw [← map_nI]; exact hsq1) (by rw [List.length_map]; omega))))) fun _ => et_not (et_test (ev_all (el_mapB (φ := nI) (g := fun n : Nat => decide ((0 : Int) ≤ (n : Int)) && decide ((n : Int) < ((ws.map tx).length : Int))) (ev_var rfl) hsq1 (by omega) (fun _ => rfl) fun n hn' => ?_)))) ?_) fun H10 e10 => ?_
        · exact ev_chain (y := nI n) ev_c (ev_var rfl) (ev_len' (ev_var rfl) hc9.sq) rv_le fun _ => rv_lt
        · have : (ps.map fun n : Nat => decide ((0 : Int) ≤ (n : Int)) && decide ((n : Int) < ((ws.map tx).length : Int))).all id = true := by
            rw [List.all_map, List.all_eq_true]
            intro n hn'
            have := n2 n hn'
            have h1 : decide ((0 : Int) ≤ (n : Int)) = true := decide_eq_true (by omega)
            have h2 : decide ((n : Int) < ((ws.map tx).length : Int)) = true := decide_eq_true (by rw [List.length_map]; omega)
            show (decide ((0 : Int) ≤ (n : Int)) && decide ((n : Int) < ((ws.map tx).length : Int))) = true
            rw [h1, h2]; rfl
          rw [this]; rfl
        have hc10 := hc9.ex e10
        have hsq10 := ex_l e10 hsq1
        refine q_skip (et_is (et_or (et_test (ev_op (x := tx (ps.map (wat ws)).flatten) (ev_join (ev_is ev_cS (congrArg tx codes_nil)) (el_mapS (φ := nI) (g := fun n => wat ws n) (ev_var rfl) hsq10 (by omega) (fun _ => rfl) fun n hn' => ev_op (ev_var rfl) (ev_var rfl) (rv_ixL hc10.sq (atI_nat (wat_get (n2 n hn'))))) (by show (joinW ws ps).length ≤ 100000; rw [n1]; omega)) (ev_var rfl) rv_neS))
          fun _ => et_test (ev_op (x := .int ((num ws t ps : Nat) : Int)) (ev_call (vs := [.ref p, tx t, .ref p1]) (by walk_at "ea") (sv_number_of hc10 ht5 ho hsq10 n2 n1)) (ev_var rfl) rv_neI)) ?_) fun H11 e11 => ?_
        · have ej : (ps.map (wat ws)).flatten = t := n1
          rw [ej, n3]
          have ek : ((kk.toNat : Nat) : Int) = kk := by omega
          rw [ek]; simp
        have ex11 := ((e9.trans e10).trans e11)
        have hp11 := (e10.trans e11) p1 _ hp1
        refine q_appL (xs := fs.map V.ref) (ys := ps.map nI) (ex11 q0 _ hql) (ev_var rfl) (ev_listOf (ev_var rfl) (sq_of hp11)) (by rw [List.length_map, hfl]; have := (List.getElem?_eq_some_iff.mp hk).1; have h3 : ks.length ≤ 3 := hP.2.2; omega) fun f H12 nf e12 hf => ?_
        have n1q : p1 ≠ q0 := fun z => by rw [z, hql] at np1; cases np1
        have nfq : f ≠ q0 := fun z => by rw [z, ex11 q0 _ hql] at nf; cases nf
        have nfp : f ≠ p1 := fun z => by rw [z, hp11] at nf; cases nf
        have npkp : pk ≠ p1 := fun z => by rw [z, np1] at hpl; cases hpl
        have h6q : H6 q0 = none := nq
        have h6p : H6 p1 = none := fresh_back ex np1
        refine s_app (l := p1) (xs := ps.map nI) (v := .int 0) (by rw [upd_ne n1q]; exact e12 _ _ hp11) (ev_var rfl) ev_c (by rw [List.length_map]; omega) fun H13 e13 => ⟨fs ++ [f], _, _, by rw [List.length_append, hfl]; rfl, Ex.mut ((Ex.mut ((ex.trans ex11).trans e12) h6q).trans e13) h6p, hpk, ?_, ?_, ?_, rfl⟩
        · rw [upd_ne npkp]
          exact e13 _ _ (by rw [upd_ne hpk]; exact (ex11.trans e12) _ _ hpl)
        · rw [upd_ne (Ne.symm n1q), List.map_append]
          exact e13 _ _ upd_same
        · intro j f' kk' hj hkj
          rcases Nat.lt_or_ge j fs.length with hlt | hge
          · rw [List.getElem?_append_left hlt] at hj
            obtain ⟨a1, a2⟩ := hfs j f' kk' hj hkj
            have a3 : f' ≠ p1 := fun z => by rw [z, np1] at a2; cases a2
            refine ⟨a1, ?_⟩
            rw [upd_ne a3]
            exact e13 _ _ (by rw [upd_ne a1]; exact (ex11.trans e12) _ _ a2)
          · rw [List.getElem?_append_right hge] at hj
            have hj0 : j = fs.length := by
              have := (List.getElem?_eq_some_iff.mp hj).1
              simp at this; omega
            subst hj0
            simp at hj
            subst hj
            rw [hfl, hk] at hkj
            cases hkj
            refine ⟨nfq, ?_⟩
            rw [upd_ne nfp, hps]
            exact e13 _ _ (by rw [upd_ne nfq]; exact hf)
      · obtain ⟨fs, s5, s6, hfl, ex, hpk, hpl, hql, hfs, rfl⟩ := hv
        have h0in : (0 : Int) ∈ ks := (hP.2.1 0).mpr (by simp)
        have hkl : 0 < ks.length := List.length_pos_of_mem h0in
        have hkr : ∀ kk ∈ ks, 0 ≤ kk ∧ kk < ((ways ws t : Nat) : Int) := fun kk hk => by
          have hmem := (hP.2.1 kk).mp hk
          have hm1 := Int.emod_nonneg ns.sum hsn
          have hm2 := Int.emod_lt_of_pos ns.sum (show (0 : Int) < (ways ws t : Int) by omega)
          simp only [List.mem_cons, List.not_mem_nil, or_false] at hmem
          rcases hmem with h | h | h <;> omega
        have elen : (((fs.map V.ref).length : Nat) : Int) - 1 = ((fs.length - 1 : Nat) : Int) := by rw [List.length_map]; omega
        refine q_skip (et_is (et_test (ev_any (el_rangeB (n := fs.length - 1) (g := fun _ => false) (ea_cons (ev_is (ev_op (ev_len' (ev_var rfl) (sq_of hql)) ev_c rv_sub) (congrArg V.int elen)) ea_nil) (by have h3 : ks.length ≤ 3 := hP.2.2; omega) (fun _ => rfl) fun i hi => ?_))) ?_) fun H8 e8 => ?_
        · have hf1 : fs[i]? = some fs[i] := List.getElem?_eq_getElem (by omega)
          have hf2 : fs[i + 1]? = some fs[i + 1] := List.getElem?_eq_getElem (by omega)
          have hk1 : ks[i]? = some (ks[i]'(by omega)) := List.getElem?_eq_getElem (by omega)
          have hk2 : ks[i + 1]? = some (ks[i + 1]'(by omega)) := List.getElem?_eq_getElem (by omega)
          obtain ⟨_, a1⟩ := hfs i _ _ hf1 hk1
          obtain ⟨_, a2⟩ := hfs (i + 1) _ _ hf2 hk2
          have hlt : ks[i]'(by omega) < ks[i + 1]'(by omega) := List.pairwise_iff_getElem.mp hP.1 i (i + 1) (by omega) (by omega) (by omega)
          have r1 := hkr _ (List.getElem_mem (show i < ks.length by omega))
          have r2 := hkr _ (List.getElem_mem (show i + 1 < ks.length by omega))
          have e9 : ((i : Nat) : Int) + 1 = ((i + 1 : Nat) : Int) := by omega
          refine ev_is (ev_op (x := .ref fs[i]) (y := .ref fs[i + 1]) (ev_op (ev_var rfl) (ev_var rfl) (rv_ixL (sq_of hql) (atI_nat (by rw [List.getElem?_map, hf1]; rfl)))) (ev_op (y := .int ((i + 1 : Nat) : Int)) (ev_var rfl) (by rw [← e9]; exact ev_op (ev_var rfl) ev_c rv_add) (rv_ixL (sq_of hql) (atI_nat (by rw [List.getElem?_map, hf2]; rfl))))
            (rv_geL (by rw [← map_nI]; exact sq_of a1) (by rw [← map_nI]; exact sq_of a2))) ?_
          rw [geI_lex, M3.nth_rising ws (fun a ha => (hwo.ok a ha).1) (by omega) (by omega)]
        · have : ∀ n : Nat, ((List.range n).map fun _ => false).any id = false := fun n => by
            rw [List.any_map, List.any_eq_false]; simp
          exact this _
        have hc8 := (hc6.ex ex).ex e8
        have hok0 : okW (codes "") := by rw [codes_nil]; simp [okW]
        have hw0 : ways ws (codes "") = 1 := by rw [codes_nil]; rfl
        have hn0 : nthW ws (codes "") (0 : Int).toNat = [] := by rw [codes_nil]; rfl
        have l0 : (codes "").length ≤ 5000 := by rw [codes_nil]; decide
        refine s_ret (ev_is (ev_andV (ev_op (x := .int ((ways ws (codes "") : Nat) : Int)) (ev_call (ea_cons (ev_var rfl) (ea_cons ev_cS ea_nil)) (sv_how_many hc8 l0 hok0)) ev_c rv_eqI) fun _ => ev_eqQ (xs := List.map (fun n : Nat => (n : Int)) (nthW ws (codes "") (0 : Int).toNat)) (ys := []) enc_int (eq_new (by rw [← map_nI]; exact el_call (ea_cons (ev_var rfl) (ea_cons ev_cS (ea_cons ev_c ea_nil))) (sl_told hc8 l0 hok0 (by rw [hw0]; decide)))) (eq_new el_lst0) (by simp) (by simp)) ?_) fun H9 e9 => k H9 (((ex6.trans ex).trans e8).trans e9)
        rw [hw0, hn0]
        rfl
end
end Tr


set_option Elab.async false
set_option linter.all false
set_option maxRecDepth 100000
set_option maxHeartbeats 4000000
namespace Tr
open PySem PySem.Spec PyProof.Rows L2 Evl
section
theorem all_mk {l : PySem.W.OpenLaw} {w : World} {K : PySem.W.Frag} {h : Heap} {mg : Str → Option Value} {fa : Addr} (X : K.In h) (G : h.Ns mainGlobals mg) (hfa : mg "law" = some (.ref fa))
    {f_stands : Addr} {od_stands an_stands : Option Addr} {sl_stands : Array (Option Value)} {oc_stands kV_stands dc_stands pm_stands cd_stands ct_stands : Value}
    {f_is_number : Addr} {od_is_number an_is_number : Option Addr} {sl_is_number : Array (Option Value)} {oc_is_number kV_is_number dc_is_number pm_is_number cd_is_number ct_is_number : Value}
    {f_is_text : Addr} {od_is_text an_is_text : Option Addr} {sl_is_text : Array (Option Value)} {oc_is_text kV_is_text dc_is_text pm_is_text cd_is_text ct_is_text : Value}
    {f_asked_code : Addr} {od_asked_code an_asked_code : Option Addr} {sl_asked_code : Array (Option Value)} {oc_asked_code kV_asked_code dc_asked_code pm_asked_code cd_asked_code ct_asked_code : Value}
    {f_asked_text : Addr} {od_asked_text an_asked_text : Option Addr} {sl_asked_text : Array (Option Value)} {oc_asked_text kV_asked_text dc_asked_text pm_asked_text cd_asked_text ct_asked_text : Value}
    {f_joined : Addr} {od_joined an_joined : Option Addr} {sl_joined : Array (Option Value)} {oc_joined kV_joined dc_joined pm_joined cd_joined ct_joined : Value}
    {f_table_of : Addr} {od_table_of an_table_of : Option Addr} {sl_table_of : Array (Option Value)} {oc_table_of kV_table_of dc_table_of pm_table_of cd_table_of ct_table_of : Value}
    {f_nth : Addr} {od_nth an_nth : Option Addr} {sl_nth : Array (Option Value)} {oc_nth kV_nth dc_nth pm_nth cd_nth ct_nth : Value}
    {f_how_many : Addr} {od_how_many an_how_many : Option Addr} {sl_how_many : Array (Option Value)} {oc_how_many kV_how_many dc_how_many pm_how_many cd_how_many ct_how_many : Value}
    {f_told : Addr} {od_told an_told : Option Addr} {sl_told : Array (Option Value)} {oc_told kV_told dc_told pm_told cd_told ct_told : Value}
    {f_number_of : Addr} {od_number_of an_number_of : Option Addr} {sl_number_of : Array (Option Value)} {oc_number_of kV_number_of dc_number_of pm_number_of cd_number_of ct_number_of : Value}
    {f__law_code : Addr} {od__law_code an__law_code : Option Addr} {sl__law_code : Array (Option Value)} {oc__law_code kV__law_code dc__law_code pm__law_code cd__law_code ct__law_code : Value}
    {f__law_stands : Addr} {od__law_stands an__law_stands : Option Addr} {sl__law_stands : Array (Option Value)} {oc__law_stands kV__law_stands dc__law_stands pm__law_stands cd__law_stands ct__law_stands : Value}
    {f__law_numbers : Addr} {od__law_numbers an__law_numbers : Option Addr} {sl__law_numbers : Array (Option Value)} {oc__law_numbers kV__law_numbers dc__law_numbers pm__law_numbers cd__law_numbers ct__law_numbers : Value}
    {f__law_text : Addr} {od__law_text an__law_text : Option Addr} {sl__law_text : Array (Option Value)} {oc__law_text kV__law_text dc__law_text pm__law_text cd__law_text ct__law_text : Value}
    {f__law_many : Addr} {od__law_many an__law_many : Option Addr} {sl__law_many : Array (Option Value)} {oc__law_many kV__law_many dc__law_many pm__law_many cd__law_many ct__law_many : Value}
    {f__law_refused : Addr} {od__law_refused an__law_refused : Option Addr} {sl__law_refused : Array (Option Value)} {oc__law_refused kV__law_refused dc__law_refused pm__law_refused cd__law_refused ct__law_refused : Value}
    {f_law : Addr} {od_law an_law : Option Addr} {sl_law : Array (Option Value)} {oc_law kV_law dc_law pm_law cd_law ct_law : Value}
    {tL : Tok}
    {aWE : Addr}
    {aBC : Addr}
    {aBT : Addr}
    {aNR : Addr}
    {aBN : Addr}
    {aBP : Addr}
    {aBL : Addr}
    (a_stands : PySem.W.nsIn K mainGlobals "stands" = some (some (.ref f_stands)))
    (l_stands : K.lookup f_stands = some ⟨oc_stands, od_stands, .func (PySem.W.fnOf "stands" "stands" (defArgs s_stands) (defBody s_stands) (defScope s_stands) .none kV_stands dc_stands pm_stands an_stands cd_stands ct_stands), sl_stands⟩)
    (c_stands : PySem.W.codeIn K cd_stands "stands" = true)
    (k_stands : PySem.W.keepIn K (.ref f_stands) = true)
    (a_is_number : PySem.W.nsIn K mainGlobals "is_number" = some (some (.ref f_is_number)))
    (l_is_number : K.lookup f_is_number = some ⟨oc_is_number, od_is_number, .func (PySem.W.fnOf "is_number" "is_number" (defArgs s_is_number) (defBody s_is_number) (defScope s_is_number) .none kV_is_number dc_is_number pm_is_number an_is_number cd_is_number ct_is_number), sl_is_number⟩)
    (c_is_number : PySem.W.codeIn K cd_is_number "is_number" = true)
    (k_is_number : PySem.W.keepIn K (.ref f_is_number) = true)
    (a_is_text : PySem.W.nsIn K mainGlobals "is_text" = some (some (.ref f_is_text)))
    (l_is_text : K.lookup f_is_text = some ⟨oc_is_text, od_is_text, .func (PySem.W.fnOf "is_text" "is_text" (defArgs s_is_text) (defBody s_is_text) (defScope s_is_text) .none kV_is_text dc_is_text pm_is_text an_is_text cd_is_text ct_is_text), sl_is_text⟩)
    (c_is_text : PySem.W.codeIn K cd_is_text "is_text" = true)
    (k_is_text : PySem.W.keepIn K (.ref f_is_text) = true)
    (a_asked_code : PySem.W.nsIn K mainGlobals "asked_code" = some (some (.ref f_asked_code)))
    (l_asked_code : K.lookup f_asked_code = some ⟨oc_asked_code, od_asked_code, .func (PySem.W.fnOf "asked_code" "asked_code" (defArgs s_asked_code) (defBody s_asked_code) (defScope s_asked_code) .none kV_asked_code dc_asked_code pm_asked_code an_asked_code cd_asked_code ct_asked_code), sl_asked_code⟩)
    (c_asked_code : PySem.W.codeIn K cd_asked_code "asked_code" = true)
    (k_asked_code : PySem.W.keepIn K (.ref f_asked_code) = true)
    (a_asked_text : PySem.W.nsIn K mainGlobals "asked_text" = some (some (.ref f_asked_text)))
    (l_asked_text : K.lookup f_asked_text = some ⟨oc_asked_text, od_asked_text, .func (PySem.W.fnOf "asked_text" "asked_text" (defArgs s_asked_text) (defBody s_asked_text) (defScope s_asked_text) .none kV_asked_text dc_asked_text pm_asked_text an_asked_text cd_asked_text ct_asked_text), sl_asked_text⟩)
    (c_asked_text : PySem.W.codeIn K cd_asked_text "asked_text" = true)
    (k_asked_text : PySem.W.keepIn K (.ref f_asked_text) = true)
    (a_joined : PySem.W.nsIn K mainGlobals "joined" = some (some (.ref f_joined)))
    (l_joined : K.lookup f_joined = some ⟨oc_joined, od_joined, .func (PySem.W.fnOf "joined" "joined" (defArgs s_joined) (defBody s_joined) (defScope s_joined) .none kV_joined dc_joined pm_joined an_joined cd_joined ct_joined), sl_joined⟩)
    (c_joined : PySem.W.codeIn K cd_joined "joined" = true)
    (k_joined : PySem.W.keepIn K (.ref f_joined) = true)
    (a_table_of : PySem.W.nsIn K mainGlobals "table_of" = some (some (.ref f_table_of)))
    (l_table_of : K.lookup f_table_of = some ⟨oc_table_of, od_table_of, .func (PySem.W.fnOf "table_of" "table_of" (defArgs s_table_of) (defBody s_table_of) (defScope s_table_of) .none kV_table_of dc_table_of pm_table_of an_table_of cd_table_of ct_table_of), sl_table_of⟩)
    (c_table_of : PySem.W.codeIn K cd_table_of "table_of" = true)
    (k_table_of : PySem.W.keepIn K (.ref f_table_of) = true)
    (a_nth : PySem.W.nsIn K mainGlobals "nth" = some (some (.ref f_nth)))
    (l_nth : K.lookup f_nth = some ⟨oc_nth, od_nth, .func (PySem.W.fnOf "nth" "nth" (defArgs s_nth) (defBody s_nth) (defScope s_nth) .none kV_nth dc_nth pm_nth an_nth cd_nth ct_nth), sl_nth⟩)
    (c_nth : PySem.W.codeIn K cd_nth "nth" = true)
    (k_nth : PySem.W.keepIn K (.ref f_nth) = true)
    (a_how_many : PySem.W.nsIn K mainGlobals "how_many" = some (some (.ref f_how_many)))
    (l_how_many : K.lookup f_how_many = some ⟨oc_how_many, od_how_many, .func (PySem.W.fnOf "how_many" "how_many" (defArgs s_how_many) (defBody s_how_many) (defScope s_how_many) .none kV_how_many dc_how_many pm_how_many an_how_many cd_how_many ct_how_many), sl_how_many⟩)
    (c_how_many : PySem.W.codeIn K cd_how_many "how_many" = true)
    (k_how_many : PySem.W.keepIn K (.ref f_how_many) = true)
    (a_told : PySem.W.nsIn K mainGlobals "told" = some (some (.ref f_told)))
    (l_told : K.lookup f_told = some ⟨oc_told, od_told, .func (PySem.W.fnOf "told" "told" (defArgs s_told) (defBody s_told) (defScope s_told) .none kV_told dc_told pm_told an_told cd_told ct_told), sl_told⟩)
    (c_told : PySem.W.codeIn K cd_told "told" = true)
    (k_told : PySem.W.keepIn K (.ref f_told) = true)
    (a_number_of : PySem.W.nsIn K mainGlobals "number_of" = some (some (.ref f_number_of)))
    (l_number_of : K.lookup f_number_of = some ⟨oc_number_of, od_number_of, .func (PySem.W.fnOf "number_of" "number_of" (defArgs s_number_of) (defBody s_number_of) (defScope s_number_of) .none kV_number_of dc_number_of pm_number_of an_number_of cd_number_of ct_number_of), sl_number_of⟩)
    (c_number_of : PySem.W.codeIn K cd_number_of "number_of" = true)
    (k_number_of : PySem.W.keepIn K (.ref f_number_of) = true)
    (a__law_code : PySem.W.nsIn K mainGlobals "_law_code" = some (some (.ref f__law_code)))
    (l__law_code : K.lookup f__law_code = some ⟨oc__law_code, od__law_code, .func (PySem.W.fnOf "_law_code" "_law_code" (defArgs s__law_code) (defBody s__law_code) (defScope s__law_code) .none kV__law_code dc__law_code pm__law_code an__law_code cd__law_code ct__law_code), sl__law_code⟩)
    (c__law_code : PySem.W.codeIn K cd__law_code "_law_code" = true)
    (k__law_code : PySem.W.keepIn K (.ref f__law_code) = true)
    (a__law_stands : PySem.W.nsIn K mainGlobals "_law_stands" = some (some (.ref f__law_stands)))
    (l__law_stands : K.lookup f__law_stands = some ⟨oc__law_stands, od__law_stands, .func (PySem.W.fnOf "_law_stands" "_law_stands" (defArgs s__law_stands) (defBody s__law_stands) (defScope s__law_stands) .none kV__law_stands dc__law_stands pm__law_stands an__law_stands cd__law_stands ct__law_stands), sl__law_stands⟩)
    (c__law_stands : PySem.W.codeIn K cd__law_stands "_law_stands" = true)
    (k__law_stands : PySem.W.keepIn K (.ref f__law_stands) = true)
    (a__law_numbers : PySem.W.nsIn K mainGlobals "_law_numbers" = some (some (.ref f__law_numbers)))
    (l__law_numbers : K.lookup f__law_numbers = some ⟨oc__law_numbers, od__law_numbers, .func (PySem.W.fnOf "_law_numbers" "_law_numbers" (defArgs s__law_numbers) (defBody s__law_numbers) (defScope s__law_numbers) .none kV__law_numbers dc__law_numbers pm__law_numbers an__law_numbers cd__law_numbers ct__law_numbers), sl__law_numbers⟩)
    (c__law_numbers : PySem.W.codeIn K cd__law_numbers "_law_numbers" = true)
    (k__law_numbers : PySem.W.keepIn K (.ref f__law_numbers) = true)
    (a__law_text : PySem.W.nsIn K mainGlobals "_law_text" = some (some (.ref f__law_text)))
    (l__law_text : K.lookup f__law_text = some ⟨oc__law_text, od__law_text, .func (PySem.W.fnOf "_law_text" "_law_text" (defArgs s__law_text) (defBody s__law_text) (defScope s__law_text) .none kV__law_text dc__law_text pm__law_text an__law_text cd__law_text ct__law_text), sl__law_text⟩)
    (c__law_text : PySem.W.codeIn K cd__law_text "_law_text" = true)
    (k__law_text : PySem.W.keepIn K (.ref f__law_text) = true)
    (a__law_many : PySem.W.nsIn K mainGlobals "_law_many" = some (some (.ref f__law_many)))
    (l__law_many : K.lookup f__law_many = some ⟨oc__law_many, od__law_many, .func (PySem.W.fnOf "_law_many" "_law_many" (defArgs s__law_many) (defBody s__law_many) (defScope s__law_many) .none kV__law_many dc__law_many pm__law_many an__law_many cd__law_many ct__law_many), sl__law_many⟩)
    (c__law_many : PySem.W.codeIn K cd__law_many "_law_many" = true)
    (k__law_many : PySem.W.keepIn K (.ref f__law_many) = true)
    (a__law_refused : PySem.W.nsIn K mainGlobals "_law_refused" = some (some (.ref f__law_refused)))
    (l__law_refused : K.lookup f__law_refused = some ⟨oc__law_refused, od__law_refused, .func (PySem.W.fnOf "_law_refused" "_law_refused" (defArgs s__law_refused) (defBody s__law_refused) (defScope s__law_refused) .none kV__law_refused dc__law_refused pm__law_refused an__law_refused cd__law_refused ct__law_refused), sl__law_refused⟩)
    (c__law_refused : PySem.W.codeIn K cd__law_refused "_law_refused" = true)
    (k__law_refused : PySem.W.keepIn K (.ref f__law_refused) = true)
    (a_law : PySem.W.nsIn K mainGlobals "law" = some (some (.ref f_law)))
    (l_law : K.lookup f_law = some ⟨oc_law, od_law, .func (PySem.W.fnOf "law" "law" (defArgs s_law) (defBody s_law) (defScope s_law) .none kV_law dc_law pm_law an_law cd_law ct_law), sl_law⟩)
    (c_law : PySem.W.codeIn K cd_law "law" = true)
    (k_law : PySem.W.keepIn K (.ref f_law) = true)
    (z_len : PySem.W.nsIn K mainGlobals "len" = some none)
    (z_all : PySem.W.nsIn K mainGlobals "all" = some none)
    (z_any : PySem.W.nsIn K mainGlobals "any" = some none)
    (z_isinstance : PySem.W.nsIn K mainGlobals "isinstance" = some none)
    (z_range : PySem.W.nsIn K mainGlobals "range" = some none)
    (z_sum : PySem.W.nsIn K mainGlobals "sum" = some none)
    (z_sorted : PySem.W.nsIn K mainGlobals "sorted" = some none)
    (z_enumerate : PySem.W.nsIn K mainGlobals "enumerate" = some none)
    (z_max : PySem.W.nsIn K mainGlobals "max" = some none)
    (z_min : PySem.W.nsIn K mainGlobals "min" = some none)
    (z_reversed : PySem.W.nsIn K mainGlobals "reversed" = some none)
    (z_list : PySem.W.nsIn K mainGlobals "list" = some none)
    (z_int : PySem.W.nsIn K mainGlobals "int" = some none)
    (z_str : PySem.W.nsIn K mainGlobals "str" = some none)
    (z_bool : PySem.W.nsIn K mainGlobals "bool" = some none)
    (z_set : PySem.W.nsIn K mainGlobals "set" = some none)
    (z_ValueError : PySem.W.nsIn K mainGlobals "ValueError" = some none)
    (z_LETTERS : PySem.W.nsIn K mainGlobals "LETTERS" = some (some (.str "abcdefghijklmnopqrstuvwxyz" tL)))
    (g_WordError : PySem.W.nsIn K mainGlobals "WordError" = some (some (.ref aWE)))
    (g_BadCode : PySem.W.nsIn K mainGlobals "BadCode" = some (some (.ref aBC)))
    (g_BadText : PySem.W.nsIn K mainGlobals "BadText" = some (some (.ref aBT)))
    (g_NoReading : PySem.W.nsIn K mainGlobals "NoReading" = some (some (.ref aNR)))
    (x_NoReading : PySem.W.excIn K aNR [.type "ValueError", .type "Exception", .type "BaseException", .type "object"] "ValueError.__new__" = true)
    (y_NoReading : PySem.W.keepIn K (.ref aNR) = true)
    (s_NoReading : PySem.W.subIn K (.ref aNR) (.type "BaseException") = some true)
    (t_NoReading : PySem.W.typeIn K (.ref aNR) = some (.type "type"))
    (g_BadNumber : PySem.W.nsIn K mainGlobals "BadNumber" = some (some (.ref aBN)))
    (x_BadNumber : PySem.W.excIn K aBN [.type "ValueError", .type "Exception", .type "BaseException", .type "object"] "ValueError.__new__" = true)
    (y_BadNumber : PySem.W.keepIn K (.ref aBN) = true)
    (s_BadNumber : PySem.W.subIn K (.ref aBN) (.type "BaseException") = some true)
    (t_BadNumber : PySem.W.typeIn K (.ref aBN) = some (.type "type"))
    (g_BadPlaces : PySem.W.nsIn K mainGlobals "BadPlaces" = some (some (.ref aBP)))
    (g_BadLengths : PySem.W.nsIn K mainGlobals "BadLengths" = some (some (.ref aBL)))
    (e1_aNR : PySem.W.findIn K (.ref aNR) "__getattribute__" = some (some (.builtin "BaseException.__getattribute__")))
    (e2_aNR : PySem.W.findIn K (.ref aNR) "__getattr__" = some none)
    (e4_aNR : PySem.W.hasDictIn K aNR = true)
    (e5_aNR : PySem.W.findIn K (.ref aNR) "__class__" = some (some (.builtin "object.__class__")))
    (e8_aNR : PySem.W.mroIn K aNR (.type "object") = some true)
    (e9_aNR : PySem.W.exmOne K (.ref aNR) (.ref aWE) = some true)
    (e0_aNR : PySem.W.kitOne K (.ref aNR) (.type "ValueError") = some true)
    (i_aNR_aBC : PySem.W.kitOne K (.ref aNR) (.ref aBC) = some false)
    (i_aNR_aBL : PySem.W.kitOne K (.ref aNR) (.ref aBL) = some false)
    (i_aNR_aBP : PySem.W.kitOne K (.ref aNR) (.ref aBP) = some false)
    (i_aNR_aBT : PySem.W.kitOne K (.ref aNR) (.ref aBT) = some false)
    (i_aNR_aBN : PySem.W.kitOne K (.ref aNR) (.ref aBN) = some false)
    (i_aNR_aNR : PySem.W.kitOne K (.ref aNR) (.ref aNR) = some true)
    (e1_aBN : PySem.W.findIn K (.ref aBN) "__getattribute__" = some (some (.builtin "BaseException.__getattribute__")))
    (e2_aBN : PySem.W.findIn K (.ref aBN) "__getattr__" = some none)
    (e4_aBN : PySem.W.hasDictIn K aBN = true)
    (e5_aBN : PySem.W.findIn K (.ref aBN) "__class__" = some (some (.builtin "object.__class__")))
    (e8_aBN : PySem.W.mroIn K aBN (.type "object") = some true)
    (e9_aBN : PySem.W.exmOne K (.ref aBN) (.ref aWE) = some true)
    (e0_aBN : PySem.W.kitOne K (.ref aBN) (.type "ValueError") = some true)
    (i_aBN_aBC : PySem.W.kitOne K (.ref aBN) (.ref aBC) = some false)
    (i_aBN_aBL : PySem.W.kitOne K (.ref aBN) (.ref aBL) = some false)
    (i_aBN_aBP : PySem.W.kitOne K (.ref aBN) (.ref aBP) = some false)
    (i_aBN_aBT : PySem.W.kitOne K (.ref aBN) (.ref aBT) = some false)
    (i_aBN_aBN : PySem.W.kitOne K (.ref aBN) (.ref aBN) = some true)
    (i_aBN_aNR : PySem.W.kitOne K (.ref aBN) (.ref aNR) = some false)
    (e6 : PySem.W.specialIn K (.builtin "object.__class__") "__get__" = some (some (.builtin "getset_descriptor.__get__")))
    (e7 : PySem.W.takesIn K (.builtin "object.__class__") = some true)
    : ∃ fd : FuncData, (∀ (s : Shared) (v : Value), BindsTo s fd ⟨[v], []⟩ [("_law_script", v)]) ∧ ∀ base : Heap, K.In base → base.Ns mainGlobals mg → FnOk l.prog w K mg base (L2N.CX l.prog w) 5 fa fd ["_law_script"] (spLaw K) := by
  have e := hfa.symm.trans (PySem.W.mg_of X G a_law)
  cases e
  refine ⟨PySem.W.fnOf "law" "law" (defArgs s_law) (defBody s_law) (defScope s_law) .none kV_law dc_law pm_law an_law cd_law ct_law, fun s v => .of_eq rfl, fun base _ _ => ?_⟩
  have D_stands : DefAt K mg "stands" s_stands ["word", "text", "at"] := ⟨_, _, fun_mk l_stands c_stands k_stands, PySem.W.mg_of X G a_stands, (fun_mk l_stands c_stands k_stands).binds fun _ _ _ _ _ _ us hl => match us, hl with | [_, _, _], _ => rfl⟩
  have D_is_number : DefAt K mg "is_number" s_is_number ["thing", "least", "most"] := ⟨_, _, fun_mk l_is_number c_is_number k_is_number, PySem.W.mg_of X G a_is_number, (fun_mk l_is_number c_is_number k_is_number).binds fun _ _ _ _ _ _ us hl => match us, hl with | [_, _, _], _ => rfl⟩
  have D_is_text : DefAt K mg "is_text" s_is_text ["thing"] := ⟨_, _, fun_mk l_is_text c_is_text k_is_text, PySem.W.mg_of X G a_is_text, (fun_mk l_is_text c_is_text k_is_text).binds fun _ _ _ _ _ _ us hl => match us, hl with | [_], _ => rfl⟩
  have D_asked_code : DefAt K mg "asked_code" s_asked_code ["code"] := ⟨_, _, fun_mk l_asked_code c_asked_code k_asked_code, PySem.W.mg_of X G a_asked_code, (fun_mk l_asked_code c_asked_code k_asked_code).binds fun _ _ _ _ _ _ us hl => match us, hl with | [_], _ => rfl⟩
  have D_asked_text : DefAt K mg "asked_text" s_asked_text ["text"] := ⟨_, _, fun_mk l_asked_text c_asked_text k_asked_text, PySem.W.mg_of X G a_asked_text, (fun_mk l_asked_text c_asked_text k_asked_text).binds fun _ _ _ _ _ _ us hl => match us, hl with | [_], _ => rfl⟩
  have D_joined : DefAt K mg "joined" s_joined ["code", "places"] := ⟨_, _, fun_mk l_joined c_joined k_joined, PySem.W.mg_of X G a_joined, (fun_mk l_joined c_joined k_joined).binds fun _ _ _ _ _ _ us hl => match us, hl with | [_, _], _ => rfl⟩
  have D_table_of : DefAt K mg "table_of" s_table_of ["code", "text"] := ⟨_, _, fun_mk l_table_of c_table_of k_table_of, PySem.W.mg_of X G a_table_of, (fun_mk l_table_of c_table_of k_table_of).binds fun _ _ _ _ _ _ us hl => match us, hl with | [_, _], _ => rfl⟩
  have D_nth : DefAt K mg "nth" s_nth ["code", "text", "table", "number"] := ⟨_, _, fun_mk l_nth c_nth k_nth, PySem.W.mg_of X G a_nth, (fun_mk l_nth c_nth k_nth).binds fun _ _ _ _ _ _ us hl => match us, hl with | [_, _, _, _], _ => rfl⟩
  have D_how_many : DefAt K mg "how_many" s_how_many ["code", "text"] := ⟨_, _, fun_mk l_how_many c_how_many k_how_many, PySem.W.mg_of X G a_how_many, (fun_mk l_how_many c_how_many k_how_many).binds fun _ _ _ _ _ _ us hl => match us, hl with | [_, _], _ => rfl⟩
  have D_told : DefAt K mg "told" s_told ["code", "text", "number"] := ⟨_, _, fun_mk l_told c_told k_told, PySem.W.mg_of X G a_told, (fun_mk l_told c_told k_told).binds fun _ _ _ _ _ _ us hl => match us, hl with | [_, _, _], _ => rfl⟩
  have D_number_of : DefAt K mg "number_of" s_number_of ["code", "text", "places"] := ⟨_, _, fun_mk l_number_of c_number_of k_number_of, PySem.W.mg_of X G a_number_of, (fun_mk l_number_of c_number_of k_number_of).binds fun _ _ _ _ _ _ us hl => match us, hl with | [_, _, _], _ => rfl⟩
  have D__law_code : DefAt K mg "_law_code" s__law_code ["_law_script"] := ⟨_, _, fun_mk l__law_code c__law_code k__law_code, PySem.W.mg_of X G a__law_code, (fun_mk l__law_code c__law_code k__law_code).binds fun _ _ _ _ _ _ us hl => match us, hl with | [_], _ => rfl⟩
  have D__law_stands : DefAt K mg "_law_stands" s__law_stands ["_law_word", "_law_text_here", "_law_at"] := ⟨_, _, fun_mk l__law_stands c__law_stands k__law_stands, PySem.W.mg_of X G a__law_stands, (fun_mk l__law_stands c__law_stands k__law_stands).binds fun _ _ _ _ _ _ us hl => match us, hl with | [_, _, _], _ => rfl⟩
  have D__law_numbers : DefAt K mg "_law_numbers" s__law_numbers ["_law_found"] := ⟨_, _, fun_mk l__law_numbers c__law_numbers k__law_numbers, PySem.W.mg_of X G a__law_numbers, (fun_mk l__law_numbers c__law_numbers k__law_numbers).binds fun _ _ _ _ _ _ us hl => match us, hl with | [_], _ => rfl⟩
  have D__law_text : DefAt K mg "_law_text" s__law_text ["_law_code_here", "_law_script"] := ⟨_, _, fun_mk l__law_text c__law_text k__law_text, PySem.W.mg_of X G a__law_text, (fun_mk l__law_text c__law_text k__law_text).binds fun _ _ _ _ _ _ us hl => match us, hl with | [_, _], _ => rfl⟩
  have D__law_many : DefAt K mg "_law_many" s__law_many ["_law_code_here", "_law_text_here"] := ⟨_, _, fun_mk l__law_many c__law_many k__law_many, PySem.W.mg_of X G a__law_many, (fun_mk l__law_many c__law_many k__law_many).binds fun _ _ _ _ _ _ us hl => match us, hl with | [_, _], _ => rfl⟩
  have D__law_refused : DefAt K mg "_law_refused" s__law_refused ["_law_code_here", "_law_text_here", "_law_number", "_law_due"] := ⟨_, _, fun_mk l__law_refused c__law_refused k__law_refused, PySem.W.mg_of X G a__law_refused, (fun_mk l__law_refused c__law_refused k__law_refused).binds fun _ _ _ _ _ _ us hl => match us, hl with | [_, _, _, _], _ => rfl⟩
  have T : Blt mg := ⟨PySem.W.mg_none_of X G z_len, PySem.W.mg_none_of X G z_all, PySem.W.mg_none_of X G z_any, PySem.W.mg_none_of X G z_isinstance, PySem.W.mg_none_of X G z_range, PySem.W.mg_none_of X G z_sum, PySem.W.mg_none_of X G z_sorted, PySem.W.mg_none_of X G z_enumerate, PySem.W.mg_none_of X G z_max, PySem.W.mg_none_of X G z_min, PySem.W.mg_none_of X G z_reversed, PySem.W.mg_none_of X G z_list, PySem.W.mg_none_of X G z_int, PySem.W.mg_none_of X G z_str, PySem.W.mg_none_of X G z_bool, PySem.W.mg_none_of X G z_set, PySem.W.mg_none_of X G z_ValueError, ⟨_, PySem.W.mg_of X G z_LETTERS, tL, rfl⟩⟩
  have G_WordError : mg "WordError" = some (.ref aWE) := PySem.W.mg_of X G g_WordError
  have G_BadCode : mg "BadCode" = some (.ref aBC) := PySem.W.mg_of X G g_BadCode
  have G_BadText : mg "BadText" = some (.ref aBT) := PySem.W.mg_of X G g_BadText
  have G_NoReading : mg "NoReading" = some (.ref aNR) := PySem.W.mg_of X G g_NoReading
  have X_NoReading : ExcAt K mg "NoReading" aNR := ⟨PySem.W.mg_of X G g_NoReading, x_NoReading, y_NoReading, s_NoReading, t_NoReading⟩
  have G_BadNumber : mg "BadNumber" = some (.ref aBN) := PySem.W.mg_of X G g_BadNumber
  have X_BadNumber : ExcAt K mg "BadNumber" aBN := ⟨PySem.W.mg_of X G g_BadNumber, x_BadNumber, y_BadNumber, s_BadNumber, t_BadNumber⟩
  have G_BadPlaces : mg "BadPlaces" = some (.ref aBP) := PySem.W.mg_of X G g_BadPlaces
  have G_BadLengths : mg "BadLengths" = some (.ref aBL) := PySem.W.mg_of X G g_BadLengths
  have ER : ErrAt K aNR aWE [(aBC, false), (aBL, false), (aBP, false), (aBT, false), (aBN, false), (aNR, true)] := ⟨⟨e1_aNR, e2_aNR, s_NoReading, e4_aNR, e5_aNR, e6, e7, e8_aNR⟩, e9_aNR, e0_aNR, fun p hp => by
      simp only [List.mem_cons, List.not_mem_nil, or_false] at hp
      rcases hp with rfl | rfl | rfl | rfl | rfl | rfl
      · exact i_aNR_aBC
      · exact i_aNR_aBL
      · exact i_aNR_aBP
      · exact i_aNR_aBT
      · exact i_aNR_aBN
      · exact i_aNR_aNR⟩
  have EN : ErrAt K aBN aWE [(aBC, false), (aBL, false), (aBP, false), (aBT, false), (aBN, true), (aNR, false)] := ⟨⟨e1_aBN, e2_aBN, s_BadNumber, e4_aBN, e5_aBN, e6, e7, e8_aBN⟩, e9_aBN, e0_aBN, fun p hp => by
      simp only [List.mem_cons, List.not_mem_nil, or_false] at hp
      rcases hp with rfl | rfl | rfl | rfl | rfl | rfl
      · exact i_aBN_aBC
      · exact i_aBN_aBL
      · exact i_aBN_aBP
      · exact i_aBN_aBT
      · exact i_aBN_aBN
      · exact i_aBN_aNR⟩
  have C_stands := ok_stands (P := l.prog) (w := w) (base := base) D_stands T
  have C_is_number := ok_is_number (P := l.prog) (w := w) (base := base) D_is_number T
  have C_is_text := ok_is_text (P := l.prog) (w := w) (base := base) D_is_text T
  have C_asked_code := ok_asked_code (P := l.prog) (w := w) (base := base) D_asked_code T C_is_text
  have C_asked_text := ok_asked_text (P := l.prog) (w := w) (base := base) D_asked_text T C_is_text
  have C_joined := ok_joined (P := l.prog) (w := w) (base := base) D_joined T
  have C_table_of := ok_table_of (P := l.prog) (w := w) (base := base) D_table_of T C_stands
  have C_nth := ok_nth (P := l.prog) (w := w) (base := base) D_nth T C_stands
  have C_how_many := ok_how_many (P := l.prog) (w := w) (base := base) D_how_many T C_asked_code C_asked_text C_table_of
  have C_told := ok_told (P := l.prog) (w := w) (base := base) D_told T C_asked_code C_asked_text C_table_of C_nth C_is_number X_NoReading X_BadNumber
  have C_number_of := ok_number_of (P := l.prog) (w := w) (base := base) D_number_of T C_asked_code C_asked_text C_table_of C_joined C_is_number C_stands
  have C__law_code := ok__law_code (P := l.prog) (w := w) (base := base) D__law_code T
  have C__law_stands := ok__law_stands (P := l.prog) (w := w) (base := base) D__law_stands T
  have C__law_numbers := ok__law_numbers (P := l.prog) (w := w) (base := base) D__law_numbers T
  have C__law_text := ok__law_text (P := l.prog) (w := w) (base := base) D__law_text T
  have C__law_many := ok__law_many (P := l.prog) (w := w) (base := base) D__law_many T C__law_stands
  have C__law_refused := ok__law_refused (P := l.prog) (w := w) (base := base) D__law_refused T C_told G_WordError G_BadCode G_BadLengths G_BadPlaces G_BadText G_NoReading G_BadNumber ER EN
  exact ok_law (fun_mk l_law c_law k_law) T C__law_code C__law_text C_how_many C__law_many C__law_refused C_told C__law_numbers C_number_of
end
theorem walk {l : PySem.W.OpenLaw} {q : Program} {loose : List Str} {XP : (Str → Option Value) → Heap → Prop} {YP : World → Heap → Prop} {d : DefRec} {K : Params → PySem.W.Frag} (hn : l.most = some 63) (hdf : d.params.defaults = [])
    (hY : ∀ (w : World) (h : Heap), YP w h → (K w.params).In h)
    (F : ∀ (w : World) (mg : Str → Option Value) (fa : Addr) (h : Heap), (K w.params).In h → h.Ns mainGlobals mg → mg d.name = some (.ref fa) →
      ∃ fd : FuncData, (∀ (s : Shared) (u : Value), BindsTo s fd ⟨[u], []⟩ [("_law_script", u)]) ∧ ∀ base : Heap, (K w.params).In base → base.Ns mainGlobals mg → FnOk l.prog w (K w.params) mg base (L2N.CX l.prog w) 5 fa fd ["_law_script"] (spLaw (K w.params))) :
    PySem.W.WalkO q loose XP YP l.row.toRowW d [] (fun f vs => PySem.call f vs) :=
  L2.walk_of (n := 63) (k := 5) (x := "_law_script") (CX := fun w => L2N.CX l.prog w) (sp := fun w => spLaw (K w.params)) hn (by decide) hdf ⟨rfl, by decide, by decide⟩ hY F (fun _ _ a ns hl _ hS => ⟨a, ns, rfl, hS, hl, fun _ _ => rfl⟩) fun _ _ _ _ _ z => by
    obtain ⟨_, _, _, _, _, _, _, _, _, _, _, _, y⟩ := z
    exact y
end Tr
open PySem PySem.W PyProof.Rows
set_option maxRecDepth 100000 in
set_option maxHeartbeats 0 in
theorem PySem.Challenge.cw_tworeadings_k03_whole_counted_holds : PySem.Challenge.rw_tworeadings_k03_whole_counted.Holds := by
  w_on; o_law; k_head; (case hw => w_witness2)
  k_fill
  refine Tr.walk (l := PySem.Challenge.rw_tworeadings_k03_whole_counted) rfl rfl (fun w h Y => PySem.W.kIn_of Y) ?F
  case F =>
    intro w mg fa h KX G hmg
    refine' Tr.all_mk KX G hmg ?a_stands ?l_stands ?c_stands ?k_stands ?a_is_number ?l_is_number ?c_is_number ?k_is_number ?a_is_text ?l_is_text ?c_is_text ?k_is_text ?a_asked_code ?l_asked_code ?c_asked_code ?k_asked_code ?a_asked_text ?l_asked_text ?c_asked_text ?k_asked_text ?a_joined ?l_joined ?c_joined ?k_joined ?a_table_of ?l_table_of ?c_table_of ?k_table_of ?a_nth ?l_nth ?c_nth ?k_nth ?a_how_many ?l_how_many ?c_how_many ?k_how_many ?a_told ?l_told ?c_told ?k_told ?a_number_of ?l_number_of ?c_number_of ?k_number_of ?a__law_code ?l__law_code ?c__law_code ?k__law_code ?a__law_stands ?l__law_stands ?c__law_stands ?k__law_stands ?a__law_numbers ?l__law_numbers ?c__law_numbers ?k__law_numbers ?a__law_text ?l__law_text ?c__law_text ?k__law_text ?a__law_many ?l__law_many ?c__law_many ?k__law_many ?a__law_refused ?l__law_refused ?c__law_refused ?k__law_refused ?a_law ?l_law ?c_law ?k_law ?z_len ?z_all ?z_any ?z_isinstance ?z_range ?z_sum ?z_sorted ?z_enumerate ?z_max ?z_min ?z_reversed ?z_list ?z_int ?z_str ?z_bool ?z_set ?z_ValueError ?z_LETTERS ?g_WordError ?g_BadCode ?g_BadText ?g_NoReading ?x_NoReading ?y_NoReading ?s_NoReading ?t_NoReading ?g_BadNumber ?x_BadNumber ?y_BadNumber ?s_BadNumber ?t_BadNumber ?g_BadPlaces ?g_BadLengths ?e1_aNR ?e2_aNR ?e4_aNR ?e5_aNR ?e8_aNR ?e9_aNR ?e0_aNR ?i_aNR_aBC ?i_aNR_aBL ?i_aNR_aBP ?i_aNR_aBT ?i_aNR_aBN ?i_aNR_aNR ?e1_aBN ?e2_aBN ?e4_aBN ?e5_aBN ?e8_aBN ?e9_aBN ?e0_aBN ?i_aBN_aBC ?i_aBN_aBL ?i_aBN_aBP ?i_aBN_aBT ?i_aBN_aBN ?i_aBN_aNR ?e6 ?e7
    (case a_stands => first | k_is | rfl); (case l_stands => first | k_is | rfl); (case c_stands => first | k_is | rfl); (case k_stands => first | k_is | rfl); (case a_is_number => first | k_is | rfl); (case l_is_number => first | k_is | rfl)
    (case c_is_number => first | k_is | rfl); (case k_is_number => first | k_is | rfl); (case a_is_text => first | k_is | rfl); (case l_is_text => first | k_is | rfl); (case c_is_text => first | k_is | rfl); (case k_is_text => first | k_is | rfl)
    (case a_asked_code => first | k_is | rfl); (case l_asked_code => first | k_is | rfl); (case c_asked_code => first | k_is | rfl); (case k_asked_code => first | k_is | rfl); (case a_asked_text => first | k_is | rfl); (case l_asked_text => first | k_is | rfl)
    (case c_asked_text => first | k_is | rfl); (case k_asked_text => first | k_is | rfl); (case a_joined => first | k_is | rfl); (case l_joined => first | k_is | rfl); (case c_joined => first | k_is | rfl); (case k_joined => first | k_is | rfl)
    (case a_table_of => first | k_is | rfl); (case l_table_of => first | k_is | rfl); (case c_table_of => first | k_is | rfl); (case k_table_of => first | k_is | rfl); (case a_nth => first | k_is | rfl); (case l_nth => first | k_is | rfl)
    (case c_nth => first | k_is | rfl); (case k_nth => first | k_is | rfl); (case a_how_many => first | k_is | rfl); (case l_how_many => first | k_is | rfl); (case c_how_many => first | k_is | rfl); (case k_how_many => first | k_is | rfl)
    (case a_told => first | k_is | rfl); (case l_told => first | k_is | rfl); (case c_told => first | k_is | rfl); (case k_told => first | k_is | rfl); (case a_number_of => first | k_is | rfl); (case l_number_of => first | k_is | rfl)
    (case c_number_of => first | k_is | rfl); (case k_number_of => first | k_is | rfl); (case a__law_code => first | k_is | rfl); (case l__law_code => first | k_is | rfl); (case c__law_code => first | k_is | rfl); (case k__law_code => first | k_is | rfl)
    (case a__law_stands => first | k_is | rfl); (case l__law_stands => first | k_is | rfl); (case c__law_stands => first | k_is | rfl); (case k__law_stands => first | k_is | rfl); (case a__law_numbers => first | k_is | rfl); (case l__law_numbers => first | k_is | rfl)
    (case c__law_numbers => first | k_is | rfl); (case k__law_numbers => first | k_is | rfl); (case a__law_text => first | k_is | rfl); (case l__law_text => first | k_is | rfl); (case c__law_text => first | k_is | rfl); (case k__law_text => first | k_is | rfl)
    (case a__law_many => first | k_is | rfl); (case l__law_many => first | k_is | rfl); (case c__law_many => first | k_is | rfl); (case k__law_many => first | k_is | rfl); (case a__law_refused => first | k_is | rfl); (case l__law_refused => first | k_is | rfl)
    (case c__law_refused => first | k_is | rfl); (case k__law_refused => first | k_is | rfl); (case a_law => first | k_is | rfl); (case l_law => first | k_is | rfl); (case c_law => first | k_is | rfl); (case k_law => first | k_is | rfl)
    (case z_len => first | k_is | rfl); (case z_all => first | k_is | rfl); (case z_any => first | k_is | rfl); (case z_isinstance => first | k_is | rfl); (case z_range => first | k_is | rfl); (case z_sum => first | k_is | rfl)
    (case z_sorted => first | k_is | rfl); (case z_enumerate => first | k_is | rfl); (case z_max => first | k_is | rfl); (case z_min => first | k_is | rfl); (case z_reversed => first | k_is | rfl); (case z_list => first | k_is | rfl)
    (case z_int => first | k_is | rfl); (case z_str => first | k_is | rfl); (case z_bool => first | k_is | rfl); (case z_set => first | k_is | rfl); (case z_ValueError => first | k_is | rfl); (case z_LETTERS => first | k_is | rfl)
    (case g_WordError => first | k_is | rfl); (case g_BadCode => first | k_is | rfl); (case g_BadText => first | k_is | rfl); (case g_NoReading => first | k_is | rfl); (case x_NoReading => k_exc); (case y_NoReading => first | k_is | rfl)
    (case s_NoReading => first | k_is | rfl); (case t_NoReading => first | k_is | rfl); (case g_BadNumber => first | k_is | rfl); (case x_BadNumber => k_exc); (case y_BadNumber => first | k_is | rfl); (case s_BadNumber => first | k_is | rfl)
    (case t_BadNumber => first | k_is | rfl); (case g_BadPlaces => first | k_is | rfl); (case g_BadLengths => first | k_is | rfl); (case e1_aNR => first | k_is | rfl); (case e2_aNR => first | k_is | rfl); (case e4_aNR => first | k_is | rfl)
    (case e5_aNR => first | k_is | rfl); (case e8_aNR => first | k_is | rfl); (case e9_aNR => first | k_is | rfl); (case e0_aNR => first | k_is | rfl); (case i_aNR_aBC => first | k_is | rfl); (case i_aNR_aBL => first | k_is | rfl)
    (case i_aNR_aBP => first | k_is | rfl); (case i_aNR_aBT => first | k_is | rfl); (case i_aNR_aBN => first | k_is | rfl); (case i_aNR_aNR => first | k_is | rfl); (case e1_aBN => first | k_is | rfl); (case e2_aBN => first | k_is | rfl)
    (case e4_aBN => first | k_is | rfl); (case e5_aBN => first | k_is | rfl); (case e8_aBN => first | k_is | rfl); (case e9_aBN => first | k_is | rfl); (case e0_aBN => first | k_is | rfl); (case i_aBN_aBC => first | k_is | rfl)
    (case i_aBN_aBL => first | k_is | rfl); (case i_aBN_aBP => first | k_is | rfl); (case i_aBN_aBT => first | k_is | rfl); (case i_aBN_aBN => first | k_is | rfl); (case i_aBN_aNR => first | k_is | rfl); (case e6 => first | k_is | rfl)
    (case e7 => first | k_is | rfl)
#print axioms PySem.Challenge.cw_tworeadings_k03_whole_counted_holds
