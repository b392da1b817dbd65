import PyProof.Rows.All
import Wide.All
import OpenK.AllK
import Wide.FinOn
import HandS.ForMost
import HandS.ForExc
import HandS.Evl
import HandS.IsInst
import HandS.StrMore
import HandS.Style
import HandS.SortInts
import HandS.SortRule
import HandS.SortKw
import HandS.RevRange
import HandS.SetFor
import HandS.Strs
import HandS.More
import HandS.ExcIs
import HandS.ExcCtx
import HandS.HotCalls
import HandS.Dict
import PySem.Challenge.RW_tworeadings_k02_whole_read
import PyProof.StrOps2
import KE.LtSeq
import HandS.TupLe
set_option Elab.async false
set_option linter.all false
set_option maxRecDepth 100000
set_option maxHeartbeats 4000000
/-! TrA: defs that may be called (Cal, DefAt), texts as lists of codes, pure expressions. -/
namespace Tr
open PySem PySem.Spec PyProof.Rows L2 Evl

/-! ### defs -/
section
variable {P : Program} {w : World} {K : PySem.W.Frag} {mg : Str → Option Value} {base : Heap}
/-- a def that may be called by its name -/
structure Cal (P : Program) (w : World) (K : PySem.W.Frag) (mg : Str → Option Value) (base : Heap) (k : Nat) (x : Str) (sp : Sp) : Prop where
  ex : ∃ (f : Addr) (fd : FuncData) (ps : List Str), FnOk P w K mg base (L2N.CX P w) k f fd ps sp ∧ mg x = some (.ref f) ∧ PySem.W.keepIn K (.ref f) = true ∧ Binds K fd ps []
/-- a def as the top has left it -/
structure DefAt (K : PySem.W.Frag) (mg : Str → Option Value) (x : Str) (st : Stmt) (ps : List Str) : Prop where
  ex : ∃ (f : Addr) (fd : FuncData), Fun K x x st f fd ∧ mg x = some (.ref f) ∧ Binds K fd ps []
theorem cal_of {x : Str} {st : Stmt} {N ps : List Str} {k : Nat} {sp : Sp} (D : DefAt K mg x st ps) (S : FnScope N ps (defScope st)) (len : ∀ vs H Q E, sp vs H Q E → vs.length = ps.length)
    (hbody : ∀ (f : Addr) (cdv : Value) (A : Around) (outer : List Env) (s : Shared) (H : Hp) (vs : List V) (Q : VK) (E : XK), Room k (A.deeper (envOfC x (defScope st) s.heap.objs.size f cdv)) → sp vs H Q E →
      ∃ t, PSs (cxOf (L2N.CX P w) P w K mg base N x (defScope st) f cdv A outer s H E).nox (defBody st) t ∧ t { nx := fun _ H' => Q .non H', rt := Q } (start N vs) H) : Cal P w K mg base (k + 1) x sp := by
  obtain ⟨f, fd, F, m, b⟩ := D.ex
  obtain ⟨oc, od, kV, doc, pm, an, cdv, ct, osl, rfl, lk, hcd⟩ := F.ex
  refine ⟨f, _, ps, fn_of lk hcd S len fun A outer s H vs Q E hr hsp => ?_, m, F.kp, b⟩
  obtain ⟨t, h, q⟩ := hbody f cdv A outer s H vs Q E hr hsp
  exact ⟨t, h.nox, q⟩
/-- .. of the law itself -/
theorem fnok_of {x : Str} {st : Stmt} {N ps : List Str} {k : Nat} {sp : Sp} {f : Addr} {fd : FuncData} (F : Fun K x x st f fd) (S : FnScope N ps (defScope st)) (len : ∀ vs H Q E, sp vs H Q E → vs.length = ps.length)
    (hbody : ∀ (f : Addr) (cdv : Value) (A : Around) (outer : List Env) (s : Shared) (H : Hp) (vs : List V) (Q : VK) (E : XK), Room k (A.deeper (envOfC x (defScope st) s.heap.objs.size f cdv)) → sp vs H Q E →
      ∃ t, PSs (cxOf (L2N.CX P w) P w K mg base N x (defScope st) f cdv A outer s H E).nox (defBody st) t ∧ t { nx := fun _ H' => Q .non H', rt := Q } (start N vs) H) : FnOk P w K mg base (L2N.CX P w) (k + 1) f fd ps sp := by
  obtain ⟨oc, od, kV, doc, pm, an, cdv, ct, osl, rfl, lk, hcd⟩ := F.ex
  refine fn_of lk hcd S len fun A outer s H vs Q E hr hsp => ?_
  obtain ⟨t, h, q⟩ := hbody f cdv A outer s H vs Q E hr hsp
  exact ⟨t, h.nox, q⟩
/-- .. of a def that may raise -/
theorem calX_of {x : Str} {st : Stmt} {N ps : List Str} {k : Nat} {sp : Sp} (D : DefAt K mg x st ps) (S : FnScope N ps (defScope st)) (len : ∀ vs H Q E, sp vs H Q E → vs.length = ps.length)
    (hbody : ∀ (f : Addr) (cdv : Value) (A : Around) (outer : List Env) (s : Shared) (H : Hp) (vs : List V) (Q : VK) (E : XK), Room k (A.deeper (envOfC x (defScope st) s.heap.objs.size f cdv)) → sp vs H Q E →
      ∃ t, PSs (cxOf (L2N.CX P w) P w K mg base N x (defScope st) f cdv A outer s H E) (defBody st) t ∧ t { nx := fun _ H' => Q .non H', rt := Q } (start N vs) H) : Cal P w K mg base (k + 1) x sp := by
  obtain ⟨f, fd, F, m, b⟩ := D.ex
  obtain ⟨oc, od, kV, doc, pm, an, cdv, ct, osl, rfl, lk, hcd⟩ := F.ex
  exact ⟨f, _, ps, fn_of lk hcd S len fun A outer s H vs Q E hr hsp => hbody f cdv A outer s H vs Q E hr hsp, m, F.kp, b⟩
end
section
variable {X : Cx} {k j : Nat} {x : Str} {sp : Sp} {p pos : Pos} {e : Expr} {es : List Expr} {t : TA}
theorem passN : Passes (L2N.CX X.prog X.w) X E0 := fun _ _ _ _ _ _ _ c => by
  obtain ⟨_, _, _, _, _, _, _, _, _, _, _, _, z⟩ := c
  exact False.elim z
/-- f(e, ..), nothing raised -/
theorem pe_c (c : Cal X.prog X.w X.K X.mg X.base k x sp) (hr : Room j X.A) (hk : k ≤ j) (hg : Gl X x) (ha : PA X (e :: es) t) (hdb : (x == ("__debug__" : Str)) = false := by decide)
    (he : starEach (e :: es) X.env = (false, eval e X.env) :: starEach es X.env := by rfl) (hpl : (backTo pos (starEach es X.env)).any (·.1) = false := by rfl) : PE X (.Call (.Name x p) (e :: es) [] pos) (tCall sp [] E0 t) := by
  obtain ⟨f, fd, ps, F, m, kp, b⟩ := c.ex
  exact pe_call F (hr.mono hk) hg m kp b .nil passN ha hdb he hpl
/-- f(e, ..), what it raises leaves this def too -/
theorem pe_cX {E : XK} (tk : L2N.Takes X fun cls d _ H => E cls d H) (c : Cal X.prog X.w X.K X.mg X.base k x sp) (hr : Room j X.A) (hk : k ≤ j) (hg : Gl X x) (ha : PA X (e :: es) t) (hdb : (x == ("__debug__" : Str)) = false := by decide)
    (he : starEach (e :: es) X.env = (false, eval e X.env) :: starEach es X.env := by rfl) (hpl : (backTo pos (starEach es X.env)).any (·.1) = false := by rfl) : PE X (.Call (.Name x p) (e :: es) [] pos) (tCall sp [] E t) := by
  obtain ⟨f, fd, ps, F, m, kp, b⟩ := c.ex
  exact pe_call F (hr.mono hk) hg m kp b .nil (L2N.passes_call tk fun _ _ _ _ h => h) ha hdb he hpl
/-- f(e, ..) within a try: what it raises is looked at there -/
theorem pe_cT {W : WX} (tk : L2N.Takes X W) (c : Cal X.prog X.w X.K X.mg X.base k x sp) (hr : Room j X.A) (hk : k ≤ j) (hg : Gl X x) (ha : PA X (e :: es) t) (hdb : (x == ("__debug__" : Str)) = false := by decide)
    (he : starEach (e :: es) X.env = (false, eval e X.env) :: starEach es X.env := by rfl) (hpl : (backTo pos (starEach es X.env)).any (·.1) = false := by rfl) : PE X (.Call (.Name x p) (e :: es) [] pos) (tCallS sp (WE W) t) := by
  obtain ⟨f, fd, ps, F, m, kp, b⟩ := c.ex
  exact pe_callS F (hr.mono hk) hg m kp b (fun σ => L2N.passAt tk σ) ha hdb he hpl
theorem takes0N : L2N.Takes X (fun _ _ _ _ => False) := fun _ _ x => by
  obtain ⟨_, _, _, _, _, _, _, _, _, _, _, _, _, _, _, _, z⟩ := x
  exact z.elim
end

/-! ### exception classes of the text -/
structure ExcAt (K : PySem.W.Frag) (mg : Str → Option Value) (x : Str) (C : Addr) : Prop where
  g : mg x = some (.ref C)
  xin : PySem.W.excIn K C [.type "ValueError", .type "Exception", .type "BaseException", .type "object"] "ValueError.__new__" = true
  kp : PySem.W.keepIn K (.ref C) = true
  sb : PySem.W.subIn K (.ref C) (.type "BaseException") = some true
  ty : PySem.W.typeIn K (.ref C) = some (.type "type")
theorem pmk_c {X : Cx} {K : PySem.W.Frag} {mg : Str → Option Value} {x m : Str} {C : Addr} {j : Nat} {p p2 pos : Pos} (hK : X.K = K) (hm : X.mg = mg) (A : ExcAt K mg x C) (hg : Gl X x) (hdb : (x == ("__debug__" : Str)) = false := by decide) :
    L2N.PMk X (.Call (.Name x p) [.Constant (.str m) j p2] [] pos) (fun _ H Q => Q (.ref C) none H) := by
  subst hK hm
  exact L2N.pmk_own PySem.F.excBase_ValueError A.xin A.g A.kp (raises_own A.sb A.ty) hg hdb
theorem pe_exc {X : Cx} {mg : Str → Option Value} {x : Str} {C : Addr} {pos : Pos} (hm : X.mg = mg) (g : mg x = some (.ref C)) (hg : Gl X x) (hdb : (x == ("__debug__" : Str)) = false := by decide) : PE X (.Name x pos) (tC (.ref C)) := by
  subst hm
  exact pe_glob hg g rfl hdb
/-! ### the rules that name the written part, with it as a letter -/
section
variable {X : Cx} {K : PySem.W.Frag}
theorem ix_listK (h : X.K = K) : IxR X (rIxL K) := h ▸ ix_list
theorem ix_tupK (h : X.K = K) : IxR X (rIxT K) := h ▸ ix_tup
theorem call_isiK' (h : X.K = K) : CallR X (.builtin "isinstance") (rIsi K) := h ▸ call_isi
theorem cr_allK (h : X.K = K) (hc : X.calm = true) : CallR X (.builtin "all") (rAll K) := h ▸ cr_all hc
theorem cr_anyK (h : X.K = K) (hc : X.calm = true) : CallR X (.builtin "any") (rAny K) := h ▸ cr_any hc
theorem cr_sumK (h : X.K = K) (hc : X.calm = true) : CallR X (.builtin "sum") (rSum K) := h ▸ cr_sum hc
theorem cr_sortedIK (h : X.K = K) : CallR X (.builtin "sorted") (rSortedI K) := h ▸ cr_sortedI
theorem cr_sortedSK (h : X.K = K) : CallR X (.builtin "sorted") (rSortedS K) := h ▸ cr_sortedS
theorem cr_sortedPOK (h : X.K = K) : CallR X (.builtin "sorted") (rSortedPO K) := h ▸ cr_sortedPO
theorem op_in_seqK (h : X.K = K) : OpR X (compareOp .In) (rIn K false) := h ▸ op_in_seq
theorem op_notIn_seqK (h : X.K = K) : OpR X (compareOp .NotIn) (rIn K true) := h ▸ op_notIn_seq
theorem op_eqDK (h : X.K = K) (hu : X.A.units + 64 < cLine) : OpR X (compareOp .Eq) (rEqD K) := h ▸ op_eqD hu
theorem op_neDK (h : X.K = K) (hu : X.A.units + 64 < cLine) : OpR X (compareOp .NotEq) (rNeD K) := h ▸ op_neD hu
theorem sl_listK (h : X.K = K) : SlR X (rSlL K) := h ▸ sl_list
/-- len of a list or a tuple -/
def rLenQ (K : PySem.W.Frag) : List V → Hp → VK → Prop := fun xs H Q => ∃ p ys, xs = [.ref p] ∧ (SqL K H p ys ∨ SqT K H p ys) ∧ Q (.int ys.length) H
theorem call_len_seqK (h : X.K = K) : CallR X (.builtin "len") (rLenQ K) := h ▸ call_len_seq
def rListQ (K : PySem.W.Frag) : List V → Hp → VK → Prop := fun xs H Q => ∃ p ys, xs = [.ref p] ∧ (SqL K H p ys ∨ SqT K H p ys) ∧ ∀ l, H l = none → Q (.ref l) (upd H l (.lst ys))
theorem call_list_ofK (h : X.K = K) : CallR X (.type "list") (rListQ K) := h ▸ call_list_of
theorem mt_lcountK (h : X.K = K) : MtR X "list.count" (rCntI K) := h ▸ mt_lcount
theorem pi_listK {tg l : Expr} {tl : TE} (h : X.K = K) (hl : PE X l tl) : PI X tg l (iList K tl) := h ▸ pi_list hl
theorem pi_enumK {e : Expr} {ta : TA} {p pos tpos : Pos} {elts : List Expr} {kk : Nat} (h : X.K = K) (hg : Gl X "enumerate") (hm : X.mg "enumerate" = none) (ha : PA X [e] ta) (hs : starEach [e] X.env = (false, eval e X.env) :: starEach [] X.env := by rfl) :
    PI X (.Tuple elts kk tpos) (.Call (.Name "enumerate" p) [e] [] pos) (iEnum K ta) := h ▸ pi_enum hg hm ha hs
theorem pg_tupK {es : List Expr} {k : Nat} {t : TGs} {n : Nat} {pos : Pos} (h : X.K = K) (hc : X.calm = true) (hp : PGs X es t) (hn : (assignEach es X.env).length = n := by rfl) (hst : (assignEach es X.env).findIdx? (·.1) = none := by rfl) : PG X (.Tuple es k pos) (gTup K n t) := h ▸ pg_tup hc hp hn hst
theorem pe_fldK {e : Expr} {f : Str} {pos : Pos} {ta : TE} (h : X.K = K) (he : PE X e ta) (hb : attributeBase e f X.env (eval e X.env) = eval e X.env := by rfl) : PE X (.Attribute e f pos) (tFld K ta f) := h ▸ pe_fld he hb
theorem ps_fldK {o value : Expr} {f : Str} {pos pos' : Pos} {ta tv : TE} (h : X.K = K) (ha : PE X o ta) (hv : PE X value tv) (hs : swapsWith value (some (.Attribute o f pos')) pos.line X.env = pure false := by rfl) : PS X (.Assign [.Attribute o f pos'] value pos) (sFld K ta tv f) := h ▸ ps_fld ha hv hs
theorem pe_revLK {e : Expr} {te : TE} {k : Nat} {p1 p2 p3 pos : Pos} (h : X.K = K) (he : PE X e te) : PE X (.Subscript e (.Slice none none (some (.UnaryOp .USub (.Constant (.int 1) k p1) p2)) p3) pos) (tRevL K te) := h ▸ pe_revL he
def rJoin (K : PySem.W.Frag) : V → List V → Hp → VK → Prop := fun x xs H Q => ∃ a p, ∃ ys : List Str, x = .str a ∧ xs = [.ref p] ∧ (SqL K H p (ys.map V.str) ∨ SqT K H p (ys.map V.str)) ∧ (ys.map (·.length)).sum + ys.length * a.length ≤ 16777216 ∧ Q (.str (Txt.join a ys)) H
theorem pe_joinK {o e : Expr} {to te : TE} {apos pos : Pos} (h : X.K = K) (ho : PE X o to) (he : PE X e te) (hs : starEach [e] X.env = [(false, eval e X.env)] := by rfl) (hbase : attributeBase o "join" X.env (eval o X.env) = eval o X.env := by rfl)
    (hline : (apos.endLine == pos.line) = true := by rfl) : PE X (.Call (.Attribute o "join" apos) [e] [] pos) (tM1 (rJoin K) to te) := h ▸ pe_join ho he hs hbase hline
theorem pe_appK {o e : Expr} {to : TE} {t : TA} {apos cpos : Pos} (h : X.K = K) (ho : PE X o to) (ha : PA X [e] t) (h1 : PE X (.Call (.Attribute o "append" apos) [e] [] cpos) (tBM X.K "list" rAppend to t)) : PE X (.Call (.Attribute o "append" apos) [e] [] cpos) (tBM K "list" rAppend to t) := h ▸ h1
end
/-! ### texts by their codes -/
abbrev Wd := List Nat
def S (a : Wd) : Str := ⟨a.toArray⟩
def tx (a : Wd) : V := .str (S a)
theorem S_len (a : Wd) : (S a).length = a.length := by
  show a.toArray.size = a.length
  simp
theorem S_cps (a : Wd) : (S a).cps.toList = a := by simp [S]
theorem S_inj {a b : Wd} (h : S a = S b) : a = b := by
  have := congrArg (fun x : Str => x.cps.toList) h
  simpa [S] using this
theorem S_app (a b : Wd) : S a ++ S b = S (a ++ b) := by
  apply TL.ext_tl
  rw [TL.tl_append]
  simp [S, TL.tl]
theorem tx_eq (a b : Wd) : decide (tx a = tx b) = decide (a = b) := by
  by_cases h : a = b
  · subst h; simp
  · have : ¬ tx a = tx b := fun e => h (S_inj (V.str.inj e))
    simp [h, this]
theorem tx_inj {a b : Wd} (h : tx a = tx b) : a = b := S_inj (V.str.inj h)
theorem S_get (a : Wd) (i : Nat) : (S a).cps[i]? = a[i]? := by simp [S]
theorem S_cut (a : Wd) (lo hi : Option Int) : cutS (S a) lo hi = S ((a.drop (HT.sIx a.length 0 lo)).take (HT.sIx a.length a.length hi - HT.sIx a.length 0 lo)) := by
  unfold cutS
  rw [S_len, S_cps]
  rfl
/-- the signs of b alone -/
theorem strip_iff (a b : Wd) : (Txt.stripChars (S a) (S b) = S []) ↔ ∀ c ∈ a, c ∈ b := by
  unfold Txt.stripChars
  rw [PyProof.Rows.stripBy_eq]
  obtain ⟨l1, l2, l3⟩ := PyProof.Rows.lo_facts (S b).cps.contains (S a)
  obtain ⟨h1, h2, h3, h4⟩ := PyProof.Rows.hi_facts (S b).cps.contains (S a) _ l1
  generalize stripLo (S b).cps.contains true (S a) = lo at *
  generalize stripHi (S b).cps.contains true (S a) lo = hi at *
  have hg : ∀ k, k < a.length → (S a).cps.getD k 0 = a.getD k 0 := fun k hk => by
    simp [S, Array.getD, List.getD, hk]
  have hc : ∀ c, (S b).cps.contains c = decide (c ∈ b) := fun c => by simp [S]
  rw [S_len] at l1 l3 h2 h3
  have e : TL.tl (PySem.Builtin.Str.strSub (S a) lo hi) = (a.drop lo).take (hi - lo) := by
    rw [TL.tl_strSub]; simp [S, TL.tl]
  constructor
  · intro h c hm
    have e2 : (a.drop lo).take (hi - lo) = [] := by
      rw [← e, h]; simp [S, TL.tl]
    have hl : min (hi - lo) (a.length - lo) = 0 := by
      have := congrArg List.length e2
      simpa using this
    obtain ⟨k, hk, rfl⟩ := List.getElem_of_mem hm
    have hgo : (S b).cps.contains ((S a).cps.getD k 0) = true := by
      rcases Nat.lt_or_ge k lo with h0 | h0
      · exact l2 k h0
      · exact h3 k (by omega) hk
    rw [hg k hk, hc] at hgo
    have : a.getD k 0 = a[k] := by simp [List.getD, hk]
    rw [this] at hgo
    exact of_decide_eq_true hgo
  · intro h
    apply TL.ext_tl
    rw [e]
    have hlo : lo = a.length := by
      rcases l3 with h0 | h0
      · exact h0
      · rcases Nat.lt_or_ge lo a.length with hk | hk
        · rw [hg lo hk, hc] at h0
          have : a.getD lo 0 = a[lo] := by simp [List.getD, hk]
          rw [this] at h0
          have := h a[lo] (List.getElem_mem hk)
          simp [this] at h0
        · omega
    rw [hlo]
    simp [S, TL.tl]
def codes (s : Str) : Wd := s.cps.toList
theorem S_codes (s : Str) : S (codes s) = s := TL.ext_tl (by simp [S, TL.tl, codes])
theorem codes_S (a : Wd) : codes (S a) = a := by simp [S, codes]

/-! ### expressions -/
section
variable {K : PySem.W.Frag} {σ : L2.St} {H H' : Hp} {ta tb te tx' : TE} {t u : TT} {x y z v : V}
theorem ev_cS {s : Str} : Ev (tC (.str s)) σ H (tx (codes s)) := by
  unfold tx; rw [S_codes]; exact ev_c
theorem rv_add {i j : Int} : RV (rI0 fun i j => .int (i + j)) (.int i) (.int j) H (.int (i + j)) := rv_I0
theorem rv_sub {i j : Int} : RV (rI0 fun i j => .int (i - j)) (.int i) (.int j) H (.int (i - j)) := rv_I0
theorem rv_mul {i j : Int} (h : CMul i j) : RV (rI CMul fun i j => .int (i * j)) (.int i) (.int j) H (.int (i * j)) := rv_I h
theorem rv_fdiv {i j : Int} (h : CDiv i j) : RV (rI CDiv fun i j => .int (i / j)) (.int i) (.int j) H (.int (i / j)) := rv_I h
theorem rv_mod {i j : Int} (h : 0 < j) : RV (rI (fun _ j => 0 < j) fun i j => .int (i % j)) (.int i) (.int j) H (.int (i % j)) := rv_I (C := fun _ j => 0 < j) h
theorem rv_lt {i j : Int} : RV (rI0 fun i j => .bl (decide (i < j))) (.int i) (.int j) H (.bl (decide (i < j))) := rv_I0 (g := fun i j => V.bl (decide (i < j)))
theorem rv_le {i j : Int} : RV (rI0 fun i j => .bl (decide (i ≤ j))) (.int i) (.int j) H (.bl (decide (i ≤ j))) := rv_I0 (g := fun i j => V.bl (decide (i ≤ j)))
theorem rv_gt {i j : Int} : RV (rI0 fun i j => .bl (decide (j < i))) (.int i) (.int j) H (.bl (decide (j < i))) := rv_I0 (g := fun i j => V.bl (decide (j < i)))
theorem rv_ge {i j : Int} : RV (rI0 fun i j => .bl (decide (j ≤ i))) (.int i) (.int j) H (.bl (decide (j ≤ i))) := rv_I0 (g := fun i j => V.bl (decide (j ≤ i)))
theorem rv_eqI {i j : Int} : RV rEq (.int i) (.int j) H (.bl (decide (i = j))) := by
  have h := rv_eq (x := V.int i) (y := V.int j) (H := H) rfl
  have e : decide (V.int i = V.int j) = decide (i = j) := by simp
  rw [e] at h; exact h
theorem rv_eqB {i j : Bool} : RV rEq (.bl i) (.bl j) H (.bl (decide (i = j))) := by
  have h := rv_eq (x := V.bl i) (y := V.bl j) (H := H) rfl
  have e : decide (V.bl i = V.bl j) = decide (i = j) := by simp
  rw [e] at h; exact h
theorem rv_eqS {a b : Wd} : RV rEq (tx a) (tx b) H (.bl (decide (a = b))) := by
  have h := rv_eq (x := tx a) (y := tx b) (H := H) rfl
  rw [tx_eq] at h; exact h
theorem rv_neI {i j : Int} : RV rNe (.int i) (.int j) H (.bl (!decide (i = j))) := by
  have h := rv_ne (x := V.int i) (y := V.int j) (H := H) rfl
  have e : decide (V.int i = V.int j) = decide (i = j) := by simp
  rw [e] at h; exact h
theorem rv_neB {i j : Bool} : RV rNe (.bl i) (.bl j) H (.bl (!decide (i = j))) := by
  have h := rv_ne (x := V.bl i) (y := V.bl j) (H := H) rfl
  have e : decide (V.bl i = V.bl j) = decide (i = j) := by simp
  rw [e] at h; exact h
theorem rv_neS {a b : Wd} : RV rNe (tx a) (tx b) H (.bl (!decide (a = b))) := by
  have h := rv_ne (x := tx a) (y := tx b) (H := H) rfl
  rw [tx_eq] at h; exact h
theorem rv_addS {a b : Wd} (h : a.length + b.length ≤ 100000) : RV (fun x y H Q => ∃ i j, x = .str i ∧ y = .str j ∧ i.length + j.length ≤ sizeLine ∧ Q (.str (i ++ j)) H) (tx a) (tx b) H (tx (a ++ b)) := fun H1 _ Q q =>
  ⟨S a, S b, rfl, rfl, sz_of (by rw [S_len, S_len]; exact h), by rw [S_app]; exact q H1 (Ex.refl H1)⟩
theorem rv_ixW {a : Wd} {i : Int} {c : Nat} (h : a.length ≤ 100000) (ha : atI a i = some c) : RV rIxS (tx a) (.int i) H (tx [c]) := fun H1 _ _ q =>
  ⟨S a, i, c, rfl, rfl, sz_of (by rw [S_len]; exact h), by rw [S_cps]; exact ha, q H1 (Ex.refl H1)⟩
theorem rv_isB {a b : Bool} : RV rIsB (.bl a) (.bl b) H (.bl (decide (a = b))) := fun H1 _ _ q => ⟨a, b, rfl, rfl, q H1 (Ex.refl H1)⟩
theorem rv_notB {a b : Bool} : RV rNotB (.bl a) (.bl b) H (.bl (!decide (a = b))) := fun H1 _ _ q => ⟨a, b, rfl, rfl, q H1 (Ex.refl H1)⟩
/-- slices of texts -/
def cutW (a : Wd) (lo hi : Option Int) : Wd := (a.drop (HT.sIx a.length 0 lo)).take (HT.sIx a.length a.length hi - HT.sIx a.length 0 lo)
theorem ev_slS {a : Wd} {lo hi : Option Int} {tl th : TO} (h : Ev te σ H (tx a)) (h1 : EvO tl σ H lo) (h2 : EvO th σ H hi) (hs : a.length ≤ 100000) : Ev (tSl rSlS te tl th) σ H (tx (cutW a lo hi)) := fun H1 e _ q =>
  h H1 e _ fun H2 e2 => h1 H2 (e.trans e2) _ fun H3 e3 => h2 H3 ((e.trans e2).trans e3) _ fun H4 e4 =>
    ⟨S a, rfl, sz_of (by rw [S_len]; exact hs), by rw [S_cut]; exact q H4 ((e2.trans e3).trans e4)⟩
theorem sIx_nat' (n d : Nat) (i : Int) (k : Nat) (h : i = k) : HT.sIx n d (some i) = min k n := by
  subst h; exact HT.sIx_nat n d k
theorem drop_min (a : Wd) (i : Nat) : a.drop (min i a.length) = a.drop i := by
  rcases Nat.le_total i a.length with h | h
  · rw [Nat.min_eq_left h]
  · rw [Nat.min_eq_right h, List.drop_length, List.drop_eq_nil_of_le h]
theorem cut_nn (a : Wd) (i j : Nat) : cutW a (some (i : Int)) (some (j : Int)) = (a.drop i).take (j - i) := by
  unfold cutW
  rw [HT.sIx_nat, HT.sIx_nat, drop_min]
  rcases Nat.le_total i a.length with h | h
  · rcases Nat.le_total j a.length with h2 | h2
    · rw [Nat.min_eq_left h, Nat.min_eq_left h2]
    · rw [Nat.min_eq_left h, Nat.min_eq_right h2, List.take_of_length_le (by simp), List.take_of_length_le (by simp; omega)]
  · rw [List.drop_eq_nil_of_le h]; simp
theorem cut_from (a : Wd) (i : Nat) : cutW a (some (i : Int)) none = a.drop i := by
  unfold cutW
  rw [HT.sIx_nat, HT.sIx_none, drop_min]
  exact List.take_of_length_le (by simp; omega)
theorem cut_to (a : Wd) (j : Nat) : cutW a none (some (j : Int)) = a.take j := by
  unfold cutW
  rw [HT.sIx_nat, HT.sIx_none]
  show (a.drop 0).take (min j a.length - 0) = _
  rw [List.drop_zero, Nat.sub_zero]
  rcases Nat.le_total j a.length with h | h
  · rw [Nat.min_eq_left h]
  · rw [Nat.min_eq_right h, List.take_of_length_le (Nat.le_refl _), List.take_of_length_le h]
/-- len of a text -/
theorem ev_lenS {a : Wd} (h : Ev ta σ H (tx a)) (hs : a.length ≤ 100000) : Ev (tCB (fun xs H Q => ∃ x : Str, xs = [.str x] ∧ x.length ≤ sizeLine ∧ Q (.int x.length) H) (tCons ta tNil)) σ H (.int (a.length : Int)) := fun H1 e Q q =>
  h H1 e _ fun H2 e2 => ⟨S a, rfl, sz_of (by rw [S_len]; exact hs), by rw [S_len]; exact q H2 e2⟩
/-- strip -/
theorem ev_strip {a b : Wd} (h : Ev ta σ H (tx a)) (hb : Ev tb σ H (tx b)) (hs : a.length ≤ 100000) : Ev (tM1 (fun x xs H Q => ∃ a b, x = .str a ∧ xs = [.str b] ∧ a.length ≤ sizeLine ∧ Q (.str (Txt.stripChars a b)) H) ta tb) σ H (tx (codes (Txt.stripChars (S a) (S b)))) := fun H1 e Q q =>
  h H1 e _ fun H2 e2 => ⟨⟨S a, rfl⟩, hb H2 (e.trans e2) _ fun H3 e3 => ⟨S a, S b, rfl, rfl, sz_of (by rw [S_len]; exact hs), by
    have := q H3 (e2.trans e3)
    unfold tx at this; rw [S_codes] at this; exact this⟩⟩
/-- all, any, sum of a new list; len of one -/
theorem ev_all {bs : List Bool} (h : EvL ta σ H (bs.map V.bl)) : Ev (tCB (rAll K) (tCons ta tNil)) σ H (.bl (bs.all id)) := fun H1 e Q q =>
  h H1 e _ fun p H2 _ e2 h2 => ⟨p, bs, rfl, sq_of h2, q H2 e2⟩
theorem ev_any {bs : List Bool} (h : EvL ta σ H (bs.map V.bl)) : Ev (tCB (rAny K) (tCons ta tNil)) σ H (.bl (bs.any id)) := fun H1 e Q q =>
  h H1 e _ fun p H2 _ e2 h2 => ⟨p, bs, rfl, sq_of h2, q H2 e2⟩
theorem ev_sumN {ns : List Int} (h : EvL ta σ H (ns.map V.int)) : Ev (tCB (rSum K) (tCons ta tNil)) σ H (.int ns.sum) := fun H1 e Q q =>
  h H1 e _ fun p H2 _ e2 h2 => ⟨p, ns, rfl, sq_of h2, q H2 e2⟩
theorem ev_sum {ns : List Int} {p : Addr} (h : Ev ta σ H (.ref p)) (hs : SqL K H p (ns.map V.int)) : Ev (tCB (rSum K) (tCons ta tNil)) σ H (.int ns.sum) := fun H1 e Q q =>
  h H1 e _ fun H2 e2 => ⟨p, ns, rfl, ex_l (e.trans e2) hs, q H2 e2⟩
theorem ev_len' {p : Addr} {xs : List V} (ha : Ev ta σ H (.ref p)) (h : SqL K H p xs) : Ev (tCB (rLenQ K) (tCons ta tNil)) σ H (.int (xs.length : Int)) := fun H1 e Q q =>
  ha H1 e _ fun H2 e2 => ⟨p, xs, rfl, Or.inl (ex_l (e.trans e2) h), q H2 e2⟩
theorem ev_listOf {p : Addr} {xs : List V} (ha : Ev ta σ H (.ref p)) (h : SqL K H p xs) : EvL (tCB (rListQ K) (tCons ta tNil)) σ H xs := el_list ha h
theorem ev_lenL {xs : List V} (ha : EvL ta σ H xs) : Ev (tCB (rLenQ K) (tCons ta tNil)) σ H (.int (xs.length : Int)) := ev_lenN ha
/-- isinstance of a scalar -/
theorem ev_isi {T : String} {tv : Value} {b : Bool} (h : Ev ta σ H x) (hc : Ev tb σ H (.ty T)) (hx : ∀ H1, Ex H H1 → TyX K H1 x tv) (e : PySem.W.kitOne K tv (.type T) = some b) : Ev (tCB (rIsi K) (tCons ta (tCons tb tNil))) σ H (.bl b) := fun H1 e1 Q q =>
  h H1 e1 _ fun H2 e2 => hc H2 (e1.trans e2) _ fun H3 e3 => ⟨x, .ty T, tv, .type T, b, rfl, .ty T, hx H3 ((e1.trans e2).trans e3), e, q H3 (e2.trans e3)⟩
theorem ty_list {p : Addr} {xs : List V} (h : SqL K H p xs) : ∀ H1, Ex H H1 → TyX K H1 (.ref p) (.type "list") := fun H1 e => by
  rcases h with (h | ⟨o, h⟩) | ⟨o, its, n, h, hc, _⟩
  · exact .base (.lst (e p _ h))
  · exact .base (.frz (e p _ h))
  · exact .kList h hc
theorem ty_int {i : Int} : ∀ H1, Ex H H1 → TyX K H1 (.int i) (.type "int") := fun _ _ => .base (.int i)
theorem ty_bl {i : Bool} : ∀ H1, Ex H H1 → TyX K H1 (.bl i) (.type "bool") := fun _ _ => .base (.bl i)
theorem ty_str {a : Wd} : ∀ H1, Ex H H1 → TyX K H1 (tx a) (.type "str") := fun _ _ => .base (.str (S a))
/-- comparisons chained -/
theorem ev_chain {r r' : R2} {a b : Bool} (ha : Ev ta σ H x) (hb : Ev tb σ H y) (hc : Ev te σ H z) (h1 : RV r x y H (.bl a)) (h2 : a = true → RV r' y z H (.bl b)) : Ev (tChain r r' ta tb te) σ H (.bl (a && b)) := fun H1 e Q q =>
  ha H1 e _ fun H2 e2 => hb H2 (e.trans e2) _ fun H3 e3 => h1 H3 ((e.trans e2).trans e3) _ fun H4 e4 => ⟨a, rfl, by
    have e04 := ((e.trans e2).trans e3).trans e4
    cases a with
    | true =>
      show te σ H4 _
      exact hc H4 e04 _ fun H5 e5 => h2 rfl H5 (e04.trans e5) Q fun H6 e6 => q H6 ((((e2.trans e3).trans e4).trans e5).trans e6)
    | false =>
      show Q (.bl false) H4
      exact q H4 ((e2.trans e3).trans e4)⟩
/-! comprehensions over lists -/
theorem given_all {α : Type} (ys : List α) (g : α → V) (v : Nat → V) (hv : ∀ i y, ys[i]? = some y → v i = g y) : given ys.length (fun _ => true) v = ys.map g := by
  unfold given
  rw [List.filter_eq_self.mpr (fun _ _ => rfl)]
  apply List.ext_getElem?
  intro i
  rw [List.getElem?_map, List.getElem?_map]
  rcases Nat.lt_or_ge i ys.length with h | h
  · rw [List.getElem?_range h, List.getElem?_eq_getElem h]
    show some (v i) = some (g ys[i])
    rw [hv i ys[i] (List.getElem?_eq_getElem h)]
  · rw [List.getElem?_eq_none (by simpa using h), List.getElem?_eq_none h]; rfl
theorem given_take {α : Type} (ys : List α) (p : α → Bool) (g : α → V) (f : Nat → Bool) (v : Nat → V) (h : ∀ i y, ys[i]? = some y → f i = p y ∧ v i = g y) : ∀ n, n ≤ ys.length → given n f v = ((ys.take n).filter p).map g
  | 0, _ => by simp [given]
  | n + 1, hn => by
    have ih := given_take ys p g f v h n (by omega)
    have hy := h n ys[n] (List.getElem?_eq_getElem (by omega))
    rw [List.take_succ, List.getElem?_eq_getElem (show n < ys.length by omega), List.filter_append, List.map_append]
    cases hp : p ys[n] with
    | true =>
      rw [given_yes (by rw [hy.1, hp]), ih, hy.2]
      simp [hp]
    | false =>
      rw [given_no (by rw [hy.1, hp]), ih]
      simp [hp]
theorem given_filter {α : Type} (ys : List α) (p : α → Bool) (g : α → V) (f : Nat → Bool) (v : Nat → V) (h : ∀ i y, ys[i]? = some y → f i = p y ∧ v i = g y) : given ys.length f v = (ys.filter p).map g := by
  rw [given_take ys p g f v h ys.length (Nat.le_refl _), List.take_length]
theorem el_map {α : Type} {a : Addr} {ys : List α} {tl : TE} {j : Nat} {vs : List Nat} (φ g : α → V) (h : Ev tl σ H (.ref a)) (hx : SqL K H a (ys.map φ)) (hz : ys.length ≤ 40000) (hw : ∀ x, wipe ((wipe σ vs).set j (some x)) vs = wipe σ vs)
    (he : ∀ y, y ∈ ys → Ev te ((wipe σ vs).set j (some (φ y))) H (g y)) : EvL (tLc (iList K tl) (gName j) tYes te vs) σ H (ys.map g) := by
  rcases Nat.eq_zero_or_pos ys.length with hn | hn
  · have e0 : ys = [] := List.eq_nil_of_length_eq_zero hn
    subst e0
    have := el_lcL (t := tYes) (te := te) (j := j) (vs := vs) (fun _ => true) (fun _ => V.non) h hx (by simp) hw (fun i x H1 _ hi => by simp at hi) (fun i x H1 _ hi => by simp at hi)
    simpa [given] using this
  · let y0 := ys[0]
    have := el_lcL (t := tYes) (te := te) (j := j) (vs := vs) (fun _ => true) (fun i => g (ys.getD i y0)) h hx (by simpa using hz) hw (fun i x H1 _ hi H2 e2 Q q => q H2 (Ex.refl H2)) (fun i x H1 e1 hi _ => by
      rw [List.getElem?_map] at hi
      cases hy : ys[i]? with
      | none => rw [hy] at hi; cases hi
      | some y =>
        rw [hy] at hi
        have ex : φ y = x := Option.some.inj hi
        subst ex
        have eg : ys.getD i y0 = y := by simp [List.getD, hy]
        rw [eg]
        exact (he y (List.mem_of_getElem? hy)).mono e1)
    rw [List.length_map, given_all ys g _ (fun i y hy => by simp [List.getD, hy])] at this
    exact this
theorem el_filter {α : Type} {a : Addr} {ys : List α} {tl : TE} {j : Nat} {vs : List Nat} (φ g : α → V) (p : α → Bool) (h : Ev tl σ H (.ref a)) (hx : SqL K H a (ys.map φ)) (hz : ys.length ≤ 40000) (hw : ∀ x, wipe ((wipe σ vs).set j (some x)) vs = wipe σ vs)
    (ht : ∀ y, y ∈ ys → EvT t ((wipe σ vs).set j (some (φ y))) H (p y)) (he : ∀ y, y ∈ ys → p y = true → Ev te ((wipe σ vs).set j (some (φ y))) H (g y)) : EvL (tLc (iList K tl) (gName j) t te vs) σ H ((ys.filter p).map g) := by
  rcases Nat.eq_zero_or_pos ys.length with hn | hn
  · have e0 : ys = [] := List.eq_nil_of_length_eq_zero hn
    subst e0
    have := el_lcL (t := t) (te := te) (j := j) (vs := vs) (fun _ => true) (fun _ => V.non) h hx (by simp) hw (fun i x H1 _ hi => by simp at hi) (fun i x H1 _ hi => by simp at hi)
    simpa [given] using this
  · let y0 := ys[0]
    have key : ∀ (i : Nat) (x : V), (ys.map φ)[i]? = some x → ∃ y, y ∈ ys ∧ ys[i]? = some y ∧ φ y = x ∧ ys.getD i y0 = y := fun i x hi => by
      rw [List.getElem?_map] at hi
      cases hy : ys[i]? with
      | none => rw [hy] at hi; cases hi
      | some y =>
        rw [hy] at hi
        exact ⟨y, List.mem_of_getElem? hy, rfl, Option.some.inj hi, by simp [List.getD, hy]⟩
    have := el_lcL (t := t) (te := te) (j := j) (vs := vs) (fun i => p (ys.getD i y0)) (fun i => g (ys.getD i y0)) h hx (by simpa using hz) hw (fun i x H1 e1 hi => by
      obtain ⟨y, hm, _, rfl, eg⟩ := key i x hi
      rw [eg]; exact (ht y hm).mono e1) (fun i x H1 e1 hi hf => by
      obtain ⟨y, hm, _, rfl, eg⟩ := key i x hi
      rw [eg] at hf ⊢
      exact (he y hm hf).mono e1)
    rw [List.length_map, given_filter ys p g _ _ (fun i y hy => ⟨by simp [List.getD, hy], by simp [List.getD, hy]⟩)] at this
    exact this
/-- over a new list -/
theorem el_mapN {α : Type} {ys : List α} {tl : TE} {j : Nat} {vs : List Nat} (φ g : α → V) (h : EvL tl σ H (ys.map φ)) (hz : ys.length ≤ 40000) (hw : ∀ x, wipe ((wipe σ vs).set j (some x)) vs = wipe σ vs)
    (he : ∀ y, y ∈ ys → Ev te ((wipe σ vs).set j (some (φ y))) H (g y)) : EvL (tLc (iList K tl) (gName j) tYes te vs) σ H (ys.map g) := by
  rcases Nat.eq_zero_or_pos ys.length with hn | hn
  · have e0 : ys = [] := List.eq_nil_of_length_eq_zero hn
    subst e0
    have := el_lcNL (K := K) (t := tYes) (te := te) (j := j) (vs := vs) (fun _ => true) (fun _ => V.non) h (by simp) hw (fun i x H1 _ hi => by simp at hi) (fun i x H1 _ hi => by simp at hi)
    simpa [given] using this
  · let y0 := ys[0]
    have := el_lcNL (K := K) (t := tYes) (te := te) (j := j) (vs := vs) (fun _ => true) (fun i => g (ys.getD i y0)) h (by simpa using hz) hw (fun i x H1 _ hi H2 e2 Q q => q H2 (Ex.refl H2)) (fun i x H1 e1 hi _ => by
      rw [List.getElem?_map] at hi
      cases hy : ys[i]? with
      | none => rw [hy] at hi; cases hi
      | some y =>
        rw [hy] at hi
        have ex : φ y = x := Option.some.inj hi
        subst ex
        have eg : ys.getD i y0 = y := by simp [List.getD, hy]
        rw [eg]
        exact (he y (List.mem_of_getElem? hy)).mono e1)
    rw [List.length_map, given_all ys g _ (fun i y hy => by simp [List.getD, hy])] at this
    exact this
/-- over a range from 0 -/
theorem el_range {ta : TA} {j : Nat} {vs : List Nat} (n : Nat) (g : Nat → V) (h : EvA ta σ H [.int (n : Int)]) (hn : n ≤ 40000) (hw : ∀ x, wipe ((wipe σ vs).set j (some x)) vs = wipe σ vs)
    (he : ∀ i, i < n → Ev te ((wipe σ vs).set j (some (.int (i : Int)))) H (g i)) : EvL (tLc (iRng1 ta) (gName j) tYes te vs) σ H ((List.range n).map g) := by
  have := el_lcR1 (t := tYes) (te := te) (j := j) (vs := vs) (fun _ => true) g h ⟨by omega, by omega⟩ hw (fun i H1 _ hi H2 e2 Q q => q H2 (Ex.refl H2)) (fun i H1 e1 hi _ => (he i (by omega)).mono e1)
  have e : (n : Int).toNat = n := by omega
  rw [e] at this
  unfold given at this
  rw [List.filter_eq_self.mpr (fun _ _ => rfl)] at this
  exact this
/-! .. by the kind of the items -/
section
variable {α : Type} {a : Addr} {ys : List α} {tl : TE} {j : Nat} {vs : List Nat} {φ : α → V}
theorem el_mapB {g : α → Bool} (h : Ev tl σ H (.ref a)) (hx : SqL K H a (ys.map φ)) (hz : ys.length ≤ 40000) (hw : ∀ x, wipe ((wipe σ vs).set j (some x)) vs = wipe σ vs)
    (he : ∀ y, y ∈ ys → Ev te ((wipe σ vs).set j (some (φ y))) H (.bl (g y))) : EvL (tLc (iList K tl) (gName j) tYes te vs) σ H ((ys.map g).map V.bl) := by
  rw [List.map_map]; exact el_map φ (V.bl ∘ g) h hx hz hw he
theorem el_mapI {g : α → Int} (h : Ev tl σ H (.ref a)) (hx : SqL K H a (ys.map φ)) (hz : ys.length ≤ 40000) (hw : ∀ x, wipe ((wipe σ vs).set j (some x)) vs = wipe σ vs)
    (he : ∀ y, y ∈ ys → Ev te ((wipe σ vs).set j (some (φ y))) H (.int (g y))) : EvL (tLc (iList K tl) (gName j) tYes te vs) σ H ((ys.map g).map V.int) := by
  rw [List.map_map]; exact el_map φ (V.int ∘ g) h hx hz hw he
theorem el_mapS {g : α → Wd} (h : Ev tl σ H (.ref a)) (hx : SqL K H a (ys.map φ)) (hz : ys.length ≤ 40000) (hw : ∀ x, wipe ((wipe σ vs).set j (some x)) vs = wipe σ vs)
    (he : ∀ y, y ∈ ys → Ev te ((wipe σ vs).set j (some (φ y))) H (tx (g y))) : EvL (tLc (iList K tl) (gName j) tYes te vs) σ H ((ys.map g).map tx) := by
  rw [List.map_map]; exact el_map φ (tx ∘ g) h hx hz hw he
theorem el_mapNB {g : α → Bool} (h : EvL tl σ H (ys.map φ)) (hz : ys.length ≤ 40000) (hw : ∀ x, wipe ((wipe σ vs).set j (some x)) vs = wipe σ vs)
    (he : ∀ y, y ∈ ys → Ev te ((wipe σ vs).set j (some (φ y))) H (.bl (g y))) : EvL (tLc (iList K tl) (gName j) tYes te vs) σ H ((ys.map g).map V.bl) := by
  rw [List.map_map]; exact el_mapN φ (V.bl ∘ g) h hz hw he
theorem el_mapNS {g : α → Wd} (h : EvL tl σ H (ys.map φ)) (hz : ys.length ≤ 40000) (hw : ∀ x, wipe ((wipe σ vs).set j (some x)) vs = wipe σ vs)
    (he : ∀ y, y ∈ ys → Ev te ((wipe σ vs).set j (some (φ y))) H (tx (g y))) : EvL (tLc (iList K tl) (gName j) tYes te vs) σ H ((ys.map g).map tx) := by
  rw [List.map_map]; exact el_mapN φ (tx ∘ g) h hz hw he
theorem el_filterI {g : α → Int} {p : α → Bool} (h : Ev tl σ H (.ref a)) (hx : SqL K H a (ys.map φ)) (hz : ys.length ≤ 40000) (hw : ∀ x, wipe ((wipe σ vs).set j (some x)) vs = wipe σ vs)
    (ht : ∀ y, y ∈ ys → EvT t ((wipe σ vs).set j (some (φ y))) H (p y)) (he : ∀ y, y ∈ ys → p y = true → Ev te ((wipe σ vs).set j (some (φ y))) H (.int (g y))) : EvL (tLc (iList K tl) (gName j) t te vs) σ H (((ys.filter p).map g).map V.int) := by
  rw [List.map_map]; exact el_filter φ (V.int ∘ g) p h hx hz hw ht he
end
theorem el_rangeB {ta : TA} {j : Nat} {vs : List Nat} {n : Nat} {g : Nat → Bool} (h : EvA ta σ H [.int (n : Int)]) (hn : n ≤ 40000) (hw : ∀ x, wipe ((wipe σ vs).set j (some x)) vs = wipe σ vs)
    (he : ∀ i, i < n → Ev te ((wipe σ vs).set j (some (.int (i : Int)))) H (.bl (g i))) : EvL (tLc (iRng1 ta) (gName j) tYes te vs) σ H (((List.range n).map g).map V.bl) := by
  rw [List.map_map]; exact el_range n (V.bl ∘ g) h hn hw he
/-! ### straight code that gives back a value -/
def SEv (ts : TS) (σ : L2.St) (H : Hp) (v : V) : Prop := ∀ H1, Ex H H1 → ∀ D : Ends, (∀ H2, Ex H1 H2 → D.rt v H2) → ts D σ H1
theorem sev_run {ts : TS} {D : Ends} (h : SEv ts σ H v) (q : ∀ H2, Ex H H2 → D.rt v H2) : ts D σ H := h H (Ex.refl H) D q
theorem sev_is {ts : TS} {w : V} (h : SEv ts σ H v) (e : v = w) : SEv ts σ H w := by rw [← e]; exact h
theorem sev_ret (h : Ev te σ H v) : SEv (tRet te) σ H v := fun H1 e D k => h H1 e _ k
theorem sev_asg {i : Nat} {tz : TS} (h : Ev te σ H x) (k : SEv tz (σ.set i (some x)) H v) : SEv (tSeq (tAsg te (gName i)) tz) σ H v := fun H1 e D q =>
  h H1 e _ fun H2 e2 => k H2 (e.trans e2) D fun H3 e3 => q H3 (e2.trans e3)
theorem sev_when {b : Bool} {tu tz : TS} (h : EvT t σ H b) (k1 : b = true → SEv tu σ H v) (k2 : b = false → SEv tz σ H v) : SEv (tSeq (tIfS t tu tNext) tz) σ H v := fun H1 e D q =>
  h H1 e _ fun H2 e2 => by
    cases b with
    | true => exact k1 rfl H2 (e.trans e2) { D with nx := tz D } fun H3 e3 => q H3 (e2.trans e3)
    | false => exact k2 rfl H2 (e.trans e2) D fun H3 e3 => q H3 (e2.trans e3)
theorem sev_drop {tz : TS} (h : Ev te σ H x) (k : SEv tz σ H v) : SEv (tSeq (tDrop te) tz) σ H v := fun H1 e D q =>
  h H1 e _ fun H2 e2 => k H2 (e.trans e2) D fun H3 e3 => q H3 (e2.trans e3)
/-- code that falls through -/
def SNx (ts : TS) (σ : L2.St) (H : Hp) : Prop := ∀ H1, Ex H H1 → ∀ D : Ends, (∀ H2, Ex H1 H2 → D.nx σ H2) → ts D σ H1
theorem snx_skip {tu : TS} (h : EvT t σ H false) : SNx (tIfS t tu tNext) σ H := fun H1 e D q => h H1 e _ fun H2 e2 => q H2 e2
theorem snx_run {ts : TS} {D : Ends} (h : SNx ts σ H) (q : ∀ H2, Ex H H2 → D.nx σ H2) : ts D σ H := h H (Ex.refl H) D q
theorem sev_skip {tu tz : TS} (h : EvT t σ H false) (k : SEv tz σ H v) : SEv (tSeq (tIfS t tu tNext) tz) σ H v := fun H1 e D q =>
  h H1 e _ fun H2 e2 => k H2 (e.trans e2) D fun H3 e3 => q H3 (e2.trans e3)
/-- sep.join of a new list, the empty sep -/
theorem join_S (ys : List Wd) : Txt.join (S []) (ys.map S) = S ys.flatten := by
  apply TL.ext_tl
  rw [TL.join_eq, TL.tl_join, List.map_map]
  have h1 : TL.tl (S []) = [] := by simp [S, TL.tl]
  have h2 : ∀ zs : List Wd, TL.joinL [] zs = zs.flatten := by
    intro zs
    induction zs with
    | nil => rfl
    | cons z r ih =>
      cases r with
      | nil => simp [TL.joinL]
      | cons y r =>
        show z ++ ([] ++ TL.joinL [] (y :: r)) = _
        rw [ih]
        rfl
  have h3 : ys.map (TL.tl ∘ S) = ys := by
    have : (TL.tl ∘ S) = id := by funext a; simp [S, TL.tl]
    rw [this, List.map_id]
  rw [h1, h3, h2]
  simp [S, TL.tl]
theorem ev_join {ys : List Wd} (ha : Ev ta σ H (tx [])) (hb : EvL tb σ H (ys.map tx)) (hz : ys.flatten.length ≤ 100000) :
    Ev (tM1 (rJoin K) ta tb) σ H (tx ys.flatten) := fun H1 e Q q =>
  ha H1 e _ fun H2 e2 => ⟨⟨S [], rfl⟩, hb H2 (e.trans e2) _ fun p H3 hp e3 h3 => ⟨S [], p, ys.map S, rfl, rfl, .inl (sq_of (by rw [h3, List.map_map]; rfl)), by
    have h1 : (S []).length = 0 := by rw [S_len]; rfl
    have h2 : ((ys.map S).map (·.length)).sum = ys.flatten.length := by
      rw [List.map_map, List.length_flatten]
      exact congrArg List.sum (List.map_congr_left fun a _ => S_len a)
    rw [h1, h2]; omega, by rw [join_S]; exact q H3 (e2.trans e3)⟩⟩
/-! ### further loops -/
section
variable {D : Ends} {tu : TS}
theorem s_forRev {j : Nat} {n : Nat} (h : Ev ta σ H (.int (n : Int))) (hn : n ≤ 100000) (Pv : Nat → L2.St → Hp → Prop) (h0 : ∀ H1, Ex H H1 → Pv 0 σ H1)
    (hs : ∀ i σ' H', i < n → Pv i σ' H' → tu { D with nx := Pv (i + 1), ct := Pv (i + 1), bk := D.nx } (σ'.set j (some (.int ((n - 1 - i : Nat) : Int)))) H') (hd : ∀ σ' H', Pv n σ' H' → D.nx σ' H') :
    tFor (iRevR (tRg1 ta)) (gName j) tu D σ H :=
  h H (Ex.refl H) _ fun H1 e => ⟨(n : Int), rfl, by decide, by decide, by omega, by omega, by
    have e0 : ((n : Int) - 0).toNat = n := by omega
    rw [e0]
    refine for_rangeC Pv (h0 H1 e) (fun i σ' H' hi p => ?_) hd
    have e1 : (0 : Int) + (n : Int) - 1 + (i : Int) * (-1) = ((n - 1 - i : Nat) : Int) := by omega
    show tu _ (σ'.set j (some (.int ((0 : Int) + (n : Int) - 1 + (i : Int) * (-1))))) H'
    rw [e1]
    exact hs i σ' H' hi p⟩
theorem s_forEnum {i1 i2 : Nat} {a : Addr} {xs : List V} (h : Ev ta σ H (.ref a)) (hx : SqL K H a xs) (Pv : Nat → L2.St → Hp → Prop) (h0 : ∀ H1, Ex H H1 → Pv 0 σ H1) (hl : ∀ i σ' H', Pv i σ' H' → SqL K H' a xs)
    (hm : ∀ i σ' H' H'', Pv i σ' H' → Ex H' H'' → Pv i σ' H'')
    (hs : ∀ i x σ' H', xs[i]? = some x → Pv i σ' H' → tu { D with nx := Pv (i + 1), ct := Pv (i + 1), bk := D.nx } ((σ'.set i1 (some (.int (i : Int)))).set i2 (some x)) H') (hd : ∀ σ' H', Pv xs.length σ' H' → D.nx σ' H') :
    tFor (iEnum K (tCons ta tNil)) (gTup K 2 (gCons (gName i1) (gCons (gName i2) gNil))) tu D σ H :=
  h H (Ex.refl H) _ fun H1 e => ⟨a, xs, rfl, ex_l e hx, fun i m σ' H' => Pv i σ' H' ∧ i + m = xs.length, ⟨xs.length, h0 H1 e, by omega⟩, fun i m σ' H' hw => by
    obtain ⟨p, em⟩ := hw
    rcases Nat.lt_or_ge i xs.length with hi | hi
    · have hx' : xs[i]? = some xs[i] := List.getElem?_eq_getElem hi
      refine .inr ⟨⟨xs, xs[i], hl i σ' H' p, hx'⟩, Pv (i + 1), fun σ2 H2 p2 => ⟨m - 1, by omega, p2, by omega⟩, fun x H2 hy => ?_⟩
      obtain ⟨T, y, rfl, nT, rfl, f⟩ := hy
      have ey : y = xs[i] := Option.some.inj ((f xs (hl i σ' H' p)).symm.trans hx')
      subst ey
      refine ⟨T, [.int (i : Int), xs[i]], rfl, st_of upd_same, rfl, _, _, rfl, _, _, rfl, rfl, ?_⟩
      exact hs i xs[i] σ' _ hx' (hm i σ' H' _ p (Ex.new nT))
    · have ei : i = xs.length := by omega
      subst ei
      exact .inl ⟨⟨xs, hl _ σ' H' p, Nat.le_refl _⟩, hd σ' H' p⟩⟩
variable {tz : TS}
theorem q_forRev {j : Nat} {n : Nat} (h : Ev ta σ H (.int (n : Int))) (hn : n ≤ 100000) (Pv : Nat → L2.St → Hp → Prop) (h0 : ∀ H1, Ex H H1 → Pv 0 σ H1)
    (hs : ∀ i σ' H', i < n → Pv i σ' H' → tu { D with nx := Pv (i + 1), ct := Pv (i + 1), bk := tz D } (σ'.set j (some (.int ((n - 1 - i : Nat) : Int)))) H') (hd : ∀ σ' H', Pv n σ' H' → tz D σ' H') :
    tSeq (tFor (iRevR (tRg1 ta)) (gName j) tu) tz D σ H := s_forRev (D := { D with nx := tz D }) h hn Pv h0 hs hd
theorem q_forEnum {i1 i2 : Nat} {a : Addr} {xs : List V} (h : Ev ta σ H (.ref a)) (hx : SqL K H a xs) (Pv : Nat → L2.St → Hp → Prop) (h0 : ∀ H1, Ex H H1 → Pv 0 σ H1) (hl : ∀ i σ' H', Pv i σ' H' → SqL K H' a xs)
    (hm : ∀ i σ' H' H'', Pv i σ' H' → Ex H' H'' → Pv i σ' H'')
    (hs : ∀ i x σ' H', xs[i]? = some x → Pv i σ' H' → tu { D with nx := Pv (i + 1), ct := Pv (i + 1), bk := tz D } ((σ'.set i1 (some (.int (i : Int)))).set i2 (some x)) H') (hd : ∀ σ' H', Pv xs.length σ' H' → tz D σ' H') :
    tSeq (tFor (iEnum K (tCons ta tNil)) (gTup K 2 (gCons (gName i1) (gCons (gName i2) gNil))) tu) tz D σ H := s_forEnum (D := { D with nx := tz D }) h hx Pv h0 hl hm hs hd
/-- a list handed out by an own def, straight on -/
theorem q_dropS {tz : TS} (h : Ev te σ H x) (k : ∀ H1, Ex H H1 → tz D σ H1) : tSeq (tDrop te) tz D σ H := q_drop h k
theorem q_skip {t : TT} (h : EvT t σ H false) (k : ∀ H1, Ex H H1 → tz D σ H1) : tSeq (tIfS t tu tNext) tz D σ H := h H (Ex.refl H) _ fun H1 e => k H1 e
end
end
end Tr

set_option Elab.async false
set_option linter.all false
set_option maxRecDepth 100000
set_option maxHeartbeats 4000000
/-! TrD: dicts, lists of one kind compared, by Ev. -/
namespace Tr
open PySem PySem.Spec PyProof.Rows L2 Evl
section
variable {K : PySem.W.Frag} {σ : L2.St} {H H' : Hp} {ta tb te td ty tx' : TE} {t u : TT} {x y z v : V} {D : Ends} {tz tu : TS}
/-! ### dicts -/
theorem ev_dget {a : Addr} {kvs : List (Key × V)} {k : Key} (hd : Ev td σ H (.ref a)) (hi : Ev ty σ H (kV k)) (he : Rd H a (.dK kvs)) (hv : valV kvs k = some v) : Ev (tDGet td ty) σ H v := fun H1 e Q q =>
  hd H1 e _ fun H2 e2 => hi H2 (e.trans e2) _ fun H3 e3 => ⟨a, v, rfl, .inl ⟨kvs, k, ex_rd ((e.trans e2).trans e3) he, rfl, hv.symm⟩, q H3 (e2.trans e3)⟩
theorem ev_dget2 {a : Addr} {kvs : List (Key × V)} {k : Key} (hd : Ev td σ H (.ref a)) (hi : Ev ty σ H (kV k)) (hx : Ev tx' σ H x) (he : Rd H a (.dK kvs)) : Ev (tDGet2 td ty tx') σ H ((valV kvs k).getD x) := fun H1 e Q q =>
  hd H1 e _ fun H2 e2 => ⟨a, rfl, .inl ⟨kvs, ex_rd (e.trans e2) he⟩, hi H2 (e.trans e2) _ fun H3 e3 => hx H3 ((e.trans e2).trans e3) _ fun H4 e4 =>
    ⟨_, .inl ⟨kvs, k, ex_rd (((e.trans e2).trans e3).trans e4) he, rfl, rfl⟩, q H4 ((e2.trans e3).trans e4)⟩⟩
theorem ev_din {a : Addr} {kvs : List (Key × V)} {k : Key} (hi : Ev ty σ H (kV k)) (hd : Ev td σ H (.ref a)) (he : Rd H a (.dK kvs)) : Ev (tDIn ty td) σ H (.bl (valV kvs k).isSome) := fun H1 e Q q =>
  hi H1 e _ fun H2 e2 => hd H2 (e.trans e2) _ fun H3 e3 => ⟨a, _, rfl, .inl ⟨kvs, k, ex_rd ((e.trans e2).trans e3) he, rfl, rfl⟩, q H3 (e2.trans e3)⟩
theorem ev_dnotin {a : Addr} {kvs : List (Key × V)} {k : Key} (hi : Ev ty σ H (kV k)) (hd : Ev td σ H (.ref a)) (he : Rd H a (.dK kvs)) : Ev (tDNotIn ty td) σ H (.bl (!(valV kvs k).isSome)) := fun H1 e Q q =>
  hi H1 e _ fun H2 e2 => hd H2 (e.trans e2) _ fun H3 e3 => ⟨a, _, rfl, .inl ⟨kvs, k, ex_rd ((e.trans e2).trans e3) he, rfl, rfl⟩, q H3 (e2.trans e3)⟩
theorem s_dput {a : Addr} {kvs : List (Key × V)} {k : Key} {tv : TE} (hk : H a = some (.dK kvs)) (hv : Ev tv σ H v) (hd : Ev td σ H (.ref a)) (hi : Ev ty σ H (kV k)) (hz : kvs.length < 100000)
    (q : ∀ H1, Ex H H1 → D.nx σ (upd H1 a (.dK (putK kvs k v)))) : sDPut td ty tv D σ H := hv H (Ex.refl H) _ fun H1 e1 => hd H1 e1 _ fun H2 e2 => hi H2 (e1.trans e2) _ fun H3 e3 =>
  ⟨a, _, rfl, DPut.k (((e1.trans e2).trans e3) a _ hk) (sz_lt hz), q H3 ((e1.trans e2).trans e3)⟩
theorem q_dput {a : Addr} {kvs : List (Key × V)} {k : Key} {tv : TE} (hk : H a = some (.dK kvs)) (hv : Ev tv σ H v) (hd : Ev td σ H (.ref a)) (hi : Ev ty σ H (kV k)) (hz : kvs.length < 100000)
    (q : ∀ H1, Ex H H1 → tz D σ (upd H1 a (.dK (putK kvs k v)))) : tSeq (sDPut td ty tv) tz D σ H := s_dput (D := { D with nx := tz D }) hk hv hd hi hz q
theorem putK_len {κ : Type} [DecidableEq κ] (kvs : List (κ × V)) (k : κ) (v : V) : (putK kvs k v).length ≤ kvs.length + 1 := by
  unfold putK
  split
  · rw [List.length_map]; omega
  · rw [List.length_append]; simp
/-- x = {k: v} -/
theorem q_asgD1 {i : Nat} {k : Key} {tk tv : TE} (hk : Ev tk σ H (kV k)) (hv : Ev tv σ H v) (q : ∀ p H1, H p = none → Ex H H1 → H1 p = some (.dK [(k, v)]) → tz D (σ.set i (some (.ref p))) H1) : tSeq (tAsg (tDisp [(tk, tv)]) (gName i)) tz D σ H := fun p hp => by
  have e0 : Ex H (upd H p (.dK [])) := Ex.new hp
  refine hk _ e0 _ fun H2 e2 => hv H2 (e0.trans e2) _ fun H3 e3 => ?_
  have ep : H3 p = some (.dK []) := (e2.trans e3) p _ upd_same
  refine ⟨ep, [(k, v)], rfl, by simp, ?_⟩
  have em : mergeK [] [(k, v)] = [(k, v)] := by simp [mergeK, putK]
  rw [em]
  exact q p _ hp (Ex.mut ((e0.trans e2).trans e3) hp) upd_same
/-- x = {} -/
theorem q_asgD0 {i : Nat} (q : ∀ p, H p = none → tz D (σ.set i (some (.ref p))) (upd H p (.dK []))) : tSeq (tAsg tDNewK (gName i)) tz D σ H := fun p hp => q p hp
/-- if t: xs.append(e) -/
theorem q_ifApp {b : Bool} {l : Addr} {xs : List V} (hl : H l = some (.lst xs)) (h : EvT t σ H b) (ha : Ev ta σ H (.ref l)) (hx : b = true → Ev te σ H v) (hz : xs.length < 100000)
    (k : ∀ H0, Ex H H0 → tz D σ (upd H0 l (.lst (if b = true then xs ++ [v] else xs)))) : tSeq (tIfS t (tDrop (tBM K "list" rAppend ta (tCons te tNil))) tNext) tz D σ H := by
  refine q_when h (fun hb H1 e1 => ?_) (fun hb H1 e1 => ?_)
  · refine s_app (e1 l _ hl) (ha.mono e1) ((hx hb).mono e1) hz fun H2 e2 => ?_
    have := k H2 (e1.trans e2)
    rw [if_pos hb] at this
    exact this
  · have := k H1 e1
    rw [if_neg (by rw [hb]; decide)] at this
    have e : upd H1 l (.lst xs) = H1 := by
      funext a
      by_cases ha : a = l
      · subst ha; rw [upd_same, e1 _ _ hl]
      · rw [upd_ne ha]
    rw [e] at this
    exact this
/-! ### a value that is a list by now -/
def EvQ (K : PySem.W.Frag) (te : TE) (σ : L2.St) (H : Hp) (xs : List V) : Prop := ∀ H1, Ex H H1 → ∀ Q : VK, (∀ p H2, Ex H1 H2 → SqL K H2 p xs → Q (.ref p) H2) → te σ H1 Q
theorem eq_at {p : Addr} {xs : List V} (h : Ev te σ H (.ref p)) (hs : SqL K H p xs) : EvQ K te σ H xs := fun H1 e Q q => h H1 e _ fun H2 e2 => q p H2 e2 (ex_l (e.trans e2) hs)
theorem eq_new {xs : List V} (h : EvL te σ H xs) : EvQ K te σ H xs := fun H1 e Q q => h H1 e _ fun p H2 _ e2 h2 => q p H2 e2 (sq_of h2)
theorem EvQ.mono {xs : List V} (e : Ex H H') (h : EvQ K te σ H xs) : EvQ K te σ H' xs := fun H1 a Q q => h H1 (e.trans a) Q q
/-! ### data of one kind -/
structure Enc {α : Type} [DecidableEq α] (φ : α → V) (δ : α → PyData) (ok : α → Prop) : Prop where
  dp : ∀ (K : PySem.W.Frag) (H : Hp) a, Dp K H (φ a) (δ a)
  lay : ∀ a, ok a → (δ a).canLay0 = true
  depth : ∀ a, (δ a).depth = 0
  eqv : ∀ a b, PyData.eqv (δ a) (δ b) = decide (a = b)
theorem enc_int : Enc V.int PyData.int (fun _ => True) := ⟨fun _ _ i => .int i, fun _ _ => by simp [PyData.canLay0], fun _ => by simp [PyData.depth], fun a b => by
  simp only [PyData.eqv]; by_cases h : a = b <;> simp [h]⟩
theorem enc_bl : Enc V.bl PyData.bool (fun _ => True) := ⟨fun _ _ i => .bl i, fun _ _ => by simp [PyData.canLay0], fun _ => by simp [PyData.depth], fun a b => by
  simp only [PyData.eqv]; by_cases h : a = b <;> simp [h]⟩
def okC (a : Wd) : Prop := ∀ c ∈ a, c < 0x110000
theorem enc_tx : Enc tx (fun a => PyData.str (S a)) okC := ⟨fun _ _ a => .str (S a), fun a h => by
    rw [PyData.canLay0]
    unfold PyData.strOk
    rw [Array.all_eq_true_iff_forall_mem]
    intro c hc
    exact decide_eq_true (h c (by simpa [S] using hc)), fun _ => by simp [PyData.depth], fun a b => by
  simp only [PyData.eqv]
  by_cases h : a = b
  · subst h; simp
  · have : ¬ S a = S b := fun e => h (S_inj e)
    simp [h, this]⟩
section
variable {α : Type} [DecidableEq α] {φ : α → V} {δ : α → PyData} {ok : α → Prop}
theorem enc_all (E : Enc φ δ ok) (K : PySem.W.Frag) (H : Hp) : ∀ xs : List α, DpAll K H (xs.map φ) (xs.map δ)
  | [] => .nil
  | x :: xs => .cons (E.dp K H x) (enc_all E K H xs)
theorem enc_lay (E : Enc φ δ ok) : ∀ xs : List α, (∀ x ∈ xs, ok x) → PyData.canLayAll0 (xs.map δ) = true
  | [], _ => by simp [PyData.canLayAll0]
  | x :: xs, h => by
    rw [List.map_cons, PyData.canLayAll0, E.lay x (h x (by simp)), enc_lay E xs fun y hy => h y (by simp [hy])]
    rfl
theorem enc_depth (E : Enc φ δ ok) : ∀ xs : List α, PyData.depthAll (xs.map δ) = 0
  | [] => by simp [PyData.depthAll]
  | x :: xs => by
    rw [List.map_cons, PyData.depthAll, E.depth x, enc_depth E xs]
    rfl
theorem enc_eqv (E : Enc φ δ ok) : ∀ xs ys : List α, PyData.eqvAll (xs.map δ) (ys.map δ) = decide (xs = ys)
  | [], [] => by simp [PyData.eqvAll]
  | [], _ :: _ => by simp [PyData.eqvAll]
  | _ :: _, [] => by simp [PyData.eqvAll]
  | x :: xs, y :: ys => by
    rw [List.map_cons, List.map_cons, PyData.eqvAll, E.eqv x y, enc_eqv E xs ys]
    by_cases h1 : x = y <;> by_cases h2 : xs = ys <;> simp [h1, h2]
theorem enc_shaped (E : Enc φ δ ok) (xs : List α) (h : ∀ x ∈ xs, ok x) : SeqAt.shaped (.list (xs.map δ)) = true := by
  unfold SeqAt.shaped
  rw [PyData.canLay0, enc_lay E xs h, PyData.depth, enc_depth E xs]
  rfl
theorem rv_eqLs {a b : Addr} {xs ys : List α} (E : Enc φ δ ok) (ha : SqL K H a (xs.map φ)) (hb : SqL K H b (ys.map φ)) (h1 : ∀ x ∈ xs, ok x) (h2 : ∀ x ∈ ys, ok x) : RV (rEqD K) (.ref a) (.ref b) H (.bl (decide (xs = ys))) := fun H1 e Q q =>
  ⟨.list (xs.map δ), .list (ys.map δ), .lst (ex_l e ha) (enc_all E K H1 xs), .lst (ex_l e hb) (enc_all E K H1 ys), enc_shaped E xs h1, enc_shaped E ys h2, by
    rw [PyData.eqv, enc_eqv E xs ys]
    exact q H1 (Ex.refl H1)⟩
theorem rv_neLs {a b : Addr} {xs ys : List α} (E : Enc φ δ ok) (ha : SqL K H a (xs.map φ)) (hb : SqL K H b (ys.map φ)) (h1 : ∀ x ∈ xs, ok x) (h2 : ∀ x ∈ ys, ok x) : RV (rNeD K) (.ref a) (.ref b) H (.bl (!decide (xs = ys))) := fun H1 e Q q =>
  ⟨.list (xs.map δ), .list (ys.map δ), .lst (ex_l e ha) (enc_all E K H1 xs), .lst (ex_l e hb) (enc_all E K H1 ys), enc_shaped E xs h1, enc_shaped E ys h2, by
    rw [PyData.eqv, enc_eqv E xs ys]
    exact q H1 (Ex.refl H1)⟩
theorem ev_eqQ {xs ys : List α} (E : Enc φ δ ok) (ha : EvQ K ta σ H (xs.map φ)) (hb : EvQ K tb σ H (ys.map φ)) (h1 : ∀ x ∈ xs, ok x) (h2 : ∀ x ∈ ys, ok x) : Ev (tOp (rEqD K) ta tb) σ H (.bl (decide (xs = ys))) := fun H1 e Q q =>
  ha H1 e _ fun p H2 e2 s2 => hb H2 (e.trans e2) _ fun p3 H3 e3 s3 => rv_eqLs E (ex_l e3 s2) s3 h1 h2 H3 (Ex.refl H3) Q fun H4 e4 => q H4 ((e2.trans e3).trans e4)
theorem ev_neQ {xs ys : List α} (E : Enc φ δ ok) (ha : EvQ K ta σ H (xs.map φ)) (hb : EvQ K tb σ H (ys.map φ)) (h1 : ∀ x ∈ xs, ok x) (h2 : ∀ x ∈ ys, ok x) : Ev (tOp (rNeD K) ta tb) σ H (.bl (!decide (xs = ys))) := fun H1 e Q q =>
  ha H1 e _ fun p H2 e2 s2 => hb H2 (e.trans e2) _ fun p3 H3 e3 s3 => rv_neLs E (ex_l e3 s2) s3 h1 h2 H3 (Ex.refl H3) Q fun H4 e4 => q H4 ((e2.trans e3).trans e4)
end
/-- a new list of what follows -/
theorem el_lst0 : EvL (tLst tNil) σ H [] := el_lst ea_nil (by simp)
end
end Tr

set_option Elab.async false
set_option linter.all false
set_option maxRecDepth 100000
set_option maxHeartbeats 4000000
/-! TrO: objects of own classes: made, asked for a field, their methods called. -/
namespace Tr
open PySem PySem.Spec PyProof.Rows L2 Evl
section
variable {P : Program} {w : World} {K : PySem.W.Frag} {mg : Str → Option Value} {base : Heap}
/-- a class whose instances are plain; isinstance of them -/
structure ClsI (K : PySem.W.Frag) (C : Addr) : Prop where
  cl : Cls K C
  ha : PySem.W.findIn K (.ref C) "__class__" = some (some (.builtin "object.__class__"))
  hn : PySem.W.specialIn K (.builtin "object.__class__") "__get__" = some (some (.builtin "getset_descriptor.__get__"))
  ht : PySem.W.takesIn K (.builtin "object.__class__") = some true
  hm : PySem.W.mroIn K C (.type "object") = some true
/-- a class that may be called -/
structure MkAt (P : Program) (w : World) (K : PySem.W.Frag) (mg : Str → Option Value) (base : Heap) (k : Nat) (x : Str) (C : Addr) (sp : Sp) : Prop where
  ex : ∃ (f : Addr) (fd : FuncData) (ps : List Str), FnOk P w K mg base (L2N.CX P w) k f fd ps sp ∧ Mk K C f ∧ Binds K fd ps []
  g : mg x = some (.ref C)
/-- a method -/
structure MCal (P : Program) (w : World) (K : PySem.W.Frag) (mg : Str → Option Value) (base : Heap) (k : Nat) (C : Addr) (m : Str) (sp : Sp) : Prop where
  ex : ∃ (f : Addr) (fd : FuncData) (ps : List Str), FnOk P w K mg base (L2N.CX P w) k f fd ps sp ∧ Meth K C m f ∧ Binds K fd ps []
  cl : Cls K C
structure IniAt (K : PySem.W.Frag) (C : Addr) (q : Str) (st : Stmt) (ps : List Str) : Prop where
  ex : ∃ (f : Addr) (fd : FuncData), Fun K "__init__" q st f fd ∧ Mk K C f ∧ Binds K fd ps []
structure MthAt (K : PySem.W.Frag) (C : Addr) (m q : Str) (st : Stmt) (ps : List Str) : Prop where
  ex : ∃ (f : Addr) (fd : FuncData), Fun K m q st f fd ∧ Meth K C m f ∧ Binds K fd ps []
theorem fnq_of {x qq : Str} {st : Stmt} {N ps : List Str} {k : Nat} {sp : Sp} {f : Addr} {fd : FuncData} (F : Fun K x qq st f fd) (S : FnScope N ps (defScope st)) (len : ∀ vs H Q E, sp vs H Q E → vs.length = ps.length)
    (hbody : ∀ (f : Addr) (cdv : Value) (A : Around) (outer : List Env) (s : Shared) (H : Hp) (vs : List V) (Q : VK) (E : XK), Room k (A.deeper (envOfC qq (defScope st) s.heap.objs.size f cdv)) → sp vs H Q E →
      ∃ t, PSs (cxOf (L2N.CX P w) P w K mg base N qq (defScope st) f cdv A outer s H E).nox (defBody st) t ∧ t { nx := fun _ H' => Q .non H', rt := Q } (start N vs) H) : FnOk P w K mg base (L2N.CX P w) (k + 1) f fd ps sp := by
  obtain ⟨oc, od, kV, doc, pm, an, cdv, ct, osl, rfl, lk, hcd⟩ := F.ex
  refine fn_of lk hcd S len fun A outer s H vs Q E hr hsp => ?_
  obtain ⟨t, h, q⟩ := hbody f cdv A outer s H vs Q E hr hsp
  exact ⟨t, h.nox, q⟩
theorem mk_ofI {x qq : Str} {C : Addr} {st : Stmt} {N ps : List Str} {k : Nat} {sp : Sp} (g : mg x = some (.ref C)) (D : IniAt K C qq st ps) (S : FnScope N ps (defScope st)) (len : ∀ vs H Q E, sp vs H Q E → vs.length = ps.length)
    (hbody : ∀ (f : Addr) (cdv : Value) (A : Around) (outer : List Env) (s : Shared) (H : Hp) (vs : List V) (Q : VK) (E : XK), Room k (A.deeper (envOfC qq (defScope st) s.heap.objs.size f cdv)) → sp vs H Q E →
      ∃ t, PSs (cxOf (L2N.CX P w) P w K mg base N qq (defScope st) f cdv A outer s H E).nox (defBody st) t ∧ t { nx := fun _ H' => Q .non H', rt := Q } (start N vs) H) : MkAt P w K mg base (k + 1) x C sp := by
  obtain ⟨f, fd, F, M, b⟩ := D.ex
  exact ⟨⟨f, fd, ps, fnq_of F S len hbody, M, b⟩, g⟩
theorem mcal_of {m qq : Str} {C : Addr} {st : Stmt} {N ps : List Str} {k : Nat} {sp : Sp} (cl : Cls K C) (D : MthAt K C m qq st ps) (S : FnScope N ps (defScope st)) (len : ∀ vs H Q E, sp vs H Q E → vs.length = ps.length)
    (hbody : ∀ (f : Addr) (cdv : Value) (A : Around) (outer : List Env) (s : Shared) (H : Hp) (vs : List V) (Q : VK) (E : XK), Room k (A.deeper (envOfC qq (defScope st) s.heap.objs.size f cdv)) → sp vs H Q E →
      ∃ t, PSs (cxOf (L2N.CX P w) P w K mg base N qq (defScope st) f cdv A outer s H E).nox (defBody st) t ∧ t { nx := fun _ H' => Q .non H', rt := Q } (start N vs) H) : MCal P w K mg base (k + 1) C m sp := by
  obtain ⟨f, fd, F, M, b⟩ := D.ex
  exact ⟨⟨f, fd, ps, fnq_of F S len hbody, M, b⟩, cl⟩
end
section
variable {X : Cx} {k j : Nat} {x m : Str} {sp : Sp} {p pos apos : Pos} {o e : Expr} {es : List Expr} {t : TA} {to : TE} {C : Addr}
theorem pe_mk (c : MkAt X.prog X.w X.K X.mg X.base k x C sp) (hr : Room j X.A) (hk : k + 1 ≤ j) (hg : Gl X x) (ha : PA X (e :: es) t) (hdb : (x == ("__debug__" : Str)) = false := by decide)
    (he : starEach (e :: es) X.env = (false, eval e X.env) :: starEach es X.env := by rfl) (hpl : (backTo pos (starEach es X.env)).any (·.1) = false := by rfl) : PE X (.Call (.Name x p) (e :: es) [] pos) (tMake C sp [] E0 t) := by
  obtain ⟨f, fd, ps, F, M, b⟩ := c.ex
  exact pe_make M F (hr.mono hk) hg c.g b .nil passN ha hdb he hpl
theorem pe_mth {pl : Sem Bool} (c : MCal X.prog X.w X.K X.mg X.base k C m sp) (hr : Room j X.A) (hk : k ≤ j) (ho : PE X o to) (ha : PA X (e :: es) t)
    (hst : starEach (e :: es) X.env = (false, eval e X.env) :: starEach es X.env := by rfl) (hpl : (backTo pos (starEach es X.env)).any (·.1) = false := by rfl)
    (ht : eval (.Call (.Attribute o m apos) (e :: es) [] pos) X.env = (do
      let ov ← eval o X.env
      standAt apos.atName
      let (f, first) ← holding [ov] (getMethod ov m pl)
      callWith pos f first (backTo pos (starEach (e :: es) X.env)) (backToKw pos (keywordEach [] X.env))) := by rfl) : PE X (.Call (.Attribute o m apos) (e :: es) [] pos) (tMeth C m sp [] E0 to t) := by
  obtain ⟨f, fd, ps, F, M, b⟩ := c.ex
  exact pe_meth ho c.cl M F (hr.mono hk) b .nil passN ha hst hpl ht
/-- this way or that -/
def tAlt (t u : TE) : TE := fun σ H Q => t σ H Q ∨ u σ H Q
theorem pe_alt {t1 t2 : TE} (h1 : PE X e t1) (h2 : PE X e t2) : PE X e (tAlt t1 t2) := ⟨fun pins s σ H Q I h => by
  rcases h with h | h
  · exact h1.run pins s σ H Q I h
  · exact h2.run pins s σ H Q I h⟩
end
section
variable {K : PySem.W.Frag} {σ : L2.St} {H H' : Hp} {ta tb te tl : TE} {t : TA} {x v : V} {D : Ends} {tz tu : TS} {C o dx : Addr} {fs : List (Str × V)}
theorem ev_altL (h : Ev ta σ H v) : Ev (tAlt ta tb) σ H v := fun H1 e Q q => .inl (h H1 e Q q)
theorem ev_altR (h : Ev tb σ H v) : Ev (tAlt ta tb) σ H v := fun H1 e Q q => .inr (h H1 e Q q)
theorem ev_fld {f : Str} (h : Ev ta σ H (.ref o)) (ho : H o = some (.ins C dx fs)) (c : Cls K C) (n : NoAttr K C f) (l : fs.lookup f = some v) : Ev (tFld K ta f) σ H v := fun H1 e Q q =>
  h H1 e _ fun H2 e2 => ⟨o, C, dx, fs, v, rfl, (e.trans e2) o _ ho, c, n, l, q H2 e2⟩
theorem ev_mth {m : Str} {sp : Sp} {vs : List V} (h : Ev ta σ H (.ref o)) (ho : H o = some (.ins C dx fs)) (l : fs.lookup m = none) (ha : EvA t σ H vs) (hs : SpV sp (.ref o :: vs) H v) : Ev (tMeth C m sp [] E0 ta t) σ H v := fun H1 e Q q =>
  h H1 e _ fun H2 e2 => ⟨o, dx, fs, rfl, (e.trans e2) o _ ho, l, ha H2 (e.trans e2) _ fun H3 e3 => by
    rw [List.append_nil]
    exact hs H3 ((e.trans e2).trans e3) Q (fun H4 e4 => q H4 ((e2.trans e3).trans e4)) E0⟩
theorem ty_ins (c : ClsI K C) (ho : H o = some (.ins C dx fs)) : ∀ H1, Ex H H1 → TyX K H1 (.ref o) (.ref C) := fun H1 e => .base (.ins (e o _ ho) c.cl c.ha c.hn c.ht c.hm)
/-- isinstance of an own class -/
theorem ev_isC {T : Addr} {tv : Value} {b : Bool} (h : Ev ta σ H x) (hc : Ev tb σ H (.ref T)) (hx : ∀ H1, Ex H H1 → TyX K H1 x tv) (e : PySem.W.kitOne K tv (.ref T) = some b) : Ev (tCB (rIsi K) (tCons ta (tCons tb tNil))) σ H (.bl b) := fun H1 e1 Q q =>
  h H1 e1 _ fun H2 e2 => hc H2 (e1.trans e2) _ fun H3 e3 => ⟨x, .ref T, tv, .ref T, b, rfl, .own T, hx H3 ((e1.trans e2).trans e3), e, q H3 (e2.trans e3)⟩
/-- a list, not told more than by a property -/
def EvQX (K : PySem.W.Frag) (te : TE) (σ : L2.St) (H : Hp) (P : List V → Prop) : Prop := ∀ H1, Ex H H1 → ∀ Q : VK, (∀ p H2 xs, P xs → Ex H1 H2 → SqL K H2 p xs → Q (.ref p) H2) → te σ H1 Q
theorem eqx_of {xs : List V} (h : EvQ K te σ H xs) : EvQX K te σ H (fun ys => ys = xs) := fun H1 e Q q => h H1 e Q fun p H2 e2 h2 => q p H2 xs rfl e2 h2
theorem eqx_call {sp : Sp} {E : XK} {vs : List V} {P : List V → Prop} (h : EvA t σ H vs) (hs : ∀ H1, Ex H H1 → ∀ Q : VK, (∀ p H2 xs, P xs → Ex H1 H2 → SqL K H2 p xs → Q (.ref p) H2) → sp vs H1 Q E) : EvQX K (tCall sp [] E t) σ H P := fun H1 e Q q =>
  h H1 e _ fun H2 e2 => by
    rw [List.append_nil]
    exact hs H2 (e.trans e2) Q fun p H3 xs hP e3 h3 => q p H3 xs hP (e2.trans e3) h3
/-- a new object of C with one field, a new list -/
def EvB (te : TE) (σ : L2.St) (H : Hp) (C : Addr) (f : Str) (P : List V → Prop) : Prop := ∀ H1, Ex H H1 → ∀ Q : VK, (∀ o dx l H2 xs, P xs → H1 o = none → H1 l = none → l ≠ o → Ex H1 H2 → H2 o = some (.ins C dx [(f, .ref l)]) → H2 l = some (.lst xs) → Q (.ref o) H2) → te σ H1 Q
/-- .. of its __init__ -/
def spIni1 (K : PySem.W.Frag) (C : Addr) (f : Str) : Sp := fun vs H Q _ => ∃ (p q dx : Addr) (xs : List V), vs = [.ref p, .ref q] ∧ H p = some (.ins C dx []) ∧ SqL K H q xs ∧
  ∀ l H', l ≠ p → H l = none → (∀ b u, b ≠ p → H b = some u → H' b = some u) → H' p = some (.ins C dx [(f, .ref l)]) → H' l = some (.lst xs) → Q .non H'
theorem eb_make {f : Str} {P : List V → Prop} (h : EvQX K te σ H P) : EvB (tMake C (spIni1 K C f) [] E0 (tCons te tNil)) σ H C f P := fun H1 e Q q =>
  h H1 e _ fun p H2 xs hP e2 h2 => fun x dx nx nd ne => by
    have nu : upd H2 dx (.own x) x = none := by rw [upd_ne (Ne.symm ne)]; exact nx
    have ex : Ex H2 (upd (upd H2 dx (.own x)) x (.ins C dx [])) := (Ex.new nd).trans (Ex.new nu)
    refine ⟨x, p, dx, xs, rfl, upd_same, ex_l ex h2, fun l H' hlx nl kp hx hl => ⟨rfl, ?_⟩⟩
    have nl2 : H2 l = none := fresh_back ex nl
    refine q x dx l H' xs hP (fresh_back e2 nx) (fresh_back e2 nl2) hlx (fun b u hb => ?_) hx hl
    have hb2 := e2 b u hb
    have hbx : b ≠ x := fun z => by rw [z, nx] at hb2; cases hb2
    exact kp b u hbx (ex b u hb2)
theorem s_retB {f : Str} {P : List V → Prop} (h : EvB te σ H C f P) (k : ∀ o dx l H2 xs, P xs → H o = none → H l = none → l ≠ o → Ex H H2 → H2 o = some (.ins C dx [(f, .ref l)]) → H2 l = some (.lst xs) → D.rt (.ref o) H2) : tRet te D σ H := h H (Ex.refl H) _ k
/-- self.f = list(a), straight -/
theorem ini1_run {f : Str} {p q : Addr} {xs : List V} {σ : L2.St} (c : Cls K C) (n : NoAttr K C f) (hp : H p = some (.ins C dx [])) (hq : SqL K H q xs) (h0 : σ[0]? = some (some (.ref p))) (h1 : σ[1]? = some (some (.ref q)))
    (k : ∀ l H', l ≠ p → H l = none → (∀ b u, b ≠ p → H b = some u → H' b = some u) → H' p = some (.ins C dx [(f, .ref l)]) → H' l = some (.lst xs) → D.nx σ H') :
    sFld K (tVar 0) (tCB (rListQ K) (tCons (tVar 1) tNil)) f D σ H := (ev_listOf (ev_var h1) hq) H (Ex.refl H) _ fun l H1 nl e1 hl => (ev_var h0) H1 (Ex.refl _) _ fun H2 e2 => by
  have hp2 := (e1.trans e2) p _ hp
  have hlp : l ≠ p := fun z => by rw [z, hp] at nl; cases nl
  refine ⟨p, C, dx, [], rfl, hp2, c, n, by decide, k l _ hlp nl (fun b u hb hu => by rw [upd_ne hb]; exact (e1.trans e2) b u hu) ?_ (by rw [upd_ne hlp]; exact e2 l _ hl)⟩
  rw [upd_same]; rfl
end
end Tr

set_option linter.all false
/-! M3: counting readings, in plain Lean -/
namespace M3
abbrev Wd := List Nat
def pre (a t : Wd) : Bool := decide (t.take a.length = a)
def waysF (ws : List Wd) : Nat → Wd → Nat
  | _, [] => 1
  | 0, _ :: _ => 0
  | n + 1, c :: r => ((ws.filter fun a => pre a (c :: r)).map fun a => waysF ws n ((c :: r).drop a.length)).sum
def ways (ws : List Wd) (t : Wd) : Nat := waysF ws t.length t
theorem sum_congr {α : Type} {f g : α → Nat} : ∀ {l : List α}, (∀ x ∈ l, f x = g x) → (l.map f).sum = (l.map g).sum
  | [], _ => rfl
  | x :: r, h => by
    simp only [List.map_cons, List.sum_cons]
    rw [h x (by simp), sum_congr fun y hy => h y (by simp [hy])]
theorem waysF_fuel (ws : List Wd) (hw : ∀ a ∈ ws, a ≠ []) : ∀ (n m : Nat) (t : Wd), t.length ≤ n → t.length ≤ m → waysF ws n t = waysF ws m t
  | n, m, [], _, _ => by cases n <;> cases m <;> rfl
  | 0, m, c :: r, h, _ => by simp at h
  | n + 1, 0, c :: r, _, h => by simp at h
  | n + 1, m + 1, c :: r, h1, h2 => by
    simp only [waysF]
    apply sum_congr
    intro a ha
    have ha' := List.mem_filter.mp ha
    have hl : 0 < a.length := List.length_pos_iff.mpr (hw a ha'.1)
    apply waysF_fuel ws hw
    · simp only [List.length_drop, List.length_cons] at h1 ⊢; omega
    · simp only [List.length_drop, List.length_cons] at h2 ⊢; omega
theorem ways_nil (ws : List Wd) : ways ws [] = 1 := rfl
theorem ways_eq (ws : List Wd) (hw : ∀ a ∈ ws, a ≠ []) {t : Wd} (ht : t ≠ []) : ways ws t = ((ws.filter fun a => pre a t).map fun a => ways ws (t.drop a.length)).sum := by
  cases t with
  | nil => exact absurd rfl ht
  | cons c r =>
    show waysF ws (r.length + 1) (c :: r) = _
    simp only [waysF]
    apply sum_congr
    intro a ha
    have ha' := List.mem_filter.mp ha
    have hl : 0 < a.length := List.length_pos_iff.mpr (hw a ha'.1)
    unfold ways
    apply waysF_fuel ws hw
    · simp only [List.length_drop, List.length_cons]; omega
    · exact Nat.le_refl _
theorem pre_len {a t : Wd} (h : pre a t = true) : a.length ≤ t.length := by
  have := of_decide_eq_true h
  have h2 := congrArg List.length this
  simp only [List.length_take] at h2
  omega
theorem pre_app {a t : Wd} (h : pre a t = true) : a ++ t.drop a.length = t := by
  have := of_decide_eq_true h
  have h2 := List.take_append_drop a.length t
  rw [this] at h2; exact h2
/-! the counts ahead of a place -/
def bef (ws : List Wd) (t : Wd) (p : Nat) : Nat := (((ws.take p).filter fun a => pre a t).map fun a => ways ws (t.drop a.length)).sum
theorem bef_zero (ws : List Wd) (t : Wd) : bef ws t 0 = 0 := by simp [bef]
theorem bef_succ (ws : List Wd) (t : Wd) {p : Nat} {a : Wd} (h : ws[p]? = some a) : bef ws t (p + 1) = bef ws t p + (if pre a t = true then ways ws (t.drop a.length) else 0) := by
  unfold bef
  rw [List.take_succ, h, List.filter_append, List.map_append, List.sum_append]
  by_cases hp : pre a t = true <;> simp [hp]
theorem bef_all (ws : List Wd) (hw : ∀ a ∈ ws, a ≠ []) {t : Wd} (ht : t ≠ []) : bef ws t ws.length = ways ws t := by
  rw [ways_eq ws hw ht]; unfold bef; rw [List.take_length]
theorem bef_mono (ws : List Wd) (t : Wd) {p q : Nat} (h : p ≤ q) : bef ws t p ≤ bef ws t q := by
  induction q with
  | zero => have : p = 0 := by omega
            subst this; exact Nat.le_refl _
  | succ q ih =>
    rcases Nat.lt_or_ge p (q + 1) with h1 | h1
    · refine Nat.le_trans (ih (by omega)) ?_
      cases hq : ws[q]? with
      | some a => rw [bef_succ ws t hq]; omega
      | none =>
        have : ws.length ≤ q := List.getElem?_eq_none_iff.mp hq
        unfold bef
        rw [List.take_of_length_le this, List.take_of_length_le (by omega)]
        exact Nat.le_refl _
    · have : p = q + 1 := by omega
      subst this; exact Nat.le_refl _
/-- the first place whose count reaches behind k -/
def pick (ws : List Wd) (t : Wd) : List Wd → Nat → Nat → Option (Nat × Nat)
  | [], _, _ => none
  | a :: r, i, k => if pre a t = true then (if k < ways ws (t.drop a.length) then some (i, k) else pick ws t r (i + 1) (k - ways ws (t.drop a.length))) else pick ws t r (i + 1) k
def wat (ws : List Wd) (i : Nat) : Wd := ws.getD i []
theorem pick_some (ws : List Wd) (t : Wd) : ∀ (r : List Wd) (i k : Nat), ws.drop i = r → i ≤ ws.length → bef ws t i + k < bef ws t ws.length →
    ∃ j k', pick ws t r i k = some (j, k') ∧ j < ws.length ∧ pre (wat ws j) t = true ∧ k' < ways ws (t.drop (wat ws j).length) ∧ bef ws t j + k' = bef ws t i + k := by
  intro r
  induction r with
  | nil =>
    intro i k hd hi hk
    have : ws.length ≤ i := by
      have := congrArg List.length hd
      simp at this; omega
    have e : i = ws.length := by omega
    subst e; omega
  | cons a r ih =>
    intro i k hd hi hk
    have hil : i < ws.length := by
      have := congrArg List.length hd
      simp at this; omega
    have ha : ws[i]? = some a := by
      have := List.getElem?_drop (xs := ws) (i := i) (j := 0)
      rw [hd] at this
      simpa using this.symm
    have hr : ws.drop (i + 1) = r := by
      rw [← List.drop_drop, hd]; rfl
    have ew : wat ws i = a := by simp [wat, List.getD, ha]
    have hb := bef_succ ws t ha
    unfold pick
    by_cases hp : pre a t = true
    · rw [if_pos hp] at hb ⊢
      by_cases hk2 : k < ways ws (t.drop a.length)
      · rw [if_pos hk2]
        exact ⟨i, k, rfl, hil, by rw [ew]; exact hp, by rw [ew]; exact hk2, rfl⟩
      · rw [if_neg hk2]
        obtain ⟨j, k', e1, e2, e3, e4, e5⟩ := ih (i + 1) (k - ways ws (t.drop a.length)) hr (by omega) (by rw [hb]; omega)
        exact ⟨j, k', e1, e2, e3, e4, by rw [e5, hb]; omega⟩
    · rw [if_neg hp] at hb ⊢
      obtain ⟨j, k', e1, e2, e3, e4, e5⟩ := ih (i + 1) k hr (by omega) (by rw [hb]; omega)
      exact ⟨j, k', e1, e2, e3, e4, by rw [e5, hb]; omega⟩
/-- the reading of a count -/
def nthF (ws : List Wd) : Nat → Wd → Nat → List Nat
  | _, [], _ => []
  | 0, _ :: _, _ => []
  | n + 1, c :: r, k => match pick ws (c :: r) ws 0 k with
    | some (j, k') => j :: nthF ws n ((c :: r).drop (wat ws j).length) k'
    | none => []
def nthW (ws : List Wd) (t : Wd) (k : Nat) : List Nat := nthF ws t.length t k
def joinW (ws : List Wd) (ns : List Nat) : Wd := (ns.map (wat ws)).flatten
/-- a reading's count -/
def num (ws : List Wd) : Wd → List Nat → Nat
  | _, [] => 0
  | t, p :: r => bef ws t p + num ws (t.drop (wat ws p).length) r
theorem wat_ne {ws : List Wd} (hw : ∀ a ∈ ws, a ≠ []) {j : Nat} (h : j < ws.length) : 0 < (wat ws j).length := by
  have : wat ws j = ws[j] := by simp [wat, List.getD, h]
  rw [this]
  exact List.length_pos_iff.mpr (hw _ (List.getElem_mem h))
theorem nthF_ok (ws : List Wd) (hw : ∀ a ∈ ws, a ≠ []) : ∀ (n : Nat) (t : Wd) (k : Nat), t.length ≤ n → k < ways ws t →
    joinW ws (nthF ws n t k) = t ∧ (∀ p ∈ nthF ws n t k, p < ws.length) ∧ num ws t (nthF ws n t k) = k := by
  intro n
  induction n with
  | zero =>
    intro t k ht hk
    have : t = [] := List.eq_nil_of_length_eq_zero (by omega)
    subst this
    rw [ways_nil] at hk
    exact ⟨rfl, by simp [nthF], by simp [nthF, num]; omega⟩
  | succ n ih =>
    intro t k ht hk
    cases t with
    | nil =>
      rw [ways_nil] at hk
      exact ⟨rfl, by simp [nthF], by simp [nthF, num]; omega⟩
    | cons c r =>
      have hne : (c :: r) ≠ [] := by simp
      obtain ⟨j, k', e1, e2, e3, e4, e5⟩ := pick_some ws (c :: r) ws 0 k rfl (by omega) (by rw [bef_zero, bef_all ws hw hne]; omega)
      have hl := wat_ne hw e2
      obtain ⟨i1, i2, i3⟩ := ih ((c :: r).drop (wat ws j).length) k' (by simp only [List.length_drop, List.length_cons] at ht ⊢; omega) e4
      simp only [nthF, e1]
      refine ⟨?_, ?_, ?_⟩
      · show (wat ws j) ++ joinW ws _ = _
        rw [i1]; exact pre_app e3
      · intro p hp
        rcases List.mem_cons.mp hp with rfl | hp
        · exact e2
        · exact i2 p hp
      · show bef ws (c :: r) j + num ws _ _ = k
        rw [i3, e5, bef_zero, Nat.zero_add]
theorem nthW_ok (ws : List Wd) (hw : ∀ a ∈ ws, a ≠ []) {t : Wd} {k : Nat} (hk : k < ways ws t) :
    joinW ws (nthW ws t k) = t ∧ (∀ p ∈ nthW ws t k, p < ws.length) ∧ num ws t (nthW ws t k) = k := nthF_ok ws hw _ t k (Nat.le_refl _) hk
theorem join_cons (ws : List Wd) (p : Nat) (r : List Nat) : joinW ws (p :: r) = wat ws p ++ joinW ws r := rfl
theorem join_len (ws : List Wd) (hw : ∀ a ∈ ws, a ≠ []) : ∀ ns : List Nat, (∀ p ∈ ns, p < ws.length) → ns.length ≤ (joinW ws ns).length
  | [], _ => by simp
  | p :: r, h => by
    rw [join_cons, List.length_append, List.length_cons]
    have h1 := wat_ne hw (h p (by simp))
    have h2 := join_len ws hw r fun q hq => h q (by simp [hq])
    omega
theorem pre_of_join {ws : List Wd} {p : Nat} {r : List Nat} {t : Wd} (h : joinW ws (p :: r) = t) : pre (wat ws p) t = true ∧ joinW ws r = t.drop (wat ws p).length := by
  rw [join_cons] at h
  subst h
  exact ⟨by simp [pre], by simp⟩
theorem wat_getElem {ws : List Wd} {p : Nat} (h : p < ws.length) : ws[p]? = some (wat ws p) := by
  simp [wat, List.getD, h]
theorem num_lt (ws : List Wd) (hw : ∀ a ∈ ws, a ≠ []) : ∀ (ns : List Nat) (t : Wd), (∀ p ∈ ns, p < ws.length) → joinW ws ns = t → num ws t ns < ways ws t
  | [], t, _, h => by
    have : t = [] := h.symm
    subst this; simp [num, ways_nil]
  | p :: r, t, hp, h => by
    obtain ⟨h1, h2⟩ := pre_of_join h
    have hpl := hp p (by simp)
    have ih := num_lt ws hw r (t.drop (wat ws p).length) (fun q hq => hp q (by simp [hq])) h2
    have hne : t ≠ [] := fun e => by
      have := pre_len h1
      have h3 := wat_ne hw hpl
      rw [e, List.length_nil] at this; omega
    have hm := bef_mono ws t (show p + 1 ≤ ws.length by omega)
    rw [bef_all ws hw hne] at hm
    have e : num ws t (p :: r) = bef ws t p + num ws (t.drop (wat ws p).length) r := rfl
    rw [e]
    rw [bef_succ ws t (wat_getElem hpl), if_pos h1] at hm
    exact Nat.lt_of_lt_of_le (Nat.add_lt_add_left ih _) hm
/-- a list not before another one, as Python's >= tells -/
def lexGe : List Nat → List Nat → Bool
  | _, [] => true
  | [], _ :: _ => false
  | x :: xs, y :: ys => if x = y then lexGe xs ys else decide (y ≤ x)
theorem num_ge (ws : List Wd) (hw : ∀ a ∈ ws, a ≠ []) : ∀ (xs ys : List Nat) (t : Wd), (∀ p ∈ xs, p < ws.length) → (∀ p ∈ ys, p < ws.length) → joinW ws xs = t → joinW ws ys = t → lexGe xs ys = true → num ws t ys ≤ num ws t xs
  | [], [], _, _, _, _, _, _ => Nat.le_refl _
  | [], y :: ys, _, _, _, _, _, h => by simp [lexGe] at h
  | x :: xs, [], t, _, _, _, _, _ => by simp [num]
  | x :: xs, y :: ys, t, hx, hy, jx, jy, h => by
    obtain ⟨x1, x2⟩ := pre_of_join jx
    obtain ⟨y1, y2⟩ := pre_of_join jy
    have hxl := hx x (by simp)
    have hyl := hy y (by simp)
    unfold lexGe at h
    by_cases e : x = y
    · subst e
      rw [if_pos rfl] at h
      have ih := num_ge ws hw xs ys (t.drop (wat ws x).length) (fun q hq => hx q (by simp [hq])) (fun q hq => hy q (by simp [hq])) x2 y2 h
      show bef ws t x + _ ≤ bef ws t x + _
      omega
    · rw [if_neg e] at h
      have hle := of_decide_eq_true h
      have hb := bef_succ ws t (wat_getElem hyl)
      rw [if_pos y1] at hb
      have hm := bef_mono ws t (show y + 1 ≤ x by omega)
      have hl := num_lt ws hw ys (t.drop (wat ws y).length) (fun q hq => hy q (by simp [hq])) y2
      show bef ws t y + _ ≤ bef ws t x + _
      omega
theorem nth_rising (ws : List Wd) (hw : ∀ a ∈ ws, a ≠ []) {t : Wd} {k l : Nat} (hl : l < ways ws t) (h : k < l) : lexGe (nthW ws t k) (nthW ws t l) = false := by
  obtain ⟨a1, a2, a3⟩ := nthW_ok ws hw (show k < ways ws t by omega)
  obtain ⟨b1, b2, b3⟩ := nthW_ok ws hw hl
  cases e : lexGe (nthW ws t k) (nthW ws t l) with
  | false => rfl
  | true =>
    have := num_ge ws hw _ _ t a2 b2 a1 b1 e
    rw [a3, b3] at this
    omega
/-! counting from the beginning on -/
/-- the sum of F j * ways of what is behind j, j from m on, k of them -/
def pot (ws : List Wd) (t : Wd) (F : Nat → Nat) : Nat → Nat → Nat
  | _, 0 => 0
  | m, k + 1 => F m * ways ws (t.drop m) + pot ws t F (m + 1) k
def bump (F : Nat → Nat) (j x : Nat) : Nat → Nat := fun i => if i = j then F i + x else F i
theorem pot_out (ws : List Wd) (t : Wd) (F : Nat → Nat) (j x : Nat) : ∀ (k m : Nat), (j < m ∨ m + k ≤ j) → pot ws t (bump F j x) m k = pot ws t F m k
  | 0, _, _ => rfl
  | k + 1, m, h => by
    simp only [pot]
    rw [pot_out ws t F j x k (m + 1) (by omega)]
    have : bump F j x m = F m := by unfold bump; rw [if_neg (by omega)]
    rw [this]
theorem pot_in (ws : List Wd) (t : Wd) (F : Nat → Nat) (j x : Nat) : ∀ (k m : Nat), m ≤ j → j < m + k → pot ws t (bump F j x) m k = pot ws t F m k + x * ways ws (t.drop j)
  | 0, m, h1, h2 => by omega
  | k + 1, m, h1, h2 => by
    simp only [pot]
    by_cases e : m = j
    · subst e
      rw [pot_out ws t F m x k (m + 1) (by omega)]
      have : bump F m x m = F m + x := by unfold bump; rw [if_pos rfl]
      rw [this, Nat.add_mul]; omega
    · rw [pot_in ws t F j x k (m + 1) (by omega) (by omega)]
      have : bump F j x m = F m := by unfold bump; rw [if_neg e]
      rw [this]; omega
/-- the words that stand at m, one after another -/
def spread (t : Wd) (m : Nat) (F : Nat → Nat) (ws : List Wd) : Nat → Nat := ws.foldl (fun G a => if pre a (t.drop m) = true then bump G (m + a.length) (F m) else G) F
theorem spread_at (t : Wd) (m : Nat) (F : Nat → Nat) : ∀ (us : List Wd), (∀ a ∈ us, a ≠ []) → ∀ G : Nat → Nat, G m = F m → (us.foldl (fun G a => if pre a (t.drop m) = true then bump G (m + a.length) (F m) else G) G) m = F m
  | [], _, G, h => h
  | a :: r, hw, G, h => by
    simp only [List.foldl_cons]
    apply spread_at t m F r (fun b hb => hw b (by simp [hb]))
    have hl : 0 < a.length := List.length_pos_iff.mpr (hw a (by simp))
    by_cases hp : pre a (t.drop m) = true
    · rw [if_pos hp]; unfold bump; rw [if_neg (by omega)]; exact h
    · rw [if_neg hp]; exact h
theorem spread_pot (ws : List Wd) (t : Wd) (m : Nat) (hm : m < t.length) (x : Nat) : ∀ (us : List Wd), (∀ a ∈ us, a ≠ []) → ∀ G : Nat → Nat,
    pot ws t (us.foldl (fun G a => if pre a (t.drop m) = true then bump G (m + a.length) x else G) G) (m + 1) (t.length - m) =
    pot ws t G (m + 1) (t.length - m) + x * ((us.filter fun a => pre a (t.drop m)).map fun a => ways ws ((t.drop m).drop a.length)).sum
  | [], _, G => by simp
  | a :: r, hw, G => by
    have hl : 0 < a.length := List.length_pos_iff.mpr (hw a (by simp))
    simp only [List.foldl_cons]
    rw [spread_pot ws t m hm x r (fun b hb => hw b (by simp [hb]))]
    by_cases hp : pre a (t.drop m) = true
    · have hpl := pre_len hp
      rw [List.length_drop] at hpl
      rw [if_pos hp, pot_in ws t G (m + a.length) x _ _ (by omega) (by omega), List.filter_cons, if_pos hp, List.map_cons, List.sum_cons, List.drop_drop, Nat.mul_add]
      omega
    · rw [if_neg hp, List.filter_cons, if_neg hp]
theorem spread_step (ws : List Wd) (hw : ∀ a ∈ ws, a ≠ []) (t : Wd) (m : Nat) (hm : m < t.length) (F : Nat → Nat) :
    pot ws t (spread t m F ws) (m + 1) (t.length - m) = pot ws t F m (t.length - m + 1) := by
  unfold spread
  rw [spread_pot ws t m hm (F m) ws hw F]
  show _ = F m * ways ws (t.drop m) + pot ws t F (m + 1) (t.length - m)
  have hne : t.drop m ≠ [] := fun e => by
    have := congrArg List.length e
    simp at this; omega
  rw [ways_eq ws hw hne]
  omega
/-- where nothing leads, nothing is spread -/
theorem bump_zero (F : Nat → Nat) (j : Nat) : bump F j 0 = F := by
  funext i; unfold bump; split <;> rfl
theorem spread_zero (t : Wd) (m : Nat) (F : Nat → Nat) (h : F m = 0) (ws : List Wd) : spread t m F ws = F := by
  unfold spread
  rw [h]
  induction ws with
  | nil => rfl
  | cons a r ih =>
    simp only [List.foldl_cons, bump_zero, ite_self] at ih ⊢
    exact ih
end M3

set_option linter.all false
/-! M2: the marks that words lead to, in plain Lean. -/
namespace M2
open M3
theorem nodup_len : ∀ (n : Nat) (l : List Nat), l.Nodup → (∀ x ∈ l, x < n) → l.length ≤ n
  | 0, l, _, h => by
    cases l with
    | nil => simp
    | cons x r => exact absurd (h x (by simp)) (by omega)
  | n + 1, l, hn, h => by
    by_cases hm : n ∈ l
    · have h1 := nodup_len n (l.erase n) (hn.erase n) (fun x hx => by
        have h2 := h x (List.mem_of_mem_erase hx)
        have h3 : x ≠ n := fun e => by
          subst e
          exact (List.Nodup.mem_erase_iff hn).mp hx |>.1 rfl
        omega)
      rw [List.length_erase_of_mem hm] at h1
      omega
    · have h1 := nodup_len n l hn (fun x hx => by
        have h2 := h x hx
        have h3 : x ≠ n := fun e => hm (e ▸ hx)
        omega)
      omega
theorem sum_ge {f : Wd → Nat} : ∀ {xs : List Wd} {a : Wd}, a ∈ xs → f a ≤ (xs.map f).sum
  | [], _, h => by simp at h
  | x :: xs, a, h => by
    rw [List.map_cons, List.sum_cons]
    rcases List.mem_cons.mp h with rfl | h
    · omega
    · have := sum_ge (f := f) h
      omega
/-- a word that stands at m leads on to no more ways than there are at m -/
theorem ways_step (ws : List Wd) (hw : ∀ a ∈ ws, a ≠ []) {t a : Wd} {m : Nat} (ha : a ∈ ws) (h : pre a (t.drop m) = true) : ways ws (t.drop (m + a.length)) ≤ ways ws (t.drop m) := by
  have hl := pre_len h
  have h0 : 0 < a.length := List.length_pos_iff.mpr (hw a ha)
  have hne : t.drop m ≠ [] := fun e => by rw [e, List.length_nil] at hl; omega
  rw [ways_eq ws hw hne]
  have := sum_ge (f := fun b => ways ws ((t.drop m).drop b.length)) (List.mem_filter.mpr ⟨ha, h⟩ : a ∈ ws.filter fun b => pre b (t.drop m))
  rw [List.drop_drop] at this
  exact this
/-- what the search keeps -/
structure Inv (ws : List Wd) (t : Wd) (fs : List Nat) : Prop where
  zero : 0 ∈ fs
  nd : fs.Nodup
  le : ∀ m ∈ fs, m ≤ t.length ∧ ways ws (t.drop m) ≤ ways ws t
def closed (ws : List Wd) (t : Wd) (fs : List Nat) (m : Nat) : Prop := ∀ a ∈ ws, pre a (t.drop m) = true → m + a.length ∈ fs
theorem Inv.len {ws : List Wd} {t : Wd} {fs : List Nat} (h : Inv ws t fs) : fs.length ≤ t.length + 1 := nodup_len _ fs h.nd fun x hx => by have := (h.le x hx).1; omega
theorem inv_start (ws : List Wd) (t : Wd) : Inv ws t [0] := ⟨by simp, by simp, fun m hm => by
  rw [List.mem_singleton.mp hm]; exact ⟨by omega, by rw [List.drop_zero]; exact Nat.le_refl _⟩⟩
theorem inv_add {ws : List Wd} (hw : ∀ a ∈ ws, a ≠ []) {t : Wd} {fs : List Nat} (h : Inv ws t fs) {m : Nat} (hm : m ∈ fs) {a : Wd} (ha : a ∈ ws) (hp : pre a (t.drop m) = true) (hn : m + a.length ∉ fs) : Inv ws t (fs ++ [m + a.length]) := by
  have hl := pre_len hp
  rw [List.length_drop] at hl
  have h1 := h.le m hm
  have h0 : 0 < a.length := List.length_pos_iff.mpr (hw a ha)
  refine ⟨List.mem_append_left _ h.zero, ?_, fun x hx => ?_⟩
  · rw [List.nodup_append]
    refine ⟨h.nd, by simp, fun x hx y hy => ?_⟩
    rw [List.mem_singleton.mp hy]
    exact fun e => hn (e ▸ hx)
  · rcases List.mem_append.mp hx with hx | hx
    · exact h.le x hx
    · rw [List.mem_singleton.mp hx]
      exact ⟨by omega, Nat.le_trans (ways_step ws hw ha hp) h1.2⟩
/-- the end is not among them where there is no way -/
theorem no_end {ws : List Wd} {t : Wd} {fs : List Nat} (h : Inv ws t fs) (h0 : ways ws t = 0) : t.length ∉ fs := fun hm => by
  have := (h.le _ hm).2
  rw [List.drop_length, ways_nil, h0] at this
  omega
end M2

set_option Elab.async false
set_option linter.all false
set_option maxRecDepth 100000
set_option maxHeartbeats 4000000
namespace Tr
open PySem PySem.Spec PyProof.Rows L2 Evl
open M3 (wat joinW pre)
def topS (i : Nat) : Stmt := PySem.Challenge.pw_tworeadings_k02_whole_read.main.body.getD i (.Pass ⟨0, 0, 0, 0⟩)
abbrev s_is_number : Stmt := topS 7
abbrev N_is_number : List Str := ["thing", "least", "most"]
theorem sc_is_number : FnScope N_is_number ["thing", "least", "most"] (defScope s_is_number) := ⟨rfl, rfl, rfl, by decide +kernel, rfl, by decide +kernel, by decide +kernel⟩
abbrev s_is_text : Stmt := topS 8
abbrev N_is_text : List Str := ["thing"]
theorem sc_is_text : FnScope N_is_text ["thing"] (defScope s_is_text) := ⟨rfl, rfl, rfl, by decide +kernel, rfl, by decide +kernel, by decide +kernel⟩
abbrev s_asked_code : Stmt := topS 9
abbrev N_asked_code : List Str := ["code", "word"]
theorem sc_asked_code : FnScope N_asked_code ["code"] (defScope s_asked_code) := ⟨rfl, rfl, rfl, by decide +kernel, rfl, by decide +kernel, by decide +kernel⟩
abbrev s_asked_text : Stmt := topS 10
abbrev N_asked_text : List Str := ["text"]
theorem sc_asked_text : FnScope N_asked_text ["text"] (defScope s_asked_text) := ⟨rfl, rfl, rfl, by decide +kernel, rfl, by decide +kernel, by decide +kernel⟩
abbrev s_joined : Stmt := topS 11
abbrev N_joined : List Str := ["code", "places", "place"]
theorem sc_joined : FnScope N_joined ["code", "places"] (defScope s_joined) := ⟨rfl, rfl, rfl, by decide +kernel, rfl, by decide +kernel, by decide +kernel⟩
abbrev s_stands : Stmt := topS 13
abbrev N_stands : List Str := ["word", "text", "at"]
theorem sc_stands : FnScope N_stands ["word", "text", "at"] (defScope s_stands) := ⟨rfl, rfl, rfl, by decide +kernel, rfl, by decide +kernel, by decide +kernel⟩
local macro_rules | `(tactic| walk_at "sd") => `(tactic| first | assumption | rfl | omega | decide | (solve_by_elim) | (refine Nat.le_trans (m := 1000) (by solve_by_elim) (by decide)))
local macro_rules | `(tactic| walk_at "rv") => `(tactic| first
  | exact rv_add | exact rv_sub | exact rv_lt | exact rv_le | exact rv_gt | exact rv_ge | exact rv_eqI | exact rv_eqS | exact rv_eqB | exact rv_neI | exact rv_neS | exact rv_neB
  | exact rv_mod (by walk_at "sd") | exact rv_fdiv (by first | assumption | exact ⟨by omega, by omega⟩) | exact rv_addS (by walk_at "sd") | exact rv_isB | exact rv_notB | assumption)
local macro_rules | `(tactic| walk_at "ea") => `(tactic| first
  | exact ea_nil
  | (refine' ea_cons ?k1 ?k2; (case k1 => walk_at "ev"); (case k2 => walk_at "ea")))
local macro_rules | `(tactic| walk_at "eo") => `(tactic| first
  | exact eo_none
  | (refine' eo_some ?k1; (case k1 => walk_at "ev")))
local macro_rules | `(tactic| walk_at "et") => `(tactic| first
  | (refine' et_test ?k1; (case k1 => walk_at "ev"))
  | (refine' et_B ?k1; (case k1 => walk_at "ev"))
  | (refine' et_and ?k1 ?k2; (case k1 => walk_at "et"); (case k2 => (intro _; walk_at "et")))
  | (refine' et_or ?k1 ?k2; (case k1 => walk_at "et"); (case k2 => (intro _; walk_at "et")))
  | (refine' et_not ?k1; (case k1 => walk_at "et"))
  | assumption)
local macro_rules | `(tactic| walk_at "ev") => `(tactic| first
  | assumption
  | exact ev_cS
  | exact ev_c
  | exact ev_var rfl
  | (refine' ev_op ?k1 ?k2 ?k3; (case k1 => walk_at "ev"); (case k2 => walk_at "ev"); (case k3 => walk_at "rv"))
  | (refine' ev_un ?k1 ru_neg; (case k1 => walk_at "ev"))
  | (refine' ev_chain ?k1 ?k2 ?k3 ?k4 ?k5; (case k1 => walk_at "ev"); (case k2 => walk_at "ev"); (case k3 => walk_at "ev"); (case k4 => walk_at "rv"); (case k5 => (intro _; walk_at "rv")))
  | (refine' ev_slS ?k1 ?k2 ?k3 ?k4; (case k1 => walk_at "ev"); (case k2 => walk_at "eo"); (case k3 => walk_at "eo"); (case k4 => walk_at "sd"))
  | (refine' ev_lenS ?k1 ?k2; (case k1 => walk_at "ev"); (case k2 => walk_at "sd"))
  | (refine' ev_len' ?k1 ?k2; (case k1 => walk_at "ev"); (case k2 => walk_at "sd"))
  | (refine' ev_strip ?k1 ?k2 ?k3; (case k1 => walk_at "ev"); (case k2 => walk_at "ev"); (case k3 => walk_at "sd"))
  | (refine' ev_sum ?k1 ?k2; (case k1 => walk_at "ev"); (case k2 => walk_at "sd"))
  | (refine' ev_isi ?k1 ?k2 ?k3 ?k4; (case k1 => walk_at "ev"); (case k2 => walk_at "ev"); (case k3 => first | exact ty_int | exact ty_bl | exact ty_str | exact ty_list (by walk_at "sd")); (case k4 => first | exact kit_ty (r := true) (by decide +kernel) | exact kit_ty (r := false) (by decide +kernel)))
  | (refine' ev_andV ?k1 ?k2; (case k1 => walk_at "ev"); (case k2 => (intro _; walk_at "ev")))
  | (refine' ev_orV ?k1 ?k2; (case k1 => walk_at "ev"); (case k2 => (intro _; walk_at "ev")))
  | (refine' ev_notV ?k1; (case k1 => walk_at "ev"))
  | (refine' ev_call ?k1 ?k2; (case k1 => walk_at "ea"); (case k2 => walk_at "sv")))
local macro_rules | `(tactic| walk_at "el") => `(tactic| first
  | assumption
  | (refine' el_mapB ?k1 ?k2 ?k3 (fun _ => rfl) ?k5; (case k1 => walk_at "ev"); (case k2 => walk_at "sd"); (case k3 => walk_at "sd"); (case k5 => (intro _ _; walk_at "ev")))
  | (refine' el_mapI ?k1 ?k2 ?k3 (fun _ => rfl) ?k5; (case k1 => walk_at "ev"); (case k2 => walk_at "sd"); (case k3 => walk_at "sd"); (case k5 => (intro _ _; walk_at "ev")))
  | (refine' el_mapS ?k1 ?k2 ?k3 (fun _ => rfl) ?k5; (case k1 => walk_at "ev"); (case k2 => walk_at "sd"); (case k3 => walk_at "sd"); (case k5 => (intro _ _; walk_at "ev"))))
local macro_rules | `(tactic| walk_at "ev") => `(tactic| first
  | (refine' ev_all ?k1; (case k1 => walk_at "el"))
  | (refine' ev_any ?k1; (case k1 => walk_at "el"))
  | (refine' ev_sumN ?k1; (case k1 => walk_at "el"))
  | (refine' ev_join ?k1 ?k2 ?k3; (case k1 => exact ev_is ev_cS (congrArg tx codes_nil)); (case k2 => walk_at "el"); (case k3 => walk_at "sd")))

/-- the built-in names, LETTERS -/
structure Blt (mg : Str → Option Value) : Prop where
  len : mg "len" = none
  all : mg "all" = none
  any : mg "any" = none
  isinstance : mg "isinstance" = none
  range : mg "range" = none
  sum : mg "sum" = none
  sorted : mg "sorted" = none
  enumerate : mg "enumerate" = none
  max : mg "max" = none
  min : mg "min" = none
  reversed : mg "reversed" = none
  list : mg "list" = none
  int : mg "int" = none
  str : mg "str" = none
  bool : mg "bool" = none
  set : mg "set" = none
  ValueError : mg "ValueError" = none
  LETTERS : ∃ u, mg "LETTERS" = some u ∧ RelV (.str "abcdefghijklmnopqrstuvwxyz") u
theorem pe_gv {X : Cx} {x : Str} {v : V} {pos : Pos} (hg : Gl X x) (h : ∃ u, X.mg x = some u ∧ RelV v u) (hd : (x == ("__debug__" : Str)) = false := by decide) : PE X (.Name x pos) (tC v) := by
  obtain ⟨u, h1, h2⟩ := h
  exact pe_glob hg h1 h2 hd
def okW (a : Wd) : Prop := ∀ c ∈ a, 97 ≤ c ∧ c ≤ 122
instance (a : Wd) : Decidable (okW a) := inferInstanceAs (Decidable (∀ c ∈ a, 97 ≤ c ∧ c ≤ 122))
def abc : Wd := codes ("abcdefghijklmnopqrstuvwxyz" : Str)
theorem abc_eq : abc = List.range' 97 26 := by decide +kernel
theorem mem_abc {c : Nat} : c ∈ abc ↔ 97 ≤ c ∧ c ≤ 122 := by
  rw [abc_eq, List.mem_range'_1]
  omega
theorem codes_nil : codes ("" : Str) = [] := by decide +kernel
theorem S_nil : S [] = ("" : Str) := by decide +kernel
def standsB (a t : Wd) (i : Nat) : Bool := pre a (t.drop i)
section
variable {P : Program} {w : World} {K : PySem.W.Frag} {mg : Str → Option Value} {base : Heap} {H : Hp}
/-! ### stands -/
def spStands : Sp := fun vs H Q _ => ∃ (a t : Wd) (i : Nat), vs = [tx a, tx t, .int (i : Int)] ∧ a.length ≤ 10000 ∧ t.length ≤ 10000 ∧ ∀ H', Ex H H' → Q (.bl (standsB a t i)) H'
theorem sv_stands {a t : Wd} {i : Nat} (h1 : a.length ≤ 10000) (h2 : t.length ≤ 10000) : SpV spStands [tx a, tx t, .int (i : Int)] H (.bl (standsB a t i)) := fun _ _ _ q _ => ⟨a, t, i, rfl, h1, h2, q⟩
theorem ok_stands (D : DefAt K mg "stands" s_stands ["word", "text", "at"]) (T : Blt mg) : Cal P w K mg base 1 "stands" spStands := by
  refine cal_of D sc_stands (fun vs H Q E h => ?_) (fun f cdv A outer s H vs Q E hr h => ?_)
  · obtain ⟨a, t, i, rfl, _⟩ := h; rfl
  · obtain ⟨a, t, i, rfl, h1, h2, q⟩ := h
    refine ⟨_, (pss_one (ps_ret (pe_cmpR op_eq (pe_slice sl_str (pv 1) (po_some (pv 2)) (po_some (pe_op op_add (pv 2) (pe_callB call_len_str (by rfl) T.len (by decide +kernel) (pa_cons (pv 0) pa_nil))))) (pv 0) (nomark _)))), ?_⟩
    refine sev_run (sev_is (sev_ret (by walk_at "ev")) (congrArg V.bl ?_)) q
    unfold standsB pre
    have h3 : (i : Int) + (a.length : Int) = ((i + a.length : Nat) : Int) := by omega
    have h4 : i + a.length - i = a.length := by omega
    rw [h3, cut_nn, h4]
/-! ### is_number, is_text -/
def spIsNumber : Sp := fun vs H Q _ => ∃ n lo hi : Int, vs = [.int n, .int lo, .int hi] ∧ ∀ H', Ex H H' → Q (.bl (decide (lo ≤ n) && decide (n ≤ hi))) H'
theorem sv_is_number {n lo hi : Int} : SpV spIsNumber [.int n, .int lo, .int hi] H (.bl (decide (lo ≤ n) && decide (n ≤ hi))) := fun _ _ _ q _ => ⟨n, lo, hi, rfl, q⟩
theorem ok_is_number (D : DefAt K mg "is_number" s_is_number ["thing", "least", "most"]) (T : Blt mg) : Cal P w K mg base 1 "is_number" spIsNumber := by
  refine cal_of D sc_is_number (fun vs H Q E h => ?_) (fun f cdv A outer s H vs Q E hr h => ?_)
  · obtain ⟨n, lo, hi, rfl, _⟩ := h; rfl
  · obtain ⟨n, lo, hi, rfl, q⟩ := h
    refine ⟨_, (pss_one (ps_ret (pe_and (pe_callB (call_isiK' (K := K) rfl) (by rfl) T.isinstance (by decide +kernel) (pa_cons (pv 0) (pa_cons (pe_bltn (v := .ty "int") (by rfl) T.int (by decide +kernel) rfl) pa_nil))) (pe_and (pe_not (pe_callB (call_isiK' (K := K) rfl) (by rfl) T.isinstance (by decide +kernel) (pa_cons (pv 0) (pa_cons (pe_bltn (v := .ty "bool") (by rfl) T.bool (by decide +kernel) rfl) pa_nil)))) (pe_one (pe_chain op_le op_le (pv 1) (pv 0) (pv 2))))))), ?_⟩
    refine sev_run (sev_is (sev_ret (by walk_at "ev")) ?_) q
    rfl
def spIsText : Sp := fun vs H Q _ => ∃ a : Wd, vs = [tx a] ∧ a.length ≤ 10000 ∧ ∀ H', Ex H H' → Q (.bl (decide (okW a))) H'
theorem sv_is_text {a : Wd} (h : a.length ≤ 10000) : SpV spIsText [tx a] H (.bl (decide (okW a))) := fun _ _ _ q _ => ⟨a, rfl, h, q⟩
theorem strip_abc (a : Wd) : decide (codes (Txt.stripChars (S a) (S abc)) = codes ("" : Str)) = decide (okW a) := by
  have h : (codes (Txt.stripChars (S a) (S abc)) = codes ("" : Str)) ↔ okW a := by
    rw [codes_nil]
    constructor
    · intro e c hc
      have e2 : Txt.stripChars (S a) (S abc) = S [] := by
        rw [← S_codes (Txt.stripChars (S a) (S abc)), e]
      exact mem_abc.mp ((strip_iff a abc).mp e2 c hc)
    · intro o
      rw [(strip_iff a abc).mpr fun c hc => mem_abc.mpr (o c hc), codes_S]
  simp only [h]
theorem ok_is_text (D : DefAt K mg "is_text" s_is_text ["thing"]) (T : Blt mg) : Cal P w K mg base 1 "is_text" spIsText := by
  refine cal_of D sc_is_text (fun vs H Q E h => ?_) (fun f cdv A outer s H vs Q E hr h => ?_)
  · obtain ⟨a, rfl, _⟩ := h; rfl
  · obtain ⟨a, rfl, h1, q⟩ := h
    refine ⟨_, (pss_one (ps_ret (pe_and (pe_callB (call_isiK' (K := K) rfl) (by rfl) T.isinstance (by decide +kernel) (pa_cons (pv 0) (pa_cons (pe_bltn (v := .ty "str") (by rfl) T.str (by decide +kernel) rfl) pa_nil))) (pe_one (pe_cmpR op_eq (pe_m1 PySem.F.slot_str_strip PySem.F.type_str_strip mt_stripChars (pv 0) (pe_gv (by rfl) T.LETTERS)) pe_str (nomark _)))))), ?_⟩
    refine sev_run (sev_is (sev_ret (by walk_at "ev")) (congrArg V.bl ?_)) q
    rw [Bool.true_and]
    exact strip_abc a
/-! ### asked_code, asked_text -/
/-- a list of words stands at p -/
structure CodeAt (K : PySem.W.Frag) (H : Hp) (p : Addr) (ws : List Wd) : Prop where
  sq : SqL K H p (ws.map tx)
  ok : ∀ a ∈ ws, a ≠ [] ∧ okW a ∧ a.length ≤ 1000
  len : ws.length ≤ 1000
theorem CodeAt.ex {p : Addr} {ws : List Wd} {H H' : Hp} (e : Ex H H') (h : CodeAt K H p ws) : CodeAt K H' p ws := ⟨ex_l e h.sq, h.ok, h.len⟩
def spAskedCode (K : PySem.W.Frag) : Sp := fun vs H Q _ => ∃ (p : Addr) (ws : List Wd), vs = [.ref p] ∧ CodeAt K H p ws ∧ ∀ H', Ex H H' → Q .non H'
theorem sv_asked_code {p : Addr} {ws : List Wd} (h : CodeAt K H p ws) : SpV (spAskedCode K) [.ref p] H .non := fun _ e _ q _ => ⟨p, ws, rfl, h.ex e, q⟩
local macro_rules | `(tactic| walk_at "sv") => `(tactic| first | exact sv_is_text (by walk_at "sd") | exact sv_stands (by walk_at "sd") (by walk_at "sd"))
theorem ok_asked_code (D : DefAt K mg "asked_code" s_asked_code ["code"]) (T : Blt mg) (C_is_text : Cal P w K mg base 1 "is_text" spIsText) : Cal P w K mg base 2 "asked_code" (spAskedCode K) := by
  refine cal_of D sc_asked_code (fun vs H Q E h => ?_) (fun f cdv A outer s H vs Q E hr h => ?_)
  · obtain ⟨p, ws, rfl, _⟩ := h; rfl
  · obtain ⟨p, ws, rfl, hc, q⟩ := h
    refine ⟨_, (pss_one (ps_if (PW.pt (pw_or (pt_not (pt_val (pe_callB (call_isiK' (K := K) rfl) (by rfl) T.isinstance (by decide +kernel) (pa_cons (pv 0) (pa_cons (pe_bltn (v := .ty "list") (by rfl) T.list (by decide +kernel) rfl) pa_nil))))) (pw_or1 (pt_not (pt_val (pe_callB (cr_allK (K := K) rfl rfl) (by rfl) T.all (by decide +kernel) (pa_cons (pe_lc (own := [("word", 1)]) rfl sc_asked_code.nd (pi_listK (K := K) rfl (pv 0)) (blkOk_by (own := [("word", 1)]) (N := N_asked_code) (sc := defScope s_asked_code) (by decide +kernel)) (fun _ _ _ _ _ => (pg_name (i := 1) sc_asked_code.nd rfl (.inl rfl))) (fun _ _ _ _ _ => pts_nil) (fun _ _ _ _ _ => (pe_and (pe_c C_is_text hr (by decide) (by rfl) (pa_cons (pv 1) pa_nil)) (pe_one (pe_cmpR op_ne (pv 1) pe_str (nomark _)))))) pa_nil))))))) (pss_one ps_never) pss_nil)), ?_⟩
    have hsq := hc.sq
    have hz : ws.length ≤ 40000 := Nat.le_trans hc.len (by decide)
    have hb : ∀ a, a ∈ ws → a.length ≤ 1000 := fun a ha => (hc.ok a ha).2.2
    refine snx_run (snx_skip (et_is (by walk_at "et") ?_)) q
    have : (ws.map fun a => decide (okW a) && !decide (a = codes ("" : Str))).all id = true := by
      rw [List.all_map, List.all_eq_true]
      intro a ha
      obtain ⟨h1, h2, h3⟩ := hc.ok a ha
      simp [h1, h2, codes_nil]
    rw [this]
    rfl
def spAskedText : Sp := fun vs H Q _ => ∃ a : Wd, vs = [tx a] ∧ a.length ≤ 10000 ∧ okW a ∧ ∀ H', Ex H H' → Q .non H'
theorem sv_asked_text {a : Wd} (h : a.length ≤ 10000) (o : okW a) : SpV spAskedText [tx a] H .non := fun _ _ _ q _ => ⟨a, rfl, h, o, q⟩
theorem ok_asked_text (D : DefAt K mg "asked_text" s_asked_text ["text"]) (T : Blt mg) (C_is_text : Cal P w K mg base 1 "is_text" spIsText) : Cal P w K mg base 2 "asked_text" spAskedText := by
  refine cal_of D sc_asked_text (fun vs H Q E h => ?_) (fun f cdv A outer s H vs Q E hr h => ?_)
  · obtain ⟨a, rfl, _⟩ := h; rfl
  · obtain ⟨a, rfl, h1, o, q⟩ := h
    refine ⟨_, (pss_one (ps_if (pt_not (pt_val (pe_c C_is_text hr (by decide) (by rfl) (pa_cons (pv 0) pa_nil)))) (pss_one ps_never) pss_nil)), ?_⟩
    refine snx_run (snx_skip (et_is (by walk_at "et") ?_)) q
    simp [o]
/-! ### joined -/
def nI (n : Nat) : V := .int (n : Int)
theorem wat_get {ws : List Wd} {i : Nat} (h : i < ws.length) : (ws.map tx)[i]? = some (tx (wat ws i)) := by
  simp [wat, List.getD, List.getElem?_map, h]
def spJoined (K : PySem.W.Frag) : Sp := fun vs H Q _ => ∃ (p q : Addr) (ws : List Wd) (ns : List Nat), vs = [.ref p, .ref q] ∧ SqL K H p (ws.map tx) ∧ SqL K H q (ns.map nI) ∧ ns.length ≤ 40000 ∧ (∀ n ∈ ns, n < ws.length) ∧ (joinW ws ns).length ≤ 100000 ∧ ∀ H', Ex H H' → Q (tx (joinW ws ns)) H'
theorem sv_joined {p q : Addr} {ws : List Wd} {ns : List Nat} (h1 : SqL K H p (ws.map tx)) (h2 : SqL K H q (ns.map nI)) (h3 : ns.length ≤ 40000) (h4 : ∀ n ∈ ns, n < ws.length) (h5 : (joinW ws ns).length ≤ 100000) : SpV (spJoined K) [.ref p, .ref q] H (tx (joinW ws ns)) :=
  fun _ e _ k _ => ⟨p, q, ws, ns, rfl, ex_l e h1, ex_l e h2, h3, h4, h5, k⟩
theorem ok_joined (D : DefAt K mg "joined" s_joined ["code", "places"]) (T : Blt mg) : Cal P w K mg base 1 "joined" (spJoined K) := by
  refine cal_of D sc_joined (fun vs H Q E h => ?_) (fun f cdv A outer s H vs Q E hr h => ?_)
  · obtain ⟨p, q, ws, ns, rfl, _⟩ := h; rfl
  · obtain ⟨p, q, ws, ns, rfl, h1, h2, h3, h4, h5, k⟩ := h
    refine ⟨_, (pss_one (ps_ret (pe_joinK (K := K) rfl pe_str (pe_lc (own := [("place", 2)]) rfl sc_joined.nd (pi_listK (K := K) rfl (pv 1)) (blkOk_by (own := [("place", 2)]) (N := N_joined) (sc := defScope s_joined) (by decide +kernel)) (fun _ _ _ _ _ => (pg_name (i := 2) sc_joined.nd rfl (.inl rfl))) (fun _ _ _ _ _ => pts_nil) (fun _ _ _ _ _ => (pe_ix (ix_listK (K := K) rfl) (pv 0) (pv 2) (fun _ _ => rfl))))))), ?_⟩
    refine sev_run (sev_ret ?_) k
    refine ev_join (ev_is ev_cS (congrArg tx codes_nil)) (el_mapS (ev_var rfl) h2 h3 (fun _ => rfl) fun n hn => ?_) h5
    exact ev_op (ev_var rfl) (ev_var rfl) (rv_ixL h1 (atI_nat (wat_get (h4 n hn))))
end
end Tr

set_option Elab.async false
set_option linter.all false
set_option maxRecDepth 100000
set_option maxHeartbeats 4000000
namespace Tr
open PySem PySem.Spec PyProof.Rows L2 Evl
open M3 (wat joinW pre)
abbrev s_are_places : Stmt := topS 16
abbrev N_are_places : List Str := ["code", "places", "place"]
theorem sc_are_places : FnScope N_are_places ["code", "places"] (defScope s_are_places) := ⟨rfl, rfl, rfl, by decide +kernel, rfl, by decide +kernel, by decide +kernel⟩
abbrev s_Reading___init__ : Stmt := inClass (topS 19) 0
abbrev N_Reading___init__ : List Str := ["self", "places"]
theorem sc_Reading___init__ : FnScope N_Reading___init__ ["self", "places"] (defScope s_Reading___init__) := ⟨rfl, rfl, rfl, by decide +kernel, rfl, by decide +kernel, by decide +kernel⟩
abbrev s_Reading_shows : Stmt := inClass (topS 19) 1
abbrev N_Reading_shows : List Str := ["self", "code", "text"]
theorem sc_Reading_shows : FnScope N_Reading_shows ["self", "code", "text"] (defScope s_Reading_shows) := ⟨rfl, rfl, rfl, by decide +kernel, rfl, by decide +kernel, by decide +kernel⟩
abbrev s_Stuck___init__ : Stmt := inClass (topS 20) 0
abbrev N_Stuck___init__ : List Str := ["self", "marks"]
theorem sc_Stuck___init__ : FnScope N_Stuck___init__ ["self", "marks"] (defScope s_Stuck___init__) := ⟨rfl, rfl, rfl, by decide +kernel, rfl, by decide +kernel, by decide +kernel⟩
abbrev s_Stuck_shows : Stmt := inClass (topS 20) 1
abbrev N_Stuck_shows : List Str := ["self", "code", "text", "mark", "word"]
theorem sc_Stuck_shows : FnScope N_Stuck_shows ["self", "code", "text"] (defScope s_Stuck_shows) := ⟨rfl, rfl, rfl, by decide +kernel, rfl, by decide +kernel, by decide +kernel⟩
local macro_rules | `(tactic| walk_at "sd") => `(tactic| first | assumption | rfl | omega | decide | (solve_by_elim) | (refine Nat.le_trans (m := 1000) (by solve_by_elim) (by decide)))
local macro_rules | `(tactic| walk_at "rv") => `(tactic| first
  | exact rv_add | exact rv_sub | exact rv_lt | exact rv_le | exact rv_gt | exact rv_ge | exact rv_eqI | exact rv_eqS | exact rv_eqB | exact rv_neI | exact rv_neS | exact rv_neB
  | exact rv_mod (by walk_at "sd") | exact rv_fdiv (by first | assumption | exact ⟨by omega, by omega⟩) | exact rv_addS (by walk_at "sd") | exact rv_isB | exact rv_notB | assumption)
local macro_rules | `(tactic| walk_at "ea") => `(tactic| first
  | exact ea_nil
  | (refine' ea_cons ?k1 ?k2; (case k1 => walk_at "ev"); (case k2 => walk_at "ea")))
local macro_rules | `(tactic| walk_at "eo") => `(tactic| first
  | exact eo_none
  | (refine' eo_some ?k1; (case k1 => walk_at "ev")))
local macro_rules | `(tactic| walk_at "et") => `(tactic| first
  | (refine' et_test ?k1; (case k1 => walk_at "ev"))
  | (refine' et_B ?k1; (case k1 => walk_at "ev"))
  | (refine' et_and ?k1 ?k2; (case k1 => walk_at "et"); (case k2 => (intro _; walk_at "et")))
  | (refine' et_or ?k1 ?k2; (case k1 => walk_at "et"); (case k2 => (intro _; walk_at "et")))
  | (refine' et_not ?k1; (case k1 => walk_at "et"))
  | assumption)
local macro_rules | `(tactic| walk_at "ev") => `(tactic| first
  | assumption
  | exact ev_cS
  | exact ev_c
  | exact ev_var rfl
  | (refine' ev_op ?k1 ?k2 ?k3; (case k1 => walk_at "ev"); (case k2 => walk_at "ev"); (case k3 => walk_at "rv"))
  | (refine' ev_un ?k1 ru_neg; (case k1 => walk_at "ev"))
  | (refine' ev_chain ?k1 ?k2 ?k3 ?k4 ?k5; (case k1 => walk_at "ev"); (case k2 => walk_at "ev"); (case k3 => walk_at "ev"); (case k4 => walk_at "rv"); (case k5 => (intro _; walk_at "rv")))
  | (refine' ev_slS ?k1 ?k2 ?k3 ?k4; (case k1 => walk_at "ev"); (case k2 => walk_at "eo"); (case k3 => walk_at "eo"); (case k4 => walk_at "sd"))
  | (refine' ev_lenS ?k1 ?k2; (case k1 => walk_at "ev"); (case k2 => walk_at "sd"))
  | (refine' ev_len' ?k1 ?k2; (case k1 => walk_at "ev"); (case k2 => walk_at "sd"))
  | (refine' ev_strip ?k1 ?k2 ?k3; (case k1 => walk_at "ev"); (case k2 => walk_at "ev"); (case k3 => walk_at "sd"))
  | (refine' ev_sum ?k1 ?k2; (case k1 => walk_at "ev"); (case k2 => walk_at "sd"))
  | (refine' ev_isi ?k1 ?k2 ?k3 ?k4; (case k1 => walk_at "ev"); (case k2 => walk_at "ev"); (case k3 => first | exact ty_int | exact ty_bl | exact ty_str | exact ty_list (by walk_at "sd")); (case k4 => first | exact kit_ty (r := true) (by decide +kernel) | exact kit_ty (r := false) (by decide +kernel)))
  | (refine' ev_andV ?k1 ?k2; (case k1 => walk_at "ev"); (case k2 => (intro _; walk_at "ev")))
  | (refine' ev_orV ?k1 ?k2; (case k1 => walk_at "ev"); (case k2 => (intro _; walk_at "ev")))
  | (refine' ev_notV ?k1; (case k1 => walk_at "ev"))
  | (refine' ev_call ?k1 ?k2; (case k1 => walk_at "ea"); (case k2 => walk_at "sv")))
local macro_rules | `(tactic| walk_at "el") => `(tactic| first
  | assumption
  | (refine' el_mapB ?k1 ?k2 ?k3 (fun _ => rfl) ?k5; (case k1 => walk_at "ev"); (case k2 => walk_at "sd"); (case k3 => walk_at "sd"); (case k5 => (intro _ _; walk_at "ev")))
  | (refine' el_mapI ?k1 ?k2 ?k3 (fun _ => rfl) ?k5; (case k1 => walk_at "ev"); (case k2 => walk_at "sd"); (case k3 => walk_at "sd"); (case k5 => (intro _ _; walk_at "ev")))
  | (refine' el_mapS ?k1 ?k2 ?k3 (fun _ => rfl) ?k5; (case k1 => walk_at "ev"); (case k2 => walk_at "sd"); (case k3 => walk_at "sd"); (case k5 => (intro _ _; walk_at "ev"))))
local macro_rules | `(tactic| walk_at "ev") => `(tactic| first
  | (refine' ev_all ?k1; (case k1 => walk_at "el"))
  | (refine' ev_any ?k1; (case k1 => walk_at "el"))
  | (refine' ev_sumN ?k1; (case k1 => walk_at "el"))
  | (refine' ev_join ?k1 ?k2 ?k3; (case k1 => exact ev_is ev_cS (congrArg tx codes_nil)); (case k2 => walk_at "el"); (case k3 => walk_at "sd")))

local macro_rules | `(tactic| walk_at "sv") => `(tactic| first | exact sv_is_text (by walk_at "sd") | exact sv_stands (by walk_at "sd") (by walk_at "sd"))
/-! ### members -/
theorem all_snoc {α : Type} {f : α → Bool} {xs : List α} {x : α} (h : xs.all f = true) (hf : f x = true) : (xs ++ [x]).all f = true := by
  rw [List.all_append, h, Bool.true_and, List.all_cons, List.all_nil, Bool.and_true]; exact hf
theorem all_take {α : Type} {f : α → Bool} {xs : List α} {i : Nat} {x : α} (hx : xs[i]? = some x) (h : (xs.take i).all f = true) (hf : f x = true) : (xs.take (i + 1)).all f = true := by
  rw [List.take_succ, hx]; exact all_snoc h hf
theorem flat_ints (ms : List Int) : (ms.map V.int).all flatV = true := by
  rw [List.all_map, List.all_eq_true]; intro _ _; rfl
theorem inV_ints (n : Int) (ms : List Int) : inV (.int n) (ms.map V.int) = decide (n ∈ ms) := by
  unfold inV
  rw [List.any_map]
  by_cases h : n ∈ ms
  · rw [decide_eq_true h, List.any_eq_true]
    exact ⟨n, h, by show (n == n) = true; simp⟩
  · rw [decide_eq_false h, List.any_eq_false]
    intro x hx
    have : x ≠ n := fun e => h (e ▸ hx)
    show ¬ (x == n) = true
    simpa using this
section
variable {K : PySem.W.Frag} {σ : L2.St} {H : Hp} {ta tb : TE}
theorem ev_inI {p : Addr} {n : Int} {ms : List Int} (ha : Ev ta σ H (.int n)) (hb : Ev tb σ H (.ref p)) (h : SqL K H p (ms.map V.int)) : Ev (tOp (rIn K false) ta tb) σ H (.bl (decide (n ∈ ms))) := by
  rw [← inV_ints]; exact ev_op ha hb (rv_isL h rfl (flat_ints ms))
theorem ev_niI {p : Addr} {n : Int} {ms : List Int} (ha : Ev ta σ H (.int n)) (hb : Ev tb σ H (.ref p)) (h : SqL K H p (ms.map V.int)) : Ev (tOp (rIn K true) ta tb) σ H (.bl (!decide (n ∈ ms))) := by
  rw [← inV_ints]; exact ev_op ha hb (rv_niL h rfl (flat_ints ms))
end
/-! ### are_places -/
def inR (n : Nat) (ns : List Int) : Bool := ns.all fun i => decide (0 ≤ i) && decide (i < (n : Int))
theorem inR_nat {n : Nat} {ns : List Int} (h : inR n ns = true) : ns.map V.int = (ns.map Int.toNat).map nI ∧ ∀ m ∈ ns.map Int.toNat, m < n := by
  unfold inR at h
  rw [List.all_eq_true] at h
  have hh : ∀ i ∈ ns, 0 ≤ i ∧ i < (n : Int) := fun i hi => by simpa using h i hi
  refine ⟨?_, fun m hm => ?_⟩
  · rw [List.map_map]
    apply List.map_congr_left
    intro i hi
    have := hh i hi
    show V.int i = V.int ((i.toNat : Nat) : Int)
    rw [Int.toNat_of_nonneg this.1]
  · obtain ⟨i, hi, rfl⟩ := List.mem_map.mp hm
    have := hh i hi
    omega
theorem inR_of {n : Nat} {ns : List Nat} (h : ∀ m ∈ ns, m < n) : inR n (List.map (fun m : Nat => (m : Int)) ns) = true := by
  unfold inR
  rw [List.all_map, List.all_eq_true]
  intro m hm
  have := h m hm
  show (decide ((0 : Int) ≤ (m : Int)) && decide ((m : Int) < (n : Int))) = true
  rw [decide_eq_true (by omega), decide_eq_true (by omega)]; rfl
section
variable {P : Program} {w : World} {K : PySem.W.Frag} {mg : Str → Option Value} {base : Heap} {H : Hp}
def spArePlaces (K : PySem.W.Frag) : Sp := fun vs H Q _ => ∃ (p q : Addr) (xs : List V) (ns : List Int), vs = [.ref p, .ref q] ∧ SqL K H p xs ∧ SqL K H q (ns.map V.int) ∧ ns.length ≤ 40000 ∧ ∀ H', Ex H H' → Q (.bl (inR xs.length ns)) H'
theorem sv_are_places {p q : Addr} {xs : List V} {ns : List Int} (h1 : SqL K H p xs) (h2 : SqL K H q (ns.map V.int)) (hn : ns.length ≤ 40000) : SpV (spArePlaces K) [.ref p, .ref q] H (.bl (inR xs.length ns)) := fun _ e _ k _ => ⟨p, q, xs, ns, rfl, ex_l e h1, ex_l e h2, hn, k⟩
theorem ok_are_places (D : DefAt K mg "are_places" s_are_places ["code", "places"]) (T : Blt mg) : Cal P w K mg base 1 "are_places" (spArePlaces K) := by
  refine cal_of D sc_are_places (fun vs H Q E h => ?_) (fun f cdv A outer s H vs Q E hr h => ?_)
  · obtain ⟨p, q, xs, ns, rfl, _⟩ := h; rfl
  · obtain ⟨p, q, xs, ns, rfl, h1, h2, hn, k⟩ := h
    refine ⟨_, (pss_one (ps_ret (pe_callB (cr_allK (K := K) rfl rfl) (by rfl) T.all (by decide +kernel) (pa_cons (pe_lc (own := [("place", 2)]) rfl sc_are_places.nd (pi_listK (K := K) rfl (pv 1)) (blkOk_by (own := [("place", 2)]) (N := N_are_places) (sc := defScope s_are_places) (by decide +kernel)) (fun _ _ _ _ _ => (pg_name (i := 2) sc_are_places.nd rfl (.inl rfl))) (fun _ _ _ _ _ => pts_nil) (fun _ _ _ _ _ => (pe_chain op_le op_lt pe_int (pv 2) (pe_callB (call_len_seqK (K := K) rfl) (by rfl) T.len (by decide +kernel) (pa_cons (pv 0) pa_nil))))) pa_nil)))), ?_⟩
    refine sev_run (sev_is (sev_ret (ev_all (el_mapB (φ := V.int) (g := fun i : Int => decide ((0 : Int) ≤ i) && decide (i < (xs.length : Int))) (ev_var rfl) h2 hn (fun _ => rfl) fun i hi => ?_))) (congrArg V.bl ?_)) k
    · exact ev_chain (y := .int i) ev_c (ev_var rfl) (ev_len' (ev_var rfl) h1) rv_le fun _ => rv_lt
    · rw [List.all_map]; rfl
/-! ### Reading -/
def rdShows (ws : List Wd) (ns : List Int) (t : Wd) : Bool := inR ws.length ns && decide (joinW ws (ns.map Int.toNat) = t)
theorem ok_Reading___init__ {aRd : Addr} (D : IniAt K aRd "Reading.__init__" s_Reading___init__ ["self", "places"]) (T : Blt mg) (G_Reading : mg "Reading" = some (.ref aRd)) (L_Reading : ClsI K aRd) (N_Reading_places : NoAttr K aRd "places") : MkAt P w K mg base 1 "Reading" aRd (spIni1 K aRd "places") := by
  refine mk_ofI G_Reading D sc_Reading___init__ (fun vs H Q E h => ?_) (fun f cdv A outer s H vs Q E hr h => ?_)
  · obtain ⟨p, q, dx, xs, rfl, _⟩ := h; rfl
  · obtain ⟨p, q, dx, xs, rfl, hp, hq, k⟩ := h
    refine ⟨_, (pss_one (ps_fldK (K := K) rfl (pv 0) (pe_callTy (call_list_ofK (K := K) rfl) (by rfl) T.list (by decide +kernel) (pa_cons (pv 1) pa_nil)))), ?_⟩
    exact ini1_run (D := ⟨fun _ H' => Q .non H', Q, fun _ _ => False, fun _ _ => False⟩) L_Reading.cl N_Reading_places hp hq rfl rfl k
theorem ok_Stuck___init__ {aSt : Addr} (D : IniAt K aSt "Stuck.__init__" s_Stuck___init__ ["self", "marks"]) (T : Blt mg) (G_Stuck : mg "Stuck" = some (.ref aSt)) (L_Stuck : ClsI K aSt) (N_Stuck_marks : NoAttr K aSt "marks") : MkAt P w K mg base 1 "Stuck" aSt (spIni1 K aSt "marks") := by
  refine mk_ofI G_Stuck D sc_Stuck___init__ (fun vs H Q E h => ?_) (fun f cdv A outer s H vs Q E hr h => ?_)
  · obtain ⟨p, q, dx, xs, rfl, _⟩ := h; rfl
  · obtain ⟨p, q, dx, xs, rfl, hp, hq, k⟩ := h
    refine ⟨_, (pss_one (ps_fldK (K := K) rfl (pv 0) (pe_callTy (call_list_ofK (K := K) rfl) (by rfl) T.list (by decide +kernel) (pa_cons (pv 1) pa_nil)))), ?_⟩
    exact ini1_run (D := ⟨fun _ H' => Q .non H', Q, fun _ _ => False, fun _ _ => False⟩) L_Stuck.cl N_Stuck_marks hp hq rfl rfl k
/-- an answer at o: a reading, or the marks, in the list at l -/
structure AnsAt (aRd aSt : Addr) (b : Bool) (H : Hp) (o l : Addr) (ns : List Int) : Prop where
  ob : ∃ dx, H o = some (.ins (if b then aRd else aSt) dx [(if b then ("places" : Str) else "marks", .ref l)])
  at_ : H l = some (.lst (ns.map V.int))
theorem AnsAt.ex {aRd aSt o l : Addr} {b : Bool} {H H' : Hp} {ns : List Int} (e : Ex H H') (h : AnsAt aRd aSt b H o l ns) : AnsAt aRd aSt b H' o l ns := by
  obtain ⟨⟨dx, h1⟩, h2⟩ := h
  exact ⟨⟨dx, e o _ h1⟩, e l _ h2⟩
def spRdShows (K : PySem.W.Frag) (aRd : Addr) : Sp := fun vs H Q _ => ∃ (o l p dx : Addr) (ws : List Wd) (ns : List Int) (t : Wd), vs = [.ref o, .ref p, tx t] ∧ H o = some (.ins aRd dx [("places", .ref l)]) ∧ SqL K H l (ns.map V.int) ∧ SqL K H p (ws.map tx) ∧ (∀ a ∈ ws, a.length ≤ 1000) ∧ ns.length ≤ 6000 ∧
  (inR ws.length ns = true → (joinW ws (ns.map Int.toNat)).length ≤ 100000) ∧ ∀ H', Ex H H' → Q (.bl (rdShows ws ns t)) H'
theorem look1 (f : Str) (v : V) : ([(f, v)] : List (Str × V)).lookup f = some v := by simp [List.lookup]
theorem ok_Reading_shows {aRd : Addr} (D : MthAt K aRd "shows" "Reading.shows" s_Reading_shows ["self", "code", "text"]) (T : Blt mg) (L_Reading : ClsI K aRd) (N_Reading_places : NoAttr K aRd "places") (C_are_places : Cal P w K mg base 1 "are_places" (spArePlaces K)) (C_joined : Cal P w K mg base 1 "joined" (spJoined K)) :
    MCal P w K mg base 2 aRd "shows" (spRdShows K aRd) := by
  refine mcal_of L_Reading.cl D sc_Reading_shows (fun vs H Q E h => ?_) (fun f cdv A outer s H vs Q E hr h => ?_)
  · obtain ⟨o, l, p, dx, ws, ns, t, rfl, _⟩ := h; rfl
  · obtain ⟨o, l, p, dx, ws, ns, t, rfl, ho, hl, hp, hb, hn, hj, k⟩ := h
    refine ⟨_, (pss_one (ps_ret (pe_and (pe_c C_are_places hr (by decide) (by rfl) (pa_cons (pv 1) (pa_cons (pe_fldK (K := K) rfl (pv 0)) pa_nil))) (pe_one (pe_cmpR op_eq (pe_c C_joined hr (by decide) (by rfl) (pa_cons (pv 1) (pa_cons (pe_fldK (K := K) rfl (pv 0)) pa_nil))) (pv 2) (nomark _)))))), ?_⟩
    have gl : Ev (tFld K (tVar 0) "places") [some (.ref o), some (.ref p), some (tx t)] H (.ref l) := ev_fld (ev_var rfl) ho L_Reading.cl N_Reading_places (look1 _ _)
    refine sev_run (sev_is (sev_ret (ev_andV (b := decide (joinW ws (ns.map Int.toNat) = t)) (ev_call (vs := [.ref p, .ref l]) (ea_cons (ev_var rfl) (ea_cons gl ea_nil)) (sv_are_places hp hl (by omega))) fun hr => ?_)) ?_) k
    · rw [List.length_map] at hr
      obtain ⟨e1, e2⟩ := inR_nat hr
      exact ev_op (ev_call (vs := [.ref p, .ref l]) (ea_cons (ev_var rfl) (ea_cons gl ea_nil)) (sv_joined hp (by rw [← e1]; exact hl) (by rw [List.length_map]; omega) e2 (hj hr))) (ev_var rfl) rv_eqS
    · rw [List.length_map]; rfl
/-! ### Stuck -/
def stTurn (ws : List Wd) (ms : List Int) (t : Wd) (m : Int) : Bool := decide (0 ≤ m) && decide (m ≤ (t.length : Int)) && ws.all fun a => !(standsB a t m.toNat && !decide (m + (a.length : Int) ∈ ms))
def stShows (ws : List Wd) (ms : List Int) (t : Wd) : Bool := decide (0 ∈ ms) && !decide ((t.length : Int) ∈ ms) && ms.all (stTurn ws ms t)
def spStShows (K : PySem.W.Frag) (aSt : Addr) : Sp := fun vs H Q _ => ∃ (o l p dx : Addr) (ws : List Wd) (ms : List Int) (t : Wd), vs = [.ref o, .ref p, tx t] ∧ H o = some (.ins aSt dx [("marks", .ref l)]) ∧ SqL K H l (ms.map V.int) ∧ SqL K H p (ws.map tx) ∧ (∀ a ∈ ws, a.length ≤ 1000) ∧ t.length ≤ 10000 ∧
  ∀ H', Ex H H' → Q (.bl (stShows ws ms t)) H'
theorem ok_Stuck_shows {aSt : Addr} (D : MthAt K aSt "shows" "Stuck.shows" s_Stuck_shows ["self", "code", "text"]) (T : Blt mg) (L_Stuck : ClsI K aSt) (N_Stuck_marks : NoAttr K aSt "marks") (C_stands : Cal P w K mg base 1 "stands" spStands) :
    MCal P w K mg base 2 aSt "shows" (spStShows K aSt) := by
  refine mcal_of L_Stuck.cl D sc_Stuck_shows (fun vs H Q E h => ?_) (fun f cdv A outer s H vs Q E hr h => ?_)
  · obtain ⟨o, l, p, dx, ws, ms, t, rfl, _⟩ := h; rfl
  · obtain ⟨o, l, p, dx, ws, ms, t, rfl, ho, hl, hp, hb, ht, k⟩ := h
    refine ⟨_, (pss_cons (ps_if (PW.pt (pw_or (pt_cmpR (op_notIn_seqK (K := K) rfl) pe_int (pe_fldK (K := K) rfl (pv 0)) rfl) (pw_or1 (pt_cmpR (op_in_seqK (K := K) rfl) (pe_callB call_len_str (by rfl) T.len (by decide +kernel) (pa_cons (pv 2) pa_nil)) (pe_fldK (K := K) rfl (pv 0)) rfl)))) (pss_one (ps_ret pe_bl)) pss_nil)
      (pss_cons (ps_for PassesOwn.never rfl (pi_listK (K := K) rfl (pe_fldK (K := K) rfl (pv 0))) (pg_name (i := 3) sc_Stuck_shows.nd rfl (.inl rfl)) (pss_cons (ps_if (pt_not (pt_chain op_le op_le pe_int (pv 3) (pe_callB call_len_str (by rfl) T.len (by decide +kernel) (pa_cons (pv 2) pa_nil)))) (pss_one (ps_ret pe_bl)) pss_nil)
      (pss_one (ps_for PassesOwn.never rfl (pi_listK (K := K) rfl (pv 1)) (pg_name (i := 4) sc_Stuck_shows.nd rfl (.inl rfl)) (pss_one (ps_if (PW.pt (pw_and (pt_val (pe_c C_stands hr (by decide) (by rfl) (pa_cons (pv 4) (pa_cons (pv 2) (pa_cons (pv 3) pa_nil))))) (pw_and1 (pt_cmpR (op_notIn_seqK (K := K) rfl) (pe_op op_add (pv 3) (pe_callB call_len_str (by rfl) T.len (by decide +kernel) (pa_cons (pv 4) pa_nil))) (pe_fldK (K := K) rfl (pv 0)) rfl)))) (pss_one (ps_ret pe_bl)) pss_nil))))))
      (pss_one (ps_ret pe_bl)))), ?_⟩
    have gl : ∀ (H' : Hp) (σ : L2.St), Ex H H' → σ[0]? = some (some (.ref o)) → Ev (tFld K (tVar 0) "marks") σ H' (.ref l) := fun H' σ e h0 => ev_fld (ev_var h0) (e o _ ho) L_Stuck.cl N_Stuck_marks (look1 _ _)
    refine q_when (b := !decide (0 ∈ ms) || decide ((t.length : Int) ∈ ms)) (et_or (et_B (ev_niI (n := 0) ev_c (gl _ _ (Ex.refl _) rfl) hl)) fun _ => et_B (ev_inI (ev_lenS (ev_var rfl) (by omega)) (gl _ _ (Ex.refl _) rfl) hl)) (fun h0 H1 e1 => ?_) (fun h0 H1 e1 => ?_)
    · have : stShows ws ms t = false := by
        unfold stShows
        cases h1 : decide ((0 : Int) ∈ ms) <;> cases h2 : decide ((t.length : Int) ∈ ms) <;> rw [h1, h2] at h0 <;> first | rfl | cases h0
      rw [this] at k
      exact s_ret ev_c fun H2 e2 => k H2 (e1.trans e2)
    · have hsh : stShows ws ms t = ms.all (stTurn ws ms t) := by
        unfold stShows
        cases h1 : decide ((0 : Int) ∈ ms) <;> cases h2 : decide ((t.length : Int) ∈ ms) <;> rw [h1, h2] at h0 <;> first | rfl | cases h0
      rw [hsh] at k
      refine q_forLn (a := l) (xs := ms.map V.int) (gl _ _ e1 rfl) (ex_l e1 hl) (fun i σ' H' => ∃ s3 s4, Ex H H' ∧ (ms.take i).all (stTurn ws ms t) = true ∧ σ' = [some (.ref o), some (.ref p), some (tx t), s3, s4])
        (fun H2 e2 => ⟨_, _, e1.trans e2, rfl, rfl⟩) (fun i σ' H' _ hP => by obtain ⟨_, _, e, _⟩ := hP; exact ex_l e hl) (fun i x σ' H' hi hP => ?_) (fun σ' H' hP => ?_)
      · obtain ⟨s3, s4, ex, hall, rfl⟩ := hP
        have hil : i < ms.length := by
          have := (List.getElem?_eq_some_iff.mp hi).1
          rwa [List.length_map] at this
        have hmi : ms[i]? = some ms[i] := List.getElem?_eq_getElem hil
        have hx : x = .int ms[i] := by
          rw [List.getElem?_map, hmi] at hi
          exact (Option.some.inj hi).symm
        subst hx
        have hmem : ms[i] ∈ ms := List.getElem_mem hil
        generalize ms[i] = m at *
        have fin : ∀ H2, Ex H H2 → stTurn ws ms t m = false → Q (.bl false) H2 := fun H2 e2 hf => by
          have : ms.all (stTurn ws ms t) = false := by
            rw [List.all_eq_false]
            exact ⟨m, hmem, by rw [hf]; decide⟩
          rw [this] at k
          exact k H2 e2
        refine q_when (b := !(decide (0 ≤ m) && decide (m ≤ (t.length : Int)))) (et_not (et_B (ev_chain (y := .int m) ev_c (ev_var rfl) (ev_lenS (ev_var rfl) (by omega)) rv_le fun _ => rv_le))) (fun hr0 H2 e2 => ?_) (fun hr0 H2 e2 => ?_)
        · refine s_ret ev_c fun H3 e3 => fin H3 ((ex.trans e2).trans e3) ?_
          unfold stTurn
          cases h1 : (decide (0 ≤ m) && decide (m ≤ (t.length : Int))) with
          | true => rw [h1] at hr0; cases hr0
          | false => rfl
        · have hr1 : (decide (0 ≤ m) && decide (m ≤ (t.length : Int))) = true := by
            cases h1 : (decide (0 ≤ m) && decide (m ≤ (t.length : Int))) with
            | true => rfl
            | false => rw [h1] at hr0; cases hr0
          have hst : stTurn ws ms t m = ws.all fun a => !(standsB a t m.toNat && !decide (m + (a.length : Int) ∈ ms)) := by
            unfold stTurn; rw [hr1]; rfl
          have hm0 : 0 ≤ m := by
            rw [Bool.and_eq_true] at hr1
            exact of_decide_eq_true hr1.1
          have em : m = ((m.toNat : Nat) : Int) := by omega
          refine s_forLn (a := p) (xs := ws.map tx) (ev_var rfl) (ex_l (ex.trans e2) hp) (fun j σ' H' => ∃ s4, Ex H H' ∧ (ws.take j).all (fun a => !(standsB a t m.toNat && !decide (m + (a.length : Int) ∈ ms))) = true ∧ σ' = [some (.ref o), some (.ref p), some (tx t), some (.int m), s4])
            (fun H3 e3 => ⟨_, (ex.trans e2).trans e3, rfl, rfl⟩) (fun j σ' H' _ hP => by obtain ⟨_, e, _⟩ := hP; exact ex_l e hp) (fun j x σ' H' hj hP => ?_) (fun σ' H' hP => ?_)
          · obtain ⟨s4, ex3, hall3, rfl⟩ := hP
            have hjl : j < ws.length := by
              have := (List.getElem?_eq_some_iff.mp hj).1
              rwa [List.length_map] at this
            have hwj : ws[j]? = some ws[j] := List.getElem?_eq_getElem hjl
            have hx : x = tx ws[j] := by
              rw [List.getElem?_map, hwj] at hj
              exact (Option.some.inj hj).symm
            subst hx
            have hwm : ws[j] ∈ ws := List.getElem_mem hjl
            have htk : ws.take (j + 1) = ws.take j ++ [ws[j]] := by rw [List.take_succ, hwj]; rfl
            have hbj := hb _ hwm
            rw [htk]
            generalize ws[j] = a at *
            refine s_when (b := standsB a t m.toNat && !decide (m + (a.length : Int) ∈ ms)) (et_and (et_test (ev_call (vs := [tx a, tx t, .int ((m.toNat : Nat) : Int)]) (by rw [← em]; walk_at "ea") (sv_stands (by omega) ht))) fun _ => et_B (ev_niI (ev_op (x := .int m) (ev_var rfl) (ev_lenS (ev_var rfl) (by omega)) rv_add) (gl _ _ ex3 rfl) (ex_l ex3 hl))) (fun hs H4 e4 => ?_) (fun hs H4 e4 => ?_)
            · refine s_ret ev_c fun H5 e5 => fin H5 ((ex3.trans e4).trans e5) ?_
              rw [hst, List.all_eq_false]
              exact ⟨a, hwm, by rw [hs]; decide⟩
            · refine ⟨some (tx a), ex3.trans e4, ?_, rfl⟩
              refine all_snoc hall3 ?_
              show (!(standsB a t m.toNat && !decide (m + (a.length : Int) ∈ ms))) = true
              rw [hs]; rfl
          · obtain ⟨s4, ex3, hall3, rfl⟩ := hP
            rw [List.length_map, List.take_length] at hall3
            refine ⟨_, _, ex3, all_take hmi hall ?_, rfl⟩
            rw [hst, hall3]
      · obtain ⟨s3, s4, ex, hall, rfl⟩ := hP
        rw [List.length_map, List.take_length] at hall
        rw [hall] at k
        exact s_ret ev_c fun H2 e2 => k H2 (ex.trans e2)
end
end Tr

set_option Elab.async false
set_option linter.all false
set_option maxRecDepth 100000
set_option maxHeartbeats 4000000
namespace Tr
open PySem PySem.Spec PyProof.Rows L2 Evl
open M3 (wat joinW pre ways pick nthW bef num)
abbrev s_table_of : Stmt := topS 22
abbrev N_table_of : List Str := ["code", "text", "mark", "found", "word"]
theorem sc_table_of : FnScope N_table_of ["code", "text"] (defScope s_table_of) := ⟨rfl, rfl, rfl, by decide +kernel, rfl, by decide +kernel, by decide +kernel⟩
abbrev s_nth : Stmt := topS 25
abbrev N_nth : List Str := ["code", "text", "table", "number", "found", "mark", "left", "step", "place", "word", "many"]
theorem sc_nth : FnScope N_nth ["code", "text", "table", "number"] (defScope s_nth) := ⟨rfl, rfl, rfl, by decide +kernel, rfl, by decide +kernel, by decide +kernel⟩
abbrev s_how_many : Stmt := topS 26
abbrev N_how_many : List Str := ["code", "text"]
theorem sc_how_many : FnScope N_how_many ["code", "text"] (defScope s_how_many) := ⟨rfl, rfl, rfl, by decide +kernel, rfl, by decide +kernel, by decide +kernel⟩
local macro_rules | `(tactic| walk_at "sd") => `(tactic| first | assumption | rfl | omega | decide | (solve_by_elim) | (refine Nat.le_trans (m := 1000) (by solve_by_elim) (by decide)))
local macro_rules | `(tactic| walk_at "rv") => `(tactic| first
  | exact rv_add | exact rv_sub | exact rv_lt | exact rv_le | exact rv_gt | exact rv_ge | exact rv_eqI | exact rv_eqS | exact rv_eqB | exact rv_neI | exact rv_neS | exact rv_neB
  | exact rv_mod (by walk_at "sd") | exact rv_fdiv (by first | assumption | exact ⟨by omega, by omega⟩) | exact rv_addS (by walk_at "sd") | exact rv_isB | exact rv_notB | assumption)
local macro_rules | `(tactic| walk_at "ea") => `(tactic| first
  | exact ea_nil
  | (refine' ea_cons ?k1 ?k2; (case k1 => walk_at "ev"); (case k2 => walk_at "ea")))
local macro_rules | `(tactic| walk_at "eo") => `(tactic| first
  | exact eo_none
  | (refine' eo_some ?k1; (case k1 => walk_at "ev")))
local macro_rules | `(tactic| walk_at "et") => `(tactic| first
  | (refine' et_test ?k1; (case k1 => walk_at "ev"))
  | (refine' et_B ?k1; (case k1 => walk_at "ev"))
  | (refine' et_and ?k1 ?k2; (case k1 => walk_at "et"); (case k2 => (intro _; walk_at "et")))
  | (refine' et_or ?k1 ?k2; (case k1 => walk_at "et"); (case k2 => (intro _; walk_at "et")))
  | (refine' et_not ?k1; (case k1 => walk_at "et"))
  | assumption)
local macro_rules | `(tactic| walk_at "ev") => `(tactic| first
  | assumption
  | exact ev_cS
  | exact ev_c
  | exact ev_var rfl
  | (refine' ev_op ?k1 ?k2 ?k3; (case k1 => walk_at "ev"); (case k2 => walk_at "ev"); (case k3 => walk_at "rv"))
  | (refine' ev_un ?k1 ru_neg; (case k1 => walk_at "ev"))
  | (refine' ev_chain ?k1 ?k2 ?k3 ?k4 ?k5; (case k1 => walk_at "ev"); (case k2 => walk_at "ev"); (case k3 => walk_at "ev"); (case k4 => walk_at "rv"); (case k5 => (intro _; walk_at "rv")))
  | (refine' ev_slS ?k1 ?k2 ?k3 ?k4; (case k1 => walk_at "ev"); (case k2 => walk_at "eo"); (case k3 => walk_at "eo"); (case k4 => walk_at "sd"))
  | (refine' ev_lenS ?k1 ?k2; (case k1 => walk_at "ev"); (case k2 => walk_at "sd"))
  | (refine' ev_len' ?k1 ?k2; (case k1 => walk_at "ev"); (case k2 => walk_at "sd"))
  | (refine' ev_strip ?k1 ?k2 ?k3; (case k1 => walk_at "ev"); (case k2 => walk_at "ev"); (case k3 => walk_at "sd"))
  | (refine' ev_sum ?k1 ?k2; (case k1 => walk_at "ev"); (case k2 => walk_at "sd"))
  | (refine' ev_isi ?k1 ?k2 ?k3 ?k4; (case k1 => walk_at "ev"); (case k2 => walk_at "ev"); (case k3 => first | exact ty_int | exact ty_bl | exact ty_str | exact ty_list (by walk_at "sd")); (case k4 => first | exact kit_ty (r := true) (by decide +kernel) | exact kit_ty (r := false) (by decide +kernel)))
  | (refine' ev_andV ?k1 ?k2; (case k1 => walk_at "ev"); (case k2 => (intro _; walk_at "ev")))
  | (refine' ev_orV ?k1 ?k2; (case k1 => walk_at "ev"); (case k2 => (intro _; walk_at "ev")))
  | (refine' ev_notV ?k1; (case k1 => walk_at "ev"))
  | (refine' ev_call ?k1 ?k2; (case k1 => walk_at "ea"); (case k2 => walk_at "sv")))
local macro_rules | `(tactic| walk_at "el") => `(tactic| first
  | assumption
  | (refine' el_mapB ?k1 ?k2 ?k3 (fun _ => rfl) ?k5; (case k1 => walk_at "ev"); (case k2 => walk_at "sd"); (case k3 => walk_at "sd"); (case k5 => (intro _ _; walk_at "ev")))
  | (refine' el_mapI ?k1 ?k2 ?k3 (fun _ => rfl) ?k5; (case k1 => walk_at "ev"); (case k2 => walk_at "sd"); (case k3 => walk_at "sd"); (case k5 => (intro _ _; walk_at "ev")))
  | (refine' el_mapS ?k1 ?k2 ?k3 (fun _ => rfl) ?k5; (case k1 => walk_at "ev"); (case k2 => walk_at "sd"); (case k3 => walk_at "sd"); (case k5 => (intro _ _; walk_at "ev"))))
local macro_rules | `(tactic| walk_at "ev") => `(tactic| first
  | (refine' ev_all ?k1; (case k1 => walk_at "el"))
  | (refine' ev_any ?k1; (case k1 => walk_at "el"))
  | (refine' ev_sumN ?k1; (case k1 => walk_at "el"))
  | (refine' ev_join ?k1 ?k2 ?k3; (case k1 => exact ev_is ev_cS (congrArg tx codes_nil)); (case k2 => walk_at "el"); (case k3 => walk_at "sd")))

local macro_rules | `(tactic| walk_at "sv") => `(tactic| first | exact sv_is_text (by walk_at "sd") | exact sv_is_number | exact sv_stands (by walk_at "sd") (by walk_at "sd") | exact sv_asked_code (by walk_at "sd") | exact sv_asked_text (by walk_at "sd") (by walk_at "sd"))
/-- the counts behind each mark -/
def tabN (ws : List Wd) (t : Wd) : List Nat := (List.range (t.length + 1)).map fun m => ways ws (t.drop m)
def tabP (ws : List Wd) (t : Wd) (lo : Nat) : List Nat := (List.range (t.length + 1)).map fun m => if lo ≤ m then ways ws (t.drop m) else 0
theorem tabP_zero (ws : List Wd) (t : Wd) : tabP ws t 0 = tabN ws t := by
  unfold tabP tabN
  apply List.map_congr_left
  intro m _
  rw [if_pos (Nat.zero_le _)]
theorem tabP_set (ws : List Wd) (t : Wd) (lo : Nat) (h : lo ≤ t.length) : ((tabP ws t (lo + 1)).map nI).set lo (nI (ways ws (t.drop lo))) = (tabP ws t lo).map nI := by
  rw [← List.map_set]
  congr 1
  unfold tabP
  apply List.ext_getElem?
  intro i
  rw [List.getElem?_set, List.getElem?_map, List.getElem?_map]
  rcases Nat.lt_or_ge i (t.length + 1) with hi | hi
  · rw [List.getElem?_range hi]
    by_cases e : lo = i
    · subst e
      rw [if_pos rfl, if_pos (by simpa using hi)]
      simp
    · rw [if_neg e]
      simp only [Option.map_some]
      have : (lo + 1 ≤ i) ↔ (lo ≤ i) := by omega
      simp [this]
  · rw [List.getElem?_eq_none (by simpa using hi)]
    have : lo ≠ i := by omega
    simp [this]
theorem tabP_get (ws : List Wd) (t : Wd) {lo m : Nat} (h : lo ≤ m) (hm : m ≤ t.length) : ((tabP ws t lo).map nI)[m]? = some (nI (ways ws (t.drop m))) := by
  unfold tabP
  rw [List.getElem?_map, List.getElem?_map, List.getElem?_range (by omega)]
  simp [h]
theorem tabN_get (ws : List Wd) (t : Wd) {m : Nat} (hm : m ≤ t.length) : ((tabN ws t).map nI)[m]? = some (nI (ways ws (t.drop m))) := by
  rw [← tabP_zero]; exact tabP_get ws t (Nat.zero_le _) hm
section
variable {P : Program} {w : World} {K : PySem.W.Frag} {mg : Str → Option Value} {base : Heap} {H : Hp}
/-! ### table_of -/
def spTable (K : PySem.W.Frag) : Sp := fun vs H Q _ => ∃ (p : Addr) (ws : List Wd) (t : Wd), vs = [.ref p, tx t] ∧ CodeAt K H p ws ∧ t.length ≤ 5000 ∧ RetL ((tabN ws t).map nI) H Q
theorem sl_table {p : Addr} {ws : List Wd} {t : Wd} (h : CodeAt K H p ws) (ht : t.length ≤ 5000) : SpL (spTable K) [.ref p, tx t] H ((tabN ws t).map nI) := fun _ e _ q _ => ⟨p, ws, t, rfl, h.ex e, ht, q⟩
theorem ok_table_of (D : DefAt K mg "table_of" s_table_of ["code", "text"]) (T : Blt mg) (C_stands : Cal P w K mg base 1 "stands" spStands) : Cal P w K mg base 2 "table_of" (spTable K) := by
  refine cal_of D sc_table_of (fun vs H Q E h => ?_) (fun f cdv A outer s H vs Q E hr h => ?_)
  · obtain ⟨p, ws, t, rfl, _⟩ := h; rfl
  · obtain ⟨p, ws, t, rfl, hc, ht, k⟩ := h
    refine ⟨_, (pss_cons (ps_set (i := 3) sc_table_of.nd rfl (.inr rfl) (pe_lc (own := [("mark", 2)]) rfl sc_table_of.nd (pi_range1 (by rfl) T.range (pa_cons (pe_op op_add (pe_callB call_len_str (by rfl) T.len (by decide +kernel) (pa_cons (pv 1) pa_nil)) pe_int) pa_nil)) (blkOk_by (own := [("mark", 2)]) (N := N_table_of) (sc := defScope s_table_of) (by decide +kernel)) (fun _ _ _ _ _ => (pg_name (i := 2) sc_table_of.nd rfl (.inl rfl))) (fun _ _ _ _ _ => pts_nil) (fun _ _ _ _ _ => pe_int)))
      (pss_cons (ps_asg pe_int (pg_sub (pv 3) (pe_callB call_len_str (by rfl) T.len (by decide +kernel) (pa_cons (pv 1) pa_nil)) set_list))
      (pss_cons (ps_for PassesOwn.never rfl (pi_revR (by rfl) T.reversed (prg_1 (by rfl) T.range (pe_callB call_len_str (by rfl) T.len (by decide +kernel) (pa_cons (pv 1) pa_nil)))) (pg_name (i := 2) sc_table_of.nd rfl (.inr rfl)) (pss_one (ps_asg (pe_callB (cr_sumK (K := K) rfl rfl) (by rfl) T.sum (by decide +kernel) (pa_cons (pe_lc (own := [("word", 4)]) rfl sc_table_of.nd (pi_listK (K := K) rfl (pv 0)) (blkOk_by (own := [("word", 4)]) (N := N_table_of) (sc := defScope s_table_of) (by decide +kernel)) (fun _ _ _ _ _ => (pg_name (i := 4) sc_table_of.nd rfl (.inl rfl))) (fun _ _ _ _ _ => (pts_one (pt_val (pe_c C_stands hr (by decide) (by rfl) (pa_cons (pv 4) (pa_cons (pv 1) (pa_cons (pv 2) pa_nil))))))) (fun _ _ _ _ _ => (pe_ix (ix_listK (K := K) rfl) (pv 3) (pe_op op_add (pv 2) (pe_callB call_len_str (by rfl) T.len (by decide +kernel) (pa_cons (pv 4) pa_nil))) (fun _ _ => rfl)))) pa_nil)) (pg_sub (pv 3) (pv 2) set_list))))
      (pss_one (ps_ret (pv 3)))))), ?_⟩
    have hz : ws.length ≤ 40000 := Nat.le_trans hc.len (by decide)
    have hb : ∀ a, a ∈ ws → a.length ≤ 1000 := fun a ha => (hc.ok a ha).2.2
    have hw : ∀ a ∈ ws, a ≠ [] := fun a ha => (hc.ok a ha).1
    have e0 : (((t.length + 1 : Nat) : Int)) = (t.length : Int) + 1 := rfl
    -- found = [0 ..]
    refine q_asgL (el_range (t.length + 1) (fun _ => V.int 0) (by rw [e0]; walk_at "ea") (by omega) (fun _ => rfl) fun i hi => ev_c) fun q H1 nq e1 h1 => ?_
    -- found[len(text)] = 1
    refine q_setL (j := t.length) h1 (v := .int 1) ev_c (ev_var rfl) (by walk_at "ev") (by simp) fun H2 e2 => ?_
    have hset : ((List.range (t.length + 1)).map fun _ => V.int 0).set t.length (.int 1) = (tabP ws t t.length).map nI := by
      have h := tabP_set ws t t.length (Nat.le_refl _)
      rw [← h]
      have h3 : ways ws (t.drop t.length) = 1 := by rw [List.drop_length]; rfl
      rw [h3]
      have h4 : (tabP ws t (t.length + 1)).map nI = (List.range (t.length + 1)).map fun _ => V.int 0 := by
        unfold tabP
        rw [List.map_map]
        apply List.map_congr_left
        intro m hm
        have := List.mem_range.mp hm
        show nI (if t.length + 1 ≤ m then _ else 0) = _
        rw [if_neg (by omega)]
        rfl
      rw [h4]
      rfl
    rw [hset]
    -- the loop
    refine q_forRev (n := t.length) (by walk_at "ev") (by omega) (fun i σ' H' => ∃ mv, σ' = [some (.ref p), some (tx t), mv, some (.ref q), none] ∧ Ex H H' ∧ H' q = some (.lst ((tabP ws t (t.length - i)).map nI)))
      (fun H3 e3 => ⟨_, rfl, ((Ex.mut (e1.trans e2) nq).trans e3), e3 q _ upd_same⟩) (fun i σ' H' hi p => ?_) (fun σ' H' p => ?_)
    · obtain ⟨mv, rfl, e', hq⟩ := p
      have em : t.length - i = (t.length - 1 - i) + 1 := by omega
      rw [em] at hq
      generalize hmm : t.length - 1 - i = m at hq ⊢
      have hm : m < t.length := by omega
      have hcs : SqL K H' p (ws.map tx) := ex_l e' hc.sq
      have hne : t.drop m ≠ [] := fun z => by
        have := congrArg List.length z
        rw [List.length_drop, List.length_nil] at this; omega
      have hsum : (((ws.filter fun a => standsB a t m).map fun a => ((ways ws (t.drop (m + a.length)) : Nat) : Int))).sum = ((ways ws (t.drop m) : Nat) : Int) := by
        rw [M3.ways_eq ws hw hne]
        have h1 : (ws.filter fun a => standsB a t m) = ws.filter fun a => pre a (t.drop m) := rfl
        rw [h1]
        generalize ws.filter (fun a => pre a (t.drop m)) = us
        induction us with
        | nil => rfl
        | cons a r ih =>
          simp only [List.map_cons, List.sum_cons]
          rw [ih, List.drop_drop]
          omega
      refine s_setL (j := m) hq (v := .int ((ways ws (t.drop m) : Nat) : Int)) ?_ (ev_var rfl) (ev_var rfl) (by unfold tabP; simp; omega) fun H2 e2 => ⟨_, rfl, Ex.mut (e'.trans e2) nq, ?_⟩
      · rw [← hsum]
        refine ev_sumN (el_filterI (φ := tx) (p := fun a => standsB a t m) (ev_var rfl) hcs hz (fun _ => rfl) (fun a ha => ?_) (fun a ha hp => ?_))
        · exact et_B (ev_call (by walk_at "ea") (sv_stands (a := a) (t := t) (i := m) (Nat.le_trans (hb a ha) (by decide)) (by omega)))
        · have hpl := M3.pre_len hp
          rw [List.length_drop] at hpl
          have hal : 0 < a.length := List.length_pos_iff.mpr (hw a ha)
          have e9 : (m : Int) + (a.length : Int) = ((m + a.length : Nat) : Int) := by omega
          have hal2 : a.length ≤ 100000 := Nat.le_trans (hb a ha) (by decide)
          refine ev_op (y := .int ((m + a.length : Nat) : Int)) (ev_var rfl) (by rw [← e9]; walk_at "ev") (rv_ixL (sq_of hq) (atI_nat (tabP_get ws t (by omega) (by omega))))
      · have hs := tabP_set ws t m (by omega)
        have e10 : t.length - (i + 1) = m := by omega
        rw [e10, ← hs]
        exact upd_same
    · obtain ⟨mv, rfl, e', hq⟩ := p
      rw [Nat.sub_self, tabP_zero] at hq
      exact ⟨.ref q, rfl, k q H' nq e' hq⟩
/-! ### nth -/
def spNth (K : PySem.W.Frag) : Sp := fun vs H Q _ => ∃ (p q : Addr) (ws : List Wd) (t : Wd) (k : Nat), vs = [.ref p, tx t, .ref q, .int (k : Int)] ∧ CodeAt K H p ws ∧ t.length ≤ 5000 ∧ SqL K H q ((tabN ws t).map nI) ∧ k < ways ws t ∧ RetL ((nthW ws t k).map nI) H Q
theorem sl_nth {p q : Addr} {ws : List Wd} {t : Wd} {k : Nat} (h : CodeAt K H p ws) (ht : t.length ≤ 5000) (hq : SqL K H q ((tabN ws t).map nI)) (hk : k < ways ws t) : SpL (spNth K) [.ref p, tx t, .ref q, .int (k : Int)] H ((nthW ws t k).map nI) :=
  fun _ e _ r _ => ⟨p, q, ws, t, k, rfl, h.ex e, ht, ex_l e hq, hk, r⟩
theorem nthF_fuel (ws : List Wd) (hw : ∀ a ∈ ws, a ≠ []) : ∀ (n m : Nat) (t : Wd) (k : Nat), t.length ≤ n → t.length ≤ m → k < ways ws t → M3.nthF ws n t k = M3.nthF ws m t k
  | n, m, [], _, _, _, _ => by cases n <;> cases m <;> rfl
  | 0, m, c :: r, _, h, _, _ => by simp at h
  | n + 1, 0, c :: r, _, _, h, _ => by simp at h
  | n + 1, m + 1, c :: r, k, h1, h2, hk => by
    have hne : (c :: r) ≠ [] := by simp
    obtain ⟨j, k', e1, e2, e3, e4, e5⟩ := M3.pick_some ws (c :: r) ws 0 k rfl (by omega) (by rw [M3.bef_zero, M3.bef_all ws hw hne]; omega)
    have hl := M3.wat_ne hw e2
    simp only [M3.nthF, e1]
    congr 1
    apply nthF_fuel ws hw
    · simp only [List.length_drop, List.length_cons] at h1 ⊢; omega
    · simp only [List.length_drop, List.length_cons] at h2 ⊢; omega
    · exact e4
theorem nthW_step (ws : List Wd) (hw : ∀ a ∈ ws, a ≠ []) {t : Wd} (ht : t ≠ []) {k j k' : Nat} (hk : k < ways ws t) (hp : pick ws t ws 0 k = some (j, k')) : nthW ws t k = j :: nthW ws (t.drop (wat ws j).length) k' := by
  cases t with
  | nil => exact absurd rfl ht
  | cons c r =>
    obtain ⟨j2, k2, e1, e2, e3, e4, e5⟩ := M3.pick_some ws (c :: r) ws 0 k rfl (by omega) (by rw [M3.bef_zero, M3.bef_all ws hw ht]; omega)
    rw [hp] at e1
    obtain ⟨rfl, rfl⟩ := Prod.mk.inj (Option.some.inj e1)
    have hl := M3.wat_ne hw e2
    show M3.nthF ws (r.length + 1) (c :: r) k = _
    simp only [M3.nthF, hp]
    congr 1
    apply nthF_fuel ws hw
    · simp only [List.length_drop, List.length_cons]; omega
    · exact Nat.le_refl _
    · exact e4
theorem ok_nth (D : DefAt K mg "nth" s_nth ["code", "text", "table", "number"]) (T : Blt mg) (C_stands : Cal P w K mg base 1 "stands" spStands) : Cal P w K mg base 2 "nth" (spNth K) := by
  refine cal_of D sc_nth (fun vs H Q E h => ?_) (fun f cdv A outer s H vs Q E hr h => ?_)
  · obtain ⟨p, q, ws, t, k, rfl, _⟩ := h; rfl
  · obtain ⟨p, q, ws, t, k, rfl, hc, ht, hq, hk, r⟩ := h
    refine ⟨_, (pss_cons (ps_set (i := 4) sc_nth.nd rfl (.inl rfl) (pe_lst pa_nil))
      (pss_cons (ps_set (i := 5) sc_nth.nd rfl (.inl rfl) pe_int)
      (pss_cons (ps_set (i := 6) sc_nth.nd rfl (.inl rfl) (pv 3))
      (pss_cons (ps_while PassesOwn.never (pt_cmpR op_lt (pv 5) (pe_callB call_len_str (by rfl) T.len (by decide +kernel) (pa_cons (pv 1) pa_nil)) (nomark _)) (pss_cons (ps_set (i := 7) sc_nth.nd rfl (.inl rfl) pe_int)
      (pss_cons (ps_for PassesOwn.never rfl (pi_enumK (K := K) rfl (by rfl) T.enumerate (pa_cons (pv 0) pa_nil)) (pg_tupK (K := K) rfl rfl (pgs_cons (pg_name (i := 8) sc_nth.nd rfl (.inl rfl)) (pgs_cons (pg_name (i := 9) sc_nth.nd rfl (.inl rfl)) pgs_nil))) (pss_one (ps_if (PW.pt (pw_and (pt_cmpR op_eq (pv 7) pe_int (nomark _)) (pw_and1 (pt_val (pe_c C_stands hr (by decide) (by rfl) (pa_cons (pv 9) (pa_cons (pv 1) (pa_cons (pv 5) pa_nil)))))))) (pss_cons (ps_set (i := 10) sc_nth.nd rfl (.inl rfl) (pe_ix (ix_listK (K := K) rfl) (pv 2) (pe_op op_add (pv 5) (pe_callB call_len_str (by rfl) T.len (by decide +kernel) (pa_cons (pv 9) pa_nil))) (fun _ _ => rfl)))
      (pss_one (ps_if (pt_cmpR op_lt (pv 6) (pv 10) (nomark _)) (pss_cons (ps_expr (pe_bm PySem.F.plainAttrs_list PySem.F.slot_list_append PySem.F.type_list_append mt_append (pv 4) (pa_cons (pv 8) pa_nil)))
      (pss_one (ps_set (i := 7) sc_nth.nd rfl (.inl rfl) (pe_callB call_len_str (by rfl) T.len (by decide +kernel) (pa_cons (pv 9) pa_nil))))) (pss_one (ps_set (i := 6) sc_nth.nd rfl (.inl rfl) (pe_op op_sub (pv 6) (pv 10))))))) pss_nil)))
      (pss_one (ps_set (i := 5) sc_nth.nd rfl (.inl rfl) (pe_op op_add (pv 5) (pv 7)))))))
      (pss_one (ps_ret (pv 4))))))), ?_⟩
    have hz : ws.length ≤ 40000 := Nat.le_trans hc.len (by decide)
    have hb : ∀ a, a ∈ ws → a.length ≤ 1000 := fun a ha => (hc.ok a ha).2.2
    have hw : ∀ a ∈ ws, a ≠ [] := fun a ha => (hc.ok a ha).1
    have hlen := M3.join_len ws hw _ (M3.nthW_ok ws hw hk).2.1
    rw [(M3.nthW_ok ws hw hk).1] at hlen
    refine q_asgL (el_lst ea_nil (by decide)) fun l H1 nl e1 h1 => ?_
    refine q_asg ev_c fun H2 e2 => q_asg (ev_var rfl) fun H3 e3 => ?_
    have e13 := (e1.trans e2).trans e3
    refine q_while (fun m σ' H' => ∃ (mk kk : Nat) (ns : List Nat) (s7 s8 s9 s10 : Option V), σ' = [some (.ref p), some (tx t), some (.ref q), some (.int (k : Int)), some (.ref l), some (.int (mk : Int)), some (.int (kk : Int)), s7, s8, s9, s10] ∧
        mk + m = t.length ∧ kk < ways ws (t.drop mk) ∧ nthW ws t k = ns ++ nthW ws (t.drop mk) kk ∧ Ex H H' ∧ H' l = some (.lst (ns.map nI))) t.length
      ⟨0, k, [], none, none, none, none, rfl, by omega, hk, rfl, e13, e3 l _ (e2 l _ h1)⟩ fun m σ' H' hW => ?_
    obtain ⟨mk, kk, ns, s7, s8, s9, s10, rfl, hm, hkk, hns, e', hl⟩ := hW
    refine ⟨_, et_test (ev_op (ev_var rfl) (ev_lenS (ev_var rfl) (by omega)) rv_lt), fun hlt H4 e4 => ?_, fun hge H4 e4 => ?_⟩
    · -- a turn
      have hlt' : mk < t.length := by have := of_decide_eq_true hlt; omega
      have hne : t.drop mk ≠ [] := fun z => by
        have := congrArg List.length z
        rw [List.length_drop, List.length_nil] at this; omega
      obtain ⟨j, k', p1, p2, p3, p4, p5⟩ := M3.pick_some ws (t.drop mk) ws 0 kk rfl (by omega) (by rw [M3.bef_zero, M3.bef_all ws hw hne]; omega)
      have hstep := nthW_step ws hw hne hkk p1
      have hjl := M3.wat_ne hw p2
      have hjp := M3.pre_len p3
      rw [List.length_drop] at hjp
      rw [List.drop_drop] at hstep p4
      refine ⟨fun σ2 H2 => ∃ s8 s9 s10, σ2 = [some (.ref p), some (tx t), some (.ref q), some (.int (k : Int)), some (.ref l), some (.int ((mk + (wat ws j).length : Nat) : Int)), some (.int (k' : Int)), some (.int ((wat ws j).length : Int)), s8, s9, s10] ∧
          Ex H H2 ∧ H2 l = some (.lst ((ns ++ [j]).map nI)), fun σ2 H2 hN => ?_, ?_⟩
      · obtain ⟨y8, y9, y10, rfl, e2', hl2⟩ := hN
        refine ⟨m - (wat ws j).length, by omega, mk + (wat ws j).length, k', ns ++ [j], _, y8, y9, y10, rfl, by omega, p4, ?_, e2', hl2⟩
        rw [hns, hstep, List.append_assoc]; rfl
      · refine q_asg ev_c fun H5 e5 => ?_
        have ex5 := (e'.trans e4).trans e5
        -- for place, word in enumerate(code)
        refine q_forEnum (a := p) (xs := ws.map tx) (ev_var rfl) (ex_l ex5 hc.sq)
          (fun i σ2 H2 => ∃ s8 s9 s10, Ex H H2 ∧ ((∃ kc : Nat, σ2 = [some (.ref p), some (tx t), some (.ref q), some (.int (k : Int)), some (.ref l), some (.int (mk : Int)), some (.int (kc : Int)), some (.int 0), s8, s9, s10] ∧
              pick ws (t.drop mk) (ws.drop i) i kc = some (j, k') ∧ H2 l = some (.lst (ns.map nI))) ∨
            (σ2 = [some (.ref p), some (tx t), some (.ref q), some (.int (k : Int)), some (.ref l), some (.int (mk : Int)), some (.int (k' : Int)), some (.int ((wat ws j).length : Int)), s8, s9, s10] ∧ H2 l = some (.lst ((ns ++ [j]).map nI)))))
          (fun H6 e6 => ⟨s8, s9, s10, ex5.trans e6, .inl ⟨kk, rfl, p1, (e4.trans (e5.trans e6)) l _ hl⟩⟩)
          (fun i σ2 H2 hP => by obtain ⟨_, _, _, ex, _⟩ := hP; exact ex_l ex hc.sq)
          (fun i σ2 H2 H6 hP e6 => by
            obtain ⟨y8, y9, y10, ex, hP⟩ := hP
            refine ⟨y8, y9, y10, ex.trans e6, ?_⟩
            rcases hP with ⟨kc, a1, a2, a3⟩ | ⟨a1, a2⟩
            · exact .inl ⟨kc, a1, a2, e6 l _ a3⟩
            · exact .inr ⟨a1, e6 l _ a2⟩)
          (fun i x σ2 H2 hi hP => ?_) (fun σ2 H2 hP => ?_)
        · obtain ⟨y8, y9, y10, ex, hP⟩ := hP
          have hil : i < ws.length := by
            have := (List.getElem?_eq_some_iff.mp hi).1
            rwa [List.length_map] at this
          have hx : x = tx ws[i] := by
            rw [List.getElem?_map, List.getElem?_eq_getElem hil] at hi
            exact (Option.some.inj hi).symm
          subst hx
          have hwl := hb ws[i] (List.getElem_mem hil)
          rcases hP with ⟨kc, rfl, a2, a3⟩ | ⟨rfl, a2⟩
          · -- not found yet
            have hdr : ws.drop i = ws[i] :: ws.drop (i + 1) := (List.getElem_cons_drop hil).symm
            rw [hdr] at a2
            unfold pick at a2
            refine s_when (b := pre ws[i] (t.drop mk)) (et_is (et_and (et_test (ev_op (ev_var rfl) ev_c rv_eqI)) fun _ => et_B (ev_call (by walk_at "ea") (sv_stands (a := ws[i]) (t := t) (i := mk) (by omega) (by omega)))) (by simp [standsB])) (fun hp H6 e6 => ?_) (fun hp H6 e6 => ?_)
            · rw [if_pos hp] at a2
              have hpl := M3.pre_len hp
              rw [List.length_drop] at hpl
              have e9 : (mk : Int) + (ws[i].length : Int) = ((mk + ws[i].length : Nat) : Int) := by omega
              have hq6 : SqL K H6 q ((tabN ws t).map nI) := ex_l (ex.trans e6) hq
              refine q_asg (v := nI (ways ws (t.drop (mk + ws[i].length)))) (ev_op (y := .int ((mk + ws[i].length : Nat) : Int)) (ev_var rfl) (by rw [← e9]; walk_at "ev") (rv_ixL hq6 (atI_nat (tabN_get ws t (by omega))))) fun H7 e7 => ?_
              rw [List.drop_drop] at a2
              refine s_if (et_test (ev_op (ev_var rfl) (ev_var rfl) rv_lt)) (fun hlt H8 e8 => ?_) (fun hge H8 e8 => ?_)
              · have hlt2 : kc < ways ws (t.drop (mk + ws[i].length)) := by have := of_decide_eq_true hlt; omega
                rw [if_pos hlt2] at a2
                obtain ⟨rfl, rfl⟩ := Prod.mk.inj (Option.some.inj a2)
                have ew : wat ws i = ws[i] := by simp [wat, List.getD, hil]
                have hll : ns.length < 100000 := by
                  have := congrArg List.length hns
                  rw [List.length_append] at this; omega
                refine q_app (xs := ns.map nI) (v := .int (i : Int)) (e8 l _ (e7 l _ (e6 l _ a3))) (ev_var rfl) (ev_var rfl) (by simpa using hll) fun H9 e9' => ?_
                refine s_asg (v := .int ((wat ws i).length : Int)) (by rw [ew]; walk_at "ev") fun H10 e10 => ?_
                refine ⟨_, _, _, ?_, .inr ⟨rfl, ?_⟩⟩
                · exact (Ex.mut ((((ex.trans e6).trans e7).trans e8).trans e9') nl).trans e10
                · rw [e10 l _ upd_same, List.map_append]; rfl
              · have hge2 : ¬ kc < ways ws (t.drop (mk + ws[i].length)) := fun z => by
                  have := of_decide_eq_false hge; omega
                rw [if_neg hge2] at a2
                refine s_asg (v := .int ((kc - ways ws (t.drop (mk + ws[i].length)) : Nat) : Int)) (ev_is (ev_op (ev_var rfl) (ev_var rfl) rv_sub) (congrArg V.int (by omega))) fun H9 e9' => ?_
                exact ⟨_, _, _, (((ex.trans e6).trans e7).trans e8).trans e9', .inl ⟨_, rfl, a2, e9' l _ (e8 l _ (e7 l _ (e6 l _ a3)))⟩⟩
            · rw [if_neg (by rw [hp]; decide)] at a2
              exact ⟨_, _, _, ex.trans e6, .inl ⟨kc, rfl, a2, e6 l _ a3⟩⟩
          · -- found
            refine s_when (b := false) (et_is (et_and (b := true) (et_test (ev_op (ev_var rfl) ev_c rv_eqI)) fun hz2 => absurd (of_decide_eq_true hz2) (by omega)) (by
              have : ¬ ((wat ws j).length : Int) = 0 := by omega
              rw [decide_eq_false this]; rfl)) (fun hp => nomatch hp) (fun _ H6 e6 => ⟨_, _, _, ex.trans e6, .inr ⟨rfl, e6 l _ a2⟩⟩)
        · -- behind the for
          obtain ⟨y8, y9, y10, ex, hP⟩ := hP
          rcases hP with ⟨kc, rfl, a2, a3⟩ | ⟨rfl, a2⟩
          · rw [List.length_map, List.drop_length] at a2
            exact absurd a2 (by simp [pick])
          · refine s_asg (v := .int ((mk + (wat ws j).length : Nat) : Int)) (ev_is (ev_op (ev_var rfl) (ev_var rfl) rv_add) (congrArg V.int (by omega))) fun H7 e7 => ?_
            exact ⟨_, _, _, rfl, ex.trans e7, e7 l _ a2⟩
    · have hge' : ¬ mk < t.length := fun z => by have := of_decide_eq_false hge; omega
      have hnil : t.drop mk = [] := List.drop_eq_nil_of_le (by omega)
      rw [hnil] at hns
      have hns2 : nthW ws t k = ns := by rw [hns]; exact List.append_nil ns
      exact ⟨.ref l, rfl, r l H4 nl (e'.trans e4) (by rw [hns2]; exact e4 l _ hl)⟩
/-! ### how_many, told, number_of -/
def spHowMany (K : PySem.W.Frag) : Sp := fun vs H Q _ => ∃ (p : Addr) (ws : List Wd) (t : Wd), vs = [.ref p, tx t] ∧ CodeAt K H p ws ∧ t.length ≤ 5000 ∧ okW t ∧ ∀ H', Ex H H' → Q (.int ((ways ws t : Nat) : Int)) H'
theorem sv_how_many {p : Addr} {ws : List Wd} {t : Wd} (h : CodeAt K H p ws) (ht : t.length ≤ 5000) (ho : okW t) : SpV (spHowMany K) [.ref p, tx t] H (.int ((ways ws t : Nat) : Int)) := fun _ e _ q _ => ⟨p, ws, t, rfl, h.ex e, ht, ho, q⟩
theorem ev_ixN {ta tb : TE} {σ : L2.St} {xs : List V} {v : V} {i : Int} (ha : EvL ta σ H xs) (hb : Ev tb σ H (.int i)) (hv : atI xs i = some v) : Ev (tOp (rIxL K) ta tb) σ H v :=
  ev_opL1 ha (fun H1 e => hb.mono e) fun p H1 h1 e => rv_ixL (sq_of h1) hv
theorem ok_how_many (D : DefAt K mg "how_many" s_how_many ["code", "text"]) (T : Blt mg) (C_asked_code : Cal P w K mg base 2 "asked_code" (spAskedCode K)) (C_asked_text : Cal P w K mg base 2 "asked_text" spAskedText)
    (C_table_of : Cal P w K mg base 2 "table_of" (spTable K)) : Cal P w K mg base 3 "how_many" (spHowMany K) := by
  refine cal_of D sc_how_many (fun vs H Q E h => ?_) (fun f cdv A outer s H vs Q E hr h => ?_)
  · obtain ⟨p, ws, t, rfl, _⟩ := h; rfl
  · obtain ⟨p, ws, t, rfl, hc, ht, ho, q⟩ := h
    refine ⟨_, (pss_cons (ps_expr (pe_c C_asked_code hr (by decide) (by rfl) (pa_cons (pv 0) pa_nil)))
      (pss_cons (ps_expr (pe_c C_asked_text hr (by decide) (by rfl) (pa_cons (pv 1) pa_nil)))
      (pss_one (ps_ret (pe_ix (ix_listK (K := K) rfl) (pe_c C_table_of hr (by decide) (by rfl) (pa_cons (pv 0) (pa_cons (pv 1) pa_nil))) pe_int (fun _ _ => rfl)))))), ?_⟩
    have ht2 : t.length ≤ 10000 := by omega
    refine sev_run (sev_drop (x := .non) (by walk_at "ev") (sev_drop (x := .non) (by walk_at "ev") (sev_ret ?_))) q
    exact ev_ixN (el_call (by walk_at "ea") (sl_table hc ht)) ev_c (atI_nat (j := 0) (tabN_get ws t (Nat.zero_le _)))
end
end Tr

set_option Elab.async false
set_option linter.all false
set_option maxRecDepth 100000
set_option maxHeartbeats 4000000
/-! TrB: rules that the layer lacks: text * int, text[::-1], set(list of ints), list >= list of ints. -/
namespace Tr
open PySem PySem.Spec PyProof.Rows L2 Evl
/-! ### a text times an int -/
def repW (a : Wd) (n : Int) : Wd := (List.replicate n.toNat a).flatten
theorem fold_rep (a : Wd) (k : Nat) : ∀ acc : Wd, List.foldl (fun x y => x ++ y) acc.toArray (List.replicate k a.toArray) = (acc ++ (List.replicate k a).flatten).toArray := by
  induction k with
  | zero => intro acc; simp
  | succ k ih =>
    intro acc
    rw [List.replicate_succ, List.foldl_cons]
    have : acc.toArray ++ a.toArray = (acc ++ a).toArray := by simp
    rw [this, ih, List.replicate_succ, List.flatten_cons, List.append_assoc]
def rRepS : R2 := fun x y H Q => ∃ (a : Wd) (n : Int), x = tx a ∧ y = .int n ∧ -1000 ≤ n ∧ n ≤ 1000 ∧ a.length ≤ 1000 ∧ Q (tx (repW a n)) H
theorem op_rep_str {X : Cx} : OpR X (binaryOp .Mult) rRepS := by
  intro pins s σ H x y v u Q I rx ry h
  obtain ⟨a, n, rfl, rfl, h1, h2, h3, q⟩ := h
  obtain ⟨t, rfl⟩ := rx
  obtain ⟨t', rfl⟩ := ry
  have hmul : a.length * n.toNat ≤ 1000 * 1000 := Nat.mul_le_mul h3 (by omega)
  refine P.mul_str ?_ ?_ ?_ ?_
  · have e1 : ¬ n < -(2 ^ 63 : Int) := by omega
    have e2 : ¬ n ≥ 2 ^ 63 := by omega
    rw [decide_eq_false e1, decide_eq_false e2]; rfl
  · intro hn _ hc
    rw [S_len] at hc
    have e3 : (1000 : Int) ≤ (2 ^ 63 - 1) / n := by
      rw [Int.le_ediv_iff_mul_le (by omega)]; omega
    omega
  · intro hn _
    rw [S_len]
    unfold Builtin.Str.tooLong
    exact decide_eq_false (by rw [sizeLine_eq]; omega)
  · have fin : ∀ (b : Wd) (k : Tok) (tk : Tok), b = repW a n → EP X pins σ Q (.str (S b) k) { s with toks := tk } := fun b k tk e => ⟨tx (repW a n), H, I.tok _, ⟨k, by rw [e]⟩, q⟩
    by_cases hn : n < 1
    · rw [if_pos hn]
      refine ⟨by decide, ?_⟩
      have e0 : repW a n = [] := by
        unfold repW
        have : n.toNat = 0 := by omega
        rw [this]; rfl
      exact fin [] _ _ e0.symm
    · rw [if_neg hn]
      by_cases h4 : (n == 1 || (S a).length == 0) = true
      · rw [if_pos h4]
        have e0 : repW a n = a := by
          unfold repW
          rw [Bool.or_eq_true, beq_iff_eq, beq_iff_eq, S_len] at h4
          rcases h4 with h4 | h4
          · subst h4; simp
          · have : a = [] := List.eq_nil_of_length_eq_zero h4
            subst this
            have hh : ∀ k, (List.replicate k ([] : Wd)).flatten = [] := fun k => by induction k with
              | zero => rfl
              | succ k ih => rw [List.replicate_succ, List.flatten_cons, ih]; rfl
            exact hh _
        exact fin a t s.toks e0.symm
      · rw [if_neg h4]
        have e0 : (⟨(List.replicate n.toNat (S a).cps).foldl (· ++ ·) #[]⟩ : Str) = S (repW a n) := by
          show Str.mk (List.foldl (fun x y => x ++ y) ([] : Wd).toArray (List.replicate n.toNat a.toArray)) = _
          rw [fold_rep]; rfl
        rw [e0]
        refine ⟨by rw [S_len]; unfold repW; rw [List.length_flatten, List.map_replicate, List.sum_replicate_nat, Nat.mul_comm]; rw [sizeLine_eq]; omega, ?_⟩
        exact fin _ _ _ rfl
theorem rv_repS {H : Hp} {a : Wd} {n : Int} (h : (-1000 ≤ n ∧ n ≤ 1000) ∧ a.length ≤ 1000) : RV rRepS (tx a) (.int n) H (tx (repW a n)) := fun H1 _ Q q => ⟨a, n, rfl, rfl, h.1.1, h.1.2, h.2, q H1 (Ex.refl H1)⟩
/-! ### text[::-1] -/
def tRevS (te : TE) : TE := fun σ H Q => te σ H fun x H1 => ∃ a : Wd, x = tx a ∧ a.length ≤ 100000 ∧ Q (tx a.reverse) H1
theorem rev_indices (a : Wd) : (Builtin.Str.strSliceIndices none none (-1) (S a).length).filterMap ((S a).cps[·]?) = a.reverse := by
  have h1 : Builtin.Str.strSliceIndices none none (-1) (S a).length = sliceRange (((S a).length : Int) - 1) (-1) (-1) := rfl
  have h2 : (S a).length = a.toArray.size := rfl
  rw [h1, h2, PySem.W.krv_sliceRange, PySem.W.krv_range, List.filterMap_reverse]
  have h3 := PySem.W.krv_all a.toArray
  exact congrArg List.reverse (by simpa [S] using h3)
theorem pe_revS {X : Cx} {e : Expr} {te : TE} {k : Nat} {p1 p2 p3 pos : Pos} (he : PE X e te) : PE X (.Subscript e (.Slice none none (some (.UnaryOp .USub (.Constant (.int 1) k p1) p2)) p3) pos) (tRevS te) := by
  refine ⟨fun pins s σ H Q I h => Subscript_ (thn (he.run pins s σ H _ I h) fun v s1 ⟨x, H1, I1, r1, a, ex, hz, q⟩ => ?_)⟩
  subst ex
  obtain ⟨t, rfl⟩ := r1
  have hst : PO X (some (.UnaryOp .USub (.Constant (.int 1) k p1) p2)) (tPart (tUn (rU fun i => .int (-i)) (tC (.int 1)))) := po_some (pe_un un_neg pe_int)
  refine wpAny_Slice (thn (po_none.run pins s1 σ H1 (fun o H2 => o = none ∧ H2 = H1) I1 ⟨rfl, rfl⟩) fun vl s2 ⟨o2, H2, I2, pl, e2, e3⟩ => ?_)
  subst e2 e3
  refine thn (po_none.run pins s2 σ H2 (fun o H3 => o = none ∧ H3 = H2) I2 ⟨rfl, rfl⟩) fun vu s3 ⟨o3, H3, I3, pu, e4, e5⟩ => ?_
  subst e4 e5
  refine thn (hst.run pins s3 σ H3 (fun o H4 => o = some (-1) ∧ H4 = H3) I3 ⟨1, rfl, -1, rfl, rfl, rfl⟩) fun vs s4 ⟨o4, H4, I4, ps, e6, e7⟩ => ?_
  subst e6 e7
  obtain ⟨pl', rfl, hl⟩ := IsPart.raw pl
  obtain ⟨pu', rfl, hu⟩ := IsPart.raw pu
  obtain ⟨ps', rfl, hs⟩ := IsPart.raw ps
  have I5 : Inv X pins σ H4 { s4 with heap := s4.heap.push { cls := .type "slice", data := .fields #[partValue pl', partValue pu', partValue ps'] } } := I4.kept (t' := s4.toks) fun b ob q => Heap.get?_push_of_some _ q
  show wpAny (model X.prog X.w) X.A (subscriptTail e (.Slice none none (some (.UnaryOp .USub (.Constant (.int 1) k p1) p2)) p3) (.str (S a) t) (.ref s4.heap.objs.size)) (EP X pins σ Q) X.xe { s4 with heap := s4.heap.push { cls := .type "slice", data := .fields #[partValue pl', partValue pu', partValue ps'] } }
  refine tail_any (ops := [.str (S a) t, .ref s4.heap.objs.size]) (typeIs_str _ _ _) F.slot_str_getitem.lookup ?_ (by with_unfolding_all rfl)
  refine wpAny_getItem_str_slice (l := pl') (u := pu') (st := ps') ⟨_, Heap.get?_push_size _ rfl, rfl, rfl⟩ (by rw [hs]; rfl) ?_
  unfold sliceMade slicePicked
  rw [hs, hl, hu]
  show Made.post (if ((-1 : Int) == 1 && _) = true then _ else Made.str ⟨((Builtin.Str.strSliceIndices none none (-1) (S a).length).filterMap ((S a).cps[·]?)).toArray⟩) (EP X pins σ Q) _
  rw [if_neg (by simp)]
  show Made.post (Made.str ⟨((Builtin.Str.strSliceIndices none none (-1) (S a).length).filterMap ((S a).cps[·]?)).toArray⟩) (EP X pins σ Q) _
  rw [rev_indices]
  refine ⟨?_, tx a.reverse, H4, I5.tok _, ⟨_, rfl⟩, q⟩
  show (S a.reverse).length ≤ sizeLine
  rw [S_len, List.length_reverse]
  exact sz_of hz
theorem ev_revS {te : TE} {σ : L2.St} {H : Hp} {a : Wd} (h : Ev te σ H (tx a)) (hz : a.length ≤ 100000) : Ev (tRevS te) σ H (tx a.reverse) := fun H1 e Q q => h H1 e _ fun H2 e2 => ⟨a, rfl, hz, q H2 e2⟩
/-! ### list >= list of ints -/
end Tr
namespace TrG
open PySem PySem.SeqAt
open PySem.AutoSeq1 (wpAny_loadPart')
open PySem.MeetsSeq PySem.MeetsSeq2 PySem.MeetsSeq3 PySem.SeqRoads2
abbrev LObj (dd : Option Addr) (xs : Array Value) (n : Nat) (sl : Array (Option Value)) : Obj := { cls := .type "list", dict := dd, data := .seq xs n, slots := sl }
theorem ge_loop (l b : Addr) (xs ys : Array Value) (n n2 : Nat) (dd dd2 : Option Addr) (sl sl2 : Array (Option Value)) (e r : Nat → Bool) : ∀ (k i : Nat), min xs.size ys.size - i = k →
    Meets (Builtin.«list.__eq__.loop» ⟨[.ref l, .ref b, rawInt i, rawInt 5], []⟩) fun A R s =>
      s.heap.get? l = some (LObj dd xs n sl) ∧ s.heap.get? b = some (LObj dd2 ys n2 sl2) ∧ (∀ j (h1 : j < xs.size) (h2 : j < ys.size), EqAt A.in1 s xs[j] ys[j] (e j)) ∧
      (∀ j (h1 : j < xs.size) (h2 : j < ys.size), e j = false → Ob.RcOp .GtE A.in1 s xs[j] ys[j] (r j)) ∧ R (.ok (.ret (.bool (Ob.lexAt e r (decide (xs.size ≥ ys.size)) i k)))) s
  | 0, i, hk => fun prog w A R s h => by
    obtain ⟨h0, g, d, tk, os⟩ := s
    obtain ⟨hl, hb, he, hr, h⟩ := h
    wp_walk using wpAny_loadPart' hl, wpAny_loadPart' hb
    rcases Nat.lt_or_ge i xs.size with h1 | h1
    · have q1 : xs[((i : Nat) : Int).toNat]? = some xs[i] := by simp [h1]
      have q2 : ys[((i : Nat) : Int).toNat]? = none := by simp; omega
      rw [q1, q2]
      wp_walk using wpAny_loadPart' hl, wpAny_loadPart' hb
      exact h
    · have q1 : xs[((i : Nat) : Int).toNat]? = none := by simp; omega
      rw [q1]
      wp_walk using wpAny_loadPart' hl, wpAny_loadPart' hb
      exact h
  | k + 1, i, hk => fun prog w A R s h => by
    obtain ⟨h0, g, d, tk, os⟩ := s
    obtain ⟨hl, hb, he, hr, h⟩ := h
    wp_walk using wpAny_loadPart' hl, wpAny_loadPart' hb
    have l1 : i < xs.size := by omega
    have l2 : i < ys.size := by omega
    have q1 : xs[((i : Nat) : Int).toNat]? = some xs[i] := by simp [l1]
    have q2 : ys[((i : Nat) : Int).toNat]? = some ys[i] := by simp [l2]
    rw [Ob.lexAt_succ] at h
    rw [q1, q2]
    refine wpAny_bind (he i l1 l2 prog w _ _ ?_)
    cases hei : e i with
    | true =>
      rw [hei, if_pos rfl] at h
      wp_walk
      have q3 : (i : Int) + 1 = ((i + 1 : Nat) : Int) := by omega
      rw [q3]
      exact ⟨plainId_quiet plain_eq_loop _, codeAny_builtin entry_eq_loop (by
        rw [Around.under_plainId plain_eq_loop _]
        exact ge_loop l b xs ys n n2 dd dd2 sl sl2 e r k (i + 1) (by omega) prog w A R _ ⟨hl, hb, he, hr, h⟩)⟩
    | false =>
      rw [hei, if_neg Bool.false_ne_true] at h
      wp_walk using wpAny_loadPart' hl, wpAny_loadPart' hb
      rw [q1, q2]
      have hri := hr i l1 l2 hei prog w
      wp_walk using hri
      exact h
theorem ge_at (l b : Addr) (xs ys : Array Value) (n n2 : Nat) (dd dd2 : Option Addr) (sl sl2 : Array (Option Value)) (e r : Nat → Bool) :
    Meets (Builtin.«list.__ge__» ⟨[.ref l, .ref b], []⟩) fun A R s =>
      s.heap.get? l = some (LObj dd xs n sl) ∧ s.heap.get? b = some (LObj dd2 ys n2 sl2) ∧ (∀ j (h1 : j < xs.size) (h2 : j < ys.size), EqAt A.in1 s xs[j] ys[j] (e j)) ∧
      (∀ j (h1 : j < xs.size) (h2 : j < ys.size), e j = false → Ob.RcOp .GtE A.in1 s xs[j] ys[j] (r j)) ∧ R (.ok (.ret (.bool (Ob.lexAt e r (decide (xs.size ≥ ys.size)) 0 (min xs.size ys.size))))) s := fun prog w A R s h => by
  obtain ⟨h0, g, d, tk, os⟩ := s
  obtain ⟨hl, hb, he, hr, h⟩ := h
  have f3 := AutoSeq1.sub_list_list
  wp_walk using wpAny_loadPart' hl, wpAny_loadPart' hb
  exact ⟨plainId_quiet plain_eq_loop _, codeAny_builtin entry_eq_loop (by
    rw [Around.under_plainId plain_eq_loop _]
    exact ge_loop l b xs ys n n2 dd dd2 sl sl2 e r _ 0 rfl prog w A R _ ⟨hl, hb, he, hr, by simpa using h⟩)⟩
theorem ge_lists {A : Around} {s : Shared} {l b : Addr} {xs ys : Array Value} {e r : Nat → Bool} (hl : s.heap.IsList l xs) (hb : s.heap.IsList b ys) (hu : A.units < cLine) (he : ∀ j (h1 : j < xs.size) (h2 : j < ys.size), EqAt A.in1 s xs[j] ys[j] (e j))
    (hr : ∀ j (h1 : j < xs.size) (h2 : j < ys.size), e j = false → Ob.RcOp .GtE A.in1 s xs[j] ys[j] (r j)) : Ob.RcOp .GtE A s (.ref l) (.ref b) (Ob.lexAt e r (decide (xs.size ≥ ys.size)) 0 (min xs.size ys.size)) := fun prog w E Q h => by
  obtain ⟨⟨c1, d1, x1, s1⟩, g1, k1, n, k2⟩ := id hl
  obtain ⟨⟨c2, d2, x2, s2⟩, g2, k3, n2, k4⟩ := id hb
  dsimp only at k1 k2 k3 k4
  subst k1 k2 k3 k4
  exact richCompare_meets_room (op := .GtE) ⟨_, g1, rfl⟩ ⟨_, g2, rfl⟩ F.slot_list_ge F.entry_list_ge (F.args_list_ge_2 _ _) (ge_at l b xs ys n n2 d1 d2 s1 s2 e r) ⟨g1, g2, he, hr, ⟨(fun x => nomatch x), h⟩⟩ hu
end TrG
namespace Tr
open PySem PySem.Spec PyProof.Rows L2 Evl
/-- a >= b of lists of ints, as the machine finds it -/
def geI (ns ms : List Int) : Bool := Ob.lexAt (fun j => decide (ns.getD j 0 = ms.getD j 0)) (fun j => decide (ms.getD j 0 ≤ ns.getD j 0)) (decide (ns.length ≥ ms.length)) 0 (min ns.length ms.length)
def rGeL (K : PySem.W.Frag) : R2 := fun x y H Q => ∃ (a b : Addr) (ns ms : List Int), x = .ref a ∧ y = .ref b ∧ SqL K H a (ns.map V.int) ∧ SqL K H b (ms.map V.int) ∧ Q (.bl (geI ns ms)) H
theorem op_geLK {X : Cx} {K : PySem.W.Frag} (hK : X.K = K) (hu : X.A.units < cLine) : OpR X (compareOp .GtE) (rGeL K) := by
  subst hK
  intro pins s σ H x y v u Q I rx ry h
  obtain ⟨a, b, ns, ms, rfl, rfl, ha, hb, q⟩ := h
  cases rx
  cases ry
  obtain ⟨us, r1, p1, _⟩ := I.list ha
  obtain ⟨us2, r2, p2, _⟩ := I.list hb
  have i1 : IntsAre us ns := Vals.ints r1
  have i2 : IntsAre us2 ms := Vals.ints r2
  have z1 : us.toArray.size = ns.length := by rw [List.size_toArray]; exact i1.length
  have z2 : us2.toArray.size = ms.length := by rw [List.size_toArray]; exact i2.length
  have t1 : ∀ j (h1 : j < us.toArray.size), ∃ t, us.toArray[j] = .int (ns.getD j 0) t := fun j h1 => PyProof.Rows.IntsAre.int_at i1 _ _ (by simp at h1; simp [h1])
  have t2 : ∀ j (h1 : j < us2.toArray.size), ∃ t, us2.toArray[j] = .int (ms.getD j 0) t := fun j h1 => PyProof.Rows.IntsAre.int_at i2 _ _ (by simp at h1; simp [h1])
  have R := TrG.ge_lists (A := X.A) (s := s) (e := fun j => decide (ns.getD j 0 = ms.getD j 0)) (r := fun j => decide (ms.getD j 0 ≤ ns.getD j 0)) p1.isList p2.isList hu (fun j h1 h2 => by
    obtain ⟨t, et⟩ := t1 j h1
    obtain ⟨t', et'⟩ := t2 j h2
    rw [et, et', show decide (ns.getD j 0 = ms.getD j 0) = (ns.getD j 0 == ms.getD j 0) from (Bool.beq_eq_decide_eq _ _).symm]
    exact SeqAt.EqAt.int_int _ _ _ _) (fun j h1 h2 _ => by
    obtain ⟨t, et⟩ := t1 j h1
    obtain ⟨t', et'⟩ := t2 j h2
    rw [et, et']
    exact Ob.RcOp.ge_int _ _ _ _)
  rw [z1, z2] at R
  exact (R X.prog X.w X.xe (EP X pins σ Q) ⟨.bl _, H, I, rfl, q⟩ : wpAny (model X.prog X.w) X.A (compareOp .GtE (.ref a) (.ref b)) (EP X pins σ Q) X.xe s)
theorem rv_geL {K : PySem.W.Frag} {H : Hp} {a b : Addr} {ns ms : List Int} (ha : SqL K H a (ns.map V.int)) (hb : SqL K H b (ms.map V.int)) : RV (rGeL K) (.ref a) (.ref b) H (.bl (geI ns ms)) := fun H1 e _ q => ⟨a, b, ns, ms, rfl, rfl, ex_l e ha, ex_l e hb, q H1 (Ex.refl H1)⟩
end Tr

set_option Elab.async false
set_option linter.all false
set_option maxRecDepth 100000
set_option maxHeartbeats 4000000
namespace Tr
open PySem PySem.Spec PyProof.Rows L2 Evl
open M3 (wat joinW pre ways nthW)
abbrev s_marks_of : Stmt := topS 23
abbrev N_marks_of : List Str := ["code", "text", "found", "seen", "at", "word", "mark"]
theorem sc_marks_of : FnScope N_marks_of ["code", "text"] (defScope s_marks_of) := ⟨rfl, rfl, rfl, by decide +kernel, rfl, by decide +kernel, by decide +kernel⟩
abbrev s_read : Stmt := topS 24
abbrev N_read : List Str := ["code", "text", "table"]
theorem sc_read : FnScope N_read ["code", "text"] (defScope s_read) := ⟨rfl, rfl, rfl, by decide +kernel, rfl, by decide +kernel, by decide +kernel⟩
abbrev s_text_of : Stmt := topS 12
abbrev N_text_of : List Str := ["code", "places", "place"]
theorem sc_text_of : FnScope N_text_of ["code", "places"] (defScope s_text_of) := ⟨rfl, rfl, rfl, by decide +kernel, rfl, by decide +kernel, by decide +kernel⟩
local macro_rules | `(tactic| walk_at "sd") => `(tactic| first | assumption | rfl | omega | decide | (solve_by_elim) | (refine Nat.le_trans (m := 1000) (by solve_by_elim) (by decide)))
local macro_rules | `(tactic| walk_at "rv") => `(tactic| first
  | exact rv_add | exact rv_sub | exact rv_lt | exact rv_le | exact rv_gt | exact rv_ge | exact rv_eqI | exact rv_eqS | exact rv_eqB | exact rv_neI | exact rv_neS | exact rv_neB
  | exact rv_mod (by walk_at "sd") | exact rv_fdiv (by first | assumption | exact ⟨by omega, by omega⟩) | exact rv_addS (by walk_at "sd") | exact rv_isB | exact rv_notB | assumption)
local macro_rules | `(tactic| walk_at "ea") => `(tactic| first
  | exact ea_nil
  | (refine' ea_cons ?k1 ?k2; (case k1 => walk_at "ev"); (case k2 => walk_at "ea")))
local macro_rules | `(tactic| walk_at "eo") => `(tactic| first
  | exact eo_none
  | (refine' eo_some ?k1; (case k1 => walk_at "ev")))
local macro_rules | `(tactic| walk_at "et") => `(tactic| first
  | (refine' et_test ?k1; (case k1 => walk_at "ev"))
  | (refine' et_B ?k1; (case k1 => walk_at "ev"))
  | (refine' et_and ?k1 ?k2; (case k1 => walk_at "et"); (case k2 => (intro _; walk_at "et")))
  | (refine' et_or ?k1 ?k2; (case k1 => walk_at "et"); (case k2 => (intro _; walk_at "et")))
  | (refine' et_not ?k1; (case k1 => walk_at "et"))
  | assumption)
local macro_rules | `(tactic| walk_at "ev") => `(tactic| first
  | assumption
  | exact ev_cS
  | exact ev_c
  | exact ev_var rfl
  | (refine' ev_op ?k1 ?k2 ?k3; (case k1 => walk_at "ev"); (case k2 => walk_at "ev"); (case k3 => walk_at "rv"))
  | (refine' ev_un ?k1 ru_neg; (case k1 => walk_at "ev"))
  | (refine' ev_chain ?k1 ?k2 ?k3 ?k4 ?k5; (case k1 => walk_at "ev"); (case k2 => walk_at "ev"); (case k3 => walk_at "ev"); (case k4 => walk_at "rv"); (case k5 => (intro _; walk_at "rv")))
  | (refine' ev_slS ?k1 ?k2 ?k3 ?k4; (case k1 => walk_at "ev"); (case k2 => walk_at "eo"); (case k3 => walk_at "eo"); (case k4 => walk_at "sd"))
  | (refine' ev_lenS ?k1 ?k2; (case k1 => walk_at "ev"); (case k2 => walk_at "sd"))
  | (refine' ev_len' ?k1 ?k2; (case k1 => walk_at "ev"); (case k2 => walk_at "sd"))
  | (refine' ev_strip ?k1 ?k2 ?k3; (case k1 => walk_at "ev"); (case k2 => walk_at "ev"); (case k3 => walk_at "sd"))
  | (refine' ev_sum ?k1 ?k2; (case k1 => walk_at "ev"); (case k2 => walk_at "sd"))
  | (refine' ev_isi ?k1 ?k2 ?k3 ?k4; (case k1 => walk_at "ev"); (case k2 => walk_at "ev"); (case k3 => first | exact ty_int | exact ty_bl | exact ty_str | exact ty_list (by walk_at "sd")); (case k4 => first | exact kit_ty (r := true) (by decide +kernel) | exact kit_ty (r := false) (by decide +kernel)))
  | (refine' ev_andV ?k1 ?k2; (case k1 => walk_at "ev"); (case k2 => (intro _; walk_at "ev")))
  | (refine' ev_orV ?k1 ?k2; (case k1 => walk_at "ev"); (case k2 => (intro _; walk_at "ev")))
  | (refine' ev_notV ?k1; (case k1 => walk_at "ev"))
  | (refine' ev_call ?k1 ?k2; (case k1 => walk_at "ea"); (case k2 => walk_at "sv")))
local macro_rules | `(tactic| walk_at "el") => `(tactic| first
  | assumption
  | (refine' el_mapB ?k1 ?k2 ?k3 (fun _ => rfl) ?k5; (case k1 => walk_at "ev"); (case k2 => walk_at "sd"); (case k3 => walk_at "sd"); (case k5 => (intro _ _; walk_at "ev")))
  | (refine' el_mapI ?k1 ?k2 ?k3 (fun _ => rfl) ?k5; (case k1 => walk_at "ev"); (case k2 => walk_at "sd"); (case k3 => walk_at "sd"); (case k5 => (intro _ _; walk_at "ev")))
  | (refine' el_mapS ?k1 ?k2 ?k3 (fun _ => rfl) ?k5; (case k1 => walk_at "ev"); (case k2 => walk_at "sd"); (case k3 => walk_at "sd"); (case k5 => (intro _ _; walk_at "ev"))))
local macro_rules | `(tactic| walk_at "ev") => `(tactic| first
  | (refine' ev_all ?k1; (case k1 => walk_at "el"))
  | (refine' ev_any ?k1; (case k1 => walk_at "el"))
  | (refine' ev_sumN ?k1; (case k1 => walk_at "el"))
  | (refine' ev_join ?k1 ?k2 ?k3; (case k1 => exact ev_is ev_cS (congrArg tx codes_nil)); (case k2 => walk_at "el"); (case k3 => walk_at "sd")))

local macro_rules | `(tactic| walk_at "sv") => `(tactic| first | exact sv_is_text (by walk_at "sd") | exact sv_stands (by walk_at "sd") (by walk_at "sd") | exact sv_asked_code (by walk_at "sd") | exact sv_asked_text (by walk_at "sd") (by walk_at "sd"))
section
variable {P : Program} {w : World} {K : PySem.W.Frag} {mg : Str → Option Value} {base : Heap} {H : Hp}
/-! ### marks_of -/
def spMarks (K : PySem.W.Frag) : Sp := fun vs H Q _ => ∃ (p : Addr) (ws : List Wd) (t : Wd), vs = [.ref p, tx t] ∧ CodeAt K H p ws ∧ t.length ≤ 5000 ∧ ways ws t = 0 ∧
  ∀ (ms : List Int) (l : Addr) (H' : Hp), H l = none → Ex H H' → H' l = some (.lst (ms.map V.int)) → stShows ws ms t = true → ms.length ≤ 5001 → Q (.ref l) H'
theorem ok_marks_of (D : DefAt K mg "marks_of" s_marks_of ["code", "text"]) (T : Blt mg) (C_stands : Cal P w K mg base 1 "stands" spStands) : Cal P w K mg base 2 "marks_of" (spMarks K) := by
  refine cal_of D sc_marks_of (fun vs H Q E h => ?_) (fun f cdv A outer s H vs Q E hr h => ?_)
  · obtain ⟨p, ws, t, rfl, _⟩ := h; rfl
  · obtain ⟨p, ws, t, rfl, hc, ht, hz, k⟩ := h
    refine ⟨_, (pss_cons (ps_set (i := 2) sc_marks_of.nd rfl (.inl rfl) (pe_lst (pa_cons pe_int pa_nil)))
      (pss_cons (ps_set (i := 3) sc_marks_of.nd rfl (.inl rfl) (pe_disp (pps_cons pe_int pe_bl pps_nil) (by rfl) (by rfl) (fun z => by cases z) (by decide)))
      (pss_cons (ps_set (i := 4) sc_marks_of.nd rfl (.inl rfl) pe_int)
      (pss_cons (ps_while PassesOwn.never (pt_cmpR op_lt (pv 4) (pe_callB (call_len_seqK (K := K) rfl) (by rfl) T.len (by decide +kernel) (pa_cons (pv 2) pa_nil)) (nomark _)) (pss_cons (ps_for PassesOwn.never rfl (pi_listK (K := K) rfl (pv 0)) (pg_name (i := 5) sc_marks_of.nd rfl (.inl rfl)) (pss_cons (ps_set (i := 6) sc_marks_of.nd rfl (.inl rfl) (pe_op op_add (pe_ix (ix_listK (K := K) rfl) (pv 2) (pv 4) (fun _ _ => rfl)) (pe_callB call_len_str (by rfl) T.len (by decide +kernel) (pa_cons (pv 5) pa_nil))))
      (pss_one (ps_if (PW.pt (pw_and (pt_val (pe_c C_stands hr (by decide) (by rfl) (pa_cons (pv 5) (pa_cons (pv 1) (pa_cons (pe_ix (ix_listK (K := K) rfl) (pv 2) (pv 4) (fun _ _ => rfl)) pa_nil))))) (pw_and1 (pt_cmp (pc_dnotin (hu_of hr) (pv 6) (pv 3)))))) (pss_cons (ps_dput (hu_of hr) (pv 3) (pv 6) pe_bl rfl)
      (pss_one (ps_expr (pe_bm PySem.F.plainAttrs_list PySem.F.slot_list_append PySem.F.type_list_append mt_append (pv 2) (pa_cons (pv 6) pa_nil))))) pss_nil))))
      (pss_one (ps_set (i := 4) sc_marks_of.nd rfl (.inl rfl) (pe_op op_add (pv 4) pe_int)))))
      (pss_one (ps_ret (pe_callB (cr_sortedIK (K := K) rfl) (by rfl) T.sorted (by decide +kernel) (pa_cons (pv 2) pa_nil)))))))), ?_⟩
    have hb : ∀ a, a ∈ ws → a.length ≤ 1000 := fun a ha => (hc.ok a ha).2.2
    have hne : ∀ a ∈ ws, a ≠ [] := fun a ha => (hc.ok a ha).1
    refine q_asgL (xs := ([0] : List Nat).map nI) (el_lst (ea_cons ev_c ea_nil) (by simp)) fun fq H1 nf e1 hf => ?_
    refine q_asgD1 (k := .inl 0) (v := .bl true) ev_c ev_c fun d H2 nd e2 hd => ?_
    refine q_asg ev_c fun H3 e3 => ?_
    have ex3 := (e1.trans e2).trans e3
    have nd0 : H d = none := fresh_back e1 nd
    have hfd : fq ≠ d := fun z => by rw [← z, hf] at nd; cases nd
    refine q_while (fun m σ' H' => ∃ (at' : Nat) (fs : List Nat) (kvs : List (Key × V)) (s5 s6 : Option V), σ' = [some (.ref p), some (tx t), some (.ref fq), some (.ref d), some (nI at'), s5, s6] ∧ at' + m = t.length + 1 ∧ at' ≤ fs.length ∧ Ex H H' ∧ H' fq = some (.lst (fs.map nI)) ∧
        H' d = some (.dK kvs) ∧ (∀ j : Nat, (valV kvs (.inl (j : Int))).isSome = decide (j ∈ fs)) ∧ kvs.length ≤ fs.length ∧ M2.Inv ws t fs ∧ ∀ m ∈ fs.take at', M2.closed ws t fs m) (t.length + 1)
      ⟨0, [0], [(.inl 0, .bl true)], _, _, rfl, by omega, by simp, ex3, (e2.trans e3) fq _ hf, e3 d _ hd, fun j => ?_, by simp, M2.inv_start ws t, by simp⟩ fun m σ' H' hW => ?_
    · cases j with
      | zero => rfl
      | succ j =>
        have h1 : ¬ (Sum.inl (0 : Int) : Key) = .inl ((j + 1 : Nat) : Int) := fun e => by have := Sum.inl.inj e; omega
        rw [valV_neg (p := ((Sum.inl (0 : Int) : Key), V.bl true)) h1]
        simp [valV_nil]
    obtain ⟨at', fs, kvs, s5, s6, rfl, hm, hle, ex, hfs, hdk, hval, hkl, hI, hcl⟩ := hW
    have hfl := hI.len
    refine ⟨_, et_test (ev_op (ev_var rfl) (ev_len' (ev_var rfl) (sq_of hfs)) rv_lt), fun hlt H4 e4 => ?_, fun hge H4 e4 => ?_⟩
    · have hlt' : at' < fs.length := by have := of_decide_eq_true hlt; rw [List.length_map] at this; omega
      have hfa : fs[at']? = some fs[at'] := List.getElem?_eq_getElem hlt'
      generalize hmk : fs[at'] = mk at *
      have hmem : mk ∈ fs := List.mem_of_getElem? hfa
      have hmkt := (hI.le mk hmem).1
      refine ⟨fun σ2 H2 => ∃ (fs : List Nat) (kvs : List (Key × V)) (s5 s6 : Option V), σ2 = [some (.ref p), some (tx t), some (.ref fq), some (.ref d), some (nI (at' + 1)), s5, s6] ∧ at' + 1 ≤ fs.length ∧ Ex H H2 ∧ H2 fq = some (.lst (fs.map nI)) ∧
        H2 d = some (.dK kvs) ∧ (∀ j : Nat, (valV kvs (.inl (j : Int))).isSome = decide (j ∈ fs)) ∧ kvs.length ≤ fs.length ∧ M2.Inv ws t fs ∧ ∀ m ∈ fs.take (at' + 1), M2.closed ws t fs m, fun σ2 H2 hN => ?_, ?_⟩
      · obtain ⟨fs, kvs, s5, s6, rfl, h1, h2, h3, h4, h5, h6, h7, h8⟩ := hN
        exact ⟨m - 1, by omega, at' + 1, fs, kvs, s5, s6, rfl, by omega, h1, h2, h3, h4, h5, h6, h7, h8⟩
      · refine q_forLn (a := p) (xs := ws.map tx) (ev_var rfl) (ex_l (ex.trans e4) hc.sq) (fun i σ' H' => ∃ (gs : List Nat) (kvs : List (Key × V)) (s5 s6 : Option V), σ' = [some (.ref p), some (tx t), some (.ref fq), some (.ref d), some (nI at'), s5, s6] ∧ Ex H H' ∧ H' fq = some (.lst (gs.map nI)) ∧
          H' d = some (.dK kvs) ∧ (∀ j : Nat, (valV kvs (.inl (j : Int))).isSome = decide (j ∈ gs)) ∧ kvs.length ≤ gs.length ∧ M2.Inv ws t gs ∧ (∃ more, gs = fs ++ more) ∧ ∀ a ∈ ws.take i, pre a (t.drop mk) = true → mk + a.length ∈ gs)
          (fun H5 e5 => ⟨fs, kvs, _, _, rfl, (ex.trans e4).trans e5, (e4.trans e5) fq _ hfs, (e4.trans e5) d _ hdk, hval, hkl, hI, ⟨[], by simp⟩, by simp⟩) (fun i σ' H' _ hP => by obtain ⟨_, _, _, _, _, e, _⟩ := hP; exact ex_l e hc.sq) (fun i x σ' H' hi hP => ?_) (fun σ' H' hP => ?_)
        · obtain ⟨gs, kvs, s5, s6, rfl, ex5, hgs, hdk5, hval5, hkl5, hI5, ⟨more, hmore⟩, hcl5⟩ := hP
          have hil : i < ws.length := by
            have := (List.getElem?_eq_some_iff.mp hi).1
            rwa [List.length_map] at this
          have hwi : ws[i]? = some ws[i] := List.getElem?_eq_getElem hil
          have hx : x = tx ws[i] := by
            rw [List.getElem?_map, hwi] at hi
            exact (Option.some.inj hi).symm
          subst hx
          have hwm : ws[i] ∈ ws := List.getElem_mem hil
          have hbi := hb _ hwm
          have htk : ws.take (i + 1) = ws.take i ++ [ws[i]] := by rw [List.take_succ, hwi]; rfl
          rw [htk]
          generalize ws[i] = a at *
          have hga : gs[at']? = some mk := by rw [hmore, List.getElem?_append_left hlt']; exact hfa
          have hgl := hI5.len
          have gmk : ∀ (σ : L2.St) (H6 : Hp), Ex H' H6 → σ[2]? = some (some (.ref fq)) → σ[4]? = some (some (nI at')) → Ev (tOp (rIxL K) (tVar 2) (tVar 4)) σ H6 (nI mk) := fun σ H6 e6 h2 h4 =>
            ev_op (ev_var h2) (ev_var h4) (rv_ixL (sq_of (e6 fq _ hgs)) (atI_nat (by rw [List.getElem?_map, hga]; rfl)))
          have eadd : (mk : Int) + (a.length : Int) = ((mk + a.length : Nat) : Int) := by omega
          refine q_asg (v := nI (mk + a.length)) (ev_is (ev_op (gmk _ _ (Ex.refl _) rfl rfl) (ev_lenS (ev_var rfl) (by omega)) rv_add) (congrArg V.int eadd)) fun H6 e6 => ?_
          refine s_when (b := standsB a t mk && !decide (mk + a.length ∈ gs)) (et_and (et_test (ev_call (vs := [tx a, tx t, nI mk]) (ea_cons (ev_var rfl) (ea_cons (ev_var rfl) (ea_cons (gmk _ _ e6 rfl rfl) ea_nil))) (sv_stands (by omega) (by omega)))) fun _ => et_B (ev_is (ev_dnotin (k := .inl ((mk + a.length : Nat) : Int)) (ev_var rfl) (ev_var rfl) (.inl (e6 d _ hdk5))) (by rw [hval5]))) (fun hs H7 e7 => ?_) (fun hs H7 e7 => ?_)
          · rw [Bool.and_eq_true] at hs
            have hs1 : pre a (t.drop mk) = true := hs.1
            have hs2 : mk + a.length ∉ gs := by simpa using hs.2
            have hmg : mk ∈ gs := by rw [hmore]; exact List.mem_append_left _ hmem
            have hI6 := M2.inv_add hne hI5 hmg hwm hs1 hs2
            refine q_dput (kvs := kvs) (k := .inl ((mk + a.length : Nat) : Int)) (v := .bl true) ((e6.trans e7) d _ hdk5) ev_c (ev_var rfl) (ev_var rfl) (by omega) fun H8 e8 => ?_
            refine s_app (l := fq) (xs := gs.map nI) (v := nI (mk + a.length)) (by rw [upd_ne hfd]; exact ((e6.trans e7).trans e8) fq _ hgs) (ev_var rfl) (ev_var rfl) (by rw [List.length_map]; omega) fun H9 e9 => ?_
            refine ⟨gs ++ [mk + a.length], putK kvs (.inl ((mk + a.length : Nat) : Int)) (.bl true), _, _, rfl, Ex.mut ((Ex.mut (((ex5.trans e6).trans e7).trans e8) nd0).trans e9) nf, ?_, ?_, fun j => ?_, ?_, hI6, ⟨more ++ [mk + a.length], by rw [hmore, List.append_assoc]⟩, fun b hb2 hp2 => ?_⟩
            · rw [upd_same, List.map_append]; rfl
            · rw [upd_ne (Ne.symm hfd)]; exact e9 d _ upd_same
            · rw [valV_put]
              by_cases hj : j = mk + a.length
              · subst hj
                rw [if_pos rfl]; simp
              · have h1 : ¬ (Sum.inl (j : Int) : Key) = .inl ((mk + a.length : Nat) : Int) := fun e => by have := Sum.inl.inj e; omega
                rw [if_neg h1, hval5]
                simp [hj]
            · have := putK_len kvs (Sum.inl ((mk + a.length : Nat) : Int) : Key) (V.bl true)
              rw [List.length_append, List.length_singleton]; omega
            · rcases List.mem_append.mp hb2 with hb2 | hb2
              · exact List.mem_append_left _ (hcl5 b hb2 hp2)
              · rw [List.mem_singleton.mp hb2]; exact List.mem_append_right _ (by simp)
          · refine ⟨gs, kvs, _, _, rfl, (ex5.trans e6).trans e7, (e6.trans e7) fq _ hgs, (e6.trans e7) d _ hdk5, hval5, hkl5, hI5, ⟨more, hmore⟩, fun b hb2 hp2 => ?_⟩
            rcases List.mem_append.mp hb2 with hb2 | hb2
            · exact hcl5 b hb2 hp2
            · rw [List.mem_singleton.mp hb2] at hp2 ⊢
              have hs1 : standsB a t mk = true := hp2
              rw [hs1, Bool.true_and] at hs
              simpa using hs
        · obtain ⟨gs, kvs, s5, s6, rfl, ex5, hgs, hdk5, hval5, hkl5, hI5, ⟨more, hmore⟩, hcl5⟩ := hP
          rw [List.length_map, List.take_length] at hcl5
          have e8 : (at' : Int) + 1 = ((at' + 1 : Nat) : Int) := by omega
          refine s_asg (v := nI (at' + 1)) (ev_is (ev_op (ev_var rfl) ev_c rv_add) (congrArg V.int e8)) fun H6 e6 => ⟨gs, kvs, s5, s6, rfl, by rw [hmore, List.length_append]; omega, ex5.trans e6, e6 fq _ hgs, e6 d _ hdk5, hval5, hkl5, hI5, fun x hx => ?_⟩
          have htk : gs.take (at' + 1) = fs.take at' ++ [mk] := by
            rw [hmore, List.take_append_of_le_length (by omega), List.take_succ, hfa]; rfl
          rw [htk] at hx
          rcases List.mem_append.mp hx with hx | hx
          · intro a ha hp
            rw [hmore]; exact List.mem_append_left _ (hcl x hx a ha hp)
          · rw [List.mem_singleton.mp hx]; exact hcl5
    · have hge' : at' = fs.length := by have := of_decide_eq_false hge; rw [List.length_map] at this; omega
      rw [hge', List.take_length] at hcl
      have hni : fs.map nI = (List.map (fun n : Nat => (n : Int)) fs).map V.int := by rw [List.map_map]; rfl
      have hfs4 := e4 fq _ hfs
      rw [hni] at hfs4
      refine (ev_var (i := 2) rfl) H4 (Ex.refl _) _ fun H5 e5 => ⟨fq, List.map (fun n : Nat => (n : Int)) fs, rfl, sq_of (e5 fq _ hfs4), fun ms l hperm _ nl => ?_⟩
      have ex5 := (ex.trans e4).trans e5
      have hmm : ∀ z : Int, z ∈ ms ↔ ∃ j ∈ fs, (j : Int) = z := fun z => by rw [hperm.mem_iff, List.mem_map]
      have hmn : ∀ j : Nat, (j : Int) ∈ ms ↔ j ∈ fs := fun j => by
        rw [hmm]
        exact ⟨fun ⟨i, hi, e⟩ => by have : i = j := by omega
                                    subst this; exact hi, fun h => ⟨j, h, rfl⟩⟩
      refine k ms l _ (fresh_back ex5 nl) (ex5.trans (Ex.new nl)) upd_same ?_ (by rw [hperm.length_eq, List.length_map]; omega)
      unfold stShows
      have h1 : decide ((0 : Int) ∈ ms) = true := decide_eq_true ((hmn 0).mpr hI.zero)
      have h2 : decide ((t.length : Int) ∈ ms) = false := decide_eq_false fun h => M2.no_end hI hz ((hmn _).mp h)
      rw [h1, h2, Bool.true_and, Bool.not_false, Bool.true_and, List.all_eq_true]
      intro z hz2
      obtain ⟨j, hj, rfl⟩ := (hmm z).mp hz2
      have hjt := (hI.le j hj).1
      unfold stTurn
      rw [decide_eq_true (by omega), decide_eq_true (by omega), Bool.true_and, Bool.true_and, List.all_eq_true]
      intro a ha
      have ej : ((j : Nat) : Int).toNat = j := by omega
      have ea : (j : Int) + (a.length : Int) = ((j + a.length : Nat) : Int) := by omega
      rw [ej, ea]
      cases hp : standsB a t j with
      | false => rfl
      | true => rw [decide_eq_true ((hmn _).mpr (hcl j hj a ha hp))]; rfl
/-! ### text_of -/
def spTextOf (K : PySem.W.Frag) : Sp := fun vs H Q _ => ∃ (p q : Addr) (ws : List Wd) (ns : List Int), vs = [.ref p, .ref q] ∧ CodeAt K H p ws ∧ SqL K H q (ns.map V.int) ∧ ns.length ≤ 40000 ∧ inR ws.length ns = true ∧ (joinW ws (ns.map Int.toNat)).length ≤ 100000 ∧
  ∀ H', Ex H H' → Q (tx (joinW ws (ns.map Int.toNat))) H'
theorem sv_text_of {p q : Addr} {ws : List Wd} {ns : List Int} (h1 : CodeAt K H p ws) (h2 : SqL K H q (ns.map V.int)) (h3 : ns.length ≤ 40000) (h4 : inR ws.length ns = true) (h5 : (joinW ws (ns.map Int.toNat)).length ≤ 100000) : SpV (spTextOf K) [.ref p, .ref q] H (tx (joinW ws (ns.map Int.toNat))) :=
  fun _ e _ k _ => ⟨p, q, ws, ns, rfl, h1.ex e, ex_l e h2, h3, h4, h5, k⟩
theorem ok_text_of (D : DefAt K mg "text_of" s_text_of ["code", "places"]) (T : Blt mg) (C_asked_code : Cal P w K mg base 2 "asked_code" (spAskedCode K)) (C_is_number : Cal P w K mg base 1 "is_number" spIsNumber) (C_joined : Cal P w K mg base 1 "joined" (spJoined K)) :
    Cal P w K mg base 3 "text_of" (spTextOf K) := by
  refine cal_of D sc_text_of (fun vs H Q E h => ?_) (fun f cdv A outer s H vs Q E hr h => ?_)
  · obtain ⟨p, q, ws, ns, rfl, _⟩ := h; rfl
  · obtain ⟨p, q, ws, ns, rfl, hc, hq, hn, hin, hj, k⟩ := h
    refine ⟨_, (pss_cons (ps_expr (pe_c C_asked_code hr (by decide) (by rfl) (pa_cons (pv 0) pa_nil)))
      (pss_cons (ps_if (PW.pt (pw_or (pt_not (pt_val (pe_callB (call_isiK' (K := K) rfl) (by rfl) T.isinstance (by decide +kernel) (pa_cons (pv 1) (pa_cons (pe_bltn (v := .ty "list") (by rfl) T.list (by decide +kernel) rfl) pa_nil))))) (pw_or1 (pt_not (pt_val (pe_callB (cr_allK (K := K) rfl rfl) (by rfl) T.all (by decide +kernel) (pa_cons (pe_lc (own := [("place", 2)]) rfl sc_text_of.nd (pi_listK (K := K) rfl (pv 1)) (blkOk_by (own := [("place", 2)]) (N := N_text_of) (sc := defScope s_text_of) (by decide +kernel)) (fun _ _ _ _ _ => (pg_name (i := 2) sc_text_of.nd rfl (.inl rfl))) (fun _ _ _ _ _ => pts_nil) (fun _ _ _ _ _ => (pe_c C_is_number hr (by decide) (by rfl) (pa_cons (pv 2) (pa_cons pe_int (pa_cons (pe_op op_sub (pe_callB (call_len_seqK (K := K) rfl) (by rfl) T.len (by decide +kernel) (pa_cons (pv 0) pa_nil)) pe_int) pa_nil)))))) pa_nil))))))) (pss_one ps_never) pss_nil)
      (pss_one (ps_ret (pe_c C_joined hr (by decide) (by rfl) (pa_cons (pv 0) (pa_cons (pv 1) pa_nil))))))), ?_⟩
    refine sev_run (sev_drop (x := .non) (by walk_at "ev") (sev_skip (et_is (et_or (et_not (et_test (by walk_at "ev"))) fun _ => et_not (et_test (ev_all (el_mapB (φ := V.int) (g := fun i : Int => decide ((0 : Int) ≤ i) && decide (i ≤ (ws.length : Int) - 1)) (ev_var rfl) hq hn (fun _ => rfl) fun i hi => ?_)))) ?_) (sev_ret ?_))) k
    · have e9 : (((ws.map tx).length : Nat) : Int) = (ws.length : Int) := by rw [List.length_map]
      exact ev_call (vs := [.int i, .int 0, .int ((ws.length : Int) - 1)]) (ea_cons (ev_var rfl) (ea_cons ev_c (ea_cons (ev_op (x := .int (ws.length : Int)) (by rw [← e9]; exact ev_len' (ev_var rfl) hc.sq) ev_c rv_sub) ea_nil))) sv_is_number
    · have : (ns.map fun i : Int => decide ((0 : Int) ≤ i) && decide (i ≤ (ws.length : Int) - 1)).all id = true := by
        unfold inR at hin
        rw [List.all_eq_true] at hin
        rw [List.all_map, List.all_eq_true]
        intro i hi
        have h1 := hin i hi
        rw [Bool.and_eq_true] at h1
        have h2 := of_decide_eq_true h1.1
        have h3 := of_decide_eq_true h1.2
        show (decide ((0 : Int) ≤ i) && decide (i ≤ (ws.length : Int) - 1)) = true
        rw [decide_eq_true h2, decide_eq_true (by omega)]; rfl
      rw [this]; rfl
    · obtain ⟨e1, e2⟩ := inR_nat hin
      exact ev_call (vs := [.ref p, .ref q]) (by walk_at "ea") (sv_joined hc.sq (by rw [← e1]; exact hq) (by rw [List.length_map]; omega) e2 hj)
/-! ### read -/
def showsV (b : Bool) (ws : List Wd) (ns : List Int) (t : Wd) : Bool := if b then rdShows ws ns t else stShows ws ns t
def spRead (K : PySem.W.Frag) (aRd aSt : Addr) : Sp := fun vs H Q _ => ∃ (p : Addr) (ws : List Wd) (t : Wd), vs = [.ref p, tx t] ∧ CodeAt K H p ws ∧ t.length ≤ 5000 ∧ okW t ∧
  ∀ (o l : Addr) (b : Bool) (ns : List Int) (H' : Hp), b = !decide (ways ws t = 0) → H o = none → H l = none → l ≠ o → Ex H H' → AnsAt aRd aSt b H' o l ns → showsV b ws ns t = true → ns.length ≤ 5001 → Q (.ref o) H'
theorem rd_nth {ws : List Wd} (hw : ∀ a ∈ ws, a ≠ []) {t : Wd} {k : Nat} (hk : k < ways ws t) : rdShows ws (List.map (fun n : Nat => (n : Int)) (nthW ws t k)) t = true ∧ (nthW ws t k).length ≤ t.length := by
  obtain ⟨h1, h2, _⟩ := M3.nthW_ok ws hw hk
  have h3 := M3.join_len ws hw _ h2
  rw [h1] at h3
  refine ⟨?_, h3⟩
  unfold rdShows
  have e : (List.map (fun n : Nat => (n : Int)) (nthW ws t k)).map Int.toNat = nthW ws t k := by
    rw [List.map_map]
    have : (Int.toNat ∘ fun n : Nat => (n : Int)) = id := by funext n; simp
    rw [this, List.map_id]
  rw [inR_of h2, e, h1]
  simp
theorem ok_read {aRd aSt : Addr} (D : DefAt K mg "read" s_read ["code", "text"]) (T : Blt mg) (C_asked_code : Cal P w K mg base 2 "asked_code" (spAskedCode K)) (C_asked_text : Cal P w K mg base 2 "asked_text" spAskedText)
    (C_table_of : Cal P w K mg base 2 "table_of" (spTable K)) (C_nth : Cal P w K mg base 2 "nth" (spNth K)) (C_marks_of : Cal P w K mg base 2 "marks_of" (spMarks K)) (K_Reading : MkAt P w K mg base 1 "Reading" aRd (spIni1 K aRd "places")) (K_Stuck : MkAt P w K mg base 1 "Stuck" aSt (spIni1 K aSt "marks")) :
    Cal P w K mg base 3 "read" (spRead K aRd aSt) := by
  refine cal_of D sc_read (fun vs H Q E h => ?_) (fun f cdv A outer s H vs Q E hr h => ?_)
  · obtain ⟨p, ws, t, rfl, _⟩ := h; rfl
  · obtain ⟨p, ws, t, rfl, hc, ht, ho, k⟩ := h
    refine ⟨_, (pss_cons (ps_expr (pe_c C_asked_code hr (by decide) (by rfl) (pa_cons (pv 0) pa_nil)))
      (pss_cons (ps_expr (pe_c C_asked_text hr (by decide) (by rfl) (pa_cons (pv 1) pa_nil)))
      (pss_cons (ps_set (i := 2) sc_read.nd rfl (.inl rfl) (pe_c C_table_of hr (by decide) (by rfl) (pa_cons (pv 0) (pa_cons (pv 1) pa_nil))))
      (pss_cons (ps_if (pt_cmpR op_eq (pe_ix (ix_listK (K := K) rfl) (pv 2) pe_int (fun _ _ => rfl)) pe_int (nomark _)) (pss_one (ps_ret (pe_mk K_Stuck hr (by decide) (by rfl) (pa_cons (pe_c C_marks_of hr (by decide) (by rfl) (pa_cons (pv 0) (pa_cons (pv 1) pa_nil))) pa_nil)))) pss_nil)
      (pss_one (ps_ret (pe_mk K_Reading hr (by decide) (by rfl) (pa_cons (pe_c C_nth hr (by decide) (by rfl) (pa_cons (pv 0) (pa_cons (pv 1) (pa_cons (pv 2) (pa_cons pe_int pa_nil))))) pa_nil)))))))), ?_⟩
    have ht2 : t.length ≤ 10000 := by omega
    refine q_drop (v := .non) (by walk_at "ev") fun H1 e1 => ?_
    have hc1 := hc.ex e1
    refine q_drop (v := .non) (by walk_at "ev") fun H2 e2 => ?_
    have hc2 := hc1.ex e2
    refine q_asgL (el_call (by walk_at "ea") (sl_table hc2 ht)) fun q H3 nq e3 hq => ?_
    have ex3 := (e1.trans e2).trans e3
    refine q_when (et_test (ev_op (x := nI (ways ws t)) (ev_op (ev_var rfl) ev_c (rv_ixL (sq_of hq) (atI_nat (j := 0) (tabN_get ws t (Nat.zero_le _))))) ev_c rv_eqI)) (fun hz H4 e4 => ?_) (fun hz H4 e4 => ?_)
    · have h0 : ways ws t = 0 := by have := of_decide_eq_true hz; omega
      have ex4 := ex3.trans e4
      refine s_retB (P := fun xs => ∃ ms : List Int, xs = ms.map V.int ∧ stShows ws ms t = true ∧ ms.length ≤ 5001) (eb_make (eqx_call (vs := [.ref p, tx t]) (by walk_at "ea") fun H5 e5 Q' q' => ⟨p, ws, t, rfl, hc.ex (ex4.trans e5), ht, h0, fun ms l H8 nl e8 hl hs hn => q' l H8 _ ⟨ms, rfl, hs, hn⟩ e8 (sq_of hl)⟩)) fun o dx l H6 xs hP no nl hlo e6 ho6 hl6 => ?_
      · obtain ⟨ms, rfl, hs, hn⟩ := hP
        exact k o l false ms H6 (by simp [h0]) (fresh_back ex4 no) (fresh_back ex4 nl) hlo (ex4.trans e6) ⟨⟨dx, ho6⟩, hl6⟩ hs hn
    · have h0 : ways ws t ≠ 0 := fun z => by have := of_decide_eq_false hz; omega
      have ex4 := ex3.trans e4
      have hw : ∀ a ∈ ws, a ≠ [] := fun a ha => (hc.ok a ha).1
      obtain ⟨r1, r2⟩ := rd_nth hw (show 0 < ways ws t by omega)
      refine s_retB (P := fun xs => xs = (nthW ws t 0).map nI) (eb_make (eqx_of (eq_new (el_call (vs := [.ref p, tx t, .ref q, .int ((0 : Nat) : Int)]) (by walk_at "ea") (sl_nth (hc.ex ex4) ht (ex_l e4 (sq_of hq)) (by omega)))))) fun o dx l H6 xs hP no nl hlo e6 ho6 hl6 => ?_
      subst hP
      refine k o l true (List.map (fun n : Nat => (n : Int)) (nthW ws t 0)) H6 (by simp [h0]) (fresh_back ex4 no) (fresh_back ex4 nl) hlo (ex4.trans e6) ⟨⟨dx, ho6⟩, ?_⟩ r1 (by rw [List.length_map]; omega)
      rw [hl6, List.map_map]; rfl
end
end Tr

set_option Elab.async false
set_option linter.all false
set_option maxRecDepth 100000
set_option maxHeartbeats 4000000
namespace Tr
open PySem PySem.Spec PyProof.Rows L2 Evl
open M3 (wat joinW pre ways)
abbrev s__law_code : Stmt := topS 28
abbrev N__law_code : List Str := ["_law_script", "_law_kind", "_law_letters", "_law_words", "_law_word", "_law_cell"]
theorem sc__law_code : FnScope N__law_code ["_law_script"] (defScope s__law_code) := ⟨rfl, rfl, rfl, by decide +kernel, rfl, by decide +kernel, by decide +kernel⟩
abbrev s__law_stands : Stmt := topS 29
abbrev N__law_stands : List Str := ["_law_word", "_law_text_here", "_law_at"]
theorem sc__law_stands : FnScope N__law_stands ["_law_word", "_law_text_here", "_law_at"] (defScope s__law_stands) := ⟨rfl, rfl, rfl, by decide +kernel, rfl, by decide +kernel, by decide +kernel⟩
abbrev s__law_numbers : Stmt := topS 30
abbrev N__law_numbers : List Str := ["_law_found", "_law_one"]
theorem sc__law_numbers : FnScope N__law_numbers ["_law_found"] (defScope s__law_numbers) := ⟨rfl, rfl, rfl, by decide +kernel, rfl, by decide +kernel, by decide +kernel⟩
abbrev s__law_text : Stmt := topS 31
abbrev N__law_text : List Str := ["_law_code_here", "_law_script", "_law_text_here", "_law_at", "_law_cell"]
theorem sc__law_text : FnScope N__law_text ["_law_code_here", "_law_script"] (defScope s__law_text) := ⟨rfl, rfl, rfl, by decide +kernel, rfl, by decide +kernel, by decide +kernel⟩
local macro_rules | `(tactic| walk_at "sd") => `(tactic| first | assumption | rfl | omega | decide | (solve_by_elim) | (refine Nat.le_trans (m := 1000) (by solve_by_elim) (by decide)))
local macro_rules | `(tactic| walk_at "rv") => `(tactic| first
  | exact rv_add | exact rv_sub | exact rv_lt | exact rv_le | exact rv_gt | exact rv_ge | exact rv_eqI | exact rv_eqS | exact rv_eqB | exact rv_neI | exact rv_neS | exact rv_neB
  | exact rv_mod (by walk_at "sd") | exact rv_fdiv (by first | assumption | exact ⟨by omega, by omega⟩) | exact rv_addS (by walk_at "sd") | exact rv_isB | exact rv_notB | assumption)
local macro_rules | `(tactic| walk_at "ea") => `(tactic| first
  | exact ea_nil
  | (refine' ea_cons ?k1 ?k2; (case k1 => walk_at "ev"); (case k2 => walk_at "ea")))
local macro_rules | `(tactic| walk_at "eo") => `(tactic| first
  | exact eo_none
  | (refine' eo_some ?k1; (case k1 => walk_at "ev")))
local macro_rules | `(tactic| walk_at "et") => `(tactic| first
  | (refine' et_test ?k1; (case k1 => walk_at "ev"))
  | (refine' et_B ?k1; (case k1 => walk_at "ev"))
  | (refine' et_and ?k1 ?k2; (case k1 => walk_at "et"); (case k2 => (intro _; walk_at "et")))
  | (refine' et_or ?k1 ?k2; (case k1 => walk_at "et"); (case k2 => (intro _; walk_at "et")))
  | (refine' et_not ?k1; (case k1 => walk_at "et"))
  | assumption)
local macro_rules | `(tactic| walk_at "ev") => `(tactic| first
  | assumption
  | exact ev_cS
  | exact ev_c
  | exact ev_var rfl
  | (refine' ev_op ?k1 ?k2 ?k3; (case k1 => walk_at "ev"); (case k2 => walk_at "ev"); (case k3 => walk_at "rv"))
  | (refine' ev_un ?k1 ru_neg; (case k1 => walk_at "ev"))
  | (refine' ev_chain ?k1 ?k2 ?k3 ?k4 ?k5; (case k1 => walk_at "ev"); (case k2 => walk_at "ev"); (case k3 => walk_at "ev"); (case k4 => walk_at "rv"); (case k5 => (intro _; walk_at "rv")))
  | (refine' ev_slS ?k1 ?k2 ?k3 ?k4; (case k1 => walk_at "ev"); (case k2 => walk_at "eo"); (case k3 => walk_at "eo"); (case k4 => walk_at "sd"))
  | (refine' ev_lenS ?k1 ?k2; (case k1 => walk_at "ev"); (case k2 => walk_at "sd"))
  | (refine' ev_len' ?k1 ?k2; (case k1 => walk_at "ev"); (case k2 => walk_at "sd"))
  | (refine' ev_strip ?k1 ?k2 ?k3; (case k1 => walk_at "ev"); (case k2 => walk_at "ev"); (case k3 => walk_at "sd"))
  | (refine' ev_sum ?k1 ?k2; (case k1 => walk_at "ev"); (case k2 => walk_at "sd"))
  | (refine' ev_isi ?k1 ?k2 ?k3 ?k4; (case k1 => walk_at "ev"); (case k2 => walk_at "ev"); (case k3 => first | exact ty_int | exact ty_bl | exact ty_str | exact ty_list (by walk_at "sd")); (case k4 => first | exact kit_ty (r := true) (by decide +kernel) | exact kit_ty (r := false) (by decide +kernel)))
  | (refine' ev_andV ?k1 ?k2; (case k1 => walk_at "ev"); (case k2 => (intro _; walk_at "ev")))
  | (refine' ev_orV ?k1 ?k2; (case k1 => walk_at "ev"); (case k2 => (intro _; walk_at "ev")))
  | (refine' ev_notV ?k1; (case k1 => walk_at "ev"))
  | (refine' ev_call ?k1 ?k2; (case k1 => walk_at "ea"); (case k2 => walk_at "sv")))
local macro_rules | `(tactic| walk_at "el") => `(tactic| first
  | assumption
  | (refine' el_mapB ?k1 ?k2 ?k3 (fun _ => rfl) ?k5; (case k1 => walk_at "ev"); (case k2 => walk_at "sd"); (case k3 => walk_at "sd"); (case k5 => (intro _ _; walk_at "ev")))
  | (refine' el_mapI ?k1 ?k2 ?k3 (fun _ => rfl) ?k5; (case k1 => walk_at "ev"); (case k2 => walk_at "sd"); (case k3 => walk_at "sd"); (case k5 => (intro _ _; walk_at "ev")))
  | (refine' el_mapS ?k1 ?k2 ?k3 (fun _ => rfl) ?k5; (case k1 => walk_at "ev"); (case k2 => walk_at "sd"); (case k3 => walk_at "sd"); (case k5 => (intro _ _; walk_at "ev"))))
local macro_rules | `(tactic| walk_at "ev") => `(tactic| first
  | (refine' ev_all ?k1; (case k1 => walk_at "el"))
  | (refine' ev_any ?k1; (case k1 => walk_at "el"))
  | (refine' ev_sumN ?k1; (case k1 => walk_at "el"))
  | (refine' ev_join ?k1 ?k2 ?k3; (case k1 => exact ev_is ev_cS (congrArg tx codes_nil)); (case k2 => walk_at "el"); (case k3 => walk_at "sd")))

local macro_rules | `(tactic| walk_at "sv") => `(tactic| first | exact sv_is_text (by walk_at "sd") | exact sv_is_number | exact sv_stands (by walk_at "sd") (by walk_at "sd"))
/-! ### the code of a script -/
def letW (s : Int) : Wd := ([codes "abc", codes "dmz", codes "ahy"] : List Wd).getD (s / 4 % 3).toNat []
def modK (k : Int) : Int := ([2, 3, 2, 3] : List Int).getD k.toNat 0
def stepC (L : Wd) (m : Int) (r : List Wd × Wd) (c : Int) : List Wd × Wd :=
  if c / 3 % 3 = 0 then (r.1 ++ [r.2 ++ [L.getD (c % m).toNat 0]], []) else (r.1, r.2 ++ [L.getD (c % m).toNat 0])
def cutC (L : Wd) (m : Int) (ns : List Int) : List Wd × Wd := ns.foldl (stepC L m) ([], [])
def wordsC (r : List Wd × Wd) : List Wd := if r.2 = [] then r.1 else r.1 ++ [r.2]
def codeOf (ns : List Int) : List Wd :=
  if ns.sum % 4 = 2 then (ns.take 12).map fun c => [(letW ns.sum).getD 1 0] ++ repW [(letW ns.sum).getD 0 0] (c / 2 % 9)
  else if ns.sum % 4 = 3 then (wordsC (cutC (letW ns.sum) (modK (ns.sum % 4)) ns)).map fun a => [(letW ns.sum).getD 2 0] ++ a.reverse
  else wordsC (cutC (letW ns.sum) (modK (ns.sum % 4)) ns)
theorem mod_cases3 (s : Int) : (s % 3).toNat = 0 ∨ (s % 3).toNat = 1 ∨ (s % 3).toNat = 2 := by omega
theorem letW_ok (s : Int) : (letW s).length = 3 ∧ okW (letW s) := by
  unfold letW
  rcases mod_cases3 (s / 4) with h | h | h <;> rw [h] <;> decide +kernel
theorem modK_ok (s : Int) : 2 ≤ modK (s % 4) ∧ modK (s % 4) ≤ 3 := by
  unfold modK
  have : (s % 4).toNat = 0 ∨ (s % 4).toNat = 1 ∨ (s % 4).toNat = 2 ∨ (s % 4).toNat = 3 := by omega
  rcases this with h | h | h | h <;> rw [h] <;> decide
theorem getD_ok {L : Wd} (h : L.length = 3 ∧ okW L) {i : Nat} (hi : i < 3) : 97 ≤ L.getD i 0 ∧ L.getD i 0 ≤ 122 := by
  have e : L.getD i 0 = L[i] := by simp [List.getD, h.1, hi]
  rw [e]
  exact h.2 _ (List.getElem_mem _)
/-- what the loop keeps -/
structure CutOk (r : List Wd × Wd) (n : Nat) : Prop where
  ne : ∀ a ∈ r.1, a ≠ []
  len : (r.1.flatten ++ r.2).length = n
  ok : okW (r.1.flatten ++ r.2)
theorem cut_step {L : Wd} {m : Int} (hL : L.length = 3 ∧ okW L) (hm : 2 ≤ m ∧ m ≤ 3) {r : List Wd × Wd} {n : Nat} (h : CutOk r n) (c : Int) : CutOk (stepC L m r c) (n + 1) := by
  have hc := getD_ok hL (i := (c % m).toNat) (by have := Int.emod_nonneg c (show m ≠ 0 by omega); have := Int.emod_lt_of_pos c (show 0 < m by omega); omega)
  have h2 := h.len
  rw [List.length_append, List.length_flatten] at h2
  unfold stepC
  split
  · refine ⟨fun a ha => ?_, ?_, ?_⟩
    · rcases List.mem_append.mp ha with ha | ha
      · exact h.ne a ha
      · rw [List.mem_singleton.mp ha]; simp
    · simp; omega
    · intro d hd
      simp only [List.flatten_append, List.flatten_cons, List.flatten_nil, List.append_nil, List.mem_append, List.mem_singleton] at hd
      rcases hd with hd | hd | hd
      · exact h.ok d (List.mem_append_left _ hd)
      · exact h.ok d (List.mem_append_right _ hd)
      · rw [hd]; exact hc
  · refine ⟨h.ne, ?_, ?_⟩
    · simp; omega
    · intro d hd
      simp only [List.mem_append, List.mem_singleton] at hd
      rcases hd with hd | hd | hd
      · exact h.ok d (List.mem_append_left _ hd)
      · exact h.ok d (List.mem_append_right _ hd)
      · rw [hd]; exact hc
theorem cut_all {L : Wd} {m : Int} (hL : L.length = 3 ∧ okW L) (hm : 2 ≤ m ∧ m ≤ 3) : ∀ (ns : List Int) (r : List Wd × Wd) (n : Nat), CutOk r n → CutOk (ns.foldl (stepC L m) r) (n + ns.length)
  | [], r, n, h => h
  | c :: ns, r, n, h => by
    rw [List.foldl_cons, List.length_cons, show n + (ns.length + 1) = n + 1 + ns.length by omega]
    exact cut_all hL hm ns _ _ (cut_step hL hm h c)
theorem cut_ok {L : Wd} {m : Int} (hL : L.length = 3 ∧ okW L) (hm : 2 ≤ m ∧ m ≤ 3) (ns : List Int) : CutOk (cutC L m ns) ns.length := by
  have := cut_all hL hm ns ([], []) 0 ⟨by simp, rfl, by simp [okW]⟩
  rwa [Nat.zero_add] at this
theorem len_le_flat : ∀ (ws : List Wd), (∀ a ∈ ws, a ≠ []) → ws.length ≤ ws.flatten.length
  | [], _ => by simp
  | a :: r, h => by
    have := len_le_flat r fun b hb => h b (by simp [hb])
    have h1 : 0 < a.length := List.length_pos_iff.mpr (h a (by simp))
    simp only [List.length_cons, List.flatten_cons, List.length_append]; omega
theorem mem_le_flat {ws : List Wd} {a : Wd} (h : a ∈ ws) : a.length ≤ ws.flatten.length := by
  obtain ⟨s, t, rfl⟩ := List.append_of_mem h
  simp; omega
theorem CutOk.words {r : List Wd × Wd} {n : Nat} (h : CutOk r n) : (∀ a ∈ wordsC r, a ≠ []) ∧ (wordsC r).flatten = r.1.flatten ++ r.2 := by
  unfold wordsC
  split
  · rename_i e; rw [e]; exact ⟨h.ne, by simp⟩
  · rename_i e
    refine ⟨fun a ha => ?_, by simp⟩
    rcases List.mem_append.mp ha with ha | ha
    · exact h.ne a ha
    · rw [List.mem_singleton.mp ha]; exact e
structure WordsOk (ws : List Wd) (n : Nat) : Prop where
  ok : ∀ a ∈ ws, a ≠ [] ∧ okW a ∧ a.length ≤ n
  len : ws.length ≤ 63
theorem CutOk.wok {r : List Wd × Wd} {n : Nat} (h : CutOk r n) (hn : n ≤ 63) : WordsOk (wordsC r) 63 := by
  obtain ⟨h1, h2⟩ := h.words
  have h3 := h.len
  have h4 := h.ok
  rw [← h2] at h3 h4
  refine ⟨fun a ha => ⟨h1 a ha, fun c hc => h4 c (List.mem_flatten.mpr ⟨a, ha, hc⟩), ?_⟩, ?_⟩
  · have := mem_le_flat ha; omega
  · have := len_le_flat _ h1; omega
theorem repW_mem {a : Wd} {n : Int} {c : Nat} (h : c ∈ repW a n) : c ∈ a := by
  unfold repW at h
  obtain ⟨l, hl, hc⟩ := List.mem_flatten.mp h
  rw [(List.mem_replicate.mp hl).2] at hc; exact hc
theorem repW_len1 (c : Nat) (n : Int) : (repW [c] n).length = n.toNat := by
  unfold repW
  rw [List.length_flatten, List.map_replicate, List.sum_replicate_nat]; simp
theorem codeOf_ok {ns : List Int} (hn : ns.length ≤ 63) : WordsOk (codeOf ns) 64 := by
  have hL := letW_ok ns.sum
  have hm := modK_ok ns.sum
  have hw := (cut_ok hL hm ns).wok hn
  unfold codeOf
  split
  · refine ⟨fun a ha => ?_, by simp; omega⟩
    obtain ⟨c, _, rfl⟩ := List.mem_map.mp ha
    refine ⟨by simp, fun d hd => ?_, ?_⟩
    · rcases List.mem_append.mp hd with hd | hd
      · rw [List.mem_singleton.mp hd]; exact getD_ok hL (by decide)
      · rw [List.mem_singleton.mp (repW_mem hd)]; exact getD_ok hL (by decide)
    · rw [List.length_append, repW_len1]; simp; omega
  · split
    · refine ⟨fun a ha => ?_, by rw [List.length_map]; exact hw.len⟩
      obtain ⟨b, hb, rfl⟩ := List.mem_map.mp ha
      obtain ⟨_, h2, h3⟩ := hw.ok b hb
      refine ⟨by simp, fun d hd => ?_, ?_⟩
      · rcases List.mem_append.mp hd with hd | hd
        · rw [List.mem_singleton.mp hd]; exact getD_ok hL (by decide)
        · exact h2 d (List.mem_reverse.mp hd)
      · simp; omega
    · exact ⟨fun a ha => ⟨(hw.ok a ha).1, (hw.ok a ha).2.1, by have := (hw.ok a ha).2.2; omega⟩, hw.len⟩
theorem WordsOk.at {K : PySem.W.Frag} {H : Hp} {p : Addr} {ws : List Wd} {n : Nat} (h : WordsOk ws n) (hn : n ≤ 1000) (hs : SqL K H p (ws.map tx)) : CodeAt K H p ws :=
  ⟨hs, fun a ha => ⟨(h.ok a ha).1, (h.ok a ha).2.1, by have := (h.ok a ha).2.2; omega⟩, by have := h.len; omega⟩
theorem okC_of {a : Wd} (h : okW a) : okC a := fun c hc => by have := (h c hc).2; omega
/-! ### items of tuples, of texts; slices of lists -/
theorem atI_of {α : Type} {xs : List α} {i : Int} {v : α} (h0 : 0 ≤ i) (h : xs[i.toNat]? = some v) : atI xs i = some v := by
  have e : i = (i.toNat : Int) := by omega
  rw [e]; exact atI_nat h
section
variable {K : PySem.W.Frag} {σ : L2.St} {H : Hp} {ta tb te : TE} {x y z v : V}
theorem ev_ixU {xs : List V} {i : Int} (ha : EvU ta σ H xs) (hi : Ev tb σ H (.int i)) (h : atI xs i = some v) : Ev (tOp (rIxT K) ta tb) σ H v := fun H1 e Q q =>
  ha H1 e _ fun p H2 _ e2 h2 => hi H2 (e.trans e2) _ fun H3 e3 => rv_ixT (st_of (e3 p _ h2)) h H3 (Ex.refl H3) Q fun H4 e4 => q H4 ((e2.trans e3).trans e4)
theorem cutV_to (xs : List V) (j : Nat) : cutV xs none (some (j : Int)) = xs.take j := by
  unfold cutV
  rw [HT.sIx_nat, HT.sIx_none]
  show (xs.drop 0).take (min j xs.length - 0) = _
  rw [List.drop_zero, Nat.sub_zero]
  rcases Nat.le_total j xs.length with h | h
  · rw [Nat.min_eq_left h]
  · rw [Nat.min_eq_right h, List.take_of_length_le (Nat.le_refl _), List.take_of_length_le h]
theorem ev_ixW {a : Wd} {i : Int} (ha : Ev ta σ H (tx a)) (hi : Ev tb σ H (.int i)) (hz : a.length ≤ 100000) (h0 : 0 ≤ i) (h : i.toNat < a.length) : Ev (tOp rIxS ta tb) σ H (tx [a.getD i.toNat 0]) :=
  ev_op ha hi (rv_ixW hz (atI_of h0 (by simp [List.getD, h])))
end
section
variable {P : Program} {w : World} {K : PySem.W.Frag} {mg : Str → Option Value} {base : Heap} {H : Hp}
def spLawCode (K : PySem.W.Frag) : Sp := fun vs H Q _ => ∃ (p : Addr) (ns : List Int), vs = [.ref p] ∧ SqL K H p (ns.map V.int) ∧ ns.length ≤ 63 ∧ RetL ((codeOf ns).map tx) H Q
theorem sl_law_code {p : Addr} {ns : List Int} (h : SqL K H p (ns.map V.int)) (hn : ns.length ≤ 63) : SpL (spLawCode K) [.ref p] H ((codeOf ns).map tx) := fun _ e _ q _ => ⟨p, ns, rfl, ex_l e h, hn, q⟩
theorem ok__law_code (D : DefAt K mg "_law_code" s__law_code ["_law_script"]) (T : Blt mg) : Cal P w K mg base 1 "_law_code" (spLawCode K) := by
  refine cal_of D sc__law_code (fun vs H Q E h => ?_) (fun f cdv A outer s H vs Q E hr h => ?_)
  · obtain ⟨p, ns, rfl, _⟩ := h; rfl
  · obtain ⟨p, ns, rfl, hs, hn, q⟩ := h
    refine ⟨_, (pss_cons (ps_set (i := 1) sc__law_code.nd rfl (.inl rfl) (pe_op op_mod (pe_callB (cr_sumK (K := K) rfl rfl) (by rfl) T.sum (by decide +kernel) (pa_cons (pv 0) pa_nil)) pe_int))
      (pss_cons (ps_set (i := 2) sc__law_code.nd rfl (.inr rfl) (pe_ix (ix_tupK (K := K) rfl) (pe_tup (pa_cons pe_str (pa_cons pe_str (pa_cons pe_str pa_nil)))) (pe_op op_mod (pe_op op_fdiv (pe_callB (cr_sumK (K := K) rfl rfl) (by rfl) T.sum (by decide +kernel) (pa_cons (pv 0) pa_nil)) pe_int) pe_int) (fun _ _ => rfl)))
      (pss_cons (ps_set (i := 3) sc__law_code.nd rfl (.inl rfl) (pe_lst pa_nil))
      (pss_cons (ps_set (i := 4) sc__law_code.nd rfl (.inl rfl) pe_str)
      (pss_cons (ps_for PassesOwn.never rfl (pi_listK (K := K) rfl (pv 0)) (pg_name (i := 5) sc__law_code.nd rfl (.inl rfl)) (pss_cons (ps_set (i := 4) sc__law_code.nd rfl (.inl rfl) (pe_op op_add_str (pv 4) (pe_ix ix_str (pv 2) (pe_op op_mod (pv 5) (pe_ix (ix_tupK (K := K) rfl) (pe_tup (pa_cons pe_int (pa_cons pe_int (pa_cons pe_int (pa_cons pe_int pa_nil))))) (pv 1) (fun _ _ => rfl))) (fun _ _ => rfl))))
      (pss_one (ps_if (pt_cmpR op_eq (pe_op op_mod (pe_op op_fdiv (pv 5) pe_int) pe_int) pe_int (nomark _)) (pss_cons (ps_expr (pe_bm PySem.F.plainAttrs_list PySem.F.slot_list_append PySem.F.type_list_append mt_append (pv 3) (pa_cons (pv 4) pa_nil)))
      (pss_one (ps_set (i := 4) sc__law_code.nd rfl (.inl rfl) pe_str))) pss_nil))))
      (pss_cons (ps_if (pt_cmpR op_ne (pv 4) pe_str (nomark _)) (pss_one (ps_expr (pe_bm PySem.F.plainAttrs_list PySem.F.slot_list_append PySem.F.type_list_append mt_append (pv 3) (pa_cons (pv 4) pa_nil)))) pss_nil)
      (pss_cons (ps_if (pt_cmpR op_eq (pv 1) pe_int (nomark _)) (pss_one (ps_ret (pe_lc (own := [("_law_cell", 5)]) rfl sc__law_code.nd (pi_listK (K := K) rfl (pe_slice (sl_listK (K := K) rfl) (pv 0) po_none (po_some pe_int))) (blkOk_by (own := [("_law_cell", 5)]) (N := N__law_code) (sc := defScope s__law_code) (by decide +kernel)) (fun _ _ _ _ _ => (pg_name (i := 5) sc__law_code.nd rfl (.inl rfl))) (fun _ _ _ _ _ => pts_nil) (fun _ _ _ _ _ => (pe_op op_add_str (pe_ix ix_str (pv 2) pe_int (fun _ _ => rfl)) (pe_op op_rep_str (pe_ix ix_str (pv 2) pe_int (fun _ _ => rfl)) (pe_op op_mod (pe_op op_fdiv (pv 5) pe_int) pe_int))))))) pss_nil)
      (pss_one (ps_ret (pe_ifExp (pt_cmpR op_eq (pv 1) pe_int (nomark _)) (pe_lc (own := [("_law_word", 4)]) rfl sc__law_code.nd (pi_listK (K := K) rfl (pv 3)) (blkOk_by (own := [("_law_word", 4)]) (N := N__law_code) (sc := defScope s__law_code) (by decide +kernel)) (fun _ _ _ _ _ => (pg_name (i := 4) sc__law_code.nd rfl (.inl rfl))) (fun _ _ _ _ _ => pts_nil) (fun _ _ _ _ _ => (pe_op op_add_str (pe_ix ix_str (pv 2) pe_int (fun _ _ => rfl)) (pe_revS (pv 4))))) (pv 3))))))))))), ?_⟩
    have hL := letW_ok ns.sum
    have hm := modK_ok ns.sum
    have hsum : ∀ H1, Ex H H1 → ∀ σ : L2.St, σ[0]? = some (some (.ref p)) → Ev (tCB (rSum K) (tCons (tVar 0) tNil)) σ H1 (.int ns.sum) := fun H1 e σ h0 => ev_sum (ev_var h0) (ex_l e hs)
    refine q_asg (v := .int (ns.sum % 4)) (ev_op (hsum _ (Ex.refl _) _ rfl) ev_c (rv_mod (by decide))) fun H1 e1 => ?_
    refine q_asg (v := tx (letW ns.sum)) (ev_ixU (xs := [tx (codes "abc"), tx (codes "dmz"), tx (codes "ahy")]) (eu_tup (by walk_at "ea") (by simp)) (ev_op (ev_op (hsum _ e1 _ rfl) ev_c (rv_fdiv ⟨by decide, by decide⟩)) ev_c (rv_mod (by decide))) (atI_of (by omega) ?_)) fun H2 e2 => ?_
    · unfold letW
      rcases mod_cases3 (ns.sum / 4) with h | h | h <;> rw [h] <;> rfl
    refine q_asgL (el_lst0) fun q0 H3 nq e3 hq => ?_
    refine q_asg (v := tx []) (ev_is ev_cS (congrArg tx codes_nil)) fun H4 e4 => ?_
    have ex4 := ((e1.trans e2).trans e3).trans e4
    have nq0 : H q0 = none := fresh_back (e1.trans e2) nq
    refine q_forLn (a := p) (xs := ns.map V.int) (ev_var rfl) (ex_l ex4 hs) (fun i σ' H' => ∃ s5, Ex H H' ∧ H' q0 = some (.lst ((cutC (letW ns.sum) (modK (ns.sum % 4)) (ns.take i)).1.map tx)) ∧
        σ' = [some (.ref p), some (.int (ns.sum % 4)), some (tx (letW ns.sum)), some (.ref q0), some (tx (cutC (letW ns.sum) (modK (ns.sum % 4)) (ns.take i)).2), s5])
      (fun H5 e5 => ⟨_, ex4.trans e5, e5 q0 _ (e4 q0 _ hq), rfl⟩) (fun i σ' H' _ hP => by obtain ⟨_, ex, _⟩ := hP; exact ex_l ex hs) (fun i x σ' H' hi hP => ?_) (fun σ' H' hP => ?_)
    · obtain ⟨s5, ex, hq', rfl⟩ := hP
      have hil : i < ns.length := by
        have := (List.getElem?_eq_some_iff.mp hi).1
        rwa [List.length_map] at this
      have hx : x = .int ns[i] := by
        rw [List.getElem?_map, List.getElem?_eq_getElem hil] at hi
        exact (Option.some.inj hi).symm
      subst hx
      have hst : cutC (letW ns.sum) (modK (ns.sum % 4)) (ns.take (i + 1)) = stepC (letW ns.sum) (modK (ns.sum % 4)) (cutC (letW ns.sum) (modK (ns.sum % 4)) (ns.take i)) ns[i] := by
        unfold cutC
        rw [List.take_succ, List.getElem?_eq_getElem hil, List.foldl_append]
        rfl
      have hok := cut_ok hL hm (ns.take i)
      rw [hst]
      generalize hR : cutC (letW ns.sum) (modK (ns.sum % 4)) (ns.take i) = r at *
      obtain ⟨ws, wd⟩ := r
      have hlen := hok.len
      rw [List.length_take, Nat.min_eq_left (by omega), List.length_append] at hlen
      have hwl := len_le_flat ws hok.ne
      dsimp only at hlen hq'
      have hwd : wd.length ≤ 63 := by omega
      have hws : ws.length ≤ 63 := by omega
      generalize hd : [(letW ns.sum).getD (ns[i] % modK (ns.sum % 4)).toNat 0] = d
      have hdl : d.length = 1 := by rw [← hd]; rfl
      have hmi := Int.emod_nonneg ns[i] (show modK (ns.sum % 4) ≠ 0 by omega)
      have hmj := Int.emod_lt_of_pos ns[i] (show 0 < modK (ns.sum % 4) by omega)
      refine q_asg (v := tx (wd ++ d)) (ev_op (x := tx wd) (y := tx d) (ev_var rfl) ?_ (rv_addS (by omega))) fun H6 e6 => ?_
      · rw [← hd]
        refine ev_ixW (ev_var rfl) (ev_op (ev_var rfl) (ev_ixU (v := .int (modK (ns.sum % 4))) (xs := [.int 2, .int 3, .int 2, .int 3]) (eu_tup (by walk_at "ea") (by simp)) (ev_var rfl) (atI_of (by omega) ?_)) (rv_mod (by omega))) (by omega) (by omega) (by omega)
        unfold modK
        have : (ns.sum % 4).toNat = 0 ∨ (ns.sum % 4).toNat = 1 ∨ (ns.sum % 4).toNat = 2 ∨ (ns.sum % 4).toNat = 3 := by omega
        rcases this with h | h | h | h <;> rw [h] <;> rfl
      · refine s_when (b := decide (ns[i] / 3 % 3 = 0)) (et_test (ev_op (ev_op (ev_op (ev_var rfl) ev_c (rv_fdiv ⟨by decide, by decide⟩)) ev_c (rv_mod (by decide))) ev_c rv_eqI)) (fun ht H7 e7 => ?_) (fun ht H7 e7 => ?_)
        · have h0 := of_decide_eq_true ht
          refine q_app ((e6.trans e7) q0 _ hq') (ev_var rfl) (v := tx (wd ++ d)) (ev_var rfl) (by rw [List.length_map]; exact Nat.lt_of_le_of_lt hws (by decide)) fun H8 e8 => ?_
          refine s_asg (v := tx []) (ev_is ev_cS (congrArg tx codes_nil)) fun H9 e9 => ⟨some (.int ns[i]), (Ex.mut (((ex.trans e6).trans e7).trans e8) nq0).trans e9, ?_, ?_⟩
          · unfold stepC
            rw [if_pos h0, hd]
            show H9 q0 = some (.lst ((ws ++ [wd ++ d]).map tx))
            rw [List.map_append]
            exact e9 q0 _ upd_same
          · unfold stepC
            rw [if_pos h0]
            rfl
        · have h0 := of_decide_eq_false ht
          unfold stepC
          rw [if_neg h0, hd]
          exact ⟨_, (ex.trans e6).trans e7, (e6.trans e7) q0 _ hq', rfl⟩
    · obtain ⟨s5, ex, hq', rfl⟩ := hP
      rw [List.length_map, List.take_length] at hq' ⊢
      have hok := cut_ok hL hm ns
      generalize hR : cutC (letW ns.sum) (modK (ns.sum % 4)) ns = r at *
      obtain ⟨ws, wd⟩ := r
      have hlen := hok.len
      rw [List.length_append] at hlen
      have hwl := len_le_flat ws hok.ne
      dsimp only at hlen hwl hq'
      have hcode : codeOf ns = (if ns.sum % 4 = 2 then (ns.take 12).map fun c => [(letW ns.sum).getD 1 0] ++ repW [(letW ns.sum).getD 0 0] (c / 2 % 9)
        else if ns.sum % 4 = 3 then (wordsC (ws, wd)).map fun a => [(letW ns.sum).getD 2 0] ++ a.reverse else wordsC (ws, wd)) := by unfold codeOf; rw [hR]
      have wk := hok.wok hn
      have hl1 : ∀ i : Nat, i < 3 → ∀ (c : Nat), [(letW ns.sum).getD i 0].length ≤ 1000 := fun _ _ _ => by simp
      refine q_ifApp (b := !decide (wd = codes "")) hq' (et_test (ev_op (ev_var rfl) ev_cS rv_neS)) (ev_var rfl) (fun _ => ev_var (v := tx wd) rfl) (by rw [List.length_map]; omega) fun H6 e6 => ?_
      have hx6 : (if (!decide (wd = codes "")) = true then ws.map tx ++ [tx wd] else ws.map tx) = (wordsC (ws, wd)).map tx := by
        rw [codes_nil]
        unfold wordsC
        by_cases h : wd = []
        · subst h; simp
        · simp [h]
      rw [hx6]
      generalize hH : upd H6 q0 (.lst ((wordsC (ws, wd)).map tx)) = H7
      have ex7 : Ex H H7 := by rw [← hH]; exact Ex.mut (ex.trans e6) nq0
      have h7 : H7 q0 = some (.lst ((wordsC (ws, wd)).map tx)) := by rw [← hH]; exact upd_same
      have gL : ∀ (i : Nat) (σ : L2.St) (Hx : Hp), i < 3 → σ[2]? = some (some (tx (letW ns.sum))) → Ev (tOp rIxS (tVar 2) (tC (.int (i : Int)))) σ Hx (tx [(letW ns.sum).getD i 0]) := fun i σ Hx hi h =>
        ev_ixW (ev_var h) ev_c (by omega) (by omega) (by omega)
      refine q_when (et_test (ev_op (ev_var rfl) ev_c rv_eqI)) (fun h2 H8 e8 => ?_) (fun h2 H8 e8 => ?_)
      · have h2' := of_decide_eq_true h2
        rw [hcode, if_pos h2'] at q
        refine s_retL (el_mapNS (ys := ns.take 12) (φ := V.int) (g := fun c => [(letW ns.sum).getD 1 0] ++ repW [(letW ns.sum).getD 0 0] (c / 2 % 9)) ?_ (by rw [List.length_take]; omega) (fun _ => rfl) fun c hc => ?_) fun p2 H9 np e9 h9 => q.go (ex7.trans e8) np e9 h9
        · rw [List.map_take, ← cutV_to]
          exact el_sl (ev_var rfl) eo_none (eo_some ev_c) (ex_l (ex7.trans e8) hs)
        · refine ev_op (gL 1 _ _ (by decide) rfl) (ev_op (gL 0 _ _ (by decide) rfl) (ev_op (ev_op (ev_var rfl) ev_c (rv_fdiv ⟨by decide, by decide⟩)) ev_c (rv_mod (by decide))) (rv_repS ⟨⟨by omega, by omega⟩, by simp⟩)) (rv_addS ?_)
          rw [repW_len1]; simp; omega
      · have h2' := of_decide_eq_false h2
        rw [hcode, if_neg h2'] at q
        have hif : EvT (tTest (tOp rEq (tVar 1) (tC (.int 3)))) [some (.ref p), some (.int (ns.sum % 4)), some (tx (letW ns.sum)), some (.ref q0), some (tx wd), s5] H8 (decide (ns.sum % 4 = 3)) := et_test (ev_op (ev_var rfl) ev_c rv_eqI)
        refine hif H8 (Ex.refl _) _ fun H9 e9 => ?_
        have h9 := (e8.trans e9) q0 _ h7
        by_cases h3 : ns.sum % 4 = 3
        · rw [if_pos h3] at q
          rw [decide_eq_true h3]
          have hz : (wordsC (ws, wd)).length ≤ 40000 := by have := wk.len; omega
          have := el_mapS (K := K) (te := tOp (fun x y H Q => ∃ i j, x = .str i ∧ y = .str j ∧ i.length + j.length ≤ sizeLine ∧ Q (.str (i ++ j)) H) (tOp rIxS (tVar 2) (tC (.int 2))) (tRevS (tVar 4))) (tl := tVar 3) (j := 4) (vs := [4]) (φ := tx) (g := fun a : Wd => [(letW ns.sum).getD 2 0] ++ a.reverse)
            (σ := [some (.ref p), some (.int (ns.sum % 4)), some (tx (letW ns.sum)), some (.ref q0), some (tx wd), s5]) (H := H9) (ys := wordsC (ws, wd)) (ev_var rfl) (sq_of h9) hz (fun _ => rfl) fun a ha => by
              have h3 := (wk.ok a ha).2.2
              exact ev_op (gL 2 _ _ (by decide) rfl) (ev_revS (ev_var rfl) (by omega)) (rv_addS (by simp; omega))
          exact this H9 (Ex.refl _) _ fun p2 H10 np e10 h10 => q.go ((ex7.trans e8).trans e9) np e10 h10
        · rw [if_neg h3] at q
          rw [decide_eq_false h3]
          rw [if_neg (by decide)]
          exact ⟨_, rfl, q q0 H9 nq0 ((ex7.trans e8).trans e9) h9⟩
/-! ### _law_stands, _law_numbers -/
def spLawStands : Sp := spStands
theorem ok__law_stands (D : DefAt K mg "_law_stands" s__law_stands ["_law_word", "_law_text_here", "_law_at"]) (T : Blt mg) : Cal P w K mg base 1 "_law_stands" spStands := by
  refine cal_of D sc__law_stands (fun vs H Q E h => ?_) (fun f cdv A outer s H vs Q E hr h => ?_)
  · obtain ⟨a, t, i, rfl, _⟩ := h; rfl
  · obtain ⟨a, t, i, rfl, h1, h2, q⟩ := h
    refine ⟨_, (pss_one (ps_ret (pe_cmpR op_eq (pe_slice sl_str (pv 1) (po_some (pv 2)) (po_some (pe_op op_add (pv 2) (pe_callB call_len_str (by rfl) T.len (by decide +kernel) (pa_cons (pv 0) pa_nil))))) (pv 0) (nomark _)))), ?_⟩
    refine sev_run (sev_is (sev_ret (by walk_at "ev")) (congrArg V.bl ?_)) q
    unfold standsB pre
    have h3 : (i : Int) + (a.length : Int) = ((i + a.length : Nat) : Int) := by omega
    have h4 : i + a.length - i = a.length := by omega
    rw [h3, cut_nn, h4]
/-- a list of ints -/
def spLawNumbers (K : PySem.W.Frag) : Sp := fun vs H Q _ => ∃ (p : Addr) (ns : List Int), vs = [.ref p] ∧ SqL K H p (ns.map V.int) ∧ ns.length ≤ 40000 ∧ ∀ H', Ex H H' → Q (.bl true) H'
theorem sv_law_numbers {p : Addr} {ns : List Int} (h : SqL K H p (ns.map V.int)) (hn : ns.length ≤ 40000) : SpV (spLawNumbers K) [.ref p] H (.bl true) := fun _ e _ q _ => ⟨p, ns, rfl, ex_l e h, hn, q⟩
theorem ok__law_numbers (D : DefAt K mg "_law_numbers" s__law_numbers ["_law_found"]) (T : Blt mg) : Cal P w K mg base 1 "_law_numbers" (spLawNumbers K) := by
  refine cal_of D sc__law_numbers (fun vs H Q E h => ?_) (fun f cdv A outer s H vs Q E hr h => ?_)
  · obtain ⟨p, ns, rfl, _⟩ := h; rfl
  · obtain ⟨p, ns, rfl, hs, hn, q⟩ := h
    refine ⟨_, (pss_cons (ps_if (pt_not (pt_val (pe_callB (call_isiK' (K := K) rfl) (by rfl) T.isinstance (by decide +kernel) (pa_cons (pv 0) (pa_cons (pe_bltn (v := .ty "list") (by rfl) T.list (by decide +kernel) rfl) pa_nil))))) (pss_one (ps_ret pe_bl)) pss_nil)
      (pss_one (ps_ret (pe_callB (cr_allK (K := K) rfl rfl) (by rfl) T.all (by decide +kernel) (pa_cons (pe_lc (own := [("_law_one", 1)]) rfl sc__law_numbers.nd (pi_listK (K := K) rfl (pv 0)) (blkOk_by (own := [("_law_one", 1)]) (N := N__law_numbers) (sc := defScope s__law_numbers) (by decide +kernel)) (fun _ _ _ _ _ => (pg_name (i := 1) sc__law_numbers.nd rfl (.inl rfl))) (fun _ _ _ _ _ => pts_nil) (fun _ _ _ _ _ => (pe_and (pe_callB (call_isiK' (K := K) rfl) (by rfl) T.isinstance (by decide +kernel) (pa_cons (pv 1) (pa_cons (pe_bltn (v := .ty "int") (by rfl) T.int (by decide +kernel) rfl) pa_nil))) (pe_one (pe_not (pe_callB (call_isiK' (K := K) rfl) (by rfl) T.isinstance (by decide +kernel) (pa_cons (pv 1) (pa_cons (pe_bltn (v := .ty "bool") (by rfl) T.bool (by decide +kernel) rfl) pa_nil)))))))) pa_nil))))), ?_⟩
    refine sev_run (sev_skip (et_is (by walk_at "et") ?_) (sev_is (sev_ret (by walk_at "ev")) (congrArg V.bl ?_))) q
    · rfl
    · rw [List.all_map, List.all_eq_true]
      intro a ha
      rfl
/-! ### the text of a script -/
def textOf (ws : List Wd) (ns : List Int) : Wd :=
  if ws = [] then repW (codes "ab") (ns.sum % 3)
  else if 0 < ns.sum / 4 % 3 ∨ ((ns.take 9).map fun c => wat ws (c / 5 % (ws.length : Int)).toNat).flatten = [] then ((ns.take 9).map fun c => wat ws (c / 5 % (ws.length : Int)).toNat).flatten
  else (((ns.take 9).map fun c => wat ws (c / 5 % (ws.length : Int)).toNat).flatten).take (ns.sum / 12 % ((((ns.take 9).map fun c => wat ws (c / 5 % (ws.length : Int)).toNat).flatten).length : Int)).toNat
    ++ [(codes "abz").getD (ns.getD 0 0 % 3).toNat 0] ++ (((ns.take 9).map fun c => wat ws (c / 5 % (ws.length : Int)).toNat).flatten).drop ((ns.sum / 12 % ((((ns.take 9).map fun c => wat ws (c / 5 % (ws.length : Int)).toNat).flatten).length : Int)).toNat + 1)
theorem flat_len_le (n : Nat) : ∀ ws : List Wd, (∀ a ∈ ws, a.length ≤ n) → ws.flatten.length ≤ ws.length * n
  | [], _ => by simp
  | a :: r, h => by
    have h1 := h a (by simp)
    have h2 := flat_len_le n r fun b hb => h b (by simp [hb])
    rw [List.flatten_cons, List.length_append, List.length_cons, Nat.succ_mul]; omega
theorem base_ok {ws : List Wd} (h : WordsOk ws 64) (ns : List Int) (hw : ws ≠ []) : ((ns.take 9).map fun c => wat ws (c / 5 % (ws.length : Int)).toNat).flatten.length ≤ 576 ∧ okW ((ns.take 9).map fun c => wat ws (c / 5 % (ws.length : Int)).toNat).flatten := by
  have hl : 0 < ws.length := List.length_pos_iff.mpr hw
  have hi : ∀ c : Int, wat ws (c / 5 % (ws.length : Int)).toNat ∈ ws := fun c => by
    have h1 := Int.emod_nonneg (c / 5) (show (ws.length : Int) ≠ 0 by omega)
    have h2 := Int.emod_lt_of_pos (c / 5) (show (0 : Int) < ws.length by omega)
    have h3 : (c / 5 % (ws.length : Int)).toNat < ws.length := by omega
    exact List.mem_of_getElem? (M3.wat_getElem h3)
  refine ⟨?_, fun d hd => ?_⟩
  · refine Nat.le_trans (flat_len_le 64 _ fun a ha => ?_) ?_
    · obtain ⟨c, _, rfl⟩ := List.mem_map.mp ha
      exact (h.ok _ (hi c)).2.2
    · rw [List.length_map, List.length_take]; omega
  · obtain ⟨l, hl, hc⟩ := List.mem_flatten.mp hd
    obtain ⟨c, _, rfl⟩ := List.mem_map.mp hl
    exact (h.ok _ (hi c)).2.1 d hc
theorem abz_ok (c : Int) : 97 ≤ (codes "abz").getD (c % 3).toNat 0 ∧ (codes "abz").getD (c % 3).toNat 0 ≤ 122 := by
  rcases mod_cases3 c with h | h | h <;> rw [h] <;> decide +kernel
theorem textOf_ok {ws : List Wd} (h : WordsOk ws 64) (ns : List Int) : (textOf ws ns).length ≤ 1000 ∧ okW (textOf ws ns) := by
  unfold textOf
  split
  · refine ⟨?_, fun d hd => ?_⟩
    · unfold repW
      rw [List.length_flatten, List.map_replicate, List.sum_replicate_nat]
      have : (codes "ab").length = 2 := by decide +kernel
      rw [this]; omega
    · have := repW_mem hd
      have e : okW (codes "ab") := by decide +kernel
      exact e d this
  · rename_i hw
    obtain ⟨h1, h2⟩ := base_ok h ns hw
    generalize ((ns.take 9).map fun c => wat ws (c / 5 % (ws.length : Int)).toNat).flatten = t at *
    split
    · exact ⟨by omega, h2⟩
    · refine ⟨?_, fun d hd => ?_⟩
      · simp only [List.length_append, List.length_take, List.length_drop, List.length_singleton]; omega
      · simp only [List.mem_append, List.mem_singleton] at hd
        rcases hd with (hd | hd) | hd
        · exact h2 d (List.mem_of_mem_take hd)
        · rw [hd]; exact abz_ok _
        · exact h2 d (List.mem_of_mem_drop hd)
def spLawText (K : PySem.W.Frag) : Sp := fun vs H Q _ => ∃ (p s : Addr) (ws : List Wd) (ns : List Int), vs = [.ref p, .ref s] ∧ SqL K H p (ws.map tx) ∧ SqL K H s (ns.map V.int) ∧ WordsOk ws 64 ∧ ns.length ≤ 63 ∧ ∀ H', Ex H H' → Q (tx (textOf ws ns)) H'
theorem sv_law_text {p s : Addr} {ws : List Wd} {ns : List Int} (h1 : SqL K H p (ws.map tx)) (h2 : SqL K H s (ns.map V.int)) (h3 : WordsOk ws 64) (h4 : ns.length ≤ 63) : SpV (spLawText K) [.ref p, .ref s] H (tx (textOf ws ns)) :=
  fun _ e _ q _ => ⟨p, s, ws, ns, rfl, ex_l e h1, ex_l e h2, h3, h4, q⟩
theorem ok__law_text (D : DefAt K mg "_law_text" s__law_text ["_law_code_here", "_law_script"]) (T : Blt mg) : Cal P w K mg base 1 "_law_text" (spLawText K) := by
  refine cal_of D sc__law_text (fun vs H Q E h => ?_) (fun f cdv A outer s H vs Q E hr h => ?_)
  · obtain ⟨p, s, ws, ns, rfl, _⟩ := h; rfl
  · obtain ⟨p, s2, ws, ns, rfl, hp, hs, hw, hn, q⟩ := h
    refine ⟨_, (pss_cons (ps_if (pt_cmpR (op_eqDK (K := K) rfl hr.units) (pv 0) (pe_lst pa_nil) (nomark _)) (pss_one (ps_ret (pe_op op_rep_str pe_str (pe_op op_mod (pe_callB (cr_sumK (K := K) rfl rfl) (by rfl) T.sum (by decide +kernel) (pa_cons (pv 1) pa_nil)) pe_int)))) pss_nil)
      (pss_cons (ps_set (i := 2) sc__law_text.nd rfl (.inl rfl) (pe_joinK (K := K) rfl pe_str (pe_lc (own := [("_law_cell", 4)]) rfl sc__law_text.nd (pi_listK (K := K) rfl (pe_slice (sl_listK (K := K) rfl) (pv 1) po_none (po_some pe_int))) (blkOk_by (own := [("_law_cell", 4)]) (N := N__law_text) (sc := defScope s__law_text) (by decide +kernel)) (fun _ _ _ _ _ => (pg_name (i := 4) sc__law_text.nd rfl (.inl rfl))) (fun _ _ _ _ _ => pts_nil) (fun _ _ _ _ _ => (pe_ix (ix_listK (K := K) rfl) (pv 0) (pe_op op_mod (pe_op op_fdiv (pv 4) pe_int) (pe_callB (call_len_seqK (K := K) rfl) (by rfl) T.len (by decide +kernel) (pa_cons (pv 0) pa_nil))) (fun _ _ => rfl))))))
      (pss_cons (ps_if (PW.pt (pw_or (pt_cmpR op_gt (pe_op op_mod (pe_op op_fdiv (pe_callB (cr_sumK (K := K) rfl rfl) (by rfl) T.sum (by decide +kernel) (pa_cons (pv 1) pa_nil)) pe_int) pe_int) pe_int (nomark _)) (pw_or1 (pt_cmpR op_eq (pv 2) pe_str (nomark _))))) (pss_one (ps_ret (pv 2))) pss_nil)
      (pss_cons (ps_set (i := 3) sc__law_text.nd rfl (.inl rfl) (pe_op op_mod (pe_op op_fdiv (pe_callB (cr_sumK (K := K) rfl rfl) (by rfl) T.sum (by decide +kernel) (pa_cons (pv 1) pa_nil)) pe_int) (pe_callB call_len_str (by rfl) T.len (by decide +kernel) (pa_cons (pv 2) pa_nil))))
      (pss_one (ps_ret (pe_op op_add_str (pe_op op_add_str (pe_slice sl_str (pv 2) po_none (po_some (pv 3))) (pe_ix ix_str pe_str (pe_op op_mod (pe_ix (ix_listK (K := K) rfl) (pv 1) pe_int (fun _ _ => rfl)) pe_int) (fun _ _ => rfl))) (pe_slice sl_str (pv 2) (po_some (pe_op op_add (pv 3) pe_int)) po_none)))))))), ?_⟩
    have hsum : ∀ H1, Ex H H1 → ∀ σ : L2.St, σ[1]? = some (some (.ref s2)) → Ev (tCB (rSum K) (tCons (tVar 1) tNil)) σ H1 (.int ns.sum) := fun H1 e σ h0 => ev_sum (ev_var h0) (ex_l e hs)
    refine sev_run (sev_is (sev_when (b := decide (ws = [])) (et_B (ev_eqQ enc_tx (eq_at (ev_var rfl) hp) (eq_new (xs := ([] : List Wd).map tx) el_lst0) (fun a ha => okC_of (hw.ok a ha).2.1) (by simp))) (fun he => ?_) (fun he => ?_)) (w := tx (textOf ws ns)) rfl) q
    · have he := of_decide_eq_true he
      refine sev_is (sev_ret (ev_op ev_cS (ev_op (hsum _ (Ex.refl _) _ rfl) ev_c (rv_mod (by decide))) (rv_repS ⟨⟨by omega, by omega⟩, by decide +kernel⟩))) ?_
      unfold textOf; rw [if_pos he]
    · have he := of_decide_eq_false he
      obtain ⟨b1, b2⟩ := base_ok hw ns he
      have hl : 0 < ws.length := List.length_pos_iff.mpr he
      refine sev_asg (x := tx ((ns.take 9).map fun c => wat ws (c / 5 % (ws.length : Int)).toNat).flatten) ?_ ?_
      · refine ev_join (ev_is ev_cS (congrArg tx codes_nil)) (el_mapNS (ys := ns.take 9) (φ := V.int) ?_ (by rw [List.length_take]; omega) (fun _ => rfl) fun c hc => ?_) (by omega)
        · rw [List.map_take, ← cutV_to]
          exact el_sl (ev_var rfl) eo_none (eo_some ev_c) hs
        · have h1 := Int.emod_nonneg (c / 5) (show (ws.length : Int) ≠ 0 by omega)
          have h2 := Int.emod_lt_of_pos (c / 5) (show (0 : Int) < ws.length by omega)
          have e9 : (((ws.map tx).length : Nat) : Int) = (ws.length : Int) := by rw [List.length_map]
          refine ev_op (ev_var rfl) (ev_op (ev_op (ev_var rfl) ev_c (rv_fdiv ⟨by decide, by decide⟩)) (y := .int (ws.length : Int)) (by rw [← e9]; exact ev_len' (ev_var rfl) hp) (rv_mod (by omega))) (rv_ixL hp (atI_of h1 (wat_get (by omega))))
      · unfold textOf
        rw [if_neg he]
        have hgen : ((ns.take 9).map fun c => wat ws (c / 5 % (ws.length : Int)).toNat).flatten ≠ [] → ns ≠ [] := fun h e => by subst e; exact h rfl
        generalize ((ns.take 9).map fun c => wat ws (c / 5 % (ws.length : Int)).toNat).flatten = t at *
        refine sev_when (b := decide (0 < ns.sum / 4 % 3) || decide (t = codes "")) (et_or (et_test (ev_op (ev_op (ev_op (hsum _ (Ex.refl _) _ rfl) ev_c (rv_fdiv ⟨by decide, by decide⟩)) ev_c (rv_mod (by decide))) ev_c rv_gt)) fun _ => et_test (ev_op (ev_var rfl) ev_cS rv_eqS)) (fun h2 => ?_) (fun h2 => ?_)
        · rw [codes_nil] at h2
          rw [if_pos (by simpa using h2)]
          exact sev_ret (ev_var rfl)
        · rw [codes_nil] at h2
          rw [if_neg (by simpa using h2)]
          have ht : 0 < t.length := List.length_pos_iff.mpr fun e => by rw [e] at h2; simp at h2
          have h3 := Int.emod_nonneg (ns.sum / 12) (show (t.length : Int) ≠ 0 by omega)
          have h4 := Int.emod_lt_of_pos (ns.sum / 12) (show (0 : Int) < t.length by omega)
          have hns : ns ≠ [] := hgen (List.length_pos_iff.mp ht)
          have hn0 : (ns.map V.int)[0]? = some (.int (ns.getD 0 0)) := by
            cases ns with
            | nil => exact absurd rfl hns
            | cons c r => rfl
          generalize hat : ns.sum / 12 % (t.length : Int) = at' at *
          have e5 : at' = ((at'.toNat : Nat) : Int) := by omega
          refine sev_asg (x := .int ((at'.toNat : Nat) : Int)) (ev_is (ev_op (ev_op (hsum _ (Ex.refl _) _ rfl) ev_c (rv_fdiv ⟨by decide, by decide⟩)) (ev_lenS (ev_var rfl) (by omega)) (rv_mod (by omega))) (by rw [hat, ← e5])) ?_
          have e6 : ((at'.toNat : Nat) : Int) + 1 = ((at'.toNat + 1 : Nat) : Int) := by omega
          have eabz : (codes "abz").length = 3 := by decide +kernel
          have hm0 := Int.emod_nonneg (ns.getD 0 0) (show (3 : Int) ≠ 0 by decide)
          have hm1 := Int.emod_lt_of_pos (ns.getD 0 0) (show (0 : Int) < 3 by decide)
          refine sev_ret (ev_op (x := tx (t.take at'.toNat ++ [(codes "abz").getD (ns.getD 0 0 % 3).toNat 0])) (y := tx (t.drop (at'.toNat + 1))) (ev_op (x := tx (t.take at'.toNat)) (ev_is (ev_slS (ev_var rfl) eo_none (eo_some (ev_var rfl)) (by omega)) (congrArg tx (cut_to _ _)))
            (ev_ixW ev_cS (ev_op (ev_op (x := .ref s2) (ev_var rfl) ev_c (rv_ixL hs (atI_nat (j := 0) hn0))) ev_c (rv_mod (by decide))) (by rw [eabz]; decide) hm0 (by rw [eabz]; omega)) (rv_addS (by simp; omega)))
            (ev_is (ev_slS (ev_var rfl) (eo_some (ev_op (ev_var rfl) ev_c rv_add)) eo_none (by omega)) (congrArg tx (by rw [e6]; exact cut_from _ _))) (rv_addS (by simp; omega)))
end
end Tr

set_option Elab.async false
set_option linter.all false
set_option maxRecDepth 100000
set_option maxHeartbeats 4000000
namespace Tr
open PySem PySem.Spec PyProof.Rows L2 Evl
open M3 (wat joinW pre ways nthW)
abbrev s__law_due : Stmt := topS 32
abbrev N__law_due : List Str := ["_law_code_here", "_law_text_here", "_law_found", "_law_mark", "_law_word", "_law_place"]
theorem sc__law_due : FnScope N__law_due ["_law_code_here", "_law_text_here", "_law_found"] (defScope s__law_due) := ⟨rfl, rfl, rfl, by decide +kernel, rfl, by decide +kernel, by decide +kernel⟩
abbrev s_law : Stmt := topS 33
abbrev N_law : List Str := ["_law_script", "_law_code_here", "_law_text_here", "_law_handed", "_law_some", "_law_found"]
theorem sc_law : FnScope N_law ["_law_script"] (defScope s_law) := ⟨rfl, rfl, rfl, by decide +kernel, rfl, by decide +kernel, by decide +kernel⟩
local macro_rules | `(tactic| walk_at "sd") => `(tactic| first | assumption | rfl | omega | decide | (solve_by_elim) | (refine Nat.le_trans (m := 1000) (by solve_by_elim) (by decide)))
local macro_rules | `(tactic| walk_at "rv") => `(tactic| first
  | exact rv_add | exact rv_sub | exact rv_lt | exact rv_le | exact rv_gt | exact rv_ge | exact rv_eqI | exact rv_eqS | exact rv_eqB | exact rv_neI | exact rv_neS | exact rv_neB
  | exact rv_mod (by walk_at "sd") | exact rv_fdiv (by first | assumption | exact ⟨by omega, by omega⟩) | exact rv_addS (by walk_at "sd") | exact rv_isB | exact rv_notB | assumption)
local macro_rules | `(tactic| walk_at "ea") => `(tactic| first
  | exact ea_nil
  | (refine' ea_cons ?k1 ?k2; (case k1 => walk_at "ev"); (case k2 => walk_at "ea")))
local macro_rules | `(tactic| walk_at "eo") => `(tactic| first
  | exact eo_none
  | (refine' eo_some ?k1; (case k1 => walk_at "ev")))
local macro_rules | `(tactic| walk_at "et") => `(tactic| first
  | (refine' et_test ?k1; (case k1 => walk_at "ev"))
  | (refine' et_B ?k1; (case k1 => walk_at "ev"))
  | (refine' et_and ?k1 ?k2; (case k1 => walk_at "et"); (case k2 => (intro _; walk_at "et")))
  | (refine' et_or ?k1 ?k2; (case k1 => walk_at "et"); (case k2 => (intro _; walk_at "et")))
  | (refine' et_not ?k1; (case k1 => walk_at "et"))
  | assumption)
local macro_rules | `(tactic| walk_at "ev") => `(tactic| first
  | assumption
  | exact ev_cS
  | exact ev_c
  | exact ev_var rfl
  | (refine' ev_op ?k1 ?k2 ?k3; (case k1 => walk_at "ev"); (case k2 => walk_at "ev"); (case k3 => walk_at "rv"))
  | (refine' ev_un ?k1 ru_neg; (case k1 => walk_at "ev"))
  | (refine' ev_chain ?k1 ?k2 ?k3 ?k4 ?k5; (case k1 => walk_at "ev"); (case k2 => walk_at "ev"); (case k3 => walk_at "ev"); (case k4 => walk_at "rv"); (case k5 => (intro _; walk_at "rv")))
  | (refine' ev_slS ?k1 ?k2 ?k3 ?k4; (case k1 => walk_at "ev"); (case k2 => walk_at "eo"); (case k3 => walk_at "eo"); (case k4 => walk_at "sd"))
  | (refine' ev_lenS ?k1 ?k2; (case k1 => walk_at "ev"); (case k2 => walk_at "sd"))
  | (refine' ev_len' ?k1 ?k2; (case k1 => walk_at "ev"); (case k2 => walk_at "sd"))
  | (refine' ev_strip ?k1 ?k2 ?k3; (case k1 => walk_at "ev"); (case k2 => walk_at "ev"); (case k3 => walk_at "sd"))
  | (refine' ev_sum ?k1 ?k2; (case k1 => walk_at "ev"); (case k2 => walk_at "sd"))
  | (refine' ev_isi ?k1 ?k2 ?k3 ?k4; (case k1 => walk_at "ev"); (case k2 => walk_at "ev"); (case k3 => first | exact ty_int | exact ty_bl | exact ty_str | exact ty_list (by walk_at "sd")); (case k4 => first | exact kit_ty (r := true) (by decide +kernel) | exact kit_ty (r := false) (by decide +kernel)))
  | (refine' ev_andV ?k1 ?k2; (case k1 => walk_at "ev"); (case k2 => (intro _; walk_at "ev")))
  | (refine' ev_orV ?k1 ?k2; (case k1 => walk_at "ev"); (case k2 => (intro _; walk_at "ev")))
  | (refine' ev_notV ?k1; (case k1 => walk_at "ev"))
  | (refine' ev_call ?k1 ?k2; (case k1 => walk_at "ea"); (case k2 => walk_at "sv")))
local macro_rules | `(tactic| walk_at "el") => `(tactic| first
  | assumption
  | (refine' el_mapB ?k1 ?k2 ?k3 (fun _ => rfl) ?k5; (case k1 => walk_at "ev"); (case k2 => walk_at "sd"); (case k3 => walk_at "sd"); (case k5 => (intro _ _; walk_at "ev")))
  | (refine' el_mapI ?k1 ?k2 ?k3 (fun _ => rfl) ?k5; (case k1 => walk_at "ev"); (case k2 => walk_at "sd"); (case k3 => walk_at "sd"); (case k5 => (intro _ _; walk_at "ev")))
  | (refine' el_mapS ?k1 ?k2 ?k3 (fun _ => rfl) ?k5; (case k1 => walk_at "ev"); (case k2 => walk_at "sd"); (case k3 => walk_at "sd"); (case k5 => (intro _ _; walk_at "ev"))))
local macro_rules | `(tactic| walk_at "ev") => `(tactic| first
  | (refine' ev_all ?k1; (case k1 => walk_at "el"))
  | (refine' ev_any ?k1; (case k1 => walk_at "el"))
  | (refine' ev_sumN ?k1; (case k1 => walk_at "el"))
  | (refine' ev_join ?k1 ?k2 ?k3; (case k1 => exact ev_is ev_cS (congrArg tx codes_nil)); (case k2 => walk_at "el"); (case k3 => walk_at "sd")))

local macro_rules | `(tactic| walk_at "sv") => `(tactic| first | exact sv_stands (by walk_at "sd") (by walk_at "sd"))
/-- what is told of the answers' classes -/
structure AnsK (K : PySem.W.Frag) (aRd aSt aAns aCl aTl : Addr) : Prop where
  isR : ∀ b : Bool, PySem.W.kitOne K (.ref (if b then aRd else aSt)) (.ref aRd) = some b
  isS : ∀ b : Bool, PySem.W.kitOne K (.ref (if b then aRd else aSt)) (.ref aSt) = some (!b)
  isA : ∀ b : Bool, PySem.W.kitOne K (.ref (if b then aRd else aSt)) (.ref aAns) = some true
  isC : ∀ b : Bool, PySem.W.kitOne K (.ref (if b then aRd else aSt)) (.ref aCl) = some false
  isT : ∀ b : Bool, PySem.W.kitOne K (.ref (if b then aRd else aSt)) (.ref aTl) = some false
  cl : ∀ b : Bool, ClsI K (if b then aRd else aSt)
  nR : NoAttr K aRd "places"
  nS : NoAttr K aSt "marks"
section
variable {K : PySem.W.Frag} {σ : L2.St} {H : Hp} {ta tb te : TE} {t : TA} {D : Ends} {tz : TS}
theorem call_run {sp : Sp} {vs : List V} {E : XK} {Q : VK} (h : EvA t σ H vs) (hs : ∀ H1, Ex H H1 → sp vs H1 Q E) : tCall sp [] E t σ H Q := h H (Ex.refl H) _ fun H1 e1 => by
  rw [List.append_nil]; exact hs H1 e1
theorem look_no {f m : Str} {v : V} (h : (m == f) = false) : ([(f, v)] : List (Str × V)).lookup m = none := by simp [List.lookup, h]
theorem q_ifTo {t : TT} {tu tw : TS} {b : Bool} {l : Addr} {xs : List V} {z : V} (h : EvT t σ H b) (k : ∀ H1, Ex H H1 → tz D σ (upd H1 l (.lst (xs ++ [z])))) (h1 : b = true → (∀ H1, Ex H H1 → tz D σ (upd H1 l (.lst (xs ++ [z])))) → ∀ H1, Ex H H1 → tu { D with nx := tz D } σ H1)
    (h2 : b = false → (∀ H1, Ex H H1 → tz D σ (upd H1 l (.lst (xs ++ [z])))) → ∀ H1, Ex H H1 → tw { D with nx := tz D } σ H1) : tSeq (tIfS t tu tw) tz D σ H := q_if h (fun e => h1 e k) (fun e => h2 e k)
theorem q_asgX {i : Nat} (h : te σ H fun v H1 => tz D (σ.set i (some v)) H1) : tSeq (tAsg te (gName i)) tz D σ H := h
theorem AnsAt.ty {aRd aSt o l : Addr} {b : Bool} {ns : List Int} (A : AnsAt aRd aSt b H o l ns) (c : ClsI K (if b then aRd else aSt)) : ∀ H1, Ex H H1 → TyX K H1 (.ref o) (.ref (if b then aRd else aSt)) := by
  obtain ⟨⟨dx, h⟩, _⟩ := A
  exact ty_ins c h
end
def stWords (ws : List Wd) (ms : List Int) (t : Wd) (m : Int) : Bool := ws.all fun a => !(standsB a t m.toNat && !decide (m + (a.length : Int) ∈ ms))
theorem all_both {α : Type} (f g : α → Bool) : ∀ xs : List α, (xs.all fun x => f x && g x) = (xs.all f && xs.all g)
  | [] => rfl
  | x :: xs => by
    rw [List.all_cons, List.all_cons, List.all_cons, all_both f g xs]
    cases f x <;> cases g x <;> cases xs.all f <;> rfl
theorem st_split (ws : List Wd) (ms : List Int) (t : Wd) : stShows ws ms t = ((decide ((0 : Int) ∈ ms) && !decide ((t.length : Int) ∈ ms) && (ms.all fun m => decide (0 ≤ m) && decide (m ≤ (t.length : Int)))) && ms.all (stWords ws ms t)) := by
  unfold stShows stTurn
  rw [all_both (fun m => decide (0 ≤ m) && decide (m ≤ (t.length : Int))), ← Bool.and_assoc]
  rfl
section
variable {P : Program} {w : World} {K : PySem.W.Frag} {mg : Str → Option Value} {base : Heap} {H : Hp}
def spLawDue (K : PySem.W.Frag) (aRd aSt : Addr) : Sp := fun vs H Q _ => ∃ (p o l : Addr) (b : Bool) (ws : List Wd) (t : Wd) (ns : List Int), vs = [.ref p, tx t, .ref o] ∧ CodeAt K H p ws ∧ t.length ≤ 5000 ∧ AnsAt aRd aSt b H o l ns ∧ ns.length ≤ 6000 ∧
  (b = true → inR ws.length ns = true → (joinW ws (ns.map Int.toNat)).length ≤ 100000) ∧ ∀ H', Ex H H' → Q (.bl (showsV b ws ns t)) H'
theorem sv_law_due {aRd aSt p o l : Addr} {b : Bool} {ws : List Wd} {t : Wd} {ns : List Int} (h1 : CodeAt K H p ws) (h2 : t.length ≤ 5000) (h3 : AnsAt aRd aSt b H o l ns) (h4 : ns.length ≤ 6000) (h5 : b = true → inR ws.length ns = true → (joinW ws (ns.map Int.toNat)).length ≤ 100000) :
    SpV (spLawDue K aRd aSt) [.ref p, tx t, .ref o] H (.bl (showsV b ws ns t)) := fun _ e _ k _ => ⟨p, o, l, b, ws, t, ns, rfl, h1.ex e, h2, h3.ex e, h4, h5, k⟩
theorem ok__law_due {aRd aSt aAns aCl aTl : Addr} (D : DefAt K mg "_law_due" s__law_due ["_law_code_here", "_law_text_here", "_law_found"]) (T : Blt mg) (G_Reading : mg "Reading" = some (.ref aRd)) (AK : AnsK K aRd aSt aAns aCl aTl) (C__law_stands : Cal P w K mg base 1 "_law_stands" spStands) :
    Cal P w K mg base 2 "_law_due" (spLawDue K aRd aSt) := by
  refine cal_of D sc__law_due (fun vs H Q E h => ?_) (fun f cdv A outer s H vs Q E hr h => ?_)
  · obtain ⟨p, o, l, b, ws, t, ns, rfl, _⟩ := h; rfl
  · obtain ⟨p, o, l, b, ws, t, ns, rfl, hc, ht, hA, hn, hj, k⟩ := h
    refine ⟨_, (pss_cons (ps_if (pt_val (pe_callB (call_isiK' (K := K) rfl) (by rfl) T.isinstance (by decide +kernel) (pa_cons (pv 2) (pa_cons (pe_exc (mg := mg) rfl G_Reading (by rfl)) pa_nil)))) (pss_cons (ps_if (pt_not (pt_val (pe_callB (cr_allK (K := K) rfl rfl) (by rfl) T.all (by decide +kernel) (pa_cons (pe_lc (own := [("_law_place", 5)]) rfl sc__law_due.nd (pi_listK (K := K) rfl (pe_fldK (K := K) rfl (pv 2))) (blkOk_by (own := [("_law_place", 5)]) (N := N__law_due) (sc := defScope s__law_due) (by decide +kernel)) (fun _ _ _ _ _ => (pg_name (i := 5) sc__law_due.nd rfl (.inl rfl))) (fun _ _ _ _ _ => pts_nil) (fun _ _ _ _ _ => (pe_chain op_le op_lt pe_int (pv 5) (pe_callB (call_len_seqK (K := K) rfl) (by rfl) T.len (by decide +kernel) (pa_cons (pv 0) pa_nil))))) pa_nil)))) (pss_one (ps_ret pe_bl)) pss_nil)
      (pss_one (ps_ret (pe_cmpR op_eq (pe_joinK (K := K) rfl pe_str (pe_lc (own := [("_law_place", 5)]) rfl sc__law_due.nd (pi_listK (K := K) rfl (pe_fldK (K := K) rfl (pv 2))) (blkOk_by (own := [("_law_place", 5)]) (N := N__law_due) (sc := defScope s__law_due) (by decide +kernel)) (fun _ _ _ _ _ => (pg_name (i := 5) sc__law_due.nd rfl (.inl rfl))) (fun _ _ _ _ _ => pts_nil) (fun _ _ _ _ _ => (pe_ix (ix_listK (K := K) rfl) (pv 0) (pv 5) (fun _ _ => rfl))))) (pv 1) (nomark _))))) pss_nil)
      (pss_cons (ps_if (PW.pt (pw_or (pt_cmpR (op_notIn_seqK (K := K) rfl) pe_int (pe_fldK (K := K) rfl (pv 2)) rfl) (pw_or (pt_cmpR (op_in_seqK (K := K) rfl) (pe_callB call_len_str (by rfl) T.len (by decide +kernel) (pa_cons (pv 1) pa_nil)) (pe_fldK (K := K) rfl (pv 2)) rfl) (pw_or1 (pt_not (pt_val (pe_callB (cr_allK (K := K) rfl rfl) (by rfl) T.all (by decide +kernel) (pa_cons (pe_lc (own := [("_law_mark", 3)]) rfl sc__law_due.nd (pi_listK (K := K) rfl (pe_fldK (K := K) rfl (pv 2))) (blkOk_by (own := [("_law_mark", 3)]) (N := N__law_due) (sc := defScope s__law_due) (by decide +kernel)) (fun _ _ _ _ _ => (pg_name (i := 3) sc__law_due.nd rfl (.inl rfl))) (fun _ _ _ _ _ => pts_nil) (fun _ _ _ _ _ => (pe_chain op_le op_le pe_int (pv 3) (pe_callB call_len_str (by rfl) T.len (by decide +kernel) (pa_cons (pv 1) pa_nil))))) pa_nil)))))))) (pss_one (ps_ret pe_bl)) pss_nil)
      (pss_cons (ps_for PassesOwn.never rfl (pi_listK (K := K) rfl (pe_fldK (K := K) rfl (pv 2))) (pg_name (i := 3) sc__law_due.nd rfl (.inr rfl)) (pss_one (ps_if (pt_val (pe_callB (cr_anyK (K := K) rfl rfl) (by rfl) T.any (by decide +kernel) (pa_cons (pe_lc (own := [("_law_word", 4)]) rfl sc__law_due.nd (pi_listK (K := K) rfl (pv 0)) (blkOk_by (own := [("_law_word", 4)]) (N := N__law_due) (sc := defScope s__law_due) (by decide +kernel)) (fun _ _ _ _ _ => (pg_name (i := 4) sc__law_due.nd rfl (.inl rfl))) (fun _ _ _ _ _ => pts_nil) (fun _ _ _ _ _ => (pe_and (pe_c C__law_stands hr (by decide) (by rfl) (pa_cons (pv 4) (pa_cons (pv 1) (pa_cons (pv 3) pa_nil)))) (pe_one (pe_cmpR (op_notIn_seqK (K := K) rfl) (pe_op op_add (pv 3) (pe_callB call_len_str (by rfl) T.len (by decide +kernel) (pa_cons (pv 4) pa_nil))) (pe_fldK (K := K) rfl (pv 2)) rfl))))) pa_nil))) (pss_one (ps_ret pe_bl)) pss_nil)))
      (pss_one (ps_ret pe_bl))))), ?_⟩
    have hbl : ∀ a ∈ ws, a.length ≤ 1000 := fun a ha => (hc.ok a ha).2.2
    have e9 : (((ws.map tx).length : Nat) : Int) = (ws.length : Int) := by rw [List.length_map]
    refine q_when (b := b) (et_test (ev_isC (ev_var rfl) ev_c (hA.ty (AK.cl b)) (AK.isR b))) (fun hb H1 e1 => ?_) (fun hb H1 e1 => ?_)
    · subst hb
      obtain ⟨⟨dx, ho⟩, hl⟩ := hA
      have gl : ∀ (H' : Hp) (σ : L2.St), Ex H H' → σ[2]? = some (some (.ref o)) → Ev (tFld K (tVar 2) "places") σ H' (.ref l) := fun H' σ e h0 => ev_fld (ev_var h0) (e o _ ho) (AK.cl true).cl AK.nR (look1 _ _)
      refine q_when (b := !(inR ws.length ns)) (et_not (et_test (ev_is (ev_all (el_mapB (φ := V.int) (g := fun i : Int => decide ((0 : Int) ≤ i) && decide (i < (ws.length : Int))) (gl _ _ e1 rfl) (sq_of (e1 l _ hl)) (by omega) (fun _ => rfl) fun i hi => ?_)) (congrArg V.bl (by rw [List.all_map]; rfl))))) (fun hf H2 e2 => ?_) (fun hf H2 e2 => ?_)
      · exact ev_chain (y := .int i) ev_c (ev_var rfl) (by rw [← e9]; exact ev_len' (ev_var rfl) (hc.ex e1).sq) rv_le fun _ => rv_lt
      · have : showsV true ws ns t = false := by
          show rdShows ws ns t = false
          unfold rdShows
          have : inR ws.length ns = false := by simpa using hf
          rw [this]; rfl
        rw [this] at k
        exact s_ret ev_c fun H3 e3 => k H3 ((e1.trans e2).trans e3)
      · have hin : inR ws.length ns = true := by simpa using hf
        obtain ⟨i1, i2⟩ := inR_nat hin
        have hl2 := (e1.trans e2) l _ hl
        rw [i1] at hl2
        have hsh : showsV true ws ns t = decide (joinW ws (ns.map Int.toNat) = t) := by
          show rdShows ws ns t = _
          unfold rdShows
          rw [hin]; rfl
        rw [hsh] at k
        refine s_ret (ev_op (x := tx (joinW ws (ns.map Int.toNat))) (ev_join (ev_is ev_cS (congrArg tx codes_nil)) (el_mapS (φ := nI) (g := fun n => wat ws n) (gl _ _ (e1.trans e2) rfl) (sq_of hl2) (by rw [List.length_map]; omega) (fun _ => rfl) fun n hn' => ev_op (ev_var rfl) (ev_var rfl) (rv_ixL (hc.ex (e1.trans e2)).sq (atI_nat (wat_get (i2 n hn'))))) (hj rfl hin)) (ev_var rfl) rv_eqS) fun H3 e3 => k H3 ((e1.trans e2).trans e3)
    · subst hb
      obtain ⟨⟨dx, ho⟩, hl⟩ := hA
      have gl : ∀ (H' : Hp) (σ : L2.St), Ex H H' → σ[2]? = some (some (.ref o)) → Ev (tFld K (tVar 2) "marks") σ H' (.ref l) := fun H' σ e h0 => ev_fld (ev_var h0) (e o _ ho) (AK.cl false).cl AK.nS (look1 _ _)
      have hsl := sq_of (K := K) hl
      replace k : ∀ H', Ex H H' → Q (.bl (stShows ws ns t)) H' := k
      have et1 : EvT (tOr (tB (tOp (rIn K true) (tC (.int 0)) (tFld K (tVar 2) "marks"))) (tOr (tB (tOp (rIn K false) (tCB (fun xs H Q => ∃ x : Str, xs = [.str x] ∧ x.length ≤ sizeLine ∧ Q (.int x.length) H) (tCons (tVar 1) tNil)) (tFld K (tVar 2) "marks")))
          (tNot (tTest (tCB (rAll K) (tCons (tLc (iList K (tFld K (tVar 2) "marks")) (gName 3) tYes (tChain (rI0 fun i j => .bl (decide (i ≤ j))) (rI0 fun i j => .bl (decide (i ≤ j))) (tC (.int 0)) (tVar 3) (tCB (fun xs H Q => ∃ x : Str, xs = [.str x] ∧ x.length ≤ sizeLine ∧ Q (.int x.length) H) (tCons (tVar 1) tNil))) [3]) tNil))))))
          [some (.ref p), some (tx t), some (.ref o), none, none, none] H1 (!decide (0 ∈ ns) || (decide ((t.length : Int) ∈ ns) || !(ns.all fun m => decide (0 ≤ m) && decide (m ≤ (t.length : Int))))) := by
        refine et_or (et_B (ev_niI (n := 0) ev_c (gl _ _ e1 rfl) (ex_l e1 hsl))) fun _ => et_or (et_B (ev_inI (ev_lenS (ev_var rfl) (by omega)) (gl _ _ e1 rfl) (ex_l e1 hsl))) fun _ => et_not (et_test (ev_is (ev_all (el_mapB (φ := V.int) (g := fun m : Int => decide ((0 : Int) ≤ m) && decide (m ≤ (t.length : Int))) (gl _ _ e1 rfl) (ex_l e1 hsl) (by omega) (fun _ => rfl) fun i hi => ?_)) (congrArg V.bl (by rw [List.all_map]; rfl))))
        exact ev_chain (y := .int i) ev_c (ev_var rfl) (ev_lenS (ev_var rfl) (by omega)) rv_le fun _ => rv_le
      refine q_when et1 (fun h0 H2 e2 => ?_) (fun h0 H2 e2 => ?_)
      · rw [st_split] at k
        have : (decide ((0 : Int) ∈ ns) && !decide ((t.length : Int) ∈ ns) && (ns.all fun m => decide (0 ≤ m) && decide (m ≤ (t.length : Int)))) = false := by
          cases h1 : decide ((0 : Int) ∈ ns) <;> cases h2 : decide ((t.length : Int) ∈ ns) <;> cases h3 : (ns.all fun m => decide (0 ≤ m) && decide (m ≤ (t.length : Int))) <;> rw [h1, h2, h3] at h0 <;> first | rfl | cases h0
        rw [this] at k
        exact s_ret ev_c fun H3 e3 => k H3 ((e1.trans e2).trans e3)
      · rw [st_split] at k
        have h123 : (decide ((0 : Int) ∈ ns) && !decide ((t.length : Int) ∈ ns) && (ns.all fun m => decide (0 ≤ m) && decide (m ≤ (t.length : Int)))) = true := by
          cases h1 : decide ((0 : Int) ∈ ns) <;> cases h2 : decide ((t.length : Int) ∈ ns) <;> cases h3 : (ns.all fun m => decide (0 ≤ m) && decide (m ≤ (t.length : Int))) <;> rw [h1, h2, h3] at h0 <;> first | rfl | cases h0
        rw [h123, Bool.true_and] at k
        have hrng : ∀ m ∈ ns, 0 ≤ m ∧ m ≤ (t.length : Int) := fun m hm => by
          rw [Bool.and_eq_true] at h123
          have := List.all_eq_true.mp h123.2 m hm
          simpa using this
        have ex2 := e1.trans e2
        refine q_forLn (a := l) (xs := ns.map V.int) (gl _ _ ex2 rfl) (ex_l ex2 hsl) (fun i σ' H' => ∃ s3, Ex H H' ∧ (ns.take i).all (stWords ws ns t) = true ∧ σ' = [some (.ref p), some (tx t), some (.ref o), s3, none, none])
          (fun H3 e3 => ⟨_, ex2.trans e3, rfl, rfl⟩) (fun i σ' H' _ hP => by obtain ⟨_, e, _⟩ := hP; exact ex_l e hsl) (fun i x σ' H' hi hP => ?_) (fun σ' H' hP => ?_)
        · obtain ⟨s3, ex, hall, rfl⟩ := hP
          have hil : i < ns.length := by
            have := (List.getElem?_eq_some_iff.mp hi).1
            rwa [List.length_map] at this
          have hmi : ns[i]? = some ns[i] := List.getElem?_eq_getElem hil
          have hx : x = .int ns[i] := by
            rw [List.getElem?_map, hmi] at hi
            exact (Option.some.inj hi).symm
          subst hx
          have hmem : ns[i] ∈ ns := List.getElem_mem hil
          generalize ns[i] = m at *
          have hm0 := (hrng m hmem).1
          have em : m = ((m.toNat : Nat) : Int) := by omega
          refine s_when (b := !(stWords ws ns t m)) (et_test (ev_is (ev_any (el_mapB (φ := tx) (g := fun a : Wd => standsB a t m.toNat && !decide (m + (a.length : Int) ∈ ns)) (ev_var rfl) (hc.ex ex).sq (by have := hc.len; omega) (fun _ => rfl) fun a ha => ?_)) (congrArg V.bl ?_))) (fun hs H3 e3 => ?_) (fun hs H3 e3 => ?_)
          · have hal := hbl a ha
            exact ev_andV (ev_call (vs := [tx a, tx t, .int ((m.toNat : Nat) : Int)]) (by rw [← em]; walk_at "ea") (sv_stands (by omega) (by omega))) fun _ => ev_niI (ev_op (x := .int m) (ev_var rfl) (ev_lenS (ev_var rfl) (by omega)) rv_add) (gl _ _ ex rfl) (ex_l ex hsl)
          · rw [List.any_map]
            unfold stWords
            rw [List.not_all_eq_any_not]
            congr 1
            funext a
            simp
          · have : ns.all (stWords ws ns t) = false := by
              rw [List.all_eq_false]
              exact ⟨m, hmem, by simpa using hs⟩
            rw [this] at k
            exact s_ret ev_c fun H4 e4 => k H4 ((ex.trans e3).trans e4)
          · exact ⟨some (.int m), ex.trans e3, all_take hmi hall (by simpa using hs), rfl⟩
        · obtain ⟨s3, ex, hall, rfl⟩ := hP
          rw [List.length_map, List.take_length] at hall
          rw [hall] at k
          exact s_ret ev_c fun H4 e4 => k H4 (ex.trans e4)
/-- the law: True, whatever the script -/
def spLaw (K : PySem.W.Frag) : Sp := fun vs H Q _ => ∃ (s : Addr) (ns : List Int), vs = [.ref s] ∧ SqL K H s (ns.map V.int) ∧ ns.length ≤ 63 ∧ ∀ H', Ex H H' → Q (.bl true) H'
theorem st_after {ws : List Wd} {ns : List Int} {s : Wd} {b : Bool} : showsV b ws (ns ++ [if b then (ws.length : Int) else (s.length : Int)]) s = false := by
  cases b with
  | true =>
    show rdShows ws (ns ++ [(ws.length : Int)]) s = false
    unfold rdShows inR
    rw [List.all_append]
    simp
  | false =>
    show stShows ws (ns ++ [(s.length : Int)]) s = false
    unfold stShows
    have : decide ((s.length : Int) ∈ ns ++ [(s.length : Int)]) = true := decide_eq_true (by simp)
    rw [this]; simp
theorem ok_law {f : Addr} {fd : FuncData} {aRd aSt aAns aCl aTl : Addr} (F : Fun K "law" "law" s_law f fd) (T : Blt mg) (G_Reading : mg "Reading" = some (.ref aRd)) (G_Stuck : mg "Stuck" = some (.ref aSt)) (G_Answer : mg "Answer" = some (.ref aAns)) (G_Clash : mg "Clash" = some (.ref aCl)) (G_Tails : mg "Tails" = some (.ref aTl)) (AK : AnsK K aRd aSt aAns aCl aTl)
    (C__law_code : Cal P w K mg base 1 "_law_code" (spLawCode K)) (C__law_text : Cal P w K mg base 1 "_law_text" (spLawText K)) (C_how_many : Cal P w K mg base 3 "how_many" (spHowMany K)) (C__law_due : Cal P w K mg base 2 "_law_due" (spLawDue K aRd aSt)) (C__law_numbers : Cal P w K mg base 1 "_law_numbers" (spLawNumbers K))
    (C_read : Cal P w K mg base 3 "read" (spRead K aRd aSt)) (C_text_of : Cal P w K mg base 3 "text_of" (spTextOf K)) (M_Reading_shows : MCal P w K mg base 2 aRd "shows" (spRdShows K aRd)) (M_Stuck_shows : MCal P w K mg base 2 aSt "shows" (spStShows K aSt)) :
    FnOk P w K mg base (L2N.CX P w) 4 f fd ["_law_script"] (spLaw K) := by
  refine fnok_of F sc_law (fun vs H Q E h => ?_) (fun f cdv A outer s H vs Q E hr h => ?_)
  · obtain ⟨p, ns, rfl, _⟩ := h; rfl
  · obtain ⟨s2, ns0, rfl, hs, hn, k⟩ := h
    refine ⟨_, (pss_cons (ps_set (i := 1) sc_law.nd rfl (.inl rfl) (pe_c C__law_code hr (by decide) (by rfl) (pa_cons (pv 0) pa_nil)))
      (pss_cons (ps_set (i := 2) sc_law.nd rfl (.inl rfl) (pe_c C__law_text hr (by decide) (by rfl) (pa_cons (pv 1) (pa_cons (pv 0) pa_nil))))
      (pss_cons (ps_set (i := 3) sc_law.nd rfl (.inl rfl) (pe_callTy (call_list_ofK (K := K) rfl) (by rfl) T.list (by decide +kernel) (pa_cons (pv 1) pa_nil)))
      (pss_cons (ps_for PassesOwn.never rfl (pi_listK (K := K) rfl (pe_lst (pa_cons (pv 2) (pa_cons (pe_slice sl_str (pv 2) (po_some pe_int) po_none) (pa_cons (pe_op op_add_str (pv 2) (pv 2)) (pa_cons pe_str (pa_cons (pv 2) pa_nil))))))) (pg_name (i := 4) sc_law.nd rfl (.inl rfl)) (pss_cons (ps_set (i := 5) sc_law.nd rfl (.inl rfl) (pe_c C_read hr (by decide) (by rfl) (pa_cons (pv 3) (pa_cons (pv 4) pa_nil))))
      (pss_cons (ps_if (PW.pt (pw_or (pt_not (pt_val (pe_callB (call_isiK' (K := K) rfl) (by rfl) T.isinstance (by decide +kernel) (pa_cons (pv 5) (pa_cons (pe_exc (mg := mg) rfl G_Answer (by rfl)) pa_nil))))) (pw_or (pt_cmpR op_eq (pe_callB (call_isiK' (K := K) rfl) (by rfl) T.isinstance (by decide +kernel) (pa_cons (pv 5) (pa_cons (pe_exc (mg := mg) rfl G_Reading (by rfl)) pa_nil))) (pe_callB (call_isiK' (K := K) rfl) (by rfl) T.isinstance (by decide +kernel) (pa_cons (pv 5) (pa_cons (pe_exc (mg := mg) rfl G_Stuck (by rfl)) pa_nil))) (nomark _)) (pw_or1 (pt_cmpR (op_neDK (K := K) rfl hr.units) (pv 3) (pv 1) (nomark _)))))) (pss_one (ps_ret pe_bl)) pss_nil)
      (pss_cons (ps_if (PW.pt (pw_or (pt_val (pe_callB (call_isiK' (K := K) rfl) (by rfl) T.isinstance (by decide +kernel) (pa_cons (pv 5) (pa_cons (pe_exc (mg := mg) rfl G_Clash (by rfl)) pa_nil)))) (pw_or1 (pt_val (pe_callB (call_isiK' (K := K) rfl) (by rfl) T.isinstance (by decide +kernel) (pa_cons (pv 5) (pa_cons (pe_exc (mg := mg) rfl G_Tails (by rfl)) pa_nil))))))) (pss_one (ps_ret pe_bl)) pss_nil)
      (pss_cons (ps_if (pt_cmpR op_ne (pe_cmpR op_gt (pe_c C_how_many hr (by decide) (by rfl) (pa_cons (pv 1) (pa_cons (pv 4) pa_nil))) pe_int (nomark _)) (pe_callB (call_isiK' (K := K) rfl) (by rfl) T.isinstance (by decide +kernel) (pa_cons (pv 5) (pa_cons (pe_exc (mg := mg) rfl G_Reading (by rfl)) pa_nil))) (nomark _)) (pss_one (ps_ret pe_bl)) pss_nil)
      (pss_cons (ps_if (PW.pt (pw_or (pt_not (pt_val (pe_c C__law_due hr (by decide) (by rfl) (pa_cons (pv 1) (pa_cons (pv 4) (pa_cons (pv 5) pa_nil)))))) (pw_or1 (pt_cmpR op_notBl (pe_alt (pe_mth M_Reading_shows hr (by decide) (pv 5) (pa_cons (pv 1) (pa_cons (pv 4) pa_nil))) (pe_mth M_Stuck_shows hr (by decide) (pv 5) (pa_cons (pv 1) (pa_cons (pv 4) pa_nil)))) pe_bl (nomark _))))) (pss_one (ps_ret pe_bl)) pss_nil)
      (pss_cons (ps_if (pt_cmpR op_ne (pe_alt (pe_mth M_Reading_shows hr (by decide) (pv 5) (pa_cons (pv 1) (pa_cons (pe_revS (pv 2)) pa_nil))) (pe_mth M_Stuck_shows hr (by decide) (pv 5) (pa_cons (pv 1) (pa_cons (pe_revS (pv 2)) pa_nil)))) (pe_c C__law_due hr (by decide) (by rfl) (pa_cons (pv 1) (pa_cons (pe_revS (pv 2)) (pa_cons (pv 5) pa_nil)))) (nomark _)) (pss_one (ps_ret pe_bl)) pss_nil)
      (pss_cons (ps_if (pt_val (pe_callB (call_isiK' (K := K) rfl) (by rfl) T.isinstance (by decide +kernel) (pa_cons (pv 5) (pa_cons (pe_exc (mg := mg) rfl G_Reading (by rfl)) pa_nil)))) (pss_cons (ps_if (PW.pt (pw_or (pt_not (pt_val (pe_c C__law_numbers hr (by decide) (by rfl) (pa_cons (pe_fldK (K := K) rfl (pv 5)) pa_nil)))) (pw_or1 (pt_cmpR op_ne (pe_c C_text_of hr (by decide) (by rfl) (pa_cons (pv 1) (pa_cons (pe_fldK (K := K) rfl (pv 5)) pa_nil))) (pv 4) (nomark _))))) (pss_one (ps_ret pe_bl)) pss_nil)
      (pss_one (ps_expr (pe_bm PySem.F.plainAttrs_list PySem.F.slot_list_append PySem.F.type_list_append mt_append (pe_fldK (K := K) rfl (pv 5)) (pa_cons (pe_callB (call_len_seqK (K := K) rfl) (by rfl) T.len (by decide +kernel) (pa_cons (pv 1) pa_nil)) pa_nil))))) (pss_cons (ps_if (pt_not (pt_val (pe_c C__law_numbers hr (by decide) (by rfl) (pa_cons (pe_fldK (K := K) rfl (pv 5)) pa_nil)))) (pss_one (ps_ret pe_bl)) pss_nil)
      (pss_one (ps_expr (pe_bm PySem.F.plainAttrs_list PySem.F.slot_list_append PySem.F.type_list_append mt_append (pe_fldK (K := K) rfl (pv 5)) (pa_cons (pe_callB call_len_str (by rfl) T.len (by decide +kernel) (pa_cons (pv 4) pa_nil)) pa_nil))))))
      (pss_one (ps_if (pt_cmpR op_notBl (pe_alt (pe_mth M_Reading_shows hr (by decide) (pv 5) (pa_cons (pv 1) (pa_cons (pv 4) pa_nil))) (pe_mth M_Stuck_shows hr (by decide) (pv 5) (pa_cons (pv 1) (pa_cons (pv 4) pa_nil)))) pe_bl (nomark _)) (pss_one (ps_ret pe_bl)) pss_nil))))))))))
      (pss_one (ps_ret (pe_cmpR (op_eqDK (K := K) rfl hr.units) (pv 3) (pv 1) (nomark _)))))))), ?_⟩
    have hwo := codeOf_ok hn
    generalize hws : codeOf ns0 = ws at *
    obtain ⟨ht, ho⟩ := textOf_ok hwo ns0
    generalize hte : textOf ws ns0 = t at *
    have hbl : ∀ a ∈ ws, a.length ≤ 1000 := fun a ha => by have := (hwo.ok a ha).2.2; omega
    have hne : ∀ a ∈ ws, a ≠ [] := fun a ha => (hwo.ok a ha).1
    refine q_asgL (xs := ws.map tx) (by rw [← hws]; exact el_call (by walk_at "ea") (sl_law_code hs hn)) fun p H1 np e1 hp => ?_
    refine q_asg (v := tx t) (by rw [← hte]; exact ev_call (by walk_at "ea") (sv_law_text (sq_of hp) (ex_l e1 hs) hwo hn)) fun H2 e2 => ?_
    refine q_asgL (xs := ws.map tx) (ev_listOf (ev_var rfl) (sq_of (e2 p _ hp))) fun hd H3 nhd e3 hhd => ?_
    have ex3 := (e1.trans e2).trans e3
    have hp3 := (e2.trans e3) p _ hp
    have hokC : ∀ a ∈ ws, okC a := fun a ha => okC_of (hwo.ok a ha).2.1
    refine q_forNLn (xs := ([t, t.drop 1, t ++ t, [], t] : List Wd).map tx) (el_lst (ea_cons (ev_var rfl) (ea_cons (ev_is (ev_slS (lo := some ((1 : Nat) : Int)) (ev_var rfl) (eo_some ev_c) eo_none (by omega)) (congrArg tx (cut_from t 1))) (ea_cons (ev_op (ev_var rfl) (ev_var rfl) (rv_addS (by omega))) (ea_cons (ev_is ev_cS (congrArg tx codes_nil)) (ea_cons (ev_var rfl) ea_nil))))) (by simp))
      (fun pl i σ' H' => ∃ s4 s5, Ex H3 H' ∧ H' pl = some (.lst (([t, t.drop 1, t ++ t, [], t] : List Wd).map tx)) ∧ σ' = [some (.ref s2), some (.ref p), some (tx t), some (.ref hd), s4, s5])
      (fun pl H4 npl e4 h4 => ⟨_, _, e4, h4, rfl⟩) (fun pl i σ' H' _ hP => by obtain ⟨_, _, _, h, _⟩ := hP; exact sq_of h) (fun pl i x σ' H' hi hP => ?_) (fun pl σ' H' hP => ?_)
    · obtain ⟨s4, s5, ex, hpl, rfl⟩ := hP
      obtain ⟨so, hso, rfl⟩ : ∃ so, so ∈ ([t, t.drop 1, t ++ t, [], t] : List Wd) ∧ x = tx so := by
        have := List.mem_of_getElem? hi
        obtain ⟨so, h1, h2⟩ := List.mem_map.mp this
        exact ⟨so, h1, h2.symm⟩
      have hsok : so.length ≤ 5000 ∧ okW so := by
        simp only [List.mem_cons, List.not_mem_nil, or_false] at hso
        rcases hso with rfl | rfl | rfl | rfl | rfl
        · exact ⟨by omega, ho⟩
        · exact ⟨by rw [List.length_drop]; omega, fun c hc => ho c (List.mem_of_mem_drop hc)⟩
        · exact ⟨by rw [List.length_append]; omega, fun c hc => by rcases List.mem_append.mp hc with h | h <;> exact ho c h⟩
        · exact ⟨by simp, by simp [okW]⟩
        · exact ⟨by omega, ho⟩
      obtain ⟨hsl, hsw⟩ := hsok
      have hcp := hwo.at (K := K) (by decide) (sq_of (ex p _ hp3))
      have hch := hwo.at (K := K) (by decide) (sq_of (ex hd _ hhd))
      refine q_asgX (call_run (vs := [.ref hd, tx so]) (by walk_at "ea") fun H5 e5 => ⟨hd, ws, so, rfl, hch.ex e5, hsl, hsw, fun o l b ns H6 hb no nl hlo e6 hA hsv hnl => ?_⟩)
      have ex6 := e5.trans e6
      have hcp6 := hcp.ex ex6
      have hch6 := hch.ex ex6
      have hjb : b = true → inR ws.length ns = true → (joinW ws (ns.map Int.toNat)).length ≤ 100000 := fun hb1 _ => by
        rw [hb1] at hsv
        have h1 : rdShows ws ns so = true := hsv
        unfold rdShows at h1
        rw [Bool.and_eq_true] at h1
        rw [of_decide_eq_true h1.2]; omega
      -- what is told of the answer, wherever nothing was written since
      have gis : ∀ (X : Addr) (r : Bool) (σ : L2.St) (H' : Hp), Ex H6 H' → σ[5]? = some (some (.ref o)) → PySem.W.kitOne K (.ref (if b then aRd else aSt)) (.ref X) = some r → Ev (tCB (rIsi K) (tCons (tVar 5) (tCons (tC (.ref X)) tNil))) σ H' (.bl r) := fun X r σ H' e h5 hk =>
        ev_isC (ev_var h5) ev_c ((hA.ex e).ty (AK.cl b)) hk
      have hgen : ∀ (H' : Hp) (σ : L2.St) (ts : TE) (ns' : List Int) (u : Wd), CodeAt K H' p ws → AnsAt aRd aSt b H' o l ns' → ns'.length ≤ 6000 → u.length ≤ 5000 → (b = true → inR ws.length ns' = true → (joinW ws (ns'.map Int.toNat)).length ≤ 100000) → σ[5]? = some (some (.ref o)) → σ[1]? = some (some (.ref p)) → Ev ts σ H' (tx u) →
          Ev (tAlt (tMeth aRd "shows" (spRdShows K aRd) [] E0 (tVar 5) (tCons (tVar 1) (tCons ts tNil))) (tMeth aSt "shows" (spStShows K aSt) [] E0 (tVar 5) (tCons (tVar 1) (tCons ts tNil)))) σ H' (.bl (showsV b ws ns' u)) := fun H' σ ts ns' u hc' hA' hl' hu' hj' h5 h1 hts => by
        obtain ⟨⟨dx, hob⟩, hal⟩ := hA'
        cases b with
        | true => exact ev_altL (ev_mth (ev_var h5) hob (look_no (by decide +kernel)) (ea_cons (ev_var h1) (ea_cons hts ea_nil)) fun H7 e7 Q' q' _ => ⟨o, l, p, dx, ws, ns', u, rfl, e7 o _ hob, sq_of (e7 l _ hal), (hc'.ex e7).sq, hbl, hl', hj' rfl, q'⟩)
        | false => exact ev_altR (ev_mth (ev_var h5) hob (look_no (by decide +kernel)) (ea_cons (ev_var h1) (ea_cons hts ea_nil)) fun H7 e7 Q' q' _ => ⟨o, l, p, dx, ws, ns', u, rfl, e7 o _ hob, sq_of (e7 l _ hal), (hc'.ex e7).sq, hbl, by omega, q'⟩)
      refine q_skip (et_is (et_or (et_not (et_test (gis aAns true _ _ (Ex.refl _) rfl (AK.isA b)))) fun _ => et_or (et_test (ev_op (gis aRd b _ _ (Ex.refl _) rfl (AK.isR b)) (gis aSt (!b) _ _ (Ex.refl _) rfl (AK.isS b)) rv_eqB)) fun _ => et_B (ev_neQ enc_tx (eq_at (ev_var rfl) hch6.sq) (eq_at (ev_var rfl) hcp6.sq) hokC hokC)) (by cases b <;> simp)) fun H7 e7 => ?_
      refine q_skip (et_is (et_or (et_test (gis aCl false _ _ e7 rfl (AK.isC b))) fun _ => et_test (gis aTl false _ _ e7 rfl (AK.isT b))) rfl) fun H8 e8 => ?_
      have ex8 := e7.trans e8
      have hcp8 := hcp6.ex ex8
      refine q_skip (et_is (et_test (ev_op (ev_op (x := nI (ways ws so)) (ev_call (vs := [.ref p, tx so]) (by walk_at "ea") (sv_how_many hcp8 hsl hsw)) ev_c rv_gt) (gis aRd b _ _ ex8 rfl (AK.isR b)) rv_neB)) ?_) fun H9 e9 => ?_
      · rw [hb]
        by_cases hz : ways ws so = 0
        · simp [hz]
        · have : (0 : Int) < ((ways ws so : Nat) : Int) := by omega
          rw [decide_eq_true this, decide_eq_false hz]; rfl
      have ex9 := ex8.trans e9
      have hcp9 := hcp8.ex e9
      have hA9 := hA.ex ex9
      refine q_skip (et_is (et_or (et_not (et_test (ev_call (vs := [.ref p, tx so, .ref o]) (by walk_at "ea") (sv_law_due hcp9 hsl hA9 (by omega) hjb)))) fun _ => et_B (ev_op (hgen _ _ _ ns so hcp9 hA9 (by omega) hsl hjb rfl rfl (ev_var rfl)) ev_c rv_notB)) (by rw [hsv]; rfl)) fun H10 e10 => ?_
      have hcp10 := hcp9.ex e10
      have hA10 := hA9.ex e10
      have hrl : t.reverse.length ≤ 5000 := by rw [List.length_reverse]; omega
      refine q_skip (et_is (et_test (ev_op (hgen _ _ _ ns t.reverse hcp10 hA10 (by omega) hrl hjb rfl rfl (ev_revS (ev_var rfl) (by omega))) (ev_call (vs := [.ref p, tx t.reverse, .ref o]) (ea_cons (ev_var rfl) (ea_cons (ev_revS (ev_var rfl) (by omega)) (ea_cons (ev_var rfl) ea_nil))) (sv_law_due hcp10 hrl hA10 (by omega) hjb)) rv_neB)) (by simp)) fun H11 e11 => ?_
      have ex11 := (ex9.trans e10).trans e11
      have hA11 := hA.ex ex11
      have hcp11 := hcp6.ex ex11
      -- the end of the turn, where the list at l has one more
      have exH : Ex H' H11 := ex6.trans ex11
      have nl0 : H' l = none := fresh_back e5 nl
      have h3l : H3 l = none := fresh_back ex nl0
      refine q_ifTo (l := l) (xs := ns.map V.int) (z := .int (if b then (ws.length : Int) else (so.length : Int))) (gis aRd b _ _ ex11 rfl (AK.isR b) |> et_test) (fun H12 e12 => ?_) (fun hb1 fin H12 e12 => ?_) (fun hb1 fin H12 e12 => ?_)
      · have nlp : p ≠ l := fun z => by rw [← z, hp3] at h3l; cases h3l
        have nlpl : pl ≠ l := fun z => by rw [← z, hpl] at nl0; cases nl0
        have hcE : CodeAt K (upd H12 l (.lst (ns.map V.int ++ [.int (if b then (ws.length : Int) else (so.length : Int))]))) p ws := hwo.at (by decide) (sq_of (by rw [upd_ne nlp]; exact ((ex.trans exH).trans e12) p _ hp3))
        have hAE : AnsAt aRd aSt b (upd H12 l (.lst (ns.map V.int ++ [.int (if b then (ws.length : Int) else (so.length : Int))]))) o l (ns ++ [if b then (ws.length : Int) else (so.length : Int)]) := by
          obtain ⟨⟨dx, hob⟩, hal⟩ := hA11.ex e12
          refine ⟨⟨dx, by rw [upd_ne (Ne.symm hlo)]; exact hob⟩, ?_⟩
          rw [upd_same, List.map_append]; rfl
        have hjE : b = true → inR ws.length (ns ++ [if b then (ws.length : Int) else (so.length : Int)]) = true → (joinW ws ((ns ++ [if b then (ws.length : Int) else (so.length : Int)]).map Int.toNat)).length ≤ 100000 := fun hb1 hin => by
          exfalso
          rw [hb1] at hin
          unfold inR at hin
          rw [List.all_append] at hin
          simp at hin
        refine snx_run (snx_skip (et_is (et_B (ev_op (hgen _ _ _ _ so hcE hAE (by rw [List.length_append, List.length_singleton]; omega) hsl hjE rfl rfl (ev_var rfl)) ev_c rv_notB)) (by rw [st_after]; rfl))) fun H13 e13 => ⟨_, _, (Ex.mut ((ex.trans exH).trans e12) h3l).trans e13, e13 _ _ (by rw [upd_ne nlpl]; exact (exH.trans e12) _ _ hpl), rfl⟩
      · subst hb1
        obtain ⟨⟨dx, hob⟩, hal⟩ := hA11.ex e12
        have gl : ∀ (H' : Hp) (σ : L2.St), Ex H12 H' → σ[5]? = some (some (.ref o)) → Ev (tFld K (tVar 5) "places") σ H' (.ref l) := fun H' σ e h0 => ev_fld (ev_var h0) (e o _ hob) (AK.cl true).cl AK.nR (look1 _ _)
        have h1 : rdShows ws ns so = true := hsv
        unfold rdShows at h1
        rw [Bool.and_eq_true] at h1
        have hjo := of_decide_eq_true h1.2
        have hcp12 := hcp11.ex e12
        have e9 : (((ws.map tx).length : Nat) : Int) = (ws.length : Int) := by rw [List.length_map]
        refine q_skip (et_is (et_or (et_not (et_test (ev_call (vs := [.ref l]) (ea_cons (gl _ _ (Ex.refl _) rfl) ea_nil) (sv_law_numbers (sq_of hal) (by omega))))) fun _ => et_test (ev_op (ev_call (vs := [.ref p, .ref l]) (ea_cons (ev_var rfl) (ea_cons (gl _ _ (Ex.refl _) rfl) ea_nil)) (sv_text_of hcp12 (sq_of hal) (by omega) h1.1 (by rw [hjo]; omega))) (ev_var rfl) rv_neS)) (by rw [hjo]; simp)) fun H13 e13 => ?_
        refine s_app (l := l) (xs := ns.map V.int) (v := .int (ws.length : Int)) (e13 l _ hal) (gl _ _ e13 rfl) (by rw [← e9]; exact ev_len' (ev_var rfl) (hcp12.ex e13).sq) (by rw [List.length_map]; omega) fun H14 e14 => ?_
        exact fin H14 ((e12.trans e13).trans e14)
      · subst hb1
        obtain ⟨⟨dx, hob⟩, hal⟩ := hA11.ex e12
        have gl : ∀ (H' : Hp) (σ : L2.St), Ex H12 H' → σ[5]? = some (some (.ref o)) → Ev (tFld K (tVar 5) "marks") σ H' (.ref l) := fun H' σ e h0 => ev_fld (ev_var h0) (e o _ hob) (AK.cl false).cl AK.nS (look1 _ _)
        refine q_skip (et_is (et_not (et_test (ev_call (vs := [.ref l]) (ea_cons (gl _ _ (Ex.refl _) rfl) ea_nil) (sv_law_numbers (sq_of hal) (by omega))))) rfl) fun H13 e13 => ?_
        refine s_app (l := l) (xs := ns.map V.int) (v := .int (so.length : Int)) (e13 l _ hal) (gl _ _ e13 rfl) (ev_lenS (ev_var rfl) (by omega)) (by rw [List.length_map]; omega) fun H14 e14 => ?_
        exact fin H14 ((e12.trans e13).trans e14)
    · obtain ⟨s4, s5, ex, hpl, rfl⟩ := hP
      refine s_ret (ev_is (ev_eqQ enc_tx (eq_at (ev_var rfl) (sq_of (ex hd _ hhd))) (eq_at (ev_var rfl) (sq_of (ex p _ hp3))) hokC hokC) (by simp)) fun H4 e4 => k H4 ((ex3.trans ex).trans e4)
end
end Tr


set_option Elab.async false
set_option linter.all false
set_option maxRecDepth 100000
set_option maxHeartbeats 4000000
namespace Tr
open PySem PySem.Spec PyProof.Rows L2 Evl
section
theorem all_mk {l : PySem.W.OpenLaw} {w : World} {K : PySem.W.Frag} {h : Heap} {mg : Str → Option Value} {fa : Addr} (X : K.In h) (G : h.Ns mainGlobals mg) (hfa : mg "law" = some (.ref fa))
    {f_stands : Addr} {od_stands an_stands : Option Addr} {sl_stands : Array (Option Value)} {oc_stands kV_stands dc_stands pm_stands cd_stands ct_stands : Value}
    {f_is_number : Addr} {od_is_number an_is_number : Option Addr} {sl_is_number : Array (Option Value)} {oc_is_number kV_is_number dc_is_number pm_is_number cd_is_number ct_is_number : Value}
    {f_is_text : Addr} {od_is_text an_is_text : Option Addr} {sl_is_text : Array (Option Value)} {oc_is_text kV_is_text dc_is_text pm_is_text cd_is_text ct_is_text : Value}
    {f_asked_code : Addr} {od_asked_code an_asked_code : Option Addr} {sl_asked_code : Array (Option Value)} {oc_asked_code kV_asked_code dc_asked_code pm_asked_code cd_asked_code ct_asked_code : Value}
    {f_asked_text : Addr} {od_asked_text an_asked_text : Option Addr} {sl_asked_text : Array (Option Value)} {oc_asked_text kV_asked_text dc_asked_text pm_asked_text cd_asked_text ct_asked_text : Value}
    {f_joined : Addr} {od_joined an_joined : Option Addr} {sl_joined : Array (Option Value)} {oc_joined kV_joined dc_joined pm_joined cd_joined ct_joined : Value}
    {f_are_places : Addr} {od_are_places an_are_places : Option Addr} {sl_are_places : Array (Option Value)} {oc_are_places kV_are_places dc_are_places pm_are_places cd_are_places ct_are_places : Value}
    {f_table_of : Addr} {od_table_of an_table_of : Option Addr} {sl_table_of : Array (Option Value)} {oc_table_of kV_table_of dc_table_of pm_table_of cd_table_of ct_table_of : Value}
    {f_nth : Addr} {od_nth an_nth : Option Addr} {sl_nth : Array (Option Value)} {oc_nth kV_nth dc_nth pm_nth cd_nth ct_nth : Value}
    {f_how_many : Addr} {od_how_many an_how_many : Option Addr} {sl_how_many : Array (Option Value)} {oc_how_many kV_how_many dc_how_many pm_how_many cd_how_many ct_how_many : Value}
    {f_marks_of : Addr} {od_marks_of an_marks_of : Option Addr} {sl_marks_of : Array (Option Value)} {oc_marks_of kV_marks_of dc_marks_of pm_marks_of cd_marks_of ct_marks_of : Value}
    {f_read : Addr} {od_read an_read : Option Addr} {sl_read : Array (Option Value)} {oc_read kV_read dc_read pm_read cd_read ct_read : Value}
    {f_text_of : Addr} {od_text_of an_text_of : Option Addr} {sl_text_of : Array (Option Value)} {oc_text_of kV_text_of dc_text_of pm_text_of cd_text_of ct_text_of : Value}
    {f__law_code : Addr} {od__law_code an__law_code : Option Addr} {sl__law_code : Array (Option Value)} {oc__law_code kV__law_code dc__law_code pm__law_code cd__law_code ct__law_code : Value}
    {f__law_stands : Addr} {od__law_stands an__law_stands : Option Addr} {sl__law_stands : Array (Option Value)} {oc__law_stands kV__law_stands dc__law_stands pm__law_stands cd__law_stands ct__law_stands : Value}
    {f__law_numbers : Addr} {od__law_numbers an__law_numbers : Option Addr} {sl__law_numbers : Array (Option Value)} {oc__law_numbers kV__law_numbers dc__law_numbers pm__law_numbers cd__law_numbers ct__law_numbers : Value}
    {f__law_text : Addr} {od__law_text an__law_text : Option Addr} {sl__law_text : Array (Option Value)} {oc__law_text kV__law_text dc__law_text pm__law_text cd__law_text ct__law_text : Value}
    {f__law_due : Addr} {od__law_due an__law_due : Option Addr} {sl__law_due : Array (Option Value)} {oc__law_due kV__law_due dc__law_due pm__law_due cd__law_due ct__law_due : Value}
    {f_law : Addr} {od_law an_law : Option Addr} {sl_law : Array (Option Value)} {oc_law kV_law dc_law pm_law cd_law ct_law : Value}
    {aAns : Addr}
    {aCl : Addr}
    {aTl : Addr}
    {aRd : Addr}
    {aSt : Addr}
    {f_Reading___init__ : Addr} {od_Reading___init__ an_Reading___init__ : Option Addr} {sl_Reading___init__ : Array (Option Value)} {oc_Reading___init__ kV_Reading___init__ dc_Reading___init__ pm_Reading___init__ cd_Reading___init__ ct_Reading___init__ : Value}
    {f_Reading_shows : Addr} {od_Reading_shows an_Reading_shows : Option Addr} {sl_Reading_shows : Array (Option Value)} {oc_Reading_shows kV_Reading_shows dc_Reading_shows pm_Reading_shows cd_Reading_shows ct_Reading_shows : Value}
    {f_Stuck___init__ : Addr} {od_Stuck___init__ an_Stuck___init__ : Option Addr} {sl_Stuck___init__ : Array (Option Value)} {oc_Stuck___init__ kV_Stuck___init__ dc_Stuck___init__ pm_Stuck___init__ cd_Stuck___init__ ct_Stuck___init__ : Value}
    {f_Stuck_shows : Addr} {od_Stuck_shows an_Stuck_shows : Option Addr} {sl_Stuck_shows : Array (Option Value)} {oc_Stuck_shows kV_Stuck_shows dc_Stuck_shows pm_Stuck_shows cd_Stuck_shows ct_Stuck_shows : Value}
    {tL : Tok}
    (a_stands : PySem.W.nsIn K mainGlobals "stands" = some (some (.ref f_stands)))
    (l_stands : K.lookup f_stands = some ⟨oc_stands, od_stands, .func (PySem.W.fnOf "stands" "stands" (defArgs s_stands) (defBody s_stands) (defScope s_stands) .none kV_stands dc_stands pm_stands an_stands cd_stands ct_stands), sl_stands⟩)
    (c_stands : PySem.W.codeIn K cd_stands "stands" = true)
    (k_stands : PySem.W.keepIn K (.ref f_stands) = true)
    (a_is_number : PySem.W.nsIn K mainGlobals "is_number" = some (some (.ref f_is_number)))
    (l_is_number : K.lookup f_is_number = some ⟨oc_is_number, od_is_number, .func (PySem.W.fnOf "is_number" "is_number" (defArgs s_is_number) (defBody s_is_number) (defScope s_is_number) .none kV_is_number dc_is_number pm_is_number an_is_number cd_is_number ct_is_number), sl_is_number⟩)
    (c_is_number : PySem.W.codeIn K cd_is_number "is_number" = true)
    (k_is_number : PySem.W.keepIn K (.ref f_is_number) = true)
    (a_is_text : PySem.W.nsIn K mainGlobals "is_text" = some (some (.ref f_is_text)))
    (l_is_text : K.lookup f_is_text = some ⟨oc_is_text, od_is_text, .func (PySem.W.fnOf "is_text" "is_text" (defArgs s_is_text) (defBody s_is_text) (defScope s_is_text) .none kV_is_text dc_is_text pm_is_text an_is_text cd_is_text ct_is_text), sl_is_text⟩)
    (c_is_text : PySem.W.codeIn K cd_is_text "is_text" = true)
    (k_is_text : PySem.W.keepIn K (.ref f_is_text) = true)
    (a_asked_code : PySem.W.nsIn K mainGlobals "asked_code" = some (some (.ref f_asked_code)))
    (l_asked_code : K.lookup f_asked_code = some ⟨oc_asked_code, od_asked_code, .func (PySem.W.fnOf "asked_code" "asked_code" (defArgs s_asked_code) (defBody s_asked_code) (defScope s_asked_code) .none kV_asked_code dc_asked_code pm_asked_code an_asked_code cd_asked_code ct_asked_code), sl_asked_code⟩)
    (c_asked_code : PySem.W.codeIn K cd_asked_code "asked_code" = true)
    (k_asked_code : PySem.W.keepIn K (.ref f_asked_code) = true)
    (a_asked_text : PySem.W.nsIn K mainGlobals "asked_text" = some (some (.ref f_asked_text)))
    (l_asked_text : K.lookup f_asked_text = some ⟨oc_asked_text, od_asked_text, .func (PySem.W.fnOf "asked_text" "asked_text" (defArgs s_asked_text) (defBody s_asked_text) (defScope s_asked_text) .none kV_asked_text dc_asked_text pm_asked_text an_asked_text cd_asked_text ct_asked_text), sl_asked_text⟩)
    (c_asked_text : PySem.W.codeIn K cd_asked_text "asked_text" = true)
    (k_asked_text : PySem.W.keepIn K (.ref f_asked_text) = true)
    (a_joined : PySem.W.nsIn K mainGlobals "joined" = some (some (.ref f_joined)))
    (l_joined : K.lookup f_joined = some ⟨oc_joined, od_joined, .func (PySem.W.fnOf "joined" "joined" (defArgs s_joined) (defBody s_joined) (defScope s_joined) .none kV_joined dc_joined pm_joined an_joined cd_joined ct_joined), sl_joined⟩)
    (c_joined : PySem.W.codeIn K cd_joined "joined" = true)
    (k_joined : PySem.W.keepIn K (.ref f_joined) = true)
    (a_are_places : PySem.W.nsIn K mainGlobals "are_places" = some (some (.ref f_are_places)))
    (l_are_places : K.lookup f_are_places = some ⟨oc_are_places, od_are_places, .func (PySem.W.fnOf "are_places" "are_places" (defArgs s_are_places) (defBody s_are_places) (defScope s_are_places) .none kV_are_places dc_are_places pm_are_places an_are_places cd_are_places ct_are_places), sl_are_places⟩)
    (c_are_places : PySem.W.codeIn K cd_are_places "are_places" = true)
    (k_are_places : PySem.W.keepIn K (.ref f_are_places) = true)
    (a_table_of : PySem.W.nsIn K mainGlobals "table_of" = some (some (.ref f_table_of)))
    (l_table_of : K.lookup f_table_of = some ⟨oc_table_of, od_table_of, .func (PySem.W.fnOf "table_of" "table_of" (defArgs s_table_of) (defBody s_table_of) (defScope s_table_of) .none kV_table_of dc_table_of pm_table_of an_table_of cd_table_of ct_table_of), sl_table_of⟩)
    (c_table_of : PySem.W.codeIn K cd_table_of "table_of" = true)
    (k_table_of : PySem.W.keepIn K (.ref f_table_of) = true)
    (a_nth : PySem.W.nsIn K mainGlobals "nth" = some (some (.ref f_nth)))
    (l_nth : K.lookup f_nth = some ⟨oc_nth, od_nth, .func (PySem.W.fnOf "nth" "nth" (defArgs s_nth) (defBody s_nth) (defScope s_nth) .none kV_nth dc_nth pm_nth an_nth cd_nth ct_nth), sl_nth⟩)
    (c_nth : PySem.W.codeIn K cd_nth "nth" = true)
    (k_nth : PySem.W.keepIn K (.ref f_nth) = true)
    (a_how_many : PySem.W.nsIn K mainGlobals "how_many" = some (some (.ref f_how_many)))
    (l_how_many : K.lookup f_how_many = some ⟨oc_how_many, od_how_many, .func (PySem.W.fnOf "how_many" "how_many" (defArgs s_how_many) (defBody s_how_many) (defScope s_how_many) .none kV_how_many dc_how_many pm_how_many an_how_many cd_how_many ct_how_many), sl_how_many⟩)
    (c_how_many : PySem.W.codeIn K cd_how_many "how_many" = true)
    (k_how_many : PySem.W.keepIn K (.ref f_how_many) = true)
    (a_marks_of : PySem.W.nsIn K mainGlobals "marks_of" = some (some (.ref f_marks_of)))
    (l_marks_of : K.lookup f_marks_of = some ⟨oc_marks_of, od_marks_of, .func (PySem.W.fnOf "marks_of" "marks_of" (defArgs s_marks_of) (defBody s_marks_of) (defScope s_marks_of) .none kV_marks_of dc_marks_of pm_marks_of an_marks_of cd_marks_of ct_marks_of), sl_marks_of⟩)
    (c_marks_of : PySem.W.codeIn K cd_marks_of "marks_of" = true)
    (k_marks_of : PySem.W.keepIn K (.ref f_marks_of) = true)
    (a_read : PySem.W.nsIn K mainGlobals "read" = some (some (.ref f_read)))
    (l_read : K.lookup f_read = some ⟨oc_read, od_read, .func (PySem.W.fnOf "read" "read" (defArgs s_read) (defBody s_read) (defScope s_read) .none kV_read dc_read pm_read an_read cd_read ct_read), sl_read⟩)
    (c_read : PySem.W.codeIn K cd_read "read" = true)
    (k_read : PySem.W.keepIn K (.ref f_read) = true)
    (a_text_of : PySem.W.nsIn K mainGlobals "text_of" = some (some (.ref f_text_of)))
    (l_text_of : K.lookup f_text_of = some ⟨oc_text_of, od_text_of, .func (PySem.W.fnOf "text_of" "text_of" (defArgs s_text_of) (defBody s_text_of) (defScope s_text_of) .none kV_text_of dc_text_of pm_text_of an_text_of cd_text_of ct_text_of), sl_text_of⟩)
    (c_text_of : PySem.W.codeIn K cd_text_of "text_of" = true)
    (k_text_of : PySem.W.keepIn K (.ref f_text_of) = true)
    (a__law_code : PySem.W.nsIn K mainGlobals "_law_code" = some (some (.ref f__law_code)))
    (l__law_code : K.lookup f__law_code = some ⟨oc__law_code, od__law_code, .func (PySem.W.fnOf "_law_code" "_law_code" (defArgs s__law_code) (defBody s__law_code) (defScope s__law_code) .none kV__law_code dc__law_code pm__law_code an__law_code cd__law_code ct__law_code), sl__law_code⟩)
    (c__law_code : PySem.W.codeIn K cd__law_code "_law_code" = true)
    (k__law_code : PySem.W.keepIn K (.ref f__law_code) = true)
    (a__law_stands : PySem.W.nsIn K mainGlobals "_law_stands" = some (some (.ref f__law_stands)))
    (l__law_stands : K.lookup f__law_stands = some ⟨oc__law_stands, od__law_stands, .func (PySem.W.fnOf "_law_stands" "_law_stands" (defArgs s__law_stands) (defBody s__law_stands) (defScope s__law_stands) .none kV__law_stands dc__law_stands pm__law_stands an__law_stands cd__law_stands ct__law_stands), sl__law_stands⟩)
    (c__law_stands : PySem.W.codeIn K cd__law_stands "_law_stands" = true)
    (k__law_stands : PySem.W.keepIn K (.ref f__law_stands) = true)
    (a__law_numbers : PySem.W.nsIn K mainGlobals "_law_numbers" = some (some (.ref f__law_numbers)))
    (l__law_numbers : K.lookup f__law_numbers = some ⟨oc__law_numbers, od__law_numbers, .func (PySem.W.fnOf "_law_numbers" "_law_numbers" (defArgs s__law_numbers) (defBody s__law_numbers) (defScope s__law_numbers) .none kV__law_numbers dc__law_numbers pm__law_numbers an__law_numbers cd__law_numbers ct__law_numbers), sl__law_numbers⟩)
    (c__law_numbers : PySem.W.codeIn K cd__law_numbers "_law_numbers" = true)
    (k__law_numbers : PySem.W.keepIn K (.ref f__law_numbers) = true)
    (a__law_text : PySem.W.nsIn K mainGlobals "_law_text" = some (some (.ref f__law_text)))
    (l__law_text : K.lookup f__law_text = some ⟨oc__law_text, od__law_text, .func (PySem.W.fnOf "_law_text" "_law_text" (defArgs s__law_text) (defBody s__law_text) (defScope s__law_text) .none kV__law_text dc__law_text pm__law_text an__law_text cd__law_text ct__law_text), sl__law_text⟩)
    (c__law_text : PySem.W.codeIn K cd__law_text "_law_text" = true)
    (k__law_text : PySem.W.keepIn K (.ref f__law_text) = true)
    (a__law_due : PySem.W.nsIn K mainGlobals "_law_due" = some (some (.ref f__law_due)))
    (l__law_due : K.lookup f__law_due = some ⟨oc__law_due, od__law_due, .func (PySem.W.fnOf "_law_due" "_law_due" (defArgs s__law_due) (defBody s__law_due) (defScope s__law_due) .none kV__law_due dc__law_due pm__law_due an__law_due cd__law_due ct__law_due), sl__law_due⟩)
    (c__law_due : PySem.W.codeIn K cd__law_due "_law_due" = true)
    (k__law_due : PySem.W.keepIn K (.ref f__law_due) = true)
    (a_law : PySem.W.nsIn K mainGlobals "law" = some (some (.ref f_law)))
    (l_law : K.lookup f_law = some ⟨oc_law, od_law, .func (PySem.W.fnOf "law" "law" (defArgs s_law) (defBody s_law) (defScope s_law) .none kV_law dc_law pm_law an_law cd_law ct_law), sl_law⟩)
    (c_law : PySem.W.codeIn K cd_law "law" = true)
    (k_law : PySem.W.keepIn K (.ref f_law) = true)
    (g_Answer : PySem.W.nsIn K mainGlobals "Answer" = some (some (.ref aAns)))
    (g_Clash : PySem.W.nsIn K mainGlobals "Clash" = some (some (.ref aCl)))
    (g_Tails : PySem.W.nsIn K mainGlobals "Tails" = some (some (.ref aTl)))
    (g_Reading : PySem.W.nsIn K mainGlobals "Reading" = some (some (.ref aRd)))
    (g_Stuck : PySem.W.nsIn K mainGlobals "Stuck" = some (some (.ref aSt)))
    (e6 : PySem.W.specialIn K (.builtin "object.__class__") "__get__" = some (some (.builtin "getset_descriptor.__get__")))
    (e7 : PySem.W.takesIn K (.builtin "object.__class__") = some true)
    (q1_Reading : PySem.W.plainGet K aRd Str.empty = true)
    (q2_Reading : PySem.W.hasDictIn K aRd = true)
    (q3_Reading : PySem.W.plainOver K aRd = true)
    (q4_Reading : PySem.W.findIn K (.ref aRd) "__setattr__" = some (some (.builtin "object.__setattr__")))
    (q5_Reading : PySem.W.findIn K (.ref aRd) "__class__" = some (some (.builtin "object.__class__")))
    (q6_Reading : PySem.W.mroIn K aRd (.type "object") = some true)
    (q7_Reading : PySem.W.makesIn K aRd = true)
    (q8_Reading : PySem.W.keepIn K (.ref aRd) = true)
    (n_Reading_places : PySem.W.findIn K (.ref aRd) "places" = some none)
    (i_Reading___init__ : PySem.W.findIn K (.ref aRd) "__init__" = some (some (.ref f_Reading___init__)))
    (w_Reading___init__ : PySem.W.isFn K (.ref f_Reading___init__) = true)
    (l_Reading___init__ : K.lookup f_Reading___init__ = some ⟨oc_Reading___init__, od_Reading___init__, .func (PySem.W.fnOf "__init__" "Reading.__init__" (defArgs s_Reading___init__) (defBody s_Reading___init__) (defScope s_Reading___init__) .none kV_Reading___init__ dc_Reading___init__ pm_Reading___init__ an_Reading___init__ cd_Reading___init__ ct_Reading___init__), sl_Reading___init__⟩)
    (c_Reading___init__ : PySem.W.codeIn K cd_Reading___init__ "Reading.__init__" = true)
    (k_Reading___init__ : PySem.W.keepIn K (.ref f_Reading___init__) = true)
    (i_Reading_shows : PySem.W.findIn K (.ref aRd) "shows" = some (some (.ref f_Reading_shows)))
    (w_Reading_shows : PySem.W.isFn K (.ref f_Reading_shows) = true)
    (l_Reading_shows : K.lookup f_Reading_shows = some ⟨oc_Reading_shows, od_Reading_shows, .func (PySem.W.fnOf "shows" "Reading.shows" (defArgs s_Reading_shows) (defBody s_Reading_shows) (defScope s_Reading_shows) .none kV_Reading_shows dc_Reading_shows pm_Reading_shows an_Reading_shows cd_Reading_shows ct_Reading_shows), sl_Reading_shows⟩)
    (c_Reading_shows : PySem.W.codeIn K cd_Reading_shows "Reading.shows" = true)
    (k_Reading_shows : PySem.W.keepIn K (.ref f_Reading_shows) = true)
    (q1_Stuck : PySem.W.plainGet K aSt Str.empty = true)
    (q2_Stuck : PySem.W.hasDictIn K aSt = true)
    (q3_Stuck : PySem.W.plainOver K aSt = true)
    (q4_Stuck : PySem.W.findIn K (.ref aSt) "__setattr__" = some (some (.builtin "object.__setattr__")))
    (q5_Stuck : PySem.W.findIn K (.ref aSt) "__class__" = some (some (.builtin "object.__class__")))
    (q6_Stuck : PySem.W.mroIn K aSt (.type "object") = some true)
    (q7_Stuck : PySem.W.makesIn K aSt = true)
    (q8_Stuck : PySem.W.keepIn K (.ref aSt) = true)
    (n_Stuck_marks : PySem.W.findIn K (.ref aSt) "marks" = some none)
    (i_Stuck___init__ : PySem.W.findIn K (.ref aSt) "__init__" = some (some (.ref f_Stuck___init__)))
    (w_Stuck___init__ : PySem.W.isFn K (.ref f_Stuck___init__) = true)
    (l_Stuck___init__ : K.lookup f_Stuck___init__ = some ⟨oc_Stuck___init__, od_Stuck___init__, .func (PySem.W.fnOf "__init__" "Stuck.__init__" (defArgs s_Stuck___init__) (defBody s_Stuck___init__) (defScope s_Stuck___init__) .none kV_Stuck___init__ dc_Stuck___init__ pm_Stuck___init__ an_Stuck___init__ cd_Stuck___init__ ct_Stuck___init__), sl_Stuck___init__⟩)
    (c_Stuck___init__ : PySem.W.codeIn K cd_Stuck___init__ "Stuck.__init__" = true)
    (k_Stuck___init__ : PySem.W.keepIn K (.ref f_Stuck___init__) = true)
    (i_Stuck_shows : PySem.W.findIn K (.ref aSt) "shows" = some (some (.ref f_Stuck_shows)))
    (w_Stuck_shows : PySem.W.isFn K (.ref f_Stuck_shows) = true)
    (l_Stuck_shows : K.lookup f_Stuck_shows = some ⟨oc_Stuck_shows, od_Stuck_shows, .func (PySem.W.fnOf "shows" "Stuck.shows" (defArgs s_Stuck_shows) (defBody s_Stuck_shows) (defScope s_Stuck_shows) .none kV_Stuck_shows dc_Stuck_shows pm_Stuck_shows an_Stuck_shows cd_Stuck_shows ct_Stuck_shows), sl_Stuck_shows⟩)
    (c_Stuck_shows : PySem.W.codeIn K cd_Stuck_shows "Stuck.shows" = true)
    (k_Stuck_shows : PySem.W.keepIn K (.ref f_Stuck_shows) = true)
    (z_len : PySem.W.nsIn K mainGlobals "len" = some none)
    (z_all : PySem.W.nsIn K mainGlobals "all" = some none)
    (z_any : PySem.W.nsIn K mainGlobals "any" = some none)
    (z_isinstance : PySem.W.nsIn K mainGlobals "isinstance" = some none)
    (z_range : PySem.W.nsIn K mainGlobals "range" = some none)
    (z_sum : PySem.W.nsIn K mainGlobals "sum" = some none)
    (z_sorted : PySem.W.nsIn K mainGlobals "sorted" = some none)
    (z_enumerate : PySem.W.nsIn K mainGlobals "enumerate" = some none)
    (z_max : PySem.W.nsIn K mainGlobals "max" = some none)
    (z_min : PySem.W.nsIn K mainGlobals "min" = some none)
    (z_reversed : PySem.W.nsIn K mainGlobals "reversed" = some none)
    (z_list : PySem.W.nsIn K mainGlobals "list" = some none)
    (z_int : PySem.W.nsIn K mainGlobals "int" = some none)
    (z_str : PySem.W.nsIn K mainGlobals "str" = some none)
    (z_bool : PySem.W.nsIn K mainGlobals "bool" = some none)
    (z_set : PySem.W.nsIn K mainGlobals "set" = some none)
    (z_ValueError : PySem.W.nsIn K mainGlobals "ValueError" = some none)
    (z_LETTERS : PySem.W.nsIn K mainGlobals "LETTERS" = some (some (.str "abcdefghijklmnopqrstuvwxyz" tL)))
    (y_aRd_aRd : PySem.W.kitOne K (.ref aRd) (.ref aRd) = some true)
    (y_aSt_aRd : PySem.W.kitOne K (.ref aSt) (.ref aRd) = some false)
    (y_aRd_aSt : PySem.W.kitOne K (.ref aRd) (.ref aSt) = some false)
    (y_aSt_aSt : PySem.W.kitOne K (.ref aSt) (.ref aSt) = some true)
    (y_aRd_aAns : PySem.W.kitOne K (.ref aRd) (.ref aAns) = some true)
    (y_aSt_aAns : PySem.W.kitOne K (.ref aSt) (.ref aAns) = some true)
    (y_aRd_aCl : PySem.W.kitOne K (.ref aRd) (.ref aCl) = some false)
    (y_aSt_aCl : PySem.W.kitOne K (.ref aSt) (.ref aCl) = some false)
    (y_aRd_aTl : PySem.W.kitOne K (.ref aRd) (.ref aTl) = some false)
    (y_aSt_aTl : PySem.W.kitOne K (.ref aSt) (.ref aTl) = some false)
    : ∃ fd : FuncData, (∀ (s : Shared) (v : Value), BindsTo s fd ⟨[v], []⟩ [("_law_script", v)]) ∧ ∀ base : Heap, K.In base → base.Ns mainGlobals mg → FnOk l.prog w K mg base (L2N.CX l.prog w) 4 fa fd ["_law_script"] (spLaw K) := by
  have e := hfa.symm.trans (PySem.W.mg_of X G a_law)
  cases e
  refine ⟨PySem.W.fnOf "law" "law" (defArgs s_law) (defBody s_law) (defScope s_law) .none kV_law dc_law pm_law an_law cd_law ct_law, fun s v => .of_eq rfl, fun base _ _ => ?_⟩
  have D_stands : DefAt K mg "stands" s_stands ["word", "text", "at"] := ⟨_, _, fun_mk l_stands c_stands k_stands, PySem.W.mg_of X G a_stands, (fun_mk l_stands c_stands k_stands).binds fun _ _ _ _ _ _ us hl => match us, hl with | [_, _, _], _ => rfl⟩
  have D_is_number : DefAt K mg "is_number" s_is_number ["thing", "least", "most"] := ⟨_, _, fun_mk l_is_number c_is_number k_is_number, PySem.W.mg_of X G a_is_number, (fun_mk l_is_number c_is_number k_is_number).binds fun _ _ _ _ _ _ us hl => match us, hl with | [_, _, _], _ => rfl⟩
  have D_is_text : DefAt K mg "is_text" s_is_text ["thing"] := ⟨_, _, fun_mk l_is_text c_is_text k_is_text, PySem.W.mg_of X G a_is_text, (fun_mk l_is_text c_is_text k_is_text).binds fun _ _ _ _ _ _ us hl => match us, hl with | [_], _ => rfl⟩
  have D_asked_code : DefAt K mg "asked_code" s_asked_code ["code"] := ⟨_, _, fun_mk l_asked_code c_asked_code k_asked_code, PySem.W.mg_of X G a_asked_code, (fun_mk l_asked_code c_asked_code k_asked_code).binds fun _ _ _ _ _ _ us hl => match us, hl with | [_], _ => rfl⟩
  have D_asked_text : DefAt K mg "asked_text" s_asked_text ["text"] := ⟨_, _, fun_mk l_asked_text c_asked_text k_asked_text, PySem.W.mg_of X G a_asked_text, (fun_mk l_asked_text c_asked_text k_asked_text).binds fun _ _ _ _ _ _ us hl => match us, hl with | [_], _ => rfl⟩
  have D_joined : DefAt K mg "joined" s_joined ["code", "places"] := ⟨_, _, fun_mk l_joined c_joined k_joined, PySem.W.mg_of X G a_joined, (fun_mk l_joined c_joined k_joined).binds fun _ _ _ _ _ _ us hl => match us, hl with | [_, _], _ => rfl⟩
  have D_are_places : DefAt K mg "are_places" s_are_places ["code", "places"] := ⟨_, _, fun_mk l_are_places c_are_places k_are_places, PySem.W.mg_of X G a_are_places, (fun_mk l_are_places c_are_places k_are_places).binds fun _ _ _ _ _ _ us hl => match us, hl with | [_, _], _ => rfl⟩
  have D_table_of : DefAt K mg "table_of" s_table_of ["code", "text"] := ⟨_, _, fun_mk l_table_of c_table_of k_table_of, PySem.W.mg_of X G a_table_of, (fun_mk l_table_of c_table_of k_table_of).binds fun _ _ _ _ _ _ us hl => match us, hl with | [_, _], _ => rfl⟩
  have D_nth : DefAt K mg "nth" s_nth ["code", "text", "table", "number"] := ⟨_, _, fun_mk l_nth c_nth k_nth, PySem.W.mg_of X G a_nth, (fun_mk l_nth c_nth k_nth).binds fun _ _ _ _ _ _ us hl => match us, hl with | [_, _, _, _], _ => rfl⟩
  have D_how_many : DefAt K mg "how_many" s_how_many ["code", "text"] := ⟨_, _, fun_mk l_how_many c_how_many k_how_many, PySem.W.mg_of X G a_how_many, (fun_mk l_how_many c_how_many k_how_many).binds fun _ _ _ _ _ _ us hl => match us, hl with | [_, _], _ => rfl⟩
  have D_marks_of : DefAt K mg "marks_of" s_marks_of ["code", "text"] := ⟨_, _, fun_mk l_marks_of c_marks_of k_marks_of, PySem.W.mg_of X G a_marks_of, (fun_mk l_marks_of c_marks_of k_marks_of).binds fun _ _ _ _ _ _ us hl => match us, hl with | [_, _], _ => rfl⟩
  have D_read : DefAt K mg "read" s_read ["code", "text"] := ⟨_, _, fun_mk l_read c_read k_read, PySem.W.mg_of X G a_read, (fun_mk l_read c_read k_read).binds fun _ _ _ _ _ _ us hl => match us, hl with | [_, _], _ => rfl⟩
  have D_text_of : DefAt K mg "text_of" s_text_of ["code", "places"] := ⟨_, _, fun_mk l_text_of c_text_of k_text_of, PySem.W.mg_of X G a_text_of, (fun_mk l_text_of c_text_of k_text_of).binds fun _ _ _ _ _ _ us hl => match us, hl with | [_, _], _ => rfl⟩
  have D__law_code : DefAt K mg "_law_code" s__law_code ["_law_script"] := ⟨_, _, fun_mk l__law_code c__law_code k__law_code, PySem.W.mg_of X G a__law_code, (fun_mk l__law_code c__law_code k__law_code).binds fun _ _ _ _ _ _ us hl => match us, hl with | [_], _ => rfl⟩
  have D__law_stands : DefAt K mg "_law_stands" s__law_stands ["_law_word", "_law_text_here", "_law_at"] := ⟨_, _, fun_mk l__law_stands c__law_stands k__law_stands, PySem.W.mg_of X G a__law_stands, (fun_mk l__law_stands c__law_stands k__law_stands).binds fun _ _ _ _ _ _ us hl => match us, hl with | [_, _, _], _ => rfl⟩
  have D__law_numbers : DefAt K mg "_law_numbers" s__law_numbers ["_law_found"] := ⟨_, _, fun_mk l__law_numbers c__law_numbers k__law_numbers, PySem.W.mg_of X G a__law_numbers, (fun_mk l__law_numbers c__law_numbers k__law_numbers).binds fun _ _ _ _ _ _ us hl => match us, hl with | [_], _ => rfl⟩
  have D__law_text : DefAt K mg "_law_text" s__law_text ["_law_code_here", "_law_script"] := ⟨_, _, fun_mk l__law_text c__law_text k__law_text, PySem.W.mg_of X G a__law_text, (fun_mk l__law_text c__law_text k__law_text).binds fun _ _ _ _ _ _ us hl => match us, hl with | [_, _], _ => rfl⟩
  have D__law_due : DefAt K mg "_law_due" s__law_due ["_law_code_here", "_law_text_here", "_law_found"] := ⟨_, _, fun_mk l__law_due c__law_due k__law_due, PySem.W.mg_of X G a__law_due, (fun_mk l__law_due c__law_due k__law_due).binds fun _ _ _ _ _ _ us hl => match us, hl with | [_, _, _], _ => rfl⟩
  have G_Answer : mg "Answer" = some (.ref aAns) := PySem.W.mg_of X G g_Answer
  have G_Clash : mg "Clash" = some (.ref aCl) := PySem.W.mg_of X G g_Clash
  have G_Tails : mg "Tails" = some (.ref aTl) := PySem.W.mg_of X G g_Tails
  have G_Reading : mg "Reading" = some (.ref aRd) := PySem.W.mg_of X G g_Reading
  have G_Stuck : mg "Stuck" = some (.ref aSt) := PySem.W.mg_of X G g_Stuck
  have L_Reading : ClsI K aRd := ⟨⟨q1_Reading, q2_Reading, q3_Reading, q4_Reading⟩, q5_Reading, e6, e7, q6_Reading⟩
  have N_Reading_places : NoAttr K aRd "places" := n_Reading_places
  have D_Reading___init__ : IniAt K aRd "Reading.__init__" s_Reading___init__ ["self", "places"] := ⟨_, _, fun_mk l_Reading___init__ c_Reading___init__ k_Reading___init__, ⟨q7_Reading, i_Reading___init__, w_Reading___init__, q8_Reading⟩, (fun_mk l_Reading___init__ c_Reading___init__ k_Reading___init__).binds fun _ _ _ _ _ _ us hl => match us, hl with | [_, _], _ => rfl⟩
  have D_Reading_shows : MthAt K aRd "shows" "Reading.shows" s_Reading_shows ["self", "code", "text"] := ⟨_, _, fun_mk l_Reading_shows c_Reading_shows k_Reading_shows, ⟨i_Reading_shows, w_Reading_shows, k_Reading_shows⟩, (fun_mk l_Reading_shows c_Reading_shows k_Reading_shows).binds fun _ _ _ _ _ _ us hl => match us, hl with | [_, _, _], _ => rfl⟩
  have L_Stuck : ClsI K aSt := ⟨⟨q1_Stuck, q2_Stuck, q3_Stuck, q4_Stuck⟩, q5_Stuck, e6, e7, q6_Stuck⟩
  have N_Stuck_marks : NoAttr K aSt "marks" := n_Stuck_marks
  have D_Stuck___init__ : IniAt K aSt "Stuck.__init__" s_Stuck___init__ ["self", "marks"] := ⟨_, _, fun_mk l_Stuck___init__ c_Stuck___init__ k_Stuck___init__, ⟨q7_Stuck, i_Stuck___init__, w_Stuck___init__, q8_Stuck⟩, (fun_mk l_Stuck___init__ c_Stuck___init__ k_Stuck___init__).binds fun _ _ _ _ _ _ us hl => match us, hl with | [_, _], _ => rfl⟩
  have D_Stuck_shows : MthAt K aSt "shows" "Stuck.shows" s_Stuck_shows ["self", "code", "text"] := ⟨_, _, fun_mk l_Stuck_shows c_Stuck_shows k_Stuck_shows, ⟨i_Stuck_shows, w_Stuck_shows, k_Stuck_shows⟩, (fun_mk l_Stuck_shows c_Stuck_shows k_Stuck_shows).binds fun _ _ _ _ _ _ us hl => match us, hl with | [_, _, _], _ => rfl⟩
  have T : Blt mg := ⟨PySem.W.mg_none_of X G z_len, PySem.W.mg_none_of X G z_all, PySem.W.mg_none_of X G z_any, PySem.W.mg_none_of X G z_isinstance, PySem.W.mg_none_of X G z_range, PySem.W.mg_none_of X G z_sum, PySem.W.mg_none_of X G z_sorted, PySem.W.mg_none_of X G z_enumerate, PySem.W.mg_none_of X G z_max, PySem.W.mg_none_of X G z_min, PySem.W.mg_none_of X G z_reversed, PySem.W.mg_none_of X G z_list, PySem.W.mg_none_of X G z_int, PySem.W.mg_none_of X G z_str, PySem.W.mg_none_of X G z_bool, PySem.W.mg_none_of X G z_set, PySem.W.mg_none_of X G z_ValueError, ⟨_, PySem.W.mg_of X G z_LETTERS, tL, rfl⟩⟩
  have AK : AnsK K aRd aSt aAns aCl aTl := ⟨fun b => match b with | true => y_aRd_aRd | false => y_aSt_aRd, fun b => match b with | true => y_aRd_aSt | false => y_aSt_aSt, fun b => match b with | true => y_aRd_aAns | false => y_aSt_aAns, fun b => match b with | true => y_aRd_aCl | false => y_aSt_aCl, fun b => match b with | true => y_aRd_aTl | false => y_aSt_aTl, fun b => match b with | true => L_Reading | false => L_Stuck, N_Reading_places, N_Stuck_marks⟩
  have C_stands := ok_stands (P := l.prog) (w := w) (base := base) D_stands T
  have C_is_number := ok_is_number (P := l.prog) (w := w) (base := base) D_is_number T
  have C_is_text := ok_is_text (P := l.prog) (w := w) (base := base) D_is_text T
  have C_asked_code := ok_asked_code (P := l.prog) (w := w) (base := base) D_asked_code T C_is_text
  have C_asked_text := ok_asked_text (P := l.prog) (w := w) (base := base) D_asked_text T C_is_text
  have C_joined := ok_joined (P := l.prog) (w := w) (base := base) D_joined T
  have C_are_places := ok_are_places (P := l.prog) (w := w) (base := base) D_are_places T
  have K_Reading := ok_Reading___init__ (P := l.prog) (w := w) (base := base) D_Reading___init__ T G_Reading L_Reading N_Reading_places
  have K_Stuck := ok_Stuck___init__ (P := l.prog) (w := w) (base := base) D_Stuck___init__ T G_Stuck L_Stuck N_Stuck_marks
  have M_Reading_shows := ok_Reading_shows (P := l.prog) (w := w) (base := base) D_Reading_shows T L_Reading N_Reading_places C_are_places C_joined
  have M_Stuck_shows := ok_Stuck_shows (P := l.prog) (w := w) (base := base) D_Stuck_shows T L_Stuck N_Stuck_marks C_stands
  have C_table_of := ok_table_of (P := l.prog) (w := w) (base := base) D_table_of T C_stands
  have C_nth := ok_nth (P := l.prog) (w := w) (base := base) D_nth T C_stands
  have C_how_many := ok_how_many (P := l.prog) (w := w) (base := base) D_how_many T C_asked_code C_asked_text C_table_of
  have C_marks_of := ok_marks_of (P := l.prog) (w := w) (base := base) D_marks_of T C_stands
  have C_read := ok_read (P := l.prog) (w := w) (base := base) D_read T C_asked_code C_asked_text C_table_of C_nth C_marks_of K_Reading K_Stuck
  have C_text_of := ok_text_of (P := l.prog) (w := w) (base := base) D_text_of T C_asked_code C_is_number C_joined
  have C__law_code := ok__law_code (P := l.prog) (w := w) (base := base) D__law_code T
  have C__law_stands := ok__law_stands (P := l.prog) (w := w) (base := base) D__law_stands T
  have C__law_numbers := ok__law_numbers (P := l.prog) (w := w) (base := base) D__law_numbers T
  have C__law_text := ok__law_text (P := l.prog) (w := w) (base := base) D__law_text T
  have C__law_due := ok__law_due (P := l.prog) (w := w) (base := base) D__law_due T G_Reading AK C__law_stands
  exact ok_law (fun_mk l_law c_law k_law) T G_Reading G_Stuck G_Answer G_Clash G_Tails AK C__law_code C__law_text C_how_many C__law_due C__law_numbers C_read C_text_of M_Reading_shows M_Stuck_shows
end
theorem walk {l : PySem.W.OpenLaw} {q : Program} {loose : List Str} {XP : (Str → Option Value) → Heap → Prop} {YP : World → Heap → Prop} {d : DefRec} {K : Params → PySem.W.Frag} (hn : l.most = some 63) (hdf : d.params.defaults = [])
    (hY : ∀ (w : World) (h : Heap), YP w h → (K w.params).In h)
    (F : ∀ (w : World) (mg : Str → Option Value) (fa : Addr) (h : Heap), (K w.params).In h → h.Ns mainGlobals mg → mg d.name = some (.ref fa) →
      ∃ fd : FuncData, (∀ (s : Shared) (u : Value), BindsTo s fd ⟨[u], []⟩ [("_law_script", u)]) ∧ ∀ base : Heap, (K w.params).In base → base.Ns mainGlobals mg → FnOk l.prog w (K w.params) mg base (L2N.CX l.prog w) 4 fa fd ["_law_script"] (spLaw (K w.params))) :
    PySem.W.WalkO q loose XP YP l.row.toRowW d [] (fun f vs => PySem.call f vs) :=
  L2.walk_of (n := 63) (k := 4) (x := "_law_script") (CX := fun w => L2N.CX l.prog w) (sp := fun w => spLaw (K w.params)) hn (by decide) hdf ⟨rfl, by decide, by decide⟩ hY F (fun _ _ a ns hl _ hS => ⟨a, ns, rfl, hS, hl, fun _ _ => rfl⟩) fun _ _ _ _ _ z => by
    obtain ⟨_, _, _, _, _, _, _, _, _, _, _, _, y⟩ := z
    exact y
end Tr
open PySem PySem.W PyProof.Rows
set_option maxRecDepth 100000 in
set_option maxHeartbeats 0 in
theorem PySem.Challenge.cw_tworeadings_k02_whole_read_holds : PySem.Challenge.rw_tworeadings_k02_whole_read.Holds := by
  w_on; o_law; k_head; (case hw => w_witness2)
  k_fill
  refine Tr.walk (l := PySem.Challenge.rw_tworeadings_k02_whole_read) rfl rfl (fun w h Y => PySem.W.kIn_of Y) ?F
  case F =>
    intro w mg fa h KX G hmg
    refine' Tr.all_mk KX G hmg ?a_stands ?l_stands ?c_stands ?k_stands ?a_is_number ?l_is_number ?c_is_number ?k_is_number ?a_is_text ?l_is_text ?c_is_text ?k_is_text ?a_asked_code ?l_asked_code ?c_asked_code ?k_asked_code ?a_asked_text ?l_asked_text ?c_asked_text ?k_asked_text ?a_joined ?l_joined ?c_joined ?k_joined ?a_are_places ?l_are_places ?c_are_places ?k_are_places ?a_table_of ?l_table_of ?c_table_of ?k_table_of ?a_nth ?l_nth ?c_nth ?k_nth ?a_how_many ?l_how_many ?c_how_many ?k_how_many ?a_marks_of ?l_marks_of ?c_marks_of ?k_marks_of ?a_read ?l_read ?c_read ?k_read ?a_text_of ?l_text_of ?c_text_of ?k_text_of ?a__law_code ?l__law_code ?c__law_code ?k__law_code ?a__law_stands ?l__law_stands ?c__law_stands ?k__law_stands ?a__law_numbers ?l__law_numbers ?c__law_numbers ?k__law_numbers ?a__law_text ?l__law_text ?c__law_text ?k__law_text ?a__law_due ?l__law_due ?c__law_due ?k__law_due ?a_law ?l_law ?c_law ?k_law ?g_Answer ?g_Clash ?g_Tails ?g_Reading ?g_Stuck ?e6 ?e7 ?q1_Reading ?q2_Reading ?q3_Reading ?q4_Reading ?q5_Reading ?q6_Reading ?q7_Reading ?q8_Reading ?n_Reading_places ?i_Reading___init__ ?w_Reading___init__ ?l_Reading___init__ ?c_Reading___init__ ?k_Reading___init__ ?i_Reading_shows ?w_Reading_shows ?l_Reading_shows ?c_Reading_shows ?k_Reading_shows ?q1_Stuck ?q2_Stuck ?q3_Stuck ?q4_Stuck ?q5_Stuck ?q6_Stuck ?q7_Stuck ?q8_Stuck ?n_Stuck_marks ?i_Stuck___init__ ?w_Stuck___init__ ?l_Stuck___init__ ?c_Stuck___init__ ?k_Stuck___init__ ?i_Stuck_shows ?w_Stuck_shows ?l_Stuck_shows ?c_Stuck_shows ?k_Stuck_shows ?z_len ?z_all ?z_any ?z_isinstance ?z_range ?z_sum ?z_sorted ?z_enumerate ?z_max ?z_min ?z_reversed ?z_list ?z_int ?z_str ?z_bool ?z_set ?z_ValueError ?z_LETTERS ?y_aRd_aRd ?y_aSt_aRd ?y_aRd_aSt ?y_aSt_aSt ?y_aRd_aAns ?y_aSt_aAns ?y_aRd_aCl ?y_aSt_aCl ?y_aRd_aTl ?y_aSt_aTl
    (case a_stands => first | k_is | rfl); (case l_stands => first | k_is | rfl); (case c_stands => first | k_is | rfl); (case k_stands => first | k_is | rfl); (case a_is_number => first | k_is | rfl); (case l_is_number => first | k_is | rfl)
    (case c_is_number => first | k_is | rfl); (case k_is_number => first | k_is | rfl); (case a_is_text => first | k_is | rfl); (case l_is_text => first | k_is | rfl); (case c_is_text => first | k_is | rfl); (case k_is_text => first | k_is | rfl)
    (case a_asked_code => first | k_is | rfl); (case l_asked_code => first | k_is | rfl); (case c_asked_code => first | k_is | rfl); (case k_asked_code => first | k_is | rfl); (case a_asked_text => first | k_is | rfl); (case l_asked_text => first | k_is | rfl)
    (case c_asked_text => first | k_is | rfl); (case k_asked_text => first | k_is | rfl); (case a_joined => first | k_is | rfl); (case l_joined => first | k_is | rfl); (case c_joined => first | k_is | rfl); (case k_joined => first | k_is | rfl)
    (case a_are_places => first | k_is | rfl); (case l_are_places => first | k_is | rfl); (case c_are_places => first | k_is | rfl); (case k_are_places => first | k_is | rfl); (case a_table_of => first | k_is | rfl); (case l_table_of => first | k_is | rfl)
    (case c_table_of => first | k_is | rfl); (case k_table_of => first | k_is | rfl); (case a_nth => first | k_is | rfl); (case l_nth => first | k_is | rfl); (case c_nth => first | k_is | rfl); (case k_nth => first | k_is | rfl)
    (case a_how_many => first | k_is | rfl); (case l_how_many => first | k_is | rfl); (case c_how_many => first | k_is | rfl); (case k_how_many => first | k_is | rfl); (case a_marks_of => first | k_is | rfl); (case l_marks_of => first | k_is | rfl)
    (case c_marks_of => first | k_is | rfl); (case k_marks_of => first | k_is | rfl); (case a_read => first | k_is | rfl); (case l_read => first | k_is | rfl); (case c_read => first | k_is | rfl); (case k_read => first | k_is | rfl)
    (case a_text_of => first | k_is | rfl); (case l_text_of => first | k_is | rfl); (case c_text_of => first | k_is | rfl); (case k_text_of => first | k_is | rfl); (case a__law_code => first | k_is | rfl); (case l__law_code => first | k_is | rfl)
    (case c__law_code => first | k_is | rfl); (case k__law_code => first | k_is | rfl); (case a__law_stands => first | k_is | rfl); (case l__law_stands => first | k_is | rfl); (case c__law_stands => first | k_is | rfl); (case k__law_stands => first | k_is | rfl)
    (case a__law_numbers => first | k_is | rfl); (case l__law_numbers => first | k_is | rfl); (case c__law_numbers => first | k_is | rfl); (case k__law_numbers => first | k_is | rfl); (case a__law_text => first | k_is | rfl); (case l__law_text => first | k_is | rfl)
    (case c__law_text => first | k_is | rfl); (case k__law_text => first | k_is | rfl); (case a__law_due => first | k_is | rfl); (case l__law_due => first | k_is | rfl); (case c__law_due => first | k_is | rfl); (case k__law_due => first | k_is | rfl)
    (case a_law => first | k_is | rfl); (case l_law => first | k_is | rfl); (case c_law => first | k_is | rfl); (case k_law => first | k_is | rfl); (case g_Answer => first | k_is | rfl); (case g_Clash => first | k_is | rfl)
    (case g_Tails => first | k_is | rfl); (case g_Reading => first | k_is | rfl); (case g_Stuck => first | k_is | rfl); (case e6 => first | k_is | rfl); (case e7 => first | k_is | rfl); (case q1_Reading => first | k_is | rfl)
    (case q2_Reading => first | k_is | rfl); (case q3_Reading => first | k_is | rfl); (case q4_Reading => first | k_is | rfl); (case q5_Reading => first | k_is | rfl); (case q6_Reading => first | k_is | rfl); (case q7_Reading => first | k_is | rfl)
    (case q8_Reading => first | k_is | rfl); (case n_Reading_places => first | k_is | rfl); (case i_Reading___init__ => first | k_is | rfl); (case w_Reading___init__ => first | k_is | rfl); (case l_Reading___init__ => first | k_is | rfl); (case c_Reading___init__ => first | k_is | rfl)
    (case k_Reading___init__ => first | k_is | rfl); (case i_Reading_shows => first | k_is | rfl); (case w_Reading_shows => first | k_is | rfl); (case l_Reading_shows => first | k_is | rfl); (case c_Reading_shows => first | k_is | rfl); (case k_Reading_shows => first | k_is | rfl)
    (case q1_Stuck => first | k_is | rfl); (case q2_Stuck => first | k_is | rfl); (case q3_Stuck => first | k_is | rfl); (case q4_Stuck => first | k_is | rfl); (case q5_Stuck => first | k_is | rfl); (case q6_Stuck => first | k_is | rfl)
    (case q7_Stuck => first | k_is | rfl); (case q8_Stuck => first | k_is | rfl); (case n_Stuck_marks => first | k_is | rfl); (case i_Stuck___init__ => first | k_is | rfl); (case w_Stuck___init__ => first | k_is | rfl); (case l_Stuck___init__ => first | k_is | rfl)
    (case c_Stuck___init__ => first | k_is | rfl); (case k_Stuck___init__ => first | k_is | rfl); (case i_Stuck_shows => first | k_is | rfl); (case w_Stuck_shows => first | k_is | rfl); (case l_Stuck_shows => first | k_is | rfl); (case c_Stuck_shows => first | k_is | rfl)
    (case k_Stuck_shows => first | k_is | rfl); (case z_len => first | k_is | rfl); (case z_all => first | k_is | rfl); (case z_any => first | k_is | rfl); (case z_isinstance => first | k_is | rfl); (case z_range => first | k_is | rfl)
    (case z_sum => first | k_is | rfl); (case z_sorted => first | k_is | rfl); (case z_enumerate => first | k_is | rfl); (case z_max => first | k_is | rfl); (case z_min => first | k_is | rfl); (case z_reversed => first | k_is | rfl)
    (case z_list => first | k_is | rfl); (case z_int => first | k_is | rfl); (case z_str => first | k_is | rfl); (case z_bool => first | k_is | rfl); (case z_set => first | k_is | rfl); (case z_ValueError => first | k_is | rfl)
    (case z_LETTERS => first | k_is | rfl); (case y_aRd_aRd => first | k_is | rfl); (case y_aSt_aRd => first | k_is | rfl); (case y_aRd_aSt => first | k_is | rfl); (case y_aSt_aSt => first | k_is | rfl); (case y_aRd_aAns => first | k_is | rfl)
    (case y_aSt_aAns => first | k_is | rfl); (case y_aRd_aCl => first | k_is | rfl); (case y_aSt_aCl => first | k_is | rfl); (case y_aRd_aTl => first | k_is | rfl); (case y_aSt_aTl => first | k_is | rfl)
#print axioms PySem.Challenge.cw_tworeadings_k02_whole_read_holds
