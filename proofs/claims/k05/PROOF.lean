import PyProof.Rows.All
import Wide.All
import OpenK.AllK
import Wide.FinOn
import HandS.ForMost
import HandS.ForExc
import HandS.Evl
import HandS.IsInst
import HandS.StrMore
import HandS.Style
import HandS.SortInts
import HandS.SortRule
import HandS.SortKw
import HandS.RevRange
import HandS.SetFor
import HandS.Strs
import HandS.More
import HandS.ExcIs
import HandS.ExcCtx
import HandS.HotCalls
import HandS.Dict
import HandS.Hot
import PyProof.Rows.SortShellAny
import PyProof.Rows.StrMeet
import KE.KRevSl
import KE.DataMinMax
import PyProof.StrOps2
import KE.LtSeq
import HandS.TupLe
import PySem.Challenge.RW_tworeadings_k05_whole_lengths
set_option Elab.async false
set_option linter.all false
set_option maxRecDepth 100000
set_option maxHeartbeats 4000000
/-! TrA: defs that may be called (Cal, DefAt), texts as lists of codes, pure expressions. -/
namespace Tr
open PySem PySem.Spec PyProof.Rows L2 Evl

/-! ### defs -/
section
variable {P : Program} {w : World} {K : PySem.W.Frag} {mg : Str → Option Value} {base : Heap}
/-- a def that may be called by its name -/
structure Cal (P : Program) (w : World) (K : PySem.W.Frag) (mg : Str → Option Value) (base : Heap) (k : Nat) (x : Str) (sp : Sp) : Prop where
  ex : ∃ (f : Addr) (fd : FuncData) (ps : List Str), FnOk P w K mg base (L2N.CX P w) k f fd ps sp ∧ mg x = some (.ref f) ∧ PySem.W.keepIn K (.ref f) = true ∧ Binds K fd ps []
/-- a def as the top has left it -/
structure DefAt (K : PySem.W.Frag) (mg : Str → Option Value) (x : Str) (st : Stmt) (ps : List Str) : Prop where
  ex : ∃ (f : Addr) (fd : FuncData), Fun K x x st f fd ∧ mg x = some (.ref f) ∧ Binds K fd ps []
theorem cal_of {x : Str} {st : Stmt} {N ps : List Str} {k : Nat} {sp : Sp} (D : DefAt K mg x st ps) (S : FnScope N ps (defScope st)) (len : ∀ vs H Q E, sp vs H Q E → vs.length = ps.length)
    (hbody : ∀ (f : Addr) (cdv : Value) (A : Around) (outer : List Env) (s : Shared) (H : Hp) (vs : List V) (Q : VK) (E : XK), Room k (A.deeper (envOfC x (defScope st) s.heap.objs.size f cdv)) → sp vs H Q E →
      ∃ t, PSs (cxOf (L2N.CX P w) P w K mg base N x (defScope st) f cdv A outer s H E).nox (defBody st) t ∧ t { nx := fun _ H' => Q .non H', rt := Q } (start N vs) H) : Cal P w K mg base (k + 1) x sp := by
  obtain ⟨f, fd, F, m, b⟩ := D.ex
  obtain ⟨oc, od, kV, doc, pm, an, cdv, ct, osl, rfl, lk, hcd⟩ := F.ex
  refine ⟨f, _, ps, fn_of lk hcd S len fun A outer s H vs Q E hr hsp => ?_, m, F.kp, b⟩
  obtain ⟨t, h, q⟩ := hbody f cdv A outer s H vs Q E hr hsp
  exact ⟨t, h.nox, q⟩
/-- .. of the law itself -/
theorem fnok_of {x : Str} {st : Stmt} {N ps : List Str} {k : Nat} {sp : Sp} {f : Addr} {fd : FuncData} (F : Fun K x x st f fd) (S : FnScope N ps (defScope st)) (len : ∀ vs H Q E, sp vs H Q E → vs.length = ps.length)
    (hbody : ∀ (f : Addr) (cdv : Value) (A : Around) (outer : List Env) (s : Shared) (H : Hp) (vs : List V) (Q : VK) (E : XK), Room k (A.deeper (envOfC x (defScope st) s.heap.objs.size f cdv)) → sp vs H Q E →
      ∃ t, PSs (cxOf (L2N.CX P w) P w K mg base N x (defScope st) f cdv A outer s H E).nox (defBody st) t ∧ t { nx := fun _ H' => Q .non H', rt := Q } (start N vs) H) : FnOk P w K mg base (L2N.CX P w) (k + 1) f fd ps sp := by
  obtain ⟨oc, od, kV, doc, pm, an, cdv, ct, osl, rfl, lk, hcd⟩ := F.ex
  refine fn_of lk hcd S len fun A outer s H vs Q E hr hsp => ?_
  obtain ⟨t, h, q⟩ := hbody f cdv A outer s H vs Q E hr hsp
  exact ⟨t, h.nox, q⟩
/-- .. of a def that may raise -/
theorem calX_of {x : Str} {st : Stmt} {N ps : List Str} {k : Nat} {sp : Sp} (D : DefAt K mg x st ps) (S : FnScope N ps (defScope st)) (len : ∀ vs H Q E, sp vs H Q E → vs.length = ps.length)
    (hbody : ∀ (f : Addr) (cdv : Value) (A : Around) (outer : List Env) (s : Shared) (H : Hp) (vs : List V) (Q : VK) (E : XK), Room k (A.deeper (envOfC x (defScope st) s.heap.objs.size f cdv)) → sp vs H Q E →
      ∃ t, PSs (cxOf (L2N.CX P w) P w K mg base N x (defScope st) f cdv A outer s H E) (defBody st) t ∧ t { nx := fun _ H' => Q .non H', rt := Q } (start N vs) H) : Cal P w K mg base (k + 1) x sp := by
  obtain ⟨f, fd, F, m, b⟩ := D.ex
  obtain ⟨oc, od, kV, doc, pm, an, cdv, ct, osl, rfl, lk, hcd⟩ := F.ex
  exact ⟨f, _, ps, fn_of lk hcd S len fun A outer s H vs Q E hr hsp => hbody f cdv A outer s H vs Q E hr hsp, m, F.kp, b⟩
end
section
variable {X : Cx} {k j : Nat} {x : Str} {sp : Sp} {p pos : Pos} {e : Expr} {es : List Expr} {t : TA}
theorem passN : Passes (L2N.CX X.prog X.w) X E0 := fun _ _ _ _ _ _ _ c => by
  obtain ⟨_, _, _, _, _, _, _, _, _, _, _, _, z⟩ := c
  exact False.elim z
/-- f(e, ..), nothing raised -/
theorem pe_c (c : Cal X.prog X.w X.K X.mg X.base k x sp) (hr : Room j X.A) (hk : k ≤ j) (hg : Gl X x) (ha : PA X (e :: es) t) (hdb : (x == ("__debug__" : Str)) = false := by decide)
    (he : starEach (e :: es) X.env = (false, eval e X.env) :: starEach es X.env := by rfl) (hpl : (backTo pos (starEach es X.env)).any (·.1) = false := by rfl) : PE X (.Call (.Name x p) (e :: es) [] pos) (tCall sp [] E0 t) := by
  obtain ⟨f, fd, ps, F, m, kp, b⟩ := c.ex
  exact pe_call F (hr.mono hk) hg m kp b .nil passN ha hdb he hpl
/-- f(e, ..), what it raises leaves this def too -/
theorem pe_cX {E : XK} (tk : L2N.Takes X fun cls d _ H => E cls d H) (c : Cal X.prog X.w X.K X.mg X.base k x sp) (hr : Room j X.A) (hk : k ≤ j) (hg : Gl X x) (ha : PA X (e :: es) t) (hdb : (x == ("__debug__" : Str)) = false := by decide)
    (he : starEach (e :: es) X.env = (false, eval e X.env) :: starEach es X.env := by rfl) (hpl : (backTo pos (starEach es X.env)).any (·.1) = false := by rfl) : PE X (.Call (.Name x p) (e :: es) [] pos) (tCall sp [] E t) := by
  obtain ⟨f, fd, ps, F, m, kp, b⟩ := c.ex
  exact pe_call F (hr.mono hk) hg m kp b .nil (L2N.passes_call tk fun _ _ _ _ h => h) ha hdb he hpl
/-- f(e, ..) within a try: what it raises is looked at there -/
theorem pe_cT {W : WX} (tk : L2N.Takes X W) (c : Cal X.prog X.w X.K X.mg X.base k x sp) (hr : Room j X.A) (hk : k ≤ j) (hg : Gl X x) (ha : PA X (e :: es) t) (hdb : (x == ("__debug__" : Str)) = false := by decide)
    (he : starEach (e :: es) X.env = (false, eval e X.env) :: starEach es X.env := by rfl) (hpl : (backTo pos (starEach es X.env)).any (·.1) = false := by rfl) : PE X (.Call (.Name x p) (e :: es) [] pos) (tCallS sp (WE W) t) := by
  obtain ⟨f, fd, ps, F, m, kp, b⟩ := c.ex
  exact pe_callS F (hr.mono hk) hg m kp b (fun σ => L2N.passAt tk σ) ha hdb he hpl
theorem takes0N : L2N.Takes X (fun _ _ _ _ => False) := fun _ _ x => by
  obtain ⟨_, _, _, _, _, _, _, _, _, _, _, _, _, _, _, _, z⟩ := x
  exact z.elim
end

/-! ### exception classes of the text -/
structure ExcAt (K : PySem.W.Frag) (mg : Str → Option Value) (x : Str) (C : Addr) : Prop where
  g : mg x = some (.ref C)
  xin : PySem.W.excIn K C [.type "ValueError", .type "Exception", .type "BaseException", .type "object"] "ValueError.__new__" = true
  kp : PySem.W.keepIn K (.ref C) = true
  sb : PySem.W.subIn K (.ref C) (.type "BaseException") = some true
  ty : PySem.W.typeIn K (.ref C) = some (.type "type")
theorem pmk_c {X : Cx} {K : PySem.W.Frag} {mg : Str → Option Value} {x m : Str} {C : Addr} {j : Nat} {p p2 pos : Pos} (hK : X.K = K) (hm : X.mg = mg) (A : ExcAt K mg x C) (hg : Gl X x) (hdb : (x == ("__debug__" : Str)) = false := by decide) :
    L2N.PMk X (.Call (.Name x p) [.Constant (.str m) j p2] [] pos) (fun _ H Q => Q (.ref C) none H) := by
  subst hK hm
  exact L2N.pmk_own PySem.F.excBase_ValueError A.xin A.g A.kp (raises_own A.sb A.ty) hg hdb
theorem pe_exc {X : Cx} {mg : Str → Option Value} {x : Str} {C : Addr} {pos : Pos} (hm : X.mg = mg) (g : mg x = some (.ref C)) (hg : Gl X x) (hdb : (x == ("__debug__" : Str)) = false := by decide) : PE X (.Name x pos) (tC (.ref C)) := by
  subst hm
  exact pe_glob hg g rfl hdb
/-! ### the rules that name the written part, with it as a letter -/
section
variable {X : Cx} {K : PySem.W.Frag}
theorem ix_listK (h : X.K = K) : IxR X (rIxL K) := h ▸ ix_list
theorem ix_tupK (h : X.K = K) : IxR X (rIxT K) := h ▸ ix_tup
theorem call_isiK' (h : X.K = K) : CallR X (.builtin "isinstance") (rIsi K) := h ▸ call_isi
theorem cr_allK (h : X.K = K) (hc : X.calm = true) : CallR X (.builtin "all") (rAll K) := h ▸ cr_all hc
theorem cr_anyK (h : X.K = K) (hc : X.calm = true) : CallR X (.builtin "any") (rAny K) := h ▸ cr_any hc
theorem cr_sumK (h : X.K = K) (hc : X.calm = true) : CallR X (.builtin "sum") (rSum K) := h ▸ cr_sum hc
theorem cr_sortedIK (h : X.K = K) : CallR X (.builtin "sorted") (rSortedI K) := h ▸ cr_sortedI
theorem cr_sortedSK (h : X.K = K) : CallR X (.builtin "sorted") (rSortedS K) := h ▸ cr_sortedS
theorem cr_sortedPOK (h : X.K = K) : CallR X (.builtin "sorted") (rSortedPO K) := h ▸ cr_sortedPO
theorem op_in_seqK (h : X.K = K) : OpR X (compareOp .In) (rIn K false) := h ▸ op_in_seq
theorem op_notIn_seqK (h : X.K = K) : OpR X (compareOp .NotIn) (rIn K true) := h ▸ op_notIn_seq
theorem op_eqDK (h : X.K = K) (hu : X.A.units + 64 < cLine) : OpR X (compareOp .Eq) (rEqD K) := h ▸ op_eqD hu
theorem op_neDK (h : X.K = K) (hu : X.A.units + 64 < cLine) : OpR X (compareOp .NotEq) (rNeD K) := h ▸ op_neD hu
theorem sl_listK (h : X.K = K) : SlR X (rSlL K) := h ▸ sl_list
/-- len of a list or a tuple -/
def rLenQ (K : PySem.W.Frag) : List V → Hp → VK → Prop := fun xs H Q => ∃ p ys, xs = [.ref p] ∧ (SqL K H p ys ∨ SqT K H p ys) ∧ Q (.int ys.length) H
theorem call_len_seqK (h : X.K = K) : CallR X (.builtin "len") (rLenQ K) := h ▸ call_len_seq
def rListQ (K : PySem.W.Frag) : List V → Hp → VK → Prop := fun xs H Q => ∃ p ys, xs = [.ref p] ∧ (SqL K H p ys ∨ SqT K H p ys) ∧ ∀ l, H l = none → Q (.ref l) (upd H l (.lst ys))
theorem call_list_ofK (h : X.K = K) : CallR X (.type "list") (rListQ K) := h ▸ call_list_of
theorem mt_lcountK (h : X.K = K) : MtR X "list.count" (rCntI K) := h ▸ mt_lcount
theorem pi_listK {tg l : Expr} {tl : TE} (h : X.K = K) (hl : PE X l tl) : PI X tg l (iList K tl) := h ▸ pi_list hl
theorem pi_enumK {e : Expr} {ta : TA} {p pos tpos : Pos} {elts : List Expr} {kk : Nat} (h : X.K = K) (hg : Gl X "enumerate") (hm : X.mg "enumerate" = none) (ha : PA X [e] ta) (hs : starEach [e] X.env = (false, eval e X.env) :: starEach [] X.env := by rfl) :
    PI X (.Tuple elts kk tpos) (.Call (.Name "enumerate" p) [e] [] pos) (iEnum K ta) := h ▸ pi_enum hg hm ha hs
theorem pg_tupK {es : List Expr} {k : Nat} {t : TGs} {n : Nat} {pos : Pos} (h : X.K = K) (hc : X.calm = true) (hp : PGs X es t) (hn : (assignEach es X.env).length = n := by rfl) (hst : (assignEach es X.env).findIdx? (·.1) = none := by rfl) : PG X (.Tuple es k pos) (gTup K n t) := h ▸ pg_tup hc hp hn hst
theorem pe_fldK {e : Expr} {f : Str} {pos : Pos} {ta : TE} (h : X.K = K) (he : PE X e ta) (hb : attributeBase e f X.env (eval e X.env) = eval e X.env := by rfl) : PE X (.Attribute e f pos) (tFld K ta f) := h ▸ pe_fld he hb
theorem ps_fldK {o value : Expr} {f : Str} {pos pos' : Pos} {ta tv : TE} (h : X.K = K) (ha : PE X o ta) (hv : PE X value tv) (hs : swapsWith value (some (.Attribute o f pos')) pos.line X.env = pure false := by rfl) : PS X (.Assign [.Attribute o f pos'] value pos) (sFld K ta tv f) := h ▸ ps_fld ha hv hs
theorem pe_revLK {e : Expr} {te : TE} {k : Nat} {p1 p2 p3 pos : Pos} (h : X.K = K) (he : PE X e te) : PE X (.Subscript e (.Slice none none (some (.UnaryOp .USub (.Constant (.int 1) k p1) p2)) p3) pos) (tRevL K te) := h ▸ pe_revL he
def rJoin (K : PySem.W.Frag) : V → List V → Hp → VK → Prop := fun x xs H Q => ∃ a p, ∃ ys : List Str, x = .str a ∧ xs = [.ref p] ∧ (SqL K H p (ys.map V.str) ∨ SqT K H p (ys.map V.str)) ∧ (ys.map (·.length)).sum + ys.length * a.length ≤ 16777216 ∧ Q (.str (Txt.join a ys)) H
theorem pe_joinK {o e : Expr} {to te : TE} {apos pos : Pos} (h : X.K = K) (ho : PE X o to) (he : PE X e te) (hs : starEach [e] X.env = [(false, eval e X.env)] := by rfl) (hbase : attributeBase o "join" X.env (eval o X.env) = eval o X.env := by rfl)
    (hline : (apos.endLine == pos.line) = true := by rfl) : PE X (.Call (.Attribute o "join" apos) [e] [] pos) (tM1 (rJoin K) to te) := h ▸ pe_join ho he hs hbase hline
theorem pe_appK {o e : Expr} {to : TE} {t : TA} {apos cpos : Pos} (h : X.K = K) (ho : PE X o to) (ha : PA X [e] t) (h1 : PE X (.Call (.Attribute o "append" apos) [e] [] cpos) (tBM X.K "list" rAppend to t)) : PE X (.Call (.Attribute o "append" apos) [e] [] cpos) (tBM K "list" rAppend to t) := h ▸ h1
end
/-! ### texts by their codes -/
abbrev Wd := List Nat
def S (a : Wd) : Str := ⟨a.toArray⟩
def tx (a : Wd) : V := .str (S a)
theorem S_len (a : Wd) : (S a).length = a.length := by
  show a.toArray.size = a.length
  simp
theorem S_cps (a : Wd) : (S a).cps.toList = a := by simp [S]
theorem S_inj {a b : Wd} (h : S a = S b) : a = b := by
  have := congrArg (fun x : Str => x.cps.toList) h
  simpa [S] using this
theorem S_app (a b : Wd) : S a ++ S b = S (a ++ b) := by
  apply TL.ext_tl
  rw [TL.tl_append]
  simp [S, TL.tl]
theorem tx_eq (a b : Wd) : decide (tx a = tx b) = decide (a = b) := by
  by_cases h : a = b
  · subst h; simp
  · have : ¬ tx a = tx b := fun e => h (S_inj (V.str.inj e))
    simp [h, this]
theorem tx_inj {a b : Wd} (h : tx a = tx b) : a = b := S_inj (V.str.inj h)
theorem S_get (a : Wd) (i : Nat) : (S a).cps[i]? = a[i]? := by simp [S]
theorem S_cut (a : Wd) (lo hi : Option Int) : cutS (S a) lo hi = S ((a.drop (HT.sIx a.length 0 lo)).take (HT.sIx a.length a.length hi - HT.sIx a.length 0 lo)) := by
  unfold cutS
  rw [S_len, S_cps]
  rfl
/-- the signs of b alone -/
theorem strip_iff (a b : Wd) : (Txt.stripChars (S a) (S b) = S []) ↔ ∀ c ∈ a, c ∈ b := by
  unfold Txt.stripChars
  rw [PyProof.Rows.stripBy_eq]
  obtain ⟨l1, l2, l3⟩ := PyProof.Rows.lo_facts (S b).cps.contains (S a)
  obtain ⟨h1, h2, h3, h4⟩ := PyProof.Rows.hi_facts (S b).cps.contains (S a) _ l1
  generalize stripLo (S b).cps.contains true (S a) = lo at *
  generalize stripHi (S b).cps.contains true (S a) lo = hi at *
  have hg : ∀ k, k < a.length → (S a).cps.getD k 0 = a.getD k 0 := fun k hk => by
    simp [S, Array.getD, List.getD, hk]
  have hc : ∀ c, (S b).cps.contains c = decide (c ∈ b) := fun c => by simp [S]
  rw [S_len] at l1 l3 h2 h3
  have e : TL.tl (PySem.Builtin.Str.strSub (S a) lo hi) = (a.drop lo).take (hi - lo) := by
    rw [TL.tl_strSub]; simp [S, TL.tl]
  constructor
  · intro h c hm
    have e2 : (a.drop lo).take (hi - lo) = [] := by
      rw [← e, h]; simp [S, TL.tl]
    have hl : min (hi - lo) (a.length - lo) = 0 := by
      have := congrArg List.length e2
      simpa using this
    obtain ⟨k, hk, rfl⟩ := List.getElem_of_mem hm
    have hgo : (S b).cps.contains ((S a).cps.getD k 0) = true := by
      rcases Nat.lt_or_ge k lo with h0 | h0
      · exact l2 k h0
      · exact h3 k (by omega) hk
    rw [hg k hk, hc] at hgo
    have : a.getD k 0 = a[k] := by simp [List.getD, hk]
    rw [this] at hgo
    exact of_decide_eq_true hgo
  · intro h
    apply TL.ext_tl
    rw [e]
    have hlo : lo = a.length := by
      rcases l3 with h0 | h0
      · exact h0
      · rcases Nat.lt_or_ge lo a.length with hk | hk
        · rw [hg lo hk, hc] at h0
          have : a.getD lo 0 = a[lo] := by simp [List.getD, hk]
          rw [this] at h0
          have := h a[lo] (List.getElem_mem hk)
          simp [this] at h0
        · omega
    rw [hlo]
    simp [S, TL.tl]
def codes (s : Str) : Wd := s.cps.toList
theorem S_codes (s : Str) : S (codes s) = s := TL.ext_tl (by simp [S, TL.tl, codes])
theorem codes_S (a : Wd) : codes (S a) = a := by simp [S, codes]

/-! ### expressions -/
section
variable {K : PySem.W.Frag} {σ : L2.St} {H H' : Hp} {ta tb te tx' : TE} {t u : TT} {x y z v : V}
theorem ev_cS {s : Str} : Ev (tC (.str s)) σ H (tx (codes s)) := by
  unfold tx; rw [S_codes]; exact ev_c
theorem rv_add {i j : Int} : RV (rI0 fun i j => .int (i + j)) (.int i) (.int j) H (.int (i + j)) := rv_I0
theorem rv_sub {i j : Int} : RV (rI0 fun i j => .int (i - j)) (.int i) (.int j) H (.int (i - j)) := rv_I0
theorem rv_mul {i j : Int} (h : CMul i j) : RV (rI CMul fun i j => .int (i * j)) (.int i) (.int j) H (.int (i * j)) := rv_I h
theorem rv_fdiv {i j : Int} (h : CDiv i j) : RV (rI CDiv fun i j => .int (i / j)) (.int i) (.int j) H (.int (i / j)) := rv_I h
theorem rv_mod {i j : Int} (h : 0 < j) : RV (rI (fun _ j => 0 < j) fun i j => .int (i % j)) (.int i) (.int j) H (.int (i % j)) := rv_I (C := fun _ j => 0 < j) h
theorem rv_lt {i j : Int} : RV (rI0 fun i j => .bl (decide (i < j))) (.int i) (.int j) H (.bl (decide (i < j))) := rv_I0 (g := fun i j => V.bl (decide (i < j)))
theorem rv_le {i j : Int} : RV (rI0 fun i j => .bl (decide (i ≤ j))) (.int i) (.int j) H (.bl (decide (i ≤ j))) := rv_I0 (g := fun i j => V.bl (decide (i ≤ j)))
theorem rv_gt {i j : Int} : RV (rI0 fun i j => .bl (decide (j < i))) (.int i) (.int j) H (.bl (decide (j < i))) := rv_I0 (g := fun i j => V.bl (decide (j < i)))
theorem rv_ge {i j : Int} : RV (rI0 fun i j => .bl (decide (j ≤ i))) (.int i) (.int j) H (.bl (decide (j ≤ i))) := rv_I0 (g := fun i j => V.bl (decide (j ≤ i)))
theorem rv_eqI {i j : Int} : RV rEq (.int i) (.int j) H (.bl (decide (i = j))) := by
  have h := rv_eq (x := V.int i) (y := V.int j) (H := H) rfl
  have e : decide (V.int i = V.int j) = decide (i = j) := by simp
  rw [e] at h; exact h
theorem rv_eqB {i j : Bool} : RV rEq (.bl i) (.bl j) H (.bl (decide (i = j))) := by
  have h := rv_eq (x := V.bl i) (y := V.bl j) (H := H) rfl
  have e : decide (V.bl i = V.bl j) = decide (i = j) := by simp
  rw [e] at h; exact h
theorem rv_eqS {a b : Wd} : RV rEq (tx a) (tx b) H (.bl (decide (a = b))) := by
  have h := rv_eq (x := tx a) (y := tx b) (H := H) rfl
  rw [tx_eq] at h; exact h
theorem rv_neI {i j : Int} : RV rNe (.int i) (.int j) H (.bl (!decide (i = j))) := by
  have h := rv_ne (x := V.int i) (y := V.int j) (H := H) rfl
  have e : decide (V.int i = V.int j) = decide (i = j) := by simp
  rw [e] at h; exact h
theorem rv_neB {i j : Bool} : RV rNe (.bl i) (.bl j) H (.bl (!decide (i = j))) := by
  have h := rv_ne (x := V.bl i) (y := V.bl j) (H := H) rfl
  have e : decide (V.bl i = V.bl j) = decide (i = j) := by simp
  rw [e] at h; exact h
theorem rv_neS {a b : Wd} : RV rNe (tx a) (tx b) H (.bl (!decide (a = b))) := by
  have h := rv_ne (x := tx a) (y := tx b) (H := H) rfl
  rw [tx_eq] at h; exact h
theorem rv_addS {a b : Wd} (h : a.length + b.length ≤ 100000) : RV (fun x y H Q => ∃ i j, x = .str i ∧ y = .str j ∧ i.length + j.length ≤ sizeLine ∧ Q (.str (i ++ j)) H) (tx a) (tx b) H (tx (a ++ b)) := fun H1 _ Q q =>
  ⟨S a, S b, rfl, rfl, sz_of (by rw [S_len, S_len]; exact h), by rw [S_app]; exact q H1 (Ex.refl H1)⟩
theorem rv_ixW {a : Wd} {i : Int} {c : Nat} (h : a.length ≤ 100000) (ha : atI a i = some c) : RV rIxS (tx a) (.int i) H (tx [c]) := fun H1 _ _ q =>
  ⟨S a, i, c, rfl, rfl, sz_of (by rw [S_len]; exact h), by rw [S_cps]; exact ha, q H1 (Ex.refl H1)⟩
theorem rv_isB {a b : Bool} : RV rIsB (.bl a) (.bl b) H (.bl (decide (a = b))) := fun H1 _ _ q => ⟨a, b, rfl, rfl, q H1 (Ex.refl H1)⟩
theorem rv_notB {a b : Bool} : RV rNotB (.bl a) (.bl b) H (.bl (!decide (a = b))) := fun H1 _ _ q => ⟨a, b, rfl, rfl, q H1 (Ex.refl H1)⟩
/-- slices of texts -/
def cutW (a : Wd) (lo hi : Option Int) : Wd := (a.drop (HT.sIx a.length 0 lo)).take (HT.sIx a.length a.length hi - HT.sIx a.length 0 lo)
theorem ev_slS {a : Wd} {lo hi : Option Int} {tl th : TO} (h : Ev te σ H (tx a)) (h1 : EvO tl σ H lo) (h2 : EvO th σ H hi) (hs : a.length ≤ 100000) : Ev (tSl rSlS te tl th) σ H (tx (cutW a lo hi)) := fun H1 e _ q =>
  h H1 e _ fun H2 e2 => h1 H2 (e.trans e2) _ fun H3 e3 => h2 H3 ((e.trans e2).trans e3) _ fun H4 e4 =>
    ⟨S a, rfl, sz_of (by rw [S_len]; exact hs), by rw [S_cut]; exact q H4 ((e2.trans e3).trans e4)⟩
theorem sIx_nat' (n d : Nat) (i : Int) (k : Nat) (h : i = k) : HT.sIx n d (some i) = min k n := by
  subst h; exact HT.sIx_nat n d k
theorem drop_min (a : Wd) (i : Nat) : a.drop (min i a.length) = a.drop i := by
  rcases Nat.le_total i a.length with h | h
  · rw [Nat.min_eq_left h]
  · rw [Nat.min_eq_right h, List.drop_length, List.drop_eq_nil_of_le h]
theorem cut_nn (a : Wd) (i j : Nat) : cutW a (some (i : Int)) (some (j : Int)) = (a.drop i).take (j - i) := by
  unfold cutW
  rw [HT.sIx_nat, HT.sIx_nat, drop_min]
  rcases Nat.le_total i a.length with h | h
  · rcases Nat.le_total j a.length with h2 | h2
    · rw [Nat.min_eq_left h, Nat.min_eq_left h2]
    · rw [Nat.min_eq_left h, Nat.min_eq_right h2, List.take_of_length_le (by simp), List.take_of_length_le (by simp; omega)]
  · rw [List.drop_eq_nil_of_le h]; simp
theorem cut_from (a : Wd) (i : Nat) : cutW a (some (i : Int)) none = a.drop i := by
  unfold cutW
  rw [HT.sIx_nat, HT.sIx_none, drop_min]
  exact List.take_of_length_le (by simp; omega)
theorem cut_to (a : Wd) (j : Nat) : cutW a none (some (j : Int)) = a.take j := by
  unfold cutW
  rw [HT.sIx_nat, HT.sIx_none]
  show (a.drop 0).take (min j a.length - 0) = _
  rw [List.drop_zero, Nat.sub_zero]
  rcases Nat.le_total j a.length with h | h
  · rw [Nat.min_eq_left h]
  · rw [Nat.min_eq_right h, List.take_of_length_le (Nat.le_refl _), List.take_of_length_le h]
/-- len of a text -/
theorem ev_lenS {a : Wd} (h : Ev ta σ H (tx a)) (hs : a.length ≤ 100000) : Ev (tCB (fun xs H Q => ∃ x : Str, xs = [.str x] ∧ x.length ≤ sizeLine ∧ Q (.int x.length) H) (tCons ta tNil)) σ H (.int (a.length : Int)) := fun H1 e Q q =>
  h H1 e _ fun H2 e2 => ⟨S a, rfl, sz_of (by rw [S_len]; exact hs), by rw [S_len]; exact q H2 e2⟩
/-- strip -/
theorem ev_strip {a b : Wd} (h : Ev ta σ H (tx a)) (hb : Ev tb σ H (tx b)) (hs : a.length ≤ 100000) : Ev (tM1 (fun x xs H Q => ∃ a b, x = .str a ∧ xs = [.str b] ∧ a.length ≤ sizeLine ∧ Q (.str (Txt.stripChars a b)) H) ta tb) σ H (tx (codes (Txt.stripChars (S a) (S b)))) := fun H1 e Q q =>
  h H1 e _ fun H2 e2 => ⟨⟨S a, rfl⟩, hb H2 (e.trans e2) _ fun H3 e3 => ⟨S a, S b, rfl, rfl, sz_of (by rw [S_len]; exact hs), by
    have := q H3 (e2.trans e3)
    unfold tx at this; rw [S_codes] at this; exact this⟩⟩
/-- all, any, sum of a new list; len of one -/
theorem ev_all {bs : List Bool} (h : EvL ta σ H (bs.map V.bl)) : Ev (tCB (rAll K) (tCons ta tNil)) σ H (.bl (bs.all id)) := fun H1 e Q q =>
  h H1 e _ fun p H2 _ e2 h2 => ⟨p, bs, rfl, sq_of h2, q H2 e2⟩
theorem ev_any {bs : List Bool} (h : EvL ta σ H (bs.map V.bl)) : Ev (tCB (rAny K) (tCons ta tNil)) σ H (.bl (bs.any id)) := fun H1 e Q q =>
  h H1 e _ fun p H2 _ e2 h2 => ⟨p, bs, rfl, sq_of h2, q H2 e2⟩
theorem ev_sumN {ns : List Int} (h : EvL ta σ H (ns.map V.int)) : Ev (tCB (rSum K) (tCons ta tNil)) σ H (.int ns.sum) := fun H1 e Q q =>
  h H1 e _ fun p H2 _ e2 h2 => ⟨p, ns, rfl, sq_of h2, q H2 e2⟩
theorem ev_sum {ns : List Int} {p : Addr} (h : Ev ta σ H (.ref p)) (hs : SqL K H p (ns.map V.int)) : Ev (tCB (rSum K) (tCons ta tNil)) σ H (.int ns.sum) := fun H1 e Q q =>
  h H1 e _ fun H2 e2 => ⟨p, ns, rfl, ex_l (e.trans e2) hs, q H2 e2⟩
theorem ev_len' {p : Addr} {xs : List V} (ha : Ev ta σ H (.ref p)) (h : SqL K H p xs) : Ev (tCB (rLenQ K) (tCons ta tNil)) σ H (.int (xs.length : Int)) := fun H1 e Q q =>
  ha H1 e _ fun H2 e2 => ⟨p, xs, rfl, Or.inl (ex_l (e.trans e2) h), q H2 e2⟩
theorem ev_listOf {p : Addr} {xs : List V} (ha : Ev ta σ H (.ref p)) (h : SqL K H p xs) : EvL (tCB (rListQ K) (tCons ta tNil)) σ H xs := el_list ha h
theorem ev_lenL {xs : List V} (ha : EvL ta σ H xs) : Ev (tCB (rLenQ K) (tCons ta tNil)) σ H (.int (xs.length : Int)) := ev_lenN ha
/-- isinstance of a scalar -/
theorem ev_isi {T : String} {tv : Value} {b : Bool} (h : Ev ta σ H x) (hc : Ev tb σ H (.ty T)) (hx : ∀ H1, Ex H H1 → TyX K H1 x tv) (e : PySem.W.kitOne K tv (.type T) = some b) : Ev (tCB (rIsi K) (tCons ta (tCons tb tNil))) σ H (.bl b) := fun H1 e1 Q q =>
  h H1 e1 _ fun H2 e2 => hc H2 (e1.trans e2) _ fun H3 e3 => ⟨x, .ty T, tv, .type T, b, rfl, .ty T, hx H3 ((e1.trans e2).trans e3), e, q H3 (e2.trans e3)⟩
theorem ty_list {p : Addr} {xs : List V} (h : SqL K H p xs) : ∀ H1, Ex H H1 → TyX K H1 (.ref p) (.type "list") := fun H1 e => by
  rcases h with (h | ⟨o, h⟩) | ⟨o, its, n, h, hc, _⟩
  · exact .base (.lst (e p _ h))
  · exact .base (.frz (e p _ h))
  · exact .kList h hc
theorem ty_int {i : Int} : ∀ H1, Ex H H1 → TyX K H1 (.int i) (.type "int") := fun _ _ => .base (.int i)
theorem ty_bl {i : Bool} : ∀ H1, Ex H H1 → TyX K H1 (.bl i) (.type "bool") := fun _ _ => .base (.bl i)
theorem ty_str {a : Wd} : ∀ H1, Ex H H1 → TyX K H1 (tx a) (.type "str") := fun _ _ => .base (.str (S a))
/-- comparisons chained -/
theorem ev_chain {r r' : R2} {a b : Bool} (ha : Ev ta σ H x) (hb : Ev tb σ H y) (hc : Ev te σ H z) (h1 : RV r x y H (.bl a)) (h2 : a = true → RV r' y z H (.bl b)) : Ev (tChain r r' ta tb te) σ H (.bl (a && b)) := fun H1 e Q q =>
  ha H1 e _ fun H2 e2 => hb H2 (e.trans e2) _ fun H3 e3 => h1 H3 ((e.trans e2).trans e3) _ fun H4 e4 => ⟨a, rfl, by
    have e04 := ((e.trans e2).trans e3).trans e4
    cases a with
    | true =>
      show te σ H4 _
      exact hc H4 e04 _ fun H5 e5 => h2 rfl H5 (e04.trans e5) Q fun H6 e6 => q H6 ((((e2.trans e3).trans e4).trans e5).trans e6)
    | false =>
      show Q (.bl false) H4
      exact q H4 ((e2.trans e3).trans e4)⟩
/-! comprehensions over lists -/
theorem given_all {α : Type} (ys : List α) (g : α → V) (v : Nat → V) (hv : ∀ i y, ys[i]? = some y → v i = g y) : given ys.length (fun _ => true) v = ys.map g := by
  unfold given
  rw [List.filter_eq_self.mpr (fun _ _ => rfl)]
  apply List.ext_getElem?
  intro i
  rw [List.getElem?_map, List.getElem?_map]
  rcases Nat.lt_or_ge i ys.length with h | h
  · rw [List.getElem?_range h, List.getElem?_eq_getElem h]
    show some (v i) = some (g ys[i])
    rw [hv i ys[i] (List.getElem?_eq_getElem h)]
  · rw [List.getElem?_eq_none (by simpa using h), List.getElem?_eq_none h]; rfl
theorem given_take {α : Type} (ys : List α) (p : α → Bool) (g : α → V) (f : Nat → Bool) (v : Nat → V) (h : ∀ i y, ys[i]? = some y → f i = p y ∧ v i = g y) : ∀ n, n ≤ ys.length → given n f v = ((ys.take n).filter p).map g
  | 0, _ => by simp [given]
  | n + 1, hn => by
    have ih := given_take ys p g f v h n (by omega)
    have hy := h n ys[n] (List.getElem?_eq_getElem (by omega))
    rw [List.take_succ, List.getElem?_eq_getElem (show n < ys.length by omega), List.filter_append, List.map_append]
    cases hp : p ys[n] with
    | true =>
      rw [given_yes (by rw [hy.1, hp]), ih, hy.2]
      simp [hp]
    | false =>
      rw [given_no (by rw [hy.1, hp]), ih]
      simp [hp]
theorem given_filter {α : Type} (ys : List α) (p : α → Bool) (g : α → V) (f : Nat → Bool) (v : Nat → V) (h : ∀ i y, ys[i]? = some y → f i = p y ∧ v i = g y) : given ys.length f v = (ys.filter p).map g := by
  rw [given_take ys p g f v h ys.length (Nat.le_refl _), List.take_length]
theorem el_map {α : Type} {a : Addr} {ys : List α} {tl : TE} {j : Nat} {vs : List Nat} (φ g : α → V) (h : Ev tl σ H (.ref a)) (hx : SqL K H a (ys.map φ)) (hz : ys.length ≤ 40000) (hw : ∀ x, wipe ((wipe σ vs).set j (some x)) vs = wipe σ vs)
    (he : ∀ y, y ∈ ys → Ev te ((wipe σ vs).set j (some (φ y))) H (g y)) : EvL (tLc (iList K tl) (gName j) tYes te vs) σ H (ys.map g) := by
  rcases Nat.eq_zero_or_pos ys.length with hn | hn
  · have e0 : ys = [] := List.eq_nil_of_length_eq_zero hn
    subst e0
    have := el_lcL (t := tYes) (te := te) (j := j) (vs := vs) (fun _ => true) (fun _ => V.non) h hx (by simp) hw (fun i x H1 _ hi => by simp at hi) (fun i x H1 _ hi => by simp at hi)
    simpa [given] using this
  · let y0 := ys[0]
    have := el_lcL (t := tYes) (te := te) (j := j) (vs := vs) (fun _ => true) (fun i => g (ys.getD i y0)) h hx (by simpa using hz) hw (fun i x H1 _ hi H2 e2 Q q => q H2 (Ex.refl H2)) (fun i x H1 e1 hi _ => by
      rw [List.getElem?_map] at hi
      cases hy : ys[i]? with
      | none => rw [hy] at hi; cases hi
      | some y =>
        rw [hy] at hi
        have ex : φ y = x := Option.some.inj hi
        subst ex
        have eg : ys.getD i y0 = y := by simp [List.getD, hy]
        rw [eg]
        exact (he y (List.mem_of_getElem? hy)).mono e1)
    rw [List.length_map, given_all ys g _ (fun i y hy => by simp [List.getD, hy])] at this
    exact this
theorem el_filter {α : Type} {a : Addr} {ys : List α} {tl : TE} {j : Nat} {vs : List Nat} (φ g : α → V) (p : α → Bool) (h : Ev tl σ H (.ref a)) (hx : SqL K H a (ys.map φ)) (hz : ys.length ≤ 40000) (hw : ∀ x, wipe ((wipe σ vs).set j (some x)) vs = wipe σ vs)
    (ht : ∀ y, y ∈ ys → EvT t ((wipe σ vs).set j (some (φ y))) H (p y)) (he : ∀ y, y ∈ ys → p y = true → Ev te ((wipe σ vs).set j (some (φ y))) H (g y)) : EvL (tLc (iList K tl) (gName j) t te vs) σ H ((ys.filter p).map g) := by
  rcases Nat.eq_zero_or_pos ys.length with hn | hn
  · have e0 : ys = [] := List.eq_nil_of_length_eq_zero hn
    subst e0
    have := el_lcL (t := t) (te := te) (j := j) (vs := vs) (fun _ => true) (fun _ => V.non) h hx (by simp) hw (fun i x H1 _ hi => by simp at hi) (fun i x H1 _ hi => by simp at hi)
    simpa [given] using this
  · let y0 := ys[0]
    have key : ∀ (i : Nat) (x : V), (ys.map φ)[i]? = some x → ∃ y, y ∈ ys ∧ ys[i]? = some y ∧ φ y = x ∧ ys.getD i y0 = y := fun i x hi => by
      rw [List.getElem?_map] at hi
      cases hy : ys[i]? with
      | none => rw [hy] at hi; cases hi
      | some y =>
        rw [hy] at hi
        exact ⟨y, List.mem_of_getElem? hy, rfl, Option.some.inj hi, by simp [List.getD, hy]⟩
    have := el_lcL (t := t) (te := te) (j := j) (vs := vs) (fun i => p (ys.getD i y0)) (fun i => g (ys.getD i y0)) h hx (by simpa using hz) hw (fun i x H1 e1 hi => by
      obtain ⟨y, hm, _, rfl, eg⟩ := key i x hi
      rw [eg]; exact (ht y hm).mono e1) (fun i x H1 e1 hi hf => by
      obtain ⟨y, hm, _, rfl, eg⟩ := key i x hi
      rw [eg] at hf ⊢
      exact (he y hm hf).mono e1)
    rw [List.length_map, given_filter ys p g _ _ (fun i y hy => ⟨by simp [List.getD, hy], by simp [List.getD, hy]⟩)] at this
    exact this
/-- over a new list -/
theorem el_mapN {α : Type} {ys : List α} {tl : TE} {j : Nat} {vs : List Nat} (φ g : α → V) (h : EvL tl σ H (ys.map φ)) (hz : ys.length ≤ 40000) (hw : ∀ x, wipe ((wipe σ vs).set j (some x)) vs = wipe σ vs)
    (he : ∀ y, y ∈ ys → Ev te ((wipe σ vs).set j (some (φ y))) H (g y)) : EvL (tLc (iList K tl) (gName j) tYes te vs) σ H (ys.map g) := by
  rcases Nat.eq_zero_or_pos ys.length with hn | hn
  · have e0 : ys = [] := List.eq_nil_of_length_eq_zero hn
    subst e0
    have := el_lcNL (K := K) (t := tYes) (te := te) (j := j) (vs := vs) (fun _ => true) (fun _ => V.non) h (by simp) hw (fun i x H1 _ hi => by simp at hi) (fun i x H1 _ hi => by simp at hi)
    simpa [given] using this
  · let y0 := ys[0]
    have := el_lcNL (K := K) (t := tYes) (te := te) (j := j) (vs := vs) (fun _ => true) (fun i => g (ys.getD i y0)) h (by simpa using hz) hw (fun i x H1 _ hi H2 e2 Q q => q H2 (Ex.refl H2)) (fun i x H1 e1 hi _ => by
      rw [List.getElem?_map] at hi
      cases hy : ys[i]? with
      | none => rw [hy] at hi; cases hi
      | some y =>
        rw [hy] at hi
        have ex : φ y = x := Option.some.inj hi
        subst ex
        have eg : ys.getD i y0 = y := by simp [List.getD, hy]
        rw [eg]
        exact (he y (List.mem_of_getElem? hy)).mono e1)
    rw [List.length_map, given_all ys g _ (fun i y hy => by simp [List.getD, hy])] at this
    exact this
/-- over a range from 0 -/
theorem el_range {ta : TA} {j : Nat} {vs : List Nat} (n : Nat) (g : Nat → V) (h : EvA ta σ H [.int (n : Int)]) (hn : n ≤ 40000) (hw : ∀ x, wipe ((wipe σ vs).set j (some x)) vs = wipe σ vs)
    (he : ∀ i, i < n → Ev te ((wipe σ vs).set j (some (.int (i : Int)))) H (g i)) : EvL (tLc (iRng1 ta) (gName j) tYes te vs) σ H ((List.range n).map g) := by
  have := el_lcR1 (t := tYes) (te := te) (j := j) (vs := vs) (fun _ => true) g h ⟨by omega, by omega⟩ hw (fun i H1 _ hi H2 e2 Q q => q H2 (Ex.refl H2)) (fun i H1 e1 hi _ => (he i (by omega)).mono e1)
  have e : (n : Int).toNat = n := by omega
  rw [e] at this
  unfold given at this
  rw [List.filter_eq_self.mpr (fun _ _ => rfl)] at this
  exact this
/-! .. by the kind of the items -/
section
variable {α : Type} {a : Addr} {ys : List α} {tl : TE} {j : Nat} {vs : List Nat} {φ : α → V}
theorem el_mapB {g : α → Bool} (h : Ev tl σ H (.ref a)) (hx : SqL K H a (ys.map φ)) (hz : ys.length ≤ 40000) (hw : ∀ x, wipe ((wipe σ vs).set j (some x)) vs = wipe σ vs)
    (he : ∀ y, y ∈ ys → Ev te ((wipe σ vs).set j (some (φ y))) H (.bl (g y))) : EvL (tLc (iList K tl) (gName j) tYes te vs) σ H ((ys.map g).map V.bl) := by
  rw [List.map_map]; exact el_map φ (V.bl ∘ g) h hx hz hw he
theorem el_mapI {g : α → Int} (h : Ev tl σ H (.ref a)) (hx : SqL K H a (ys.map φ)) (hz : ys.length ≤ 40000) (hw : ∀ x, wipe ((wipe σ vs).set j (some x)) vs = wipe σ vs)
    (he : ∀ y, y ∈ ys → Ev te ((wipe σ vs).set j (some (φ y))) H (.int (g y))) : EvL (tLc (iList K tl) (gName j) tYes te vs) σ H ((ys.map g).map V.int) := by
  rw [List.map_map]; exact el_map φ (V.int ∘ g) h hx hz hw he
theorem el_mapS {g : α → Wd} (h : Ev tl σ H (.ref a)) (hx : SqL K H a (ys.map φ)) (hz : ys.length ≤ 40000) (hw : ∀ x, wipe ((wipe σ vs).set j (some x)) vs = wipe σ vs)
    (he : ∀ y, y ∈ ys → Ev te ((wipe σ vs).set j (some (φ y))) H (tx (g y))) : EvL (tLc (iList K tl) (gName j) tYes te vs) σ H ((ys.map g).map tx) := by
  rw [List.map_map]; exact el_map φ (tx ∘ g) h hx hz hw he
theorem el_mapNB {g : α → Bool} (h : EvL tl σ H (ys.map φ)) (hz : ys.length ≤ 40000) (hw : ∀ x, wipe ((wipe σ vs).set j (some x)) vs = wipe σ vs)
    (he : ∀ y, y ∈ ys → Ev te ((wipe σ vs).set j (some (φ y))) H (.bl (g y))) : EvL (tLc (iList K tl) (gName j) tYes te vs) σ H ((ys.map g).map V.bl) := by
  rw [List.map_map]; exact el_mapN φ (V.bl ∘ g) h hz hw he
theorem el_mapNS {g : α → Wd} (h : EvL tl σ H (ys.map φ)) (hz : ys.length ≤ 40000) (hw : ∀ x, wipe ((wipe σ vs).set j (some x)) vs = wipe σ vs)
    (he : ∀ y, y ∈ ys → Ev te ((wipe σ vs).set j (some (φ y))) H (tx (g y))) : EvL (tLc (iList K tl) (gName j) tYes te vs) σ H ((ys.map g).map tx) := by
  rw [List.map_map]; exact el_mapN φ (tx ∘ g) h hz hw he
theorem el_filterI {g : α → Int} {p : α → Bool} (h : Ev tl σ H (.ref a)) (hx : SqL K H a (ys.map φ)) (hz : ys.length ≤ 40000) (hw : ∀ x, wipe ((wipe σ vs).set j (some x)) vs = wipe σ vs)
    (ht : ∀ y, y ∈ ys → EvT t ((wipe σ vs).set j (some (φ y))) H (p y)) (he : ∀ y, y ∈ ys → p y = true → Ev te ((wipe σ vs).set j (some (φ y))) H (.int (g y))) : EvL (tLc (iList K tl) (gName j) t te vs) σ H (((ys.filter p).map g).map V.int) := by
  rw [List.map_map]; exact el_filter φ (V.int ∘ g) p h hx hz hw ht he
end
theorem el_rangeB {ta : TA} {j : Nat} {vs : List Nat} {n : Nat} {g : Nat → Bool} (h : EvA ta σ H [.int (n : Int)]) (hn : n ≤ 40000) (hw : ∀ x, wipe ((wipe σ vs).set j (some x)) vs = wipe σ vs)
    (he : ∀ i, i < n → Ev te ((wipe σ vs).set j (some (.int (i : Int)))) H (.bl (g i))) : EvL (tLc (iRng1 ta) (gName j) tYes te vs) σ H (((List.range n).map g).map V.bl) := by
  rw [List.map_map]; exact el_range n (V.bl ∘ g) h hn hw he
/-! ### straight code that gives back a value -/
def SEv (ts : TS) (σ : L2.St) (H : Hp) (v : V) : Prop := ∀ H1, Ex H H1 → ∀ D : Ends, (∀ H2, Ex H1 H2 → D.rt v H2) → ts D σ H1
theorem sev_run {ts : TS} {D : Ends} (h : SEv ts σ H v) (q : ∀ H2, Ex H H2 → D.rt v H2) : ts D σ H := h H (Ex.refl H) D q
theorem sev_is {ts : TS} {w : V} (h : SEv ts σ H v) (e : v = w) : SEv ts σ H w := by rw [← e]; exact h
theorem sev_ret (h : Ev te σ H v) : SEv (tRet te) σ H v := fun H1 e D k => h H1 e _ k
theorem sev_asg {i : Nat} {tz : TS} (h : Ev te σ H x) (k : SEv tz (σ.set i (some x)) H v) : SEv (tSeq (tAsg te (gName i)) tz) σ H v := fun H1 e D q =>
  h H1 e _ fun H2 e2 => k H2 (e.trans e2) D fun H3 e3 => q H3 (e2.trans e3)
theorem sev_when {b : Bool} {tu tz : TS} (h : EvT t σ H b) (k1 : b = true → SEv tu σ H v) (k2 : b = false → SEv tz σ H v) : SEv (tSeq (tIfS t tu tNext) tz) σ H v := fun H1 e D q =>
  h H1 e _ fun H2 e2 => by
    cases b with
    | true => exact k1 rfl H2 (e.trans e2) { D with nx := tz D } fun H3 e3 => q H3 (e2.trans e3)
    | false => exact k2 rfl H2 (e.trans e2) D fun H3 e3 => q H3 (e2.trans e3)
theorem sev_drop {tz : TS} (h : Ev te σ H x) (k : SEv tz σ H v) : SEv (tSeq (tDrop te) tz) σ H v := fun H1 e D q =>
  h H1 e _ fun H2 e2 => k H2 (e.trans e2) D fun H3 e3 => q H3 (e2.trans e3)
/-- code that falls through -/
def SNx (ts : TS) (σ : L2.St) (H : Hp) : Prop := ∀ H1, Ex H H1 → ∀ D : Ends, (∀ H2, Ex H1 H2 → D.nx σ H2) → ts D σ H1
theorem snx_skip {tu : TS} (h : EvT t σ H false) : SNx (tIfS t tu tNext) σ H := fun H1 e D q => h H1 e _ fun H2 e2 => q H2 e2
theorem snx_run {ts : TS} {D : Ends} (h : SNx ts σ H) (q : ∀ H2, Ex H H2 → D.nx σ H2) : ts D σ H := h H (Ex.refl H) D q
theorem sev_skip {tu tz : TS} (h : EvT t σ H false) (k : SEv tz σ H v) : SEv (tSeq (tIfS t tu tNext) tz) σ H v := fun H1 e D q =>
  h H1 e _ fun H2 e2 => k H2 (e.trans e2) D fun H3 e3 => q H3 (e2.trans e3)
/-- sep.join of a new list, the empty sep -/
theorem join_S (ys : List Wd) : Txt.join (S []) (ys.map S) = S ys.flatten := by
  apply TL.ext_tl
  rw [TL.join_eq, TL.tl_join, List.map_map]
  have h1 : TL.tl (S []) = [] := by simp [S, TL.tl]
  have h2 : ∀ zs : List Wd, TL.joinL [] zs = zs.flatten := by
    intro zs
    induction zs with
    | nil => rfl
    | cons z r ih =>
      cases r with
      | nil => simp [TL.joinL]
      | cons y r =>
        show z ++ ([] ++ TL.joinL [] (y :: r)) = _
        rw [ih]
        rfl
  have h3 : ys.map (TL.tl ∘ S) = ys := by
    have : (TL.tl ∘ S) = id := by funext a; simp [S, TL.tl]
    rw [this, List.map_id]
  rw [h1, h3, h2]
  simp [S, TL.tl]
theorem ev_join {ys : List Wd} (ha : Ev ta σ H (tx [])) (hb : EvL tb σ H (ys.map tx)) (hz : ys.flatten.length ≤ 100000) :
    Ev (tM1 (rJoin K) ta tb) σ H (tx ys.flatten) := fun H1 e Q q =>
  ha H1 e _ fun H2 e2 => ⟨⟨S [], rfl⟩, hb H2 (e.trans e2) _ fun p H3 hp e3 h3 => ⟨S [], p, ys.map S, rfl, rfl, .inl (sq_of (by rw [h3, List.map_map]; rfl)), by
    have h1 : (S []).length = 0 := by rw [S_len]; rfl
    have h2 : ((ys.map S).map (·.length)).sum = ys.flatten.length := by
      rw [List.map_map, List.length_flatten]
      exact congrArg List.sum (List.map_congr_left fun a _ => S_len a)
    rw [h1, h2]; omega, by rw [join_S]; exact q H3 (e2.trans e3)⟩⟩
/-! ### further loops -/
section
variable {D : Ends} {tu : TS}
theorem s_forRev {j : Nat} {n : Nat} (h : Ev ta σ H (.int (n : Int))) (hn : n ≤ 100000) (Pv : Nat → L2.St → Hp → Prop) (h0 : ∀ H1, Ex H H1 → Pv 0 σ H1)
    (hs : ∀ i σ' H', i < n → Pv i σ' H' → tu { D with nx := Pv (i + 1), ct := Pv (i + 1), bk := D.nx } (σ'.set j (some (.int ((n - 1 - i : Nat) : Int)))) H') (hd : ∀ σ' H', Pv n σ' H' → D.nx σ' H') :
    tFor (iRevR (tRg1 ta)) (gName j) tu D σ H :=
  h H (Ex.refl H) _ fun H1 e => ⟨(n : Int), rfl, by decide, by decide, by omega, by omega, by
    have e0 : ((n : Int) - 0).toNat = n := by omega
    rw [e0]
    refine for_rangeC Pv (h0 H1 e) (fun i σ' H' hi p => ?_) hd
    have e1 : (0 : Int) + (n : Int) - 1 + (i : Int) * (-1) = ((n - 1 - i : Nat) : Int) := by omega
    show tu _ (σ'.set j (some (.int ((0 : Int) + (n : Int) - 1 + (i : Int) * (-1))))) H'
    rw [e1]
    exact hs i σ' H' hi p⟩
theorem s_forEnum {i1 i2 : Nat} {a : Addr} {xs : List V} (h : Ev ta σ H (.ref a)) (hx : SqL K H a xs) (Pv : Nat → L2.St → Hp → Prop) (h0 : ∀ H1, Ex H H1 → Pv 0 σ H1) (hl : ∀ i σ' H', Pv i σ' H' → SqL K H' a xs)
    (hm : ∀ i σ' H' H'', Pv i σ' H' → Ex H' H'' → Pv i σ' H'')
    (hs : ∀ i x σ' H', xs[i]? = some x → Pv i σ' H' → tu { D with nx := Pv (i + 1), ct := Pv (i + 1), bk := D.nx } ((σ'.set i1 (some (.int (i : Int)))).set i2 (some x)) H') (hd : ∀ σ' H', Pv xs.length σ' H' → D.nx σ' H') :
    tFor (iEnum K (tCons ta tNil)) (gTup K 2 (gCons (gName i1) (gCons (gName i2) gNil))) tu D σ H :=
  h H (Ex.refl H) _ fun H1 e => ⟨a, xs, rfl, ex_l e hx, fun i m σ' H' => Pv i σ' H' ∧ i + m = xs.length, ⟨xs.length, h0 H1 e, by omega⟩, fun i m σ' H' hw => by
    obtain ⟨p, em⟩ := hw
    rcases Nat.lt_or_ge i xs.length with hi | hi
    · have hx' : xs[i]? = some xs[i] := List.getElem?_eq_getElem hi
      refine .inr ⟨⟨xs, xs[i], hl i σ' H' p, hx'⟩, Pv (i + 1), fun σ2 H2 p2 => ⟨m - 1, by omega, p2, by omega⟩, fun x H2 hy => ?_⟩
      obtain ⟨T, y, rfl, nT, rfl, f⟩ := hy
      have ey : y = xs[i] := Option.some.inj ((f xs (hl i σ' H' p)).symm.trans hx')
      subst ey
      refine ⟨T, [.int (i : Int), xs[i]], rfl, st_of upd_same, rfl, _, _, rfl, _, _, rfl, rfl, ?_⟩
      exact hs i xs[i] σ' _ hx' (hm i σ' H' _ p (Ex.new nT))
    · have ei : i = xs.length := by omega
      subst ei
      exact .inl ⟨⟨xs, hl _ σ' H' p, Nat.le_refl _⟩, hd σ' H' p⟩⟩
variable {tz : TS}
theorem q_forRev {j : Nat} {n : Nat} (h : Ev ta σ H (.int (n : Int))) (hn : n ≤ 100000) (Pv : Nat → L2.St → Hp → Prop) (h0 : ∀ H1, Ex H H1 → Pv 0 σ H1)
    (hs : ∀ i σ' H', i < n → Pv i σ' H' → tu { D with nx := Pv (i + 1), ct := Pv (i + 1), bk := tz D } (σ'.set j (some (.int ((n - 1 - i : Nat) : Int)))) H') (hd : ∀ σ' H', Pv n σ' H' → tz D σ' H') :
    tSeq (tFor (iRevR (tRg1 ta)) (gName j) tu) tz D σ H := s_forRev (D := { D with nx := tz D }) h hn Pv h0 hs hd
theorem q_forEnum {i1 i2 : Nat} {a : Addr} {xs : List V} (h : Ev ta σ H (.ref a)) (hx : SqL K H a xs) (Pv : Nat → L2.St → Hp → Prop) (h0 : ∀ H1, Ex H H1 → Pv 0 σ H1) (hl : ∀ i σ' H', Pv i σ' H' → SqL K H' a xs)
    (hm : ∀ i σ' H' H'', Pv i σ' H' → Ex H' H'' → Pv i σ' H'')
    (hs : ∀ i x σ' H', xs[i]? = some x → Pv i σ' H' → tu { D with nx := Pv (i + 1), ct := Pv (i + 1), bk := tz D } ((σ'.set i1 (some (.int (i : Int)))).set i2 (some x)) H') (hd : ∀ σ' H', Pv xs.length σ' H' → tz D σ' H') :
    tSeq (tFor (iEnum K (tCons ta tNil)) (gTup K 2 (gCons (gName i1) (gCons (gName i2) gNil))) tu) tz D σ H := s_forEnum (D := { D with nx := tz D }) h hx Pv h0 hl hm hs hd
/-- a list handed out by an own def, straight on -/
theorem q_dropS {tz : TS} (h : Ev te σ H x) (k : ∀ H1, Ex H H1 → tz D σ H1) : tSeq (tDrop te) tz D σ H := q_drop h k
theorem q_skip {t : TT} (h : EvT t σ H false) (k : ∀ H1, Ex H H1 → tz D σ H1) : tSeq (tIfS t tu tNext) tz D σ H := h H (Ex.refl H) _ fun H1 e => k H1 e
end
end
end Tr

set_option Elab.async false
set_option linter.all false
set_option maxRecDepth 100000
set_option maxHeartbeats 4000000
/-! TrD: dicts, lists of one kind compared, by Ev. -/
namespace Tr
open PySem PySem.Spec PyProof.Rows L2 Evl
section
variable {K : PySem.W.Frag} {σ : L2.St} {H H' : Hp} {ta tb te td ty tx' : TE} {t u : TT} {x y z v : V} {D : Ends} {tz tu : TS}
/-! ### dicts -/
theorem ev_dget {a : Addr} {kvs : List (Key × V)} {k : Key} (hd : Ev td σ H (.ref a)) (hi : Ev ty σ H (kV k)) (he : Rd H a (.dK kvs)) (hv : valV kvs k = some v) : Ev (tDGet td ty) σ H v := fun H1 e Q q =>
  hd H1 e _ fun H2 e2 => hi H2 (e.trans e2) _ fun H3 e3 => ⟨a, v, rfl, .inl ⟨kvs, k, ex_rd ((e.trans e2).trans e3) he, rfl, hv.symm⟩, q H3 (e2.trans e3)⟩
theorem ev_dget2 {a : Addr} {kvs : List (Key × V)} {k : Key} (hd : Ev td σ H (.ref a)) (hi : Ev ty σ H (kV k)) (hx : Ev tx' σ H x) (he : Rd H a (.dK kvs)) : Ev (tDGet2 td ty tx') σ H ((valV kvs k).getD x) := fun H1 e Q q =>
  hd H1 e _ fun H2 e2 => ⟨a, rfl, .inl ⟨kvs, ex_rd (e.trans e2) he⟩, hi H2 (e.trans e2) _ fun H3 e3 => hx H3 ((e.trans e2).trans e3) _ fun H4 e4 =>
    ⟨_, .inl ⟨kvs, k, ex_rd (((e.trans e2).trans e3).trans e4) he, rfl, rfl⟩, q H4 ((e2.trans e3).trans e4)⟩⟩
theorem ev_din {a : Addr} {kvs : List (Key × V)} {k : Key} (hi : Ev ty σ H (kV k)) (hd : Ev td σ H (.ref a)) (he : Rd H a (.dK kvs)) : Ev (tDIn ty td) σ H (.bl (valV kvs k).isSome) := fun H1 e Q q =>
  hi H1 e _ fun H2 e2 => hd H2 (e.trans e2) _ fun H3 e3 => ⟨a, _, rfl, .inl ⟨kvs, k, ex_rd ((e.trans e2).trans e3) he, rfl, rfl⟩, q H3 (e2.trans e3)⟩
theorem ev_dnotin {a : Addr} {kvs : List (Key × V)} {k : Key} (hi : Ev ty σ H (kV k)) (hd : Ev td σ H (.ref a)) (he : Rd H a (.dK kvs)) : Ev (tDNotIn ty td) σ H (.bl (!(valV kvs k).isSome)) := fun H1 e Q q =>
  hi H1 e _ fun H2 e2 => hd H2 (e.trans e2) _ fun H3 e3 => ⟨a, _, rfl, .inl ⟨kvs, k, ex_rd ((e.trans e2).trans e3) he, rfl, rfl⟩, q H3 (e2.trans e3)⟩
theorem s_dput {a : Addr} {kvs : List (Key × V)} {k : Key} {tv : TE} (hk : H a = some (.dK kvs)) (hv : Ev tv σ H v) (hd : Ev td σ H (.ref a)) (hi : Ev ty σ H (kV k)) (hz : kvs.length < 100000)
    (q : ∀ H1, Ex H H1 → D.nx σ (upd H1 a (.dK (putK kvs k v)))) : sDPut td ty tv D σ H := hv H (Ex.refl H) _ fun H1 e1 => hd H1 e1 _ fun H2 e2 => hi H2 (e1.trans e2) _ fun H3 e3 =>
  ⟨a, _, rfl, DPut.k (((e1.trans e2).trans e3) a _ hk) (sz_lt hz), q H3 ((e1.trans e2).trans e3)⟩
theorem q_dput {a : Addr} {kvs : List (Key × V)} {k : Key} {tv : TE} (hk : H a = some (.dK kvs)) (hv : Ev tv σ H v) (hd : Ev td σ H (.ref a)) (hi : Ev ty σ H (kV k)) (hz : kvs.length < 100000)
    (q : ∀ H1, Ex H H1 → tz D σ (upd H1 a (.dK (putK kvs k v)))) : tSeq (sDPut td ty tv) tz D σ H := s_dput (D := { D with nx := tz D }) hk hv hd hi hz q
theorem putK_len {κ : Type} [DecidableEq κ] (kvs : List (κ × V)) (k : κ) (v : V) : (putK kvs k v).length ≤ kvs.length + 1 := by
  unfold putK
  split
  · rw [List.length_map]; omega
  · rw [List.length_append]; simp
/-- x = {k: v} -/
theorem q_asgD1 {i : Nat} {k : Key} {tk tv : TE} (hk : Ev tk σ H (kV k)) (hv : Ev tv σ H v) (q : ∀ p H1, H p = none → Ex H H1 → H1 p = some (.dK [(k, v)]) → tz D (σ.set i (some (.ref p))) H1) : tSeq (tAsg (tDisp [(tk, tv)]) (gName i)) tz D σ H := fun p hp => by
  have e0 : Ex H (upd H p (.dK [])) := Ex.new hp
  refine hk _ e0 _ fun H2 e2 => hv H2 (e0.trans e2) _ fun H3 e3 => ?_
  have ep : H3 p = some (.dK []) := (e2.trans e3) p _ upd_same
  refine ⟨ep, [(k, v)], rfl, by simp, ?_⟩
  have em : mergeK [] [(k, v)] = [(k, v)] := by simp [mergeK, putK]
  rw [em]
  exact q p _ hp (Ex.mut ((e0.trans e2).trans e3) hp) upd_same
/-- x = {} -/
theorem q_asgD0 {i : Nat} (q : ∀ p, H p = none → tz D (σ.set i (some (.ref p))) (upd H p (.dK []))) : tSeq (tAsg tDNewK (gName i)) tz D σ H := fun p hp => q p hp
/-- if t: xs.append(e) -/
theorem q_ifApp {b : Bool} {l : Addr} {xs : List V} (hl : H l = some (.lst xs)) (h : EvT t σ H b) (ha : Ev ta σ H (.ref l)) (hx : b = true → Ev te σ H v) (hz : xs.length < 100000)
    (k : ∀ H0, Ex H H0 → tz D σ (upd H0 l (.lst (if b = true then xs ++ [v] else xs)))) : tSeq (tIfS t (tDrop (tBM K "list" rAppend ta (tCons te tNil))) tNext) tz D σ H := by
  refine q_when h (fun hb H1 e1 => ?_) (fun hb H1 e1 => ?_)
  · refine s_app (e1 l _ hl) (ha.mono e1) ((hx hb).mono e1) hz fun H2 e2 => ?_
    have := k H2 (e1.trans e2)
    rw [if_pos hb] at this
    exact this
  · have := k H1 e1
    rw [if_neg (by rw [hb]; decide)] at this
    have e : upd H1 l (.lst xs) = H1 := by
      funext a
      by_cases ha : a = l
      · subst ha; rw [upd_same, e1 _ _ hl]
      · rw [upd_ne ha]
    rw [e] at this
    exact this
/-! ### a value that is a list by now -/
def EvQ (K : PySem.W.Frag) (te : TE) (σ : L2.St) (H : Hp) (xs : List V) : Prop := ∀ H1, Ex H H1 → ∀ Q : VK, (∀ p H2, Ex H1 H2 → SqL K H2 p xs → Q (.ref p) H2) → te σ H1 Q
theorem eq_at {p : Addr} {xs : List V} (h : Ev te σ H (.ref p)) (hs : SqL K H p xs) : EvQ K te σ H xs := fun H1 e Q q => h H1 e _ fun H2 e2 => q p H2 e2 (ex_l (e.trans e2) hs)
theorem eq_new {xs : List V} (h : EvL te σ H xs) : EvQ K te σ H xs := fun H1 e Q q => h H1 e _ fun p H2 _ e2 h2 => q p H2 e2 (sq_of h2)
theorem EvQ.mono {xs : List V} (e : Ex H H') (h : EvQ K te σ H xs) : EvQ K te σ H' xs := fun H1 a Q q => h H1 (e.trans a) Q q
/-! ### data of one kind -/
structure Enc {α : Type} [DecidableEq α] (φ : α → V) (δ : α → PyData) (ok : α → Prop) : Prop where
  dp : ∀ (K : PySem.W.Frag) (H : Hp) a, Dp K H (φ a) (δ a)
  lay : ∀ a, ok a → (δ a).canLay0 = true
  depth : ∀ a, (δ a).depth = 0
  eqv : ∀ a b, PyData.eqv (δ a) (δ b) = decide (a = b)
theorem enc_int : Enc V.int PyData.int (fun _ => True) := ⟨fun _ _ i => .int i, fun _ _ => by simp [PyData.canLay0], fun _ => by simp [PyData.depth], fun a b => by
  simp only [PyData.eqv]; by_cases h : a = b <;> simp [h]⟩
theorem enc_bl : Enc V.bl PyData.bool (fun _ => True) := ⟨fun _ _ i => .bl i, fun _ _ => by simp [PyData.canLay0], fun _ => by simp [PyData.depth], fun a b => by
  simp only [PyData.eqv]; by_cases h : a = b <;> simp [h]⟩
def okC (a : Wd) : Prop := ∀ c ∈ a, c < 0x110000
theorem enc_tx : Enc tx (fun a => PyData.str (S a)) okC := ⟨fun _ _ a => .str (S a), fun a h => by
    rw [PyData.canLay0]
    unfold PyData.strOk
    rw [Array.all_eq_true_iff_forall_mem]
    intro c hc
    exact decide_eq_true (h c (by simpa [S] using hc)), fun _ => by simp [PyData.depth], fun a b => by
  simp only [PyData.eqv]
  by_cases h : a = b
  · subst h; simp
  · have : ¬ S a = S b := fun e => h (S_inj e)
    simp [h, this]⟩
section
variable {α : Type} [DecidableEq α] {φ : α → V} {δ : α → PyData} {ok : α → Prop}
theorem enc_all (E : Enc φ δ ok) (K : PySem.W.Frag) (H : Hp) : ∀ xs : List α, DpAll K H (xs.map φ) (xs.map δ)
  | [] => .nil
  | x :: xs => .cons (E.dp K H x) (enc_all E K H xs)
theorem enc_lay (E : Enc φ δ ok) : ∀ xs : List α, (∀ x ∈ xs, ok x) → PyData.canLayAll0 (xs.map δ) = true
  | [], _ => by simp [PyData.canLayAll0]
  | x :: xs, h => by
    rw [List.map_cons, PyData.canLayAll0, E.lay x (h x (by simp)), enc_lay E xs fun y hy => h y (by simp [hy])]
    rfl
theorem enc_depth (E : Enc φ δ ok) : ∀ xs : List α, PyData.depthAll (xs.map δ) = 0
  | [] => by simp [PyData.depthAll]
  | x :: xs => by
    rw [List.map_cons, PyData.depthAll, E.depth x, enc_depth E xs]
    rfl
theorem enc_eqv (E : Enc φ δ ok) : ∀ xs ys : List α, PyData.eqvAll (xs.map δ) (ys.map δ) = decide (xs = ys)
  | [], [] => by simp [PyData.eqvAll]
  | [], _ :: _ => by simp [PyData.eqvAll]
  | _ :: _, [] => by simp [PyData.eqvAll]
  | x :: xs, y :: ys => by
    rw [List.map_cons, List.map_cons, PyData.eqvAll, E.eqv x y, enc_eqv E xs ys]
    by_cases h1 : x = y <;> by_cases h2 : xs = ys <;> simp [h1, h2]
theorem enc_shaped (E : Enc φ δ ok) (xs : List α) (h : ∀ x ∈ xs, ok x) : SeqAt.shaped (.list (xs.map δ)) = true := by
  unfold SeqAt.shaped
  rw [PyData.canLay0, enc_lay E xs h, PyData.depth, enc_depth E xs]
  rfl
theorem rv_eqLs {a b : Addr} {xs ys : List α} (E : Enc φ δ ok) (ha : SqL K H a (xs.map φ)) (hb : SqL K H b (ys.map φ)) (h1 : ∀ x ∈ xs, ok x) (h2 : ∀ x ∈ ys, ok x) : RV (rEqD K) (.ref a) (.ref b) H (.bl (decide (xs = ys))) := fun H1 e Q q =>
  ⟨.list (xs.map δ), .list (ys.map δ), .lst (ex_l e ha) (enc_all E K H1 xs), .lst (ex_l e hb) (enc_all E K H1 ys), enc_shaped E xs h1, enc_shaped E ys h2, by
    rw [PyData.eqv, enc_eqv E xs ys]
    exact q H1 (Ex.refl H1)⟩
theorem rv_neLs {a b : Addr} {xs ys : List α} (E : Enc φ δ ok) (ha : SqL K H a (xs.map φ)) (hb : SqL K H b (ys.map φ)) (h1 : ∀ x ∈ xs, ok x) (h2 : ∀ x ∈ ys, ok x) : RV (rNeD K) (.ref a) (.ref b) H (.bl (!decide (xs = ys))) := fun H1 e Q q =>
  ⟨.list (xs.map δ), .list (ys.map δ), .lst (ex_l e ha) (enc_all E K H1 xs), .lst (ex_l e hb) (enc_all E K H1 ys), enc_shaped E xs h1, enc_shaped E ys h2, by
    rw [PyData.eqv, enc_eqv E xs ys]
    exact q H1 (Ex.refl H1)⟩
theorem ev_eqQ {xs ys : List α} (E : Enc φ δ ok) (ha : EvQ K ta σ H (xs.map φ)) (hb : EvQ K tb σ H (ys.map φ)) (h1 : ∀ x ∈ xs, ok x) (h2 : ∀ x ∈ ys, ok x) : Ev (tOp (rEqD K) ta tb) σ H (.bl (decide (xs = ys))) := fun H1 e Q q =>
  ha H1 e _ fun p H2 e2 s2 => hb H2 (e.trans e2) _ fun p3 H3 e3 s3 => rv_eqLs E (ex_l e3 s2) s3 h1 h2 H3 (Ex.refl H3) Q fun H4 e4 => q H4 ((e2.trans e3).trans e4)
theorem ev_neQ {xs ys : List α} (E : Enc φ δ ok) (ha : EvQ K ta σ H (xs.map φ)) (hb : EvQ K tb σ H (ys.map φ)) (h1 : ∀ x ∈ xs, ok x) (h2 : ∀ x ∈ ys, ok x) : Ev (tOp (rNeD K) ta tb) σ H (.bl (!decide (xs = ys))) := fun H1 e Q q =>
  ha H1 e _ fun p H2 e2 s2 => hb H2 (e.trans e2) _ fun p3 H3 e3 s3 => rv_neLs E (ex_l e3 s2) s3 h1 h2 H3 (Ex.refl H3) Q fun H4 e4 => q H4 ((e2.trans e3).trans e4)
end
/-- a new list of what follows -/
theorem el_lst0 : EvL (tLst tNil) σ H [] := el_lst ea_nil (by simp)
end
end Tr

set_option Elab.async false
set_option linter.all false
set_option maxRecDepth 100000
set_option maxHeartbeats 4000000
/-! TrH: any(list) and isinstance within an except suite. -/
namespace Tr
open PySem PySem.Spec PyProof.Rows L2 Evl HotX L2H
section
variable {prog : Program} {w : World} {A : Around} {E : Value → Shared → Prop} {s : Shared}
theorem list_end_hot {it l x1 : Addr} {i : Nat} {items : Array Value} {Q : Option Value → Shared → Prop} (hot : HotAt A x1 s.heap) (hne : it ≠ x1)
    (hit : s.heap.IsListIter it l i) (hl : s.heap.IsList l items) (hx : items[i]? = none)
    (hQ : ∀ h', Heap.ExtBut it s.heap h' → Q none { s with heap := h' }) : wpAny (model prog w) A (pyNext (.ref it)) Q E s := by
  obtain ⟨o, ho, hc, hd⟩ := id hit
  obtain ⟨ol, hol, _, nl, hdl⟩ := hl
  obtain ⟨hh, o1, vs1, h1, d1, c1⟩ := hot
  unfold pyNext
  refine wpAny_bind (wpAny_attempt (wpAny_callSpecial?_slot (name := Str.ofString "__next__") hit.typeIs slot_listiter_next
    (wpAny_call_entry slot_listiter_next hit.typeIs entry_listiter_next ?_ (args_listiter_next _))))
  show wpAny _ _ (field (.ref it) 0 >>= _) _ _ s
  refine wpAny_bind (wpAny_field ho hd (x := .ref l) rfl ?_)
  show wpAny _ _ (if (Value.ref l == Value.none) = true then _ else _) _ _ s
  rw [if_neg (show ¬ ((Value.ref l == Value.none) = true) from Bool.false_ne_true)]
  show wpAny _ _ (field (.ref it) 1 >>= _) _ _ s
  refine wpAny_bind (wpAny_field ho hd (x := .int i 0) rfl ?_)
  show wpAny _ _ (seqItems? (.ref l) >>= _) _ _ s
  refine wpAny_bind (wpAny_seqItems hol hdl ?_)
  simp only [Int.toNat_natCast, hx]
  refine wpAny_bind (wpAny_rule (wpAny_bind (wpAny_setField ho hd (by simp) ?_)))
  have h1' : (s.heap.update it (Obj.mapFields (·.setIfInBounds 0 Value.none))).get? x1 = some o1 := by
    rw [Heap.get?_update_other _ _ hne]; exact h1
  have sb : Heap.ExtBut it s.heap (s.heap.update it (Obj.mapFields (·.setIfInBounds 0 Value.none))) := (Heap.SameBut.update ..).extBut
  generalize s.heap.update it (Obj.mapFields (·.setIfInBounds 0 Value.none)) = hp at *
  show wpAny _ _ (newExc (.type "StopIteration") [] >>= _) _ _ _
  refine wpAny_bind ?_
  simp only [newExc, newTuple]
  refine wpAny_bind (wpAny_newObj_type ?_ (by size_fits))
  refine wpAny_bind (m := firstArgMember _ _) (wpAny_of_eq (a := Value.none) (by first | rfl | (simp only [firstArgMember]; rfl)) ?_)
  refine wpAny_newObj_type ?_ (by size_fits)
  refine raiseNew_hot ⟨hh, o1, vs1, Heap.get?_push_of_some _ (Heap.get?_push_of_some _ h1'), d1, c1⟩ (Nat.ne_of_lt (Heap.lt_size (Heap.get?_push_of_some _ h1'))) (Heap.get?_push_size _ rfl) rfl (by first | (simp; done) | (simp; omega) | (simp only [Array.size_append]; simp; omega)) ?_
  refine wpAny_bind (wpAny_isInstance (T := "StopIteration") (b := true) ⟨_, Heap.get?_update_self _ (Heap.get?_push_size _ rfl) rfl, rfl⟩ isSubtype_stop ?_)
  refine wpAny_pure (hQ _ fun b o hb e => ?_)
  have e2 := sb b o hb e
  rw [Heap.get?_update_other _ _ (Nat.ne_of_gt (Heap.lt_size (Heap.get?_push_of_some _ e2)))]
  exact Heap.get?_push_of_some _ (Heap.get?_push_of_some _ e2)
theorem walks_listHot (x1 : Addr) (hA : A.handled = some (.ref x1)) (I ax : Addr) (hne : ax ≠ I) (hI : I ≠ x1) (items : Array Value) :
    Walks prog w A I [I, ax, x1] [I] items.size (fun i v => items[i]? = some v) (fun i h => h.IsListIter I ax i ∧ h.IsList ax items ∧ HotAt A x1 h) where
  sub := fun b hb => by simp at hb; simp [hb]
  frame := fun _ _ _ st hk => ⟨st.1.at fun o e => hk I (by simp) o e, st.2.1.at fun o e => hk ax (by simp) o e, by
    obtain ⟨hh, o1, vs1, h1, d1, c1⟩ := st.2.2
    exact ⟨hh, o1, vs1, hk x1 (by simp) _ h1, d1, c1⟩⟩
  item := fun i s Q E hi st hQ => by
    refine wpAny_pyNext_list_item st.1 st.2.1 (x := items[i]) (by simp [hi]) fun h' hit' hs' => ?_
    refine hQ _ h' s.toks (by simp [hi]) ⟨hit', st.2.1.extBut hs'.extBut hne, ?_⟩ fun b o hb e => hs'.extBut b o (fun h => hb (by simp [h])) e
    obtain ⟨hh, o1, vs1, h1, d1, c1⟩ := st.2.2
    exact ⟨hh, o1, vs1, hs'.extBut x1 o1 (Ne.symm hI) h1, d1, c1⟩
  done := fun s Q E st hQ => list_end_hot st.2.2 hI st.1 st.2.1 (by simp) fun h' he' => hQ h' s.toks fun b o hb e => he' b o (fun h => hb (by simp [h])) e
  self := fun _ _ _ _ st hQ => wpAny_pyIter_listiter st.1 hQ
end
theorem cr_anyH {X : Cx} {K : PySem.W.Frag} (hK : X.K = K) (c : HotC X) : CallR X (.builtin "any") (rAny K) := by
  subst hK
  intro pins s σ H vs us Q I r h
  obtain ⟨a, bs, rfl, hs, q⟩ := h
  obtain ⟨its, rv, hl, _⟩ := I.list hs
  obtain ⟨x1, hh, o1, vs1, h1, d1, c1⟩ := c.at I
  rw [Vals.ref1 r]
  have hb := rv.bls
  refine call_any_walk (iter_any hl.isList fun s₂ e2 st hne => ?_)
  subst e2
  have hI : s.heap.objs.size ≠ x1 := Nat.ne_of_gt (Heap.lt_size h1)
  refine ⟨_, _, _, _, _, _, _, rfl, walks_listHot (A := X.A.in1) x1 hh _ a hne hI its.toArray, ⟨st.1, st.2, hh, o1, vs1, Heap.get?_push_of_some _ h1, d1, c1⟩, truth_bools hb, fun h' tk hk => ?_⟩
  refine ⟨.bl _, H, I.kept fun b o eo => hk b o (fun hmem => ?_) (Heap.get?_push_of_some _ eo), ?_, q⟩
  · rcases List.mem_cons.mp hmem with e1 | hmem
    · exact absurd (e1 ▸ Heap.lt_size eo) (Nat.lt_irrefl _)
    · cases hmem
  · show Value.bool _ = Value.bool _
    rw [← L2.any_range, hb, List.size_toArray, List.length_map]
/-! ### isinstance of what the suite has caught -/
theorem hotC_of {X : Cx} {a : Addr} {oe : Obj} {cls : Value} {d : Option Addr} {pn : List (Addr × Obj)} (hz : L2N.Zn cls d oe) (hf : ∃ vs, oe.data = .fields vs) : HotC (X.suite a ((a, oe) :: pn)) := by
  obtain ⟨vs, hv⟩ := hf
  exact ⟨(a, oe), ⟨rfl, vs, hv, hz.2.2 vs hv⟩, List.mem_cons_self⟩
def rIsA (K : PySem.W.Frag) (cls : Value) (d : Option Addr) (a : Addr) : List V → Hp → VK → Prop := fun xs H Q => ∃ (D : Addr) (c : V) (cv : Value) (b : Bool), cls = .ref D ∧ d = none ∧ ExcC K D ∧ xs = [.ref a, c] ∧ (∀ u, RelV c u → u = cv) ∧ PySem.W.kitOne K (.ref D) cv = some b ∧ Q (.bl b) H
theorem call_isA {X : Cx} {K : PySem.W.Frag} {a : Addr} {oe : Obj} {cls : Value} {d : Option Addr} {pn : List (Addr × Obj)} (hK : X.K = K) (hz : L2N.Zn cls d oe) (hf : ∃ vs, oe.data = .fields vs) : CallR (X.suite a ((a, oe) :: pn)) (.builtin "isinstance") (rIsA K cls d a) := by
  subst hK
  intro pins s σ H xs us Q I r h
  obtain ⟨D, c, cv, b, rfl, rfl, C, e, h1, h2, q⟩ := h
  exact call_isE C hz.zc hf pins s σ H xs us Q I r ⟨c, cv, b, e, h1, h2, q⟩
section
variable {K : PySem.W.Frag} {σ : L2.St} {H : Hp} {ta tb : TE}
theorem ev_isA {D a : Addr} {c : V} {cv : Value} {b : Bool} (C : ExcC K D) (ha : Ev ta σ H (.ref a)) (hc : Ev tb σ H c) (hv : ∀ u, RelV c u → u = cv) (e : PySem.W.kitOne K (.ref D) cv = some b) : Ev (tCB (rIsA K (.ref D) none a) (tCons ta (tCons tb tNil))) σ H (.bl b) := fun H1 e1 Q q =>
  ha H1 e1 _ fun H2 e2 => hc H2 (e1.trans e2) _ fun H3 e3 => ⟨D, c, cv, b, rfl, rfl, C, rfl, hv, e, q H3 (e2.trans e3)⟩
theorem ev_anyA {bs : List Bool} {p : Addr} (h : Ev ta σ H (.ref p)) (hs : SqL K H p (bs.map V.bl)) : Ev (tCB (rAny K) (tCons ta tNil)) σ H (.bl (bs.any id)) := fun H1 e Q q =>
  h H1 e _ fun H2 e2 => ⟨p, bs, rfl, ex_l (e.trans e2) hs, q H2 e2⟩
/-- try: f(..) except c as n: what f raises, of one class alone, is caught -/
theorem q_tryCall {sp : Sp} {tz : TS} {ta : TA} {vs : List V} {c : Value} {i : Nat} {ts : Addr → Value → Option Addr → TS} {Wout : WX} {D : Ends} (C : Addr) (ha : EvA ta σ H vs) (hc : PySem.W.exmOne K (.ref C) c = some true)
    (h : ∀ H1, Ex H H1 → ∀ (Q : VK) (E : XK), (∀ H2, Ex H1 H2 → E (.ref C) none H2) → sp vs H1 Q E)
    (k : ∀ H1, Ex H H1 → ∀ a, H1 a = none → ts a (.ref C) none { nx := fun σ' H' => tz D (σ'.set i none) H', rt := D.rt, bk := fun σ' H' => D.bk (σ'.set i none) H', ct := fun σ' H' => D.ct (σ'.set i none) H' } (σ.set i (some (.ref a))) H1) :
    tSeq (fun D σ H => tDrop (tCallS sp (WE (wAs K c i ts Wout D)) ta) D σ H) tz D σ H := ha H (Ex.refl _) _ fun H1 e1 => h H1 e1 _ _ fun H2 e2 =>
  ⟨true, hc, fun _ a na => k H2 (e1.trans e2) a na, fun z => nomatch z⟩
end
end Tr

set_option Elab.async false
set_option linter.all false
set_option maxRecDepth 100000
set_option maxHeartbeats 4000000
/-! TrE: values told by a property (EvP), calls of what an expression gives, raising calls within a try. -/
namespace Tr
open PySem PySem.Spec PyProof.Rows L2 Evl
/-! ### a call f(e, ..) where f is a subscript -/
theorem arm_call_sub (a b : Expr) (sp : Pos) (args : List Expr) (keywords : List Keyword) (pos : Pos) (env : Env) : eval (.Call (.Subscript a b sp) args keywords pos) env = (do
    callWith pos (← eval (.Subscript a b sp) env) [] (backTo pos (starEach args env)) (backToKw pos (keywordEach keywords env))) := rfl
structure HeldE (P : Program) (w : World) (K : PySem.W.Frag) (mg : Str → Option Value) (base : Heap) (j : Nat) (f : Addr) (sp : Sp) : Prop where
  ex : ∃ (k : Nat) (fd : FuncData) (ps : List Str), k ≤ j ∧ FnOk P w K mg base (L2N.CX P w) k f fd ps sp ∧ PySem.W.keepIn K (.ref f) = true ∧ Binds K fd ps []
def tCallE (HD : Addr → Sp → Prop) (E : XK) (tf : TE) (t : TA) : TE := fun σ H Q => tf σ H fun v H1 => ∃ f sp, v = .ref f ∧ HD f sp ∧ t σ H1 fun vs H2 => sp vs H2 Q E
section
variable {X : Cx} {j : Nat} {p pos spos : Pos} {a b e : Expr} {es : List Expr} {t : TA} {tf : TE}
theorem pe_callE {E : XK} (tk : L2N.Takes X fun cls d _ H => E cls d H) (hr : Room j X.A) (hf : PE X (.Subscript a b spos) tf) (ha : PA X (e :: es) t)
    (he : starEach (e :: es) X.env = (false, eval e X.env) :: starEach es X.env := by rfl) (hpl : (backTo pos (starEach es X.env)).any (·.1) = false := by rfl) :
    PE X (.Call (.Subscript a b spos) (e :: es) [] pos) (tCallE (HeldE X.prog X.w X.K X.mg X.base j) E tf t) := by
  refine ⟨fun pins s σ H Q I h => ?_⟩
  rw [arm_call_sub]
  refine wpAny_bind (thn (hf.run pins s σ H _ I h) fun u s1 ⟨v, H1, I1, r1, f, sp, ev, hd, ht⟩ => ?_)
  subst ev
  cases r1
  obtain ⟨k, fd, ps, hkj, F, hk, hb⟩ := hd.ex
  refine PySem.W.callWith_K (h₀ := X.base) I1.ok.mod.kin hk (thn (ha.run pos pins s1 σ H1 _ I1 ht) fun us s2 ⟨vs, H2, I2, r, q⟩ => ⟨I2.kIn, ?_⟩) he hpl
  exact run_fn F (hr.mono hkj) hb .nil (L2N.passes_call tk fun _ _ _ _ h => h) I2 r (by rw [List.append_nil]; exact q)
end
section
variable {K : PySem.W.Frag} {σ : L2.St} {H H' : Hp} {ta tb te : TE} {t tr : TA} {v : V} {D : Ends} {tz : TS} {B C : Hp → V → Prop}
/-! ### values told by a property -/
def EvP (te : TE) (σ : L2.St) (H : Hp) (B : Hp → V → Prop) : Prop := ∀ H1, Ex H H1 → ∀ Q : VK, (∀ v H2, Ex H1 H2 → B H2 v → Q v H2) → te σ H1 Q
def EvAQ (ta : TA) (σ : L2.St) (H : Hp) (B : Hp → List V → Prop) : Prop := ∀ H1, Ex H H1 → ∀ Q : List V → Hp → Prop, (∀ vs H2, Ex H1 H2 → B H2 vs → Q vs H2) → ta σ H1 Q
def Up {α : Type} (B : Hp → α → Prop) : Prop := ∀ H H' v, Ex H H' → B H v → B H' v
theorem EvP.mono (e : Ex H H') (h : EvP te σ H B) : EvP te σ H' B := fun H1 a Q q => h H1 (e.trans a) Q q
theorem ep_ev (h : Ev te σ H v) (hb : ∀ H1, Ex H H1 → B H1 v) : EvP te σ H B := fun H1 e Q q => h H1 e _ fun H2 e2 => q v H2 e2 (hb H2 (e.trans e2))
theorem ep_el {xs : List V} (h : EvL te σ H xs) (hb : ∀ p H1, Ex H H1 → H1 p = some (.lst xs) → B H1 (.ref p)) : EvP te σ H B := fun H1 e Q q => h H1 e _ fun p H2 _ e2 hp => q _ H2 e2 (hb p H2 (e.trans e2) hp)
theorem ep_eu {xs : List V} (h : EvU te σ H xs) (hb : ∀ p H1, Ex H H1 → H1 p = some (.tup xs) → B H1 (.ref p)) : EvP te σ H B := fun H1 e Q q => h H1 e _ fun p H2 _ e2 hp => q _ H2 e2 (hb p H2 (e.trans e2) hp)
theorem ep_weak (h : EvP te σ H B) (hb : ∀ H1 v, Ex H H1 → B H1 v → C H1 v) : EvP te σ H C := fun H1 e Q q => h H1 e _ fun v H2 e2 b => q v H2 e2 (hb H2 v (e.trans e2) b)
theorem eaq_weak {B C : Hp → List V → Prop} (h : EvAQ t σ H B) (hb : ∀ H1 v, Ex H H1 → B H1 v → C H1 v) : EvAQ t σ H C := fun H1 e Q q => h H1 e _ fun v H2 e2 b => q v H2 e2 (hb H2 v (e.trans e2) b)
theorem eaq_nil : EvAQ tNil σ H (fun _ vs => vs = []) := fun H1 _ Q q => q [] H1 (Ex.refl H1) rfl
theorem eaq_cons {P : Hp → List V → Prop} (u : Up B) (h : EvP te σ H B) (hr : EvAQ tr σ H P) : EvAQ (tCons te tr) σ H (fun H vs => ∃ v r, vs = v :: r ∧ B H v ∧ P H r) := fun H1 e Q q =>
  h H1 e _ fun v H2 e2 b => hr H2 (e.trans e2) _ fun vs H3 e3 hp => q _ H3 (e2.trans e3) ⟨v, vs, rfl, u _ _ _ e3 b, hp⟩
/-- n items, each of them so -/
def LB (n : Nat) (C : Hp → V → Prop) : Hp → V → Prop := fun H v => ∃ p vs, v = .ref p ∧ H p = some (.lst vs) ∧ vs.length = n ∧ ∀ u ∈ vs, C H u
def TB (n : Nat) (C : Hp → V → Prop) : Hp → V → Prop := fun H v => ∃ p vs, v = .ref p ∧ H p = some (.tup vs) ∧ vs.length = n ∧ ∀ u ∈ vs, C H u
def AB (n : Nat) (C : Hp → V → Prop) : Hp → List V → Prop := fun H vs => vs.length = n ∧ ∀ u ∈ vs, C H u
theorem up_LB {n : Nat} (u : Up C) : Up (LB n C) := fun H H' v e ⟨p, vs, h1, h2, h3, h4⟩ => ⟨p, vs, h1, e p _ h2, h3, fun x hx => u _ _ _ e (h4 x hx)⟩
theorem ab_nil : EvAQ tNil σ H (AB 0 C) := eaq_weak eaq_nil fun H1 vs _ h => by subst h; exact ⟨rfl, by simp⟩
theorem ab_cons {n : Nat} (u : Up C) (h : EvP te σ H C) (hr : EvAQ tr σ H (AB n C)) : EvAQ (tCons te tr) σ H (AB (n + 1) C) := eaq_weak (eaq_cons u h hr) fun H1 vs _ ⟨v, r, e, hv, hl, hr⟩ => by
  subst e
  refine ⟨by rw [List.length_cons, hl], fun x hx => ?_⟩
  rcases List.mem_cons.mp hx with rfl | hx
  · exact hv
  · exact hr x hx
theorem ep_lst {n : Nat} (u : Up C) (h : EvAQ t σ H (AB n C)) (hn : n ≤ 100000) : EvP (tLst t) σ H (LB n C) := fun H1 e Q q =>
  h H1 e _ fun vs H2 e2 ⟨hl, hc⟩ => ⟨sz_of (by rw [hl]; exact hn), fun p hp => q _ _ (e2.trans (Ex.new hp)) ⟨p, vs, rfl, upd_same, hl, fun x hx => u _ _ _ (Ex.new hp) (hc x hx)⟩⟩
theorem ep_tup {n : Nat} (u : Up C) (h : EvAQ t σ H (AB n C)) (hn : n ≤ 100000) : EvP (tTup t) σ H (TB n C) := fun H1 e Q q =>
  h H1 e _ fun vs H2 e2 ⟨hl, hc⟩ => ⟨sz_of (by rw [hl]; exact hn), fun p hp => q _ _ (e2.trans (Ex.new hp)) ⟨p, vs, rfl, upd_same, hl, fun x hx => u _ _ _ (Ex.new hp) (hc x hx)⟩⟩
theorem ep_cat {n m : Nat} (u : Up C) (ha : EvP ta σ H (LB n C)) (hb : EvP tb σ H (LB m C)) (hz : n + m ≤ 100000) : EvP (tOp rCat ta tb) σ H (LB (n + m) C) := fun H1 e Q q =>
  ha H1 e _ fun v H2 e2 ⟨p, xs, e3, hp, hl, hx⟩ => hb H2 (e.trans e2) _ fun v2 H3 e4 ⟨p2, ys, e5, hp2, hl2, hy⟩ =>
    ⟨p, p2, xs, ys, e3, e5, e4 p _ hp, hp2, sz_of (by omega), fun r hr => q _ _ ((e2.trans e4).trans (Ex.new hr)) ⟨r, xs ++ ys, rfl, upd_same, by rw [List.length_append, hl, hl2], fun x hx' => by
      rcases List.mem_append.mp hx' with h | h
      · exact u _ _ _ (e4.trans (Ex.new hr)) (hx x h)
      · exact u _ _ _ (Ex.new hr) (hy x h)⟩⟩
theorem at_some {xs : List V} {i : Int} (h0 : 0 ≤ i) (h1 : i < (xs.length : Int)) : ∃ u, u ∈ xs ∧ atI xs i = some u := by
  have hl : i.toNat < xs.length := by omega
  refine ⟨xs[i.toNat], List.getElem_mem hl, ?_⟩
  have e : i = ((i.toNat : Nat) : Int) := by omega
  conv => lhs; rw [e]
  exact atI_nat (List.getElem?_eq_getElem hl)
theorem ep_pick {n : Nat} {i : Int} (u : Up C) (h : EvP te σ H (LB n C)) (hi : Ev tb σ H (.int i)) (h0 : 0 ≤ i) (h1 : i < (n : Int)) : EvP (tOp (rIxL K) te tb) σ H C := fun H1 e Q q =>
  h H1 e _ fun v H2 e2 ⟨p, vs, e3, hp, hl, hc⟩ => hi H2 (e.trans e2) _ fun H3 e4 => by
    obtain ⟨x, hx, ha⟩ := at_some (xs := vs) h0 (by omega)
    exact ⟨p, vs, i, x, e3, rfl, sq_of (e4 p _ hp), ha, q x H3 (e2.trans e4) (u _ _ _ e4 (hc x hx))⟩
theorem ep_pickT {n : Nat} {i : Int} (u : Up C) (h : EvP te σ H (TB n C)) (hi : Ev tb σ H (.int i)) (h0 : 0 ≤ i) (h1 : i < (n : Int)) : EvP (tOp (rIxT K) te tb) σ H C := fun H1 e Q q =>
  h H1 e _ fun v H2 e2 ⟨p, vs, e3, hp, hl, hc⟩ => hi H2 (e.trans e2) _ fun H3 e4 => by
    obtain ⟨x, hx, ha⟩ := at_some (xs := vs) h0 (by omega)
    exact ⟨p, vs, i, x, e3, rfl, st_of (e4 p _ hp), ha, q x H3 (e2.trans e4) (u _ _ _ e4 (hc x hx))⟩
/-- xs * k -/
theorem el_rep {xs : List V} {k : Int} (h : EvL ta σ H xs) (hi : Ev tb σ H (.int k)) (h0 : 0 ≤ k) (h1 : k ≤ 1000) (hz : xs.length ≤ 100) : EvL (tOp rRep ta tb) σ H (List.replicate k.toNat xs).flatten := fun H1 e Q q =>
  h H1 e _ fun p H2 np e2 hp => hi H2 (e.trans e2) _ fun H3 e3 => ⟨p, k, xs, rfl, rfl, e3 p _ hp, by omega, by omega, by
    have := Nat.mul_le_mul hz (show k.toNat ≤ 1000 by omega)
    exact sz_of (by omega), fun r hr => q r _ (fresh_back (e2.trans e3) hr) ((e2.trans e3).trans (Ex.new hr)) upd_same⟩
/-! ### statements -/
theorem q_asgP {i : Nat} (h : EvP te σ H B) (k : ∀ v H1, Ex H H1 → B H1 v → tz D (σ.set i (some v)) H1) : tSeq (tAsg te (gName i)) tz D σ H := h H (Ex.refl H) _ fun v H1 e b => k v H1 e b
theorem s_retC {sp : Sp} {E : XK} {P : Hp → List V → Prop} (ha : EvAQ t σ H P) (h : ∀ H1 vs, Ex H H1 → P H1 vs → sp vs H1 D.rt E) : tRet (tCall sp [] E t) D σ H := ha H (Ex.refl H) _ fun vs H1 e hp => by
  rw [List.append_nil]
  exact h H1 vs e hp
theorem s_retE {HD : Addr → Sp → Prop} {tf : TE} {E : XK} {F : V → Prop} {P : Hp → List V → Prop} (hf : EvP tf σ H (fun _ v => F v)) (ha : EvAQ t σ H P)
    (h : ∀ v, F v → ∃ f sp, v = .ref f ∧ HD f sp ∧ ∀ H1 vs, Ex H H1 → P H1 vs → sp vs H1 D.rt E) : tRet (tCallE HD E tf t) D σ H := hf H (Ex.refl H) _ fun v H1 e hv => by
  obtain ⟨f, sp, ev, hd, hs⟩ := h v hv
  exact ⟨f, sp, ev, hd, ha H1 e _ fun vs H2 e2 hp => hs H2 vs (e.trans e2) hp⟩
theorem s_dropC {sp : Sp} {E : XK} {vs : List V} (ha : EvA t σ H vs) (h : ∀ H1, Ex H H1 → sp vs H1 (fun _ H2 => D.nx σ H2) E) : tDrop (tCall sp [] E t) D σ H := ha H (Ex.refl H) _ fun H1 e => by
  rw [List.append_nil]
  exact h H1 e
theorem q_dropC {sp : Sp} {E : XK} {vs : List V} (ha : EvA t σ H vs) (h : ∀ H1, Ex H H1 → sp vs H1 (fun _ H2 => tz D σ H2) E) : tSeq (tDrop (tCall sp [] E t)) tz D σ H := s_dropC (D := { D with nx := tz D }) ha h
/-- within a try .. except c as n: what f raises, of one class alone, is caught -/
theorem s_callW {sp : Sp} {vs : List V} {c : Value} {i : Nat} {ts : Addr → Value → Option Addr → TS} {Wout : WX} {D D0 : Ends} (C : Addr) (ha : EvA t σ H vs) (hc : PySem.W.exmOne K (.ref C) c = some true)
    (h : ∀ H1, Ex H H1 → ∀ (Q : VK) (E : XK), (∀ H2, Ex H1 H2 → E (.ref C) none H2) → sp vs H1 Q E)
    (k : ∀ H1, Ex H H1 → ∀ a, H1 a = none → ts a (.ref C) none { nx := fun σ' H' => D0.nx (σ'.set i none) H', rt := D0.rt, bk := fun σ' H' => D0.bk (σ'.set i none) H', ct := fun σ' H' => D0.ct (σ'.set i none) H' } (σ.set i (some (.ref a))) H1) :
    tDrop (tCallS sp (WE (wAs K c i ts Wout D0)) t) D σ H := ha H (Ex.refl _) _ fun H1 e1 => h H1 e1 _ _ fun H2 e2 =>
  ⟨true, hc, fun _ a na => k H2 (e1.trans e2) a na, fun z => nomatch z⟩
end
end Tr

set_option Elab.async false
set_option linter.all false
set_option maxRecDepth 100000
set_option maxHeartbeats 4000000
/-! TrO: objects of own classes: made, asked for a field, their methods called. -/
namespace Tr
open PySem PySem.Spec PyProof.Rows L2 Evl
section
variable {P : Program} {w : World} {K : PySem.W.Frag} {mg : Str → Option Value} {base : Heap}
/-- a class whose instances are plain; isinstance of them -/
structure ClsI (K : PySem.W.Frag) (C : Addr) : Prop where
  cl : Cls K C
  ha : PySem.W.findIn K (.ref C) "__class__" = some (some (.builtin "object.__class__"))
  hn : PySem.W.specialIn K (.builtin "object.__class__") "__get__" = some (some (.builtin "getset_descriptor.__get__"))
  ht : PySem.W.takesIn K (.builtin "object.__class__") = some true
  hm : PySem.W.mroIn K C (.type "object") = some true
/-- a class that may be called -/
structure MkAt (P : Program) (w : World) (K : PySem.W.Frag) (mg : Str → Option Value) (base : Heap) (k : Nat) (x : Str) (C : Addr) (sp : Sp) : Prop where
  ex : ∃ (f : Addr) (fd : FuncData) (ps : List Str), FnOk P w K mg base (L2N.CX P w) k f fd ps sp ∧ Mk K C f ∧ Binds K fd ps []
  g : mg x = some (.ref C)
/-- a method -/
structure MCal (P : Program) (w : World) (K : PySem.W.Frag) (mg : Str → Option Value) (base : Heap) (k : Nat) (C : Addr) (m : Str) (sp : Sp) : Prop where
  ex : ∃ (f : Addr) (fd : FuncData) (ps : List Str), FnOk P w K mg base (L2N.CX P w) k f fd ps sp ∧ Meth K C m f ∧ Binds K fd ps []
  cl : Cls K C
structure IniAt (K : PySem.W.Frag) (C : Addr) (q : Str) (st : Stmt) (ps : List Str) : Prop where
  ex : ∃ (f : Addr) (fd : FuncData), Fun K "__init__" q st f fd ∧ Mk K C f ∧ Binds K fd ps []
structure MthAt (K : PySem.W.Frag) (C : Addr) (m q : Str) (st : Stmt) (ps : List Str) : Prop where
  ex : ∃ (f : Addr) (fd : FuncData), Fun K m q st f fd ∧ Meth K C m f ∧ Binds K fd ps []
theorem fnq_of {x qq : Str} {st : Stmt} {N ps : List Str} {k : Nat} {sp : Sp} {f : Addr} {fd : FuncData} (F : Fun K x qq st f fd) (S : FnScope N ps (defScope st)) (len : ∀ vs H Q E, sp vs H Q E → vs.length = ps.length)
    (hbody : ∀ (f : Addr) (cdv : Value) (A : Around) (outer : List Env) (s : Shared) (H : Hp) (vs : List V) (Q : VK) (E : XK), Room k (A.deeper (envOfC qq (defScope st) s.heap.objs.size f cdv)) → sp vs H Q E →
      ∃ t, PSs (cxOf (L2N.CX P w) P w K mg base N qq (defScope st) f cdv A outer s H E).nox (defBody st) t ∧ t { nx := fun _ H' => Q .non H', rt := Q } (start N vs) H) : FnOk P w K mg base (L2N.CX P w) (k + 1) f fd ps sp := by
  obtain ⟨oc, od, kV, doc, pm, an, cdv, ct, osl, rfl, lk, hcd⟩ := F.ex
  refine fn_of lk hcd S len fun A outer s H vs Q E hr hsp => ?_
  obtain ⟨t, h, q⟩ := hbody f cdv A outer s H vs Q E hr hsp
  exact ⟨t, h.nox, q⟩
theorem mk_ofI {x qq : Str} {C : Addr} {st : Stmt} {N ps : List Str} {k : Nat} {sp : Sp} (g : mg x = some (.ref C)) (D : IniAt K C qq st ps) (S : FnScope N ps (defScope st)) (len : ∀ vs H Q E, sp vs H Q E → vs.length = ps.length)
    (hbody : ∀ (f : Addr) (cdv : Value) (A : Around) (outer : List Env) (s : Shared) (H : Hp) (vs : List V) (Q : VK) (E : XK), Room k (A.deeper (envOfC qq (defScope st) s.heap.objs.size f cdv)) → sp vs H Q E →
      ∃ t, PSs (cxOf (L2N.CX P w) P w K mg base N qq (defScope st) f cdv A outer s H E).nox (defBody st) t ∧ t { nx := fun _ H' => Q .non H', rt := Q } (start N vs) H) : MkAt P w K mg base (k + 1) x C sp := by
  obtain ⟨f, fd, F, M, b⟩ := D.ex
  exact ⟨⟨f, fd, ps, fnq_of F S len hbody, M, b⟩, g⟩
theorem mcal_of {m qq : Str} {C : Addr} {st : Stmt} {N ps : List Str} {k : Nat} {sp : Sp} (cl : Cls K C) (D : MthAt K C m qq st ps) (S : FnScope N ps (defScope st)) (len : ∀ vs H Q E, sp vs H Q E → vs.length = ps.length)
    (hbody : ∀ (f : Addr) (cdv : Value) (A : Around) (outer : List Env) (s : Shared) (H : Hp) (vs : List V) (Q : VK) (E : XK), Room k (A.deeper (envOfC qq (defScope st) s.heap.objs.size f cdv)) → sp vs H Q E →
      ∃ t, PSs (cxOf (L2N.CX P w) P w K mg base N qq (defScope st) f cdv A outer s H E).nox (defBody st) t ∧ t { nx := fun _ H' => Q .non H', rt := Q } (start N vs) H) : MCal P w K mg base (k + 1) C m sp := by
  obtain ⟨f, fd, F, M, b⟩ := D.ex
  exact ⟨⟨f, fd, ps, fnq_of F S len hbody, M, b⟩, cl⟩
end
section
variable {X : Cx} {k j : Nat} {x m : Str} {sp : Sp} {p pos apos : Pos} {o e : Expr} {es : List Expr} {t : TA} {to : TE} {C : Addr}
theorem pe_mk (c : MkAt X.prog X.w X.K X.mg X.base k x C sp) (hr : Room j X.A) (hk : k + 1 ≤ j) (hg : Gl X x) (ha : PA X (e :: es) t) (hdb : (x == ("__debug__" : Str)) = false := by decide)
    (he : starEach (e :: es) X.env = (false, eval e X.env) :: starEach es X.env := by rfl) (hpl : (backTo pos (starEach es X.env)).any (·.1) = false := by rfl) : PE X (.Call (.Name x p) (e :: es) [] pos) (tMake C sp [] E0 t) := by
  obtain ⟨f, fd, ps, F, M, b⟩ := c.ex
  exact pe_make M F (hr.mono hk) hg c.g b .nil passN ha hdb he hpl
theorem pe_mth {pl : Sem Bool} (c : MCal X.prog X.w X.K X.mg X.base k C m sp) (hr : Room j X.A) (hk : k ≤ j) (ho : PE X o to) (ha : PA X (e :: es) t)
    (hst : starEach (e :: es) X.env = (false, eval e X.env) :: starEach es X.env := by rfl) (hpl : (backTo pos (starEach es X.env)).any (·.1) = false := by rfl)
    (ht : eval (.Call (.Attribute o m apos) (e :: es) [] pos) X.env = (do
      let ov ← eval o X.env
      standAt apos.atName
      let (f, first) ← holding [ov] (getMethod ov m pl)
      callWith pos f first (backTo pos (starEach (e :: es) X.env)) (backToKw pos (keywordEach [] X.env))) := by rfl) : PE X (.Call (.Attribute o m apos) (e :: es) [] pos) (tMeth C m sp [] E0 to t) := by
  obtain ⟨f, fd, ps, F, M, b⟩ := c.ex
  exact pe_meth ho c.cl M F (hr.mono hk) b .nil passN ha hst hpl ht
/-- this way or that -/
def tAlt (t u : TE) : TE := fun σ H Q => t σ H Q ∨ u σ H Q
theorem pe_alt {t1 t2 : TE} (h1 : PE X e t1) (h2 : PE X e t2) : PE X e (tAlt t1 t2) := ⟨fun pins s σ H Q I h => by
  rcases h with h | h
  · exact h1.run pins s σ H Q I h
  · exact h2.run pins s σ H Q I h⟩
end
section
variable {K : PySem.W.Frag} {σ : L2.St} {H H' : Hp} {ta tb te tl : TE} {t : TA} {x v : V} {D : Ends} {tz tu : TS} {C o dx : Addr} {fs : List (Str × V)}
theorem ev_altL (h : Ev ta σ H v) : Ev (tAlt ta tb) σ H v := fun H1 e Q q => .inl (h H1 e Q q)
theorem ev_altR (h : Ev tb σ H v) : Ev (tAlt ta tb) σ H v := fun H1 e Q q => .inr (h H1 e Q q)
theorem ev_fld {f : Str} (h : Ev ta σ H (.ref o)) (ho : H o = some (.ins C dx fs)) (c : Cls K C) (n : NoAttr K C f) (l : fs.lookup f = some v) : Ev (tFld K ta f) σ H v := fun H1 e Q q =>
  h H1 e _ fun H2 e2 => ⟨o, C, dx, fs, v, rfl, (e.trans e2) o _ ho, c, n, l, q H2 e2⟩
theorem ev_mth {m : Str} {sp : Sp} {vs : List V} (h : Ev ta σ H (.ref o)) (ho : H o = some (.ins C dx fs)) (l : fs.lookup m = none) (ha : EvA t σ H vs) (hs : SpV sp (.ref o :: vs) H v) : Ev (tMeth C m sp [] E0 ta t) σ H v := fun H1 e Q q =>
  h H1 e _ fun H2 e2 => ⟨o, dx, fs, rfl, (e.trans e2) o _ ho, l, ha H2 (e.trans e2) _ fun H3 e3 => by
    rw [List.append_nil]
    exact hs H3 ((e.trans e2).trans e3) Q (fun H4 e4 => q H4 ((e2.trans e3).trans e4)) E0⟩
theorem ty_ins (c : ClsI K C) (ho : H o = some (.ins C dx fs)) : ∀ H1, Ex H H1 → TyX K H1 (.ref o) (.ref C) := fun H1 e => .base (.ins (e o _ ho) c.cl c.ha c.hn c.ht c.hm)
/-- isinstance of an own class -/
theorem ev_isC {T : Addr} {tv : Value} {b : Bool} (h : Ev ta σ H x) (hc : Ev tb σ H (.ref T)) (hx : ∀ H1, Ex H H1 → TyX K H1 x tv) (e : PySem.W.kitOne K tv (.ref T) = some b) : Ev (tCB (rIsi K) (tCons ta (tCons tb tNil))) σ H (.bl b) := fun H1 e1 Q q =>
  h H1 e1 _ fun H2 e2 => hc H2 (e1.trans e2) _ fun H3 e3 => ⟨x, .ref T, tv, .ref T, b, rfl, .own T, hx H3 ((e1.trans e2).trans e3), e, q H3 (e2.trans e3)⟩
/-- a list, not told more than by a property -/
def EvQX (K : PySem.W.Frag) (te : TE) (σ : L2.St) (H : Hp) (P : List V → Prop) : Prop := ∀ H1, Ex H H1 → ∀ Q : VK, (∀ p H2 xs, P xs → Ex H1 H2 → SqL K H2 p xs → Q (.ref p) H2) → te σ H1 Q
theorem eqx_of {xs : List V} (h : EvQ K te σ H xs) : EvQX K te σ H (fun ys => ys = xs) := fun H1 e Q q => h H1 e Q fun p H2 e2 h2 => q p H2 xs rfl e2 h2
theorem eqx_call {sp : Sp} {E : XK} {vs : List V} {P : List V → Prop} (h : EvA t σ H vs) (hs : ∀ H1, Ex H H1 → ∀ Q : VK, (∀ p H2 xs, P xs → Ex H1 H2 → SqL K H2 p xs → Q (.ref p) H2) → sp vs H1 Q E) : EvQX K (tCall sp [] E t) σ H P := fun H1 e Q q =>
  h H1 e _ fun H2 e2 => by
    rw [List.append_nil]
    exact hs H2 (e.trans e2) Q fun p H3 xs hP e3 h3 => q p H3 xs hP (e2.trans e3) h3
/-- a new object of C with one field, a new list -/
def EvB (te : TE) (σ : L2.St) (H : Hp) (C : Addr) (f : Str) (P : List V → Prop) : Prop := ∀ H1, Ex H H1 → ∀ Q : VK, (∀ o dx l H2 xs, P xs → H1 o = none → H1 l = none → l ≠ o → Ex H1 H2 → H2 o = some (.ins C dx [(f, .ref l)]) → H2 l = some (.lst xs) → Q (.ref o) H2) → te σ H1 Q
/-- .. of its __init__ -/
def spIni1 (K : PySem.W.Frag) (C : Addr) (f : Str) : Sp := fun vs H Q _ => ∃ (p q dx : Addr) (xs : List V), vs = [.ref p, .ref q] ∧ H p = some (.ins C dx []) ∧ SqL K H q xs ∧
  ∀ l H', l ≠ p → H l = none → (∀ b u, b ≠ p → H b = some u → H' b = some u) → H' p = some (.ins C dx [(f, .ref l)]) → H' l = some (.lst xs) → Q .non H'
theorem eb_make {f : Str} {P : List V → Prop} (h : EvQX K te σ H P) : EvB (tMake C (spIni1 K C f) [] E0 (tCons te tNil)) σ H C f P := fun H1 e Q q =>
  h H1 e _ fun p H2 xs hP e2 h2 => fun x dx nx nd ne => by
    have nu : upd H2 dx (.own x) x = none := by rw [upd_ne (Ne.symm ne)]; exact nx
    have ex : Ex H2 (upd (upd H2 dx (.own x)) x (.ins C dx [])) := (Ex.new nd).trans (Ex.new nu)
    refine ⟨x, p, dx, xs, rfl, upd_same, ex_l ex h2, fun l H' hlx nl kp hx hl => ⟨rfl, ?_⟩⟩
    have nl2 : H2 l = none := fresh_back ex nl
    refine q x dx l H' xs hP (fresh_back e2 nx) (fresh_back e2 nl2) hlx (fun b u hb => ?_) hx hl
    have hb2 := e2 b u hb
    have hbx : b ≠ x := fun z => by rw [z, nx] at hb2; cases hb2
    exact kp b u hbx (ex b u hb2)
theorem s_retB {f : Str} {P : List V → Prop} (h : EvB te σ H C f P) (k : ∀ o dx l H2 xs, P xs → H o = none → H l = none → l ≠ o → Ex H H2 → H2 o = some (.ins C dx [(f, .ref l)]) → H2 l = some (.lst xs) → D.rt (.ref o) H2) : tRet te D σ H := h H (Ex.refl H) _ k
theorem look1 (f : Str) (v : V) : ([(f, v)] : List (Str × V)).lookup f = some v := by simp [List.lookup]
theorem call_run {sp : Sp} {vs : List V} {E : XK} {Q : VK} (h : EvA t σ H vs) (hs : ∀ H1, Ex H H1 → sp vs H1 Q E) : tCall sp [] E t σ H Q := h H (Ex.refl H) _ fun H1 e1 => by
  rw [List.append_nil]; exact hs H1 e1
theorem look_no {f m : Str} {v : V} (h : (m == f) = false) : ([(f, v)] : List (Str × V)).lookup m = none := by simp [List.lookup, h]
theorem q_ifTo {t : TT} {tu tw : TS} {b : Bool} {l : Addr} {xs : List V} {z : V} (h : EvT t σ H b) (k : ∀ H1, Ex H H1 → tz D σ (upd H1 l (.lst (xs ++ [z])))) (h1 : b = true → (∀ H1, Ex H H1 → tz D σ (upd H1 l (.lst (xs ++ [z])))) → ∀ H1, Ex H H1 → tu { D with nx := tz D } σ H1)
    (h2 : b = false → (∀ H1, Ex H H1 → tz D σ (upd H1 l (.lst (xs ++ [z])))) → ∀ H1, Ex H H1 → tw { D with nx := tz D } σ H1) : tSeq (tIfS t tu tw) tz D σ H := q_if h (fun e => h1 e k) (fun e => h2 e k)
theorem q_asgX {i : Nat} (h : te σ H fun v H1 => tz D (σ.set i (some v)) H1) : tSeq (tAsg te (gName i)) tz D σ H := h
/-- self.f = list(a), straight -/
theorem ini1_run {f : Str} {p q : Addr} {xs : List V} {σ : L2.St} (c : Cls K C) (n : NoAttr K C f) (hp : H p = some (.ins C dx [])) (hq : SqL K H q xs) (h0 : σ[0]? = some (some (.ref p))) (h1 : σ[1]? = some (some (.ref q)))
    (k : ∀ l H', l ≠ p → H l = none → (∀ b u, b ≠ p → H b = some u → H' b = some u) → H' p = some (.ins C dx [(f, .ref l)]) → H' l = some (.lst xs) → D.nx σ H') :
    sFld K (tVar 0) (tCB (rListQ K) (tCons (tVar 1) tNil)) f D σ H := (ev_listOf (ev_var h1) hq) H (Ex.refl H) _ fun l H1 nl e1 hl => (ev_var h0) H1 (Ex.refl _) _ fun H2 e2 => by
  have hp2 := (e1.trans e2) p _ hp
  have hlp : l ≠ p := fun z => by rw [z, hp] at nl; cases nl
  refine ⟨p, C, dx, [], rfl, hp2, c, n, by decide, k l _ hlp nl (fun b u hb hu => by rw [upd_ne hb]; exact (e1.trans e2) b u hu) ?_ (by rw [upd_ne hlp]; exact e2 l _ hl)⟩
  rw [upd_same]; rfl
end
end Tr

set_option Elab.async false
set_option linter.all false
set_option maxRecDepth 100000
set_option maxHeartbeats 4000000
/-! TrF: C() of a class without __init__, xs[::2], sorted(texts) of any length, comprehensions over enumerate, loops over lists told by a property. -/
namespace Tr
open PySem PySem.Spec PyProof.Rows L2 Evl
/-! ### C() of a class without an own __init__ -/
structure Mk0At (K : PySem.W.Frag) (mg : Str → Option Value) (x : Str) (C : Addr) : Prop where
  g : mg x = some (.ref C)
  makes : PySem.W.makesIn K C = true
  init : PySem.W.findIn K (.ref C) "__init__" = some (some (.builtin "object.__init__"))
  kp : PySem.W.keepIn K (.ref C) = true
theorem run_mk0 {X : Cx} {pins : List (Addr × Obj)} {σ : L2.St} {H : Hp} {s : Shared} {Q : VK} {C : Addr} (hm : PySem.W.makesIn X.K C = true) (hi : PySem.W.findIn X.K (.ref C) "__init__" = some (some (.builtin "object.__init__"))) (I : Inv X pins σ H s)
    (h : ∀ x dx, H x = none → H dx = none → dx ≠ x → Q (.ref x) (upd (upd H dx (.own x)) x (.ins C dx []))) : wpAny (model X.prog X.w) X.A (call (.ref C) []) (EP X pins σ Q) X.xe s := by
  have hq := h (s.heap.objs.size + 1) s.heap.objs.size (I.hok.fresh (Nat.le_succ _)) (I.hok.fresh (Nat.le_refl _)) (Nat.ne_of_lt (Nat.lt_succ_self _))
  have I2 := Inv.made (C := C) I
  have Y := PySem.W.makes_of (M := model X.prog X.w) I.kIn hm
  have li := PySem.W.looks_findIn (M := model X.prog X.w) I.kIn hi
  obtain ⟨hh, g, d, t, os⟩ := s
  refine wpAny_call (PySem.W.make_core Y li (fun self => PySem.W.Looks.of_pure (PySem.W.oi_bind self)) (.inr ⟨rfl, rfl⟩) ?_)
  have hx : ((hh.push PySem.W.emptyDict).push (PySem.W.instObj C hh.objs.size)).get? (hh.objs.size + 1) = some (PySem.W.instObj C hh.objs.size) := by heap_get
  have t1 : PySem.W.Looks (model X.prog X.w) ((hh.push PySem.W.emptyDict).push (PySem.W.instObj C hh.objs.size)) (typeOf (.ref (hh.objs.size + 1))) (.ref C) := (PySem.W.Looks.ld hx).andThen .now
  have t2 : PySem.W.Looks (model X.prog X.w) ((hh.push PySem.W.emptyDict).push (PySem.W.instObj C hh.objs.size)) (isInstance (.ref (hh.objs.size + 1)) (.type "object")) true := t1.andThen (Y.top.keeps fun b o e => Heap.get?_push_of_some _ (Heap.get?_push_of_some _ e))
  refine codeAny_call_builtin PySem.W.oi_plain PySem.W.entry_oi (@PySem.W.check_slot (model X.prog X.w) _ _ _ "object.__init__" "object" "__init__" (.ref (hh.objs.size + 1)) [] [] _ PySem.W.oi_kind PySem.W.oi_split t2 (PySem.W.oi_args (.ref (hh.objs.size + 1))) ?_)
  rw [PySem.W.oi_run]
  exact wpAny_pure (And.intro rfl ⟨V.ref (hh.objs.size + 1), _, I2, rfl, hq⟩)
def tMk0 (C : Addr) : TE := fun _ H Q => ∀ x dx, H x = none → H dx = none → dx ≠ x → Q (.ref x) (upd (upd H dx (.own x)) x (.ins C dx []))
theorem pe_mk0 {X : Cx} {x : Str} {C : Addr} {p pos : Pos} (c : Mk0At X.K X.mg x C) (hg : Gl X x) (hdb : (x == ("__debug__" : Str)) = false := by decide) : PE X (.Call (.Name x p) [] [] pos) (tMk0 C) := by
  refine ⟨fun pins s σ H Q I h => ?_⟩
  refine wpAny_Call_Name_kw (ld_glob I hg c.g ?_ hdb)
  exact PySem.W.callWith_K0 I.kIn c.kp (run_mk0 c.makes c.init I h)
section
variable {K : PySem.W.Frag} {σ : L2.St} {H H' : Hp} {ta tb te tl : TE} {t : TA} {v : V} {D : Ends} {tu tz : TS}
def MB (C : Addr) : Hp → V → Prop := fun H v => ∃ o dx, v = .ref o ∧ H o = some (.ins C dx [])
theorem up_MB {C : Addr} : Up (MB C) := fun _ _ _ e ⟨o, dx, h1, h2⟩ => ⟨o, dx, h1, e o _ h2⟩
theorem ep_mk0 {C : Addr} : EvP (tMk0 C) σ H (MB C) := fun H1 e Q q x dx nx nd ne => by
  have nu : upd H1 dx (.own x) x = none := by rw [upd_ne (Ne.symm ne)]; exact nx
  exact q _ _ ((Ex.new nd).trans (Ex.new nu)) ⟨x, dx, rfl, upd_same⟩
/-! ### xs[::2] -/
def ks2 (n : Nat) : List Nat := sliceRange 0 n 2
def step2 {α : Type} (xs : List α) : List α := (ks2 xs.length).filterMap (xs[·]?)
theorem ks2_len (n : Nat) : (ks2 n).length ≤ n := sliceRange_length_le 0 n 2 n (fun _ => ⟨Int.le_refl 0, Int.le_refl _⟩) (fun h => absurd (by decide) h)
theorem step2_len {α : Type} (xs : List α) : (step2 xs).length ≤ xs.length := Nat.le_trans (List.length_filterMap_le _ _) (ks2_len _)
theorem step2_mem {α : Type} {xs : List α} {x : α} (h : x ∈ step2 xs) : x ∈ xs := by
  obtain ⟨k, _, hk⟩ := List.mem_filterMap.mp h
  exact List.mem_of_getElem? hk
theorem step2_map {α β : Type} (f : α → β) (xs : List α) : step2 (xs.map f) = (step2 xs).map f := by
  unfold step2
  rw [List.map_filterMap, List.length_map]
  congr 1
  funext k
  rw [List.getElem?_map]
theorem vals_pick {xs : List V} {us : List Value} (r : Vals xs us) : ∀ ks : List Nat, Vals (ks.filterMap (xs[·]?)) (ks.filterMap (us[·]?))
  | [] => .nil
  | k :: ks => by
    have ih := vals_pick r ks
    rw [List.filterMap_cons, List.filterMap_cons]
    cases hk : xs[k]? with
    | none => rw [r.none_of hk]; exact ih
    | some x =>
      obtain ⟨u, hu, ru⟩ := r.get hk
      rw [hu]
      exact .cons ru ih
def tStep2L (K : PySem.W.Frag) (te : TE) : TE := fun σ H Q => te σ H fun x H1 => ∃ a xs, x = .ref a ∧ SqL K H1 a xs ∧ ∀ p, H1 p = none → Q (.ref p) (upd H1 p (.lst (step2 xs)))
theorem pick2 (items : Array Value) : slicePick items none none (some 2) = ((ks2 items.size).filterMap (items[·]?)).toArray := by
  unfold slicePick ks2
  have e : sliceBounds none none (some 2) items.size = (0, (items.size : Int), 2) := by first | rfl | simp [sliceBounds]
  rw [e]
theorem pe_step2 {X : Cx} {e : Expr} {te : TE} {k : Nat} {p1 p3 pos : Pos} (he : PE X e te) : PE X (.Subscript e (.Slice none none (some (.Constant (.int 2) k p1)) p3) pos) (tStep2L X.K te) := by
  refine ⟨fun pins s σ H Q I h => ?_⟩
  refine Subscript_ (thn (he.run pins s σ H _ I h) fun v s1 ⟨x, H1, I1, r1, q1⟩ => ?_)
  obtain ⟨a, xs, ex, hx, q⟩ := q1
  subst ex
  cases r1
  have hst : PO X (some (.Constant (.int 2) k p1)) (tPart (tC (.int 2))) := po_some pe_int
  refine wpAny_Slice (thn (po_none.run pins s1 σ H1 (fun o H2 => o = none ∧ H2 = H1) I1 ⟨rfl, rfl⟩) fun vl s2 ⟨l, H2, I2, pl, el, e2⟩ => ?_)
  subst el e2
  refine thn (po_none.run pins s2 σ H2 (fun o H3 => o = none ∧ H3 = H2) I2 ⟨rfl, rfl⟩) fun vu s3 ⟨u, H3, I3, pu, eu, e3⟩ => ?_
  subst eu e3
  refine thn (hst.run pins s3 σ H3 (fun o H4 => o = some 2 ∧ H4 = H3) I3 ⟨2, rfl, rfl, rfl⟩) fun vs s4 ⟨o, H4, I4, ps, eo, e4⟩ => ?_
  subst eo e4
  have I5 : Inv X pins σ H4 { s4 with heap := s4.heap.push { cls := .type "slice", data := .fields #[vl, vu, vs] } } := I4.kept (t' := s4.toks) fun b ob q => Heap.get?_push_of_some _ q
  obtain ⟨its, r, ht, hz⟩ := I5.list hx
  have hlen := r.length
  show wpAny (model X.prog X.w) X.A (subscriptTail e (.Slice none none (some (.Constant (.int 2) k p1)) p3) (.ref a) (.ref s4.heap.objs.size)) (EP X pins σ Q) X.xe { s4 with heap := s4.heap.push { cls := .type "slice", data := .fields #[vl, vu, vs] } }
  refine tail_any (ops := [.ref a, .ref s4.heap.objs.size]) ht.isList.typeIs (PySem.slot_list_getitem.lookup) ?_ (by with_unfolding_all rfl)
  refine wpAny_getItem_list_slice ht.isList (Heap.IsSliceOf.new _ vl vu vs) pl pu ps (by decide) ?_ (by rw [List.size_toArray]; omega)
  rw [pick2]
  refine ⟨.ref _, _, I5.laid (t' := s4.toks) (o := .lst (step2 xs)) (fun b ob q => Heap.get?_push_of_some _ q) (Nat.le_refl _) ?_, rfl, q _ (I5.hok.fresh (Nat.le_refl _))⟩
  have e9 : (ks2 its.toArray.size).filterMap (its.toArray[·]?) = (ks2 xs.length).filterMap (its[·]?) := by
    rw [List.size_toArray, hlen]
    congr 1
    funext k
    simp
  rw [e9]
  exact ⟨Nat.le_trans (step2_len xs) hz, _, 0, vals_pick r _, Heap.get?_push_size _ rfl⟩
theorem pe_step2L {X : Cx} {K : PySem.W.Frag} {e : Expr} {te : TE} {k : Nat} {p1 p3 pos : Pos} (h : X.K = K) (he : PE X e te) : PE X (.Subscript e (.Slice none none (some (.Constant (.int 2) k p1)) p3) pos) (tStep2L K te) := h ▸ pe_step2 he
theorem el_step2 {a : Addr} {xs : List V} (h : Ev te σ H (.ref a)) (hx : SqL K H a xs) : EvL (tStep2L K te) σ H (step2 xs) := fun H1 e Q q =>
  h H1 e _ fun H2 e2 => ⟨a, xs, rfl, ex_l (e.trans e2) hx, fun p np => q p _ (fresh_back e2 np) (e2.trans (Ex.new np)) upd_same⟩
/-! ### sorted(texts), any number -/
def rSortedSA (K : PySem.W.Frag) : List V → Hp → VK → Prop := fun vs H Q => ∃ (a : Addr) (xs : List Str), vs = [V.ref a] ∧ SqL K H a (xs.map V.str) ∧ ∀ (ys : List Str) (p : Addr), ys.Perm xs → sortedS ys = true → H p = none → Q (.ref p) (upd H p (.lst (ys.map V.str)))
theorem cr_sortedSA {X : Cx} {K : PySem.W.Frag} (h : X.K = K) : CallR X (.builtin "sorted") (rSortedSA K) := by
  subst h
  intro pins s σ H vs us Q I r h
  obtain ⟨a, xs, rfl, hs, q⟩ := h
  obtain ⟨its, rv, hl, hz⟩ := I.list hs
  rw [Vals.ref1 r]
  have hlen0 := rv.length
  refine PyProof.Rows.sorted_strsAny hl.isList rv.strs (by rw [← hlen0]; exact hz) fun out ys h1 h2 h3 => ?_
  obtain ⟨ep, he'⟩ := PyProof.Rows.sortedAll_at s.heap its out
  have hlen : (ys.map V.str).length ≤ sizeLine := by rw [List.length_map, h2.length_eq]; rw [List.length_map] at hz; exact hz
  exact ⟨.ref _, upd H (s.heap.objs.size + 1) (.lst (ys.map V.str)), I.laid (t' := s.toks) (fun _ _ => PyProof.Rows.sortedAll_old) (Nat.le_succ _) ⟨hlen, out.toList, ep, vals_of_strs h1, he'⟩, rfl, q ys _ h2 h3 (I.hok.fresh (Nat.le_succ _))⟩
/-- ss holds ws, in order -/
def Rises (ss : List Wd) : Prop := ss.Pairwise fun a b => ¬ b < a
structure SortOf (ws ss : List Wd) : Prop where
  perm : ss.Perm ws
  rises : Rises ss
theorem rises_of : ∀ {ss : List Str}, sortedS ss = true → Rises (ss.map codes) := by
  have key : ∀ (r : List Str) (x : Str), risingS x r = true → Rises ((x :: r).map codes) := by
    intro r
    induction r with
    | nil => intro x _; exact List.pairwise_singleton _ _
    | cons y r ih =>
      intro x h
      unfold risingS at h
      rw [Bool.and_eq_true, PyProof.Rows.ltCps_eq] at h
      have h1 : ¬ codes y < codes x := by simpa [codes] using h.1
      have h2 := ih y h.2
      refine List.pairwise_cons.mpr ⟨fun z hz => ?_, h2⟩
      rw [List.map_cons] at hz
      rcases List.mem_cons.mp hz with rfl | hz
      · exact h1
      · have h3 := (List.pairwise_cons.mp h2).1 z hz
        exact List.not_lt.mpr (List.le_trans (List.not_lt.mp h1) (List.not_lt.mp h3))
  intro ss h
  cases ss with
  | nil => exact List.Pairwise.nil
  | cons x r => exact key r x h
theorem sort_uniq : ∀ {ws ss us : List Wd}, SortOf ws ss → SortOf ws us → ss = us := by
  have key : ∀ (ss us : List Wd), ss.Perm us → Rises ss → Rises us → ss = us := by
    intro ss
    induction ss with
    | nil => intro us hp _ _; exact (hp.symm.eq_nil).symm
    | cons x r ih =>
      intro us hp h1 h2
      cases us with
      | nil => exact absurd hp.length_eq (by simp)
      | cons y q =>
        obtain ⟨a1, a2⟩ := List.pairwise_cons.mp h1
        obtain ⟨b1, b2⟩ := List.pairwise_cons.mp h2
        have e : x = y := by
          have hx : ¬ x < y := by
            rcases List.mem_cons.mp (hp.mem_iff.mp (List.mem_cons_self (a := x) (l := r))) with e | hx
            · rw [e]; exact List.lt_irrefl _
            · exact b1 x hx
          have hy : ¬ y < x := by
            rcases List.mem_cons.mp (hp.mem_iff.mpr (List.mem_cons_self (a := y) (l := q))) with e | hy
            · rw [e]; exact List.lt_irrefl _
            · exact a1 y hy
          exact List.le_antisymm (List.not_lt.mp hy) (List.not_lt.mp hx)
        subst e
        rw [ih q hp.cons_inv a2 b2]
  intro ws ss us h1 h2
  exact key ss us (h1.perm.trans h2.perm.symm) h1.rises h2.rises
/-- sorted(a list of words) -/
def EvX (te : TE) (σ : L2.St) (H : Hp) (R : Hp → List V → Prop) : Prop := ∀ H1, Ex H H1 → ∀ Q : VK, (∀ p H2 vs, H1 p = none → Ex H1 H2 → H2 p = some (.lst vs) → R H2 vs → Q (.ref p) H2) → te σ H1 Q
theorem ex_sorted {a : Addr} {ws : List Wd} (h : Ev ta σ H (.ref a)) (hx : SqL K H a (ws.map tx)) : EvX (tCB (rSortedSA K) (tCons ta tNil)) σ H (fun _ vs => ∃ ss, SortOf ws ss ∧ vs = ss.map tx) := fun H1 e Q q =>
  h H1 e _ fun H2 e2 => ⟨a, ws.map S, rfl, by
    have : (ws.map S).map V.str = ws.map tx := by rw [List.map_map]; rfl
    rw [this]; exact ex_l (e.trans e2) hx, fun ys p hp hs np => q p _ (ys.map V.str) (fresh_back e2 np) (e2.trans (Ex.new np)) upd_same ⟨ys.map codes, ⟨by
      have h2 := hp.map codes
      rw [List.map_map] at h2
      have h3 : ws.map (codes ∘ S) = ws := by
        have : codes ∘ S = id := by funext x; exact codes_S x
        rw [this, List.map_id]
      rw [h3] at h2; exact h2, rises_of hs⟩, by
      rw [List.map_map]
      exact (List.map_congr_left fun y _ => by show V.str y = .str (S (codes y)); rw [S_codes]).trans rfl⟩⟩
theorem q_asgXs {i : Nat} {R : Hp → List V → Prop} (h : EvX te σ H R) (k : ∀ p H1 vs, H p = none → Ex H H1 → H1 p = some (.lst vs) → R H1 vs → tz D (σ.set i (some (.ref p))) H1) : tSeq (tAsg te (gName i)) tz D σ H := h H (Ex.refl H) _ fun p H1 vs np e hp r => k p H1 vs np e hp r
/-! ### [.. for i, x in enumerate(xs)], tuples -/
def EvLT (te : TE) (σ : L2.St) (H : Hp) (n : Nat) (f : Nat → List V) : Prop := EvX te σ H fun H2 vs => ∃ ts : List Addr, vs = ts.map V.ref ∧ ts.length = n ∧ ∀ (i : Nat) (t : Addr), ts[i]? = some t → H2 t = some (.tup (f i))
theorem elt_enum {a : Addr} {xs : List V} {j1 j2 : Nat} {vs : List Nat} (f : Nat → List V) (h : Ev ta σ H (.ref a)) (hx : SqL K H a xs) (hz : xs.length ≤ 40000) (hw : ∀ x y, wipe (((wipe σ vs).set j1 (some x)).set j2 (some y)) vs = wipe σ vs)
    (he : ∀ (i : Nat) x, xs[i]? = some x → EvU te (((wipe σ vs).set j1 (some (.int (i : Int)))).set j2 (some x)) H (f i)) : EvLT (tLc (iEnum K (tCons ta tNil)) (gTup K 2 (gCons (gName j1) (gCons (gName j2) gNil))) tYes te vs) σ H xs.length f := fun H0 e0 Q q =>
  h H0 e0 _ fun H1 e1 => ⟨a, xs, rfl, ex_l (e0.trans e1) hx, fun Dl hD => ⟨fun i m H' => i + m = xs.length ∧ Ex H1 H' ∧ ∃ ts : List Addr, H' Dl = some (.lst (ts.map V.ref)) ∧ ts.length = i ∧ ∀ (k : Nat) (t : Addr), ts[k]? = some t → H' t = some (.tup (f k)),
    ⟨xs.length, by omega, Ex.new hD, [], upd_same, rfl, fun k t hk => by simp at hk⟩, fun i m H' hW => by
    obtain ⟨hm, ex, ts, hDl, hl, ht⟩ := hW
    rcases Nat.lt_or_ge i xs.length with hi | hi
    · have hx' : xs[i]? = some xs[i] := List.getElem?_eq_getElem hi
      refine .inr ⟨⟨xs, xs[i], ex_l ((e0.trans e1).trans ex) hx, hx'⟩, fun H2 => (i + 1) + (m - 1) = xs.length ∧ Ex H1 H2 ∧ ∃ ts : List Addr, H2 Dl = some (.lst (ts.map V.ref)) ∧ ts.length = i + 1 ∧ ∀ (k : Nat) (t : Addr), ts[k]? = some t → H2 t = some (.tup (f k)), fun H2 p2 => ⟨m - 1, by omega, p2⟩, fun x H2 hy => ?_⟩
      obtain ⟨T, y, rfl, nT, rfl, fy⟩ := hy
      have ey : y = xs[i] := Option.some.inj ((fy xs (ex_l ((e0.trans e1).trans ex) hx)).symm.trans hx')
      subst ey
      refine ⟨T, [.int (i : Int), xs[i]], rfl, st_of upd_same, rfl, _, _, rfl, _, _, rfl, rfl, ?_⟩
      refine ⟨hw _ _, ?_⟩
      have eT : Ex H' (upd H' T (.tup [.int (i : Int), xs[i]])) := Ex.new nT
      show te _ _ _
      refine he i xs[i] hx' _ (((e0.trans e1).trans ex).trans eT) _ fun p2 H4 np2 e4 hp2 => ?_
      have eA := eT.trans e4
      refine ⟨ts.map V.ref, eA Dl _ hDl, sz_lt (by rw [List.length_map]; omega), by omega, Ex.mut (ex.trans eA) hD, ts ++ [p2], by rw [upd_same, List.map_append]; rfl, by rw [List.length_append, hl]; rfl, fun k t hk => ?_⟩
      have hne : ∀ t', H4 t' = some (.tup (f k)) → t' ≠ Dl := fun t' h' z => by rw [z, eA Dl _ hDl] at h'; cases h'
      rcases Nat.lt_or_ge k ts.length with hkl | hkl
      · rw [List.getElem?_append_left hkl] at hk
        have h4 := eA t _ (ht k t hk)
        rw [upd_ne (hne t h4)]; exact h4
      · rw [List.getElem?_append_right hkl] at hk
        have ek : k = ts.length := by
          rcases Nat.lt_or_ge (k - ts.length) 1 with z | z
          · omega
          · rw [List.getElem?_eq_none (by simpa using z)] at hk; cases hk
        subst ek
        rw [Nat.sub_self] at hk
        cases hk
        rw [hl] at hne ⊢
        rw [upd_ne (hne p2 hp2)]; exact hp2
    · have ei : i = xs.length := by omega
      refine .inl ⟨⟨xs, ex_l ((e0.trans e1).trans ex) hx, hi⟩, q Dl H' _ (fresh_back e1 hD) (e1.trans ex) hDl ⟨ts, rfl, by rw [hl, ei], ht⟩⟩⟩⟩
/-! ### sorted of pairs -/
def pairK (H : Hp) (v : V) : Int × Int := match v with
  | .ref t => match H t with
    | some (.tup [.int a, .int b]) => (a, b)
    | _ => (0, 0)
  | _ => (0, 0)
theorem pairK_of {H : Hp} {t : Addr} {a b : Int} (h : H t = some (.tup [.int a, .int b])) : pairK H (.ref t) = (a, b) := by simp [pairK, h]
/-- the pairs of a list, in order: told by their values -/
theorem ex_sortedP {n : Nat} {f : Nat → Int × Int} (h : EvLT ta σ H n (fun i => [.int (f i).1, .int (f i).2])) : EvX (tCB (rSortedPO K) (tCons ta tNil)) σ H (fun H2 vs => ∃ (ts : List Addr) (ps : List (Int × Int)), vs = ts.map V.ref ∧ ts.length = ps.length ∧ ps.Perm ((List.range n).map f) ∧ ps.Pairwise (fun p q => SrtO.lexB q p = false) ∧
    ∀ (i : Nat) (t : Addr) (p : Int × Int), ts[i]? = some t → ps[i]? = some p → H2 t = some (.tup [.int p.1, .int p.2])) := fun H1 e Q q =>
  h H1 e _ fun p H2 vs np e2 hp ⟨ts, ev, hl, ht⟩ => by
    subst ev
    have hk : ∀ x ∈ ts.map V.ref, ∃ t, x = V.ref t ∧ H2 t = some (.tup [.int (pairK H2 x).1, .int (pairK H2 x).2]) := fun x hx => by
      obtain ⟨t, hm, rfl⟩ := List.mem_map.mp hx
      obtain ⟨i, hi, rfl⟩ := List.getElem_of_mem hm
      have h1 := ht i ts[i] (List.getElem?_eq_getElem hi)
      refine ⟨ts[i], rfl, ?_⟩
      rw [pairK_of h1]; exact h1
    refine ⟨p, ts.map V.ref, pairK H2, rfl, sq_of hp, hk, fun ys p2 hS hB np2 => ?_⟩
    have hperm := hB.perm
    have hys : ∃ us : List Addr, ys = us.map V.ref := by
      refine ⟨ys.map fun v => match v with | .ref t => t | _ => p, ?_⟩
      rw [List.map_map]
      conv => lhs; rw [← List.map_id ys]
      apply List.map_congr_left
      intro v hv
      obtain ⟨t, _, rfl⟩ := List.mem_map.mp (hperm.mem_iff.mp hv)
      rfl
    obtain ⟨us, rfl⟩ := hys
    have eN : Ex H2 (upd H2 p2 (.lst (us.map V.ref))) := Ex.new np2
    refine q p2 _ (us.map V.ref) (fresh_back e2 np2) (e2.trans eN) upd_same ⟨us, us.map fun t => pairK H2 (.ref t), rfl, by rw [List.length_map], ?_, ?_, fun i t pp h1 h2 => ?_⟩
    · have h5 := hperm.map (pairK H2)
      rw [List.map_map, List.map_map] at h5
      refine h5.trans (List.Perm.of_eq ?_)
      apply List.ext_getElem?
      intro i
      rw [List.getElem?_map, List.getElem?_map]
      rcases Nat.lt_or_ge i ts.length with hi | hi
      · rw [List.getElem?_eq_getElem hi, List.getElem?_range (by omega)]
        show some (pairK H2 (.ref ts[i])) = some (f i)
        rw [pairK_of (ht i ts[i] (List.getElem?_eq_getElem hi))]
      · rw [List.getElem?_eq_none hi, List.getElem?_eq_none (by rw [List.length_range]; omega)]
        rfl
    · rw [List.pairwise_map]
      exact List.pairwise_map.mp hS
    · rw [List.getElem?_map, h1] at h2
      cases h2
      have hm : V.ref t ∈ us.map V.ref := List.mem_map.mpr ⟨t, List.mem_of_getElem? h1, rfl⟩
      obtain ⟨t', e', h6⟩ := hk _ (hperm.mem_iff.mp hm)
      cases e'
      exact eN t _ h6
theorem q_forX {g : TG} {R : Hp → List V → Prop} (h : EvX te σ H R) (k : ∀ p H1 vs, H p = none → Ex H H1 → H1 p = some (.lst vs) → R H1 vs → tFor (iList K (tC (.ref p))) g tu { D with nx := tz D } σ H1) : tSeq (tFor (iList K te) g tu) tz D σ H :=
  h H (Ex.refl H) _ fun p H1 vs np e hp r => k p H1 vs np e hp r
/-! ### for x in a list told by a property -/
theorem q_forP {n j : Nat} {C : Hp → V → Prop} (u : Up C) (h : EvP tl σ H (LB n C)) (Sv : L2.St → Prop) (h0 : Sv σ) (hs : ∀ v σ' H', Ex H H' → Sv σ' → C H' v → ∀ D' : Ends, (∀ σ2 H2, Ex H' H2 → Sv σ2 → D'.nx σ2 H2) → D'.rt = D.rt → tu D' (σ'.set j (some v)) H')
    (hd : ∀ σ' H', Ex H H' → Sv σ' → tz D σ' H') : tSeq (tFor (iList K tl) (gName j) tu) tz D σ H := h H (Ex.refl H) _ fun v0 H1 e1 ⟨p, vs, ev, hp, hl, hc⟩ => by
  subst ev
  refine ⟨p, rfl, ⟨vs, sq_of hp⟩, ?_⟩
  refine for_list (D := { D with nx := tz D }) (fun i σ' H' => Ex H1 H' ∧ Sv σ') ⟨Ex.refl _, h0⟩ (fun i σ' H' _ hP => sq_of (hP.1 p _ hp)) (fun i x σ' H' hx hP => ?_) (fun σ' H' hP => hd σ' H' (e1.trans hP.1) hP.2)
  exact hs x σ' H' (e1.trans hP.1) hP.2 (u _ _ _ hP.1 (hc x (List.mem_of_getElem? hx))) _ (fun σ2 H2 e2 h2 => ⟨hP.1.trans e2, h2⟩) rfl
end
end Tr

set_option Elab.async false
set_option linter.all false
set_option maxRecDepth 100000
set_option maxHeartbeats 4000000
/-! TrC: lists put together, tuples taken apart, walks over the keys of a dict. -/
namespace Tr
open PySem PySem.Spec PyProof.Rows L2 Evl
section
variable {K : PySem.W.Frag} {σ : L2.St} {H H' : Hp} {ta tb te tl : TE} {t : TA} {x v : V} {D : Ends} {tz tu : TS}
/-- xs + ys -/
theorem el_cat {a : Addr} {xs ys : List V} (ha : Ev ta σ H (.ref a)) (hx : H a = some (.lst xs)) (hb : EvL tb σ H ys) (hz : xs.length + ys.length ≤ 100000) : EvL (tOp rCat ta tb) σ H (xs ++ ys) := fun H1 e Q q =>
  ha H1 e _ fun H2 e2 => hb H2 (e.trans e2) _ fun p H3 np e3 h3 => ⟨a, p, xs, ys, rfl, rfl, ((e.trans e2).trans e3) a _ hx, h3, sz_of hz, fun p2 np2 => q p2 _ (fresh_back (e2.trans e3) np2) ((e2.trans e3).trans (Ex.new np2)) upd_same⟩
theorem el_cat2 {a b : Addr} {xs ys : List V} (ha : Ev ta σ H (.ref a)) (hx : H a = some (.lst xs)) (hb : Ev tb σ H (.ref b)) (hy : H b = some (.lst ys)) (hz : xs.length + ys.length ≤ 100000) : EvL (tOp rCat ta tb) σ H (xs ++ ys) := fun H1 e Q q =>
  ha H1 e _ fun H2 e2 => hb H2 (e.trans e2) _ fun H3 e3 => ⟨a, b, xs, ys, rfl, rfl, ((e.trans e2).trans e3) a _ hx, ((e.trans e2).trans e3) b _ hy, sz_of hz, fun p2 np2 => q p2 _ (fresh_back (e2.trans e3) np2) ((e2.trans e3).trans (Ex.new np2)) upd_same⟩
theorem el_catN {xs ys : List V} (ha : EvL ta σ H xs) (hb : EvL tb σ H ys) (hz : xs.length + ys.length ≤ 100000) : EvL (tOp rCat ta tb) σ H (xs ++ ys) := fun H1 e Q q =>
  ha H1 e _ fun a H2 na e2 h2 => hb H2 (e.trans e2) _ fun p H3 np e3 h3 => ⟨a, p, xs, ys, rfl, rfl, e3 a _ h2, h3, sz_of hz, fun p2 np2 => q p2 _ (fresh_back (e2.trans e3) np2) ((e2.trans e3).trans (Ex.new np2)) upd_same⟩
/-- a, b, c = a tuple -/
theorem q_tup3 {i j k : Nat} {T : Addr} {x y z : V} (h : Ev te σ H (.ref T)) (hT : H T = some (.tup [x, y, z])) (q : ∀ H1, Ex H H1 → tz D (((σ.set i (some x)).set j (some y)).set k (some z)) H1) :
    tSeq (tAsg te (gTup K 3 (gCons (gName i) (gCons (gName j) (gCons (gName k) gNil))))) tz D σ H := h H (Ex.refl H) _ fun H1 e => ⟨T, [x, y, z], rfl, st_of (e T _ hT), rfl, _, _, rfl, _, _, rfl, _, _, rfl, rfl, q H1 e⟩
/-- all but d stands as it was -/
def ExB (d : Addr) (H H' : Hp) : Prop := ∀ a u, a ≠ d → H a = some u → H' a = some u
theorem sq_but {d p : Addr} {kvs : List (Key × V)} {xs : List V} (hd : H d = some (.dK kvs)) (e : ExB d H H') (h : SqL K H p xs) : SqL K H' p xs := by
  rcases h with (h | ⟨o, h⟩) | h
  · exact .inl (.inl (e p _ (fun z => by rw [z, hd] at h; cases h) h))
  · exact .inl (.inr ⟨o, e p _ (fun z => by rw [z, hd] at h; cases h) h⟩)
  · exact .inr h
/-- for k in d, nothing written to what stood -/
theorem s_forKeys {d : Addr} {kvs : List (Key × V)} {i0 j : Nat} (h : σ[i0]? = some (some (.ref d))) (hd : H d = some (.dK kvs)) (Pv : Nat → L2.St → Prop) (h0 : Pv 0 σ)
    (hs : ∀ i k σ' H' (D' : Ends), (kvs.map (·.1))[i]? = some k → Pv i σ' → Rd H' d (.dK kvs) → ExB d H H' → (∀ σ2 H2, Ex H' H2 → Pv (i + 1) σ2 → D'.nx σ2 H2) → (∀ v H2, Ex H' H2 → (∀ H3, Ex H H3 → D.rt v H3) → D'.rt v H2) → tu D' (σ'.set j (some (kV k))) H')
    (hd2 : ∀ σ' H', Ex H H' → Pv kvs.length σ' → D.nx σ' H') : tLock (tFor (iKeys (tVar i0)) (gName j) tu) D σ H := by
  refine ⟨d, .dK kvs, hd, trivial, fun od => ⟨.ref d, h, d, od, rfl, .inl ⟨kvs, upd_same, fun i m σ' H' => Pv i σ' ∧ Ex (upd H d (.frz od (.dK kvs))) H' ∧ i + m = kvs.length, ⟨kvs.length, h0, Ex.refl _, by omega⟩, fun i m σ' H' hw => ?_⟩⟩⟩
  obtain ⟨hp, ex, em⟩ := hw
  have hd' : H' d = some (.frz od (.dK kvs)) := ex d _ upd_same
  have back : ∀ H2, Ex (upd H d (.frz od (.dK kvs))) H2 → Ex H (upd H2 d (.dK kvs)) := fun H2 e a u ha => by
    by_cases z : a = d
    · subst z; rw [upd_same, ← hd, ha]
    · rw [upd_ne z]; exact e a u (by rw [upd_ne z]; exact ha)
  rcases Nat.lt_or_ge i kvs.length with hi | hi
  · have hk : kvs[i]? = some kvs[i] := List.getElem?_eq_getElem hi
    refine .inr ⟨⟨hd', hi⟩, fun σ2 H2 => Pv (i + 1) σ2 ∧ Ex (upd H d (.frz od (.dK kvs))) H2, fun σ2 H2 p2 => ⟨m - 1, by omega, p2.1, p2.2, by omega⟩, fun x H2 hy => ?_⟩
    obtain ⟨rfl, k, v, e1, rfl⟩ := hy
    refine hs i k σ' _ _ (by rw [List.getElem?_map, e1]; rfl) hp (.inr ⟨od, hd'⟩) (fun a u z ha => ex a u (by rw [upd_ne z]; exact ha)) (fun σ2 H3 e3 p3 => ⟨p3, ex.trans e3⟩) (fun v2 H3 e3 r3 => ⟨e3 d _ hd', r3 _ (back H3 (ex.trans e3))⟩)
  · have ei : i = kvs.length := by omega
    subst ei
    exact .inl ⟨⟨hd', Nat.le_refl _⟩, hd', hd2 σ' _ (back _ ex) hp⟩
end
end Tr

set_option Elab.async false
set_option linter.all false
set_option maxRecDepth 100000
set_option maxHeartbeats 4000000
/-! TrM: max(list of counts, default=0). -/
namespace Tr
open PySem PySem.Spec PyProof.Rows L2 Evl
def maxN (ns : List Nat) : Nat := ns.foldl max 0
theorem le_foldl (ns : List Nat) : ∀ a : Nat, a ≤ ns.foldl max a ∧ ∀ n ∈ ns, n ≤ ns.foldl max a := by
  induction ns with
  | nil => intro a; simp
  | cons x r ih =>
    intro a
    obtain ⟨h1, h2⟩ := ih (max a x)
    refine ⟨Nat.le_trans (Nat.le_max_left _ _) h1, fun n hn => ?_⟩
    rcases List.mem_cons.mp hn with rfl | hn
    · exact Nat.le_trans (Nat.le_max_right _ _) h1
    · exact h2 n hn
theorem le_maxN {ns : List Nat} {n : Nat} (h : n ∈ ns) : n ≤ maxN ns := (le_foldl ns 0).2 n h
theorem maxN_le {ns : List Nat} {b : Nat} (h : ∀ n ∈ ns, n ≤ b) : maxN ns ≤ b := by
  have : ∀ (ms : List Nat) (a : Nat), (∀ n ∈ ms, n ≤ b) → a ≤ b → ms.foldl max a ≤ b := by
    intro ms
    induction ms with
    | nil => intro a _ ha; exact ha
    | cons x r ih =>
      intro a hm ha
      exact ih (max a x) (fun n hn => hm n (by simp [hn])) (Nat.max_le.mpr ⟨ha, hm x (by simp)⟩)
  exact this ns 0 h (Nat.zero_le _)
theorem maxD_nat : ∀ (ns : List Nat) (a : Nat), PySem.W.maxD (.int (a : Int)) (ns.map fun n : Nat => PyData.int (n : Int)) = .int ((ns.foldl max a : Nat) : Int)
  | [], a => rfl
  | n :: r, a => by
    have ih := maxD_nat r (max a n)
    unfold PySem.W.maxD at ih ⊢
    rw [List.map_cons, List.foldl_cons, List.foldl_cons, ← ih]
    congr 1
    have e : PySem.W.dataLt (.int (a : Int)) (.int (n : Int)) = decide ((a : Int) < (n : Int)) := by
      exact PySem.W.dataLt_int _ _
    rw [e]
    by_cases h : a < n
    · rw [decide_eq_true (by omega), if_pos rfl, Nat.max_eq_right (by omega)]
    · rw [decide_eq_false (by omega), if_neg (by decide), Nat.max_eq_left (by omega)]
def rMaxD (K : PySem.W.Frag) : List V → List V → Hp → VK → Prop := fun vs zs H Q => ∃ (a : Addr) (ns : List Nat), vs = [.ref a] ∧ zs = [.int 0] ∧ SqL K H a (ns.map fun n : Nat => V.int (n : Int)) ∧ Q (.int ((maxN ns : Nat) : Int)) H
theorem cr_maxD {X : Cx} {K : PySem.W.Frag} (hK : X.K = K) (hc : X.calm = true) (hu : X.A.units + 1 < cLine) : CallRK X (.builtin "max") [Str.ofString "default"] (rMaxD K) := by
  subst hK
  intro pins s σ H vs zs us ws Q I r rz h
  obtain ⟨a, ns, rfl, rfl, hs, q⟩ := h
  obtain rfl := Vals.ref1 r
  obtain ⟨w1, rfl, e1⟩ := vals1 rz
  obtain ⟨tk0, rfl⟩ := (show ∃ t, w1 = Value.int 0 t from e1)
  obtain ⟨its, rv, hl, hz⟩ := I.list hs
  have hall : DpAll X.K H (ns.map fun n : Nat => V.int (n : Int)) (ns.map fun n : Nat => PyData.int (n : Int)) := by
    have := enc_all enc_int X.K H (List.map (fun n : Nat => (n : Int)) ns)
    rwa [List.map_map, List.map_map] at this
  obtain ⟨as, hr⟩ := Dp.readsAll I _ _ _ hall rv
  have hdep : PyData.depthAll (ns.map fun n : Nat => PyData.int (n : Int)) = 0 := by
    have := enc_depth enc_int (List.map (fun n : Nat => (n : Int)) ns)
    rwa [List.map_map] at this
  refine PySem.W.max_list_default (vs := its.toArray) (xs := ns.map fun n : Nat => PyData.int (n : Int)) (as := as) (I.ok.hd hc) hl.isList hr ⟨fun x hx y hy => ?_, fun x hx e => ?_⟩ (by rw [hdep]; exact hu) (fun h0 h' tk k => ?_) (fun y ys i v h' tk bs hxs _ hrd k => ?_)
  · obtain ⟨n, _, rfl⟩ := List.mem_map.mp hx
    obtain ⟨m, _, rfl⟩ := List.mem_map.mp hy
    first | rfl | simp [PySem.W.alike]
  · obtain ⟨n, _, rfl⟩ := List.mem_map.mp hx
    cases e
  · have hn : ns = [] := List.map_eq_nil_iff.mp h0
    subst hn
    exact ⟨.int 0, H, I.kept k, ⟨tk0, rfl⟩, q⟩
  · cases ns with
    | nil => cases hxs
    | cons n r =>
      rw [List.map_cons] at hxs
      obtain ⟨rfl, rfl⟩ := List.cons.inj hxs
      rw [maxD_nat] at hrd
      have e : n :: r ≠ [] := by simp
      have em : maxN (n :: r) = r.foldl max n := by
        unfold maxN; rw [List.foldl_cons, Nat.max_eq_right (Nat.zero_le n)]
      rw [em] at q
      cases hrd
      exact ⟨.int ((r.foldl max n : Nat) : Int), H, I.kept k, ⟨_, rfl⟩, q⟩
theorem ev_maxD {K : PySem.W.Frag} {σ : L2.St} {H : Hp} {ta tb : TE} {a : Addr} {ns : List Nat} (h : Ev ta σ H (.ref a)) (hs : SqL K H a (ns.map fun n : Nat => V.int (n : Int))) (hb : Ev tb σ H (.int 0)) : Ev (tCKw (rMaxD K) (tCons ta tNil) (tCons tb tNil)) σ H (.int ((maxN ns : Nat) : Int)) := fun H1 e Q q =>
  h H1 e _ fun H2 e2 => hb H2 (e.trans e2) _ fun H3 e3 => ⟨a, ns, rfl, rfl, ex_l ((e.trans e2).trans e3) hs, q H3 (e2.trans e3)⟩
end Tr

set_option Elab.async false
set_option linter.all false
set_option maxRecDepth 100000
set_option maxHeartbeats 4000000
/-! TrB: rules that the layer lacks: text * int, text[::-1], set(list of ints), list >= list of ints. -/
namespace Tr
open PySem PySem.Spec PyProof.Rows L2 Evl
/-! ### a text times an int -/
def repW (a : Wd) (n : Int) : Wd := (List.replicate n.toNat a).flatten
theorem fold_rep (a : Wd) (k : Nat) : ∀ acc : Wd, List.foldl (fun x y => x ++ y) acc.toArray (List.replicate k a.toArray) = (acc ++ (List.replicate k a).flatten).toArray := by
  induction k with
  | zero => intro acc; simp
  | succ k ih =>
    intro acc
    rw [List.replicate_succ, List.foldl_cons]
    have : acc.toArray ++ a.toArray = (acc ++ a).toArray := by simp
    rw [this, ih, List.replicate_succ, List.flatten_cons, List.append_assoc]
def rRepS : R2 := fun x y H Q => ∃ (a : Wd) (n : Int), x = tx a ∧ y = .int n ∧ -1000 ≤ n ∧ n ≤ 1000 ∧ a.length ≤ 1000 ∧ Q (tx (repW a n)) H
theorem op_rep_str {X : Cx} : OpR X (binaryOp .Mult) rRepS := by
  intro pins s σ H x y v u Q I rx ry h
  obtain ⟨a, n, rfl, rfl, h1, h2, h3, q⟩ := h
  obtain ⟨t, rfl⟩ := rx
  obtain ⟨t', rfl⟩ := ry
  have hmul : a.length * n.toNat ≤ 1000 * 1000 := Nat.mul_le_mul h3 (by omega)
  refine P.mul_str ?_ ?_ ?_ ?_
  · have e1 : ¬ n < -(2 ^ 63 : Int) := by omega
    have e2 : ¬ n ≥ 2 ^ 63 := by omega
    rw [decide_eq_false e1, decide_eq_false e2]; rfl
  · intro hn _ hc
    rw [S_len] at hc
    have e3 : (1000 : Int) ≤ (2 ^ 63 - 1) / n := by
      rw [Int.le_ediv_iff_mul_le (by omega)]; omega
    omega
  · intro hn _
    rw [S_len]
    unfold Builtin.Str.tooLong
    exact decide_eq_false (by rw [sizeLine_eq]; omega)
  · have fin : ∀ (b : Wd) (k : Tok) (tk : Tok), b = repW a n → EP X pins σ Q (.str (S b) k) { s with toks := tk } := fun b k tk e => ⟨tx (repW a n), H, I.tok _, ⟨k, by rw [e]⟩, q⟩
    by_cases hn : n < 1
    · rw [if_pos hn]
      refine ⟨by decide, ?_⟩
      have e0 : repW a n = [] := by
        unfold repW
        have : n.toNat = 0 := by omega
        rw [this]; rfl
      exact fin [] _ _ e0.symm
    · rw [if_neg hn]
      by_cases h4 : (n == 1 || (S a).length == 0) = true
      · rw [if_pos h4]
        have e0 : repW a n = a := by
          unfold repW
          rw [Bool.or_eq_true, beq_iff_eq, beq_iff_eq, S_len] at h4
          rcases h4 with h4 | h4
          · subst h4; simp
          · have : a = [] := List.eq_nil_of_length_eq_zero h4
            subst this
            have hh : ∀ k, (List.replicate k ([] : Wd)).flatten = [] := fun k => by induction k with
              | zero => rfl
              | succ k ih => rw [List.replicate_succ, List.flatten_cons, ih]; rfl
            exact hh _
        exact fin a t s.toks e0.symm
      · rw [if_neg h4]
        have e0 : (⟨(List.replicate n.toNat (S a).cps).foldl (· ++ ·) #[]⟩ : Str) = S (repW a n) := by
          show Str.mk (List.foldl (fun x y => x ++ y) ([] : Wd).toArray (List.replicate n.toNat a.toArray)) = _
          rw [fold_rep]; rfl
        rw [e0]
        refine ⟨by rw [S_len]; unfold repW; rw [List.length_flatten, List.map_replicate, List.sum_replicate_nat, Nat.mul_comm]; rw [sizeLine_eq]; omega, ?_⟩
        exact fin _ _ _ rfl
theorem rv_repS {H : Hp} {a : Wd} {n : Int} (h : (-1000 ≤ n ∧ n ≤ 1000) ∧ a.length ≤ 1000) : RV rRepS (tx a) (.int n) H (tx (repW a n)) := fun H1 _ Q q => ⟨a, n, rfl, rfl, h.1.1, h.1.2, h.2, q H1 (Ex.refl H1)⟩
/-! ### text[::-1] -/
def tRevS (te : TE) : TE := fun σ H Q => te σ H fun x H1 => ∃ a : Wd, x = tx a ∧ a.length ≤ 100000 ∧ Q (tx a.reverse) H1
theorem rev_indices (a : Wd) : (Builtin.Str.strSliceIndices none none (-1) (S a).length).filterMap ((S a).cps[·]?) = a.reverse := by
  have h1 : Builtin.Str.strSliceIndices none none (-1) (S a).length = sliceRange (((S a).length : Int) - 1) (-1) (-1) := rfl
  have h2 : (S a).length = a.toArray.size := rfl
  rw [h1, h2, PySem.W.krv_sliceRange, PySem.W.krv_range, List.filterMap_reverse]
  have h3 := PySem.W.krv_all a.toArray
  exact congrArg List.reverse (by simpa [S] using h3)
theorem pe_revS {X : Cx} {e : Expr} {te : TE} {k : Nat} {p1 p2 p3 pos : Pos} (he : PE X e te) : PE X (.Subscript e (.Slice none none (some (.UnaryOp .USub (.Constant (.int 1) k p1) p2)) p3) pos) (tRevS te) := by
  refine ⟨fun pins s σ H Q I h => Subscript_ (thn (he.run pins s σ H _ I h) fun v s1 ⟨x, H1, I1, r1, a, ex, hz, q⟩ => ?_)⟩
  subst ex
  obtain ⟨t, rfl⟩ := r1
  have hst : PO X (some (.UnaryOp .USub (.Constant (.int 1) k p1) p2)) (tPart (tUn (rU fun i => .int (-i)) (tC (.int 1)))) := po_some (pe_un un_neg pe_int)
  refine wpAny_Slice (thn (po_none.run pins s1 σ H1 (fun o H2 => o = none ∧ H2 = H1) I1 ⟨rfl, rfl⟩) fun vl s2 ⟨o2, H2, I2, pl, e2, e3⟩ => ?_)
  subst e2 e3
  refine thn (po_none.run pins s2 σ H2 (fun o H3 => o = none ∧ H3 = H2) I2 ⟨rfl, rfl⟩) fun vu s3 ⟨o3, H3, I3, pu, e4, e5⟩ => ?_
  subst e4 e5
  refine thn (hst.run pins s3 σ H3 (fun o H4 => o = some (-1) ∧ H4 = H3) I3 ⟨1, rfl, -1, rfl, rfl, rfl⟩) fun vs s4 ⟨o4, H4, I4, ps, e6, e7⟩ => ?_
  subst e6 e7
  obtain ⟨pl', rfl, hl⟩ := IsPart.raw pl
  obtain ⟨pu', rfl, hu⟩ := IsPart.raw pu
  obtain ⟨ps', rfl, hs⟩ := IsPart.raw ps
  have I5 : Inv X pins σ H4 { s4 with heap := s4.heap.push { cls := .type "slice", data := .fields #[partValue pl', partValue pu', partValue ps'] } } := I4.kept (t' := s4.toks) fun b ob q => Heap.get?_push_of_some _ q
  show wpAny (model X.prog X.w) X.A (subscriptTail e (.Slice none none (some (.UnaryOp .USub (.Constant (.int 1) k p1) p2)) p3) (.str (S a) t) (.ref s4.heap.objs.size)) (EP X pins σ Q) X.xe { s4 with heap := s4.heap.push { cls := .type "slice", data := .fields #[partValue pl', partValue pu', partValue ps'] } }
  refine tail_any (ops := [.str (S a) t, .ref s4.heap.objs.size]) (typeIs_str _ _ _) F.slot_str_getitem.lookup ?_ (by with_unfolding_all rfl)
  refine wpAny_getItem_str_slice (l := pl') (u := pu') (st := ps') ⟨_, Heap.get?_push_size _ rfl, rfl, rfl⟩ (by rw [hs]; rfl) ?_
  unfold sliceMade slicePicked
  rw [hs, hl, hu]
  show Made.post (if ((-1 : Int) == 1 && _) = true then _ else Made.str ⟨((Builtin.Str.strSliceIndices none none (-1) (S a).length).filterMap ((S a).cps[·]?)).toArray⟩) (EP X pins σ Q) _
  rw [if_neg (by simp)]
  show Made.post (Made.str ⟨((Builtin.Str.strSliceIndices none none (-1) (S a).length).filterMap ((S a).cps[·]?)).toArray⟩) (EP X pins σ Q) _
  rw [rev_indices]
  refine ⟨?_, tx a.reverse, H4, I5.tok _, ⟨_, rfl⟩, q⟩
  show (S a.reverse).length ≤ sizeLine
  rw [S_len, List.length_reverse]
  exact sz_of hz
theorem ev_revS {te : TE} {σ : L2.St} {H : Hp} {a : Wd} (h : Ev te σ H (tx a)) (hz : a.length ≤ 100000) : Ev (tRevS te) σ H (tx a.reverse) := fun H1 e Q q => h H1 e _ fun H2 e2 => ⟨a, rfl, hz, q H2 e2⟩
/-! ### list >= list of ints -/
end Tr
namespace TrG
open PySem PySem.SeqAt
open PySem.AutoSeq1 (wpAny_loadPart')
open PySem.MeetsSeq PySem.MeetsSeq2 PySem.MeetsSeq3 PySem.SeqRoads2
abbrev LObj (dd : Option Addr) (xs : Array Value) (n : Nat) (sl : Array (Option Value)) : Obj := { cls := .type "list", dict := dd, data := .seq xs n, slots := sl }
theorem ge_loop (l b : Addr) (xs ys : Array Value) (n n2 : Nat) (dd dd2 : Option Addr) (sl sl2 : Array (Option Value)) (e r : Nat → Bool) : ∀ (k i : Nat), min xs.size ys.size - i = k →
    Meets (Builtin.«list.__eq__.loop» ⟨[.ref l, .ref b, rawInt i, rawInt 5], []⟩) fun A R s =>
      s.heap.get? l = some (LObj dd xs n sl) ∧ s.heap.get? b = some (LObj dd2 ys n2 sl2) ∧ (∀ j (h1 : j < xs.size) (h2 : j < ys.size), EqAt A.in1 s xs[j] ys[j] (e j)) ∧
      (∀ j (h1 : j < xs.size) (h2 : j < ys.size), e j = false → Ob.RcOp .GtE A.in1 s xs[j] ys[j] (r j)) ∧ R (.ok (.ret (.bool (Ob.lexAt e r (decide (xs.size ≥ ys.size)) i k)))) s
  | 0, i, hk => fun prog w A R s h => by
    obtain ⟨h0, g, d, tk, os⟩ := s
    obtain ⟨hl, hb, he, hr, h⟩ := h
    wp_walk using wpAny_loadPart' hl, wpAny_loadPart' hb
    rcases Nat.lt_or_ge i xs.size with h1 | h1
    · have q1 : xs[((i : Nat) : Int).toNat]? = some xs[i] := by simp [h1]
      have q2 : ys[((i : Nat) : Int).toNat]? = none := by simp; omega
      rw [q1, q2]
      wp_walk using wpAny_loadPart' hl, wpAny_loadPart' hb
      exact h
    · have q1 : xs[((i : Nat) : Int).toNat]? = none := by simp; omega
      rw [q1]
      wp_walk using wpAny_loadPart' hl, wpAny_loadPart' hb
      exact h
  | k + 1, i, hk => fun prog w A R s h => by
    obtain ⟨h0, g, d, tk, os⟩ := s
    obtain ⟨hl, hb, he, hr, h⟩ := h
    wp_walk using wpAny_loadPart' hl, wpAny_loadPart' hb
    have l1 : i < xs.size := by omega
    have l2 : i < ys.size := by omega
    have q1 : xs[((i : Nat) : Int).toNat]? = some xs[i] := by simp [l1]
    have q2 : ys[((i : Nat) : Int).toNat]? = some ys[i] := by simp [l2]
    rw [Ob.lexAt_succ] at h
    rw [q1, q2]
    refine wpAny_bind (he i l1 l2 prog w _ _ ?_)
    cases hei : e i with
    | true =>
      rw [hei, if_pos rfl] at h
      wp_walk
      have q3 : (i : Int) + 1 = ((i + 1 : Nat) : Int) := by omega
      rw [q3]
      exact ⟨plainId_quiet plain_eq_loop _, codeAny_builtin entry_eq_loop (by
        rw [Around.under_plainId plain_eq_loop _]
        exact ge_loop l b xs ys n n2 dd dd2 sl sl2 e r k (i + 1) (by omega) prog w A R _ ⟨hl, hb, he, hr, h⟩)⟩
    | false =>
      rw [hei, if_neg Bool.false_ne_true] at h
      wp_walk using wpAny_loadPart' hl, wpAny_loadPart' hb
      rw [q1, q2]
      have hri := hr i l1 l2 hei prog w
      wp_walk using hri
      exact h
theorem ge_at (l b : Addr) (xs ys : Array Value) (n n2 : Nat) (dd dd2 : Option Addr) (sl sl2 : Array (Option Value)) (e r : Nat → Bool) :
    Meets (Builtin.«list.__ge__» ⟨[.ref l, .ref b], []⟩) fun A R s =>
      s.heap.get? l = some (LObj dd xs n sl) ∧ s.heap.get? b = some (LObj dd2 ys n2 sl2) ∧ (∀ j (h1 : j < xs.size) (h2 : j < ys.size), EqAt A.in1 s xs[j] ys[j] (e j)) ∧
      (∀ j (h1 : j < xs.size) (h2 : j < ys.size), e j = false → Ob.RcOp .GtE A.in1 s xs[j] ys[j] (r j)) ∧ R (.ok (.ret (.bool (Ob.lexAt e r (decide (xs.size ≥ ys.size)) 0 (min xs.size ys.size))))) s := fun prog w A R s h => by
  obtain ⟨h0, g, d, tk, os⟩ := s
  obtain ⟨hl, hb, he, hr, h⟩ := h
  have f3 := AutoSeq1.sub_list_list
  wp_walk using wpAny_loadPart' hl, wpAny_loadPart' hb
  exact ⟨plainId_quiet plain_eq_loop _, codeAny_builtin entry_eq_loop (by
    rw [Around.under_plainId plain_eq_loop _]
    exact ge_loop l b xs ys n n2 dd dd2 sl sl2 e r _ 0 rfl prog w A R _ ⟨hl, hb, he, hr, by simpa using h⟩)⟩
theorem ge_lists {A : Around} {s : Shared} {l b : Addr} {xs ys : Array Value} {e r : Nat → Bool} (hl : s.heap.IsList l xs) (hb : s.heap.IsList b ys) (hu : A.units < cLine) (he : ∀ j (h1 : j < xs.size) (h2 : j < ys.size), EqAt A.in1 s xs[j] ys[j] (e j))
    (hr : ∀ j (h1 : j < xs.size) (h2 : j < ys.size), e j = false → Ob.RcOp .GtE A.in1 s xs[j] ys[j] (r j)) : Ob.RcOp .GtE A s (.ref l) (.ref b) (Ob.lexAt e r (decide (xs.size ≥ ys.size)) 0 (min xs.size ys.size)) := fun prog w E Q h => by
  obtain ⟨⟨c1, d1, x1, s1⟩, g1, k1, n, k2⟩ := id hl
  obtain ⟨⟨c2, d2, x2, s2⟩, g2, k3, n2, k4⟩ := id hb
  dsimp only at k1 k2 k3 k4
  subst k1 k2 k3 k4
  exact richCompare_meets_room (op := .GtE) ⟨_, g1, rfl⟩ ⟨_, g2, rfl⟩ F.slot_list_ge F.entry_list_ge (F.args_list_ge_2 _ _) (ge_at l b xs ys n n2 d1 d2 s1 s2 e r) ⟨g1, g2, he, hr, ⟨(fun x => nomatch x), h⟩⟩ hu
end TrG
namespace Tr
open PySem PySem.Spec PyProof.Rows L2 Evl
/-- a >= b of lists of ints, as the machine finds it -/
def geI (ns ms : List Int) : Bool := Ob.lexAt (fun j => decide (ns.getD j 0 = ms.getD j 0)) (fun j => decide (ms.getD j 0 ≤ ns.getD j 0)) (decide (ns.length ≥ ms.length)) 0 (min ns.length ms.length)
def rGeL (K : PySem.W.Frag) : R2 := fun x y H Q => ∃ (a b : Addr) (ns ms : List Int), x = .ref a ∧ y = .ref b ∧ SqL K H a (ns.map V.int) ∧ SqL K H b (ms.map V.int) ∧ Q (.bl (geI ns ms)) H
theorem op_geLK {X : Cx} {K : PySem.W.Frag} (hK : X.K = K) (hu : X.A.units < cLine) : OpR X (compareOp .GtE) (rGeL K) := by
  subst hK
  intro pins s σ H x y v u Q I rx ry h
  obtain ⟨a, b, ns, ms, rfl, rfl, ha, hb, q⟩ := h
  cases rx
  cases ry
  obtain ⟨us, r1, p1, _⟩ := I.list ha
  obtain ⟨us2, r2, p2, _⟩ := I.list hb
  have i1 : IntsAre us ns := Vals.ints r1
  have i2 : IntsAre us2 ms := Vals.ints r2
  have z1 : us.toArray.size = ns.length := by rw [List.size_toArray]; exact i1.length
  have z2 : us2.toArray.size = ms.length := by rw [List.size_toArray]; exact i2.length
  have t1 : ∀ j (h1 : j < us.toArray.size), ∃ t, us.toArray[j] = .int (ns.getD j 0) t := fun j h1 => PyProof.Rows.IntsAre.int_at i1 _ _ (by simp at h1; simp [h1])
  have t2 : ∀ j (h1 : j < us2.toArray.size), ∃ t, us2.toArray[j] = .int (ms.getD j 0) t := fun j h1 => PyProof.Rows.IntsAre.int_at i2 _ _ (by simp at h1; simp [h1])
  have R := TrG.ge_lists (A := X.A) (s := s) (e := fun j => decide (ns.getD j 0 = ms.getD j 0)) (r := fun j => decide (ms.getD j 0 ≤ ns.getD j 0)) p1.isList p2.isList hu (fun j h1 h2 => by
    obtain ⟨t, et⟩ := t1 j h1
    obtain ⟨t', et'⟩ := t2 j h2
    rw [et, et', show decide (ns.getD j 0 = ms.getD j 0) = (ns.getD j 0 == ms.getD j 0) from (Bool.beq_eq_decide_eq _ _).symm]
    exact SeqAt.EqAt.int_int _ _ _ _) (fun j h1 h2 _ => by
    obtain ⟨t, et⟩ := t1 j h1
    obtain ⟨t', et'⟩ := t2 j h2
    rw [et, et']
    exact Ob.RcOp.ge_int _ _ _ _)
  rw [z1, z2] at R
  exact (R X.prog X.w X.xe (EP X pins σ Q) ⟨.bl _, H, I, rfl, q⟩ : wpAny (model X.prog X.w) X.A (compareOp .GtE (.ref a) (.ref b)) (EP X pins σ Q) X.xe s)
theorem rv_geL {K : PySem.W.Frag} {H : Hp} {a b : Addr} {ns ms : List Int} (ha : SqL K H a (ns.map V.int)) (hb : SqL K H b (ms.map V.int)) : RV (rGeL K) (.ref a) (.ref b) H (.bl (geI ns ms)) := fun H1 e _ q => ⟨a, b, ns, ms, rfl, rfl, ex_l e ha, ex_l e hb, q H1 (Ex.refl H1)⟩
end Tr

set_option linter.all false
/-! M3: counting readings, in plain Lean -/
namespace M3
abbrev Wd := List Nat
def pre (a t : Wd) : Bool := decide (t.take a.length = a)
def waysF (ws : List Wd) : Nat → Wd → Nat
  | _, [] => 1
  | 0, _ :: _ => 0
  | n + 1, c :: r => ((ws.filter fun a => pre a (c :: r)).map fun a => waysF ws n ((c :: r).drop a.length)).sum
def ways (ws : List Wd) (t : Wd) : Nat := waysF ws t.length t
theorem sum_congr {α : Type} {f g : α → Nat} : ∀ {l : List α}, (∀ x ∈ l, f x = g x) → (l.map f).sum = (l.map g).sum
  | [], _ => rfl
  | x :: r, h => by
    simp only [List.map_cons, List.sum_cons]
    rw [h x (by simp), sum_congr fun y hy => h y (by simp [hy])]
theorem waysF_fuel (ws : List Wd) (hw : ∀ a ∈ ws, a ≠ []) : ∀ (n m : Nat) (t : Wd), t.length ≤ n → t.length ≤ m → waysF ws n t = waysF ws m t
  | n, m, [], _, _ => by cases n <;> cases m <;> rfl
  | 0, m, c :: r, h, _ => by simp at h
  | n + 1, 0, c :: r, _, h => by simp at h
  | n + 1, m + 1, c :: r, h1, h2 => by
    simp only [waysF]
    apply sum_congr
    intro a ha
    have ha' := List.mem_filter.mp ha
    have hl : 0 < a.length := List.length_pos_iff.mpr (hw a ha'.1)
    apply waysF_fuel ws hw
    · simp only [List.length_drop, List.length_cons] at h1 ⊢; omega
    · simp only [List.length_drop, List.length_cons] at h2 ⊢; omega
theorem ways_nil (ws : List Wd) : ways ws [] = 1 := rfl
theorem ways_eq (ws : List Wd) (hw : ∀ a ∈ ws, a ≠ []) {t : Wd} (ht : t ≠ []) : ways ws t = ((ws.filter fun a => pre a t).map fun a => ways ws (t.drop a.length)).sum := by
  cases t with
  | nil => exact absurd rfl ht
  | cons c r =>
    show waysF ws (r.length + 1) (c :: r) = _
    simp only [waysF]
    apply sum_congr
    intro a ha
    have ha' := List.mem_filter.mp ha
    have hl : 0 < a.length := List.length_pos_iff.mpr (hw a ha'.1)
    unfold ways
    apply waysF_fuel ws hw
    · simp only [List.length_drop, List.length_cons]; omega
    · exact Nat.le_refl _
theorem pre_len {a t : Wd} (h : pre a t = true) : a.length ≤ t.length := by
  have := of_decide_eq_true h
  have h2 := congrArg List.length this
  simp only [List.length_take] at h2
  omega
theorem pre_app {a t : Wd} (h : pre a t = true) : a ++ t.drop a.length = t := by
  have := of_decide_eq_true h
  have h2 := List.take_append_drop a.length t
  rw [this] at h2; exact h2
/-! the counts ahead of a place -/
def bef (ws : List Wd) (t : Wd) (p : Nat) : Nat := (((ws.take p).filter fun a => pre a t).map fun a => ways ws (t.drop a.length)).sum
theorem bef_zero (ws : List Wd) (t : Wd) : bef ws t 0 = 0 := by simp [bef]
theorem bef_succ (ws : List Wd) (t : Wd) {p : Nat} {a : Wd} (h : ws[p]? = some a) : bef ws t (p + 1) = bef ws t p + (if pre a t = true then ways ws (t.drop a.length) else 0) := by
  unfold bef
  rw [List.take_succ, h, List.filter_append, List.map_append, List.sum_append]
  by_cases hp : pre a t = true <;> simp [hp]
theorem bef_all (ws : List Wd) (hw : ∀ a ∈ ws, a ≠ []) {t : Wd} (ht : t ≠ []) : bef ws t ws.length = ways ws t := by
  rw [ways_eq ws hw ht]; unfold bef; rw [List.take_length]
theorem bef_mono (ws : List Wd) (t : Wd) {p q : Nat} (h : p ≤ q) : bef ws t p ≤ bef ws t q := by
  induction q with
  | zero => have : p = 0 := by omega
            subst this; exact Nat.le_refl _
  | succ q ih =>
    rcases Nat.lt_or_ge p (q + 1) with h1 | h1
    · refine Nat.le_trans (ih (by omega)) ?_
      cases hq : ws[q]? with
      | some a => rw [bef_succ ws t hq]; omega
      | none =>
        have : ws.length ≤ q := List.getElem?_eq_none_iff.mp hq
        unfold bef
        rw [List.take_of_length_le this, List.take_of_length_le (by omega)]
        exact Nat.le_refl _
    · have : p = q + 1 := by omega
      subst this; exact Nat.le_refl _
/-- the first place whose count reaches behind k -/
def pick (ws : List Wd) (t : Wd) : List Wd → Nat → Nat → Option (Nat × Nat)
  | [], _, _ => none
  | a :: r, i, k => if pre a t = true then (if k < ways ws (t.drop a.length) then some (i, k) else pick ws t r (i + 1) (k - ways ws (t.drop a.length))) else pick ws t r (i + 1) k
def wat (ws : List Wd) (i : Nat) : Wd := ws.getD i []
theorem pick_some (ws : List Wd) (t : Wd) : ∀ (r : List Wd) (i k : Nat), ws.drop i = r → i ≤ ws.length → bef ws t i + k < bef ws t ws.length →
    ∃ j k', pick ws t r i k = some (j, k') ∧ j < ws.length ∧ pre (wat ws j) t = true ∧ k' < ways ws (t.drop (wat ws j).length) ∧ bef ws t j + k' = bef ws t i + k := by
  intro r
  induction r with
  | nil =>
    intro i k hd hi hk
    have : ws.length ≤ i := by
      have := congrArg List.length hd
      simp at this; omega
    have e : i = ws.length := by omega
    subst e; omega
  | cons a r ih =>
    intro i k hd hi hk
    have hil : i < ws.length := by
      have := congrArg List.length hd
      simp at this; omega
    have ha : ws[i]? = some a := by
      have := List.getElem?_drop (xs := ws) (i := i) (j := 0)
      rw [hd] at this
      simpa using this.symm
    have hr : ws.drop (i + 1) = r := by
      rw [← List.drop_drop, hd]; rfl
    have ew : wat ws i = a := by simp [wat, List.getD, ha]
    have hb := bef_succ ws t ha
    unfold pick
    by_cases hp : pre a t = true
    · rw [if_pos hp] at hb ⊢
      by_cases hk2 : k < ways ws (t.drop a.length)
      · rw [if_pos hk2]
        exact ⟨i, k, rfl, hil, by rw [ew]; exact hp, by rw [ew]; exact hk2, rfl⟩
      · rw [if_neg hk2]
        obtain ⟨j, k', e1, e2, e3, e4, e5⟩ := ih (i + 1) (k - ways ws (t.drop a.length)) hr (by omega) (by rw [hb]; omega)
        exact ⟨j, k', e1, e2, e3, e4, by rw [e5, hb]; omega⟩
    · rw [if_neg hp] at hb ⊢
      obtain ⟨j, k', e1, e2, e3, e4, e5⟩ := ih (i + 1) k hr (by omega) (by rw [hb]; omega)
      exact ⟨j, k', e1, e2, e3, e4, by rw [e5, hb]; omega⟩
/-- the reading of a count -/
def nthF (ws : List Wd) : Nat → Wd → Nat → List Nat
  | _, [], _ => []
  | 0, _ :: _, _ => []
  | n + 1, c :: r, k => match pick ws (c :: r) ws 0 k with
    | some (j, k') => j :: nthF ws n ((c :: r).drop (wat ws j).length) k'
    | none => []
def nthW (ws : List Wd) (t : Wd) (k : Nat) : List Nat := nthF ws t.length t k
def joinW (ws : List Wd) (ns : List Nat) : Wd := (ns.map (wat ws)).flatten
/-- a reading's count -/
def num (ws : List Wd) : Wd → List Nat → Nat
  | _, [] => 0
  | t, p :: r => bef ws t p + num ws (t.drop (wat ws p).length) r
theorem wat_ne {ws : List Wd} (hw : ∀ a ∈ ws, a ≠ []) {j : Nat} (h : j < ws.length) : 0 < (wat ws j).length := by
  have : wat ws j = ws[j] := by simp [wat, List.getD, h]
  rw [this]
  exact List.length_pos_iff.mpr (hw _ (List.getElem_mem h))
theorem nthF_ok (ws : List Wd) (hw : ∀ a ∈ ws, a ≠ []) : ∀ (n : Nat) (t : Wd) (k : Nat), t.length ≤ n → k < ways ws t →
    joinW ws (nthF ws n t k) = t ∧ (∀ p ∈ nthF ws n t k, p < ws.length) ∧ num ws t (nthF ws n t k) = k := by
  intro n
  induction n with
  | zero =>
    intro t k ht hk
    have : t = [] := List.eq_nil_of_length_eq_zero (by omega)
    subst this
    rw [ways_nil] at hk
    exact ⟨rfl, by simp [nthF], by simp [nthF, num]; omega⟩
  | succ n ih =>
    intro t k ht hk
    cases t with
    | nil =>
      rw [ways_nil] at hk
      exact ⟨rfl, by simp [nthF], by simp [nthF, num]; omega⟩
    | cons c r =>
      have hne : (c :: r) ≠ [] := by simp
      obtain ⟨j, k', e1, e2, e3, e4, e5⟩ := pick_some ws (c :: r) ws 0 k rfl (by omega) (by rw [bef_zero, bef_all ws hw hne]; omega)
      have hl := wat_ne hw e2
      obtain ⟨i1, i2, i3⟩ := ih ((c :: r).drop (wat ws j).length) k' (by simp only [List.length_drop, List.length_cons] at ht ⊢; omega) e4
      simp only [nthF, e1]
      refine ⟨?_, ?_, ?_⟩
      · show (wat ws j) ++ joinW ws _ = _
        rw [i1]; exact pre_app e3
      · intro p hp
        rcases List.mem_cons.mp hp with rfl | hp
        · exact e2
        · exact i2 p hp
      · show bef ws (c :: r) j + num ws _ _ = k
        rw [i3, e5, bef_zero, Nat.zero_add]
theorem nthW_ok (ws : List Wd) (hw : ∀ a ∈ ws, a ≠ []) {t : Wd} {k : Nat} (hk : k < ways ws t) :
    joinW ws (nthW ws t k) = t ∧ (∀ p ∈ nthW ws t k, p < ws.length) ∧ num ws t (nthW ws t k) = k := nthF_ok ws hw _ t k (Nat.le_refl _) hk
theorem join_cons (ws : List Wd) (p : Nat) (r : List Nat) : joinW ws (p :: r) = wat ws p ++ joinW ws r := rfl
theorem join_len (ws : List Wd) (hw : ∀ a ∈ ws, a ≠ []) : ∀ ns : List Nat, (∀ p ∈ ns, p < ws.length) → ns.length ≤ (joinW ws ns).length
  | [], _ => by simp
  | p :: r, h => by
    rw [join_cons, List.length_append, List.length_cons]
    have h1 := wat_ne hw (h p (by simp))
    have h2 := join_len ws hw r fun q hq => h q (by simp [hq])
    omega
theorem pre_of_join {ws : List Wd} {p : Nat} {r : List Nat} {t : Wd} (h : joinW ws (p :: r) = t) : pre (wat ws p) t = true ∧ joinW ws r = t.drop (wat ws p).length := by
  rw [join_cons] at h
  subst h
  exact ⟨by simp [pre], by simp⟩
theorem wat_getElem {ws : List Wd} {p : Nat} (h : p < ws.length) : ws[p]? = some (wat ws p) := by
  simp [wat, List.getD, h]
theorem num_lt (ws : List Wd) (hw : ∀ a ∈ ws, a ≠ []) : ∀ (ns : List Nat) (t : Wd), (∀ p ∈ ns, p < ws.length) → joinW ws ns = t → num ws t ns < ways ws t
  | [], t, _, h => by
    have : t = [] := h.symm
    subst this; simp [num, ways_nil]
  | p :: r, t, hp, h => by
    obtain ⟨h1, h2⟩ := pre_of_join h
    have hpl := hp p (by simp)
    have ih := num_lt ws hw r (t.drop (wat ws p).length) (fun q hq => hp q (by simp [hq])) h2
    have hne : t ≠ [] := fun e => by
      have := pre_len h1
      have h3 := wat_ne hw hpl
      rw [e, List.length_nil] at this; omega
    have hm := bef_mono ws t (show p + 1 ≤ ws.length by omega)
    rw [bef_all ws hw hne] at hm
    have e : num ws t (p :: r) = bef ws t p + num ws (t.drop (wat ws p).length) r := rfl
    rw [e]
    rw [bef_succ ws t (wat_getElem hpl), if_pos h1] at hm
    exact Nat.lt_of_lt_of_le (Nat.add_lt_add_left ih _) hm
/-- a list not before another one, as Python's >= tells -/
def lexGe : List Nat → List Nat → Bool
  | _, [] => true
  | [], _ :: _ => false
  | x :: xs, y :: ys => if x = y then lexGe xs ys else decide (y ≤ x)
theorem num_ge (ws : List Wd) (hw : ∀ a ∈ ws, a ≠ []) : ∀ (xs ys : List Nat) (t : Wd), (∀ p ∈ xs, p < ws.length) → (∀ p ∈ ys, p < ws.length) → joinW ws xs = t → joinW ws ys = t → lexGe xs ys = true → num ws t ys ≤ num ws t xs
  | [], [], _, _, _, _, _, _ => Nat.le_refl _
  | [], y :: ys, _, _, _, _, _, h => by simp [lexGe] at h
  | x :: xs, [], t, _, _, _, _, _ => by simp [num]
  | x :: xs, y :: ys, t, hx, hy, jx, jy, h => by
    obtain ⟨x1, x2⟩ := pre_of_join jx
    obtain ⟨y1, y2⟩ := pre_of_join jy
    have hxl := hx x (by simp)
    have hyl := hy y (by simp)
    unfold lexGe at h
    by_cases e : x = y
    · subst e
      rw [if_pos rfl] at h
      have ih := num_ge ws hw xs ys (t.drop (wat ws x).length) (fun q hq => hx q (by simp [hq])) (fun q hq => hy q (by simp [hq])) x2 y2 h
      show bef ws t x + _ ≤ bef ws t x + _
      omega
    · rw [if_neg e] at h
      have hle := of_decide_eq_true h
      have hb := bef_succ ws t (wat_getElem hyl)
      rw [if_pos y1] at hb
      have hm := bef_mono ws t (show y + 1 ≤ x by omega)
      have hl := num_lt ws hw ys (t.drop (wat ws y).length) (fun q hq => hy q (by simp [hq])) y2
      show bef ws t y + _ ≤ bef ws t x + _
      omega
theorem nth_rising (ws : List Wd) (hw : ∀ a ∈ ws, a ≠ []) {t : Wd} {k l : Nat} (hl : l < ways ws t) (h : k < l) : lexGe (nthW ws t k) (nthW ws t l) = false := by
  obtain ⟨a1, a2, a3⟩ := nthW_ok ws hw (show k < ways ws t by omega)
  obtain ⟨b1, b2, b3⟩ := nthW_ok ws hw hl
  cases e : lexGe (nthW ws t k) (nthW ws t l) with
  | false => rfl
  | true =>
    have := num_ge ws hw _ _ t a2 b2 a1 b1 e
    rw [a3, b3] at this
    omega
/-! counting from the beginning on -/
/-- the sum of F j * ways of what is behind j, j from m on, k of them -/
def pot (ws : List Wd) (t : Wd) (F : Nat → Nat) : Nat → Nat → Nat
  | _, 0 => 0
  | m, k + 1 => F m * ways ws (t.drop m) + pot ws t F (m + 1) k
def bump (F : Nat → Nat) (j x : Nat) : Nat → Nat := fun i => if i = j then F i + x else F i
theorem pot_out (ws : List Wd) (t : Wd) (F : Nat → Nat) (j x : Nat) : ∀ (k m : Nat), (j < m ∨ m + k ≤ j) → pot ws t (bump F j x) m k = pot ws t F m k
  | 0, _, _ => rfl
  | k + 1, m, h => by
    simp only [pot]
    rw [pot_out ws t F j x k (m + 1) (by omega)]
    have : bump F j x m = F m := by unfold bump; rw [if_neg (by omega)]
    rw [this]
theorem pot_in (ws : List Wd) (t : Wd) (F : Nat → Nat) (j x : Nat) : ∀ (k m : Nat), m ≤ j → j < m + k → pot ws t (bump F j x) m k = pot ws t F m k + x * ways ws (t.drop j)
  | 0, m, h1, h2 => by omega
  | k + 1, m, h1, h2 => by
    simp only [pot]
    by_cases e : m = j
    · subst e
      rw [pot_out ws t F m x k (m + 1) (by omega)]
      have : bump F m x m = F m + x := by unfold bump; rw [if_pos rfl]
      rw [this, Nat.add_mul]; omega
    · rw [pot_in ws t F j x k (m + 1) (by omega) (by omega)]
      have : bump F j x m = F m := by unfold bump; rw [if_neg e]
      rw [this]; omega
/-- the words that stand at m, one after another -/
def spread (t : Wd) (m : Nat) (F : Nat → Nat) (ws : List Wd) : Nat → Nat := ws.foldl (fun G a => if pre a (t.drop m) = true then bump G (m + a.length) (F m) else G) F
theorem spread_at (t : Wd) (m : Nat) (F : Nat → Nat) : ∀ (us : List Wd), (∀ a ∈ us, a ≠ []) → ∀ G : Nat → Nat, G m = F m → (us.foldl (fun G a => if pre a (t.drop m) = true then bump G (m + a.length) (F m) else G) G) m = F m
  | [], _, G, h => h
  | a :: r, hw, G, h => by
    simp only [List.foldl_cons]
    apply spread_at t m F r (fun b hb => hw b (by simp [hb]))
    have hl : 0 < a.length := List.length_pos_iff.mpr (hw a (by simp))
    by_cases hp : pre a (t.drop m) = true
    · rw [if_pos hp]; unfold bump; rw [if_neg (by omega)]; exact h
    · rw [if_neg hp]; exact h
theorem spread_pot (ws : List Wd) (t : Wd) (m : Nat) (hm : m < t.length) (x : Nat) : ∀ (us : List Wd), (∀ a ∈ us, a ≠ []) → ∀ G : Nat → Nat,
    pot ws t (us.foldl (fun G a => if pre a (t.drop m) = true then bump G (m + a.length) x else G) G) (m + 1) (t.length - m) =
    pot ws t G (m + 1) (t.length - m) + x * ((us.filter fun a => pre a (t.drop m)).map fun a => ways ws ((t.drop m).drop a.length)).sum
  | [], _, G => by simp
  | a :: r, hw, G => by
    have hl : 0 < a.length := List.length_pos_iff.mpr (hw a (by simp))
    simp only [List.foldl_cons]
    rw [spread_pot ws t m hm x r (fun b hb => hw b (by simp [hb]))]
    by_cases hp : pre a (t.drop m) = true
    · have hpl := pre_len hp
      rw [List.length_drop] at hpl
      rw [if_pos hp, pot_in ws t G (m + a.length) x _ _ (by omega) (by omega), List.filter_cons, if_pos hp, List.map_cons, List.sum_cons, List.drop_drop, Nat.mul_add]
      omega
    · rw [if_neg hp, List.filter_cons, if_neg hp]
theorem spread_step (ws : List Wd) (hw : ∀ a ∈ ws, a ≠ []) (t : Wd) (m : Nat) (hm : m < t.length) (F : Nat → Nat) :
    pot ws t (spread t m F ws) (m + 1) (t.length - m) = pot ws t F m (t.length - m + 1) := by
  unfold spread
  rw [spread_pot ws t m hm (F m) ws hw F]
  show _ = F m * ways ws (t.drop m) + pot ws t F (m + 1) (t.length - m)
  have hne : t.drop m ≠ [] := fun e => by
    have := congrArg List.length e
    simp at this; omega
  rw [ways_eq ws hw hne]
  omega
/-- where nothing leads, nothing is spread -/
theorem bump_zero (F : Nat → Nat) (j : Nat) : bump F j 0 = F := by
  funext i; unfold bump; split <;> rfl
theorem spread_zero (t : Wd) (m : Nat) (F : Nat → Nat) (h : F m = 0) (ws : List Wd) : spread t m F ws = F := by
  unfold spread
  rw [h]
  induction ws with
  | nil => rfl
  | cons a r ih =>
    simp only [List.foldl_cons, bump_zero, ite_self] at ih ⊢
    exact ih
end M3

set_option Elab.async false
set_option linter.all false
set_option maxRecDepth 100000
set_option maxHeartbeats 4000000
/-! M5: words of told lengths, none of which begins another one (plain Lean). -/
namespace M5
open M3 (pre)
abbrev Wd := List Nat
/-! ### counting -/
def left (k : Nat) (ls : List Nat) : Nat → Int
  | 0 => 1
  | n + 1 => left k ls n * (k : Int) - ((ls.count (n + 1) : Nat) : Int)
def taken (k : Nat) (ls : List Nat) : Nat → Nat
  | 0 => 0
  | n + 1 => taken k ls n * k + ls.count (n + 1)
theorem left_eq (k : Nat) (ls : List Nat) : ∀ n, left k ls n = ((k ^ n : Nat) : Int) - ((taken k ls n : Nat) : Int)
  | 0 => rfl
  | n + 1 => by
    simp only [left, taken]
    rw [left_eq k ls n, Int.sub_mul, Nat.pow_succ]
    push_cast
    omega
theorem left_neg {k : Nat} (hk : 1 ≤ k) {ls : List Nat} {n : Nat} (h : left k ls n < 0) : ∀ m, left k ls (n + m) < 0
  | 0 => h
  | m + 1 => by
    have ih := left_neg hk h m
    show left k ls (n + m) * (k : Int) - _ < 0
    have h1 : left k ls (n + m) * (k : Int) ≤ left k ls (n + m) * 1 := Int.mul_le_mul_of_nonpos_left (by omega) (by omega)
    omega
/-- there is a count of letters at which they are too many -/
def fullV (k : Nat) (ls : List Nat) (L : Nat) : Bool := (List.range L).any fun n => decide (left k ls (n + 1) < 0)
theorem full_iff {k : Nat} (hk : 1 ≤ k) (ls : List Nat) (L : Nat) : fullV k ls L = decide (k ^ L < taken k ls L) := by
  have h2 := left_eq k ls L
  unfold fullV
  by_cases h : left k ls L < 0
  · have h3 : k ^ L < taken k ls L := by omega
    rw [decide_eq_true h3, List.any_eq_true]
    cases L with
    | zero => exact absurd h (by show ¬ (1 : Int) < 0; decide)
    | succ L => exact ⟨L, by simp, decide_eq_true h⟩
  · have h3 : ¬ k ^ L < taken k ls L := by omega
    rw [decide_eq_false h3, List.any_eq_false]
    intro n hn hx
    have hn := List.mem_range.mp hn
    have := left_neg hk (of_decide_eq_true hx) (L - (n + 1))
    have e : n + 1 + (L - (n + 1)) = L := by omega
    rw [e] at this
    exact h this
theorem full_no {k : Nat} (hk : 1 ≤ k) {ls : List Nat} {L : Nat} (h : fullV k ls L = false) {n : Nat} (hn : n ≤ L) : taken k ls n ≤ k ^ n := by
  have h2 := left_eq k ls n
  rcases Nat.lt_or_ge (k ^ n) (taken k ls n) with h3 | h3
  · exfalso
    have := left_neg hk (show left k ls n < 0 by omega) (L - n)
    have e : n + (L - n) = L := by omega
    rw [e] at this
    have h4 := left_eq k ls L
    rw [full_iff hk, decide_eq_false_iff_not] at h
    omega
  · exact h3
/-- the texts of L letters that words of these lengths begin -/
def sums (k : Nat) (xs : List Nat) (L : Nat) : Nat := (xs.map fun l => k ^ (L - l)).sum
theorem sums_app (k : Nat) (xs ys : List Nat) (L : Nat) : sums k (xs ++ ys) L = sums k xs L + sums k ys L := by simp [sums]
theorem sums_perm {k : Nat} {xs ys : List Nat} (h : xs.Perm ys) (L : Nat) : sums k xs L = sums k ys L := (h.map _).sum_nat
theorem sums_up {k : Nat} {xs : List Nat} {L d : Nat} (h : ∀ l ∈ xs, l ≤ L) : sums k xs L * k ^ d = sums k xs (L + d) := by
  induction xs with
  | nil => simp [sums]
  | cons x r ih =>
    have h1 := h x (by simp)
    have h2 := ih fun l hl => h l (by simp [hl])
    simp only [sums, List.map_cons, List.sum_cons] at h2 ⊢
    rw [Nat.add_mul, h2, ← Nat.pow_add]
    have e : L - x + d = L + d - x := by omega
    rw [e]
theorem taken_eq (k : Nat) {ls : List Nat} (h : ∀ l ∈ ls, 1 ≤ l) : ∀ n, taken k ls n = sums k (ls.filter fun l => decide (l ≤ n)) n
  | 0 => by
    have : (ls.filter fun l => decide (l ≤ 0)) = [] := by
      rw [List.filter_eq_nil_iff]
      intro l hl
      have := h l hl
      simp; omega
    rw [this]; rfl
  | n + 1 => by
    have ih := taken_eq k h n
    simp only [taken]
    rw [ih]
    have e : ∀ xs : List Nat, sums k (xs.filter fun l => decide (l ≤ n + 1)) (n + 1) = sums k (xs.filter fun l => decide (l ≤ n)) n * k + xs.count (n + 1) := by
      intro xs
      induction xs with
      | nil => simp [sums]
      | cons x r ih =>
        rcases Nat.lt_trichotomy x (n + 1) with hx | hx | hx
        · have h1 : x ≤ n := by omega
          have h2 : x ≤ n + 1 := by omega
          rw [List.filter_cons_of_pos (p := fun l => decide (l ≤ n + 1)) (decide_eq_true h2), List.filter_cons_of_pos (p := fun l => decide (l ≤ n)) (decide_eq_true h1), List.count_cons_of_ne (by omega)]
          simp only [sums, List.map_cons, List.sum_cons] at ih ⊢
          rw [ih, Nat.add_mul]
          have e1 : n + 1 - x = (n - x) + 1 := by omega
          rw [e1, Nat.pow_succ]
          omega
        · subst hx
          rw [List.filter_cons_of_pos (p := fun l => decide (l ≤ n + 1)) (decide_eq_true (Nat.le_refl _)), List.filter_cons_of_neg (p := fun l => decide (l ≤ n)) (by simp), List.count_cons_self]
          simp only [sums, List.map_cons, List.sum_cons, Nat.sub_self, Nat.pow_zero] at ih ⊢
          omega
        · rw [List.filter_cons_of_neg (by simp; omega), List.filter_cons_of_neg (by simp; omega), List.count_cons_of_ne (by omega)]
          exact ih
    rw [e ls]
/-! ### numbers, by rising lengths -/
def go (k : Nat) : List Nat → Nat → Nat → List Nat
  | [], _, _ => []
  | l :: r, num, last => num * k ^ (l - last) :: go k r (num * k ^ (l - last) + 1) l
theorem go_len (k : Nat) : ∀ xs num last, (go k xs num last).length = xs.length
  | [], _, _ => rfl
  | l :: r, num, last => by simp [go, go_len k r]
theorem go_ge {k : Nat} (hk : 1 ≤ k) : ∀ (xs : List Nat) (num last : Nat), xs.Pairwise (· ≤ ·) → (∀ l ∈ xs, last ≤ l) → ∀ (j : Nat) (l n : Nat), xs[j]? = some l → (go k xs num last)[j]? = some n → num * k ^ (l - last) ≤ n
  | [], _, _, _, _, j, l, n, h, _ => by simp at h
  | x :: r, num, last, hp, hl, 0, l, n, h1, h2 => by
    simp [go] at h1 h2
    subst h1; omega
  | x :: r, num, last, hp, hl, j + 1, l, n, h1, h2 => by
    simp only [go, List.getElem?_cons_succ] at h1 h2
    obtain ⟨hp1, hp2⟩ := List.pairwise_cons.mp hp
    have hlm : l ∈ r := List.mem_of_getElem? h1
    have hxl := hp1 l hlm
    have ih := go_ge hk r (num * k ^ (x - last) + 1) x hp2 hp1 j l n h1 h2
    have hlx := hl x (by simp)
    have e : num * k ^ (l - last) = num * k ^ (x - last) * k ^ (l - x) := by
      rw [Nat.mul_assoc, ← Nat.pow_add]
      congr 2; omega
    rw [e]
    refine Nat.le_trans (Nat.mul_le_mul_right _ (Nat.le_succ _)) ih
theorem go_apart {k : Nat} (hk : 1 ≤ k) : ∀ (xs : List Nat) (num last : Nat), xs.Pairwise (· ≤ ·) → ∀ (i j : Nat), i < j → ∀ (l l' n n' : Nat), xs[i]? = some l → xs[j]? = some l' → (go k xs num last)[i]? = some n → (go k xs num last)[j]? = some n' → (n + 1) * k ^ (l' - l) ≤ n'
  | [], _, _, _, i, j, _, l, l', n, n', h, _, _, _ => by simp at h
  | x :: r, num, last, hp, 0, j + 1, _, l, l', n, n', h1, h2, h3, h4 => by
    obtain ⟨hp1, hp2⟩ := List.pairwise_cons.mp hp
    simp only [go, List.getElem?_cons_succ, List.getElem?_cons_zero, Option.some.injEq] at h1 h2 h3 h4
    subst h1 h3
    exact go_ge hk r _ x hp2 hp1 j l' n' h2 h4
  | x :: r, num, last, hp, i + 1, j + 1, hij, l, l', n, n', h1, h2, h3, h4 => by
    obtain ⟨hp1, hp2⟩ := List.pairwise_cons.mp hp
    simp only [go, List.getElem?_cons_succ] at h1 h2 h3 h4
    exact go_apart hk r _ x hp2 i j (by omega) l l' n n' h1 h2 h3 h4
/-- each number has room -/
theorem go_lt {k : Nat} (hk : 1 ≤ k) {ls : List Nat} (h1 : ∀ l ∈ ls, 1 ≤ l) (hf : ∀ l ∈ ls, taken k ls l ≤ k ^ l) : ∀ (xs done : List Nat) (num last : Nat), (done ++ xs).Perm ls → (∀ l ∈ done, l ≤ last) → xs.Pairwise (· ≤ ·) → (∀ l ∈ xs, last ≤ l) → num = sums k done last →
    ∀ (j : Nat) (l n : Nat), xs[j]? = some l → (go k xs num last)[j]? = some n → n < k ^ l
  | [], _, _, _, _, _, _, _, _, j, l, n, h, _ => by simp at h
  | x :: r, done, num, last, hperm, hd, hp, hl, hnum, j, l, n, g1, g2 => by
    obtain ⟨hp1, hp2⟩ := List.pairwise_cons.mp hp
    have hlx := hl x (by simp)
    have hdx : ∀ l ∈ done, l ≤ x := fun l hl' => Nat.le_trans (hd l hl') hlx
    have hx : x ∈ ls := hperm.mem_iff.mp (by simp)
    have e0 : num * k ^ (x - last) = sums k done x := by
      rw [hnum, sums_up hd]
      congr 1; omega
    have e1 : num * k ^ (x - last) + 1 = sums k (done ++ [x]) x := by
      rw [sums_app, e0]
      simp [sums]
    cases j with
    | zero =>
      simp only [go, List.getElem?_cons_zero, Option.some.injEq] at g1 g2
      subst g1 g2
      have h2 := hf x hx
      rw [taken_eq k h1] at h2
      have h3 : sums k (ls.filter fun l => decide (l ≤ x)) x = sums k ((done ++ x :: r).filter fun l => decide (l ≤ x)) x := sums_perm ((hperm.filter _).symm) x
      have h4 : (done ++ x :: r).filter (fun l => decide (l ≤ x)) = done ++ x :: (r.filter fun l => decide (l ≤ x)) := by
        rw [List.filter_append, List.filter_cons_of_pos (p := fun l => decide (l ≤ x)) (decide_eq_true (Nat.le_refl x))]
        congr 1
        exact List.filter_eq_self.mpr fun l hl' => decide_eq_true (hdx l hl')
      rw [h3, h4] at h2
      have h5 : sums k (done ++ x :: (r.filter fun l => decide (l ≤ x))) x = sums k (done ++ [x]) x + sums k (r.filter fun l => decide (l ≤ x)) x := by
        rw [← sums_app, List.append_assoc]; rfl
      omega
    | succ j =>
      simp only [go, List.getElem?_cons_succ] at g1 g2
      refine go_lt hk h1 hf r (done ++ [x]) _ x ?_ ?_ hp2 hp1 e1 j l n g1 g2
      · rw [List.append_assoc]; exact hperm
      · intro l hl'
        rcases List.mem_append.mp hl' with h | h
        · exact hdx l h
        · rw [List.mem_singleton.mp h]; exact Nat.le_refl _
/-! ### numbers as words -/
def wr (k : Nat) : Nat → Nat → Wd
  | _, 0 => []
  | n, l + 1 => wr k (n / k) l ++ [97 + n % k]
theorem wr_len (k : Nat) : ∀ l n, (wr k n l).length = l
  | 0, _ => rfl
  | l + 1, n => by simp [wr, wr_len k l]
theorem wr_mem {k : Nat} (hk : 1 ≤ k) : ∀ l n, ∀ c ∈ wr k n l, 97 ≤ c ∧ c < 97 + k
  | 0, _ => by simp [wr]
  | l + 1, n => by
    intro c hc
    simp only [wr, List.mem_append, List.mem_singleton] at hc
    rcases hc with hc | rfl
    · exact wr_mem hk l _ c hc
    · have := Nat.mod_lt n (show 0 < k by omega)
      omega
theorem wr_step (k : Nat) : ∀ l n, wr k n (l + 1) = (97 + n / k ^ l % k) :: wr k n l
  | 0, n => by simp [wr]
  | l + 1, n => by
    rw [show wr k n (l + 1 + 1) = wr k (n / k) (l + 1) ++ [97 + n % k] from rfl, wr_step k l (n / k), Nat.div_div_eq_div_mul, ← Nat.pow_succ']
    rfl
theorem wr_take (k : Nat) : ∀ d l n, (wr k n (l + d)).take l = wr k (n / k ^ d) l
  | 0, l, n => by
    rw [Nat.pow_zero, Nat.div_one]
    exact List.take_of_length_le (by rw [wr_len]; omega)
  | d + 1, l, n => by
    have e : l + (d + 1) = (l + d) + 1 := rfl
    rw [e]
    show (wr k (n / k) (l + d) ++ [97 + n % k]).take l = _
    rw [List.take_append_of_le_length (by rw [wr_len]; omega), wr_take k d l, Nat.div_div_eq_div_mul, ← Nat.pow_succ']
theorem wr_inj {k : Nat} (hk : 1 ≤ k) : ∀ l n m, n < k ^ l → m < k ^ l → wr k n l = wr k m l → n = m
  | 0, n, m, h1, h2, _ => by simp at h1 h2; omega
  | l + 1, n, m, h1, h2, h => by
    simp only [wr] at h
    have h3 := List.append_inj h (by rw [wr_len, wr_len])
    have hd : ∀ x, x < k ^ (l + 1) → x / k < k ^ l := fun x hx => Nat.div_lt_of_lt_mul (by rw [Nat.pow_succ, Nat.mul_comm] at hx; exact hx)
    have h4 := wr_inj hk l _ _ (hd n h1) (hd m h2) h3.1
    have h5 : n % k = m % k := by
      have := (List.cons.inj h3.2).1
      omega
    rw [← Nat.div_add_mod n k, ← Nat.div_add_mod m k, h4, h5]
/-- a later word begins with no earlier one, nor the other way round -/
theorem wr_apart {k : Nat} (hk : 1 ≤ k) {l l' n n' : Nat} (hl : l ≤ l') (h1 : n < k ^ l) (h2 : n' < k ^ l') (h : (n + 1) * k ^ (l' - l) ≤ n') : pre (wr k n l) (wr k n' l') = false ∧ pre (wr k n' l') (wr k n l) = false := by
  have hpos : 0 < k ^ (l' - l) := Nat.pow_pos (by omega)
  have hq : n + 1 ≤ n' / k ^ (l' - l) := (Nat.le_div_iff_mul_le hpos).mpr h
  have hq2 : n' / k ^ (l' - l) < k ^ l := Nat.div_lt_of_lt_mul (by
    rw [← Nat.pow_add]
    have e : l' - l + l = l' := by omega
    rw [e]; exact h2)
  have e1 : l + (l' - l) = l' := by omega
  have ht := wr_take k (l' - l) l n'
  rw [e1] at ht
  constructor
  · unfold pre
    rw [wr_len, ht]
    refine decide_eq_false fun z => ?_
    have := wr_inj hk l _ _ hq2 h1 z
    omega
  · unfold pre
    refine decide_eq_false fun z => ?_
    have hlen := congrArg List.length z
    rw [List.length_take, wr_len, wr_len] at hlen
    have e2 : l' = l := by omega
    subst e2
    rw [wr_len, List.take_of_length_le (by rw [wr_len]; omega)] at z
    have := wr_inj hk l' _ _ h1 h2 z
    rw [Nat.sub_self, Nat.pow_zero, Nat.mul_one] at h
    omega
/-! ### all words apart -/
def Free (ws : List Wd) : Prop := ws.Pairwise fun a b => pre a b = false ∧ pre b a = false
theorem free_perm {ws us : List Wd} (h : ws.Perm us) (f : Free ws) : Free us := (h.pairwise_iff fun {a b} h => ⟨h.2, h.1⟩).mp f
theorem free_of {ws : List Wd} (h : ∀ (i j : Nat) a b, i < j → ws[i]? = some a → ws[j]? = some b → pre a b = false ∧ pre b a = false) : Free ws := by
  unfold Free
  rw [List.pairwise_iff_getElem]
  intro i j hi hj hij
  exact h i j _ _ hij (List.getElem?_eq_getElem hi) (List.getElem?_eq_getElem hj)
theorem free_get {ws : List Wd} (f : Free ws) {i j : Nat} {a b : Wd} (hij : i ≠ j) (ha : ws[i]? = some a) (hb : ws[j]? = some b) : pre a b = false := by
  have hi := (List.getElem?_eq_some_iff.mp ha)
  have hj := (List.getElem?_eq_some_iff.mp hb)
  obtain ⟨hi, rfl⟩ := hi
  obtain ⟨hj, rfl⟩ := hj
  unfold Free at f
  rw [List.pairwise_iff_getElem] at f
  rcases Nat.lt_or_gt_of_ne hij with h | h
  · exact (f i j hi hj h).1
  · exact (f j i hj hi h).2
/-- some word begins the next one -/
def adj (ss : List Wd) : Bool := (List.range (ss.length - 1)).any fun i => pre (ss.getD i []) (ss.getD (i + 1) [])
theorem adj_free {ss : List Wd} (f : Free ss) : adj ss = false := by
  unfold adj
  rw [List.any_eq_false]
  intro i hi
  have hi := List.mem_range.mp hi
  have h1 : ss[i]? = some (ss.getD i []) := by simp [List.getD, List.getElem?_eq_getElem (show i < ss.length by omega)]
  have h2 : ss[i + 1]? = some (ss.getD (i + 1) []) := by simp [List.getD, List.getElem?_eq_getElem (show i + 1 < ss.length by omega)]
  rw [free_get f (by omega) h1 h2]
  decide
end M5

set_option linter.all false
/-! M1: tails that close a code make it readable in one way at the most; such a code takes no more than there is. Plain Lean. -/
namespace M1
open M3
/-! ### tails -/
/-- what a set of tails must hold -/
structure Cl (ws : List Wd) (T : Wd → Prop) : Prop where
  ne : ¬ T []
  first : ∀ i j, i < ws.length → j < ws.length → i ≠ j → pre (wat ws i) (wat ws j) = true → T ((wat ws j).drop (wat ws i).length)
  fwd : ∀ t, T t → ∀ i, i < ws.length → pre t (wat ws i) = true → T ((wat ws i).drop t.length)
  bwd : ∀ t, T t → ∀ i, i < ws.length → pre (wat ws i) t = true → T (t.drop (wat ws i).length)
theorem pre_of_app {a b c d : Wd} (h : a ++ b = c ++ d) : pre a c = true ∨ pre c a = true := by
  unfold pre
  rcases Nat.le_total a.length c.length with hl | hl
  · left
    have := congrArg (List.take a.length) h
    rw [List.take_left', List.take_append_of_le_length hl] at this
    · exact decide_eq_true this.symm
    · rfl
  · right
    have := congrArg (List.take c.length) h
    rw [List.take_append_of_le_length hl, List.take_left'] at this
    · exact decide_eq_true this
    · rfl
theorem app_drop {a b c d : Wd} (h : a ++ b = c ++ d) (hp : pre a c = true) : b = c.drop a.length ++ d := by
  have e := pre_app hp
  rw [← e, List.append_assoc] at h
  exact List.append_cancel_left h
theorem no_tail {ws : List Wd} (hw : ∀ a ∈ ws, a ≠ []) {T : Wd → Prop} (C : Cl ws T) : ∀ (n : Nat) (t : Wd) (xs ys : List Nat), T t → (∀ p ∈ xs, p < ws.length) → (∀ p ∈ ys, p < ws.length) → (t ++ joinW ws xs).length ≤ n → t ++ joinW ws xs ≠ joinW ws ys := by
  intro n
  induction n with
  | zero =>
    intro t xs ys ht _ _ hl _
    have : t = [] := List.eq_nil_of_length_eq_zero (by rw [List.length_append] at hl; omega)
    exact C.ne (this ▸ ht)
  | succ n ih =>
    intro t xs ys ht hx hy hl h
    have htn : t ≠ [] := fun e => C.ne (e ▸ ht)
    have htl : 0 < t.length := List.length_pos_iff.mpr htn
    cases ys with
    | nil =>
      have := congrArg List.length h
      simp [joinW] at this
      exact htn this.1
    | cons y ys =>
      have hyl := hy y (by simp)
      have hwl := wat_ne hw hyl
      rw [join_cons] at h
      have hys : ∀ p ∈ ys, p < ws.length := fun p hp => hy p (by simp [hp])
      rcases pre_of_app h with hp | hp
      · have e := app_drop h hp
        have hlen := congrArg List.length e
        refine ih _ ys xs (C.fwd t ht y hyl hp) hys hx ?_ e.symm
        rw [← hlen]; rw [List.length_append] at hl; omega
      · have e := app_drop h.symm hp
        have hlen := congrArg List.length e
        refine ih _ xs ys (C.bwd t ht y hyl hp) hx hys ?_ e.symm
        rw [← hlen]
        have := congrArg List.length h
        rw [List.length_append, List.length_append] at this
        rw [List.length_append] at hl; omega
theorem unique {ws : List Wd} (hw : ∀ a ∈ ws, a ≠ []) {T : Wd → Prop} (C : Cl ws T) : ∀ (xs ys : List Nat), (∀ p ∈ xs, p < ws.length) → (∀ p ∈ ys, p < ws.length) → joinW ws xs = joinW ws ys → xs = ys
  | [], [], _, _, _ => rfl
  | [], y :: ys, _, hy, h => by
    have := wat_ne hw (hy y (by simp))
    have h2 := congrArg List.length h
    have h0 : (joinW ws []).length = 0 := rfl
    rw [join_cons, List.length_append, h0] at h2
    omega
  | x :: xs, [], hx, _, h => by
    have := wat_ne hw (hx x (by simp))
    have h2 := congrArg List.length h
    have h0 : (joinW ws []).length = 0 := rfl
    rw [join_cons, List.length_append, h0] at h2
    omega
  | x :: xs, y :: ys, hx, hy, h => by
    have hxl := hx x (by simp)
    have hyl := hy y (by simp)
    have hxs : ∀ p ∈ xs, p < ws.length := fun p hp => hx p (by simp [hp])
    have hys : ∀ p ∈ ys, p < ws.length := fun p hp => hy p (by simp [hp])
    rw [join_cons, join_cons] at h
    by_cases e : x = y
    · subst e
      rw [unique hw C xs ys hxs hys (List.append_cancel_left h)]
    · exfalso
      rcases pre_of_app h with hp | hp
      · exact no_tail hw C _ _ ys xs (C.first x y hxl hyl e hp) hys hxs (Nat.le_refl _) (app_drop h hp).symm
      · exact no_tail hw C _ _ xs ys (C.first y x hyl hxl (Ne.symm e) hp) hxs hys (Nat.le_refl _) (app_drop h.symm hp).symm
/-! ### counting: no more than there is -/
theorem len_sub {α : Type} [DecidableEq α] : ∀ (l m : List α), l.Nodup → (∀ x ∈ l, x ∈ m) → l.length ≤ m.length
  | [], _, _, _ => by simp
  | x :: l, m, hn, h => by
    rw [List.nodup_cons] at hn
    have hx := h x (by simp)
    have h2 := len_sub l (m.erase x) hn.2 fun y hy => by
      have hne : y ≠ x := fun e => hn.1 (e ▸ hy)
      exact (List.mem_erase_of_ne hne).mpr (h y (by simp [hy]))
    rw [List.length_erase_of_mem hx] at h2
    have := List.length_pos_of_mem hx
    rw [List.length_cons]; omega
/-- all texts of l letters out of A -/
def texts (A : List Nat) : Nat → List Wd
  | 0 => [[]]
  | n + 1 => (texts A n).flatMap fun s => A.map fun c => c :: s
theorem texts_len (A : List Nat) : ∀ n, (texts A n).length = A.length ^ n
  | 0 => rfl
  | n + 1 => by
    rw [texts, List.length_flatMap]
    have : (List.map (fun s : Wd => (List.map (fun c => c :: s) A).length) (texts A n)) = List.map (fun _ => A.length) (texts A n) := List.map_congr_left fun s _ => by rw [List.length_map]
    rw [this, List.map_const', List.sum_replicate_nat, texts_len A n, Nat.pow_succ]
theorem mem_texts (A : List Nat) : ∀ s : Wd, (∀ c ∈ s, c ∈ A) → s ∈ texts A s.length
  | [], _ => by simp [texts]
  | c :: s, h => by
    rw [List.length_cons, texts, List.mem_flatMap]
    exact ⟨s, mem_texts A s fun d hd => h d (by simp [hd]), List.mem_map.mpr ⟨c, h c (by simp), rfl⟩⟩
/-- the weight of a list of texts: b ^ (B - length), together -/
def wt (b B : Nat) (W : List Wd) : Nat := (W.map fun s => b ^ (B - s.length)).sum
theorem wt_app (b B : Nat) (U W : List Wd) : wt b B (U ++ W) = wt b B U + wt b B W := by
  unfold wt; rw [List.map_append, List.sum_append]
theorem wt_filter (b B : Nat) (p : Wd → Bool) : ∀ W : List Wd, wt b B W = wt b B (W.filter p) + wt b B (W.filter fun s => !p s)
  | [] => rfl
  | s :: W => by
    have ih := wt_filter b B p W
    unfold wt at ih ⊢
    cases h : p s <;> simp [h, ih] <;> omega
theorem wt_const (b B l : Nat) : ∀ W : List Wd, (∀ s ∈ W, s.length = l) → wt b B W = W.length * b ^ (B - l)
  | [], _ => by simp [wt]
  | s :: W, h => by
    have ih := wt_const b B l W fun x hx => h x (by simp [hx])
    unfold wt at ih ⊢
    rw [List.map_cons, List.sum_cons, ih, h s (by simp), List.length_cons, Nat.succ_mul]; omega
/-- texts without repeats, of at most n letters: at most (n + 1) times all there is -/
theorem wt_le (A : List Nat) (hA : 0 < A.length) (B : Nat) : ∀ (n : Nat) (W : List Wd), W.Nodup → (∀ s ∈ W, s.length ≤ n ∧ ∀ c ∈ s, c ∈ A) → n ≤ B → wt A.length B W ≤ (n + 1) * A.length ^ B := by
  intro n
  have one : ∀ (l : Nat) (W : List Wd), W.Nodup → (∀ s ∈ W, s.length = l ∧ ∀ c ∈ s, c ∈ A) → l ≤ B → wt A.length B W ≤ A.length ^ B := fun l W hn h hl => by
    rw [wt_const A.length B l W fun s hs => (h s hs).1]
    have h1 : W.length ≤ A.length ^ l := by
      rw [← texts_len A l]
      exact len_sub W _ hn fun s hs => by
        have := mem_texts A s (h s hs).2
        rwa [(h s hs).1] at this
    calc W.length * A.length ^ (B - l) ≤ A.length ^ l * A.length ^ (B - l) := Nat.mul_le_mul_right _ h1
      _ = A.length ^ B := by rw [← Nat.pow_add]; congr 1; omega
  induction n with
  | zero =>
    intro W hn h hB
    have := one 0 W hn (fun s hs => ⟨by have := (h s hs).1; omega, (h s hs).2⟩) hB
    omega
  | succ n ih =>
    intro W hn h hB
    rw [wt_filter A.length B (fun s => decide (s.length = n + 1)) W]
    have h1 := one (n + 1) (W.filter fun s => decide (s.length = n + 1)) (hn.filter _) (fun s hs => by
      have h2 := List.mem_filter.mp hs
      exact ⟨of_decide_eq_true h2.2, (h s h2.1).2⟩) hB
    have h2 := ih (W.filter fun s => !decide (s.length = n + 1)) (hn.filter _) (fun s hs => by
      have h2 := List.mem_filter.mp hs
      have h3 := (h s h2.1).1
      have h4 : ¬ s.length = n + 1 := by simpa using h2.2
      exact ⟨by omega, (h s h2.1).2⟩) (by omega)
    rw [Nat.succ_mul (n + 1)]
    omega
/-! the texts of k words -/
def tups (n : Nat) : Nat → List (List Nat)
  | 0 => [[]]
  | k + 1 => (tups n k).flatMap fun xs => (List.range n).map fun p => p :: xs
theorem tups_ok (n : Nat) : ∀ (k : Nat) (xs : List Nat), xs ∈ tups n k → xs.length = k ∧ ∀ p ∈ xs, p < n
  | 0, xs, h => by
    rw [tups, List.mem_singleton] at h
    subst h; simp
  | k + 1, xs, h => by
    rw [tups, List.mem_flatMap] at h
    obtain ⟨ys, hy, h⟩ := h
    obtain ⟨p, hp, rfl⟩ := List.mem_map.mp h
    obtain ⟨h1, h2⟩ := tups_ok n k ys hy
    refine ⟨by rw [List.length_cons, h1], fun q hq => ?_⟩
    rcases List.mem_cons.mp hq with rfl | hq
    · exact List.mem_range.mp hp
    · exact h2 q hq
theorem nodup_flat {α β : Type} (f : α → List β) : ∀ l : List α, l.Nodup → (∀ x ∈ l, (f x).Nodup) → (∀ x ∈ l, ∀ y ∈ l, x ≠ y → ∀ z, z ∈ f x → z ∈ f y → False) → (l.flatMap f).Nodup
  | [], _, _, _ => by simp
  | x :: l, hn, h1, h2 => by
    rw [List.nodup_cons] at hn
    rw [List.flatMap_cons, List.nodup_append]
    refine ⟨h1 x (by simp), nodup_flat f l hn.2 (fun y hy => h1 y (by simp [hy])) (fun a ha b hb => h2 a (by simp [ha]) b (by simp [hb])), fun z hz y hy e => ?_⟩
    subst e
    obtain ⟨a, ha, hz2⟩ := List.mem_flatMap.mp hy
    exact h2 x (by simp) a (by simp [ha]) (fun e => hn.1 (e ▸ ha)) z hz hz2
theorem nodup_map {α β : Type} (f : α → β) : ∀ l : List α, l.Nodup → (∀ x ∈ l, ∀ y ∈ l, f x = f y → x = y) → (l.map f).Nodup
  | [], _, _ => by simp
  | x :: l, hn, h => by
    rw [List.nodup_cons] at hn
    rw [List.map_cons, List.nodup_cons]
    refine ⟨fun hm => ?_, nodup_map f l hn.2 fun a ha b hb => h a (by simp [ha]) b (by simp [hb])⟩
    obtain ⟨y, hy, e⟩ := List.mem_map.mp hm
    have := h x (by simp) y (by simp [hy]) e.symm
    exact hn.1 (this ▸ hy)
theorem tups_nodup (n : Nat) : ∀ k, (tups n k).Nodup
  | 0 => by simp [tups]
  | k + 1 => by
    rw [tups]
    refine nodup_flat _ _ (tups_nodup n k) (fun xs _ => nodup_map _ _ List.nodup_range fun a _ b _ e => (List.cons.inj e).1) fun xs _ ys _ hne z hz1 hz2 => ?_
    obtain ⟨p, _, rfl⟩ := List.mem_map.mp hz1
    obtain ⟨q, _, e⟩ := List.mem_map.mp hz2
    exact hne (List.cons.inj e).2.symm
/-- the weight of all texts of k words is the weight of the words, k times multiplied -/
theorem wt_tups (b : Nat) (ws : List Wd) (L : Nat) (hL : ∀ a ∈ ws, a.length ≤ L) : ∀ k, wt b (k * L) ((tups ws.length k).map (joinW ws)) = (wt b L ws) ^ k
  | 0 => by simp [tups, wt, joinW]
  | k + 1 => by
    have ih := wt_tups b ws L hL k
    have hwat : ws = (List.range ws.length).map (wat ws) := by
      apply List.ext_getElem?
      intro i
      rw [List.getElem?_map]
      rcases Nat.lt_or_ge i ws.length with h | h
      · rw [List.getElem?_range h, wat_getElem h]; rfl
      · rw [List.getElem?_eq_none h, List.getElem?_eq_none (by simpa using h)]; rfl
    have key : ∀ (l : List (List Nat)), (∀ xs ∈ l, xs.length = k ∧ ∀ p ∈ xs, p < ws.length) →
        wt b ((k + 1) * L) ((l.flatMap fun xs => (List.range ws.length).map fun p => p :: xs).map (joinW ws)) = wt b L ws * wt b (k * L) (l.map (joinW ws)) := by
      intro l
      induction l with
      | nil => intro _; simp [wt]
      | cons xs l ihl =>
        intro hl
        have hxs := hl xs (by simp)
        rw [List.flatMap_cons, List.map_append, wt_app, ihl fun ys hy => hl ys (by simp [hy])]
        have h1 : wt b (k * L) (List.map (joinW ws) (xs :: l)) = b ^ (k * L - (joinW ws xs).length) + wt b (k * L) (List.map (joinW ws) l) := rfl
        rw [h1, Nat.mul_add]
        congr 1
        have hjl : (joinW ws xs).length ≤ k * L := by
          have : ∀ (ys : List Nat), (∀ p ∈ ys, p < ws.length) → (joinW ws ys).length ≤ ys.length * L := by
            intro ys
            induction ys with
            | nil => intro _; simp [joinW]
            | cons y ys ih =>
              intro h
              rw [join_cons, List.length_append, List.length_cons, Nat.succ_mul]
              have h1 := ih fun p hp => h p (by simp [hp])
              have h2 := hL _ (List.mem_of_getElem? (wat_getElem (h y (by simp))))
              omega
          have := this xs hxs.2
          rwa [hxs.1] at this
        unfold wt
        rw [List.map_map, List.map_map]
        have h2 : (ws.map fun s => b ^ (L - s.length)) = (List.range ws.length).map fun p => b ^ (L - (wat ws p).length) := by
          conv => lhs; rw [hwat]
          rw [List.map_map]; rfl
        rw [h2]
        have h3 : ∀ (m : List Nat), (∀ p ∈ m, p < ws.length) → (m.map ((fun s : Wd => b ^ ((k + 1) * L - s.length)) ∘ joinW ws ∘ fun p => p :: xs)).sum = (m.map fun p => b ^ (L - (wat ws p).length)).sum * b ^ (k * L - (joinW ws xs).length) := by
          intro m
          induction m with
          | nil => intro _; simp
          | cons p m ihm =>
            intro hm
            rw [List.map_cons, List.map_cons, List.sum_cons, List.sum_cons, ihm fun q hq => hm q (by simp [hq]), Nat.add_mul (b ^ (L - (wat ws p).length))]
            congr 1
            show b ^ ((k + 1) * L - (joinW ws (p :: xs)).length) = _
            rw [join_cons, List.length_append, ← Nat.pow_add]
            congr 1
            have := hL _ (List.mem_of_getElem? (wat_getElem (hm p (by simp))))
            rw [Nat.succ_mul]; omega
        exact h3 _ fun p hp => List.mem_range.mp hp
    rw [tups, key _ fun xs hx => tups_ok ws.length k xs hx, ih, Nat.pow_succ, Nat.mul_comm]
theorem join_mem {ws : List Wd} {A : List Nat} (h : ∀ a ∈ ws, ∀ c ∈ a, c ∈ A) : ∀ (xs : List Nat), (∀ p ∈ xs, p < ws.length) → ∀ c ∈ joinW ws xs, c ∈ A
  | [], _, c, hc => by simp [joinW] at hc
  | x :: xs, hx, c, hc => by
    rw [join_cons] at hc
    rcases List.mem_append.mp hc with hc | hc
    · exact h _ (List.mem_of_getElem? (wat_getElem (hx x (by simp)))) c hc
    · exact join_mem h xs (fun p hp => hx p (by simp [hp])) c hc
theorem join_le {ws : List Wd} {L : Nat} (hL : ∀ a ∈ ws, a.length ≤ L) : ∀ (ys : List Nat), (∀ p ∈ ys, p < ws.length) → (joinW ws ys).length ≤ ys.length * L
  | [], _ => by simp [joinW]
  | y :: ys, h => by
    rw [join_cons, List.length_append, List.length_cons, Nat.succ_mul]
    have h1 := join_le hL ys fun p hp => h p (by simp [hp])
    have h2 := hL _ (List.mem_of_getElem? (wat_getElem (h y (by simp))))
    omega
theorem power_le {ws : List Wd} {A : List Nat} (hA : 0 < A.length) (hAw : ∀ a ∈ ws, ∀ c ∈ a, c ∈ A) {L : Nat} (hL : ∀ a ∈ ws, a.length ≤ L) (hU : ∀ xs ys : List Nat, (∀ p ∈ xs, p < ws.length) → (∀ p ∈ ys, p < ws.length) → joinW ws xs = joinW ws ys → xs = ys) (k : Nat) :
    (wt A.length L ws) ^ k ≤ (k * L + 1) * (A.length ^ L) ^ k := by
  rw [← wt_tups A.length ws L hL k, ← Nat.pow_mul, Nat.mul_comm L k]
  refine wt_le A hA (k * L) (k * L) _ (nodup_map _ _ (tups_nodup _ k) fun xs hx ys hy e => hU xs ys (tups_ok _ k xs hx).2 (tups_ok _ k ys hy).2 e) (fun s hs => ?_) (Nat.le_refl _)
  obtain ⟨xs, hx, rfl⟩ := List.mem_map.mp hs
  obtain ⟨h1, h2⟩ := tups_ok _ k xs hx
  have := join_le hL xs h2
  rw [h1] at this
  exact ⟨this, join_mem hAw xs h2⟩
/-! a power outgrows -/
theorem bern (M : Nat) : ∀ k, M ^ k + k * M ^ (k - 1) ≤ (M + 1) ^ k
  | 0 => by simp
  | 1 => by simp
  | k + 2 => by
    have ih := bern M (k + 1)
    have e1 : k + 1 - 1 = k := by omega
    have e2 : k + 2 - 1 = k + 1 := by omega
    rw [e1] at ih
    rw [e2]
    have h1 := Nat.mul_le_mul_right (M + 1) ih
    rw [← Nat.pow_succ, Nat.mul_add, Nat.mul_one, Nat.add_mul, Nat.mul_assoc, ← Nat.pow_succ, ← Nat.pow_succ] at h1
    have h2 : (k + 2) * M ^ (k + 1) = (k + 1) * M ^ (k + 1) + M ^ (k + 1) := Nat.succ_mul (k + 1) _
    have h3 : M ^ (k + 1).succ = M ^ (k + 2) := rfl
    have h4 : M ^ k.succ = M ^ (k + 1) := rfl
    have h5 : (M + 1) ^ (k + 1).succ = (M + 1) ^ (k + 2) := rfl
    rw [h3, h4, h5] at h1
    rw [h2]
    generalize (k + 1) * M ^ (k + 1) = X at *
    generalize (k + 1) * M ^ k = Y at *
    omega
theorem dbl (M : Nat) (hM : 0 < M) : 2 * M ^ M ≤ (M + 1) ^ M := by
  cases M with
  | zero => omega
  | succ m =>
    have h := bern (m + 1) (m + 1)
    have e : (m + 1) * (m + 1) ^ (m + 1 - 1) = (m + 1) ^ (m + 1) := by
      rw [Nat.add_sub_cancel, Nat.mul_comm, ← Nat.pow_succ]
    rw [e] at h
    omega
theorem two_pow_ge : ∀ c : Nat, c + 1 ≤ 2 ^ c
  | 0 => by decide
  | c + 1 => by
    have := two_pow_ge c
    rw [Nat.pow_succ]; omega
theorem outgrow (c : Nat) : ∃ j, c * j + 1 < 2 ^ j := by
  refine ⟨4 * (c + 1), ?_⟩
  have h := two_pow_ge (c + 1)
  have e : 2 ^ (4 * (c + 1)) = ((2 ^ (c + 1)) * (2 ^ (c + 1))) * ((2 ^ (c + 1)) * (2 ^ (c + 1))) := by
    rw [← Nat.pow_add, ← Nat.pow_add]; congr 1; omega
  rw [e]
  have h1 : (c + 2) * (c + 2) ≤ 2 ^ (c + 1) * 2 ^ (c + 1) := Nat.mul_le_mul h h
  have h2 := Nat.mul_le_mul h1 h1
  refine Nat.lt_of_lt_of_le ?_ h2
  have h3 : 4 ≤ (c + 2) * (c + 2) := by
    have : 2 * 2 ≤ (c + 2) * (c + 2) := Nat.mul_le_mul (by omega) (by omega)
    omega
  have h4 : 4 * ((c + 2) * (c + 2)) ≤ ((c + 2) * (c + 2)) * ((c + 2) * (c + 2)) := Nat.mul_le_mul_right _ h3
  refine Nat.lt_of_lt_of_le ?_ h4
  have h5 : c * (4 * (c + 1)) = 4 * (c * (c + 1)) := by rw [Nat.mul_left_comm]
  have h6 : (c + 2) * (c + 2) = c * (c + 1) + (3 * c + 4) := by
    have : (c + 2) * (c + 2) = c * c + 4 * c + 4 := by
      rw [Nat.add_mul, Nat.mul_add]; omega
    rw [this, Nat.mul_add]; omega
  rw [h5, h6]; omega
/-- McMillan: a code that reads in one way at the most takes no more than there is -/
theorem kraft {ws : List Wd} {A : List Nat} (hA : 0 < A.length) (hAw : ∀ a ∈ ws, ∀ c ∈ a, c ∈ A) {L : Nat} (hL : ∀ a ∈ ws, a.length ≤ L) (hU : ∀ xs ys : List Nat, (∀ p ∈ xs, p < ws.length) → (∀ p ∈ ys, p < ws.length) → joinW ws xs = joinW ws ys → xs = ys) :
    wt A.length L ws ≤ A.length ^ L := by
  generalize hM : A.length ^ L = M
  have hM0 : 0 < M := by rw [← hM]; exact Nat.pow_pos hA
  rcases Nat.lt_or_ge M (wt A.length L ws) with h | h
  · exfalso
    obtain ⟨j, hj⟩ := outgrow (M * L)
    have h1 := power_le hA hAw hL hU (M * j)
    rw [hM] at h1
    have h2 : (M + 1) ^ (M * j) ≤ (wt A.length L ws) ^ (M * j) := Nat.pow_le_pow_left h _
    have h3 : (2 * M ^ M) ^ j ≤ ((M + 1) ^ M) ^ j := Nat.pow_le_pow_left (dbl M hM0) _
    rw [← Nat.pow_mul, Nat.mul_pow, ← Nat.pow_mul] at h3
    have h4 : 2 ^ j * M ^ (M * j) ≤ (M * j * L + 1) * M ^ (M * j) := Nat.le_trans h3 (Nat.le_trans h2 h1)
    have h5 := Nat.le_of_mul_le_mul_right h4 (Nat.pow_pos hM0)
    have h6 : M * j * L = M * L * j := by rw [Nat.mul_assoc, Nat.mul_comm j L, Nat.mul_assoc]
    omega
  · exact h
end M1

set_option Elab.async false
set_option linter.all false
set_option maxRecDepth 100000
set_option maxHeartbeats 4000000
namespace Tr
open PySem PySem.Spec PyProof.Rows L2 Evl
open M3 (wat joinW pre)
def topS (i : Nat) : Stmt := PySem.Challenge.pw_tworeadings_k05_whole_lengths.main.body.getD i (.Pass ⟨0, 0, 0, 0⟩)
abbrev s_is_number : Stmt := topS 6
abbrev N_is_number : List Str := ["thing", "least", "most"]
theorem sc_is_number : FnScope N_is_number ["thing", "least", "most"] (defScope s_is_number) := ⟨rfl, rfl, rfl, by decide +kernel, rfl, by decide +kernel, by decide +kernel⟩
abbrev s_is_text : Stmt := topS 7
abbrev N_is_text : List Str := ["thing"]
theorem sc_is_text : FnScope N_is_text ["thing"] (defScope s_is_text) := ⟨rfl, rfl, rfl, by decide +kernel, rfl, by decide +kernel, by decide +kernel⟩
abbrev s_asked_code : Stmt := topS 8
abbrev N_asked_code : List Str := ["code", "word"]
theorem sc_asked_code : FnScope N_asked_code ["code"] (defScope s_asked_code) := ⟨rfl, rfl, rfl, by decide +kernel, rfl, by decide +kernel, by decide +kernel⟩
abbrev s_joined : Stmt := topS 9
abbrev N_joined : List Str := ["code", "places", "place"]
theorem sc_joined : FnScope N_joined ["code", "places"] (defScope s_joined) := ⟨rfl, rfl, rfl, by decide +kernel, rfl, by decide +kernel, by decide +kernel⟩
abbrev s_stands : Stmt := topS 10
abbrev N_stands : List Str := ["word", "text", "at"]
theorem sc_stands : FnScope N_stands ["word", "text", "at"] (defScope s_stands) := ⟨rfl, rfl, rfl, by decide +kernel, rfl, by decide +kernel, by decide +kernel⟩
local macro_rules | `(tactic| walk_at "sd") => `(tactic| first | assumption | rfl | omega | decide | (solve_by_elim) | (refine Nat.le_trans (m := 1000) (by solve_by_elim) (by decide)))
local macro_rules | `(tactic| walk_at "rv") => `(tactic| first
  | exact rv_add | exact rv_sub | exact rv_lt | exact rv_le | exact rv_gt | exact rv_ge | exact rv_eqI | exact rv_eqS | exact rv_eqB | exact rv_neI | exact rv_neS | exact rv_neB
  | exact rv_mod (by walk_at "sd") | exact rv_fdiv (by first | assumption | exact ⟨by omega, by omega⟩) | exact rv_addS (by walk_at "sd") | exact rv_isB | exact rv_notB | assumption)
local macro_rules | `(tactic| walk_at "ea") => `(tactic| first
  | exact ea_nil
  | (refine' ea_cons ?k1 ?k2; (case k1 => walk_at "ev"); (case k2 => walk_at "ea")))
local macro_rules | `(tactic| walk_at "eo") => `(tactic| first
  | exact eo_none
  | (refine' eo_some ?k1; (case k1 => walk_at "ev")))
local macro_rules | `(tactic| walk_at "et") => `(tactic| first
  | (refine' et_test ?k1; (case k1 => walk_at "ev"))
  | (refine' et_B ?k1; (case k1 => walk_at "ev"))
  | (refine' et_and ?k1 ?k2; (case k1 => walk_at "et"); (case k2 => (intro _; walk_at "et")))
  | (refine' et_or ?k1 ?k2; (case k1 => walk_at "et"); (case k2 => (intro _; walk_at "et")))
  | (refine' et_not ?k1; (case k1 => walk_at "et"))
  | assumption)
local macro_rules | `(tactic| walk_at "ev") => `(tactic| first
  | assumption
  | exact ev_cS
  | exact ev_c
  | exact ev_var rfl
  | (refine' ev_op ?k1 ?k2 ?k3; (case k1 => walk_at "ev"); (case k2 => walk_at "ev"); (case k3 => walk_at "rv"))
  | (refine' ev_un ?k1 ru_neg; (case k1 => walk_at "ev"))
  | (refine' ev_chain ?k1 ?k2 ?k3 ?k4 ?k5; (case k1 => walk_at "ev"); (case k2 => walk_at "ev"); (case k3 => walk_at "ev"); (case k4 => walk_at "rv"); (case k5 => (intro _; walk_at "rv")))
  | (refine' ev_slS ?k1 ?k2 ?k3 ?k4; (case k1 => walk_at "ev"); (case k2 => walk_at "eo"); (case k3 => walk_at "eo"); (case k4 => walk_at "sd"))
  | (refine' ev_lenS ?k1 ?k2; (case k1 => walk_at "ev"); (case k2 => walk_at "sd"))
  | (refine' ev_len' ?k1 ?k2; (case k1 => walk_at "ev"); (case k2 => walk_at "sd"))
  | (refine' ev_strip ?k1 ?k2 ?k3; (case k1 => walk_at "ev"); (case k2 => walk_at "ev"); (case k3 => walk_at "sd"))
  | (refine' ev_sum ?k1 ?k2; (case k1 => walk_at "ev"); (case k2 => walk_at "sd"))
  | (refine' ev_isi ?k1 ?k2 ?k3 ?k4; (case k1 => walk_at "ev"); (case k2 => walk_at "ev"); (case k3 => first | exact ty_int | exact ty_bl | exact ty_str | exact ty_list (by walk_at "sd")); (case k4 => first | exact kit_ty (r := true) (by decide +kernel) | exact kit_ty (r := false) (by decide +kernel)))
  | (refine' ev_andV ?k1 ?k2; (case k1 => walk_at "ev"); (case k2 => (intro _; walk_at "ev")))
  | (refine' ev_orV ?k1 ?k2; (case k1 => walk_at "ev"); (case k2 => (intro _; walk_at "ev")))
  | (refine' ev_notV ?k1; (case k1 => walk_at "ev"))
  | (refine' ev_call ?k1 ?k2; (case k1 => walk_at "ea"); (case k2 => walk_at "sv")))
local macro_rules | `(tactic| walk_at "el") => `(tactic| first
  | assumption
  | (refine' el_mapB ?k1 ?k2 ?k3 (fun _ => rfl) ?k5; (case k1 => walk_at "ev"); (case k2 => walk_at "sd"); (case k3 => walk_at "sd"); (case k5 => (intro _ _; walk_at "ev")))
  | (refine' el_mapI ?k1 ?k2 ?k3 (fun _ => rfl) ?k5; (case k1 => walk_at "ev"); (case k2 => walk_at "sd"); (case k3 => walk_at "sd"); (case k5 => (intro _ _; walk_at "ev")))
  | (refine' el_mapS ?k1 ?k2 ?k3 (fun _ => rfl) ?k5; (case k1 => walk_at "ev"); (case k2 => walk_at "sd"); (case k3 => walk_at "sd"); (case k5 => (intro _ _; walk_at "ev"))))
local macro_rules | `(tactic| walk_at "ev") => `(tactic| first
  | (refine' ev_all ?k1; (case k1 => walk_at "el"))
  | (refine' ev_any ?k1; (case k1 => walk_at "el"))
  | (refine' ev_sumN ?k1; (case k1 => walk_at "el"))
  | (refine' ev_join ?k1 ?k2 ?k3; (case k1 => exact ev_is ev_cS (congrArg tx codes_nil)); (case k2 => walk_at "el"); (case k3 => walk_at "sd")))

/-- the built-in names, LETTERS -/
structure Blt (mg : Str → Option Value) : Prop where
  len : mg "len" = none
  all : mg "all" = none
  any : mg "any" = none
  isinstance : mg "isinstance" = none
  range : mg "range" = none
  sum : mg "sum" = none
  sorted : mg "sorted" = none
  enumerate : mg "enumerate" = none
  max : mg "max" = none
  min : mg "min" = none
  reversed : mg "reversed" = none
  list : mg "list" = none
  int : mg "int" = none
  str : mg "str" = none
  bool : mg "bool" = none
  set : mg "set" = none
  ValueError : mg "ValueError" = none
  LETTERS : ∃ u, mg "LETTERS" = some u ∧ RelV (.str "abcdefghijklmnopqrstuvwxyz") u
theorem pe_gv {X : Cx} {x : Str} {v : V} {pos : Pos} (hg : Gl X x) (h : ∃ u, X.mg x = some u ∧ RelV v u) (hd : (x == ("__debug__" : Str)) = false := by decide) : PE X (.Name x pos) (tC v) := by
  obtain ⟨u, h1, h2⟩ := h
  exact pe_glob hg h1 h2 hd
def okW (a : Wd) : Prop := ∀ c ∈ a, 97 ≤ c ∧ c ≤ 122
instance (a : Wd) : Decidable (okW a) := inferInstanceAs (Decidable (∀ c ∈ a, 97 ≤ c ∧ c ≤ 122))
def abc : Wd := codes ("abcdefghijklmnopqrstuvwxyz" : Str)
theorem abc_eq : abc = List.range' 97 26 := by decide +kernel
theorem mem_abc {c : Nat} : c ∈ abc ↔ 97 ≤ c ∧ c ≤ 122 := by
  rw [abc_eq, List.mem_range'_1]
  omega
theorem codes_nil : codes ("" : Str) = [] := by decide +kernel
theorem S_nil : S [] = ("" : Str) := by decide +kernel
def standsB (a t : Wd) (i : Nat) : Bool := pre a (t.drop i)
section
variable {P : Program} {w : World} {K : PySem.W.Frag} {mg : Str → Option Value} {base : Heap} {H : Hp}
/-! ### stands -/
def spStands : Sp := fun vs H Q _ => ∃ (a t : Wd) (i : Nat), vs = [tx a, tx t, .int (i : Int)] ∧ a.length ≤ 10000 ∧ t.length ≤ 10000 ∧ ∀ H', Ex H H' → Q (.bl (standsB a t i)) H'
theorem sv_stands {a t : Wd} {i : Nat} (h1 : a.length ≤ 10000) (h2 : t.length ≤ 10000) : SpV spStands [tx a, tx t, .int (i : Int)] H (.bl (standsB a t i)) := fun _ _ _ q _ => ⟨a, t, i, rfl, h1, h2, q⟩
theorem ok_stands (D : DefAt K mg "stands" s_stands ["word", "text", "at"]) (T : Blt mg) : Cal P w K mg base 1 "stands" spStands := by
  refine cal_of D sc_stands (fun vs H Q E h => ?_) (fun f cdv A outer s H vs Q E hr h => ?_)
  · obtain ⟨a, t, i, rfl, _⟩ := h; rfl
  · obtain ⟨a, t, i, rfl, h1, h2, q⟩ := h
    refine ⟨_, (pss_one (ps_ret (pe_cmpR op_eq (pe_slice sl_str (pv 1) (po_some (pv 2)) (po_some (pe_op op_add (pv 2) (pe_callB call_len_str (by rfl) T.len (by decide +kernel) (pa_cons (pv 0) pa_nil))))) (pv 0) (nomark _)))), ?_⟩
    refine sev_run (sev_is (sev_ret (by walk_at "ev")) (congrArg V.bl ?_)) q
    unfold standsB pre
    have h3 : (i : Int) + (a.length : Int) = ((i + a.length : Nat) : Int) := by omega
    have h4 : i + a.length - i = a.length := by omega
    rw [h3, cut_nn, h4]
/-! ### is_number, is_text -/
def spIsNumber : Sp := fun vs H Q _ => ∃ n lo hi : Int, vs = [.int n, .int lo, .int hi] ∧ ∀ H', Ex H H' → Q (.bl (decide (lo ≤ n) && decide (n ≤ hi))) H'
theorem sv_is_number {n lo hi : Int} : SpV spIsNumber [.int n, .int lo, .int hi] H (.bl (decide (lo ≤ n) && decide (n ≤ hi))) := fun _ _ _ q _ => ⟨n, lo, hi, rfl, q⟩
theorem ok_is_number (D : DefAt K mg "is_number" s_is_number ["thing", "least", "most"]) (T : Blt mg) : Cal P w K mg base 1 "is_number" spIsNumber := by
  refine cal_of D sc_is_number (fun vs H Q E h => ?_) (fun f cdv A outer s H vs Q E hr h => ?_)
  · obtain ⟨n, lo, hi, rfl, _⟩ := h; rfl
  · obtain ⟨n, lo, hi, rfl, q⟩ := h
    refine ⟨_, (pss_one (ps_ret (pe_and (pe_callB (call_isiK' (K := K) rfl) (by rfl) T.isinstance (by decide +kernel) (pa_cons (pv 0) (pa_cons (pe_bltn (v := .ty "int") (by rfl) T.int (by decide +kernel) rfl) pa_nil))) (pe_and (pe_not (pe_callB (call_isiK' (K := K) rfl) (by rfl) T.isinstance (by decide +kernel) (pa_cons (pv 0) (pa_cons (pe_bltn (v := .ty "bool") (by rfl) T.bool (by decide +kernel) rfl) pa_nil)))) (pe_one (pe_chain op_le op_le (pv 1) (pv 0) (pv 2))))))), ?_⟩
    refine sev_run (sev_is (sev_ret (by walk_at "ev")) ?_) q
    rfl
def spIsText : Sp := fun vs H Q _ => ∃ a : Wd, vs = [tx a] ∧ a.length ≤ 10000 ∧ ∀ H', Ex H H' → Q (.bl (decide (okW a))) H'
theorem sv_is_text {a : Wd} (h : a.length ≤ 10000) : SpV spIsText [tx a] H (.bl (decide (okW a))) := fun _ _ _ q _ => ⟨a, rfl, h, q⟩
theorem strip_abc (a : Wd) : decide (codes (Txt.stripChars (S a) (S abc)) = codes ("" : Str)) = decide (okW a) := by
  have h : (codes (Txt.stripChars (S a) (S abc)) = codes ("" : Str)) ↔ okW a := by
    rw [codes_nil]
    constructor
    · intro e c hc
      have e2 : Txt.stripChars (S a) (S abc) = S [] := by
        rw [← S_codes (Txt.stripChars (S a) (S abc)), e]
      exact mem_abc.mp ((strip_iff a abc).mp e2 c hc)
    · intro o
      rw [(strip_iff a abc).mpr fun c hc => mem_abc.mpr (o c hc), codes_S]
  simp only [h]
theorem ok_is_text (D : DefAt K mg "is_text" s_is_text ["thing"]) (T : Blt mg) : Cal P w K mg base 1 "is_text" spIsText := by
  refine cal_of D sc_is_text (fun vs H Q E h => ?_) (fun f cdv A outer s H vs Q E hr h => ?_)
  · obtain ⟨a, rfl, _⟩ := h; rfl
  · obtain ⟨a, rfl, h1, q⟩ := h
    refine ⟨_, (pss_one (ps_ret (pe_and (pe_callB (call_isiK' (K := K) rfl) (by rfl) T.isinstance (by decide +kernel) (pa_cons (pv 0) (pa_cons (pe_bltn (v := .ty "str") (by rfl) T.str (by decide +kernel) rfl) pa_nil))) (pe_one (pe_cmpR op_eq (pe_m1 PySem.F.slot_str_strip PySem.F.type_str_strip mt_stripChars (pv 0) (pe_gv (by rfl) T.LETTERS)) pe_str (nomark _)))))), ?_⟩
    refine sev_run (sev_is (sev_ret (by walk_at "ev")) (congrArg V.bl ?_)) q
    rw [Bool.true_and]
    exact strip_abc a
/-! ### asked_code, asked_text -/
/-- a list of words stands at p -/
structure CodeAt (K : PySem.W.Frag) (H : Hp) (p : Addr) (ws : List Wd) : Prop where
  sq : SqL K H p (ws.map tx)
  ok : ∀ a ∈ ws, a ≠ [] ∧ okW a ∧ a.length ≤ 1000
  len : ws.length ≤ 1000
theorem CodeAt.ex {p : Addr} {ws : List Wd} {H H' : Hp} (e : Ex H H') (h : CodeAt K H p ws) : CodeAt K H' p ws := ⟨ex_l e h.sq, h.ok, h.len⟩
def spAskedCode (K : PySem.W.Frag) : Sp := fun vs H Q _ => ∃ (p : Addr) (ws : List Wd), vs = [.ref p] ∧ CodeAt K H p ws ∧ ∀ H', Ex H H' → Q .non H'
theorem sv_asked_code {p : Addr} {ws : List Wd} (h : CodeAt K H p ws) : SpV (spAskedCode K) [.ref p] H .non := fun _ e _ q _ => ⟨p, ws, rfl, h.ex e, q⟩
local macro_rules | `(tactic| walk_at "sv") => `(tactic| first | exact sv_is_text (by walk_at "sd") | exact sv_stands (by walk_at "sd") (by walk_at "sd"))
theorem ok_asked_code (D : DefAt K mg "asked_code" s_asked_code ["code"]) (T : Blt mg) (C_is_text : Cal P w K mg base 1 "is_text" spIsText) : Cal P w K mg base 2 "asked_code" (spAskedCode K) := by
  refine cal_of D sc_asked_code (fun vs H Q E h => ?_) (fun f cdv A outer s H vs Q E hr h => ?_)
  · obtain ⟨p, ws, rfl, _⟩ := h; rfl
  · obtain ⟨p, ws, rfl, hc, q⟩ := h
    refine ⟨_, (pss_one (ps_if (PW.pt (pw_or (pt_not (pt_val (pe_callB (call_isiK' (K := K) rfl) (by rfl) T.isinstance (by decide +kernel) (pa_cons (pv 0) (pa_cons (pe_bltn (v := .ty "list") (by rfl) T.list (by decide +kernel) rfl) pa_nil))))) (pw_or1 (pt_not (pt_val (pe_callB (cr_allK (K := K) rfl rfl) (by rfl) T.all (by decide +kernel) (pa_cons (pe_lc (own := [("word", 1)]) rfl sc_asked_code.nd (pi_listK (K := K) rfl (pv 0)) (blkOk_by (own := [("word", 1)]) (N := N_asked_code) (sc := defScope s_asked_code) (by decide +kernel)) (fun _ _ _ _ _ => (pg_name (i := 1) sc_asked_code.nd rfl (.inl rfl))) (fun _ _ _ _ _ => pts_nil) (fun _ _ _ _ _ => (pe_and (pe_c C_is_text hr (by decide) (by rfl) (pa_cons (pv 1) pa_nil)) (pe_one (pe_cmpR op_ne (pv 1) pe_str (nomark _)))))) pa_nil))))))) (pss_one ps_never) pss_nil)), ?_⟩
    have hsq := hc.sq
    have hz : ws.length ≤ 40000 := Nat.le_trans hc.len (by decide)
    have hb : ∀ a, a ∈ ws → a.length ≤ 1000 := fun a ha => (hc.ok a ha).2.2
    refine snx_run (snx_skip (et_is (by walk_at "et") ?_)) q
    have : (ws.map fun a => decide (okW a) && !decide (a = codes ("" : Str))).all id = true := by
      rw [List.all_map, List.all_eq_true]
      intro a ha
      obtain ⟨h1, h2, h3⟩ := hc.ok a ha
      simp [h1, h2, codes_nil]
    rw [this]
    rfl
/-! ### joined -/
def nI (n : Nat) : V := .int (n : Int)
theorem wat_get {ws : List Wd} {i : Nat} (h : i < ws.length) : (ws.map tx)[i]? = some (tx (wat ws i)) := by
  simp [wat, List.getD, List.getElem?_map, h]
def spJoined (K : PySem.W.Frag) : Sp := fun vs H Q _ => ∃ (p q : Addr) (ws : List Wd) (ns : List Nat), vs = [.ref p, .ref q] ∧ SqL K H p (ws.map tx) ∧ SqL K H q (ns.map nI) ∧ ns.length ≤ 40000 ∧ (∀ n ∈ ns, n < ws.length) ∧ (joinW ws ns).length ≤ 100000 ∧ ∀ H', Ex H H' → Q (tx (joinW ws ns)) H'
theorem sv_joined {p q : Addr} {ws : List Wd} {ns : List Nat} (h1 : SqL K H p (ws.map tx)) (h2 : SqL K H q (ns.map nI)) (h3 : ns.length ≤ 40000) (h4 : ∀ n ∈ ns, n < ws.length) (h5 : (joinW ws ns).length ≤ 100000) : SpV (spJoined K) [.ref p, .ref q] H (tx (joinW ws ns)) :=
  fun _ e _ k _ => ⟨p, q, ws, ns, rfl, ex_l e h1, ex_l e h2, h3, h4, h5, k⟩
theorem ok_joined (D : DefAt K mg "joined" s_joined ["code", "places"]) (T : Blt mg) : Cal P w K mg base 1 "joined" (spJoined K) := by
  refine cal_of D sc_joined (fun vs H Q E h => ?_) (fun f cdv A outer s H vs Q E hr h => ?_)
  · obtain ⟨p, q, ws, ns, rfl, _⟩ := h; rfl
  · obtain ⟨p, q, ws, ns, rfl, h1, h2, h3, h4, h5, k⟩ := h
    refine ⟨_, (pss_one (ps_ret (pe_joinK (K := K) rfl pe_str (pe_lc (own := [("place", 2)]) rfl sc_joined.nd (pi_listK (K := K) rfl (pv 1)) (blkOk_by (own := [("place", 2)]) (N := N_joined) (sc := defScope s_joined) (by decide +kernel)) (fun _ _ _ _ _ => (pg_name (i := 2) sc_joined.nd rfl (.inl rfl))) (fun _ _ _ _ _ => pts_nil) (fun _ _ _ _ _ => (pe_ix (ix_listK (K := K) rfl) (pv 0) (pv 2) (fun _ _ => rfl))))))), ?_⟩
    refine sev_run (sev_ret ?_) k
    refine ev_join (ev_is ev_cS (congrArg tx codes_nil)) (el_mapS (ev_var rfl) h2 h3 (fun _ => rfl) fun n hn => ?_) h5
    exact ev_op (ev_var rfl) (ev_var rfl) (rv_ixL h1 (atI_nat (wat_get (h4 n hn))))
end
end Tr

set_option Elab.async false
set_option linter.all false
set_option maxRecDepth 100000
set_option maxHeartbeats 4000000
namespace Tr
open PySem PySem.Spec PyProof.Rows L2 Evl
open M3 (wat joinW pre)
abbrev s_are_places : Stmt := topS 13
abbrev N_are_places : List Str := ["code", "places", "place"]
theorem sc_are_places : FnScope N_are_places ["code", "places"] (defScope s_are_places) := ⟨rfl, rfl, rfl, by decide +kernel, rfl, by decide +kernel, by decide +kernel⟩
local macro_rules | `(tactic| walk_at "sd") => `(tactic| first | assumption | rfl | omega | decide | (solve_by_elim) | (refine Nat.le_trans (m := 1000) (by solve_by_elim) (by decide)))
local macro_rules | `(tactic| walk_at "rv") => `(tactic| first
  | exact rv_add | exact rv_sub | exact rv_lt | exact rv_le | exact rv_gt | exact rv_ge | exact rv_eqI | exact rv_eqS | exact rv_eqB | exact rv_neI | exact rv_neS | exact rv_neB
  | exact rv_mod (by walk_at "sd") | exact rv_fdiv (by first | assumption | exact ⟨by omega, by omega⟩) | exact rv_addS (by walk_at "sd") | exact rv_isB | exact rv_notB | assumption)
local macro_rules | `(tactic| walk_at "ea") => `(tactic| first
  | exact ea_nil
  | (refine' ea_cons ?k1 ?k2; (case k1 => walk_at "ev"); (case k2 => walk_at "ea")))
local macro_rules | `(tactic| walk_at "eo") => `(tactic| first
  | exact eo_none
  | (refine' eo_some ?k1; (case k1 => walk_at "ev")))
local macro_rules | `(tactic| walk_at "et") => `(tactic| first
  | (refine' et_test ?k1; (case k1 => walk_at "ev"))
  | (refine' et_B ?k1; (case k1 => walk_at "ev"))
  | (refine' et_and ?k1 ?k2; (case k1 => walk_at "et"); (case k2 => (intro _; walk_at "et")))
  | (refine' et_or ?k1 ?k2; (case k1 => walk_at "et"); (case k2 => (intro _; walk_at "et")))
  | (refine' et_not ?k1; (case k1 => walk_at "et"))
  | assumption)
local macro_rules | `(tactic| walk_at "ev") => `(tactic| first
  | assumption
  | exact ev_cS
  | exact ev_c
  | exact ev_var rfl
  | (refine' ev_op ?k1 ?k2 ?k3; (case k1 => walk_at "ev"); (case k2 => walk_at "ev"); (case k3 => walk_at "rv"))
  | (refine' ev_un ?k1 ru_neg; (case k1 => walk_at "ev"))
  | (refine' ev_chain ?k1 ?k2 ?k3 ?k4 ?k5; (case k1 => walk_at "ev"); (case k2 => walk_at "ev"); (case k3 => walk_at "ev"); (case k4 => walk_at "rv"); (case k5 => (intro _; walk_at "rv")))
  | (refine' ev_slS ?k1 ?k2 ?k3 ?k4; (case k1 => walk_at "ev"); (case k2 => walk_at "eo"); (case k3 => walk_at "eo"); (case k4 => walk_at "sd"))
  | (refine' ev_lenS ?k1 ?k2; (case k1 => walk_at "ev"); (case k2 => walk_at "sd"))
  | (refine' ev_len' ?k1 ?k2; (case k1 => walk_at "ev"); (case k2 => walk_at "sd"))
  | (refine' ev_strip ?k1 ?k2 ?k3; (case k1 => walk_at "ev"); (case k2 => walk_at "ev"); (case k3 => walk_at "sd"))
  | (refine' ev_sum ?k1 ?k2; (case k1 => walk_at "ev"); (case k2 => walk_at "sd"))
  | (refine' ev_isi ?k1 ?k2 ?k3 ?k4; (case k1 => walk_at "ev"); (case k2 => walk_at "ev"); (case k3 => first | exact ty_int | exact ty_bl | exact ty_str | exact ty_list (by walk_at "sd")); (case k4 => first | exact kit_ty (r := true) (by decide +kernel) | exact kit_ty (r := false) (by decide +kernel)))
  | (refine' ev_andV ?k1 ?k2; (case k1 => walk_at "ev"); (case k2 => (intro _; walk_at "ev")))
  | (refine' ev_orV ?k1 ?k2; (case k1 => walk_at "ev"); (case k2 => (intro _; walk_at "ev")))
  | (refine' ev_notV ?k1; (case k1 => walk_at "ev"))
  | (refine' ev_call ?k1 ?k2; (case k1 => walk_at "ea"); (case k2 => walk_at "sv")))
local macro_rules | `(tactic| walk_at "el") => `(tactic| first
  | assumption
  | (refine' el_mapB ?k1 ?k2 ?k3 (fun _ => rfl) ?k5; (case k1 => walk_at "ev"); (case k2 => walk_at "sd"); (case k3 => walk_at "sd"); (case k5 => (intro _ _; walk_at "ev")))
  | (refine' el_mapI ?k1 ?k2 ?k3 (fun _ => rfl) ?k5; (case k1 => walk_at "ev"); (case k2 => walk_at "sd"); (case k3 => walk_at "sd"); (case k5 => (intro _ _; walk_at "ev")))
  | (refine' el_mapS ?k1 ?k2 ?k3 (fun _ => rfl) ?k5; (case k1 => walk_at "ev"); (case k2 => walk_at "sd"); (case k3 => walk_at "sd"); (case k5 => (intro _ _; walk_at "ev"))))
local macro_rules | `(tactic| walk_at "ev") => `(tactic| first
  | (refine' ev_all ?k1; (case k1 => walk_at "el"))
  | (refine' ev_any ?k1; (case k1 => walk_at "el"))
  | (refine' ev_sumN ?k1; (case k1 => walk_at "el"))
  | (refine' ev_join ?k1 ?k2 ?k3; (case k1 => exact ev_is ev_cS (congrArg tx codes_nil)); (case k2 => walk_at "el"); (case k3 => walk_at "sd")))

local macro_rules | `(tactic| walk_at "sv") => `(tactic| first | exact sv_is_text (by walk_at "sd") | exact sv_stands (by walk_at "sd") (by walk_at "sd"))
/-! ### members -/
theorem all_snoc {α : Type} {f : α → Bool} {xs : List α} {x : α} (h : xs.all f = true) (hf : f x = true) : (xs ++ [x]).all f = true := by
  rw [List.all_append, h, Bool.true_and, List.all_cons, List.all_nil, Bool.and_true]; exact hf
theorem all_take {α : Type} {f : α → Bool} {xs : List α} {i : Nat} {x : α} (hx : xs[i]? = some x) (h : (xs.take i).all f = true) (hf : f x = true) : (xs.take (i + 1)).all f = true := by
  rw [List.take_succ, hx]; exact all_snoc h hf
theorem flat_ints (ms : List Int) : (ms.map V.int).all flatV = true := by
  rw [List.all_map, List.all_eq_true]; intro _ _; rfl
theorem inV_ints (n : Int) (ms : List Int) : inV (.int n) (ms.map V.int) = decide (n ∈ ms) := by
  unfold inV
  rw [List.any_map]
  by_cases h : n ∈ ms
  · rw [decide_eq_true h, List.any_eq_true]
    exact ⟨n, h, by show (n == n) = true; simp⟩
  · rw [decide_eq_false h, List.any_eq_false]
    intro x hx
    have : x ≠ n := fun e => h (e ▸ hx)
    show ¬ (x == n) = true
    simpa using this
section
variable {K : PySem.W.Frag} {σ : L2.St} {H : Hp} {ta tb : TE}
theorem ev_inI {p : Addr} {n : Int} {ms : List Int} (ha : Ev ta σ H (.int n)) (hb : Ev tb σ H (.ref p)) (h : SqL K H p (ms.map V.int)) : Ev (tOp (rIn K false) ta tb) σ H (.bl (decide (n ∈ ms))) := by
  rw [← inV_ints]; exact ev_op ha hb (rv_isL h rfl (flat_ints ms))
theorem ev_niI {p : Addr} {n : Int} {ms : List Int} (ha : Ev ta σ H (.int n)) (hb : Ev tb σ H (.ref p)) (h : SqL K H p (ms.map V.int)) : Ev (tOp (rIn K true) ta tb) σ H (.bl (!decide (n ∈ ms))) := by
  rw [← inV_ints]; exact ev_op ha hb (rv_niL h rfl (flat_ints ms))
end
/-! ### are_places -/
def inR (n : Nat) (ns : List Int) : Bool := ns.all fun i => decide (0 ≤ i) && decide (i < (n : Int))
theorem inR_nat {n : Nat} {ns : List Int} (h : inR n ns = true) : ns.map V.int = (ns.map Int.toNat).map nI ∧ ∀ m ∈ ns.map Int.toNat, m < n := by
  unfold inR at h
  rw [List.all_eq_true] at h
  have hh : ∀ i ∈ ns, 0 ≤ i ∧ i < (n : Int) := fun i hi => by simpa using h i hi
  refine ⟨?_, fun m hm => ?_⟩
  · rw [List.map_map]
    apply List.map_congr_left
    intro i hi
    have := hh i hi
    show V.int i = V.int ((i.toNat : Nat) : Int)
    rw [Int.toNat_of_nonneg this.1]
  · obtain ⟨i, hi, rfl⟩ := List.mem_map.mp hm
    have := hh i hi
    omega
theorem inR_of {n : Nat} {ns : List Nat} (h : ∀ m ∈ ns, m < n) : inR n (List.map (fun m : Nat => (m : Int)) ns) = true := by
  unfold inR
  rw [List.all_map, List.all_eq_true]
  intro m hm
  have := h m hm
  show (decide ((0 : Int) ≤ (m : Int)) && decide ((m : Int) < (n : Int))) = true
  rw [decide_eq_true (by omega), decide_eq_true (by omega)]; rfl
section
variable {P : Program} {w : World} {K : PySem.W.Frag} {mg : Str → Option Value} {base : Heap} {H : Hp}
def spArePlaces (K : PySem.W.Frag) : Sp := fun vs H Q _ => ∃ (p q : Addr) (xs : List V) (ns : List Int), vs = [.ref p, .ref q] ∧ SqL K H p xs ∧ SqL K H q (ns.map V.int) ∧ ns.length ≤ 40000 ∧ ∀ H', Ex H H' → Q (.bl (inR xs.length ns)) H'
theorem sv_are_places {p q : Addr} {xs : List V} {ns : List Int} (h1 : SqL K H p xs) (h2 : SqL K H q (ns.map V.int)) (hn : ns.length ≤ 40000) : SpV (spArePlaces K) [.ref p, .ref q] H (.bl (inR xs.length ns)) := fun _ e _ k _ => ⟨p, q, xs, ns, rfl, ex_l e h1, ex_l e h2, hn, k⟩
theorem ok_are_places (D : DefAt K mg "are_places" s_are_places ["code", "places"]) (T : Blt mg) : Cal P w K mg base 1 "are_places" (spArePlaces K) := by
  refine cal_of D sc_are_places (fun vs H Q E h => ?_) (fun f cdv A outer s H vs Q E hr h => ?_)
  · obtain ⟨p, q, xs, ns, rfl, _⟩ := h; rfl
  · obtain ⟨p, q, xs, ns, rfl, h1, h2, hn, k⟩ := h
    refine ⟨_, (pss_one (ps_ret (pe_callB (cr_allK (K := K) rfl rfl) (by rfl) T.all (by decide +kernel) (pa_cons (pe_lc (own := [("place", 2)]) rfl sc_are_places.nd (pi_listK (K := K) rfl (pv 1)) (blkOk_by (own := [("place", 2)]) (N := N_are_places) (sc := defScope s_are_places) (by decide +kernel)) (fun _ _ _ _ _ => (pg_name (i := 2) sc_are_places.nd rfl (.inl rfl))) (fun _ _ _ _ _ => pts_nil) (fun _ _ _ _ _ => (pe_chain op_le op_lt pe_int (pv 2) (pe_callB (call_len_seqK (K := K) rfl) (by rfl) T.len (by decide +kernel) (pa_cons (pv 0) pa_nil))))) pa_nil)))), ?_⟩
    refine sev_run (sev_is (sev_ret (ev_all (el_mapB (φ := V.int) (g := fun i : Int => decide ((0 : Int) ≤ i) && decide (i < (xs.length : Int))) (ev_var rfl) h2 hn (fun _ => rfl) fun i hi => ?_))) (congrArg V.bl ?_)) k
    · exact ev_chain (y := .int i) ev_c (ev_var rfl) (ev_len' (ev_var rfl) h1) rv_le fun _ => rv_lt
    · rw [List.all_map]; rfl
end
end Tr

set_option Elab.async false
set_option linter.all false
set_option maxRecDepth 100000
set_option maxHeartbeats 4000000
namespace Tr
open PySem PySem.Spec PyProof.Rows L2 Evl
open M3 (wat joinW pre)
abbrev s_Clash___init__ : Stmt := inClass (topS 14) 0
abbrev N_Clash___init__ : List Str := ["self", "one", "other"]
theorem sc_Clash___init__ : FnScope N_Clash___init__ ["self", "one", "other"] (defScope s_Clash___init__) := ⟨rfl, rfl, rfl, by decide +kernel, rfl, by decide +kernel, by decide +kernel⟩
abbrev s_Clash_shows : Stmt := inClass (topS 14) 1
abbrev N_Clash_shows : List Str := ["self", "code"]
theorem sc_Clash_shows : FnScope N_Clash_shows ["self", "code"] (defScope s_Clash_shows) := ⟨rfl, rfl, rfl, by decide +kernel, rfl, by decide +kernel, by decide +kernel⟩
abbrev s_Tails___init__ : Stmt := inClass (topS 15) 0
abbrev N_Tails___init__ : List Str := ["self", "tails"]
theorem sc_Tails___init__ : FnScope N_Tails___init__ ["self", "tails"] (defScope s_Tails___init__) := ⟨rfl, rfl, rfl, by decide +kernel, rfl, by decide +kernel, by decide +kernel⟩
abbrev s_Tails_shows : Stmt := inClass (topS 15) 1
abbrev N_Tails_shows : List Str := ["self", "code", "held", "tail", "place", "word", "other"]
theorem sc_Tails_shows : FnScope N_Tails_shows ["self", "code"] (defScope s_Tails_shows) := ⟨rfl, rfl, rfl, by decide +kernel, rfl, by decide +kernel, by decide +kernel⟩
local macro_rules | `(tactic| walk_at "sd") => `(tactic| first | assumption | rfl | omega | decide | (solve_by_elim) | (refine Nat.le_trans (m := 1000) (by solve_by_elim) (by decide)))
local macro_rules | `(tactic| walk_at "rv") => `(tactic| first
  | exact rv_add | exact rv_sub | exact rv_lt | exact rv_le | exact rv_gt | exact rv_ge | exact rv_eqI | exact rv_eqS | exact rv_eqB | exact rv_neI | exact rv_neS | exact rv_neB
  | exact rv_mod (by walk_at "sd") | exact rv_fdiv (by first | assumption | exact ⟨by omega, by omega⟩) | exact rv_addS (by walk_at "sd") | exact rv_isB | exact rv_notB | assumption)
local macro_rules | `(tactic| walk_at "ea") => `(tactic| first
  | exact ea_nil
  | (refine' ea_cons ?k1 ?k2; (case k1 => walk_at "ev"); (case k2 => walk_at "ea")))
local macro_rules | `(tactic| walk_at "eo") => `(tactic| first
  | exact eo_none
  | (refine' eo_some ?k1; (case k1 => walk_at "ev")))
local macro_rules | `(tactic| walk_at "et") => `(tactic| first
  | (refine' et_test ?k1; (case k1 => walk_at "ev"))
  | (refine' et_B ?k1; (case k1 => walk_at "ev"))
  | (refine' et_and ?k1 ?k2; (case k1 => walk_at "et"); (case k2 => (intro _; walk_at "et")))
  | (refine' et_or ?k1 ?k2; (case k1 => walk_at "et"); (case k2 => (intro _; walk_at "et")))
  | (refine' et_not ?k1; (case k1 => walk_at "et"))
  | assumption)
local macro_rules | `(tactic| walk_at "ev") => `(tactic| first
  | assumption
  | exact ev_cS
  | exact ev_c
  | exact ev_var rfl
  | (refine' ev_op ?k1 ?k2 ?k3; (case k1 => walk_at "ev"); (case k2 => walk_at "ev"); (case k3 => walk_at "rv"))
  | (refine' ev_un ?k1 ru_neg; (case k1 => walk_at "ev"))
  | (refine' ev_chain ?k1 ?k2 ?k3 ?k4 ?k5; (case k1 => walk_at "ev"); (case k2 => walk_at "ev"); (case k3 => walk_at "ev"); (case k4 => walk_at "rv"); (case k5 => (intro _; walk_at "rv")))
  | (refine' ev_slS ?k1 ?k2 ?k3 ?k4; (case k1 => walk_at "ev"); (case k2 => walk_at "eo"); (case k3 => walk_at "eo"); (case k4 => walk_at "sd"))
  | (refine' ev_lenS ?k1 ?k2; (case k1 => walk_at "ev"); (case k2 => walk_at "sd"))
  | (refine' ev_len' ?k1 ?k2; (case k1 => walk_at "ev"); (case k2 => walk_at "sd"))
  | (refine' ev_strip ?k1 ?k2 ?k3; (case k1 => walk_at "ev"); (case k2 => walk_at "ev"); (case k3 => walk_at "sd"))
  | (refine' ev_sum ?k1 ?k2; (case k1 => walk_at "ev"); (case k2 => walk_at "sd"))
  | (refine' ev_isi ?k1 ?k2 ?k3 ?k4; (case k1 => walk_at "ev"); (case k2 => walk_at "ev"); (case k3 => first | exact ty_int | exact ty_bl | exact ty_str | exact ty_list (by walk_at "sd")); (case k4 => first | exact kit_ty (r := true) (by decide +kernel) | exact kit_ty (r := false) (by decide +kernel)))
  | (refine' ev_andV ?k1 ?k2; (case k1 => walk_at "ev"); (case k2 => (intro _; walk_at "ev")))
  | (refine' ev_orV ?k1 ?k2; (case k1 => walk_at "ev"); (case k2 => (intro _; walk_at "ev")))
  | (refine' ev_notV ?k1; (case k1 => walk_at "ev"))
  | (refine' ev_call ?k1 ?k2; (case k1 => walk_at "ea"); (case k2 => walk_at "sv")))
local macro_rules | `(tactic| walk_at "el") => `(tactic| first
  | assumption
  | (refine' el_mapB ?k1 ?k2 ?k3 (fun _ => rfl) ?k5; (case k1 => walk_at "ev"); (case k2 => walk_at "sd"); (case k3 => walk_at "sd"); (case k5 => (intro _ _; walk_at "ev")))
  | (refine' el_mapI ?k1 ?k2 ?k3 (fun _ => rfl) ?k5; (case k1 => walk_at "ev"); (case k2 => walk_at "sd"); (case k3 => walk_at "sd"); (case k5 => (intro _ _; walk_at "ev")))
  | (refine' el_mapS ?k1 ?k2 ?k3 (fun _ => rfl) ?k5; (case k1 => walk_at "ev"); (case k2 => walk_at "sd"); (case k3 => walk_at "sd"); (case k5 => (intro _ _; walk_at "ev"))))
local macro_rules | `(tactic| walk_at "ev") => `(tactic| first
  | (refine' ev_all ?k1; (case k1 => walk_at "el"))
  | (refine' ev_any ?k1; (case k1 => walk_at "el"))
  | (refine' ev_sumN ?k1; (case k1 => walk_at "el"))
  | (refine' ev_join ?k1 ?k2 ?k3; (case k1 => exact ev_is ev_cS (congrArg tx codes_nil)); (case k2 => walk_at "el"); (case k3 => walk_at "sd")))

local macro_rules | `(tactic| walk_at "sv") => `(tactic| first | exact sv_stands (by walk_at "sd") (by walk_at "sd"))
/-! ### objects of two lists -/
section
variable {K : PySem.W.Frag} {σ : L2.St} {H H' : Hp} {ta tb te tl : TE} {D : Ends} {tz tu : TS} {C o dx : Addr}
def EvB2 (te : TE) (σ : L2.St) (H : Hp) (C : Addr) (f g : Str) (xs ys : List V) : Prop := ∀ H1, Ex H H1 → ∀ Q : VK, (∀ o dx l m H2, H1 o = none → H1 l = none → H1 m = none → l ≠ o → m ≠ o → l ≠ m → Ex H1 H2 → H2 o = some (.ins C dx [(f, .ref l), (g, .ref m)]) → H2 l = some (.lst xs) → H2 m = some (.lst ys) → Q (.ref o) H2) → te σ H1 Q
def spIni2 (K : PySem.W.Frag) (C : Addr) (f g : Str) : Sp := fun vs H Q _ => ∃ (p q r dx : Addr) (xs ys : List V), vs = [.ref p, .ref q, .ref r] ∧ H p = some (.ins C dx []) ∧ SqL K H q xs ∧ SqL K H r ys ∧
  ∀ l m H', l ≠ p → m ≠ p → l ≠ m → H l = none → H m = none → (∀ b u, b ≠ p → H b = some u → H' b = some u) → H' p = some (.ins C dx [(f, .ref l), (g, .ref m)]) → H' l = some (.lst xs) → H' m = some (.lst ys) → Q .non H'
theorem sq_ins {p q : Addr} {fs : List (Str × V)} {xs : List V} {u : HO} (hp : H p = some (.ins C dx fs)) (h : SqL K H q xs) : SqL K (upd H p u) q xs := by
  rcases h with (h | ⟨b, h⟩) | h
  · exact .inl (.inl (by rw [upd_ne (fun z => by rw [z, hp] at h; cases h)]; exact h))
  · exact .inl (.inr ⟨b, by rw [upd_ne (fun z => by rw [z, hp] at h; cases h)]; exact h⟩)
  · exact .inr h
theorem eb2_make {f g : Str} {a b : Addr} {xs ys : List V} (ha : Ev ta σ H (.ref a)) (hx : SqL K H a xs) (hb : Ev tb σ H (.ref b)) (hy : SqL K H b ys) : EvB2 (tMake C (spIni2 K C f g) [] E0 (tCons ta (tCons tb tNil))) σ H C f g xs ys := fun H1 e Q q =>
  ha H1 e _ fun H2 e2 => hb H2 (e.trans e2) _ fun H3 e3 => fun x dx nx nd ne => by
    have nu : upd H3 dx (.own x) x = none := by rw [upd_ne (Ne.symm ne)]; exact nx
    have ex : Ex H3 (upd (upd H3 dx (.own x)) x (.ins C dx [])) := (Ex.new nd).trans (Ex.new nu)
    have e03 := (e.trans e2).trans e3
    refine ⟨x, a, b, dx, xs, ys, rfl, upd_same, ex_l (e03.trans ex) hx, ex_l (e03.trans ex) hy, fun l m H' hlx hmx hlm nl nm kp ho hl hm => ⟨rfl, ?_⟩⟩
    have e23 := e2.trans e3
    refine q x dx l m H' (fresh_back e23 nx) (fresh_back e23 (fresh_back ex nl)) (fresh_back e23 (fresh_back ex nm)) hlx hmx hlm (fun c u hc => ?_) ho hl hm
    have hc3 := e23 c u hc
    have hcx : c ≠ x := fun z => by rw [z, nx] at hc3; cases hc3
    exact kp c u hcx (ex c u hc3)
theorem s_retB2 {f g : Str} {xs ys : List V} (h : EvB2 te σ H C f g xs ys) (k : ∀ o dx l m H2, H o = none → H l = none → H m = none → l ≠ o → m ≠ o → l ≠ m → Ex H H2 → H2 o = some (.ins C dx [(f, .ref l), (g, .ref m)]) → H2 l = some (.lst xs) → H2 m = some (.lst ys) → D.rt (.ref o) H2) : tRet te D σ H := h H (Ex.refl H) _ k
theorem look2 {f g : Str} {v u : V} (h : (g == f) = false) : ([(f, v), (g, u)] : List (Str × V)).lookup g = some u := by simp [List.lookup, h]
theorem look2a {f g : Str} {v u : V} : ([(f, v), (g, u)] : List (Str × V)).lookup f = some v := by simp [List.lookup]
theorem look2n {f g m : Str} {v u : V} (h1 : (m == f) = false) (h2 : (m == g) = false) : ([(f, v), (g, u)] : List (Str × V)).lookup m = none := by simp [List.lookup, h1, h2]
theorem ini2_run {f g : Str} {p q r : Addr} {xs ys : List V} {σ : L2.St} (c : Cls K C) (n1 : NoAttr K C f) (n2 : NoAttr K C g) (hfg : ¬ f = g) (hp : H p = some (.ins C dx [])) (hq : SqL K H q xs) (hr : SqL K H r ys) (h0 : σ[0]? = some (some (.ref p))) (h1 : σ[1]? = some (some (.ref q))) (h2 : σ[2]? = some (some (.ref r)))
    (k : ∀ l m H', l ≠ p → m ≠ p → l ≠ m → H l = none → H m = none → (∀ b u, b ≠ p → H b = some u → H' b = some u) → H' p = some (.ins C dx [(f, .ref l), (g, .ref m)]) → H' l = some (.lst xs) → H' m = some (.lst ys) → D.nx σ H') :
    tSeq (sFld K (tVar 0) (tCB (rListQ K) (tCons (tVar 1) tNil)) f) (sFld K (tVar 0) (tCB (rListQ K) (tCons (tVar 2) tNil)) g) D σ H := (ev_listOf (ev_var h1) hq) H (Ex.refl H) _ fun l H1 nl e1 hl => (ev_var h0) H1 (Ex.refl _) _ fun H2 e2 => by
  have hp2 := (e1.trans e2) p _ hp
  have hlp : l ≠ p := fun z => by rw [z, hp] at nl; cases nl
  refine ⟨p, C, dx, [], rfl, hp2, c, n1, by decide, ?_⟩
  have hr2 : SqL K (upd H2 p (.ins C dx (putF f (.ref l) []))) r ys := sq_ins hp2 (ex_l (e1.trans e2) hr)
  refine (ev_listOf (ev_var h2) hr2) _ (Ex.refl _) _ fun m H3 nm e3 hm => (ev_var h0) H3 (Ex.refl _) _ fun H4 e4 => ?_
  have hp4 : H4 p = some (.ins C dx [(f, .ref l)]) := (e3.trans e4) p _ upd_same
  have hmp : m ≠ p := fun z => by rw [z, upd_same] at nm; cases nm
  have nm2 : H2 m = none := by rw [upd_ne hmp] at nm; exact nm
  have hl2 := e2 l _ hl
  have hlm : l ≠ m := fun z => by rw [z, nm2] at hl2; cases hl2
  refine ⟨p, C, dx, [(f, .ref l)], rfl, hp4, c, n2, by simp, k l m _ hlp hmp hlm nl (fresh_back (e1.trans e2) nm2) (fun b u hb hu => ?_) ?_ ?_ ?_⟩
  · rw [upd_ne hb]
    exact (e3.trans e4) b u (by rw [upd_ne hb]; exact (e1.trans e2) b u hu)
  · rw [upd_same]
    show some (HO.ins C dx (if f = g then _ else _)) = _
    rw [if_neg hfg]; rfl
  · rw [upd_ne hlp]
    exact (e3.trans e4) l _ (by rw [upd_ne hlp]; exact hl2)
  · rw [upd_ne hmp]
    exact e4 m _ hm
theorem inV_txs (a : Wd) (ts : List Wd) : inV (tx a) (ts.map tx) = decide (a ∈ ts) := by
  unfold inV
  rw [List.any_map]
  by_cases h : a ∈ ts
  · rw [decide_eq_true h, List.any_eq_true]
    exact ⟨a, h, by show (S a == S a) = true; simp⟩
  · rw [decide_eq_false h, List.any_eq_false]
    intro x hx
    have hne : x ≠ a := fun e => h (e ▸ hx)
    have : ¬ S x = S a := fun e => hne (S_inj e)
    show ¬ (S x == S a) = true
    simpa using this
theorem flat_txs (ts : List Wd) : (ts.map tx).all flatV = true := by
  rw [List.all_map, List.all_eq_true]; intro _ _; rfl
theorem ev_inW {p : Addr} {a : Wd} {ts : List Wd} (ha : Ev ta σ H (tx a)) (hb : Ev tb σ H (.ref p)) (h : SqL K H p (ts.map tx)) : Ev (tOp (rIn K false) ta tb) σ H (.bl (decide (a ∈ ts))) := by
  rw [← inV_txs]; exact ev_op ha hb (rv_isL h rfl (flat_txs ts))
theorem ev_niW {p : Addr} {a : Wd} {ts : List Wd} (ha : Ev ta σ H (tx a)) (hb : Ev tb σ H (.ref p)) (h : SqL K H p (ts.map tx)) : Ev (tOp (rIn K true) ta tb) σ H (.bl (!decide (a ∈ ts))) := by
  rw [← inV_txs]; exact ev_op ha hb (rv_niL h rfl (flat_txs ts))
end
/-! ### what the two answers show -/
def clV (ws : List Wd) (xs ys : List Int) : Bool := !decide (xs = ys) && inR ws.length xs && inR ws.length ys && decide (joinW ws (xs.map Int.toNat) = joinW ws (ys.map Int.toNat))
def tlB (ws ts : List Wd) (i j : Nat) : Bool := !(!decide (j = i) && pre (wat ws i) (wat ws j) && !decide ((wat ws j).drop (wat ws i).length ∈ ts))
def tlT (ws ts : List Wd) (i : Nat) (t : Wd) : Bool := !(pre t (wat ws i) && !decide ((wat ws i).drop t.length ∈ ts)) && !(pre (wat ws i) t && !decide (t.drop (wat ws i).length ∈ ts))
def tlA (ws ts : List Wd) (i : Nat) : Bool := (List.range ws.length).all (tlB ws ts i) && ts.all (tlT ws ts i)
def tlV (ws ts : List Wd) : Bool := !decide ([] ∈ ts) && (List.range ws.length).all (tlA ws ts)
theorem tlV_of {ws ts : List Wd} (C : M1.Cl ws (· ∈ ts)) : tlV ws ts = true := by
  unfold tlV
  rw [decide_eq_false C.ne, Bool.not_false, Bool.true_and, List.all_eq_true]
  intro i hi
  have hi := List.mem_range.mp hi
  unfold tlA
  rw [Bool.and_eq_true, List.all_eq_true, List.all_eq_true]
  refine ⟨fun j hj => ?_, fun t ht => ?_⟩
  · have hj := List.mem_range.mp hj
    unfold tlB
    by_cases h1 : j = i
    · simp [h1]
    · cases h2 : pre (wat ws i) (wat ws j) with
      | false => simp
      | true => simp [C.first i j hi hj (Ne.symm h1) h2]
  · unfold tlT
    cases h1 : pre t (wat ws i) with
    | false =>
      cases h2 : pre (wat ws i) t with
      | false => simp
      | true => simp [C.bwd t ht i hi h2]
    | true =>
      cases h2 : pre (wat ws i) t with
      | false => simp [C.fwd t ht i hi h1]
      | true => simp [C.bwd t ht i hi h2, C.fwd t ht i hi h1]
section
variable {P : Program} {w : World} {K : PySem.W.Frag} {mg : Str → Option Value} {base : Heap} {H : Hp}
theorem ok_Clash___init__ {aCl : Addr} (D : IniAt K aCl "Clash.__init__" s_Clash___init__ ["self", "one", "other"]) (T : Blt mg) (G_Clash : mg "Clash" = some (.ref aCl)) (L_Clash : ClsI K aCl) (N_Clash_one : NoAttr K aCl "one") (N_Clash_other : NoAttr K aCl "other") :
    MkAt P w K mg base 1 "Clash" aCl (spIni2 K aCl "one" "other") := by
  refine mk_ofI G_Clash D sc_Clash___init__ (fun vs H Q E h => ?_) (fun f cdv A outer s H vs Q E hr h => ?_)
  · obtain ⟨p, q, r, dx, xs, ys, rfl, _⟩ := h; rfl
  · obtain ⟨p, q, r, dx, xs, ys, rfl, hp, hq, hr2, k⟩ := h
    refine ⟨_, (pss_cons (ps_fldK (K := K) rfl (pv 0) (pe_callTy (call_list_ofK (K := K) rfl) (by rfl) T.list (by decide +kernel) (pa_cons (pv 1) pa_nil)))
      (pss_one (ps_fldK (K := K) rfl (pv 0) (pe_callTy (call_list_ofK (K := K) rfl) (by rfl) T.list (by decide +kernel) (pa_cons (pv 2) pa_nil))))), ?_⟩
    exact ini2_run (D := ⟨fun _ H' => Q .non H', Q, fun _ _ => False, fun _ _ => False⟩) L_Clash.cl N_Clash_one N_Clash_other (by decide +kernel) hp hq hr2 rfl rfl rfl k
theorem ok_Tails___init__ {aTl : Addr} (D : IniAt K aTl "Tails.__init__" s_Tails___init__ ["self", "tails"]) (T : Blt mg) (G_Tails : mg "Tails" = some (.ref aTl)) (L_Tails : ClsI K aTl) (N_Tails_tails : NoAttr K aTl "tails") : MkAt P w K mg base 1 "Tails" aTl (spIni1 K aTl "tails") := by
  refine mk_ofI G_Tails D sc_Tails___init__ (fun vs H Q E h => ?_) (fun f cdv A outer s H vs Q E hr h => ?_)
  · obtain ⟨p, q, dx, xs, rfl, _⟩ := h; rfl
  · obtain ⟨p, q, dx, xs, rfl, hp, hq, k⟩ := h
    refine ⟨_, (pss_one (ps_fldK (K := K) rfl (pv 0) (pe_callTy (call_list_ofK (K := K) rfl) (by rfl) T.list (by decide +kernel) (pa_cons (pv 1) pa_nil)))), ?_⟩
    exact ini1_run (D := ⟨fun _ H' => Q .non H', Q, fun _ _ => False, fun _ _ => False⟩) L_Tails.cl N_Tails_tails hp hq rfl rfl k
def spClShows (K : PySem.W.Frag) (aCl : Addr) : Sp := fun vs H Q _ => ∃ (o l m p dx : Addr) (ws : List Wd) (xs ys : List Int), vs = [.ref o, .ref p] ∧ H o = some (.ins aCl dx [("one", .ref l), ("other", .ref m)]) ∧ SqL K H l (xs.map V.int) ∧ SqL K H m (ys.map V.int) ∧ SqL K H p (ws.map tx) ∧ xs.length ≤ 6000 ∧ ys.length ≤ 6000 ∧
  (inR ws.length xs = true → (joinW ws (xs.map Int.toNat)).length ≤ 100000) ∧ (inR ws.length ys = true → (joinW ws (ys.map Int.toNat)).length ≤ 100000) ∧ ∀ H', Ex H H' → Q (.bl (clV ws xs ys)) H'
theorem ok_Clash_shows {aCl : Addr} (D : MthAt K aCl "shows" "Clash.shows" s_Clash_shows ["self", "code"]) (T : Blt mg) (L_Clash : ClsI K aCl) (N_Clash_one : NoAttr K aCl "one") (N_Clash_other : NoAttr K aCl "other") (C_are_places : Cal P w K mg base 1 "are_places" (spArePlaces K)) (C_joined : Cal P w K mg base 1 "joined" (spJoined K)) :
    MCal P w K mg base 2 aCl "shows" (spClShows K aCl) := by
  refine mcal_of L_Clash.cl D sc_Clash_shows (fun vs H Q E h => ?_) (fun f cdv A outer s H vs Q E hr h => ?_)
  · obtain ⟨o, l, m, p, dx, ws, xs, ys, rfl, _⟩ := h; rfl
  · obtain ⟨o, l, m, p, dx, ws, xs, ys, rfl, ho, hl, hm, hp, hx, hy, jx, jy, k⟩ := h
    refine ⟨_, (pss_cons (ps_if (PW.pt (pw_or (pt_cmpR (op_eqDK (K := K) rfl hr.units) (pe_fldK (K := K) rfl (pv 0)) (pe_fldK (K := K) rfl (pv 0)) (nomark _)) (pw_or (pt_not (pt_val (pe_c C_are_places hr (by decide) (by rfl) (pa_cons (pv 1) (pa_cons (pe_fldK (K := K) rfl (pv 0)) pa_nil))))) (pw_or1 (pt_not (pt_val (pe_c C_are_places hr (by decide) (by rfl) (pa_cons (pv 1) (pa_cons (pe_fldK (K := K) rfl (pv 0)) pa_nil))))))))) (pss_one (ps_ret pe_bl)) pss_nil)
      (pss_one (ps_ret (pe_cmpR op_eq (pe_c C_joined hr (by decide) (by rfl) (pa_cons (pv 1) (pa_cons (pe_fldK (K := K) rfl (pv 0)) pa_nil))) (pe_c C_joined hr (by decide) (by rfl) (pa_cons (pv 1) (pa_cons (pe_fldK (K := K) rfl (pv 0)) pa_nil))) (nomark _))))), ?_⟩
    have g1 : ∀ H', Ex H H' → Ev (tFld K (tVar 0) "one") [some (.ref o), some (.ref p)] H' (.ref l) := fun H' e => ev_fld (ev_var rfl) (e o _ ho) L_Clash.cl N_Clash_one look2a
    have g2 : ∀ H', Ex H H' → Ev (tFld K (tVar 0) "other") [some (.ref o), some (.ref p)] H' (.ref m) := fun H' e => ev_fld (ev_var rfl) (e o _ ho) L_Clash.cl N_Clash_other (look2 (by decide +kernel))
    refine q_when (b := decide (xs = ys) || (!inR ws.length xs || !inR ws.length ys)) (et_or (et_B (ev_eqQ enc_int (eq_at (g1 _ (Ex.refl _)) hl) (eq_at (g2 _ (Ex.refl _)) hm) (by simp) (by simp))) fun _ => et_or (et_not (et_test (ev_is (ev_call (vs := [.ref p, .ref l]) (ea_cons (ev_var rfl) (ea_cons (g1 _ (Ex.refl _)) ea_nil)) (sv_are_places hp hl (by omega))) (by rw [List.length_map]))))
      fun _ => et_not (et_test (ev_is (ev_call (vs := [.ref p, .ref m]) (ea_cons (ev_var rfl) (ea_cons (g2 _ (Ex.refl _)) ea_nil)) (sv_are_places hp hm (by omega))) (by rw [List.length_map])))) (fun h0 H1 e1 => ?_) (fun h0 H1 e1 => ?_)
    · have : clV ws xs ys = false := by
        unfold clV
        cases h1 : decide (xs = ys) <;> cases h2 : inR ws.length xs <;> cases h3 : inR ws.length ys <;> rw [h1, h2, h3] at h0 <;> first | rfl | cases h0
      rw [this] at k
      exact s_ret ev_c fun H2 e2 => k H2 (e1.trans e2)
    · have h123 : decide (xs = ys) = false ∧ inR ws.length xs = true ∧ inR ws.length ys = true := by
        cases h1 : decide (xs = ys) <;> cases h2 : inR ws.length xs <;> cases h3 : inR ws.length ys <;> rw [h1, h2, h3] at h0 <;> first | exact ⟨rfl, rfl, rfl⟩ | cases h0
      obtain ⟨h1, h2, h3⟩ := h123
      have : clV ws xs ys = decide (joinW ws (xs.map Int.toNat) = joinW ws (ys.map Int.toNat)) := by
        unfold clV
        rw [h1, h2, h3]; rfl
      rw [this] at k
      obtain ⟨a1, a2⟩ := inR_nat h2
      obtain ⟨b1, b2⟩ := inR_nat h3
      have hl1 := ex_l e1 hl
      have hm1 := ex_l e1 hm
      rw [a1] at hl1
      rw [b1] at hm1
      exact s_ret (ev_op (ev_call (vs := [.ref p, .ref l]) (ea_cons (ev_var rfl) (ea_cons (g1 _ e1) ea_nil)) (sv_joined (ex_l e1 hp) hl1 (by rw [List.length_map]; omega) a2 (jx h2))) (ev_call (vs := [.ref p, .ref m]) (ea_cons (ev_var rfl) (ea_cons (g2 _ e1) ea_nil)) (sv_joined (ex_l e1 hp) hm1 (by rw [List.length_map]; omega) b2 (jy h3))) rv_eqS) fun H2 e2 => k H2 (e1.trans e2)
/-! ### Tails.shows -/
def spTlShows (K : PySem.W.Frag) (aTl : Addr) : Sp := fun vs H Q _ => ∃ (o l p dx : Addr) (ws ts : List Wd), vs = [.ref o, .ref p] ∧ H o = some (.ins aTl dx [("tails", .ref l)]) ∧ SqL K H l (ts.map tx) ∧ SqL K H p (ws.map tx) ∧ ws.length ≤ 1000 ∧ (∀ a ∈ ws, a.length ≤ 1000) ∧ ts.length ≤ 6000 ∧ (∀ t ∈ ts, t.length ≤ 1000) ∧
  ∀ H', Ex H H' → Q (.bl (tlV ws ts)) H'
theorem ok_Tails_shows {aTl : Addr} (D : MthAt K aTl "shows" "Tails.shows" s_Tails_shows ["self", "code"]) (T : Blt mg) (L_Tails : ClsI K aTl) (N_Tails_tails : NoAttr K aTl "tails") (C_stands : Cal P w K mg base 1 "stands" spStands) : MCal P w K mg base 2 aTl "shows" (spTlShows K aTl) := by
  refine mcal_of L_Tails.cl D sc_Tails_shows (fun vs H Q E h => ?_) (fun f cdv A outer s H vs Q E hr h => ?_)
  · obtain ⟨o, l, p, dx, ws, ts, rfl, _⟩ := h; rfl
  · obtain ⟨o, l, p, dx, ws, ts, rfl, ho, hl, hp, hwl, hwa, htl, hta, k⟩ := h
    refine ⟨_, (pss_cons (ps_set (i := 2) sc_Tails_shows.nd rfl (.inl rfl) pe_dnewK)
      (pss_cons (ps_for PassesOwn.never rfl (pi_listK (K := K) rfl (pe_fldK (K := K) rfl (pv 0))) (pg_name (i := 3) sc_Tails_shows.nd rfl (.inl rfl)) (pss_one (ps_dput (hu_of hr) (pv 2) (pv 3) pe_bl rfl)))
      (pss_cons (ps_if (pt_cmp (pc_din (hu_of hr) pe_str (pv 2))) (pss_one (ps_ret pe_bl)) pss_nil)
      (pss_cons (ps_for PassesOwn.never rfl (pi_enumK (K := K) rfl (by rfl) T.enumerate (pa_cons (pv 1) pa_nil)) (pg_tupK (K := K) (n := 2) rfl rfl (pgs_cons (pg_name (i := 4) sc_Tails_shows.nd rfl (.inl rfl)) (pgs_cons (pg_name (i := 5) sc_Tails_shows.nd rfl (.inl rfl)) pgs_nil))) (pss_cons (ps_for PassesOwn.never rfl (pi_range1 (by rfl) T.range (pa_cons (pe_callB (call_len_seqK (K := K) rfl) (by rfl) T.len (by decide +kernel) (pa_cons (pv 1) pa_nil)) pa_nil)) (pg_name (i := 6) sc_Tails_shows.nd rfl (.inl rfl)) (pss_one (ps_if (PW.pt (pw_and (pt_cmpR op_ne (pv 6) (pv 4) (nomark _)) (pw_and (pt_val (pe_c C_stands hr (by decide) (by rfl) (pa_cons (pv 5) (pa_cons (pe_ix (ix_listK (K := K) rfl) (pv 1) (pv 6) (fun _ _ => rfl)) (pa_cons pe_int pa_nil))))) (pw_and1 (pt_cmp (pc_dnotin (hu_of hr) (pe_slice sl_str (pe_ix (ix_listK (K := K) rfl) (pv 1) (pv 6) (fun _ _ => rfl)) (po_some (pe_callB call_len_str (by rfl) T.len (by decide +kernel) (pa_cons (pv 5) pa_nil))) po_none) (pv 2))))))) (pss_one (ps_ret pe_bl)) pss_nil)))
      (pss_one (ps_lock (ps_for PassesOwn.never rfl (pi_keys (pv 2)) (pg_name (i := 3) sc_Tails_shows.nd rfl (.inl rfl)) (pss_cons (ps_if (PW.pt (pw_and (pt_val (pe_c C_stands hr (by decide) (by rfl) (pa_cons (pv 3) (pa_cons (pv 5) (pa_cons pe_int pa_nil))))) (pw_and1 (pt_cmp (pc_dnotin (hu_of hr) (pe_slice sl_str (pv 5) (po_some (pe_callB call_len_str (by rfl) T.len (by decide +kernel) (pa_cons (pv 3) pa_nil))) po_none) (pv 2)))))) (pss_one (ps_ret pe_bl)) pss_nil)
      (pss_one (ps_if (PW.pt (pw_and (pt_val (pe_c C_stands hr (by decide) (by rfl) (pa_cons (pv 5) (pa_cons (pv 3) (pa_cons pe_int pa_nil))))) (pw_and1 (pt_cmp (pc_dnotin (hu_of hr) (pe_slice sl_str (pv 3) (po_some (pe_callB call_len_str (by rfl) T.len (by decide +kernel) (pa_cons (pv 5) pa_nil))) po_none) (pv 2)))))) (pss_one (ps_ret pe_bl)) pss_nil))))))))
      (pss_one (ps_ret pe_bl)))))), ?_⟩
    have hwat : ∀ i, i < ws.length → (wat ws i).length ≤ 1000 := fun i hi => hwa _ (List.mem_of_getElem? (M3.wat_getElem hi))
    refine q_asgD0 fun d nd => ?_
    have ex0 : Ex H (upd H d (.dK [])) := Ex.new nd
    refine q_forLn (a := l) (xs := ts.map tx) (ev_fld (ev_var rfl) (ex0 o _ ho) L_Tails.cl N_Tails_tails (look1 _ _)) (ex_l ex0 hl) (fun i σ' H' => ∃ kvs s3, Ex H H' ∧ H' d = some (.dK kvs) ∧ (∀ t, (valV kvs (.inr (S t))).isSome = decide (t ∈ ts.take i)) ∧ (∀ k ∈ kvs.map (·.1), ∃ t ∈ ts, k = .inr (S t)) ∧ kvs.length ≤ i ∧ σ' = [some (.ref o), some (.ref p), some (.ref d), s3, none, none, none])
      (fun H1 e1 => ⟨[], _, ex0.trans e1, e1 d _ upd_same, fun t => by simp [valV_nil], by simp, by simp, rfl⟩) (fun i σ' H' _ hP => by obtain ⟨_, _, e, _⟩ := hP; exact ex_l e hl) (fun i x σ' H' hi hP => ?_) (fun σ' H' hP => ?_)
    · obtain ⟨kvs, s3, ex, hd, hval, hks, hkl, rfl⟩ := hP
      have hil : i < ts.length := by
        have := (List.getElem?_eq_some_iff.mp hi).1
        rwa [List.length_map] at this
      have hti : ts[i]? = some ts[i] := List.getElem?_eq_getElem hil
      have hx : x = tx ts[i] := by
        rw [List.getElem?_map, hti] at hi
        exact (Option.some.inj hi).symm
      subst hx
      have hmem : ts[i] ∈ ts := List.getElem_mem hil
      have htk : ts.take (i + 1) = ts.take i ++ [ts[i]] := by rw [List.take_succ, hti]; rfl
      rw [htk]
      generalize ts[i] = t0 at *
      refine s_dput (kvs := kvs) (k := .inr (S t0)) (v := .bl true) hd ev_c (ev_var rfl) (ev_var rfl) (by omega) fun H1 e1 => ⟨putK kvs (.inr (S t0)) (.bl true), _, Ex.mut (ex.trans e1) nd, upd_same, fun t => ?_, fun k hk => ?_, ?_, rfl⟩
      · rw [valV_put]
        by_cases h : t = t0
        · subst h; rw [if_pos rfl]; simp
        · have : ¬ (Sum.inr (S t) : Key) = .inr (S t0) := fun e => h (S_inj (Sum.inr.inj e))
          rw [if_neg this, hval]
          simp [h]
      · unfold putK at hk
        split at hk
        · rw [List.map_map] at hk
          obtain ⟨kv, h1, h2⟩ := List.mem_map.mp hk
          have h3 : kv.1 = k := by
            rw [← h2]; show kv.1 = (if kv.1 = Sum.inr (S t0) then (kv.1, V.bl true) else kv).1
            split <;> rfl
          exact hks k (List.mem_map.mpr ⟨kv, h1, h3⟩)
        · rw [List.map_append] at hk
          rcases List.mem_append.mp hk with h | h
          · exact hks k h
          · exact ⟨t0, hmem, by simpa using h⟩
      · have := putK_len kvs (Sum.inr (S t0) : Key) (V.bl true)
        omega
    · obtain ⟨kvs, s3, ex, hd, hval, hks, hkl, rfl⟩ := hP
      rw [List.length_map] at hkl hval
      rw [List.take_length] at hval
      have hev : ([] : Wd) ∈ ts ↔ (valV kvs (.inr (S []))).isSome = true := by rw [hval]; simp
      refine q_when (b := decide ([] ∈ ts)) (et_B (ev_is (ev_din (k := .inr (S [])) (ev_is ev_cS (congrArg tx codes_nil)) (ev_var rfl) (.inl hd)) (by rw [hval]))) (fun h0 H1 e1 => ?_) (fun h0 H1 e1 => ?_)
      · have : tlV ws ts = false := by unfold tlV; rw [h0]; rfl
        rw [this] at k
        exact s_ret ev_c fun H2 e2 => k H2 ((ex.trans e1).trans e2)
      · have hsh : tlV ws ts = (List.range ws.length).all (tlA ws ts) := by unfold tlV; rw [h0]; rfl
        rw [hsh] at k
        have e9 : (((ws.map tx).length : Nat) : Int) = (ws.length : Int) := by rw [List.length_map]
        have hd1 := e1 d _ hd
        have ex1 := ex.trans e1
        have bad : ∀ i, i < ws.length → tlA ws ts i = false → ∀ H2, Ex H H2 → Q (.bl false) H2 := fun i hi hf H2 e2 => by
          have : (List.range ws.length).all (tlA ws ts) = false := by
            rw [List.all_eq_false]
            exact ⟨i, List.mem_range.mpr hi, by rw [hf]; decide⟩
          rw [this] at k
          exact k H2 e2
        refine q_forEnum (a := p) (xs := ws.map tx) (ev_var rfl) (ex_l ex1 hp) (fun i σ' H' => ∃ s3 s4 s5 s6, Ex H H' ∧ H' d = some (.dK kvs) ∧ (∀ i', i' < i → i' < ws.length → tlA ws ts i' = true) ∧ σ' = [some (.ref o), some (.ref p), some (.ref d), s3, s4, s5, s6])
          (fun H2 e2 => ⟨_, _, _, _, ex1.trans e2, e2 d _ hd1, fun i' h => by omega, rfl⟩) (fun i σ' H' hP => by obtain ⟨_, _, _, _, e, _⟩ := hP; exact ex_l e hp)
          (fun i σ' H' H'' hP e => by obtain ⟨s3, s4, s5, s6, h1, h2, h3, h4⟩ := hP; exact ⟨s3, s4, s5, s6, h1.trans e, e d _ h2, h3, h4⟩) (fun i x σ' H' hi hP => ?_) (fun σ' H' hP => ?_)
        · obtain ⟨s3, s4, s5, s6, ex2, hd2, hall, rfl⟩ := hP
          have hil : i < ws.length := by
            have := (List.getElem?_eq_some_iff.mp hi).1
            rwa [List.length_map] at this
          have hx : x = tx (wat ws i) := by
            rw [wat_get hil] at hi
            exact (Option.some.inj hi).symm
          subst hx
          have hwi := hwat i hil
          refine q_forR1 (n := (ws.length : Int)) (ea_cons (by rw [← e9]; exact ev_len' (ev_var rfl) (ex_l ex2 hp)) ea_nil) ⟨by omega, by omega⟩ (fun j σ' H2 => ∃ s6, Ex H H2 ∧ H2 d = some (.dK kvs) ∧ (∀ j', j' < j → j' < ws.length → tlB ws ts i j' = true) ∧ σ' = [some (.ref o), some (.ref p), some (.ref d), s3, some (nI i), some (tx (wat ws i)), s6])
            (fun H2 e2 => ⟨_, ex2.trans e2, e2 d _ hd2, fun j' h => by omega, rfl⟩) (fun j σ2 H2 hj hP => ?_) (fun σ2 H2 hP => ?_)
          · obtain ⟨s6, ex3, hd3, hin, rfl⟩ := hP
            have hjl : j < ws.length := by omega
            have hwj := hwat j hjl
            have gj : ∀ (σ : L2.St) (H3 : Hp), Ex H2 H3 → σ[1]? = some (some (.ref p)) → σ[6]? = some (some (nI j)) → Ev (tOp (rIxL K) (tVar 1) (tVar 6)) σ H3 (tx (wat ws j)) := fun σ H3 e3 h0 h4 =>
              ev_op (ev_var h0) (ev_var h4) (rv_ixL (ex_l (ex3.trans e3) hp) (atI_nat (wat_get hjl)))
            refine s_when (b := !decide (j = i) && (pre (wat ws i) (wat ws j) && !decide ((wat ws j).drop (wat ws i).length ∈ ts))) (et_and (et_is (et_test (ev_op (x := nI j) (y := nI i) (ev_var rfl) (ev_var rfl) rv_neI)) (by congr 1; by_cases h : j = i <;> simp [h]; omega)) fun _ => et_and (et_is (et_test (ev_call (vs := [tx (wat ws i), tx (wat ws j), .int ((0 : Nat) : Int)]) (ea_cons (ev_var rfl) (ea_cons (gj _ _ (Ex.refl _) rfl rfl) (ea_cons ev_c ea_nil))) (sv_stands (by omega) (by omega)))) (by unfold standsB; rw [List.drop_zero]))
              fun _ => et_B (ev_is (ev_dnotin (k := .inr (S ((wat ws j).drop (wat ws i).length))) (ev_is (ev_slS (lo := some ((wat ws i).length : Int)) (gj _ _ (Ex.refl _) rfl rfl) (eo_some (ev_lenS (ev_var rfl) (by omega))) eo_none (by omega)) (congrArg tx (cut_from _ _))) (ev_var rfl) (.inl hd3)) (by rw [hval]))) (fun hs H3 e3 => ?_) (fun hs H3 e3 => ?_)
            · refine s_ret ev_c fun H4 e4 => bad i hil ?_ H4 ((ex3.trans e3).trans e4)
              unfold tlA
              have : (List.range ws.length).all (tlB ws ts i) = false := by
                rw [List.all_eq_false]
                refine ⟨j, List.mem_range.mpr hjl, ?_⟩
                unfold tlB
                rw [Bool.and_assoc, hs]; decide
              rw [this]; rfl
            · refine ⟨_, ex3.trans e3, e3 d _ hd3, fun j' h1 h2 => ?_, rfl⟩
              rcases Nat.lt_or_ge j' j with hlt | hge
              · exact hin j' hlt h2
              · have : j' = j := by omega
                subst this
                unfold tlB
                rw [Bool.and_assoc, hs]; rfl
          · obtain ⟨s6, ex3, hd3, hin, rfl⟩ := hP
            have e0 : (ws.length : Int).toNat = ws.length := by omega
            rw [e0] at hin
            refine s_forKeys (d := d) (kvs := kvs) (i0 := 2) rfl hd3 (fun q σ' => ∃ s3, (∀ q' t, q' < q → (kvs.map (·.1))[q']? = some (.inr (S t)) → tlT ws ts i t = true) ∧ σ' = [some (.ref o), some (.ref p), some (.ref d), s3, some (nI i), some (tx (wat ws i)), s6])
              ⟨_, fun q' t h => by omega, rfl⟩ (fun q key σ' H4 D' hk hP hrd hexb hnx hrt => ?_) (fun σ' H4 e4 hP => ?_)
            · obtain ⟨s3, hq, rfl⟩ := hP
              obtain ⟨t, htm, rfl⟩ := hks key (List.mem_of_getElem? hk)
              have htl2 := hta t htm
              have bad2 : tlT ws ts i t = false → ∀ H5, Ex H2 H5 → Q (.bl false) H5 := fun hf H5 e5 => bad i hil (by
                unfold tlA
                have : ts.all (tlT ws ts i) = false := by
                  rw [List.all_eq_false]
                  exact ⟨t, htm, by rw [hf]; decide⟩
                rw [this, Bool.and_false]) H5 (ex3.trans e5)
              refine q_when (b := pre t (wat ws i) && !decide ((wat ws i).drop t.length ∈ ts)) (et_and (et_is (et_test (ev_call (vs := [tx t, tx (wat ws i), .int ((0 : Nat) : Int)]) (ea_cons (ev_var rfl) (ea_cons (ev_var rfl) (ea_cons ev_c ea_nil))) (sv_stands (by omega) (by omega)))) (by unfold standsB; rw [List.drop_zero]))
                fun _ => et_B (ev_is (ev_dnotin (k := .inr (S ((wat ws i).drop t.length))) (ev_is (ev_slS (a := wat ws i) (lo := some (t.length : Int)) (ev_var rfl) (eo_some (ev_lenS (a := t) (ev_var rfl) (by omega))) eo_none (by omega)) (congrArg tx (cut_from _ _))) (ev_var rfl) hrd) (by rw [hval]))) (fun hs H5 e5 => ?_) (fun hs H5 e5 => ?_)
              · refine s_ret ev_c fun H6 e6 => hrt _ H6 (e5.trans e6) fun H7 e7 => bad2 ?_ H7 e7
                unfold tlT
                rw [hs]; rfl
              · refine s_when (b := pre (wat ws i) t && !decide (t.drop (wat ws i).length ∈ ts)) (et_and (et_is (et_test (ev_call (vs := [tx (wat ws i), tx t, .int ((0 : Nat) : Int)]) (ea_cons (ev_var rfl) (ea_cons (ev_var rfl) (ea_cons ev_c ea_nil))) (sv_stands (by omega) (by omega)))) (by unfold standsB; rw [List.drop_zero]))
                  fun _ => et_B (ev_is (ev_dnotin (k := .inr (S (t.drop (wat ws i).length))) (ev_is (ev_slS (a := t) (lo := some ((wat ws i).length : Int)) (ev_var rfl) (eo_some (ev_lenS (a := wat ws i) (ev_var rfl) (by omega))) eo_none (by omega)) (congrArg tx (cut_from _ _))) (ev_var rfl) (ex_rd e5 hrd)) (by rw [hval]))) (fun hs2 H6 e6 => ?_) (fun hs2 H6 e6 => ?_)
                · refine s_ret ev_c fun H7 e7 => hrt _ H7 ((e5.trans e6).trans e7) fun H8 e8 => bad2 ?_ H8 e8
                  unfold tlT
                  rw [hs2, Bool.not_true, Bool.and_false]
                · refine hnx _ H6 (e5.trans e6) ⟨_, fun q' t' h1 h2 => ?_, rfl⟩
                  rcases Nat.lt_or_ge q' q with hlt | hge
                  · exact hq q' t' hlt h2
                  · have : q' = q := by omega
                    subst this
                    rw [hk] at h2
                    have : t = t' := S_inj (Sum.inr.inj (Option.some.inj h2))
                    subst this
                    unfold tlT
                    rw [hs, hs2]; rfl
            · obtain ⟨s3, hq, rfl⟩ := hP
              refine ⟨_, _, _, _, ex3.trans e4, e4 d _ hd3, fun i' h1 h2 => ?_, rfl⟩
              rcases Nat.lt_or_ge i' i with hlt | hge
              · exact hall i' hlt h2
              · have : i' = i := by omega
                subst this
                unfold tlA
                rw [Bool.and_eq_true, List.all_eq_true, List.all_eq_true]
                refine ⟨fun j hj => hin j (List.mem_range.mp hj) (List.mem_range.mp hj), fun t ht => ?_⟩
                have hv : (valV kvs (.inr (S t))).isSome = true := by rw [hval]; simp [ht]
                have hk : (Sum.inr (S t) : Key) ∈ kvs.map (·.1) := by
                  obtain ⟨v, hv⟩ := Option.isSome_iff_exists.mp hv
                  unfold valV at hv
                  cases hf : kvs.find? (fun kv => decide (kv.1 = Sum.inr (S t))) with
                  | none => rw [hf] at hv; cases hv
                  | some kv =>
                    have h3 := List.find?_some hf
                    have h4 := List.mem_of_find?_eq_some hf
                    exact List.mem_map.mpr ⟨kv, h4, of_decide_eq_true h3⟩
                obtain ⟨q', hq', he⟩ := List.getElem_of_mem hk
                refine hq q' t (by rw [List.length_map] at hq'; exact hq') ?_
                rw [List.getElem?_eq_getElem hq', he]
        · obtain ⟨s3, s4, s5, s6, ex2, hd2, hall, rfl⟩ := hP
          rw [List.length_map] at hall
          have : (List.range ws.length).all (tlA ws ts) = true := by
            rw [List.all_eq_true]
            intro i hi
            exact hall i (List.mem_range.mp hi) (List.mem_range.mp hi)
          rw [this] at k
          exact s_ret ev_c fun H3 e3 => k H3 (ex2.trans e3)
end
end Tr

set_option Elab.async false
set_option linter.all false
set_option maxRecDepth 100000
set_option maxHeartbeats 4000000
namespace Tr
open PySem PySem.Spec PyProof.Rows L2 Evl
open M3 (wat joinW pre)
abbrev s_first_tails : Stmt := topS 24
abbrev N_first_tails : List Str := ["code", "found", "place", "word", "other"]
theorem sc_first_tails : FnScope N_first_tails ["code"] (defScope s_first_tails) := ⟨rfl, rfl, rfl, by decide +kernel, rfl, by decide +kernel, by decide +kernel⟩
abbrev s_next_tails : Stmt := topS 25
abbrev N_next_tails : List Str := ["code", "told", "tail", "short", "long", "found", "place", "word"]
theorem sc_next_tails : FnScope N_next_tails ["code", "told"] (defScope s_next_tails) := ⟨rfl, rfl, rfl, by decide +kernel, rfl, by decide +kernel, by decide +kernel⟩
abbrev s_once : Stmt := topS 26
abbrev N_once : List Str := ["code", "waiting", "seen", "at", "tail", "short", "long"]
theorem sc_once : FnScope N_once ["code"] (defScope s_once) := ⟨rfl, rfl, rfl, by decide +kernel, rfl, by decide +kernel, by decide +kernel⟩
local macro_rules | `(tactic| walk_at "sd") => `(tactic| first | assumption | rfl | omega | decide | (solve_by_elim) | (refine Nat.le_trans (m := 1000) (by solve_by_elim) (by decide)))
local macro_rules | `(tactic| walk_at "rv") => `(tactic| first
  | exact rv_add | exact rv_sub | exact rv_lt | exact rv_le | exact rv_gt | exact rv_ge | exact rv_eqI | exact rv_eqS | exact rv_eqB | exact rv_neI | exact rv_neS | exact rv_neB
  | exact rv_mod (by walk_at "sd") | exact rv_fdiv (by first | assumption | exact ⟨by omega, by omega⟩) | exact rv_addS (by walk_at "sd") | exact rv_isB | exact rv_notB | assumption)
local macro_rules | `(tactic| walk_at "ea") => `(tactic| first
  | exact ea_nil
  | (refine' ea_cons ?k1 ?k2; (case k1 => walk_at "ev"); (case k2 => walk_at "ea")))
local macro_rules | `(tactic| walk_at "eo") => `(tactic| first
  | exact eo_none
  | (refine' eo_some ?k1; (case k1 => walk_at "ev")))
local macro_rules | `(tactic| walk_at "et") => `(tactic| first
  | (refine' et_test ?k1; (case k1 => walk_at "ev"))
  | (refine' et_B ?k1; (case k1 => walk_at "ev"))
  | (refine' et_and ?k1 ?k2; (case k1 => walk_at "et"); (case k2 => (intro _; walk_at "et")))
  | (refine' et_or ?k1 ?k2; (case k1 => walk_at "et"); (case k2 => (intro _; walk_at "et")))
  | (refine' et_not ?k1; (case k1 => walk_at "et"))
  | assumption)
local macro_rules | `(tactic| walk_at "ev") => `(tactic| first
  | assumption
  | exact ev_cS
  | exact ev_c
  | exact ev_var rfl
  | (refine' ev_op ?k1 ?k2 ?k3; (case k1 => walk_at "ev"); (case k2 => walk_at "ev"); (case k3 => walk_at "rv"))
  | (refine' ev_un ?k1 ru_neg; (case k1 => walk_at "ev"))
  | (refine' ev_chain ?k1 ?k2 ?k3 ?k4 ?k5; (case k1 => walk_at "ev"); (case k2 => walk_at "ev"); (case k3 => walk_at "ev"); (case k4 => walk_at "rv"); (case k5 => (intro _; walk_at "rv")))
  | (refine' ev_slS ?k1 ?k2 ?k3 ?k4; (case k1 => walk_at "ev"); (case k2 => walk_at "eo"); (case k3 => walk_at "eo"); (case k4 => walk_at "sd"))
  | (refine' ev_lenS ?k1 ?k2; (case k1 => walk_at "ev"); (case k2 => walk_at "sd"))
  | (refine' ev_len' ?k1 ?k2; (case k1 => walk_at "ev"); (case k2 => walk_at "sd"))
  | (refine' ev_strip ?k1 ?k2 ?k3; (case k1 => walk_at "ev"); (case k2 => walk_at "ev"); (case k3 => walk_at "sd"))
  | (refine' ev_sum ?k1 ?k2; (case k1 => walk_at "ev"); (case k2 => walk_at "sd"))
  | (refine' ev_isi ?k1 ?k2 ?k3 ?k4; (case k1 => walk_at "ev"); (case k2 => walk_at "ev"); (case k3 => first | exact ty_int | exact ty_bl | exact ty_str | exact ty_list (by walk_at "sd")); (case k4 => first | exact kit_ty (r := true) (by decide +kernel) | exact kit_ty (r := false) (by decide +kernel)))
  | (refine' ev_andV ?k1 ?k2; (case k1 => walk_at "ev"); (case k2 => (intro _; walk_at "ev")))
  | (refine' ev_orV ?k1 ?k2; (case k1 => walk_at "ev"); (case k2 => (intro _; walk_at "ev")))
  | (refine' ev_notV ?k1; (case k1 => walk_at "ev"))
  | (refine' ev_call ?k1 ?k2; (case k1 => walk_at "ea"); (case k2 => walk_at "sv")))
local macro_rules | `(tactic| walk_at "el") => `(tactic| first
  | assumption
  | (refine' el_mapB ?k1 ?k2 ?k3 (fun _ => rfl) ?k5; (case k1 => walk_at "ev"); (case k2 => walk_at "sd"); (case k3 => walk_at "sd"); (case k5 => (intro _ _; walk_at "ev")))
  | (refine' el_mapI ?k1 ?k2 ?k3 (fun _ => rfl) ?k5; (case k1 => walk_at "ev"); (case k2 => walk_at "sd"); (case k3 => walk_at "sd"); (case k5 => (intro _ _; walk_at "ev")))
  | (refine' el_mapS ?k1 ?k2 ?k3 (fun _ => rfl) ?k5; (case k1 => walk_at "ev"); (case k2 => walk_at "sd"); (case k3 => walk_at "sd"); (case k5 => (intro _ _; walk_at "ev"))))
local macro_rules | `(tactic| walk_at "ev") => `(tactic| first
  | (refine' ev_all ?k1; (case k1 => walk_at "el"))
  | (refine' ev_any ?k1; (case k1 => walk_at "el"))
  | (refine' ev_sumN ?k1; (case k1 => walk_at "el"))
  | (refine' ev_join ?k1 ?k2 ?k3; (case k1 => exact ev_is ev_cS (congrArg tx codes_nil)); (case k2 => walk_at "el"); (case k3 => walk_at "sd")))

local macro_rules | `(tactic| walk_at "sv") => `(tactic| first | exact sv_stands (by walk_at "sd") (by walk_at "sd") | exact sv_asked_code (by walk_at "sd"))

/-! ### two readings that begin unlike, the one's text ahead by a tail -/
abbrev Item := Wd × List Nat × List Nat
structure ItOk (ws : List Wd) (it : Item) : Prop where
  join : joinW ws it.2.1 ++ it.1 = joinW ws it.2.2
  r1 : ∀ p ∈ it.2.1, p < ws.length
  r2 : ∀ p ∈ it.2.2, p < ws.length
  un : ∃ x xs y ys, it.2.1 = x :: xs ∧ it.2.2 = y :: ys ∧ x ≠ y
  suf : ∃ a ∈ ws, ∃ k, 0 < k ∧ it.1 = a.drop k
theorem join_snoc (ws : List Wd) (xs : List Nat) (p : Nat) : joinW ws (xs ++ [p]) = joinW ws xs ++ wat ws p := by
  unfold joinW; simp
theorem itok_first {ws : List Wd} (hw : ∀ a ∈ ws, a ≠ []) {i j : Nat} (hi : i < ws.length) (hj : j < ws.length) (hij : j ≠ i) (hp : pre (wat ws i) (wat ws j) = true) : ItOk ws ((wat ws j).drop (wat ws i).length, [i], [j]) where
  join := by simp only [joinW, List.map_cons, List.map_nil, List.flatten_cons, List.flatten_nil, List.append_nil]; exact M3.pre_app hp
  r1 := by simp [hi]
  r2 := by simp [hj]
  un := ⟨i, [], j, [], rfl, rfl, Ne.symm hij⟩
  suf := ⟨wat ws j, List.mem_of_getElem? (M3.wat_getElem hj), _, M3.wat_ne hw hi, rfl⟩
theorem itok_fwd {ws : List Wd} {it : Item} (h : ItOk ws it) (hne : it.1 ≠ []) {i : Nat} (hi : i < ws.length) (hp : pre it.1 (wat ws i) = true) : ItOk ws ((wat ws i).drop it.1.length, it.2.2, it.2.1 ++ [i]) where
  join := by
    show joinW ws it.2.2 ++ _ = joinW ws (it.2.1 ++ [i])
    rw [join_snoc, ← h.join, List.append_assoc, M3.pre_app hp]
  r1 := h.r2
  r2 := fun p hp2 => by
    rcases List.mem_append.mp hp2 with h2 | h2
    · exact h.r1 p h2
    · rw [List.mem_singleton.mp h2]; exact hi
  un := by
    obtain ⟨x, xs, y, ys, e1, e2, hne⟩ := h.un
    exact ⟨y, ys, x, xs ++ [i], e2, by show it.2.1 ++ [i] = _; rw [e1]; rfl, Ne.symm hne⟩
  suf := ⟨wat ws i, List.mem_of_getElem? (M3.wat_getElem hi), _, List.length_pos_iff.mpr hne, rfl⟩
theorem itok_bwd {ws : List Wd} {it : Item} (h : ItOk ws it) {i : Nat} (hi : i < ws.length) (hp : pre (wat ws i) it.1 = true) : ItOk ws (it.1.drop (wat ws i).length, it.2.1 ++ [i], it.2.2) where
  join := by
    show joinW ws (it.2.1 ++ [i]) ++ _ = joinW ws it.2.2
    rw [join_snoc, ← h.join, List.append_assoc, M3.pre_app hp]
  r1 := fun p hp2 => by
    rcases List.mem_append.mp hp2 with h2 | h2
    · exact h.r1 p h2
    · rw [List.mem_singleton.mp h2]; exact hi
  r2 := h.r2
  un := by
    obtain ⟨x, xs, y, ys, e1, e2, hne⟩ := h.un
    exact ⟨x, xs ++ [i], y, ys, by show it.2.1 ++ [i] = _; rw [e1]; rfl, e2, hne⟩
  suf := by
    obtain ⟨a, ha, k, hk, e⟩ := h.suf
    exact ⟨a, ha, k + (wat ws i).length, by omega, by show it.1.drop _ = _; rw [e, List.drop_drop]⟩
/-! ### how they stand in the heap -/
def ItAt (H : Hp) (N : Addr → Prop) (v : V) (it : Item) : Prop := ∃ T s l, v = .ref T ∧ H T = some (.tup [tx it.1, .ref s, .ref l]) ∧ H s = some (.lst (it.2.1.map nI)) ∧ H l = some (.lst (it.2.2.map nI)) ∧ N s ∧ N l
def ItsAt (H : Hp) (N : Addr → Prop) (xs : List V) (its : List Item) : Prop := xs.length = its.length ∧ ∀ (i : Nat) (v : V) (it : Item), xs[i]? = some v → its[i]? = some it → ItAt H N v it
theorem ItAt.ex {H H' : Hp} {N : Addr → Prop} {v : V} {it : Item} (e : Ex H H') (h : ItAt H N v it) : ItAt H' N v it := by
  obtain ⟨T, s, l, h1, h2, h3, h4, h5, h6⟩ := h
  exact ⟨T, s, l, h1, e T _ h2, e s _ h3, e l _ h4, h5, h6⟩
theorem ItAt.upd {H : Hp} {N : Addr → Prop} {v : V} {it : Item} {z : Addr} {o : HO} (h : ItAt H N v it) (hz : ∀ xs, H z ≠ some (.tup xs)) (hN : ∀ a, N a → a ≠ z) : ItAt (upd H z o) N v it := by
  obtain ⟨T, s, l, h1, h2, h3, h4, h5, h6⟩ := h
  exact ⟨T, s, l, h1, by rw [upd_ne (fun e => hz _ (e ▸ h2))]; exact h2, by rw [upd_ne (hN s h5)]; exact h3, by rw [upd_ne (hN l h6)]; exact h4, h5, h6⟩
theorem ItAt.imp {H : Hp} {N N' : Addr → Prop} {v : V} {it : Item} (h : ItAt H N v it) (hN : ∀ a, N a → N' a) : ItAt H N' v it := by
  obtain ⟨T, s, l, h1, h2, h3, h4, h5, h6⟩ := h
  exact ⟨T, s, l, h1, h2, h3, h4, hN s h5, hN l h6⟩
theorem ItsAt.map {H H' : Hp} {N N' : Addr → Prop} {xs : List V} {its : List Item} (h : ItsAt H N xs its) (f : ∀ v it, ItAt H N v it → ItAt H' N' v it) : ItsAt H' N' xs its := ⟨h.1, fun i v it h1 h2 => f v it (h.2 i v it h1 h2)⟩
theorem ItsAt.snoc {H : Hp} {N : Addr → Prop} {xs : List V} {its : List Item} {v : V} {it : Item} (h : ItsAt H N xs its) (h2 : ItAt H N v it) : ItsAt H N (xs ++ [v]) (its ++ [it]) := by
  refine ⟨by rw [List.length_append, List.length_append, h.1]; rfl, fun i u jt hu hj => ?_⟩
  rcases Nat.lt_or_ge i xs.length with hi | hi
  · rw [List.getElem?_append_left hi] at hu
    rw [List.getElem?_append_left (h.1 ▸ hi)] at hj
    exact h.2 i u jt hu hj
  · have hi0 : i = xs.length := by
      have := (List.getElem?_eq_some_iff.mp hu).1
      rw [List.length_append, List.length_singleton] at this; omega
    subst hi0
    have e1 : (xs ++ [v])[xs.length]? = some v := by simp
    have e2 : (its ++ [it])[xs.length]? = some it := by rw [h.1]; simp
    rw [e1] at hu; rw [e2] at hj
    cases hu; cases hj
    exact h2
theorem ItsAt.app {H : Hp} {N : Addr → Prop} {xs ys : List V} {its jts : List Item} (h : ItsAt H N xs its) (h2 : ItsAt H N ys jts) : ItsAt H N (xs ++ ys) (its ++ jts) := by
  refine ⟨by rw [List.length_append, List.length_append, h.1, h2.1], fun i u jt hu hj => ?_⟩
  rcases Nat.lt_or_ge i xs.length with hi | hi
  · rw [List.getElem?_append_left hi] at hu
    rw [List.getElem?_append_left (h.1 ▸ hi)] at hj
    exact h.2 i u jt hu hj
  · rw [List.getElem?_append_right hi] at hu
    rw [List.getElem?_append_right (h.1 ▸ hi), ← h.1] at hj
    exact h2.2 _ u jt hu hj
theorem its_nil {H : Hp} {N : Addr → Prop} : ItsAt H N [] [] := ⟨rfl, fun i v it h => by simp at h⟩
section
variable {K : PySem.W.Frag} {σ : L2.St} {H H' : Hp} {ta tb tc to : TE} {x : V} {D : Ends} {tz : TS}
/-- a list at an address of which A tells, new or old -/
def EvR (te : TE) (σ : L2.St) (H : Hp) (A : Hp → Addr → Prop) (xs : List V) : Prop := ∀ H1, Ex H H1 → ∀ Q : VK, (∀ s H2, A H1 s → Ex H1 H2 → H2 s = some (.lst xs) → Q (.ref s) H2) → te σ H1 Q
theorem er_new {xs : List V} (h : EvL ta σ H xs) : EvR ta σ H (fun H1 s => H1 s = none) xs := fun H1 e Q q => h H1 e Q fun p H2 np e2 h2 => q p H2 np e2 h2
theorem er_old {xs : List V} {s : Addr} (h : Ev ta σ H (.ref s)) (hs : H s = some (.lst xs)) : EvR ta σ H (fun _ a => a = s) xs := fun H1 e Q q => h H1 e _ fun H2 e2 => q s H2 rfl e2 ((e.trans e2) s _ hs)
/-- xs.append((a, [..], [..])) -/
theorem s_app3 {l0 : Addr} {xs ys zs : List V} {A B : Hp → Addr → Prop} (hl : H l0 = some (.lst xs)) (ho : Ev to σ H (.ref l0)) (ha : Ev ta σ H x) (hb : EvR tb σ H A ys) (hc : EvR tc σ H B zs) (hz : xs.length < 100000)
    (k : ∀ T s l H1, H T = none → Ex H H1 → H1 T = some (.tup [x, .ref s, .ref l]) → H1 s = some (.lst ys) → H1 l = some (.lst zs) → (∃ Ha, Ex H Ha ∧ A Ha s) → (∃ Hb, Ex H Hb ∧ B Hb l) → D.nx σ (upd H1 l0 (.lst (xs ++ [.ref T])))) :
    tDrop (tBM K "list" rAppend to (tCons (tTup (tCons ta (tCons tb (tCons tc tNil)))) tNil)) D σ H := ho H (Ex.refl H) _ fun H1 e1 =>
  ⟨Or.inl ⟨rfl, xs, sq_of (e1 l0 _ hl)⟩, ha H1 e1 _ fun H2 e2 => hb H2 (e1.trans e2) _ fun s H3 as e3 h3 => hc H3 ((e1.trans e2).trans e3) _ fun l H4 bl e4 h4 => ⟨sz_of (by simp), fun T nT =>
    have e04 := ((e1.trans e2).trans e3).trans e4
    ⟨l0, xs, .ref T, rfl, rfl, (Ex.new nT) l0 _ (e04 l0 _ hl), sz_lt hz, k T s l _ (fresh_back e04 nT) (e04.trans (Ex.new nT)) upd_same ((Ex.new nT) s _ (e4 s _ h3)) ((Ex.new nT) l _ h4) ⟨H2, e1.trans e2, as⟩ ⟨H3, (e1.trans e2).trans e3, bl⟩⟩⟩⟩
end
section
variable {P : Program} {w : World} {K : PySem.W.Frag} {mg : Str → Option Value} {base : Heap} {H : Hp}
/-! ### first_tails -/
structure FirstOk (ws : List Wd) (its : List Item) : Prop where
  ok : ∀ it ∈ its, ItOk ws it ∧ it.2.1.length + it.2.2.length ≤ 2
  all : ∀ i j, i < ws.length → j < ws.length → i ≠ j → pre (wat ws i) (wat ws j) = true → ∃ it ∈ its, it.1 = (wat ws j).drop (wat ws i).length
  len : its.length ≤ ws.length * ws.length
def spFirst (K : PySem.W.Frag) : Sp := fun vs H Q _ => ∃ (p : Addr) (ws : List Wd), vs = [.ref p] ∧ CodeAt K H p ws ∧ ws.length ≤ 63 ∧
  ∀ (l : Addr) (H' : Hp) (xs : List V) (its : List Item), H l = none → Ex H H' → H' l = some (.lst xs) → ItsAt H' (fun a => a ≠ l) xs its → FirstOk ws its → Q (.ref l) H'
theorem ok_first_tails (D : DefAt K mg "first_tails" s_first_tails ["code"]) (T : Blt mg) (C_stands : Cal P w K mg base 1 "stands" spStands) : Cal P w K mg base 2 "first_tails" (spFirst K) := by
  refine cal_of D sc_first_tails (fun vs H Q E h => ?_) (fun f cdv A outer s H vs Q E hr h => ?_)
  · obtain ⟨p, ws, rfl, _⟩ := h; rfl
  · obtain ⟨p, ws, rfl, hc, hw, k⟩ := h
    refine ⟨_, (pss_cons (ps_set (i := 1) sc_first_tails.nd rfl (.inl rfl) (pe_lst pa_nil))
      (pss_cons (ps_for PassesOwn.never rfl (pi_enumK (K := K) rfl (by rfl) T.enumerate (pa_cons (pv 0) pa_nil)) (pg_tupK (K := K) (n := 2) rfl rfl (pgs_cons (pg_name (i := 2) sc_first_tails.nd rfl (.inl rfl)) (pgs_cons (pg_name (i := 3) sc_first_tails.nd rfl (.inl rfl)) pgs_nil))) (pss_one (ps_for PassesOwn.never rfl (pi_range1 (by rfl) T.range (pa_cons (pe_callB (call_len_seqK (K := K) rfl) (by rfl) T.len (by decide +kernel) (pa_cons (pv 0) pa_nil)) pa_nil)) (pg_name (i := 4) sc_first_tails.nd rfl (.inl rfl)) (pss_one (ps_if (PW.pt (pw_and (pt_cmpR op_ne (pv 4) (pv 2) (nomark _)) (pw_and1 (pt_val (pe_c C_stands hr (by decide) (by rfl) (pa_cons (pv 3) (pa_cons (pe_ix (ix_listK (K := K) rfl) (pv 0) (pv 4) (fun _ _ => rfl)) (pa_cons pe_int pa_nil)))))))) (pss_one (ps_expr (pe_bm PySem.F.plainAttrs_list PySem.F.slot_list_append PySem.F.type_list_append mt_append (pv 1) (pa_cons (pe_tup (pa_cons (pe_slice sl_str (pe_ix (ix_listK (K := K) rfl) (pv 0) (pv 4) (fun _ _ => rfl)) (po_some (pe_callB call_len_str (by rfl) T.len (by decide +kernel) (pa_cons (pv 3) pa_nil))) po_none) (pa_cons (pe_lst (pa_cons (pv 2) pa_nil)) (pa_cons (pe_lst (pa_cons (pv 4) pa_nil)) pa_nil)))) pa_nil)))) pss_nil)))))
      (pss_one (ps_ret (pv 1))))), ?_⟩
    have hb : ∀ a, a ∈ ws → a.length ≤ 1000 := fun a ha => (hc.ok a ha).2.2
    have hne : ∀ a ∈ ws, a ≠ [] := fun a ha => (hc.ok a ha).1
    refine q_asgL el_lst0 fun fq H1 nf e1 hf => ?_
    refine q_forEnum (a := p) (xs := ws.map tx) (ev_var rfl) (ex_l e1 hc.sq) (fun i σ' H' => ∃ xs its s2 s3 s4, Ex H H' ∧ H' fq = some (.lst xs) ∧ ItsAt H' (fun a => a ≠ fq) xs its ∧ (∀ it ∈ its, ItOk ws it ∧ it.2.1.length + it.2.2.length ≤ 2) ∧ its.length ≤ i * ws.length ∧
        (∀ i' j, i' < i → i' < ws.length → j < ws.length → i' ≠ j → pre (wat ws i') (wat ws j) = true → ∃ it ∈ its, it.1 = (wat ws j).drop (wat ws i').length) ∧ σ' = [some (.ref p), some (.ref fq), s2, s3, s4])
      (fun H2 e2 => ⟨[], [], _, _, _, e1.trans e2, e2 fq _ hf, its_nil, by simp, by simp, fun i' j h => by omega, rfl⟩) (fun i σ' H' hP => by obtain ⟨_, _, _, _, _, e, _⟩ := hP; exact ex_l e hc.sq)
      (fun i σ' H' H'' hP e => by obtain ⟨xs, its, s2, s3, s4, h1, h2, h3, h4, h5, h6, h7⟩ := hP; exact ⟨xs, its, s2, s3, s4, h1.trans e, e fq _ h2, h3.map fun _ _ h => h.ex e, h4, h5, h6, h7⟩) (fun i x σ' H' hi hP => ?_) (fun σ' H' hP => ?_)
    · obtain ⟨xs, its, s2, s3, s4, ex, hfq, hits, hok, hlen, hall, rfl⟩ := hP
      have hil : i < ws.length := by
        have := (List.getElem?_eq_some_iff.mp hi).1
        rwa [List.length_map] at this
      have hx : x = tx (wat ws i) := by
        rw [wat_get hil] at hi
        exact (Option.some.inj hi).symm
      subst hx
      have hwm : wat ws i ∈ ws := List.mem_of_getElem? (M3.wat_getElem hil)
      have hwl := hb _ hwm
      have e9 : (((ws.map tx).length : Nat) : Int) = (ws.length : Int) := by rw [List.length_map]
      refine s_forR1 (n := (ws.length : Int)) (ea_cons (by rw [← e9]; exact ev_len' (ev_var rfl) (hc.ex ex).sq) ea_nil) ⟨by omega, by omega⟩ (fun j σ' H2 => ∃ xs its s4, Ex H H2 ∧ H2 fq = some (.lst xs) ∧ ItsAt H2 (fun a => a ≠ fq) xs its ∧ (∀ it ∈ its, ItOk ws it ∧ it.2.1.length + it.2.2.length ≤ 2) ∧ its.length ≤ i * ws.length + j ∧
          (∀ i' j, i' < i → i' < ws.length → j < ws.length → i' ≠ j → pre (wat ws i') (wat ws j) = true → ∃ it ∈ its, it.1 = (wat ws j).drop (wat ws i').length) ∧
          (∀ j', j' < j → j' < ws.length → i ≠ j' → pre (wat ws i) (wat ws j') = true → ∃ it ∈ its, it.1 = (wat ws j').drop (wat ws i).length) ∧ σ' = [some (.ref p), some (.ref fq), some (nI i), some (tx (wat ws i)), s4])
        (fun H2 e2 => ⟨xs, its, _, ex.trans e2, e2 fq _ hfq, hits.map fun _ _ h => h.ex e2, hok, by omega, hall, fun j' h => by omega, rfl⟩) (fun j σ2 H2 hj hP => ?_) (fun σ2 H2 hP => ?_)
      · obtain ⟨xs, its, s4, ex2, hfq2, hits2, hok2, hlen2, hall2, hin2, rfl⟩ := hP
        have hjl : j < ws.length := by omega
        have hvm : wat ws j ∈ ws := List.mem_of_getElem? (M3.wat_getElem hjl)
        have hvl := hb _ hvm
        have hxl := hits2.1
        have hsq : i * ws.length + j < 4000 := by
          have : i * ws.length ≤ 62 * 63 := Nat.mul_le_mul (by omega) hw
          omega
        have gj : ∀ (σ : L2.St) (H3 : Hp), Ex H2 H3 → σ[0]? = some (some (.ref p)) → σ[4]? = some (some (nI j)) → Ev (tOp (rIxL K) (tVar 0) (tVar 4)) σ H3 (tx (wat ws j)) := fun σ H3 e3 h0 h4 =>
          ev_op (ev_var h0) (ev_var h4) (rv_ixL ((hc.ex ex2).ex e3).sq (atI_nat (wat_get hjl)))
        refine s_when (b := !decide (j = i) && standsB (wat ws i) (wat ws j) 0) (et_and (et_is (et_test (ev_op (x := nI j) (y := nI i) (ev_var rfl) (ev_var rfl) rv_neI)) (by congr 1; by_cases h : j = i <;> simp [h]; omega)) fun _ => et_test (ev_call (vs := [tx (wat ws i), tx (wat ws j), .int ((0 : Nat) : Int)]) (ea_cons (ev_var rfl) (ea_cons (gj _ _ (Ex.refl _) rfl rfl) (ea_cons ev_c ea_nil))) (sv_stands (by omega) (by omega)))) (fun hs H3 e3 => ?_) (fun hs H3 e3 => ?_)
        · rw [Bool.and_eq_true] at hs
          have hji : j ≠ i := by simpa using hs.1
          have hp : pre (wat ws i) (wat ws j) = true := by have := hs.2; unfold standsB at this; rwa [List.drop_zero] at this
          refine s_app3 (l0 := fq) (xs := xs) (x := tx ((wat ws j).drop (wat ws i).length)) (ys := [nI i]) (zs := [nI j]) (e3 fq _ hfq2) (ev_var rfl) (ev_is (ev_slS (lo := some ((wat ws i).length : Int)) (gj _ _ e3 rfl rfl) (eo_some (ev_lenS (ev_var rfl) (by omega))) eo_none (by omega)) (congrArg tx (cut_from _ _)))
            (er_new (el_lst (ea_cons (ev_var rfl) ea_nil) (by simp))) (er_new (el_lst (ea_cons (ev_var rfl) ea_nil) (by simp))) (by omega) fun T s l H4 nT e4 hT hs4 hl4 hA hB => ?_
          obtain ⟨Ha, ea, na⟩ := hA
          obtain ⟨Hb, eb, nb⟩ := hB
          have ns : H3 s = none := fresh_back ea na
          have nl : H3 l = none := fresh_back eb nb
          have hsq : s ≠ fq := fun z => by rw [z, e3 fq _ hfq2] at ns; cases ns
          have hlq : l ≠ fq := fun z => by rw [z, e3 fq _ hfq2] at nl; cases nl
          have hfq4 := (e3.trans e4) fq _ hfq2
          have hnt : ∀ us, H4 fq ≠ some (.tup us) := fun us z => by rw [hfq4] at z; cases z
          refine ⟨xs ++ [.ref T], its ++ [((wat ws j).drop (wat ws i).length, [i], [j])], _, Ex.mut ((ex2.trans e3).trans e4) nf, upd_same, ?_, fun it hit => ?_, by rw [List.length_append, List.length_singleton]; omega, fun i' j' h1 h2 h3 h4 h5 => ?_, fun j' h1 h2 h3 h4 => ?_, rfl⟩
          · refine ((hits2.map fun _ _ h => h.ex (e3.trans e4)).map fun _ _ h => h.upd hnt (fun _ h => h)).snoc ?_
            exact ItAt.upd ⟨T, s, l, rfl, hT, hs4, hl4, hsq, hlq⟩ hnt (fun _ h => h)
          · rcases List.mem_append.mp hit with h | h
            · exact hok2 it h
            · rw [List.mem_singleton.mp h]
              exact ⟨itok_first hne hil hjl hji hp, Nat.le_refl _⟩
          · obtain ⟨it, h6, h7⟩ := hall2 i' j' h1 h2 h3 h4 h5
            exact ⟨it, List.mem_append_left _ h6, h7⟩
          · rcases Nat.lt_or_ge j' j with hlt | hge
            · obtain ⟨it, h6, h7⟩ := hin2 j' hlt h2 h3 h4
              exact ⟨it, List.mem_append_left _ h6, h7⟩
            · have : j' = j := by omega
              subst this
              exact ⟨_, List.mem_append_right _ (List.mem_singleton.mpr rfl), rfl⟩
        · refine ⟨xs, its, _, ex2.trans e3, e3 fq _ hfq2, hits2.map fun _ _ h => h.ex e3, hok2, by omega, hall2, fun j' h1 h2 h3 h4 => ?_, rfl⟩
          rcases Nat.lt_or_ge j' j with hlt | hge
          · exact hin2 j' hlt h2 h3 h4
          · have : j' = j := by omega
            subst this
            exfalso
            have h5 : standsB (wat ws i) (wat ws j') 0 = true := by unfold standsB; rw [List.drop_zero]; exact h4
            rw [h5, decide_eq_false (Ne.symm h3)] at hs
            cases hs
      · obtain ⟨xs, its, s4, ex2, hfq2, hits2, hok2, hlen2, hall2, hin2, rfl⟩ := hP
        have e0 : (ws.length : Int).toNat = ws.length := by omega
        rw [e0] at hlen2 hin2
        refine ⟨xs, its, _, _, _, ex2, hfq2, hits2, hok2, by rw [Nat.succ_mul]; exact hlen2, fun i' j h1 h2 h3 h4 h5 => ?_, rfl⟩
        rcases Nat.lt_or_ge i' i with hlt | hge
        · exact hall2 i' j hlt h2 h3 h4 h5
        · have : i' = i := by omega
          subst this
          exact hin2 j h3 h3 h4 h5
    · obtain ⟨xs, its, s2, s3, s4, ex, hfq, hits, hok, hlen, hall, rfl⟩ := hP
      rw [List.length_map] at hlen hall
      refine s_ret (ev_var rfl) fun H2 e2 => ?_
      exact k fq H2 xs its nf (ex.trans e2) (e2 fq _ hfq) (hits.map fun _ _ h => h.ex e2) ⟨hok, fun i j h1 h2 h3 h4 => hall i j h1 h1 h2 h3 h4, hlen⟩
/-! ### next_tails -/
structure NextOk (ws : List Wd) (it : Item) (its : List Item) : Prop where
  ok : ∀ jt ∈ its, ItOk ws jt ∧ jt.2.1.length + jt.2.2.length ≤ it.2.1.length + it.2.2.length + 1
  fwd : ∀ i, i < ws.length → pre it.1 (wat ws i) = true → ∃ jt ∈ its, jt.1 = (wat ws i).drop it.1.length
  bwd : ∀ i, i < ws.length → pre (wat ws i) it.1 = true → ∃ jt ∈ its, jt.1 = it.1.drop (wat ws i).length
  len : its.length ≤ ws.length
theorem pre_both {a b : Wd} (h1 : pre a b = true) (h2 : pre b a = true) : b.drop a.length = a.drop b.length := by
  have l1 := M3.pre_len h1
  have l2 := M3.pre_len h2
  rw [List.drop_eq_nil_of_le (by omega), List.drop_eq_nil_of_le (by omega)]
def spNext (K : PySem.W.Frag) : Sp := fun vs H Q _ => ∃ (p T0 s0 l0 : Addr) (ws : List Wd) (it : Item), vs = [.ref p, .ref T0] ∧ CodeAt K H p ws ∧ H T0 = some (.tup [tx it.1, .ref s0, .ref l0]) ∧ H s0 = some (.lst (it.2.1.map nI)) ∧ H l0 = some (.lst (it.2.2.map nI)) ∧
  ItOk ws it ∧ it.1 ≠ [] ∧ it.1.length ≤ 1000 ∧ it.2.1.length ≤ 1000 ∧
  ∀ (l : Addr) (H' : Hp) (xs : List V) (its : List Item), H l = none → Ex H H' → H' l = some (.lst xs) → ItsAt H' (fun a => a ≠ l ∧ (a = s0 ∨ a = l0 ∨ H a = none)) xs its → NextOk ws it its → Q (.ref l) H'
theorem ok_next_tails (D : DefAt K mg "next_tails" s_next_tails ["code", "told"]) (T : Blt mg) (C_stands : Cal P w K mg base 1 "stands" spStands) : Cal P w K mg base 2 "next_tails" (spNext K) := by
  refine cal_of D sc_next_tails (fun vs H Q E h => ?_) (fun f cdv A outer s H vs Q E hr h => ?_)
  · obtain ⟨p, T0, s0, l0, ws, it, rfl, _⟩ := h; rfl
  · obtain ⟨p, T0, s0, l0, ws, ⟨t, sh, lo⟩, rfl, hc, hT0, hs0, hl0, hok0, htn, htl, hshl, k⟩ := h
    dsimp only at hT0 hs0 hl0 htn htl hshl
    refine ⟨_, (pss_cons (ps_asg (pv 1) (pg_tupK (K := K) (n := 3) rfl rfl (pgs_cons (pg_name (i := 2) sc_next_tails.nd rfl (.inl rfl)) (pgs_cons (pg_name (i := 3) sc_next_tails.nd rfl (.inl rfl)) (pgs_cons (pg_name (i := 4) sc_next_tails.nd rfl (.inl rfl)) pgs_nil)))))
      (pss_cons (ps_set (i := 5) sc_next_tails.nd rfl (.inl rfl) (pe_lst pa_nil))
      (pss_cons (ps_for PassesOwn.never rfl (pi_enumK (K := K) rfl (by rfl) T.enumerate (pa_cons (pv 0) pa_nil)) (pg_tupK (K := K) (n := 2) rfl rfl (pgs_cons (pg_name (i := 6) sc_next_tails.nd rfl (.inl rfl)) (pgs_cons (pg_name (i := 7) sc_next_tails.nd rfl (.inl rfl)) pgs_nil))) (pss_one (ps_if (pt_val (pe_c C_stands hr (by decide) (by rfl) (pa_cons (pv 2) (pa_cons (pv 7) (pa_cons pe_int pa_nil))))) (pss_one (ps_expr (pe_bm PySem.F.plainAttrs_list PySem.F.slot_list_append PySem.F.type_list_append mt_append (pv 5) (pa_cons (pe_tup (pa_cons (pe_slice sl_str (pv 7) (po_some (pe_callB call_len_str (by rfl) T.len (by decide +kernel) (pa_cons (pv 2) pa_nil))) po_none) (pa_cons (pv 4) (pa_cons (pe_op op_cat (pv 3) (pe_lst (pa_cons (pv 6) pa_nil))) pa_nil)))) pa_nil)))) (pss_one (ps_if (pt_val (pe_c C_stands hr (by decide) (by rfl) (pa_cons (pv 7) (pa_cons (pv 2) (pa_cons pe_int pa_nil))))) (pss_one (ps_expr (pe_bm PySem.F.plainAttrs_list PySem.F.slot_list_append PySem.F.type_list_append mt_append (pv 5) (pa_cons (pe_tup (pa_cons (pe_slice sl_str (pv 2) (po_some (pe_callB call_len_str (by rfl) T.len (by decide +kernel) (pa_cons (pv 7) pa_nil))) po_none) (pa_cons (pe_op op_cat (pv 3) (pe_lst (pa_cons (pv 6) pa_nil))) (pa_cons (pv 4) pa_nil)))) pa_nil)))) pss_nil)))))
      (pss_one (ps_ret (pv 5)))))), ?_⟩
    have hb : ∀ a, a ∈ ws → a.length ≤ 1000 := fun a ha => (hc.ok a ha).2.2
    have hne : ∀ a ∈ ws, a ≠ [] := fun a ha => (hc.ok a ha).1
    refine q_tup3 (T := T0) (ev_var rfl) hT0 fun H1 e1 => ?_
    refine q_asgL el_lst0 fun fq H2 nf1 e2 hf => ?_
    have nf : H fq = none := fresh_back e1 nf1
    have ex2 := e1.trans e2
    refine q_forEnum (a := p) (xs := ws.map tx) (ev_var rfl) (ex_l ex2 hc.sq) (fun i σ' H' => ∃ xs its s6 s7, Ex H H' ∧ H' fq = some (.lst xs) ∧ ItsAt H' (fun a => a ≠ fq ∧ (a = s0 ∨ a = l0 ∨ H a = none)) xs its ∧ (∀ jt ∈ its, ItOk ws jt ∧ jt.2.1.length + jt.2.2.length ≤ sh.length + lo.length + 1) ∧ its.length ≤ i ∧
        (∀ j, j < i → j < ws.length → pre t (wat ws j) = true → ∃ jt ∈ its, jt.1 = (wat ws j).drop t.length) ∧ (∀ j, j < i → j < ws.length → pre (wat ws j) t = true → ∃ jt ∈ its, jt.1 = t.drop (wat ws j).length) ∧
        σ' = [some (.ref p), some (.ref T0), some (tx t), some (.ref s0), some (.ref l0), some (.ref fq), s6, s7])
      (fun H3 e3 => ⟨[], [], _, _, ex2.trans e3, e3 fq _ hf, its_nil, by simp, by simp, fun j h => by omega, fun j h => by omega, rfl⟩) (fun i σ' H' hP => by obtain ⟨_, _, _, _, e, _⟩ := hP; exact ex_l e hc.sq)
      (fun i σ' H' H'' hP e => by obtain ⟨xs, its, s6, s7, h1, h2, h3, h4, h5, h6, h7, h8⟩ := hP; exact ⟨xs, its, s6, s7, h1.trans e, e fq _ h2, h3.map fun _ _ h => h.ex e, h4, h5, h6, h7, h8⟩) (fun i x σ' H' hi hP => ?_) (fun σ' H' hP => ?_)
    · obtain ⟨xs, its, s6, s7, ex, hfq, hits, hok, hlen, hfw, hbw, rfl⟩ := hP
      have hil : i < ws.length := by
        have := (List.getElem?_eq_some_iff.mp hi).1
        rwa [List.length_map] at this
      have hx : x = tx (wat ws i) := by
        rw [wat_get hil] at hi
        exact (Option.some.inj hi).symm
      subst hx
      have hwm : wat ws i ∈ ws := List.mem_of_getElem? (M3.wat_getElem hil)
      have hwl := hb _ hwm
      have hws := hc.len
      have hxl := hits.1
      have hsf : s0 ≠ fq := fun z => by rw [← z, hs0] at nf; cases nf
      have hlf : l0 ≠ fq := fun z => by rw [← z, hl0] at nf; cases nf
      have ecat : (sh ++ [i]).map nI = sh.map nI ++ [nI i] := by rw [List.map_append]; rfl
      -- one item more
      have more : ∀ (H3 H4 : Hp) (T s l : Addr) (jt : Item), Ex H' H3 → Ex H3 H4 → H4 T = some (.tup [tx jt.1, .ref s, .ref l]) → H4 s = some (.lst (jt.2.1.map nI)) → H4 l = some (.lst (jt.2.2.map nI)) → (s = s0 ∨ s = l0 ∨ H3 s = none) → (l = s0 ∨ l = l0 ∨ H3 l = none) →
          ItsAt (upd H4 fq (.lst (xs ++ [.ref T]))) (fun a => a ≠ fq ∧ (a = s0 ∨ a = l0 ∨ H a = none)) (xs ++ [.ref T]) (its ++ [jt]) := fun H3 H4 T s l jt e3 e4 hT hs hl hA hB => by
        have hfq4 := (e3.trans e4) fq _ hfq
        have hnt : ∀ us, H4 fq ≠ some (.tup us) := fun us z => by rw [hfq4] at z; cases z
        have conv : ∀ a, (a = s0 ∨ a = l0 ∨ H3 a = none) → a ≠ fq ∧ (a = s0 ∨ a = l0 ∨ H a = none) := fun a ha => by
          rcases ha with rfl | rfl | ha
          · exact ⟨hsf, .inl rfl⟩
          · exact ⟨hlf, .inr (.inl rfl)⟩
          · exact ⟨fun z => (by rw [z, e3 fq _ hfq] at ha; cases ha), .inr (.inr (fresh_back (ex.trans e3) ha))⟩
        exact ((hits.map fun _ _ h => h.ex (e3.trans e4)).map fun _ _ h => h.upd hnt (fun _ h => h.1)).snoc (ItAt.upd ⟨T, s, l, rfl, hT, hs, hl, conv s hA, conv l hB⟩ hnt (fun _ h => h.1))
      refine s_if (b := standsB t (wat ws i) 0) (et_test (ev_call (vs := [tx t, tx (wat ws i), .int ((0 : Nat) : Int)]) (ea_cons (ev_var rfl) (ea_cons (ev_var rfl) (ea_cons ev_c ea_nil))) (sv_stands (by omega) (by omega)))) (fun hs H3 e3 => ?_) (fun hs H3 e3 => ?_)
      · have hp : pre t (wat ws i) = true := by unfold standsB at hs; rwa [List.drop_zero] at hs
        refine s_app3 (l0 := fq) (xs := xs) (x := tx ((wat ws i).drop t.length)) (ys := lo.map nI) (zs := sh.map nI ++ [nI i]) (e3 fq _ hfq) (ev_var rfl) (ev_is (ev_slS (lo := some (t.length : Int)) (ev_var rfl) (eo_some (ev_lenS (ev_var rfl) (by omega))) eo_none (by omega)) (congrArg tx (cut_from _ _)))
          (er_old (ev_var rfl) ((ex.trans e3) l0 _ hl0)) (er_new (el_cat (ev_var rfl) ((ex.trans e3) s0 _ hs0) (el_lst (ea_cons (ev_var rfl) ea_nil) (by simp)) (by rw [List.length_map]; simp; omega))) (by omega) fun T s l H4 nT e4 hT hs4 hl4 hA hB => ?_
        obtain ⟨Ha, ea, na⟩ := hA
        obtain ⟨Hb, eb, nb⟩ := hB
        have nl : H3 l = none := fresh_back eb nb
        refine ⟨xs ++ [.ref T], its ++ [((wat ws i).drop t.length, lo, sh ++ [i])], _, _, Ex.mut ((ex.trans e3).trans e4) nf, upd_same, more H3 H4 T s l ((wat ws i).drop t.length, lo, sh ++ [i]) e3 e4 hT hs4 (by rw [ecat]; exact hl4) (.inr (.inl na)) (.inr (.inr nl)), fun jt hjt => ?_, by rw [List.length_append, List.length_singleton]; omega, fun j h1 h2 h3 => ?_, fun j h1 h2 h3 => ?_, rfl⟩
        · rcases List.mem_append.mp hjt with h | h
          · exact hok jt h
          · rw [List.mem_singleton.mp h]
            refine ⟨itok_fwd hok0 htn hil hp, ?_⟩
            show lo.length + (sh ++ [i]).length ≤ _
            rw [List.length_append, List.length_singleton]; omega
        · rcases Nat.lt_or_ge j i with hlt | hge
          · obtain ⟨jt, h4, h5⟩ := hfw j hlt h2 h3
            exact ⟨jt, List.mem_append_left _ h4, h5⟩
          · have : j = i := by omega
            subst this
            exact ⟨_, List.mem_append_right _ (List.mem_singleton.mpr rfl), rfl⟩
        · rcases Nat.lt_or_ge j i with hlt | hge
          · obtain ⟨jt, h4, h5⟩ := hbw j hlt h2 h3
            exact ⟨jt, List.mem_append_left _ h4, h5⟩
          · have : j = i := by omega
            subst this
            exact ⟨_, List.mem_append_right _ (List.mem_singleton.mpr rfl), pre_both hp h3⟩
      · have hnp : ¬ pre t (wat ws i) = true := by unfold standsB at hs; rw [List.drop_zero] at hs; rw [hs]; decide
        refine s_if (b := standsB (wat ws i) t 0) (et_test (ev_call (vs := [tx (wat ws i), tx t, .int ((0 : Nat) : Int)]) (ea_cons (ev_var rfl) (ea_cons (ev_var rfl) (ea_cons ev_c ea_nil))) (sv_stands (by omega) (by omega)))) (fun hs2 H5 e5 => ?_) (fun hs2 H5 e5 => ?_)
        · have hp : pre (wat ws i) t = true := by unfold standsB at hs2; rwa [List.drop_zero] at hs2
          have e35 := e3.trans e5
          refine s_app3 (l0 := fq) (xs := xs) (x := tx (t.drop (wat ws i).length)) (ys := sh.map nI ++ [nI i]) (zs := lo.map nI) (e35 fq _ hfq) (ev_var rfl) (ev_is (ev_slS (lo := some ((wat ws i).length : Int)) (ev_var rfl) (eo_some (ev_lenS (ev_var rfl) (by omega))) eo_none (by omega)) (congrArg tx (cut_from _ _)))
            (er_new (el_cat (ev_var rfl) ((ex.trans e35) s0 _ hs0) (el_lst (ea_cons (ev_var rfl) ea_nil) (by simp)) (by rw [List.length_map]; simp; omega))) (er_old (ev_var rfl) ((ex.trans e35) l0 _ hl0)) (by omega) fun T s l H4 nT e4 hT hs4 hl4 hA hB => ?_
          obtain ⟨Ha, ea, na⟩ := hA
          obtain ⟨Hb, eb, nb⟩ := hB
          have ns : H5 s = none := fresh_back ea na
          refine ⟨xs ++ [.ref T], its ++ [(t.drop (wat ws i).length, sh ++ [i], lo)], _, _, Ex.mut ((ex.trans e35).trans e4) nf, upd_same, more H5 H4 T s l (t.drop (wat ws i).length, sh ++ [i], lo) e35 e4 hT (by rw [ecat]; exact hs4) hl4 (.inr (.inr ns)) (.inr (.inl nb)), fun jt hjt => ?_, by rw [List.length_append, List.length_singleton]; omega, fun j h1 h2 h3 => ?_, fun j h1 h2 h3 => ?_, rfl⟩
          · rcases List.mem_append.mp hjt with h | h
            · exact hok jt h
            · rw [List.mem_singleton.mp h]
              refine ⟨itok_bwd hok0 hil hp, ?_⟩
              show (sh ++ [i]).length + lo.length ≤ _
              rw [List.length_append, List.length_singleton]; omega
          · rcases Nat.lt_or_ge j i with hlt | hge
            · obtain ⟨jt, h4, h5⟩ := hfw j hlt h2 h3
              exact ⟨jt, List.mem_append_left _ h4, h5⟩
            · have : j = i := by omega
              subst this
              exact absurd h3 hnp
          · rcases Nat.lt_or_ge j i with hlt | hge
            · obtain ⟨jt, h4, h5⟩ := hbw j hlt h2 h3
              exact ⟨jt, List.mem_append_left _ h4, h5⟩
            · have : j = i := by omega
              subst this
              exact ⟨_, List.mem_append_right _ (List.mem_singleton.mpr rfl), rfl⟩
        · have hnp2 : ¬ pre (wat ws i) t = true := by unfold standsB at hs2; rw [List.drop_zero] at hs2; rw [hs2]; decide
          have e35 := e3.trans e5
          refine ⟨xs, its, _, _, ex.trans e35, e35 fq _ hfq, hits.map fun _ _ h => h.ex e35, hok, by omega, fun j h1 h2 h3 => ?_, fun j h1 h2 h3 => ?_, rfl⟩
          · rcases Nat.lt_or_ge j i with hlt | hge
            · exact hfw j hlt h2 h3
            · have : j = i := by omega
              subst this
              exact absurd h3 hnp
          · rcases Nat.lt_or_ge j i with hlt | hge
            · exact hbw j hlt h2 h3
            · have : j = i := by omega
              subst this
              exact absurd h3 hnp2
    · obtain ⟨xs, its, s6, s7, ex, hfq, hits, hok, hlen, hfw, hbw, rfl⟩ := hP
      rw [List.length_map] at hlen hfw hbw
      refine s_ret (ev_var rfl) fun H2 e2 => ?_
      exact k fq H2 xs its nf (ex.trans e2) (e2 fq _ hfq) (hits.map fun _ _ h => h.ex e2) ⟨hok, fun i h1 h2 => hfw i h1 h1 h2, fun i h1 h2 => hbw i h1 h1 h2, hlen⟩
end
end Tr

set_option Elab.async false
set_option linter.all false
set_option maxRecDepth 100000
set_option maxHeartbeats 4000000
namespace Tr
open PySem PySem.Spec PyProof.Rows L2 Evl
open M3 (wat joinW pre)
local macro_rules | `(tactic| walk_at "sd") => `(tactic| first | assumption | rfl | omega | decide | (solve_by_elim) | (refine Nat.le_trans (m := 1000) (by solve_by_elim) (by decide)))
local macro_rules | `(tactic| walk_at "rv") => `(tactic| first
  | exact rv_add | exact rv_sub | exact rv_lt | exact rv_le | exact rv_gt | exact rv_ge | exact rv_eqI | exact rv_eqS | exact rv_eqB | exact rv_neI | exact rv_neS | exact rv_neB
  | exact rv_mod (by walk_at "sd") | exact rv_fdiv (by first | assumption | exact ⟨by omega, by omega⟩) | exact rv_addS (by walk_at "sd") | exact rv_isB | exact rv_notB | assumption)
local macro_rules | `(tactic| walk_at "ea") => `(tactic| first
  | exact ea_nil
  | (refine' ea_cons ?k1 ?k2; (case k1 => walk_at "ev"); (case k2 => walk_at "ea")))
local macro_rules | `(tactic| walk_at "eo") => `(tactic| first
  | exact eo_none
  | (refine' eo_some ?k1; (case k1 => walk_at "ev")))
local macro_rules | `(tactic| walk_at "et") => `(tactic| first
  | (refine' et_test ?k1; (case k1 => walk_at "ev"))
  | (refine' et_B ?k1; (case k1 => walk_at "ev"))
  | (refine' et_and ?k1 ?k2; (case k1 => walk_at "et"); (case k2 => (intro _; walk_at "et")))
  | (refine' et_or ?k1 ?k2; (case k1 => walk_at "et"); (case k2 => (intro _; walk_at "et")))
  | (refine' et_not ?k1; (case k1 => walk_at "et"))
  | assumption)
local macro_rules | `(tactic| walk_at "ev") => `(tactic| first
  | assumption
  | exact ev_cS
  | exact ev_c
  | exact ev_var rfl
  | (refine' ev_op ?k1 ?k2 ?k3; (case k1 => walk_at "ev"); (case k2 => walk_at "ev"); (case k3 => walk_at "rv"))
  | (refine' ev_un ?k1 ru_neg; (case k1 => walk_at "ev"))
  | (refine' ev_chain ?k1 ?k2 ?k3 ?k4 ?k5; (case k1 => walk_at "ev"); (case k2 => walk_at "ev"); (case k3 => walk_at "ev"); (case k4 => walk_at "rv"); (case k5 => (intro _; walk_at "rv")))
  | (refine' ev_slS ?k1 ?k2 ?k3 ?k4; (case k1 => walk_at "ev"); (case k2 => walk_at "eo"); (case k3 => walk_at "eo"); (case k4 => walk_at "sd"))
  | (refine' ev_lenS ?k1 ?k2; (case k1 => walk_at "ev"); (case k2 => walk_at "sd"))
  | (refine' ev_len' ?k1 ?k2; (case k1 => walk_at "ev"); (case k2 => walk_at "sd"))
  | (refine' ev_strip ?k1 ?k2 ?k3; (case k1 => walk_at "ev"); (case k2 => walk_at "ev"); (case k3 => walk_at "sd"))
  | (refine' ev_sum ?k1 ?k2; (case k1 => walk_at "ev"); (case k2 => walk_at "sd"))
  | (refine' ev_isi ?k1 ?k2 ?k3 ?k4; (case k1 => walk_at "ev"); (case k2 => walk_at "ev"); (case k3 => first | exact ty_int | exact ty_bl | exact ty_str | exact ty_list (by walk_at "sd")); (case k4 => first | exact kit_ty (r := true) (by decide +kernel) | exact kit_ty (r := false) (by decide +kernel)))
  | (refine' ev_andV ?k1 ?k2; (case k1 => walk_at "ev"); (case k2 => (intro _; walk_at "ev")))
  | (refine' ev_orV ?k1 ?k2; (case k1 => walk_at "ev"); (case k2 => (intro _; walk_at "ev")))
  | (refine' ev_notV ?k1; (case k1 => walk_at "ev"))
  | (refine' ev_call ?k1 ?k2; (case k1 => walk_at "ea"); (case k2 => walk_at "sv")))
local macro_rules | `(tactic| walk_at "el") => `(tactic| first
  | assumption
  | (refine' el_mapB ?k1 ?k2 ?k3 (fun _ => rfl) ?k5; (case k1 => walk_at "ev"); (case k2 => walk_at "sd"); (case k3 => walk_at "sd"); (case k5 => (intro _ _; walk_at "ev")))
  | (refine' el_mapI ?k1 ?k2 ?k3 (fun _ => rfl) ?k5; (case k1 => walk_at "ev"); (case k2 => walk_at "sd"); (case k3 => walk_at "sd"); (case k5 => (intro _ _; walk_at "ev")))
  | (refine' el_mapS ?k1 ?k2 ?k3 (fun _ => rfl) ?k5; (case k1 => walk_at "ev"); (case k2 => walk_at "sd"); (case k3 => walk_at "sd"); (case k5 => (intro _ _; walk_at "ev"))))
local macro_rules | `(tactic| walk_at "ev") => `(tactic| first
  | (refine' ev_all ?k1; (case k1 => walk_at "el"))
  | (refine' ev_any ?k1; (case k1 => walk_at "el"))
  | (refine' ev_sumN ?k1; (case k1 => walk_at "el"))
  | (refine' ev_join ?k1 ?k2 ?k3; (case k1 => exact ev_is ev_cS (congrArg tx codes_nil)); (case k2 => walk_at "el"); (case k3 => walk_at "sd")))

local macro_rules | `(tactic| walk_at "sv") => `(tactic| first | exact sv_asked_code (by walk_at "sd"))
/-- few suffixes -/
def SufOk (ws : List Wd) : Prop := ∃ S : List Wd, S.length ≤ 63 ∧ ∀ a ∈ ws, ∀ k, 0 < k → a.drop k ≠ [] → a.drop k ∈ S
/-- what the search keeps -/
structure OnceI (ws S : List Wd) (its : List Item) (ts : List Wd) (at' : Nat) : Prop where
  ok : ∀ it ∈ its, ItOk ws it ∧ it.2.1.length + it.2.2.length ≤ 2 + ts.length
  first : ∀ i j, i < ws.length → j < ws.length → i ≠ j → pre (wat ws i) (wat ws j) = true → ∃ it ∈ its, it.1 = (wat ws j).drop (wat ws i).length
  nd : ts.Nodup
  sub : ∀ t ∈ ts, t ≠ [] ∧ t ∈ S ∧ t.length ≤ 1000
  done : ∀ q, q < at' → ∀ it, its[q]? = some it → it.1 ∈ ts
  fwd : ∀ t ∈ ts, ∀ i, i < ws.length → pre t (wat ws i) = true → ∃ it ∈ its, it.1 = (wat ws i).drop t.length
  bwd : ∀ t ∈ ts, ∀ i, i < ws.length → pre (wat ws i) t = true → ∃ it ∈ its, it.1 = t.drop (wat ws i).length
  len : its.length ≤ 3969 + 63 * ts.length
theorem OnceI.tl {ws S : List Wd} {its : List Item} {ts : List Wd} {n : Nat} (h : OnceI ws S its ts n) (hS : S.length ≤ 63) : ts.length ≤ 63 := Nat.le_trans (M1.len_sub ts S h.nd fun t ht => (h.sub t ht).2.1) hS
theorem OnceI.cl {ws S : List Wd} {its : List Item} {ts : List Wd} (h : OnceI ws S its ts its.length) : M1.Cl ws (· ∈ ts) := by
  have all : ∀ it ∈ its, it.1 ∈ ts := fun it hit => by
    obtain ⟨q, hq, he⟩ := List.getElem_of_mem hit
    exact h.done q hq it (by rw [List.getElem?_eq_getElem hq, he])
  refine ⟨fun h0 => (h.sub [] h0).1 rfl, fun i j h1 h2 h3 h4 => ?_, fun t ht i h1 h2 => ?_, fun t ht i h1 h2 => ?_⟩
  · obtain ⟨it, h5, h6⟩ := h.first i j h1 h2 h3 h4
    rw [← h6]; exact all it h5
  · obtain ⟨it, h5, h6⟩ := h.fwd t ht i h1 h2
    rw [← h6]; exact all it h5
  · obtain ⟨it, h5, h6⟩ := h.bwd t ht i h1 h2
    rw [← h6]; exact all it h5
theorem cl_imp {ws : List Wd} {T U : Wd → Prop} (h : M1.Cl ws T) (e : ∀ t, T t ↔ U t) : M1.Cl ws U :=
  ⟨fun h0 => h.ne ((e _).mpr h0), fun i j h1 h2 h3 h4 => (e _).mp (h.first i j h1 h2 h3 h4), fun t ht i h1 h2 => (e _).mp (h.fwd t ((e _).mpr ht) i h1 h2), fun t ht i h1 h2 => (e _).mp (h.bwd t ((e _).mpr ht) i h1 h2)⟩
theorem clash_of {ws : List Wd} {it : Item} (h : ItOk ws it) (h0 : it.1 = []) : clV ws (List.map (fun n : Nat => (n : Int)) it.2.1) (List.map (fun n : Nat => (n : Int)) it.2.2) = true := by
  unfold clV
  have back : ∀ ns : List Nat, (List.map (fun n : Nat => (n : Int)) ns).map Int.toNat = ns := fun ns => by
    rw [List.map_map]
    have : (Int.toNat ∘ fun n : Nat => (n : Int)) = id := by funext n; simp
    rw [this, List.map_id]
  have hj := h.join
  rw [h0, List.append_nil] at hj
  rw [inR_of h.r1, inR_of h.r2, back, back, hj]
  obtain ⟨x, xs, y, ys, e1, e2, hne⟩ := h.un
  have : ¬ (List.map (fun n : Nat => (n : Int)) it.2.1 = List.map (fun n : Nat => (n : Int)) it.2.2) := fun e => by
    rw [e1, e2] at e
    simp only [List.map_cons] at e
    have := (List.cons.inj e).1
    omega
  rw [decide_eq_false this]
  simp
section
variable {K : PySem.W.Frag} {σ : L2.St} {H H' : Hp} {ta tb te to t1 t2 : TE} {x : V} {D : Ends} {tz : TS}
theorem s_extX {l0 : Addr} {xs : List V} (hl : H l0 = some (.lst xs)) (ho : Ev to σ H (.ref l0)) (k : ∀ H1, Ex H H1 → te σ H1 fun v H2 => rExtend (.ref l0) [v] H2 fun _ H3 => D.nx σ H3) :
    tDrop (tBM K "list" rExtend to (tCons te tNil)) D σ H := ho H (Ex.refl H) _ fun H1 e1 => ⟨Or.inl ⟨rfl, xs, sq_of (e1 l0 _ hl)⟩, k H1 e1⟩
theorem call2U {sp : Sp} {E : XK} {Q : VK} {ys : List V} (h1 : Ev t1 σ H x) (h2 : EvU t2 σ H ys) (hs : ∀ T H1, H T = none → Ex H H1 → H1 T = some (.tup ys) → sp [x, .ref T] H1 Q E) : tCall sp [] E (tCons t1 (tCons t2 tNil)) σ H Q :=
  h1 H (Ex.refl H) _ fun H2 e2 => h2 H2 e2 _ fun T H3 nT e3 hT => hs T H3 (fresh_back e2 nT) (e2.trans e3) hT
theorem eqx_sortedD {d : Addr} {ts : List Wd} (h : Ev te σ H (.ref d)) (hd : H d = some (.dK (ts.map fun t => ((.inr (S t) : Key), V.bl true)))) (hn : ts.length ≤ 63) :
    EvQX K (tCB (fun xs H Q => ∃ (a : Addr) (kvs : List (Key × V)) (ks : List Str), xs = [.ref a] ∧ Rd H a (.dK kvs) ∧ kvs.map (·.1) = ks.map Sum.inr ∧ ks.length < 64 ∧ ∀ ys p, ys.Perm ks → sortedS ys = true → H p = none → Q (.ref p) (upd H p (.lst (ys.map V.str)))) (tCons te tNil)) σ H
      (fun vs => ∃ us : List Wd, vs = us.map tx ∧ us.Perm ts) := fun H1 e Q q =>
  h H1 e _ fun H2 e2 => ⟨d, _, ts.map S, rfl, .inl ((e.trans e2) d _ hd), by rw [List.map_map, List.map_map]; rfl, by rw [List.length_map]; omega, fun ys p hp _ np => by
    have hus : (ys.map codes).map tx = ys.map V.str := by
      rw [List.map_map]
      apply List.map_congr_left
      intro y _
      show V.str (S (codes y)) = V.str y
      rw [S_codes]
    refine q p _ _ ⟨ys.map codes, rfl, ?_⟩ (e2.trans (Ex.new np)) (sq_of (by rw [upd_same, hus]))
    have h1 := hp.map codes
    rw [List.map_map] at h1
    have h2 : (codes ∘ S) = id := by funext a; exact codes_S a
    rw [h2, List.map_id] at h1
    exact h1⟩
end
section
variable {P : Program} {w : World} {K : PySem.W.Frag} {mg : Str → Option Value} {base : Heap} {H : Hp}
def spOnce (K : PySem.W.Frag) (aCl aTl : Addr) : Sp := fun vs H Q _ => ∃ (p : Addr) (ws : List Wd), vs = [.ref p] ∧ CodeAt K H p ws ∧ ws.length ≤ 63 ∧ SufOk ws ∧
  (∀ (o dx l m : Addr) (H' : Hp) (xs ys : List Int), H o = none → H l = none → H m = none → l ≠ o → m ≠ o → l ≠ m → Ex H H' → H' o = some (.ins aCl dx [("one", .ref l), ("other", .ref m)]) → H' l = some (.lst (xs.map V.int)) → H' m = some (.lst (ys.map V.int)) → clV ws xs ys = true → xs.length ≤ 200 → ys.length ≤ 200 → Q (.ref o) H') ∧
  (∀ (o dx l : Addr) (H' : Hp) (ts : List Wd), H o = none → H l = none → l ≠ o → Ex H H' → H' o = some (.ins aTl dx [("tails", .ref l)]) → H' l = some (.lst (ts.map tx)) → M1.Cl ws (· ∈ ts) → ts.length ≤ 63 → (∀ t ∈ ts, t.length ≤ 1000) → Q (.ref o) H')
theorem ok_once {aCl aTl : Addr} (D : DefAt K mg "once" s_once ["code"]) (T : Blt mg) (C_asked_code : Cal P w K mg base 2 "asked_code" (spAskedCode K)) (C_first_tails : Cal P w K mg base 2 "first_tails" (spFirst K)) (C_next_tails : Cal P w K mg base 2 "next_tails" (spNext K))
    (K_Clash : MkAt P w K mg base 1 "Clash" aCl (spIni2 K aCl "one" "other")) (K_Tails : MkAt P w K mg base 1 "Tails" aTl (spIni1 K aTl "tails")) : Cal P w K mg base 3 "once" (spOnce K aCl aTl) := by
  refine cal_of D sc_once (fun vs H Q E h => ?_) (fun f cdv A outer s H vs Q E hr h => ?_)
  · obtain ⟨p, ws, rfl, _⟩ := h; rfl
  · obtain ⟨p, ws, rfl, hc, hw, ⟨S0, hS0, hsuf⟩, k1, k2⟩ := h
    refine ⟨_, (pss_cons (ps_expr (pe_c C_asked_code hr (by decide) (by rfl) (pa_cons (pv 0) pa_nil)))
      (pss_cons (ps_set (i := 1) sc_once.nd rfl (.inl rfl) (pe_c C_first_tails hr (by decide) (by rfl) (pa_cons (pv 0) pa_nil)))
      (pss_cons (ps_set (i := 2) sc_once.nd rfl (.inl rfl) pe_dnewK)
      (pss_cons (ps_set (i := 3) sc_once.nd rfl (.inl rfl) pe_int)
      (pss_cons (ps_while PassesOwn.never (pt_cmpR op_lt (pv 3) (pe_callB (call_len_seqK (K := K) rfl) (by rfl) T.len (by decide +kernel) (pa_cons (pv 1) pa_nil)) (nomark _)) (pss_cons (ps_asg (pe_ix (ix_listK (K := K) rfl) (pv 1) (pv 3) (fun _ _ => rfl)) (pg_tupK (K := K) (n := 3) rfl rfl (pgs_cons (pg_name (i := 4) sc_once.nd rfl (.inl rfl)) (pgs_cons (pg_name (i := 5) sc_once.nd rfl (.inl rfl)) (pgs_cons (pg_name (i := 6) sc_once.nd rfl (.inl rfl)) pgs_nil)))))
      (pss_cons (ps_set (i := 3) sc_once.nd rfl (.inl rfl) (pe_op op_add (pv 3) pe_int))
      (pss_cons (ps_if (pt_cmpR op_eq (pv 4) pe_str (nomark _)) (pss_one (ps_ret (pe_mk K_Clash hr (by decide) (by rfl) (pa_cons (pv 5) (pa_cons (pv 6) pa_nil))))) pss_nil)
      (pss_one (ps_if (pt_cmp (pc_dnotin (hu_of hr) (pv 4) (pv 2))) (pss_cons (ps_dput (hu_of hr) (pv 2) (pv 4) pe_bl rfl)
      (pss_one (ps_expr (pe_bm PySem.F.plainAttrs_list PySem.F.slot_list_extend PySem.F.type_list_extend mt_extend (pv 1) (pa_cons (pe_c C_next_tails hr (by decide) (by rfl) (pa_cons (pv 0) (pa_cons (pe_tup (pa_cons (pv 4) (pa_cons (pv 5) (pa_cons (pv 6) pa_nil)))) pa_nil))) pa_nil))))) pss_nil))))))
      (pss_one (ps_ret (pe_mk K_Tails hr (by decide) (by rfl) (pa_cons (pe_callB (call_sortedD rfl) (by rfl) T.sorted (by decide +kernel) (pa_cons (pv 2) pa_nil)) pa_nil))))))))), ?_⟩
    refine q_drop (v := .non) (by walk_at "ev") fun H1 e1 => ?_
    have hc1 := hc.ex e1
    refine q_asgX (call_run (vs := [.ref p]) (by walk_at "ea") fun H2 e2 => ⟨p, ws, rfl, hc1.ex e2, hw, fun z H3 xs0 its0 nz e3 hz hits0 hF => ?_⟩)
    have ex3 := (e1.trans e2).trans e3
    have nz0 : H z = none := fresh_back (e1.trans e2) nz
    refine q_asgD0 fun d nd => ?_
    have ex4 : Ex H (upd H3 d (.dK [])) := ex3.trans (Ex.new nd)
    have nd0 : H d = none := fresh_back ex3 nd
    have hzd : z ≠ d := fun e => by rw [e, nd] at hz; cases hz
    refine q_asg (v := .int 0) ev_c fun H5 e5 => ?_
    have hwl : ∀ i, i < ws.length → (wat ws i).length ≤ 1000 := fun i hi => (hc.ok _ (List.mem_of_getElem? (M3.wat_getElem hi))).2.2
    refine q_while (fun m σ' H' => ∃ (at' : Nat) (xs : List V) (its : List Item) (ts : List Wd) (s4 s5 s6 : Option V), σ' = [some (.ref p), some (.ref z), some (.ref d), some (nI at'), s4, s5, s6] ∧ Ex H H' ∧ H' z = some (.lst xs) ∧ ItsAt H' (fun a => a ≠ z) xs its ∧ H' d = some (.dK (ts.map fun t => ((.inr (S t) : Key), V.bl true))) ∧
        at' ≤ its.length ∧ OnceI ws S0 its ts at' ∧ at' + m = its.length + 64 * (63 - ts.length)) (its0.length + 64 * 63)
      ⟨0, xs0, its0, [], _, _, _, rfl, ex4.trans e5, e5 z _ (by rw [upd_ne hzd]; exact hz), ((hits0.map fun _ _ h => h.ex (Ex.new nd)).map fun _ _ h => h.ex e5), e5 d _ upd_same, by omega, ⟨fun it hit => hF.ok it hit, hF.all, by simp, by simp, fun q hq => by omega, by simp, by simp, by
        have h1 := hF.len
        have h2 : ws.length * ws.length ≤ 63 * 63 := Nat.mul_le_mul hw hw
        simp; omega⟩, by simp⟩ fun m σ' H' hW => ?_
    obtain ⟨at', xs, its, ts, s4, s5, s6, rfl, ex, hzx, hits, hdk, hat, hI, hm⟩ := hW
    have htl := hI.tl hS0
    have hlen := hI.len
    have hxl := hits.1
    refine ⟨_, et_test (ev_op (ev_var rfl) (ev_len' (ev_var rfl) (sq_of hzx)) rv_lt), fun hlt H6 e6 => ?_, fun hge H6 e6 => ?_⟩
    · have hlt' : at' < its.length := by have := of_decide_eq_true hlt; omega
      have hia : its[at']? = some its[at'] := List.getElem?_eq_getElem hlt'
      have hxa : xs[at']? = some (xs[at']'(by omega)) := List.getElem?_eq_getElem (by omega)
      have hItm := hits.2 at' _ _ hxa hia
      have hmem := List.mem_of_getElem? hia
      generalize xs[at']'(by omega) = v0 at *
      generalize its[at'] = it at *
      obtain ⟨T0, sa, la, rfl, hT, hs, hl, hsz, hlz⟩ := hItm
      obtain ⟨hok, hlens⟩ := hI.ok it hmem
      refine ⟨fun σ2 H2 => ∃ m', m' < m ∧ ∃ (at' : Nat) (xs : List V) (its : List Item) (ts : List Wd) (s4 s5 s6 : Option V), σ2 = [some (.ref p), some (.ref z), some (.ref d), some (nI at'), s4, s5, s6] ∧ Ex H H2 ∧ H2 z = some (.lst xs) ∧ ItsAt H2 (fun a => a ≠ z) xs its ∧ H2 d = some (.dK (ts.map fun t => ((.inr (S t) : Key), V.bl true))) ∧
        at' ≤ its.length ∧ OnceI ws S0 its ts at' ∧ at' + m' = its.length + 64 * (63 - ts.length), fun σ2 H2 hN => hN, ?_⟩
      refine q_tup3 (T := T0) (ev_op (ev_var rfl) (ev_var rfl) (rv_ixL (sq_of (e6 z _ hzx)) (atI_nat hxa))) (e6 T0 _ hT) fun H7 e7 => ?_
      have e8 : (at' : Int) + 1 = ((at' + 1 : Nat) : Int) := by omega
      refine q_asg (v := nI (at' + 1)) (ev_is (ev_op (ev_var rfl) ev_c rv_add) (congrArg V.int e8)) fun H8 e8' => ?_
      have ex68 := (e6.trans e7).trans e8'
      refine q_when (b := decide (it.1 = codes "")) (et_test (ev_op (x := tx it.1) (ev_var rfl) ev_cS rv_eqS)) (fun h0 H9 e9 => ?_) (fun h0 H9 e9 => ?_)
      · have h0' : it.1 = [] := by rw [codes_nil] at h0; exact of_decide_eq_true h0
        have ex9 := ex68.trans e9
        refine s_retB2 (eb2_make (a := sa) (b := la) (xs := it.2.1.map nI) (ys := it.2.2.map nI) (ev_var rfl) (sq_of (ex9 sa _ hs)) (ev_var rfl) (sq_of (ex9 la _ hl))) fun o dx l m2 H10 no nl nm hlo hmo hlm e10 ho hl10 hm10 => ?_
        have ex10 := ex.trans ex9
        have hni : ∀ ns : List Nat, ns.map nI = (List.map (fun n : Nat => (n : Int)) ns).map V.int := fun ns => by rw [List.map_map]; rfl
        exact k1 o dx l m2 H10 _ _ (fresh_back ex10 no) (fresh_back ex10 nl) (fresh_back ex10 nm) hlo hmo hlm (ex10.trans e10) ho (by rw [hl10, hni]) (by rw [hm10, hni]) (clash_of hok h0') (by rw [List.length_map]; omega) (by rw [List.length_map]; omega)
      · have h0' : it.1 ≠ [] := by rw [codes_nil] at h0; exact of_decide_eq_false h0
        have hval : ∀ t : Wd, (valV (ts.map fun t => ((.inr (S t) : Key), V.bl true)) (.inr (S t))).isSome = decide (t ∈ ts) := fun t => by
          rw [← valV_any, List.any_map]
          by_cases h : t ∈ ts
          · rw [decide_eq_true h, List.any_eq_true]
            exact ⟨t, h, by simp⟩
          · rw [decide_eq_false h, List.any_eq_false]
            intro u hu
            have hne : ¬ u = t := fun e => h (e ▸ hu)
            have : ¬ (Sum.inr (S u) : Key) = .inr (S t) := fun e => hne (S_inj (Sum.inr.inj e))
            show ¬ decide ((Sum.inr (S u) : Key) = .inr (S t)) = true
            rw [decide_eq_false this]; decide
        have ex9 := ex68.trans e9
        refine s_when (b := !decide (it.1 ∈ ts)) (et_B (ev_is (ev_dnotin (k := .inr (S it.1)) (ev_var rfl) (ev_var rfl) (.inl (ex9 d _ hdk))) (by rw [hval]))) (fun hnew H10 e10 => ?_) (fun hold H10 e10 => ?_)
        · have hnew' : it.1 ∉ ts := by simpa using hnew
          have ex10 := ex9.trans e10
          obtain ⟨a, ha, k0, hk0, hsu⟩ := hok.suf
          have htlen : it.1.length ≤ 1000 := by
            have := (hc.ok a ha).2.2
            rw [hsu, List.length_drop]; omega
          have hin : it.1 ∈ S0 := by rw [hsu]; exact hsuf a ha k0 hk0 (by rw [← hsu]; exact h0')
          have htl63 : (ts ++ [it.1]).length ≤ 63 := by
            refine Nat.le_trans (M1.len_sub _ S0 ?_ fun t ht => ?_) hS0
            · rw [List.nodup_append]
              refine ⟨hI.nd, by simp, fun u hu y hy e => ?_⟩
              rw [List.mem_singleton.mp hy] at e
              exact hnew' (e ▸ hu)
            · rcases List.mem_append.mp ht with h | h
              · exact (hI.sub t h).2.1
              · rw [List.mem_singleton.mp h]; exact hin
          rw [List.length_append, List.length_singleton] at htl63
          have hvn : valV (ts.map fun t => ((.inr (S t) : Key), V.bl true)) (.inr (S it.1)) = none := by
            have := hval it.1
            rw [decide_eq_false hnew'] at this
            cases hv : valV (ts.map fun t => ((.inr (S t) : Key), V.bl true)) (.inr (S it.1)) with
            | none => rfl
            | some v => rw [hv] at this; cases this
          refine q_dput (kvs := ts.map fun t => ((.inr (S t) : Key), V.bl true)) (k := .inr (S it.1)) (v := .bl true) (ex10 d _ hdk) ev_c (ev_var rfl) (ev_var rfl) (by rw [List.length_map]; omega) fun H11 e11 => ?_
          have hput : putK (ts.map fun t => ((.inr (S t) : Key), V.bl true)) (.inr (S it.1)) (.bl true) = (ts ++ [it.1]).map fun t => ((.inr (S t) : Key), V.bl true) := by
            rw [putK_new _ hvn, List.map_append]; rfl
          rw [hput]
          generalize hH12 : upd H11 d (.dK ((ts ++ [it.1]).map fun t => ((.inr (S t) : Key), V.bl true))) = H12
          have ex11 := ex10.trans e11
          have keep : ∀ b u, b ≠ d → H' b = some u → H12 b = some u := fun b u hb hu => by rw [← hH12, upd_ne hb]; exact ex11 b u hu
          have exH12 : Ex H H12 := by rw [← hH12]; exact Ex.mut (ex.trans ex11) nd0
          have hd12 : H12 d = some (.dK ((ts ++ [it.1]).map fun t => ((.inr (S t) : Key), V.bl true))) := by rw [← hH12]; exact upd_same
          have ne_d : ∀ b u, H' b = some u → (∀ kvs, u ≠ .dK kvs) → b ≠ d := fun b u hb hu e => by rw [e, hdk] at hb; exact hu _ (Option.some.inj hb).symm
          have hz12 := keep z _ hzd hzx
          have hits12 : ItsAt H12 (fun a => a ≠ z) xs its := hits.map fun v jt h => by
            obtain ⟨T1, s1, l1, q1, q2, q3, q4, q5, q6⟩ := h
            exact ⟨T1, s1, l1, q1, keep T1 _ (ne_d T1 _ q2 (fun _ e => by cases e)) q2, keep s1 _ (ne_d s1 _ q3 (fun _ e => by cases e)) q3, keep l1 _ (ne_d l1 _ q4 (fun _ e => by cases e)) q4, q5, q6⟩
          have hs12 := keep sa _ (ne_d sa _ hs (fun _ e => by cases e)) hs
          have hl12 := keep la _ (ne_d la _ hl (fun _ e => by cases e)) hl
          refine s_extX (l0 := z) (xs := xs) hz12 (ev_var rfl) fun H13 e13 => call2U (x := .ref p) (ys := [tx it.1, .ref sa, .ref la]) (ev_var rfl) (eu_tup (ea_cons (ev_var rfl) (ea_cons (ev_var rfl) (ea_cons (ev_var rfl) ea_nil))) (by simp)) fun T1 H14 nT1 e14 hT1 => ?_
          have e1214 := e13.trans e14
          refine ⟨p, T1, sa, la, ws, it, rfl, hc.ex (exH12.trans e1214), hT1, e1214 sa _ hs12, e1214 la _ hl12, hok, h0', htlen, by omega, fun nl H15 zs jts nnl e15 hnl hjts hN => ?_⟩
          have ex15 := e1214.trans e15
          have hz15 := ex15 z _ hz12
          have hjl := hN.len
          have hjx := hjts.1
          refine ⟨z, nl, xs, zs, rfl, rfl, hz15, hnl, Nat.le_trans (m := 100000) (by omega) (by decide), ?_⟩
          have hnt : ∀ us, H15 z ≠ some (.tup us) := fun us e => by rw [hz15] at e; cases e
          refine ⟨m - 1 - (64 - jts.length), by omega, at' + 1, xs ++ zs, its ++ jts, ts ++ [it.1], _, _, _, rfl, Ex.mut (exH12.trans ex15) nz0, upd_same, ?_, by rw [upd_ne (Ne.symm hzd)]; exact ex15 d _ hd12, by rw [List.length_append]; omega, ?_, ?_⟩
          · refine ItsAt.app ((hits12.map fun _ _ h => h.ex ex15).map fun _ _ h => h.upd hnt fun _ h => h) ((hjts.map fun _ _ h => h.imp (N' := fun a => a ≠ z) fun a ha => ?_).map fun _ _ h => h.upd hnt fun _ h => h)
            rcases ha.2 with rfl | rfl | hn
            · exact hsz
            · exact hlz
            · exact fun e => by rw [e, e1214 z _ hz12] at hn; cases hn
          · refine ⟨fun jt hjt => ?_, fun i j h1 h2 h3 h4 => ?_, ?_, fun t ht => ?_, fun q hq jt hjq => ?_, fun t ht i h1 h2 => ?_, fun t ht i h1 h2 => ?_, ?_⟩
            · rw [List.length_append, List.length_singleton]
              rcases List.mem_append.mp hjt with h | h
              · obtain ⟨r1, r2⟩ := hI.ok jt h
                exact ⟨r1, by omega⟩
              · obtain ⟨r1, r2⟩ := hN.ok jt h
                exact ⟨r1, by omega⟩
            · obtain ⟨jt, h5, h6⟩ := hI.first i j h1 h2 h3 h4
              exact ⟨jt, List.mem_append_left _ h5, h6⟩
            · rw [List.nodup_append]
              refine ⟨hI.nd, by simp, fun u hu y hy e => ?_⟩
              rw [List.mem_singleton.mp hy] at e
              exact hnew' (e ▸ hu)
            · rcases List.mem_append.mp ht with h | h
              · exact hI.sub t h
              · rw [List.mem_singleton.mp h]; exact ⟨h0', hin, htlen⟩
            · rcases Nat.lt_or_ge q at' with hlt2 | hge2
              · rw [List.getElem?_append_left (by omega)] at hjq
                exact List.mem_append_left _ (hI.done q hlt2 jt hjq)
              · have : q = at' := by omega
                subst this
                rw [List.getElem?_append_left hlt', hia] at hjq
                cases hjq
                exact List.mem_append_right _ (by simp)
            · rcases List.mem_append.mp ht with h | h
              · obtain ⟨jt, h5, h6⟩ := hI.fwd t h i h1 h2
                exact ⟨jt, List.mem_append_left _ h5, h6⟩
              · rw [List.mem_singleton.mp h] at h2 ⊢
                obtain ⟨jt, h5, h6⟩ := hN.fwd i h1 h2
                exact ⟨jt, List.mem_append_right _ h5, h6⟩
            · rcases List.mem_append.mp ht with h | h
              · obtain ⟨jt, h5, h6⟩ := hI.bwd t h i h1 h2
                exact ⟨jt, List.mem_append_left _ h5, h6⟩
              · rw [List.mem_singleton.mp h] at h2 ⊢
                obtain ⟨jt, h5, h6⟩ := hN.bwd i h1 h2
                exact ⟨jt, List.mem_append_right _ h5, h6⟩
            · rw [List.length_append, List.length_append, List.length_singleton]; omega
          · rw [List.length_append, List.length_append, List.length_singleton]; omega
        · have hold' : it.1 ∈ ts := by simpa using hold
          have ex10 := ex9.trans e10
          refine ⟨m - 1, by omega, at' + 1, xs, its, ts, _, _, _, rfl, ex.trans ex10, ex10 z _ hzx, hits.map fun _ _ h => h.ex ex10, ex10 d _ hdk, by omega, ⟨hI.ok, hI.first, hI.nd, hI.sub, fun q hq jt hjq => ?_, hI.fwd, hI.bwd, hI.len⟩, by omega⟩
          rcases Nat.lt_or_ge q at' with hlt2 | hge2
          · exact hI.done q hlt2 jt hjq
          · have : q = at' := by omega
            subst this
            rw [hia] at hjq
            cases hjq
            exact hold'
    · have hge' : at' = its.length := by have := of_decide_eq_false hge; omega
      rw [hge'] at hI
      have ex6 := ex.trans e6
      refine s_retB (eb_make (eqx_sortedD (K := K) (ev_var rfl) (e6 d _ hdk) htl)) fun o dx l H7 vs hP no nl hlo e7 ho hl7 => ?_
      obtain ⟨us, rfl, hperm⟩ := hP
      exact k2 o dx l H7 us (fresh_back ex6 no) (fresh_back ex6 nl) hlo (ex6.trans e7) ho hl7 (cl_imp hI.cl fun t => hperm.symm.mem_iff) (by rw [hperm.length_eq]; exact htl) fun t ht => (hI.sub t (hperm.mem_iff.mp ht)).2.2
end
end Tr

set_option Elab.async false
set_option linter.all false
set_option maxRecDepth 100000
set_option maxHeartbeats 4000000
namespace Tr
open PySem PySem.Spec PyProof.Rows L2 Evl
open M3 (wat joinW pre)
abbrev s_Words___init__ : Stmt := inClass (topS 17) 0
abbrev N_Words___init__ : List Str := ["self", "words"]
theorem sc_Words___init__ : FnScope N_Words___init__ ["self", "words"] (defScope s_Words___init__) := ⟨rfl, rfl, rfl, by decide +kernel, rfl, by decide +kernel, by decide +kernel⟩
abbrev s_Words_shows : Stmt := inClass (topS 17) 1
abbrev N_Words_shows : List Str := ["self", "letters", "lengths", "words", "word", "at"]
theorem sc_Words_shows : FnScope N_Words_shows ["self", "letters", "lengths"] (defScope s_Words_shows) := ⟨rfl, rfl, rfl, by decide +kernel, rfl, by decide +kernel, by decide +kernel⟩
abbrev s_Full_shows : Stmt := inClass (topS 18) 0
abbrev N_Full_shows : List Str := ["self", "letters", "lengths", "left", "length"]
theorem sc_Full_shows : FnScope N_Full_shows ["self", "letters", "lengths"] (defScope s_Full_shows) := ⟨rfl, rfl, rfl, by decide +kernel, rfl, by decide +kernel, by decide +kernel⟩
local macro_rules | `(tactic| walk_at "sd") => `(tactic| first | assumption | rfl | omega | decide | (solve_by_elim) | (refine Nat.le_trans (m := 1000) (by solve_by_elim) (by decide)))
local macro_rules | `(tactic| walk_at "rv") => `(tactic| first
  | exact rv_add | exact rv_sub | exact rv_lt | exact rv_le | exact rv_gt | exact rv_ge | exact rv_eqI | exact rv_eqS | exact rv_eqB | exact rv_neI | exact rv_neS | exact rv_neB
  | exact rv_mod (by walk_at "sd") | exact rv_fdiv (by first | assumption | exact ⟨by omega, by omega⟩) | exact rv_addS (by walk_at "sd") | exact rv_isB | exact rv_notB | assumption)
local macro_rules | `(tactic| walk_at "ea") => `(tactic| first
  | exact ea_nil
  | (refine' ea_cons ?k1 ?k2; (case k1 => walk_at "ev"); (case k2 => walk_at "ea")))
local macro_rules | `(tactic| walk_at "eo") => `(tactic| first
  | exact eo_none
  | (refine' eo_some ?k1; (case k1 => walk_at "ev")))
local macro_rules | `(tactic| walk_at "et") => `(tactic| first
  | (refine' et_test ?k1; (case k1 => walk_at "ev"))
  | (refine' et_B ?k1; (case k1 => walk_at "ev"))
  | (refine' et_and ?k1 ?k2; (case k1 => walk_at "et"); (case k2 => (intro _; walk_at "et")))
  | (refine' et_or ?k1 ?k2; (case k1 => walk_at "et"); (case k2 => (intro _; walk_at "et")))
  | (refine' et_not ?k1; (case k1 => walk_at "et"))
  | assumption)
local macro_rules | `(tactic| walk_at "ev") => `(tactic| first
  | assumption
  | exact ev_cS
  | exact ev_c
  | exact ev_var rfl
  | (refine' ev_op ?k1 ?k2 ?k3; (case k1 => walk_at "ev"); (case k2 => walk_at "ev"); (case k3 => walk_at "rv"))
  | (refine' ev_un ?k1 ru_neg; (case k1 => walk_at "ev"))
  | (refine' ev_chain ?k1 ?k2 ?k3 ?k4 ?k5; (case k1 => walk_at "ev"); (case k2 => walk_at "ev"); (case k3 => walk_at "ev"); (case k4 => walk_at "rv"); (case k5 => (intro _; walk_at "rv")))
  | (refine' ev_slS ?k1 ?k2 ?k3 ?k4; (case k1 => walk_at "ev"); (case k2 => walk_at "eo"); (case k3 => walk_at "eo"); (case k4 => walk_at "sd"))
  | (refine' ev_lenS ?k1 ?k2; (case k1 => walk_at "ev"); (case k2 => walk_at "sd"))
  | (refine' ev_len' ?k1 ?k2; (case k1 => walk_at "ev"); (case k2 => walk_at "sd"))
  | (refine' ev_strip ?k1 ?k2 ?k3; (case k1 => walk_at "ev"); (case k2 => walk_at "ev"); (case k3 => walk_at "sd"))
  | (refine' ev_sum ?k1 ?k2; (case k1 => walk_at "ev"); (case k2 => walk_at "sd"))
  | (refine' ev_isi ?k1 ?k2 ?k3 ?k4; (case k1 => walk_at "ev"); (case k2 => walk_at "ev"); (case k3 => first | exact ty_int | exact ty_bl | exact ty_str | exact ty_list (by walk_at "sd")); (case k4 => first | exact kit_ty (r := true) (by decide +kernel) | exact kit_ty (r := false) (by decide +kernel)))
  | (refine' ev_andV ?k1 ?k2; (case k1 => walk_at "ev"); (case k2 => (intro _; walk_at "ev")))
  | (refine' ev_orV ?k1 ?k2; (case k1 => walk_at "ev"); (case k2 => (intro _; walk_at "ev")))
  | (refine' ev_notV ?k1; (case k1 => walk_at "ev"))
  | (refine' ev_call ?k1 ?k2; (case k1 => walk_at "ea"); (case k2 => walk_at "sv")))
local macro_rules | `(tactic| walk_at "el") => `(tactic| first
  | assumption
  | (refine' el_mapB ?k1 ?k2 ?k3 (fun _ => rfl) ?k5; (case k1 => walk_at "ev"); (case k2 => walk_at "sd"); (case k3 => walk_at "sd"); (case k5 => (intro _ _; walk_at "ev")))
  | (refine' el_mapI ?k1 ?k2 ?k3 (fun _ => rfl) ?k5; (case k1 => walk_at "ev"); (case k2 => walk_at "sd"); (case k3 => walk_at "sd"); (case k5 => (intro _ _; walk_at "ev")))
  | (refine' el_mapS ?k1 ?k2 ?k3 (fun _ => rfl) ?k5; (case k1 => walk_at "ev"); (case k2 => walk_at "sd"); (case k3 => walk_at "sd"); (case k5 => (intro _ _; walk_at "ev"))))
local macro_rules | `(tactic| walk_at "ev") => `(tactic| first
  | (refine' ev_all ?k1; (case k1 => walk_at "el"))
  | (refine' ev_any ?k1; (case k1 => walk_at "el"))
  | (refine' ev_sumN ?k1; (case k1 => walk_at "el"))
  | (refine' ev_join ?k1 ?k2 ?k3; (case k1 => exact ev_is ev_cS (congrArg tx codes_nil)); (case k2 => walk_at "el"); (case k3 => walk_at "sd")))

local macro_rules | `(tactic| walk_at "sv") => `(tactic| first | exact sv_is_text (by walk_at "sd") | exact sv_stands (by walk_at "sd") (by walk_at "sd"))
/-! ### an order there is -/
def insW (x : Wd) : List Wd → List Wd
  | [] => [x]
  | y :: r => if y < x then y :: insW x r else x :: y :: r
def sortW : List Wd → List Wd
  | [] => []
  | x :: r => insW x (sortW r)
theorem insW_perm (x : Wd) : ∀ ys, (insW x ys).Perm (x :: ys)
  | [] => List.Perm.refl _
  | y :: r => by
    unfold insW
    split
    · exact ((insW_perm x r).cons y).trans (List.Perm.swap x y r)
    · exact List.Perm.refl _
theorem insW_rises (x : Wd) : ∀ ys, Rises ys → Rises (insW x ys)
  | [], _ => List.pairwise_singleton _ _
  | y :: r, h => by
    obtain ⟨h1, h2⟩ := List.pairwise_cons.mp h
    unfold insW
    split
    · rename_i hlt
      refine List.pairwise_cons.mpr ⟨fun z hz => ?_, insW_rises x r h2⟩
      rcases List.mem_cons.mp ((insW_perm x r).mem_iff.mp hz) with rfl | hz
      · exact List.not_lt.mpr (List.le_of_lt hlt)
      · exact h1 z hz
    · rename_i hlt
      refine List.pairwise_cons.mpr ⟨fun z hz => ?_, h⟩
      rcases List.mem_cons.mp hz with rfl | hz
      · exact hlt
      · exact List.not_lt.mpr (List.le_trans (List.not_lt.mp hlt) (List.not_lt.mp (h1 z hz)))
theorem sortW_of : ∀ ws, SortOf ws (sortW ws)
  | [] => ⟨List.Perm.refl _, List.Pairwise.nil⟩
  | x :: r => ⟨(insW_perm x _).trans ((sortW_of r).perm.cons x), insW_rises x _ (sortW_of r).rises⟩
theorem sortW_len (ws : List Wd) : (sortW ws).length = ws.length := (sortW_of ws).perm.length_eq
/-! ### words of lengths -/
def letK (k : Nat) (a : Wd) : Bool := decide (∀ c ∈ a, c ∈ abc.take k)
def wordsV (k : Nat) (ls : List Nat) (ws : List Wd) : Bool := decide (ws.map List.length = ls) && ws.all (letK k) && !M5.adj (sortW ws)
theorem letK_ok {k : Nat} {a : Wd} (h : letK k a = true) : okW a := fun c hc => mem_abc.mp (List.mem_of_mem_take (of_decide_eq_true h c hc))
theorem strip_K (k : Nat) (a : Wd) : decide (codes (Txt.stripChars (S a) (S (abc.take k))) = codes ("" : Str)) = letK k a := by
  unfold letK
  have h : (codes (Txt.stripChars (S a) (S (abc.take k))) = codes ("" : Str)) ↔ ∀ c ∈ a, c ∈ abc.take k := by
    rw [codes_nil]
    constructor
    · intro e
      have e2 : Txt.stripChars (S a) (S (abc.take k)) = S [] := by rw [← S_codes (Txt.stripChars (S a) (S (abc.take k))), e]
      exact (strip_iff a _).mp e2
    · intro o
      rw [(strip_iff a _).mpr o, codes_S]
  simp only [h]
theorem map_nI (ns : List Nat) : ns.map nI = (List.map (fun n : Nat => (n : Int)) ns).map V.int := by rw [List.map_map]; rfl
theorem cast_eq (xs ys : List Nat) : decide (List.map (fun n : Nat => (n : Int)) xs = List.map (fun n : Nat => (n : Int)) ys) = decide (xs = ys) := by
  have h : (List.map (fun n : Nat => (n : Int)) xs = List.map (fun n : Nat => (n : Int)) ys) ↔ xs = ys := by
    constructor
    · intro e
      have := congrArg (List.map Int.toNat) e
      rw [List.map_map, List.map_map] at this
      have h2 : (Int.toNat ∘ fun n : Nat => (n : Int)) = id := by funext n; simp
      rw [h2, List.map_id, List.map_id] at this
      exact this
    · intro e; rw [e]
  simp only [h]
theorem count_cast (j : Nat) : ∀ lens : List Nat, (List.map (fun n : Nat => (n : Int)) lens).count ((j : Nat) : Int) = lens.count j
  | [] => rfl
  | x :: r => by
    rw [List.map_cons, List.count_cons, List.count_cons, count_cast j r]
    by_cases h : x = j
    · subst h; simp
    · have h2 : ¬ ((x : Nat) : Int) = ((j : Nat) : Int) := by omega
      simp [h, h2]
theorem ev_count {K : PySem.W.Frag} {σ : L2.St} {H : Hp} {to te : TE} {p : Addr} {ns : List Int} {k : Int} (ho : Ev to σ H (.ref p)) (hs : SqL K H p (ns.map V.int)) (hk : Ev te σ H (.int k)) : Ev (tBM K "list" (rCntI K) to (tCons te tNil)) σ H (.int ((ns.count k : Nat) : Int)) := fun H1 e Q q =>
  ho H1 e _ fun H2 e2 => ⟨Or.inl ⟨rfl, _, ex_l (e.trans e2) hs⟩, hk H2 (e.trans e2) _ fun H3 e3 => ⟨p, ns, k, rfl, rfl, ex_l ((e.trans e2).trans e3) hs, q H3 (e2.trans e3)⟩⟩
theorem getD_map {ss : List Wd} {i : Nat} (h : i < ss.length) : (ss.map tx)[i]? = some (tx (ss.getD i [])) := by simp [List.getD, List.getElem?_map, h]
theorem getD_mem {ss : List Wd} {i : Nat} (h : i < ss.length) : ss.getD i [] ∈ ss := by
  have : ss.getD i [] = ss[i] := by simp [List.getD, h]
  rw [this]; exact List.getElem_mem h
section
variable {P : Program} {w : World} {K : PySem.W.Frag} {mg : Str → Option Value} {base : Heap} {H : Hp}
/-- range(len(words) - 1) -/
theorem ea_n1 {σ : L2.St} {te : TE} {n : Nat} (h : Ev te σ H (.int (n : Int))) (hn : n ≤ 40000) : ∃ m : Nat, m = n - 1 ∧ ∀ {te1 : TE} {g : Nat → Bool} {j : Nat} {vs : List Nat}, (∀ x, wipe ((wipe σ vs).set j (some x)) vs = wipe σ vs) → (∀ i, i < n - 1 → Ev te1 ((wipe σ vs).set j (some (.int (i : Int)))) H (.bl (g i))) →
    EvL (tLc (iRng1 (tCons (tOp (rI0 fun i j => .int (i - j)) te (tC (.int 1))) tNil)) (gName j) tYes te1 vs) σ H (((List.range (n - 1)).map g).map V.bl) := by
  refine ⟨n - 1, rfl, fun {te1 g j vs} hw he => ?_⟩
  rcases Nat.eq_zero_or_pos n with h0 | h0
  · subst h0
    intro H1 e Q q
    refine h H1 e _ fun H2 e2 => ⟨0, 1, rfl, rfl, ?_⟩
    refine ⟨((0 : Nat) : Int) - 1, rfl, by decide, by decide, fun Dl hD => lc_range (lo := 0) (n := (((0 : Nat) : Int) - 1).toNat) (fun i H' => i = 0 ∧ H' = upd H2 Dl (.lst [])) ⟨rfl, rfl⟩ (fun i H' hi _ => absurd hi (by simp)) (fun H' hP => ?_)⟩
    obtain ⟨_, rfl⟩ := hP
    exact q Dl _ (fresh_back e2 hD) (e2.trans (Ex.new hD)) upd_same
  · have e1 : (n : Int) - 1 = ((n - 1 : Nat) : Int) := by omega
    exact el_rangeB (n := n - 1) (ea_cons (ev_is (ev_op h ev_c rv_sub) (congrArg V.int e1)) ea_nil) (by omega) hw he
/-! ### Words -/
theorem ok_Words___init__ {aWo : Addr} (D : IniAt K aWo "Words.__init__" s_Words___init__ ["self", "words"]) (T : Blt mg) (G_Words : mg "Words" = some (.ref aWo)) (L_Words : ClsI K aWo) (N_Words_words : NoAttr K aWo "words") : MkAt P w K mg base 1 "Words" aWo (spIni1 K aWo "words") := by
  refine mk_ofI G_Words D sc_Words___init__ (fun vs H Q E h => ?_) (fun f cdv A outer s H vs Q E hr h => ?_)
  · obtain ⟨p, q, dx, xs, rfl, _⟩ := h; rfl
  · obtain ⟨p, q, dx, xs, rfl, hp, hq, k⟩ := h
    refine ⟨_, (pss_one (ps_fldK (K := K) rfl (pv 0) (pe_callTy (call_list_ofK (K := K) rfl) (by rfl) T.list (by decide +kernel) (pa_cons (pv 1) pa_nil)))), ?_⟩
    exact ini1_run (D := ⟨fun _ H' => Q .non H', Q, fun _ _ => False, fun _ _ => False⟩) L_Words.cl N_Words_words hp hq rfl rfl k
def spWordsShows (K : PySem.W.Frag) (aWo : Addr) : Sp := fun vs H Q _ => ∃ (o l q dx : Addr) (k : Nat) (ws : List Wd) (ls : List Nat), vs = [.ref o, .int (k : Int), .ref q] ∧ H o = some (.ins aWo dx [("words", .ref l)]) ∧ SqL K H l (ws.map tx) ∧ SqL K H q (ls.map nI) ∧ ws.length ≤ 1000 ∧ (∀ a ∈ ws, a.length ≤ 1000) ∧
  ∀ H', Ex H H' → Q (.bl (wordsV k ls ws)) H'
theorem ok_Words_shows {aWo : Addr} (D : MthAt K aWo "shows" "Words.shows" s_Words_shows ["self", "letters", "lengths"]) (T : Blt mg) (L_Words : ClsI K aWo) (N_Words_words : NoAttr K aWo "words") (C_is_text : Cal P w K mg base 1 "is_text" spIsText) (C_stands : Cal P w K mg base 1 "stands" spStands) :
    MCal P w K mg base 2 aWo "shows" (spWordsShows K aWo) := by
  refine mcal_of L_Words.cl D sc_Words_shows (fun vs H Q E h => ?_) (fun f cdv A outer s H vs Q E hr h => ?_)
  · obtain ⟨o, l, q, dx, k, ws, ls, rfl, _⟩ := h; rfl
  · obtain ⟨o, l, q, dx, k, ws, ls, rfl, ho, hl, hq, hwn, hwa, kk⟩ := h
    refine ⟨_, (pss_cons (ps_if (pt_cmpR (op_neDK (K := K) rfl hr.units) (pe_lc (own := [("word", 4)]) rfl sc_Words_shows.nd (pi_listK (K := K) rfl (pe_fldK (K := K) rfl (pv 0))) (blkOk_by (own := [("word", 4)]) (N := N_Words_shows) (sc := defScope s_Words_shows) (by decide +kernel)) (fun _ _ _ _ _ => (pg_name (i := 4) sc_Words_shows.nd rfl (.inl rfl))) (fun _ _ _ _ _ => pts_nil) (fun _ _ _ _ _ => (pe_callB call_len_str (by rfl) T.len (by decide +kernel) (pa_cons (pv 4) pa_nil)))) (pv 2) (nomark _)) (pss_one (ps_ret pe_bl)) pss_nil)
      (pss_cons (ps_if (pt_not (pt_val (pe_callB (cr_allK (K := K) rfl rfl) (by rfl) T.all (by decide +kernel) (pa_cons (pe_lc (own := [("word", 4)]) rfl sc_Words_shows.nd (pi_listK (K := K) rfl (pe_fldK (K := K) rfl (pv 0))) (blkOk_by (own := [("word", 4)]) (N := N_Words_shows) (sc := defScope s_Words_shows) (by decide +kernel)) (fun _ _ _ _ _ => (pg_name (i := 4) sc_Words_shows.nd rfl (.inl rfl))) (fun _ _ _ _ _ => pts_nil) (fun _ _ _ _ _ => (pe_and (pe_c C_is_text hr (by decide) (by rfl) (pa_cons (pv 4) pa_nil)) (pe_one (pe_cmpR op_eq (pe_m1 PySem.F.slot_str_strip PySem.F.type_str_strip mt_stripChars (pv 4) (pe_slice sl_str (pe_gv (by rfl) T.LETTERS) po_none (po_some (pv 1)))) pe_str (nomark _)))))) pa_nil)))) (pss_one (ps_ret pe_bl)) pss_nil)
      (pss_cons (ps_set (i := 3) sc_Words_shows.nd rfl (.inr rfl) (pe_callB (cr_sortedSA (K := K) rfl) (by rfl) T.sorted (by decide +kernel) (pa_cons (pe_fldK (K := K) rfl (pv 0)) pa_nil)))
      (pss_one (ps_ret (pe_not (pe_callB (cr_anyK (K := K) rfl rfl) (by rfl) T.any (by decide +kernel) (pa_cons (pe_lc (own := [("at", 5)]) rfl sc_Words_shows.nd (pi_range1 (by rfl) T.range (pa_cons (pe_op op_sub (pe_callB (call_len_seqK (K := K) rfl) (by rfl) T.len (by decide +kernel) (pa_cons (pv 3) pa_nil)) pe_int) pa_nil)) (blkOk_by (own := [("at", 5)]) (N := N_Words_shows) (sc := defScope s_Words_shows) (by decide +kernel)) (fun _ _ _ _ _ => (pg_name (i := 5) sc_Words_shows.nd rfl (.inl rfl))) (fun _ _ _ _ _ => pts_nil) (fun _ _ _ _ _ => (pe_c C_stands hr (by decide) (by rfl) (pa_cons (pe_ix (ix_listK (K := K) rfl) (pv 3) (pv 5) (fun _ _ => rfl)) (pa_cons (pe_ix (ix_listK (K := K) rfl) (pv 3) (pe_op op_add (pv 5) pe_int) (fun _ _ => rfl)) (pa_cons pe_int pa_nil)))))) pa_nil)))))))), ?_⟩
    have gl : ∀ (H' : Hp) (σ : L2.St), Ex H H' → σ[0]? = some (some (.ref o)) → Ev (tFld K (tVar 0) "words") σ H' (.ref l) := fun H' σ e h0 => ev_fld (ev_var h0) (e o _ ho) L_Words.cl N_Words_words (look1 _ _)
    refine q_when (b := !decide (ws.map List.length = ls)) (et_is (et_B (ev_neQ (xs := List.map (fun n : Nat => (n : Int)) (ws.map List.length)) (ys := List.map (fun n : Nat => (n : Int)) ls) enc_int (eq_new (by
        have e : List.map (fun n : Nat => (n : Int)) (ws.map List.length) = ws.map fun a => (a.length : Int) := by rw [List.map_map]; rfl
        rw [e]
        exact el_mapI (φ := tx) (g := fun a : Wd => (a.length : Int)) (gl _ _ (Ex.refl _) rfl) hl (by omega) (fun _ => rfl) fun a ha => ev_lenS (ev_var rfl) (by have := hwa a ha; omega))) (eq_at (ev_var rfl) (by rw [← map_nI]; exact hq)) (by simp) (by simp))) (by rw [cast_eq])) (fun h0 H1 e1 => ?_) (fun h0 H1 e1 => ?_)
    · refine s_ret ev_c fun H2 e2 => ?_
      have := kk H2 (e1.trans e2)
      have h1 : decide (ws.map List.length = ls) = false := by
        cases hh : decide (ws.map List.length = ls) with
        | true => rw [hh] at h0; cases h0
        | false => rfl
      unfold wordsV at this
      rw [h1, Bool.false_and, Bool.false_and] at this
      exact this
    · have h1 : decide (ws.map List.length = ls) = true := by
        cases hh : decide (ws.map List.length = ls) with
        | true => rfl
        | false => rw [hh] at h0; cases h0
      refine q_when (b := !ws.all (letK k)) (et_is (et_not (et_B (ev_all (el_mapB (φ := tx) (g := fun a => decide (okW a) && letK k a) (gl _ _ e1 rfl) (ex_l e1 hl) (by omega) (fun _ => rfl) fun a ha => ?_)))) ?_) (fun h2 H2 e2 => ?_) (fun h2 H2 e2 => ?_)
      · have hal := hwa a ha
        refine ev_is (ev_andV (ev_call (vs := [tx a]) (ea_cons (ev_var rfl) ea_nil) (sv_is_text (by omega))) fun _ => ev_op (ev_strip (b := abc.take k) (ev_var rfl) (ev_is (ev_slS (a := abc) ev_cS eo_none (eo_some (ev_var rfl)) (by decide +kernel)) (congrArg tx (cut_to abc k))) (by omega)) ev_cS rv_eqS) ?_
        rw [strip_K]
      · rw [List.all_map]
        congr 1
        apply Bool.eq_iff_iff.mpr
        rw [List.all_eq_true, List.all_eq_true]
        refine forall_congr' fun a => ⟨fun h ha => ?_, fun h ha => ?_⟩
        · have := h ha
          simp only [Function.comp, id, Bool.and_eq_true] at this
          exact this.2
        · show (decide (okW a) && letK k a) = true
          rw [h ha, decide_eq_true (letK_ok (h ha))]; rfl
      · refine s_ret ev_c fun H3 e3 => ?_
        have := kk H3 ((e1.trans e2).trans e3)
        have h3 : ws.all (letK k) = false := by
          cases hh : ws.all (letK k) with
          | true => rw [hh] at h2; cases h2
          | false => rfl
        unfold wordsV at this
        rw [h3, Bool.and_false, Bool.false_and] at this
        exact this
      · have h3 : ws.all (letK k) = true := by
          cases hh : ws.all (letK k) with
          | true => rfl
          | false => rw [hh] at h2; cases h2
        have ex2 := e1.trans e2
        refine q_asgXs (ex_sorted (gl _ _ ex2 rfl) (ex_l ex2 hl)) fun p H3 vs np e3 hp hss => ?_
        obtain ⟨ss, hss, rfl⟩ := hss
        have hse := sort_uniq hss (sortW_of ws)
        subst hse
        have hln := sortW_len ws
        have hsm : ∀ a ∈ sortW ws, a.length ≤ 1000 := fun a ha => hwa a ((sortW_of ws).perm.mem_iff.mp ha)
        have hnl : ∀ σ : L2.St, σ[3]? = some (some (.ref p)) → Ev (tCB (rLenQ K) (tCons (tVar 3) tNil)) σ H3 (.int (((sortW ws).length : Nat) : Int)) := fun σ h3 => by
          have := ev_len' (K := K) (ev_var (H := H3) h3) (sq_of hp)
          rwa [List.length_map] at this
        obtain ⟨_, _, hlc⟩ := ea_n1 (H := H3) (hnl [some (.ref o), some (.int (k : Int)), some (.ref q), some (.ref p), none, none] rfl) (by omega)
        refine s_ret (v := .bl (!M5.adj (sortW ws))) (ev_notV (ev_is (ev_any (hlc (g := fun i => pre ((sortW ws).getD i []) ((sortW ws).getD (i + 1) [])) (fun _ => rfl) fun i hi => ?_)) (congrArg V.bl (by rw [List.any_map]; rfl)))) fun H4 e4 => ?_
        · have g1 := ev_op (H := H3) (σ := [some (.ref o), some (.int (k : Int)), some (.ref q), some (.ref p), none, some (.int (i : Int))]) (ev_var (i := 3) rfl) (ev_var (i := 5) rfl) (rv_ixL (K := K) (sq_of hp) (atI_nat (getD_map (show i < (sortW ws).length by omega))))
          have e9 : (i : Int) + 1 = ((i + 1 : Nat) : Int) := by omega
          have g2 := ev_op (H := H3) (σ := [some (.ref o), some (.int (k : Int)), some (.ref q), some (.ref p), none, some (.int (i : Int))]) (ev_var (i := 3) rfl) (ev_is (ev_op (ev_var (i := 5) rfl) (ev_c (v := .int 1)) rv_add) (congrArg V.int e9)) (rv_ixL (K := K) (sq_of hp) (atI_nat (getD_map (show i + 1 < (sortW ws).length by omega))))
          refine ev_is (ev_call (vs := [tx ((sortW ws).getD i []), tx ((sortW ws).getD (i + 1) []), .int ((0 : Nat) : Int)]) (ea_cons g1 (ea_cons g2 (ea_cons ev_c ea_nil))) (sv_stands (by have := hsm _ (getD_mem (show i < (sortW ws).length by omega)); omega) (by have := hsm _ (getD_mem (show i + 1 < (sortW ws).length by omega)); omega))) ?_
          unfold standsB
          rw [List.drop_zero]
        · have := kk H4 ((ex2.trans e3).trans e4)
          unfold wordsV at this
          rw [h1, h3] at this
          exact this
/-! ### Full -/
def spFullShows (K : PySem.W.Frag) (aFu : Addr) : Sp := fun vs H Q _ => ∃ (o q : Addr) (k : Nat) (ls : List Nat), vs = [.ref o, .int (k : Int), .ref q] ∧ SqL K H q (ls.map nI) ∧ 1 ≤ k ∧ k ≤ 26 ∧ (∀ l ∈ ls, l ≤ 1000) ∧ ∀ H', Ex H H' → Q (.bl (M5.fullV k ls (maxN ls))) H'
theorem any_take {L i : Nat} {f : Nat → Bool} (h : ∀ j, j < i → f j = false) (hi : i = L) : (List.range L).any f = false := by
  rw [List.any_eq_false]
  intro j hj
  rw [h j (by have := List.mem_range.mp hj; omega)]; decide
theorem ok_Full_shows {aFu : Addr} (D : MthAt K aFu "shows" "Full.shows" s_Full_shows ["self", "letters", "lengths"]) (T : Blt mg) (L_Full : ClsI K aFu) : MCal P w K mg base 1 aFu "shows" (spFullShows K aFu) := by
  refine mcal_of L_Full.cl D sc_Full_shows (fun vs H Q E h => ?_) (fun f cdv A outer s H vs Q E hr h => ?_)
  · obtain ⟨o, q, k, ls, rfl, _⟩ := h; rfl
  · obtain ⟨o, q, k, ls, rfl, hq, hk1, hk2, hl, kk⟩ := h
    refine ⟨_, (pss_cons (ps_set (i := 3) sc_Full_shows.nd rfl (.inl rfl) pe_int)
      (pss_cons (ps_for PassesOwn.never rfl (pi_range2 (by rfl) T.range (pa_cons pe_int (pa_cons (pe_op op_add (pe_callBK (cr_maxD (K := K) rfl rfl (hu_of hr)) (by rfl) T.max (by decide +kernel) (pa_cons (pv 2) pa_nil) (pk_cons pe_int pk_nil)) pe_int) pa_nil))) (pg_name (i := 4) sc_Full_shows.nd rfl (.inl rfl)) (pss_cons (ps_set (i := 3) sc_Full_shows.nd rfl (.inl rfl) (pe_op op_sub (pe_op op_mul (pv 3) (pv 1)) (pe_bm PySem.F.plainAttrs_list PySem.F.slot_list_count PySem.F.type_list_count (mt_lcountK (K := K) rfl) (pv 2) (pa_cons (pv 4) pa_nil))))
      (pss_one (ps_if (pt_cmpR op_lt (pv 3) pe_int (nomark _)) (pss_one (ps_ret pe_bl)) pss_nil))))
      (pss_one (ps_ret pe_bl)))), ?_⟩
    have hL : maxN ls ≤ 1000 := maxN_le hl
    refine q_asg (v := .int (M5.left k ls 0)) ev_c fun H1 e1 => ?_
    refine q_forR2 (lo := 1) (n := ((maxN ls : Nat) : Int) + 1) (ea_cons ev_c (ea_cons (ev_op (ev_maxD (ns := ls) (ev_var rfl) (ex_l e1 hq) ev_c) ev_c rv_add) ea_nil)) ⟨by omega, by omega, by omega, by omega⟩
      (fun i σ' H' => ∃ s4, Ex H H' ∧ (∀ j, j < i → decide (M5.left k ls (j + 1) < 0) = false) ∧ σ' = [some (.ref o), some (.int (k : Int)), some (.ref q), some (.int (M5.left k ls i)), s4]) (fun H2 e2 => ⟨_, e1.trans e2, fun j hj => absurd hj (Nat.not_lt_zero _), rfl⟩) (fun i σ' H' hi hP => ?_) (fun σ' H' hP => ?_)
    · obtain ⟨s4, ex, hn, rfl⟩ := hP
      have e1i : (1 : Int) + (i : Int) = ((i + 1 : Nat) : Int) := by omega
      rw [e1i]
      have hq' := ex_l ex hq
      rw [map_nI] at hq'
      refine q_asg (v := .int (M5.left k ls (i + 1))) (ev_is (ev_op (ev_op (ev_var rfl) (ev_var rfl) (rv_mul (.inr ⟨by omega, by omega⟩))) (ev_count (ev_var rfl) hq' (ev_var rfl)) rv_sub) (congrArg V.int (by rw [count_cast]; rfl))) fun H3 e3 => ?_
      refine s_when (et_test (ev_op (ev_var rfl) ev_c rv_lt)) (fun hb H4 e4 => ?_) (fun hb H4 e4 => ⟨_, (ex.trans e3).trans e4, fun j hj => ?_, rfl⟩)
      · refine s_ret ev_c fun H5 e5 => ?_
        have := kk H5 (((ex.trans e3).trans e4).trans e5)
        have hf : M5.fullV k ls (maxN ls) = true := by
          unfold M5.fullV
          rw [List.any_eq_true]
          exact ⟨i, List.mem_range.mpr (by omega), hb⟩
        rw [hf] at this
        exact this
      · rcases Nat.lt_or_ge j i with h | h
        · exact hn j h
        · have : j = i := by omega
          subst this; exact hb
    · obtain ⟨s4, ex, hn, rfl⟩ := hP
      refine s_ret ev_c fun H5 e5 => ?_
      have := kk H5 (ex.trans e5)
      have hf : M5.fullV k ls (maxN ls) = false := by
        unfold M5.fullV
        exact any_take hn (by omega)
      rw [hf] at this
      exact this
end
end Tr

set_option Elab.async false
set_option linter.all false
set_option maxRecDepth 100000
set_option maxHeartbeats 4000000
namespace Tr
open PySem PySem.Spec PyProof.Rows L2 Evl
open M3 (wat joinW pre)
open M5 (wr go Free fullV)
abbrev s_written : Stmt := topS 21
abbrev N_written : List Str := ["number", "letters", "length", "found", "left", "place"]
theorem sc_written : FnScope N_written ["number", "letters", "length"] (defScope s_written) := ⟨rfl, rfl, rfl, by decide +kernel, rfl, by decide +kernel, by decide +kernel⟩
abbrev s_of_lengths : Stmt := topS 22
abbrev N_of_lengths : List Str := ["letters", "lengths", "length", "found", "number", "last", "place", "step"]
theorem sc_of_lengths : FnScope N_of_lengths ["letters", "lengths"] (defScope s_of_lengths) := ⟨rfl, rfl, rfl, by decide +kernel, rfl, by decide +kernel, by decide +kernel⟩
local macro_rules | `(tactic| walk_at "sd") => `(tactic| first | assumption | rfl | omega | decide | (solve_by_elim) | (refine Nat.le_trans (m := 1000) (by solve_by_elim) (by decide)))
local macro_rules | `(tactic| walk_at "rv") => `(tactic| first
  | exact rv_add | exact rv_sub | exact rv_lt | exact rv_le | exact rv_gt | exact rv_ge | exact rv_eqI | exact rv_eqS | exact rv_eqB | exact rv_neI | exact rv_neS | exact rv_neB
  | exact rv_mod (by walk_at "sd") | exact rv_fdiv (by first | assumption | exact ⟨by omega, by omega⟩) | exact rv_addS (by walk_at "sd") | exact rv_isB | exact rv_notB | assumption)
local macro_rules | `(tactic| walk_at "ea") => `(tactic| first
  | exact ea_nil
  | (refine' ea_cons ?k1 ?k2; (case k1 => walk_at "ev"); (case k2 => walk_at "ea")))
local macro_rules | `(tactic| walk_at "eo") => `(tactic| first
  | exact eo_none
  | (refine' eo_some ?k1; (case k1 => walk_at "ev")))
local macro_rules | `(tactic| walk_at "et") => `(tactic| first
  | (refine' et_test ?k1; (case k1 => walk_at "ev"))
  | (refine' et_B ?k1; (case k1 => walk_at "ev"))
  | (refine' et_and ?k1 ?k2; (case k1 => walk_at "et"); (case k2 => (intro _; walk_at "et")))
  | (refine' et_or ?k1 ?k2; (case k1 => walk_at "et"); (case k2 => (intro _; walk_at "et")))
  | (refine' et_not ?k1; (case k1 => walk_at "et"))
  | assumption)
local macro_rules | `(tactic| walk_at "ev") => `(tactic| first
  | assumption
  | exact ev_cS
  | exact ev_c
  | exact ev_var rfl
  | (refine' ev_op ?k1 ?k2 ?k3; (case k1 => walk_at "ev"); (case k2 => walk_at "ev"); (case k3 => walk_at "rv"))
  | (refine' ev_un ?k1 ru_neg; (case k1 => walk_at "ev"))
  | (refine' ev_chain ?k1 ?k2 ?k3 ?k4 ?k5; (case k1 => walk_at "ev"); (case k2 => walk_at "ev"); (case k3 => walk_at "ev"); (case k4 => walk_at "rv"); (case k5 => (intro _; walk_at "rv")))
  | (refine' ev_slS ?k1 ?k2 ?k3 ?k4; (case k1 => walk_at "ev"); (case k2 => walk_at "eo"); (case k3 => walk_at "eo"); (case k4 => walk_at "sd"))
  | (refine' ev_lenS ?k1 ?k2; (case k1 => walk_at "ev"); (case k2 => walk_at "sd"))
  | (refine' ev_len' ?k1 ?k2; (case k1 => walk_at "ev"); (case k2 => walk_at "sd"))
  | (refine' ev_strip ?k1 ?k2 ?k3; (case k1 => walk_at "ev"); (case k2 => walk_at "ev"); (case k3 => walk_at "sd"))
  | (refine' ev_sum ?k1 ?k2; (case k1 => walk_at "ev"); (case k2 => walk_at "sd"))
  | (refine' ev_isi ?k1 ?k2 ?k3 ?k4; (case k1 => walk_at "ev"); (case k2 => walk_at "ev"); (case k3 => first | exact ty_int | exact ty_bl | exact ty_str | exact ty_list (by walk_at "sd")); (case k4 => first | exact kit_ty (r := true) (by decide +kernel) | exact kit_ty (r := false) (by decide +kernel)))
  | (refine' ev_andV ?k1 ?k2; (case k1 => walk_at "ev"); (case k2 => (intro _; walk_at "ev")))
  | (refine' ev_orV ?k1 ?k2; (case k1 => walk_at "ev"); (case k2 => (intro _; walk_at "ev")))
  | (refine' ev_notV ?k1; (case k1 => walk_at "ev"))
  | (refine' ev_call ?k1 ?k2; (case k1 => walk_at "ea"); (case k2 => walk_at "sv")))
local macro_rules | `(tactic| walk_at "el") => `(tactic| first
  | assumption
  | (refine' el_mapB ?k1 ?k2 ?k3 (fun _ => rfl) ?k5; (case k1 => walk_at "ev"); (case k2 => walk_at "sd"); (case k3 => walk_at "sd"); (case k5 => (intro _ _; walk_at "ev")))
  | (refine' el_mapI ?k1 ?k2 ?k3 (fun _ => rfl) ?k5; (case k1 => walk_at "ev"); (case k2 => walk_at "sd"); (case k3 => walk_at "sd"); (case k5 => (intro _ _; walk_at "ev")))
  | (refine' el_mapS ?k1 ?k2 ?k3 (fun _ => rfl) ?k5; (case k1 => walk_at "ev"); (case k2 => walk_at "sd"); (case k3 => walk_at "sd"); (case k5 => (intro _ _; walk_at "ev"))))
local macro_rules | `(tactic| walk_at "ev") => `(tactic| first
  | (refine' ev_all ?k1; (case k1 => walk_at "el"))
  | (refine' ev_any ?k1; (case k1 => walk_at "el"))
  | (refine' ev_sumN ?k1; (case k1 => walk_at "el"))
  | (refine' ev_join ?k1 ?k2 ?k3; (case k1 => exact ev_is ev_cS (congrArg tx codes_nil)); (case k2 => walk_at "el"); (case k3 => walk_at "sd")))

local macro_rules | `(tactic| walk_at "sv") => `(tactic| first | exact sv_is_number | exact sv_is_text (by walk_at "sd") | exact sv_stands (by walk_at "sd") (by walk_at "sd"))
/-! ### the words, by what the loop leaves -/
structure WordsOk (k : Nat) (ls : List Nat) (ws : List Wd) : Prop where
  len : ws.map List.length = ls
  let_ : ∀ a ∈ ws, letK k a = true
  free : Free ws
def fI (ls : List Nat) (i : Nat) : Int × Int := (((ls.getD i 0 : Nat) : Int), (i : Int))
def lenP (ps : List (Int × Int)) : List Nat := ps.map fun p => p.1.toNat
theorem wr_let {k : Nat} (hk : 1 ≤ k) (h26 : k ≤ 26) (n l : Nat) : letK k (wr k n l) = true := by
  unfold letK
  refine decide_eq_true fun c hc => ?_
  have h := M5.wr_mem hk l n c hc
  rw [abc_eq]
  have e : ∀ k, k ≤ 26 → (List.range' 97 26).take k = List.range' 97 k := by decide +kernel
  rw [e k h26, List.mem_range'_1]
  omega
theorem lenP_perm {ls : List Nat} {ps : List (Int × Int)} (h : ps.Perm ((List.range ls.length).map (fI ls))) : (lenP ps).Perm ls := by
  have h1 := h.map fun p : Int × Int => p.1.toNat
  refine h1.trans (List.Perm.of_eq ?_)
  rw [List.map_map]
  apply List.ext_getElem?
  intro i
  rw [List.getElem?_map]
  rcases Nat.lt_or_ge i ls.length with hi | hi
  · rw [List.getElem?_range hi, List.getElem?_eq_getElem hi]
    simp [fI, List.getD, hi]
  · rw [List.getElem?_eq_none (by rw [List.length_range]; exact hi), List.getElem?_eq_none hi]; rfl
theorem lenP_sort {ps : List (Int × Int)} (h : ps.Pairwise fun p q => SrtO.lexB q p = false) : (lenP ps).Pairwise (· ≤ ·) := by
  unfold lenP
  rw [List.pairwise_map]
  refine h.imp fun {p q} hpq => ?_
  have := SrtO.lexB_no.mp hpq
  omega
theorem words_ok {k : Nat} (hk : 1 ≤ k) (h26 : k ≤ 26) {ls : List Nat} {ps : List (Int × Int)} {ws : List Wd} (hp : ps.Perm ((List.range ls.length).map (fI ls))) (hs : ps.Pairwise fun p q => SrtO.lexB q p = false) (hl : ∀ l ∈ ls, 1 ≤ l) (hf : fullV k ls (maxN ls) = false)
    (hn : ws.length = ls.length) (hw : ∀ (j : Nat) (p : Int × Int) (nn : Nat), ps[j]? = some p → (go k (lenP ps) 0 0)[j]? = some nn → ws[p.2.toNat]? = some (wr k nn p.1.toNat)) : WordsOk k ls ws := by
  have hlp := lenP_perm hp
  have hls := lenP_sort hs
  have key : ∀ a, a < ls.length → ∃ (j nn : Nat), ps[j]? = some (fI ls a) ∧ (lenP ps)[j]? = some (ls.getD a 0) ∧ (go k (lenP ps) 0 0)[j]? = some nn ∧ ws[a]? = some (wr k nn (ls.getD a 0)) ∧ nn < k ^ (ls.getD a 0) := by
    intro a ha
    have hm : fI ls a ∈ ps := hp.mem_iff.mpr (List.mem_map.mpr ⟨a, List.mem_range.mpr ha, rfl⟩)
    obtain ⟨j, hj⟩ := List.mem_iff_getElem?.mp hm
    have h1 : (lenP ps)[j]? = some (ls.getD a 0) := by
      unfold lenP
      rw [List.getElem?_map, hj]
      simp [fI]
    have hjl : j < (lenP ps).length := (List.getElem?_eq_some_iff.mp h1).1
    have h2 : (go k (lenP ps) 0 0)[j]? = some ((go k (lenP ps) 0 0)[j]'(by rw [M5.go_len]; exact hjl)) := List.getElem?_eq_getElem _
    refine ⟨j, _, hj, h1, h2, ?_, ?_⟩
    · have := hw j _ _ hj h2
      simpa [fI] using this
    · exact M5.go_lt hk hl (fun l hlm => M5.full_no hk hf (le_maxN hlm)) (lenP ps) [] 0 0 hlp (by simp) hls (by simp) rfl j _ _ h1 h2
  refine ⟨?_, fun a ha => ?_, ?_⟩
  · apply List.ext_getElem?
    intro i
    rw [List.getElem?_map]
    rcases Nat.lt_or_ge i ls.length with hi | hi
    · obtain ⟨j, nn, _, _, _, h4, _⟩ := key i hi
      rw [h4, List.getElem?_eq_getElem hi]
      simp [M5.wr_len, List.getD, hi]
    · rw [List.getElem?_eq_none (by omega), List.getElem?_eq_none hi]; rfl
  · obtain ⟨i, hi⟩ := List.mem_iff_getElem?.mp ha
    have hil : i < ls.length := by rw [← hn]; exact (List.getElem?_eq_some_iff.mp hi).1
    obtain ⟨j, nn, _, _, _, h4, _⟩ := key i hil
    rw [hi] at h4
    cases h4
    exact wr_let hk h26 _ _
  · refine M5.free_of fun a b u v hab hu hv => ?_
    have hal : a < ls.length := by rw [← hn]; exact (List.getElem?_eq_some_iff.mp hu).1
    have hbl : b < ls.length := by rw [← hn]; exact (List.getElem?_eq_some_iff.mp hv).1
    obtain ⟨i, n1, p1, l1, g1, w1, b1⟩ := key a hal
    obtain ⟨j, n2, p2, l2, g2, w2, b2⟩ := key b hbl
    rw [hu] at w1
    rw [hv] at w2
    cases w1
    cases w2
    have hij : i ≠ j := fun z => by
      subst z
      rw [p1] at p2
      have := congrArg Prod.snd (Option.some.inj p2)
      simp [fI] at this
      omega
    rw [List.pairwise_iff_getElem] at hls
    obtain ⟨hi1, hi2⟩ := List.getElem?_eq_some_iff.mp l1
    obtain ⟨hj1, hj2⟩ := List.getElem?_eq_some_iff.mp l2
    rcases Nat.lt_or_gt_of_ne hij with h | h
    · have hle := hls i j hi1 hj1 h
      rw [hi2, hj2] at hle
      exact M5.wr_apart hk hle b1 b2 (M5.go_apart hk (lenP ps) 0 0 (lenP_sort hs) i j h _ _ _ _ l1 l2 g1 g2)
    · have hle := hls j i hj1 hi1 h
      rw [hi2, hj2] at hle
      exact (M5.wr_apart hk hle b2 b1 (M5.go_apart hk (lenP ps) 0 0 (lenP_sort hs) j i h _ _ _ _ l2 l1 g2 g1)).symm
theorem abc_get {j : Nat} (h : j < 26) : abc[j]? = some (97 + j) := by
  rw [abc_eq, List.getElem?_range' h]; simp
section
variable {P : Program} {w : World} {K : PySem.W.Frag} {mg : Str → Option Value} {base : Heap} {H : Hp}
theorem ev_mthP {m : Str} {sp : Sp} {C : Addr} {σ : L2.St} {ta : TE} {t : TA} {v : V} {vs : List V} (h : EvP ta σ H (MB C)) (ha : EvA t σ H vs) (hs : ∀ o H1, Ex H H1 → SpV sp (.ref o :: vs) H1 v) : Ev (tMeth C m sp [] E0 ta t) σ H v := fun H1 e Q q =>
  h H1 e _ fun u H2 e2 ⟨o, dx, eu, ho⟩ => ⟨o, dx, [], eu, ho, rfl, ha H2 (e.trans e2) _ fun H3 e3 => by
    rw [List.append_nil, eu]
    exact hs o H3 ((e.trans e2).trans e3) H3 (Ex.refl _) Q (fun H4 e4 => q H4 ((e2.trans e3).trans e4)) E0⟩
/-! ### written -/
def spWritten : Sp := fun vs H Q _ => ∃ n k l : Nat, vs = [.int (n : Int), .int (k : Int), .int (l : Int)] ∧ 1 ≤ k ∧ k ≤ 26 ∧ l ≤ 1000 ∧ ∀ H', Ex H H' → Q (tx (wr k n l)) H'
theorem sv_written {n k l : Nat} (h1 : 1 ≤ k) (h2 : k ≤ 26) (h3 : l ≤ 1000) : SpV spWritten [.int (n : Int), .int (k : Int), .int (l : Int)] H (tx (wr k n l)) := fun _ _ _ q _ => ⟨n, k, l, rfl, h1, h2, h3, q⟩
theorem ok_written (D : DefAt K mg "written" s_written ["number", "letters", "length"]) (T : Blt mg) : Cal P w K mg base 1 "written" spWritten := by
  refine cal_of D sc_written (fun vs H Q E h => ?_) (fun f cdv A outer s H vs Q E hr h => ?_)
  · obtain ⟨n, k, l, rfl, _⟩ := h; rfl
  · obtain ⟨n, k, l, rfl, hk1, hk2, hl, kk⟩ := h
    refine ⟨_, (pss_cons (ps_set (i := 3) sc_written.nd rfl (.inl rfl) pe_str)
      (pss_cons (ps_set (i := 4) sc_written.nd rfl (.inl rfl) (pv 0))
      (pss_cons (ps_for PassesOwn.never rfl (pi_range1 (by rfl) T.range (pa_cons (pv 2) pa_nil)) (pg_name (i := 5) sc_written.nd rfl (.inl rfl)) (pss_cons (ps_set (i := 3) sc_written.nd rfl (.inl rfl) (pe_op op_add_str (pe_ix ix_str (pe_gv (by rfl) T.LETTERS) (pe_op op_mod (pv 4) (pv 1)) (fun _ _ => rfl)) (pv 3)))
      (pss_one (ps_set (i := 4) sc_written.nd rfl (.inl rfl) (pe_op op_fdiv (pv 4) (pv 1))))))
      (pss_one (ps_ret (pv 3)))))), ?_⟩
    refine q_asg (v := tx (wr k n 0)) (ev_is ev_cS (congrArg tx codes_nil)) fun H1 e1 => q_asg (v := .int ((n / k ^ 0 : Nat) : Int)) (ev_is (ev_var rfl) (by rw [Nat.pow_zero, Nat.div_one])) fun H2 e2 => ?_
    refine q_forR1 (n := (l : Int)) (ea_cons (ev_var rfl) ea_nil) ⟨by omega, by omega⟩ (fun i σ' H' => ∃ s5, Ex H H' ∧ σ' = [some (.int (n : Int)), some (.int (k : Int)), some (.int (l : Int)), some (tx (wr k n i)), some (.int ((n / k ^ i : Nat) : Int)), s5]) (fun H3 e3 => ⟨_, (e1.trans e2).trans e3, rfl⟩) (fun i σ' H' hi hP => ?_) (fun σ' H' hP => ?_)
    · obtain ⟨s5, ex, rfl⟩ := hP
      have hm : n / k ^ i % k < k := Nat.mod_lt _ (by omega)
      have e9 : ((n / k ^ i : Nat) : Int) % (k : Int) = ((n / k ^ i % k : Nat) : Int) := by omega
      refine q_asg (v := tx (wr k n (i + 1))) (ev_is (ev_op (ev_op (ev_cS) (ev_is (ev_op (ev_var rfl) (ev_var rfl) (rv_mod (by omega))) (congrArg V.int e9)) (rv_ixW (a := abc) (by decide +kernel) (atI_nat (abc_get (by omega))))) (ev_var rfl) (rv_addS (by rw [M5.wr_len]; simp; omega))) (by rw [M5.wr_step]; rfl)) fun H3 e3 => ?_
      refine s_asg (v := .int ((n / k ^ (i + 1) : Nat) : Int)) (ev_is (ev_op (ev_var rfl) (ev_var rfl) (rv_fdiv ⟨by omega, by omega⟩)) (congrArg V.int (by rw [Nat.pow_succ, ← Nat.div_div_eq_div_mul]; omega))) fun H4 e4 => ⟨_, (ex.trans e3).trans e4, rfl⟩
    · obtain ⟨s5, ex, rfl⟩ := hP
      have e0 : (l : Int).toNat = l := by omega
      rw [e0]
      exact s_ret (ev_var rfl) fun H3 e3 => kk H3 (ex.trans e3)
/-! ### of_lengths -/
def spOfLengths (K : PySem.W.Frag) (aWo aFu : Addr) : Sp := fun vs H Q _ => ∃ (q : Addr) (k : Nat) (ls : List Nat), vs = [.int (k : Int), .ref q] ∧ SqL K H q (ls.map nI) ∧ 1 ≤ k ∧ k ≤ 26 ∧ (∀ l ∈ ls, 1 ≤ l ∧ l ≤ 100) ∧ ls.length ≤ 1000 ∧
  (fullV k ls (maxN ls) = true → ∀ (o dx : Addr) (H' : Hp), H o = none → Ex H H' → H' o = some (.ins aFu dx []) → Q (.ref o) H') ∧
  (fullV k ls (maxN ls) = false → ∀ (o dx l : Addr) (H' : Hp) (ws : List Wd), H o = none → H l = none → l ≠ o → Ex H H' → H' o = some (.ins aWo dx [("words", .ref l)]) → H' l = some (.lst (ws.map tx)) → WordsOk k ls ws → Q (.ref o) H')
theorem ok_of_lengths {aWo aFu : Addr} (D : DefAt K mg "of_lengths" s_of_lengths ["letters", "lengths"]) (T : Blt mg) (TLong : ∃ u, mg "LONGEST" = some u ∧ RelV (.int 100) u) (C_is_number : Cal P w K mg base 1 "is_number" spIsNumber) (C_written : Cal P w K mg base 1 "written" spWritten)
    (K_Full : Mk0At K mg "Full" aFu) (M_Full_shows : MCal P w K mg base 1 aFu "shows" (spFullShows K aFu)) (K_Words : MkAt P w K mg base 1 "Words" aWo (spIni1 K aWo "words")) : Cal P w K mg base 3 "of_lengths" (spOfLengths K aWo aFu) := by
  refine cal_of D sc_of_lengths (fun vs H Q E h => ?_) (fun f cdv A outer s H vs Q E hr h => ?_)
  · obtain ⟨q, k, ls, rfl, _⟩ := h; rfl
  · obtain ⟨q, k, ls, rfl, hq, hk1, hk2, hl, hn, k1, k2⟩ := h
    refine ⟨_, (pss_cons (ps_if (PW.pt (pw_or (pt_not (pt_val (pe_c C_is_number hr (by decide) (by rfl) (pa_cons (pv 0) (pa_cons pe_int (pa_cons (pe_callB call_len_str (by rfl) T.len (by decide +kernel) (pa_cons (pe_gv (by rfl) T.LETTERS) pa_nil)) pa_nil)))))) (pw_or1 (pt_not (pt_val (pe_callB (call_isiK' (K := K) rfl) (by rfl) T.isinstance (by decide +kernel) (pa_cons (pv 1) (pa_cons (pe_bltn (v := .ty "list") (by rfl) T.list (by decide +kernel) rfl) pa_nil)))))))) (pss_one ps_never) pss_nil)
      (pss_cons (ps_if (pt_not (pt_val (pe_callB (cr_allK (K := K) rfl rfl) (by rfl) T.all (by decide +kernel) (pa_cons (pe_lc (own := [("length", 2)]) rfl sc_of_lengths.nd (pi_listK (K := K) rfl (pv 1)) (blkOk_by (own := [("length", 2)]) (N := N_of_lengths) (sc := defScope s_of_lengths) (by decide +kernel)) (fun _ _ _ _ _ => (pg_name (i := 2) sc_of_lengths.nd rfl (.inl rfl))) (fun _ _ _ _ _ => pts_nil) (fun _ _ _ _ _ => (pe_c C_is_number hr (by decide) (by rfl) (pa_cons (pv 2) (pa_cons pe_int (pa_cons (pe_gv (by rfl) TLong) pa_nil)))))) pa_nil)))) (pss_one ps_never) pss_nil)
      (pss_cons (ps_if (pt_val (pe_mth M_Full_shows hr (by decide) (pe_mk0 K_Full (by rfl)) (pa_cons (pv 0) (pa_cons (pv 1) pa_nil)))) (pss_one (ps_ret (pe_mk0 K_Full (by rfl)))) pss_nil)
      (pss_cons (ps_setLc (i := 3) (own := [("length", 2)]) rfl sc_of_lengths.nd rfl rfl (sw_true rfl rfl rfl (by decide +kernel)) (pi_listK (K := K) rfl (pv 1)) (blkOk_by (own := [("length", 2)]) (N := N_of_lengths) (sc := defScope s_of_lengths) (by decide +kernel)) (fun _ _ _ _ _ => (pg_name (i := 2) sc_of_lengths.nd rfl (.inl rfl))) (fun _ _ _ _ _ => pts_nil) (fun _ _ _ _ _ => pe_str))
      (pss_cons (ps_set (i := 4) sc_of_lengths.nd rfl (.inl rfl) pe_int)
      (pss_cons (ps_set (i := 5) sc_of_lengths.nd rfl (.inl rfl) pe_int)
      (pss_cons (ps_for PassesOwn.never rfl (pi_listK (K := K) rfl (pe_callB (cr_sortedPOK (K := K) rfl) (by rfl) T.sorted (by decide +kernel) (pa_cons (pe_lc (own := [("place", 6), ("length", 2)]) rfl sc_of_lengths.nd (pi_enumK (K := K) rfl (by rfl) T.enumerate (pa_cons (pv 1) pa_nil)) (blkOk_by (own := [("place", 6), ("length", 2)]) (N := N_of_lengths) (sc := defScope s_of_lengths) (by decide +kernel)) (fun _ _ _ _ _ => (pg_tupK (K := K) (n := 2) rfl rfl (pgs_cons (pg_name (i := 6) sc_of_lengths.nd rfl (.inl rfl)) (pgs_cons (pg_name (i := 2) sc_of_lengths.nd rfl (.inl rfl)) pgs_nil)))) (fun _ _ _ _ _ => pts_nil) (fun _ _ _ _ _ => (pe_tup (pa_cons (pv 2) (pa_cons (pv 6) pa_nil))))) pa_nil))) (pg_tupK (K := K) (n := 2) rfl rfl (pgs_cons (pg_name (i := 2) sc_of_lengths.nd rfl (.inl rfl)) (pgs_cons (pg_name (i := 6) sc_of_lengths.nd rfl (.inl rfl)) pgs_nil))) (pss_cons (ps_for PassesOwn.never rfl (pi_range1 (by rfl) T.range (pa_cons (pe_op op_sub (pv 2) (pv 5)) pa_nil)) (pg_name (i := 7) sc_of_lengths.nd rfl (.inl rfl)) (pss_one (ps_set (i := 4) sc_of_lengths.nd rfl (.inl rfl) (pe_op op_mul (pv 4) (pv 0)))))
      (pss_cons (ps_set (i := 5) sc_of_lengths.nd rfl (.inl rfl) (pv 2))
      (pss_cons (ps_asg (pe_c C_written hr (by decide) (by rfl) (pa_cons (pv 4) (pa_cons (pv 0) (pa_cons (pv 2) pa_nil)))) (pg_sub (pv 3) (pv 6) set_list))
      (pss_one (ps_set (i := 4) sc_of_lengths.nd rfl (.inl rfl) (pe_op op_add (pv 4) pe_int)))))))
      (pss_one (ps_ret (pe_mk K_Words hr (by decide) (by rfl) (pa_cons (pv 3) pa_nil))))))))))), ?_⟩
    have hlm : ∀ l ∈ ls, l ≤ 1000 := fun l h => by have := hl l h; omega
    refine q_skip (et_is (et_or (et_not (et_B (ev_call (vs := [.int (k : Int), .int 1, .int 26]) (ea_cons (ev_var rfl) (ea_cons ev_c (ea_cons (ev_is (ev_lenS (a := abc) ev_cS (by decide +kernel)) (congrArg V.int (by decide +kernel))) ea_nil))) sv_is_number))) fun _ => et_not (et_B (ev_isi (b := true) (ev_var rfl) ev_c (ty_list hq) (kit_ty (by decide +kernel))))) (by
      rw [decide_eq_true (show (1 : Int) ≤ (k : Int) by omega), decide_eq_true (show (k : Int) ≤ 26 by omega)]; rfl)) fun H1 e1 => ?_
    refine q_skip (et_is (et_not (et_B (ev_all (el_mapB (φ := nI) (g := fun n : Nat => decide ((1 : Int) ≤ (n : Int)) && decide ((n : Int) ≤ 100)) (ev_var rfl) (ex_l e1 hq) (by omega) (fun _ => rfl) fun n hn' => ev_call (vs := [.int (n : Int), .int 1, .int 100]) (ea_cons (ev_var rfl) (ea_cons ev_c (ea_cons ev_c ea_nil))) sv_is_number)))) (by
      have : (ls.map fun n : Nat => decide ((1 : Int) ≤ (n : Int)) && decide ((n : Int) ≤ 100)).all id = true := by
        rw [List.all_map, List.all_eq_true]
        intro n hn'
        have := hl n hn'
        show (decide ((1 : Int) ≤ (n : Int)) && decide ((n : Int) ≤ 100)) = true
        rw [decide_eq_true (show (1 : Int) ≤ (n : Int) by omega), decide_eq_true (show (n : Int) ≤ 100 by omega)]; rfl
      rw [this]; rfl)) fun H2 e2 => ?_
    have ex2 := e1.trans e2
    refine q_when (et_B (ev_mthP (vs := [.int (k : Int), .ref q]) (v := .bl (fullV k ls (maxN ls))) ep_mk0 (ea_cons (ev_var rfl) (ea_cons (ev_var rfl) ea_nil)) fun o H3 e3 H4 e4 Q' q' E' => ⟨o, q, k, ls, rfl, ex_l ((ex2.trans e3).trans e4) hq, hk1, hk2, hlm, q'⟩)) (fun hf H3 e3 => ?_) (fun hf H3 e3 => ?_)
    · intro x dx nx nd ne
      have nu : upd H3 dx (.own x) x = none := by rw [upd_ne (Ne.symm ne)]; exact nx
      exact k1 hf x dx _ (fresh_back (ex2.trans e3) nx) ((ex2.trans e3).trans ((Ex.new nd).trans (Ex.new nu))) upd_same
    · have ex3 := ex2.trans e3
      refine q_asgL (xs := (ls.map fun _ => ([] : Wd)).map tx) (el_mapS (φ := nI) (g := fun _ => []) (ev_var rfl) (ex_l ex3 hq) (by omega) (fun _ => rfl) fun _ _ => ev_is ev_cS (congrArg tx codes_nil)) fun fo H4 nfo e4 hfo => ?_
      refine q_asg (v := .int ((0 : Nat) : Int)) ev_c fun H5 e5 => q_asg (v := .int ((0 : Nat) : Int)) ev_c fun H6 e6 => ?_
      have e46 := e5.trans e6
      have ex6 := (ex3.trans e4).trans e46
      have hfo6 := e46 fo _ hfo
      refine q_forX (ex_sortedP (n := (ls.map nI).length) (f := fI ls) (elt_enum (xs := ls.map nI) (fun i => [.int (fI ls i).1, .int (fI ls i).2]) (ev_var rfl) (ex_l ex6 hq) (by rw [List.length_map]; omega) (fun _ _ => rfl) fun i x hx => ?_)) fun p H7 vs np e7 hp hR => ?_
      · have hil : i < ls.length := by
          have := (List.getElem?_eq_some_iff.mp hx).1
          rwa [List.length_map] at this
        have hxe : x = .int (fI ls i).1 := by
          rw [List.getElem?_map, List.getElem?_eq_getElem hil] at hx
          have := (Option.some.inj hx).symm
          rw [this]
          simp [fI, nI, List.getD, hil]
        subst hxe
        exact eu_tup (ea_cons (ev_var rfl) (ea_cons (ev_var rfl) ea_nil)) (by simp)
      · obtain ⟨ts, ps, rfl, htl, hperm, hsort, hts⟩ := hR
        rw [List.length_map] at hperm
        have hpsl : ps.length = ls.length := by
          have := hperm.length_eq
          rwa [List.length_map, List.length_range] at this
        have hxl := lenP_sort hsort
        have hpm : ∀ (i : Nat) (pp : Int × Int), ps[i]? = some pp → ∃ a, a < ls.length ∧ pp = fI ls a := fun i pp h => by
          obtain ⟨a, ha, e⟩ := List.mem_map.mp (hperm.mem_iff.mp (List.mem_of_getElem? h))
          exact ⟨a, List.mem_range.mp ha, e.symm⟩
        have hlg : ∀ a, a < ls.length → 1 ≤ ls.getD a 0 ∧ ls.getD a 0 ≤ 100 := fun a ha => by
          have : ls.getD a 0 = ls[a] := by simp [List.getD, ha]
          rw [this]; exact hl _ (List.getElem_mem ha)
        have hfo7 := e7 fo _ hfo6
        have hpf : p ≠ fo := fun z => by rw [z, hfo6] at np; cases np
        refine s_forL (a := p) (xs := ts.map V.ref) (D := ⟨_, Q, _, _⟩) ev_c (sq_of hp) (fun i σ' H' => ∃ (s2 s6 s7 : Option V) (num last : Nat) (wi : List Wd), Ex H3 H' ∧ H' p = some (.lst (ts.map V.ref)) ∧ (∀ (j : Nat) (t : Addr) (pp : Int × Int), ts[j]? = some t → ps[j]? = some pp → H' t = some (.tup [.int pp.1, .int pp.2])) ∧
          H' fo = some (.lst (wi.map tx)) ∧ wi.length = ls.length ∧ (∀ (j : Nat) (pp : Int × Int) (nn : Nat), j < i → ps[j]? = some pp → (go k (lenP ps) 0 0)[j]? = some nn → wi[pp.2.toNat]? = some (wr k nn pp.1.toNat)) ∧
          (go k (lenP ps) 0 0).drop i = go k ((lenP ps).drop i) num last ∧ (∀ l ∈ (lenP ps).drop i, last ≤ l) ∧ last ≤ 100 ∧ σ' = [some (.int (k : Int)), some (.ref q), s2, some (.ref fo), some (.int (num : Int)), some (.int (last : Int)), s6, s7])
          (fun H8 e8 => ⟨_, _, _, 0, 0, ls.map fun _ => [], ((e4.trans e46).trans e7).trans e8, e8 p _ hp, fun j t pp h1 h2 => e8 t _ (hts j t pp h1 h2), e8 fo _ hfo7, by rw [List.length_map], fun j pp nn hj => absurd hj (Nat.not_lt_zero _), rfl, by simp, by omega, rfl⟩)
          (fun i σ' H' _ hP => by obtain ⟨_, _, _, _, _, _, _, h, _⟩ := hP; exact sq_of h) (fun i x σ' H' hx hP => ?_) (fun σ' H' hP => ?_)
        · obtain ⟨s2, s6, s7, num, last, wi, ex, hpp, htt, hfoi, hwl, hw, hgo, hlast, hlb, rfl⟩ := hP
          have hit : i < ts.length := by
            have := (List.getElem?_eq_some_iff.mp hx).1
            rwa [List.length_map] at this
          have hti : ts[i]? = some ts[i] := List.getElem?_eq_getElem hit
          have hxe : x = .ref ts[i] := by
            rw [List.getElem?_map, hti] at hx
            exact (Option.some.inj hx).symm
          subst hxe
          have hip : i < ps.length := by omega
          have hpi : ps[i]? = some ps[i] := List.getElem?_eq_getElem hip
          obtain ⟨a, ha, hpa⟩ := hpm i _ hpi
          have htup := htt i _ _ hti hpi
          rw [hpa] at hpi htup
          obtain ⟨hg1, hg2⟩ := hlg a ha
          generalize hlv : ls.getD a 0 = l at *
          have hfa : fI ls a = ((l : Int), (a : Int)) := by unfold fI; rw [hlv]
          rw [hfa] at hpi htup
          have hli : (lenP ps)[i]? = some l := by
            unfold lenP
            rw [List.getElem?_map, hpi]
            simp
          have hilp : i < (lenP ps).length := (List.getElem?_eq_some_iff.mp hli).1
          have hdr : (lenP ps).drop i = l :: (lenP ps).drop (i + 1) := by
            rw [← List.getElem_cons_drop hilp]
            congr 1
            rw [List.getElem?_eq_getElem hilp] at hli
            exact Option.some.inj hli
          rw [hdr] at hgo hlast
          have hll : last ≤ l := hlast l (by simp)
          have hni : (go k (lenP ps) 0 0)[i]? = some (num * k ^ (l - last)) := by
            have := congrArg (fun xs : List Nat => xs[0]?) hgo
            simpa [go] using this
          have hgo2 : (go k (lenP ps) 0 0).drop (i + 1) = go k ((lenP ps).drop (i + 1)) (num * k ^ (l - last) + 1) l := by
            have := congrArg List.tail hgo
            rw [List.tail_drop] at this
            exact this
          refine ⟨ts[i], [.int (l : Int), .int (a : Int)], rfl, st_of htup, rfl, _, _, rfl, _, _, rfl, rfl, ?_⟩
          have edl : (l : Int) - (last : Int) = ((l - last : Nat) : Int) := by omega
          refine q_forR1 (n := ((l - last : Nat) : Int)) (ea_cons (ev_is (ev_op (ev_var rfl) (ev_var rfl) rv_sub) (congrArg V.int edl)) ea_nil) ⟨by omega, by omega⟩ (fun i2 σ2 H2 => ∃ s7, Ex H' H2 ∧ σ2 = [some (.int (k : Int)), some (.ref q), some (.int (l : Int)), some (.ref fo), some (.int ((num * k ^ i2 : Nat) : Int)), some (.int (last : Int)), some (.int (a : Int)), s7])
            (fun H8 e8 => ⟨s7, e8, by rw [Nat.pow_zero, Nat.mul_one]; rfl⟩) (fun i2 σ2 H2 hi2 hP => ?_) (fun σ2 H2 hP => ?_)
          · obtain ⟨s7, ex2, rfl⟩ := hP
            refine s_asg (v := .int ((num * k ^ (i2 + 1) : Nat) : Int)) (ev_is (ev_op (ev_var rfl) (ev_var rfl) (rv_mul (.inr ⟨by omega, by omega⟩))) (congrArg V.int (by rw [Nat.pow_succ, ← Nat.mul_assoc]; push_cast; rfl))) fun H8 e8 => ⟨_, ex2.trans e8, rfl⟩
          · obtain ⟨s7, ex2, rfl⟩ := hP
            have e0 : ((l - last : Nat) : Int).toNat = l - last := by omega
            rw [e0]
            refine q_asg (v := .int (l : Int)) (ev_var rfl) fun H8 e8 => ?_
            have ex8 := ex2.trans e8
            have hfo8 := ex8 fo _ hfoi
            refine q_setL (j := a) (xs := wi.map tx) (v := tx (wr k (num * k ^ (l - last)) l)) hfo8 (ev_call (vs := [.int ((num * k ^ (l - last) : Nat) : Int), .int (k : Int), .int (l : Int)]) (by walk_at "ea") (sv_written hk1 hk2 (by omega))) (ev_var rfl) (ev_var rfl) (by rw [List.length_map]; omega) fun H9 e9 => ?_
            have hset : (wi.map tx).set a (tx (wr k (num * k ^ (l - last)) l)) = (wi.set a (wr k (num * k ^ (l - last)) l)).map tx := by rw [List.map_set]
            have ex9 := ex8.trans e9
            refine s_asg (v := .int ((num * k ^ (l - last) + 1 : Nat) : Int)) (ev_op (ev_var rfl) ev_c rv_add) fun H10 e10 => ?_
            have hne : ∀ t u, H9 t = some (.tup u) → t ≠ fo := fun t u h z => by rw [z, e9 fo _ hfo8] at h; cases h
            refine ⟨_, _, _, num * k ^ (l - last) + 1, l, wi.set a (wr k (num * k ^ (l - last)) l), (Ex.mut (ex.trans ex9) (fresh_back (ex3.trans (Ex.refl _)) nfo |> fun _ => nfo)).trans e10, e10 p _ (by rw [upd_ne hpf]; exact ex9 p _ hpp), fun j t pp h1 h2 => e10 t _ (by
              have := ex9 t _ (htt j t pp h1 h2)
              rw [upd_ne (hne t _ this)]; exact this), e10 fo _ (by rw [upd_same, hset]), by rw [List.length_set]; exact hwl, fun j pp nn hj h1 h2 => ?_, hgo2, ?_, by omega, rfl⟩
            · rcases Nat.lt_or_ge j i with hji | hji
              · have hne2 : pp.2.toNat ≠ a := fun z => by
                  obtain ⟨a2, ha2, hpa2⟩ := hpm j pp h1
                  subst hpa2
                  have : a2 = a := by simpa [fI] using z
                  subst this
                  have hnd : ps.Nodup := by
                    refine hperm.nodup_iff.mpr ?_
                    show List.Pairwise _ _
                    rw [List.pairwise_map]
                    refine List.Pairwise.imp ?_ (List.nodup_range (n := ls.length))
                    intro x y hxy e
                    have := congrArg Prod.snd e
                    exact hxy (Int.ofNat.inj this)
                  have h3 : ps[j]? = ps[i]? := by rw [h1, hpi, hfa]
                  have := (List.getElem?_inj (by omega) hnd).mp h3
                  omega
                rw [List.getElem?_set_ne (Ne.symm hne2)]
                exact hw j pp nn hji h1 h2
              · have : j = i := by omega
                subst this
                rw [hpi] at h1
                rw [hni] at h2
                cases h1
                cases h2
                show (wi.set a _)[((a : Int)).toNat]? = some (wr k _ ((l : Int)).toNat)
                have e1' : ((a : Int)).toNat = a := by omega
                have e2' : ((l : Int)).toNat = l := by omega
                rw [e1', e2', List.getElem?_set_self (by omega)]
            · intro l2 hl2
              rw [List.pairwise_iff_getElem] at hxl
              obtain ⟨j2, hj2⟩ := List.mem_iff_getElem?.mp hl2
              rw [List.getElem?_drop] at hj2
              obtain ⟨h5, h6⟩ := List.getElem?_eq_some_iff.mp hj2
              obtain ⟨h7, h8⟩ := List.getElem?_eq_some_iff.mp hli
              have := hxl i (i + 1 + j2) h7 h5 (by omega)
              omega
        · obtain ⟨s2, s6, s7, num, last, wi, ex, hpp, htt, hfoi, hwl, hw, hgo, hlast, hlb, rfl⟩ := hP
          rw [List.length_map] at hw
          refine s_retB (eb_make (eqx_of (eq_at (ev_var rfl) (sq_of hfoi)))) fun o dx l H9 xs hxs no nl hlo e9 ho hl9 => ?_
          subst hxs
          exact k2 hf o dx l H9 wi (fresh_back (ex3.trans ex) no) (fresh_back (ex3.trans ex) nl) hlo ((ex3.trans ex).trans e9) ho hl9 (words_ok hk1 hk2 hperm hsort (fun l h => (hl l h).1) hf hwl fun j pp nn h1 h2 => hw j pp nn (by rw [htl]; exact (List.getElem?_eq_some_iff.mp h1).1) h1 h2)
end
end Tr

set_option Elab.async false
set_option linter.all false
set_option maxRecDepth 100000
set_option maxHeartbeats 4000000
namespace Tr
open PySem PySem.Spec PyProof.Rows L2 Evl
open M3 (wat joinW pre)
open M5 (wr go Free fullV)
abbrev s__law_words : Stmt := topS 28
abbrev N__law_words : List Str := ["_law_letters", "_law_lengths", "_law_words_here", "_law_rising", "_law_word", "_law_at"]
theorem sc__law_words : FnScope N__law_words ["_law_letters", "_law_lengths", "_law_words_here"] (defScope s__law_words) := ⟨rfl, rfl, rfl, by decide +kernel, rfl, by decide +kernel, by decide +kernel⟩
abbrev s__law_full : Stmt := topS 29
abbrev N__law_full : List Str := ["_law_letters", "_law_lengths", "_law_taken", "_law_whole", "_law_length"]
theorem sc__law_full : FnScope N__law_full ["_law_letters", "_law_lengths"] (defScope s__law_full) := ⟨rfl, rfl, rfl, by decide +kernel, rfl, by decide +kernel, by decide +kernel⟩
abbrev s_law : Stmt := topS 30
abbrev N_law : List Str := ["_law_script", "_law_mixed", "_law_letters", "_law_lengths", "_law_some", "_law_handed", "_law_found", "_law_more", "_law_cell", "_law_length"]
theorem sc_law : FnScope N_law ["_law_script"] (defScope s_law) := ⟨rfl, rfl, rfl, by decide +kernel, rfl, by decide +kernel, by decide +kernel⟩
local macro_rules | `(tactic| walk_at "sd") => `(tactic| first | assumption | rfl | omega | decide | (solve_by_elim) | (refine Nat.le_trans (m := 1000) (by solve_by_elim) (by decide)))
local macro_rules | `(tactic| walk_at "rv") => `(tactic| first
  | exact rv_add | exact rv_sub | exact rv_lt | exact rv_le | exact rv_gt | exact rv_ge | exact rv_eqI | exact rv_eqS | exact rv_eqB | exact rv_neI | exact rv_neS | exact rv_neB
  | exact rv_mod (by walk_at "sd") | exact rv_fdiv (by first | assumption | exact ⟨by omega, by omega⟩) | exact rv_addS (by walk_at "sd") | exact rv_isB | exact rv_notB | assumption)
local macro_rules | `(tactic| walk_at "ea") => `(tactic| first
  | exact ea_nil
  | (refine' ea_cons ?k1 ?k2; (case k1 => walk_at "ev"); (case k2 => walk_at "ea")))
local macro_rules | `(tactic| walk_at "eo") => `(tactic| first
  | exact eo_none
  | (refine' eo_some ?k1; (case k1 => walk_at "ev")))
local macro_rules | `(tactic| walk_at "et") => `(tactic| first
  | (refine' et_test ?k1; (case k1 => walk_at "ev"))
  | (refine' et_B ?k1; (case k1 => walk_at "ev"))
  | (refine' et_and ?k1 ?k2; (case k1 => walk_at "et"); (case k2 => (intro _; walk_at "et")))
  | (refine' et_or ?k1 ?k2; (case k1 => walk_at "et"); (case k2 => (intro _; walk_at "et")))
  | (refine' et_not ?k1; (case k1 => walk_at "et"))
  | assumption)
local macro_rules | `(tactic| walk_at "ev") => `(tactic| first
  | assumption
  | exact ev_cS
  | exact ev_c
  | exact ev_var rfl
  | (refine' ev_op ?k1 ?k2 ?k3; (case k1 => walk_at "ev"); (case k2 => walk_at "ev"); (case k3 => walk_at "rv"))
  | (refine' ev_un ?k1 ru_neg; (case k1 => walk_at "ev"))
  | (refine' ev_chain ?k1 ?k2 ?k3 ?k4 ?k5; (case k1 => walk_at "ev"); (case k2 => walk_at "ev"); (case k3 => walk_at "ev"); (case k4 => walk_at "rv"); (case k5 => (intro _; walk_at "rv")))
  | (refine' ev_slS ?k1 ?k2 ?k3 ?k4; (case k1 => walk_at "ev"); (case k2 => walk_at "eo"); (case k3 => walk_at "eo"); (case k4 => walk_at "sd"))
  | (refine' ev_lenS ?k1 ?k2; (case k1 => walk_at "ev"); (case k2 => walk_at "sd"))
  | (refine' ev_len' ?k1 ?k2; (case k1 => walk_at "ev"); (case k2 => walk_at "sd"))
  | (refine' ev_strip ?k1 ?k2 ?k3; (case k1 => walk_at "ev"); (case k2 => walk_at "ev"); (case k3 => walk_at "sd"))
  | (refine' ev_sum ?k1 ?k2; (case k1 => walk_at "ev"); (case k2 => walk_at "sd"))
  | (refine' ev_isi ?k1 ?k2 ?k3 ?k4; (case k1 => walk_at "ev"); (case k2 => walk_at "ev"); (case k3 => first | exact ty_int | exact ty_bl | exact ty_str | exact ty_list (by walk_at "sd")); (case k4 => first | exact kit_ty (r := true) (by decide +kernel) | exact kit_ty (r := false) (by decide +kernel)))
  | (refine' ev_andV ?k1 ?k2; (case k1 => walk_at "ev"); (case k2 => (intro _; walk_at "ev")))
  | (refine' ev_orV ?k1 ?k2; (case k1 => walk_at "ev"); (case k2 => (intro _; walk_at "ev")))
  | (refine' ev_notV ?k1; (case k1 => walk_at "ev"))
  | (refine' ev_call ?k1 ?k2; (case k1 => walk_at "ea"); (case k2 => walk_at "sv")))
local macro_rules | `(tactic| walk_at "el") => `(tactic| first
  | assumption
  | (refine' el_mapB ?k1 ?k2 ?k3 (fun _ => rfl) ?k5; (case k1 => walk_at "ev"); (case k2 => walk_at "sd"); (case k3 => walk_at "sd"); (case k5 => (intro _ _; walk_at "ev")))
  | (refine' el_mapI ?k1 ?k2 ?k3 (fun _ => rfl) ?k5; (case k1 => walk_at "ev"); (case k2 => walk_at "sd"); (case k3 => walk_at "sd"); (case k5 => (intro _ _; walk_at "ev")))
  | (refine' el_mapS ?k1 ?k2 ?k3 (fun _ => rfl) ?k5; (case k1 => walk_at "ev"); (case k2 => walk_at "sd"); (case k3 => walk_at "sd"); (case k5 => (intro _ _; walk_at "ev"))))
local macro_rules | `(tactic| walk_at "ev") => `(tactic| first
  | (refine' ev_all ?k1; (case k1 => walk_at "el"))
  | (refine' ev_any ?k1; (case k1 => walk_at "el"))
  | (refine' ev_sumN ?k1; (case k1 => walk_at "el"))
  | (refine' ev_join ?k1 ?k2 ?k3; (case k1 => exact ev_is ev_cS (congrArg tx codes_nil)); (case k2 => walk_at "el"); (case k3 => walk_at "sd")))

section
variable {K : PySem.W.Frag} {σ : L2.St} {H H' : Hp} {ta tb te : TE} {v : V}
theorem ev_ixU {xs : List V} {i : Int} (ha : EvU ta σ H xs) (hi : Ev tb σ H (.int i)) (h : atI xs i = some v) : Ev (tOp (rIxT K) ta tb) σ H v := fun H1 e Q q =>
  ha H1 e _ fun p H2 _ e2 h2 => hi H2 (e.trans e2) _ fun H3 e3 => rv_ixT (st_of (e3 p _ h2)) h H3 (Ex.refl H3) Q fun H4 e4 => q H4 ((e2.trans e3).trans e4)
theorem cutV_to (xs : List V) (j : Nat) : cutV xs none (some (j : Int)) = xs.take j := by
  unfold cutV
  rw [HT.sIx_nat, HT.sIx_none]
  show (xs.drop 0).take (min j xs.length - 0) = _
  rw [List.drop_zero, Nat.sub_zero]
  rcases Nat.le_total j xs.length with h | h
  · rw [Nat.min_eq_left h]
  · rw [Nat.min_eq_right h, List.take_of_length_le (Nat.le_refl _), List.take_of_length_le h]
theorem cut1 (a : Wd) (n : Nat) : cutW a none (some (n : Int)) = a.take n := cut_to a n
theorem ev_isP {T : Addr} {tv : Value} {b : Bool} {B : Hp → V → Prop} (h : EvP ta σ H B) (hx : ∀ H1 v, B H1 v → TyX K H1 v tv) (u : Up B) (hc : Ev tb σ H (.ref T)) (e : PySem.W.kitOne K tv (.ref T) = some b) : Ev (tCB (rIsi K) (tCons ta (tCons tb tNil))) σ H (.bl b) := fun H1 e1 Q q =>
  h H1 e1 _ fun v H2 e2 hb => hc H2 (e1.trans e2) _ fun H3 e3 => ⟨v, .ref T, tv, .ref T, b, rfl, .own T, hx H3 v (u _ _ _ e3 hb), e, q H3 (e2.trans e3)⟩
theorem el_catV {σ : L2.St} {ta tb : TE} {a : Addr} {xs ys : List V} (ha : Ev ta σ H (.ref a)) (hx : H a = some (.lst xs)) (hb : EvL tb σ H ys) (hz : xs.length + ys.length ≤ 100000) : EvL (tOp rCat ta tb) σ H (xs ++ ys) := fun H1 e Q q =>
  ha H1 e _ fun H2 e2 => hb H2 (e.trans e2) _ fun p H3 np e3 h3 => ⟨a, p, xs, ys, rfl, rfl, ((e.trans e2).trans e3) a _ hx, h3, sz_of hz, fun p2 np2 => q p2 _ (fresh_back (e2.trans e3) np2) ((e2.trans e3).trans (Ex.new np2)) upd_same⟩
end
/-! ### what the law asks of the words -/
theorem wordsV_of {k : Nat} {ls : List Nat} {ws : List Wd} (h : WordsOk k ls ws) : wordsV k ls ws = true := by
  unfold wordsV
  rw [decide_eq_true h.len, List.all_eq_true.mpr h.let_, M5.adj_free (M5.free_perm (sortW_of ws).perm.symm h.free)]
  rfl
theorem wordsV_more {k : Nat} {ls : List Nat} {ws : List Wd} (h : WordsOk k ls ws) (n : Nat) : wordsV k (ls ++ [n]) ws = false := by
  unfold wordsV
  have : ¬ ws.map List.length = ls ++ [n] := fun e => by
    have h1 := congrArg List.length e
    rw [h.len, List.length_append, List.length_singleton] at h1
    omega
  rw [decide_eq_false this]; rfl
theorem cl_free {ws : List Wd} (f : Free ws) : M1.Cl ws (fun _ => False) where
  ne := fun z => z
  first := fun i j hi hj hij h => by
    have h1 : ws[i]? = some (wat ws i) := M3.wat_getElem hi
    have h2 : ws[j]? = some (wat ws j) := M3.wat_getElem hj
    rw [M5.free_get f hij h1 h2] at h
    cases h
  fwd := fun _ z => z.elim
  bwd := fun _ z => z.elim
theorem no_clash {ws : List Wd} (f : Free ws) (hne : ∀ a ∈ ws, a ≠ []) (xs ys : List Int) : clV ws xs ys = false := by
  cases hc : clV ws xs ys with
  | false => rfl
  | true =>
    exfalso
    unfold clV at hc
    rw [Bool.and_eq_true, Bool.and_eq_true, Bool.and_eq_true] at hc
    obtain ⟨⟨⟨h1, h2⟩, h3⟩, h4⟩ := hc
    obtain ⟨_, a2⟩ := inR_nat h2
    obtain ⟨_, b2⟩ := inR_nat h3
    have := M1.unique hne (cl_free f) _ _ a2 b2 (of_decide_eq_true h4)
    have back : ∀ zs : List Int, inR ws.length zs = true → zs = (zs.map Int.toNat).map fun n : Nat => (n : Int) := fun zs hz => by
      unfold inR at hz
      rw [List.all_eq_true] at hz
      rw [List.map_map]
      conv => lhs; rw [← List.map_id zs]
      apply List.map_congr_left
      intro z hz'
      have := hz z hz'
      rw [Bool.and_eq_true] at this
      have h0 := of_decide_eq_true this.1
      show z = ((z.toNat : Nat) : Int)
      omega
    have e : xs = ys := by rw [back xs h2, back ys h3, this]
    rw [decide_eq_true e] at h1
    cases h1
/-- few proper ends -/
theorem suf_few {ws : List Wd} (h1 : ws.length ≤ 8) (h2 : ∀ a ∈ ws, a.length ≤ 8) : SufOk ws := by
  refine ⟨ws.flatMap fun a => (List.range 7).map fun j => a.drop (j + 1), ?_, fun a ha k hk hd => ?_⟩
  · rw [List.length_flatMap]
    have : (ws.map fun a => ((List.range 7).map fun j => a.drop (j + 1)).length) = ws.map fun _ => 7 := by
      apply List.map_congr_left
      intro a _
      simp
    rw [this, List.map_const', List.sum_replicate_nat]
    omega
  · have hl := h2 a ha
    have hk2 : k < a.length := by
      rcases Nat.lt_or_ge k a.length with h | h
      · exact h
      · exact absurd (List.drop_eq_nil_of_le h) hd
    refine List.mem_flatMap.mpr ⟨a, ha, List.mem_map.mpr ⟨k - 1, List.mem_range.mpr (by omega), ?_⟩⟩
    congr 1; omega
def LsOk (ls : List Nat) : Prop := (∀ l ∈ ls, 1 ≤ l ∧ l ≤ 100) ∧ ls.length ≤ 63
/-- an answer at o: that they are too many, or the words, in the list at l -/
def LenAt (aWo aFu : Addr) (b : Bool) (H : Hp) (o l : Addr) (ws : List Wd) : Prop := if b then ∃ dx, H o = some (.ins aFu dx []) else ∃ dx, H o = some (.ins aWo dx [("words", .ref l)]) ∧ H l = some (.lst (ws.map tx))
theorem LenAt.ex {aWo aFu o l : Addr} {b : Bool} {H H' : Hp} {ws : List Wd} (e : Ex H H') (h : LenAt aWo aFu b H o l ws) : LenAt aWo aFu b H' o l ws := by
  cases b with
  | true => obtain ⟨dx, h1⟩ := h; exact ⟨dx, e o _ h1⟩
  | false => obtain ⟨dx, h1, h2⟩ := h; exact ⟨dx, e o _ h1, e l _ h2⟩
structure LenK (K : PySem.W.Frag) (aWo aFu aAns aBe aTl : Addr) : Prop where
  isW : ∀ b : Bool, PySem.W.kitOne K (.ref (if b then aFu else aWo)) (.ref aWo) = some (!b)
  isF : ∀ b : Bool, PySem.W.kitOne K (.ref (if b then aFu else aWo)) (.ref aFu) = some b
  isA : ∀ b : Bool, PySem.W.kitOne K (.ref (if b then aFu else aWo)) (.ref aAns) = some true
  isB : ∀ b : Bool, PySem.W.kitOne K (.ref (if b then aFu else aWo)) (.ref aBe) = some false
  isT : ∀ b : Bool, PySem.W.kitOne K (.ref (if b then aFu else aWo)) (.ref aTl) = some false
  cl : ∀ b : Bool, ClsI K (if b then aFu else aWo)
  n : NoAttr K aWo "words"
  clT : ClsI K aTl
  tT : PySem.W.kitOne K (.ref aTl) (.ref aTl) = some true
theorem LenAt.ty {K : PySem.W.Frag} {aWo aFu o l : Addr} {b : Bool} {H : Hp} {ws : List Wd} (h : LenAt aWo aFu b H o l ws) (c : ClsI K (if b then aFu else aWo)) : ∀ H1, Ex H H1 → TyX K H1 (.ref o) (.ref (if b then aFu else aWo)) := by
  cases b with
  | true => obtain ⟨dx, h1⟩ := h; exact ty_ins c h1
  | false => obtain ⟨dx, h1, h2⟩ := h; exact ty_ins c h1
def saysL (b : Bool) (k : Nat) (ls : List Nat) (ws : List Wd) : Bool := if b then fullV k ls (maxN ls) else wordsV k ls ws
section
variable {P : Program} {w : World} {K : PySem.W.Frag} {mg : Str → Option Value} {base : Heap} {H : Hp}
/-! ### _law_words, _law_full -/
def spLawWords (K : PySem.W.Frag) : Sp := fun vs H Q _ => ∃ (l q : Addr) (k : Nat) (ws : List Wd) (ls : List Nat), vs = [.int (k : Int), .ref q, .ref l] ∧ SqL K H l (ws.map tx) ∧ SqL K H q (ls.map nI) ∧ ws.length ≤ 1000 ∧ (∀ a ∈ ws, a.length ≤ 1000) ∧ ∀ H', Ex H H' → Q (.bl (wordsV k ls ws)) H'
theorem ok__law_words (D : DefAt K mg "_law_words" s__law_words ["_law_letters", "_law_lengths", "_law_words_here"]) (T : Blt mg) : Cal P w K mg base 1 "_law_words" (spLawWords K) := by
  refine cal_of D sc__law_words (fun vs H Q E h => ?_) (fun f cdv A outer s H vs Q E hr h => ?_)
  · obtain ⟨l, q, k, ws, ls, rfl, _⟩ := h; rfl
  · obtain ⟨l, q, k, ws, ls, rfl, hl, hq, hwn, hwa, kk⟩ := h
    refine ⟨_, (pss_cons (ps_if (PW.pt (pw_or (pt_not (pt_val (pe_callB (call_isiK' (K := K) rfl) (by rfl) T.isinstance (by decide +kernel) (pa_cons (pv 2) (pa_cons (pe_bltn (v := .ty "list") (by rfl) T.list (by decide +kernel) rfl) pa_nil))))) (pw_or1 (pt_not (pt_val (pe_callB (cr_allK (K := K) rfl rfl) (by rfl) T.all (by decide +kernel) (pa_cons (pe_lc (own := [("_law_word", 4)]) rfl sc__law_words.nd (pi_listK (K := K) rfl (pv 2)) (blkOk_by (own := [("_law_word", 4)]) (N := N__law_words) (sc := defScope s__law_words) (by decide +kernel)) (fun _ _ _ _ _ => (pg_name (i := 4) sc__law_words.nd rfl (.inl rfl))) (fun _ _ _ _ _ => pts_nil) (fun _ _ _ _ _ => (pe_callB (call_isiK' (K := K) rfl) (by rfl) T.isinstance (by decide +kernel) (pa_cons (pv 4) (pa_cons (pe_bltn (v := .ty "str") (by rfl) T.str (by decide +kernel) rfl) pa_nil))))) pa_nil))))))) (pss_one (ps_ret pe_bl)) pss_nil)
      (pss_cons (ps_if (pt_cmpR (op_neDK (K := K) rfl hr.units) (pe_lc (own := [("_law_word", 4)]) rfl sc__law_words.nd (pi_listK (K := K) rfl (pv 2)) (blkOk_by (own := [("_law_word", 4)]) (N := N__law_words) (sc := defScope s__law_words) (by decide +kernel)) (fun _ _ _ _ _ => (pg_name (i := 4) sc__law_words.nd rfl (.inl rfl))) (fun _ _ _ _ _ => pts_nil) (fun _ _ _ _ _ => (pe_callB call_len_str (by rfl) T.len (by decide +kernel) (pa_cons (pv 4) pa_nil)))) (pv 1) (nomark _)) (pss_one (ps_ret pe_bl)) pss_nil)
      (pss_cons (ps_if (pt_not (pt_val (pe_callB (cr_allK (K := K) rfl rfl) (by rfl) T.all (by decide +kernel) (pa_cons (pe_lc (own := [("_law_word", 4)]) rfl sc__law_words.nd (pi_listK (K := K) rfl (pv 2)) (blkOk_by (own := [("_law_word", 4)]) (N := N__law_words) (sc := defScope s__law_words) (by decide +kernel)) (fun _ _ _ _ _ => (pg_name (i := 4) sc__law_words.nd rfl (.inl rfl))) (fun _ _ _ _ _ => pts_nil) (fun _ _ _ _ _ => (pe_cmpR op_eq (pe_m1 PySem.F.slot_str_strip PySem.F.type_str_strip mt_stripChars (pv 4) (pe_slice sl_str pe_str po_none (po_some (pv 0)))) pe_str (nomark _)))) pa_nil)))) (pss_one (ps_ret pe_bl)) pss_nil)
      (pss_cons (ps_set (i := 3) sc__law_words.nd rfl (.inr rfl) (pe_callB (cr_sortedSA (K := K) rfl) (by rfl) T.sorted (by decide +kernel) (pa_cons (pv 2) pa_nil)))
      (pss_one (ps_ret (pe_not (pe_callB (cr_anyK (K := K) rfl rfl) (by rfl) T.any (by decide +kernel) (pa_cons (pe_lc (own := [("_law_at", 5)]) rfl sc__law_words.nd (pi_range1 (by rfl) T.range (pa_cons (pe_op op_sub (pe_callB (call_len_seqK (K := K) rfl) (by rfl) T.len (by decide +kernel) (pa_cons (pv 3) pa_nil)) pe_int) pa_nil)) (blkOk_by (own := [("_law_at", 5)]) (N := N__law_words) (sc := defScope s__law_words) (by decide +kernel)) (fun _ _ _ _ _ => (pg_name (i := 5) sc__law_words.nd rfl (.inl rfl))) (fun _ _ _ _ _ => pts_nil) (fun _ _ _ _ _ => (pe_cmpR op_eq (pe_slice sl_str (pe_ix (ix_listK (K := K) rfl) (pv 3) (pe_op op_add (pv 5) pe_int) (fun _ _ => rfl)) po_none (po_some (pe_callB call_len_str (by rfl) T.len (by decide +kernel) (pa_cons (pe_ix (ix_listK (K := K) rfl) (pv 3) (pv 5) (fun _ _ => rfl)) pa_nil)))) (pe_ix (ix_listK (K := K) rfl) (pv 3) (pv 5) (fun _ _ => rfl)) (nomark _)))) pa_nil))))))))), ?_⟩
    refine q_skip (et_is (et_or (et_not (et_B (ev_isi (b := true) (ev_var rfl) ev_c (ty_list hl) (kit_ty (by decide +kernel))))) fun _ => et_not (et_B (ev_all (el_mapB (φ := tx) (g := fun _ => true) (ev_var rfl) hl (by omega) (fun _ => rfl) fun t _ => ev_isi (ev_var rfl) ev_c ty_str (kit_ty (by decide +kernel)))))) (by rw [List.all_map]; simp)) fun H0 e0 => ?_
    have hl0 := ex_l e0 hl
    refine q_when (b := !decide (ws.map List.length = ls)) (et_is (et_B (ev_neQ (xs := List.map (fun n : Nat => (n : Int)) (ws.map List.length)) (ys := List.map (fun n : Nat => (n : Int)) ls) enc_int (eq_new (by
        have e : List.map (fun n : Nat => (n : Int)) (ws.map List.length) = ws.map fun a => (a.length : Int) := by rw [List.map_map]; rfl
        rw [e]
        exact el_mapI (φ := tx) (g := fun a : Wd => (a.length : Int)) (ev_var rfl) hl0 (by omega) (fun _ => rfl) fun a ha => ev_lenS (ev_var rfl) (by have := hwa a ha; omega))) (eq_at (ev_var rfl) (by rw [← map_nI]; exact ex_l e0 hq)) (by simp) (by simp))) (by rw [cast_eq])) (fun h0 H1 e1 => ?_) (fun h0 H1 e1 => ?_)
    · refine s_ret ev_c fun H2 e2 => ?_
      have := kk H2 ((e0.trans e1).trans e2)
      have h1 : decide (ws.map List.length = ls) = false := by
        cases hh : decide (ws.map List.length = ls) with
        | true => rw [hh] at h0; cases h0
        | false => rfl
      unfold wordsV at this
      rw [h1, Bool.false_and, Bool.false_and] at this
      exact this
    · have h1 : decide (ws.map List.length = ls) = true := by
        cases hh : decide (ws.map List.length = ls) with
        | true => rfl
        | false => rw [hh] at h0; cases h0
      refine q_when (b := !ws.all (letK k)) (et_is (et_not (et_B (ev_all (el_mapB (φ := tx) (g := letK k) (ev_var rfl) (ex_l e1 hl0) (by omega) (fun _ => rfl) fun a ha => ?_)))) (by rw [List.all_map]; rfl)) (fun h2 H2 e2 => ?_) (fun h2 H2 e2 => ?_)
      · have hal := hwa a ha
        refine ev_is (ev_op (ev_strip (b := abc.take k) (ev_var rfl) (ev_is (ev_slS (a := abc) ev_cS eo_none (eo_some (ev_var rfl)) (by decide +kernel)) (congrArg tx (cut_to abc k))) (by omega)) ev_cS rv_eqS) ?_
        rw [strip_K]
      · refine s_ret ev_c fun H3 e3 => ?_
        have := kk H3 (((e0.trans e1).trans e2).trans e3)
        have h3 : ws.all (letK k) = false := by
          cases hh : ws.all (letK k) with
          | true => rw [hh] at h2; cases h2
          | false => rfl
        unfold wordsV at this
        rw [h3, Bool.and_false, Bool.false_and] at this
        exact this
      · have h3 : ws.all (letK k) = true := by
          cases hh : ws.all (letK k) with
          | true => rfl
          | false => rw [hh] at h2; cases h2
        have ex2 := (e0.trans e1).trans e2
        refine q_asgXs (ex_sorted (ev_var rfl) (ex_l ex2 hl)) fun p H3 vs np e3 hp hss => ?_
        obtain ⟨ss, hss, rfl⟩ := hss
        have hse := sort_uniq hss (sortW_of ws)
        subst hse
        have hln := sortW_len ws
        have hsm : ∀ a ∈ sortW ws, a.length ≤ 1000 := fun a ha => hwa a ((sortW_of ws).perm.mem_iff.mp ha)
        have hnl : ∀ σ : L2.St, σ[3]? = some (some (.ref p)) → Ev (tCB (rLenQ K) (tCons (tVar 3) tNil)) σ H3 (.int (((sortW ws).length : Nat) : Int)) := fun σ h3 => by
          have := ev_len' (K := K) (ev_var (H := H3) h3) (sq_of hp)
          rwa [List.length_map] at this
        obtain ⟨_, _, hlc⟩ := ea_n1 (H := H3) (hnl [some (.int (k : Int)), some (.ref q), some (.ref l), some (.ref p), none, none] rfl) (by omega)
        refine s_ret (v := .bl (!M5.adj (sortW ws))) (ev_notV (ev_is (ev_any (hlc (g := fun i => pre ((sortW ws).getD i []) ((sortW ws).getD (i + 1) [])) (fun _ => rfl) fun i hi => ?_)) (congrArg V.bl (by rw [List.any_map]; rfl)))) fun H4 e4 => ?_
        · have l1 := hsm _ (getD_mem (show i < (sortW ws).length by omega))
          have l2 := hsm _ (getD_mem (show i + 1 < (sortW ws).length by omega))
          have g1 := ev_op (H := H3) (σ := [some (.int (k : Int)), some (.ref q), some (.ref l), some (.ref p), none, some (.int (i : Int))]) (ev_var (i := 3) rfl) (ev_var (i := 5) rfl) (rv_ixL (K := K) (sq_of hp) (atI_nat (getD_map (show i < (sortW ws).length by omega))))
          have e9 : (i : Int) + 1 = ((i + 1 : Nat) : Int) := by omega
          have g2 := ev_op (H := H3) (σ := [some (.int (k : Int)), some (.ref q), some (.ref l), some (.ref p), none, some (.int (i : Int))]) (ev_var (i := 3) rfl) (ev_is (ev_op (ev_var (i := 5) rfl) (ev_c (v := .int 1)) rv_add) (congrArg V.int e9)) (rv_ixL (K := K) (sq_of hp) (atI_nat (getD_map (show i + 1 < (sortW ws).length by omega))))
          refine ev_is (ev_op (ev_slS g2 eo_none (eo_some (ev_lenS g1 (by omega))) (by omega)) g1 rv_eqS) ?_
          rw [cut1]
          rfl
        · have := kk H4 ((ex2.trans e3).trans e4)
          unfold wordsV at this
          rw [h1, h3] at this
          exact this
def spLawFull (K : PySem.W.Frag) : Sp := fun vs H Q _ => ∃ (q : Addr) (k : Nat) (ls : List Nat), vs = [.int (k : Int), .ref q] ∧ SqL K H q (ls.map nI) ∧ 1 ≤ k ∧ k ≤ 26 ∧ (∀ l ∈ ls, l ≤ 1000) ∧ ∀ H', Ex H H' → Q (.bl (fullV k ls (maxN ls))) H'
theorem ok__law_full (D : DefAt K mg "_law_full" s__law_full ["_law_letters", "_law_lengths"]) (T : Blt mg) : Cal P w K mg base 1 "_law_full" (spLawFull K) := by
  refine cal_of D sc__law_full (fun vs H Q E h => ?_) (fun f cdv A outer s H vs Q E hr h => ?_)
  · obtain ⟨q, k, ls, rfl, _⟩ := h; rfl
  · obtain ⟨q, k, ls, rfl, hq, hk1, hk2, hl, kk⟩ := h
    refine ⟨_, (pss_cons (ps_set (i := 2) sc__law_full.nd rfl (.inl rfl) pe_int)
      (pss_cons (ps_set (i := 3) sc__law_full.nd rfl (.inl rfl) pe_int)
      (pss_cons (ps_for PassesOwn.never rfl (pi_range2 (by rfl) T.range (pa_cons pe_int (pa_cons (pe_op op_add (pe_callBK (cr_maxD (K := K) rfl rfl (hu_of hr)) (by rfl) T.max (by decide +kernel) (pa_cons (pv 1) pa_nil) (pk_cons pe_int pk_nil)) pe_int) pa_nil))) (pg_name (i := 4) sc__law_full.nd rfl (.inl rfl)) (pss_cons (ps_set (i := 2) sc__law_full.nd rfl (.inl rfl) (pe_op op_add (pe_op op_mul (pv 2) (pv 0)) (pe_bm PySem.F.plainAttrs_list PySem.F.slot_list_count PySem.F.type_list_count (mt_lcountK (K := K) rfl) (pv 1) (pa_cons (pv 4) pa_nil))))
      (pss_one (ps_set (i := 3) sc__law_full.nd rfl (.inl rfl) (pe_op op_mul (pv 3) (pv 0))))))
      (pss_one (ps_ret (pe_cmpR op_gt (pv 2) (pv 3) (nomark _))))))), ?_⟩
    have hL : maxN ls ≤ 1000 := maxN_le hl
    refine q_asg (v := .int ((M5.taken k ls 0 : Nat) : Int)) ev_c fun H1 e1 => q_asg (v := .int ((k ^ 0 : Nat) : Int)) ev_c fun H1' e1' => ?_
    refine q_forR2 (lo := 1) (n := ((maxN ls : Nat) : Int) + 1) (ea_cons ev_c (ea_cons (ev_op (ev_maxD (ns := ls) (ev_var rfl) (ex_l (e1.trans e1') hq) ev_c) ev_c rv_add) ea_nil)) ⟨by omega, by omega, by omega, by omega⟩
      (fun i σ' H' => ∃ s4, Ex H H' ∧ σ' = [some (.int (k : Int)), some (.ref q), some (.int ((M5.taken k ls i : Nat) : Int)), some (.int ((k ^ i : Nat) : Int)), s4]) (fun H2 e2 => ⟨_, (e1.trans e1').trans e2, rfl⟩) (fun i σ' H' hi hP => ?_) (fun σ' H' hP => ?_)
    · obtain ⟨s4, ex, rfl⟩ := hP
      have e1i : (1 : Int) + (i : Int) = ((i + 1 : Nat) : Int) := by omega
      rw [e1i]
      have hq' := ex_l ex hq
      rw [map_nI] at hq'
      refine q_asg (v := .int ((M5.taken k ls (i + 1) : Nat) : Int)) (ev_is (ev_op (ev_op (ev_var rfl) (ev_var rfl) (rv_mul (.inr ⟨by omega, by omega⟩))) (ev_count (ev_var rfl) hq' (ev_var rfl)) rv_add) (congrArg V.int (by rw [count_cast]; simp [M5.taken]))) fun H3 e3 => ?_
      exact s_asg (v := .int ((k ^ (i + 1) : Nat) : Int)) (ev_is (ev_op (ev_var rfl) (ev_var rfl) (rv_mul (.inr ⟨by omega, by omega⟩))) (congrArg V.int (by rw [Nat.pow_succ]; push_cast; rfl))) fun H4 e4 => ⟨_, (ex.trans e3).trans e4, rfl⟩
    · obtain ⟨s4, ex, rfl⟩ := hP
      have e0 : (((maxN ls : Nat) : Int) + 1 - 1).toNat = maxN ls := by omega
      rw [e0]
      refine s_ret (ev_is (ev_op (ev_var rfl) (ev_var rfl) rv_gt) (congrArg V.bl ?_)) fun H5 e5 => kk H5 (ex.trans e5)
      rw [M5.full_iff hk1]
      by_cases h : k ^ maxN ls < M5.taken k ls (maxN ls)
      · rw [decide_eq_true h, decide_eq_true (Int.ofNat_lt.mpr h)]
      · rw [decide_eq_false h, decide_eq_false (fun z => h (Int.ofNat_lt.mp z))]
end
end Tr

set_option Elab.async false
set_option linter.all false
set_option maxRecDepth 100000
set_option maxHeartbeats 4000000
namespace Tr
open PySem PySem.Spec PyProof.Rows L2 Evl
open M3 (wat joinW pre)
open M5 (wr go Free fullV)
local macro_rules | `(tactic| walk_at "sd") => `(tactic| first | assumption | rfl | omega | decide | (solve_by_elim) | (refine Nat.le_trans (m := 1000) (by solve_by_elim) (by decide)))
local macro_rules | `(tactic| walk_at "rv") => `(tactic| first
  | exact rv_add | exact rv_sub | exact rv_lt | exact rv_le | exact rv_gt | exact rv_ge | exact rv_eqI | exact rv_eqS | exact rv_eqB | exact rv_neI | exact rv_neS | exact rv_neB
  | exact rv_mod (by walk_at "sd") | exact rv_fdiv (by first | assumption | exact ⟨by omega, by omega⟩) | exact rv_addS (by walk_at "sd") | exact rv_isB | exact rv_notB | assumption)
local macro_rules | `(tactic| walk_at "ea") => `(tactic| first
  | exact ea_nil
  | (refine' ea_cons ?k1 ?k2; (case k1 => walk_at "ev"); (case k2 => walk_at "ea")))
local macro_rules | `(tactic| walk_at "eo") => `(tactic| first
  | exact eo_none
  | (refine' eo_some ?k1; (case k1 => walk_at "ev")))
local macro_rules | `(tactic| walk_at "et") => `(tactic| first
  | (refine' et_test ?k1; (case k1 => walk_at "ev"))
  | (refine' et_B ?k1; (case k1 => walk_at "ev"))
  | (refine' et_and ?k1 ?k2; (case k1 => walk_at "et"); (case k2 => (intro _; walk_at "et")))
  | (refine' et_or ?k1 ?k2; (case k1 => walk_at "et"); (case k2 => (intro _; walk_at "et")))
  | (refine' et_not ?k1; (case k1 => walk_at "et"))
  | assumption)
local macro_rules | `(tactic| walk_at "ev") => `(tactic| first
  | assumption
  | exact ev_cS
  | exact ev_c
  | exact ev_var rfl
  | (refine' ev_op ?k1 ?k2 ?k3; (case k1 => walk_at "ev"); (case k2 => walk_at "ev"); (case k3 => walk_at "rv"))
  | (refine' ev_un ?k1 ru_neg; (case k1 => walk_at "ev"))
  | (refine' ev_chain ?k1 ?k2 ?k3 ?k4 ?k5; (case k1 => walk_at "ev"); (case k2 => walk_at "ev"); (case k3 => walk_at "ev"); (case k4 => walk_at "rv"); (case k5 => (intro _; walk_at "rv")))
  | (refine' ev_slS ?k1 ?k2 ?k3 ?k4; (case k1 => walk_at "ev"); (case k2 => walk_at "eo"); (case k3 => walk_at "eo"); (case k4 => walk_at "sd"))
  | (refine' ev_lenS ?k1 ?k2; (case k1 => walk_at "ev"); (case k2 => walk_at "sd"))
  | (refine' ev_len' ?k1 ?k2; (case k1 => walk_at "ev"); (case k2 => walk_at "sd"))
  | (refine' ev_strip ?k1 ?k2 ?k3; (case k1 => walk_at "ev"); (case k2 => walk_at "ev"); (case k3 => walk_at "sd"))
  | (refine' ev_sum ?k1 ?k2; (case k1 => walk_at "ev"); (case k2 => walk_at "sd"))
  | (refine' ev_isi ?k1 ?k2 ?k3 ?k4; (case k1 => walk_at "ev"); (case k2 => walk_at "ev"); (case k3 => first | exact ty_int | exact ty_bl | exact ty_str | exact ty_list (by walk_at "sd")); (case k4 => first | exact kit_ty (r := true) (by decide +kernel) | exact kit_ty (r := false) (by decide +kernel)))
  | (refine' ev_andV ?k1 ?k2; (case k1 => walk_at "ev"); (case k2 => (intro _; walk_at "ev")))
  | (refine' ev_orV ?k1 ?k2; (case k1 => walk_at "ev"); (case k2 => (intro _; walk_at "ev")))
  | (refine' ev_notV ?k1; (case k1 => walk_at "ev"))
  | (refine' ev_call ?k1 ?k2; (case k1 => walk_at "ea"); (case k2 => walk_at "sv")))
local macro_rules | `(tactic| walk_at "el") => `(tactic| first
  | assumption
  | (refine' el_mapB ?k1 ?k2 ?k3 (fun _ => rfl) ?k5; (case k1 => walk_at "ev"); (case k2 => walk_at "sd"); (case k3 => walk_at "sd"); (case k5 => (intro _ _; walk_at "ev")))
  | (refine' el_mapI ?k1 ?k2 ?k3 (fun _ => rfl) ?k5; (case k1 => walk_at "ev"); (case k2 => walk_at "sd"); (case k3 => walk_at "sd"); (case k5 => (intro _ _; walk_at "ev")))
  | (refine' el_mapS ?k1 ?k2 ?k3 (fun _ => rfl) ?k5; (case k1 => walk_at "ev"); (case k2 => walk_at "sd"); (case k3 => walk_at "sd"); (case k5 => (intro _ _; walk_at "ev"))))
local macro_rules | `(tactic| walk_at "ev") => `(tactic| first
  | (refine' ev_all ?k1; (case k1 => walk_at "el"))
  | (refine' ev_any ?k1; (case k1 => walk_at "el"))
  | (refine' ev_sumN ?k1; (case k1 => walk_at "el"))
  | (refine' ev_join ?k1 ?k2 ?k3; (case k1 => exact ev_is ev_cS (congrArg tx codes_nil)); (case k2 => walk_at "el"); (case k3 => walk_at "sd")))

def CL : Hp → V → Prop := fun H v => ∃ (q : Addr) (ls : List Nat), v = .ref q ∧ H q = some (.lst (ls.map nI)) ∧ LsOk ls
theorem up_CL : Up CL := fun _ _ _ e ⟨q, ls, h1, h2, h3⟩ => ⟨q, ls, h1, e q _ h2, h3⟩
theorem eq_nI {K : PySem.W.Frag} {σ : L2.St} {H : Hp} {te : TE} {p : Addr} {ls : List Nat} (h : Ev te σ H (.ref p)) (hs : SqL K H p (ls.map nI)) : EvQ K te σ H ((List.map (fun n : Nat => (n : Int)) ls).map V.int) := eq_at h (by rw [← map_nI]; exact hs)
theorem letters_of (s : Int) : ∃ k : Nat, 1 ≤ k ∧ k ≤ 26 ∧ atI [V.int 2, .int (1 + s / 3 % 26), .int 3] (s % 3) = some (.int (k : Int)) := by
  have h : s % 3 = 0 ∨ s % 3 = 1 ∨ s % 3 = 2 := by omega
  rcases h with h | h | h <;> rw [h]
  · exact ⟨2, by decide, by decide, rfl⟩
  · refine ⟨(1 + s / 3 % 26).toNat, by omega, by omega, ?_⟩
    have e : ((1 + s / 3 % 26).toNat : Int) = 1 + s / 3 % 26 := by omega
    rw [e]; rfl
  · exact ⟨3, by decide, by decide, rfl⟩
theorem cells_of (s : Int) : ∃ m : Int, 0 < m ∧ m ≤ 100 ∧ atI [V.int 8, .int 100, .int 20] (s % 3) = some (.int m) := by
  have h : s % 3 = 0 ∨ s % 3 = 1 ∨ s % 3 = 2 := by omega
  rcases h with h | h | h <;> rw [h]
  · exact ⟨8, by decide, by decide, rfl⟩
  · exact ⟨100, by decide, by decide, rfl⟩
  · exact ⟨20, by decide, by decide, rfl⟩
theorem words_small {k : Nat} {ls : List Nat} {ws : List Wd} (hw : WordsOk k ls ws) (hl : LsOk ls) : ws.length ≤ 63 ∧ ∀ a ∈ ws, a.length ≤ 100 ∧ a ≠ [] := by
  have h1 := congrArg List.length hw.len
  rw [List.length_map] at h1
  refine ⟨by rw [h1]; exact hl.2, fun a ha => ?_⟩
  have : a.length ∈ ls := by rw [← hw.len]; exact List.mem_map.mpr ⟨a, ha, rfl⟩
  have := hl.1 _ this
  exact ⟨this.2, fun z => by rw [z] at this; exact absurd this.1 (by decide)⟩
section
variable {P : Program} {w : World} {K : PySem.W.Frag} {mg : Str → Option Value} {base : Heap} {H : Hp}
def spLaw (K : PySem.W.Frag) : Sp := fun vs H Q _ => ∃ (s : Addr) (ns : List Int), vs = [.ref s] ∧ SqL K H s (ns.map V.int) ∧ ns.length ≤ 63 ∧ ∀ H', Ex H H' → Q (.bl true) H'
theorem ofl_all {aWo aFu q : Addr} {k : Nat} {ls : List Nat} {Q : VK} {E : XK} (hq : SqL K H q (ls.map nI)) (hk1 : 1 ≤ k) (hk2 : k ≤ 26) (hl : LsOk ls)
    (kk : ∀ (b : Bool) (o l : Addr) (H' : Hp) (ws : List Wd), H o = none → (b = false → H l = none ∧ l ≠ o ∧ WordsOk k ls ws) → Ex H H' → LenAt aWo aFu b H' o l ws → b = fullV k ls (maxN ls) → Q (.ref o) H') : spOfLengths K aWo aFu [.int (k : Int), .ref q] H Q E :=
  ⟨q, k, ls, rfl, hq, hk1, hk2, hl.1, by have := hl.2; omega, fun hf o dx H' no e ho => kk true o o H' [] no (fun z => nomatch z) e ⟨dx, ho⟩ hf.symm,
    fun hf o dx l H' ws no nl hlo e ho hl' hw => kk false o l H' ws no (fun _ => ⟨nl, hlo, hw⟩) e ⟨dx, ho, hl'⟩ hf.symm⟩
theorem ep_callQ {sp : Sp} {E : XK} {σ : L2.St} {t : TA} {B : Hp → V → Prop} {Pr : Hp → List V → Prop} (h : EvAQ t σ H Pr) (hs : ∀ H1 vs, Ex H H1 → Pr H1 vs → ∀ Q : VK, (∀ v H2, Ex H1 H2 → B H2 v → Q v H2) → sp vs H1 Q E) : EvP (tCall sp [] E t) σ H B := fun H1 e Q q =>
  h H1 e _ fun vs H2 e2 hp => by
    rw [List.append_nil]
    exact hs H2 vs (e.trans e2) hp Q (fun v H3 e3 b => q v H3 (e2.trans e3) b)
def NLs (ls : List Nat) : Hp → V → Prop := fun H v => ∃ p, v = .ref p ∧ H p = some (.lst (ls.map nI))
theorem up_NLs {ls : List Nat} : Up (NLs ls) := fun _ _ _ e ⟨p, h1, h2⟩ => ⟨p, h1, e p _ h2⟩
def TLs (aTl : Addr) : Hp → V → Prop := fun H v => ∃ o dx l, v = .ref o ∧ H o = some (.ins aTl dx [("tails", .ref l)])
theorem up_TLs {aTl : Addr} : Up (TLs aTl) := fun _ _ _ e ⟨o, dx, l, h1, h2⟩ => ⟨o, dx, l, h1, e o _ h2⟩
theorem ep_once {aCl aTl : Addr} {σ : L2.St} {te : TE} {p : Addr} {ws : List Wd} (h : Ev te σ H (.ref p)) (hc : CodeAt K H p ws) (hw : ws.length ≤ 63) (hs : SufOk ws) (f : Free ws) : EvP (tCall (spOnce K aCl aTl) [] E0 (tCons te tNil)) σ H (TLs aTl) := fun H1 e Q q =>
  (ea_cons h ea_nil) H1 e _ fun H2 e2 => by
    rw [List.append_nil]
    refine ⟨p, ws, rfl, hc.ex (e.trans e2), hw, hs, fun o dx l m H' xs ys _ _ _ _ _ _ _ _ _ _ hcl _ _ => ?_, fun o dx l H' ts no nl hlo e3 ho _ _ _ _ => q _ H' (e2.trans e3) ⟨o, dx, l, rfl, ho⟩⟩
    rw [no_clash f (fun a ha => (hc.ok a ha).1)] at hcl
    cases hcl
theorem ok_law {f : Addr} {fd : FuncData} {aWo aFu aAns aBe aTl aCl : Addr} (F : Fun K "law" "law" s_law f fd) (T : Blt mg) (G_Words : mg "Words" = some (.ref aWo)) (G_Full : mg "Full" = some (.ref aFu)) (G_Answer : mg "Answer" = some (.ref aAns)) (G_Begins : mg "Begins" = some (.ref aBe)) (G_Tails : mg "Tails" = some (.ref aTl))
    (LK : LenK K aWo aFu aAns aBe aTl) (C_of_lengths : Cal P w K mg base 3 "of_lengths" (spOfLengths K aWo aFu)) (C_once : Cal P w K mg base 3 "once" (spOnce K aCl aTl)) (C__law_words : Cal P w K mg base 1 "_law_words" (spLawWords K)) (C__law_full : Cal P w K mg base 1 "_law_full" (spLawFull K))
    (M_Words_shows : MCal P w K mg base 2 aWo "shows" (spWordsShows K aWo)) (M_Full_shows : MCal P w K mg base 1 aFu "shows" (spFullShows K aFu)) : FnOk P w K mg base (L2N.CX P w) 4 f fd ["_law_script"] (spLaw K) := by
  refine fnok_of F sc_law (fun vs H Q E h => ?_) (fun f cdv A outer s H vs Q E hr h => ?_)
  · obtain ⟨p, ns, rfl, _⟩ := h; rfl
  · obtain ⟨s2, ns, rfl, hs, hn, kend⟩ := h
    refine ⟨_, (pss_cons (ps_set (i := 1) sc_law.nd rfl (.inr rfl) (pe_callB (cr_sumK (K := K) rfl rfl) (by rfl) T.sum (by decide +kernel) (pa_cons (pv 0) pa_nil)))
      (pss_cons (ps_set (i := 2) sc_law.nd rfl (.inl rfl) (pe_ix (ix_tupK (K := K) rfl) (pe_tup (pa_cons pe_int (pa_cons (pe_op op_add pe_int (pe_op op_mod (pe_op op_fdiv (pv 1) pe_int) pe_int)) (pa_cons pe_int pa_nil)))) (pe_op op_mod (pv 1) pe_int) (fun _ _ => rfl)))
      (pss_cons (ps_setLc (i := 3) (own := [("_law_cell", 8)]) rfl sc_law.nd rfl rfl (sw_true rfl rfl rfl (by decide +kernel)) (pi_listK (K := K) rfl (pv 0)) (blkOk_by (own := [("_law_cell", 8)]) (N := N_law) (sc := defScope s_law) (by decide +kernel)) (fun _ _ _ _ _ => (pg_name (i := 8) sc_law.nd rfl (.inl rfl))) (fun _ _ _ _ _ => pts_nil) (fun _ _ _ _ _ => (pe_op op_add pe_int (pe_op op_mod (pv 8) (pe_ix (ix_tupK (K := K) rfl) (pe_tup (pa_cons pe_int (pa_cons pe_int (pa_cons pe_int pa_nil)))) (pe_op op_mod (pe_op op_fdiv (pv 1) pe_int) pe_int) (fun _ _ => rfl))))))
      (pss_cons (ps_for PassesOwn.never rfl (pi_listK (K := K) rfl (pe_lst (pa_cons (pv 3) (pa_cons (pe_slice (sl_listK (K := K) rfl) (pv 3) po_none (po_some pe_int)) (pa_cons (pe_step2L (K := K) rfl (pv 3)) (pa_cons (pe_lc (own := [("_law_length", 9)]) rfl sc_law.nd (pi_listK (K := K) rfl (pv 3)) (blkOk_by (own := [("_law_length", 9)]) (N := N_law) (sc := defScope s_law) (by decide +kernel)) (fun _ _ _ _ _ => (pg_name (i := 9) sc_law.nd rfl (.inl rfl))) (fun _ _ _ _ _ => (pts_one (pt_cmpR op_lt (pv 9) pe_int (nomark _)))) (fun _ _ _ _ _ => (pe_op op_add (pv 9) pe_int))) (pa_cons (pv 3) pa_nil))))))) (pg_name (i := 4) sc_law.nd rfl (.inl rfl)) (pss_cons (ps_set (i := 5) sc_law.nd rfl (.inl rfl) (pe_callTy (call_list_ofK (K := K) rfl) (by rfl) T.list (by decide +kernel) (pa_cons (pv 4) pa_nil)))
      (pss_cons (ps_set (i := 6) sc_law.nd rfl (.inl rfl) (pe_c C_of_lengths hr (by decide) (by rfl) (pa_cons (pv 2) (pa_cons (pv 5) pa_nil))))
      (pss_cons (ps_if (PW.pt (pw_or (pt_not (pt_val (pe_callB (call_isiK' (K := K) rfl) (by rfl) T.isinstance (by decide +kernel) (pa_cons (pv 6) (pa_cons (pe_exc (mg := mg) rfl G_Answer (by rfl)) pa_nil))))) (pw_or (pt_cmpR op_eq (pe_callB (call_isiK' (K := K) rfl) (by rfl) T.isinstance (by decide +kernel) (pa_cons (pv 6) (pa_cons (pe_exc (mg := mg) rfl G_Words (by rfl)) pa_nil))) (pe_callB (call_isiK' (K := K) rfl) (by rfl) T.isinstance (by decide +kernel) (pa_cons (pv 6) (pa_cons (pe_exc (mg := mg) rfl G_Full (by rfl)) pa_nil))) (nomark _)) (pw_or1 (pt_cmpR (op_neDK (K := K) rfl hr.units) (pv 5) (pv 4) (nomark _)))))) (pss_one (ps_ret pe_bl)) pss_nil)
      (pss_cons (ps_if (PW.pt (pw_or (pt_val (pe_callB (call_isiK' (K := K) rfl) (by rfl) T.isinstance (by decide +kernel) (pa_cons (pv 6) (pa_cons (pe_exc (mg := mg) rfl G_Begins (by rfl)) pa_nil)))) (pw_or (pt_val (pe_callB (call_isiK' (K := K) rfl) (by rfl) T.isinstance (by decide +kernel) (pa_cons (pv 6) (pa_cons (pe_exc (mg := mg) rfl G_Tails (by rfl)) pa_nil)))) (pw_or1 (pt_cmpR op_notBl (pe_alt (pe_mth M_Words_shows hr (by decide) (pv 6) (pa_cons (pv 2) (pa_cons (pv 4) pa_nil))) (pe_mth M_Full_shows hr (by decide) (pv 6) (pa_cons (pv 2) (pa_cons (pv 4) pa_nil)))) pe_bl (nomark _)))))) (pss_one (ps_ret pe_bl)) pss_nil)
      (pss_cons (ps_if (pt_cmpR op_ne (pe_callB (call_isiK' (K := K) rfl) (by rfl) T.isinstance (by decide +kernel) (pa_cons (pv 6) (pa_cons (pe_exc (mg := mg) rfl G_Full (by rfl)) pa_nil))) (pe_c C__law_full hr (by decide) (by rfl) (pa_cons (pv 2) (pa_cons (pv 4) pa_nil))) (nomark _)) (pss_one (ps_ret pe_bl)) pss_nil)
      (pss_cons (ps_set (i := 7) sc_law.nd rfl (.inl rfl) (pe_op op_cat (pv 4) (pe_lst (pa_cons pe_int pa_nil))))
      (pss_cons (ps_if (PW.pt (pw_and (pt_val (pe_callB (call_isiK' (K := K) rfl) (by rfl) T.isinstance (by decide +kernel) (pa_cons (pv 6) (pa_cons (pe_exc (mg := mg) rfl G_Full (by rfl)) pa_nil)))) (pw_and1 (pt_cmpR op_ne (pe_alt (pe_mth M_Words_shows hr (by decide) (pv 6) (pa_cons (pv 2) (pa_cons (pv 7) pa_nil))) (pe_mth M_Full_shows hr (by decide) (pv 6) (pa_cons (pv 2) (pa_cons (pv 7) pa_nil)))) (pe_c C__law_full hr (by decide) (by rfl) (pa_cons (pv 2) (pa_cons (pv 7) pa_nil))) (nomark _))))) (pss_one (ps_ret pe_bl)) pss_nil)
      (pss_one (ps_if (pt_val (pe_callB (call_isiK' (K := K) rfl) (by rfl) T.isinstance (by decide +kernel) (pa_cons (pv 6) (pa_cons (pe_exc (mg := mg) rfl G_Words (by rfl)) pa_nil)))) (pss_cons (ps_if (PW.pt (pw_or (pt_not (pt_val (pe_c C__law_words hr (by decide) (by rfl) (pa_cons (pv 2) (pa_cons (pv 4) (pa_cons (pe_fldK (K := K) rfl (pv 6)) pa_nil)))))) (pw_or1 (pt_cmpR op_notBl (pe_alt (pe_mth M_Words_shows hr (by decide) (pv 6) (pa_cons (pv 2) (pa_cons (pv 7) pa_nil))) (pe_mth M_Full_shows hr (by decide) (pv 6) (pa_cons (pv 2) (pa_cons (pv 7) pa_nil)))) pe_bl (nomark _))))) (pss_one (ps_ret pe_bl)) pss_nil)
      (pss_cons (ps_if (PW.pt (pw_and (pt_cmpR op_lt (pe_callB (call_len_seqK (K := K) rfl) (by rfl) T.len (by decide +kernel) (pa_cons (pv 4) pa_nil)) pe_int (nomark _)) (pw_and (pt_cmpR op_lt (pe_callBK (cr_maxD (K := K) rfl rfl (hu_of hr)) (by rfl) T.max (by decide +kernel) (pa_cons (pv 4) pa_nil) (pk_cons pe_int pk_nil)) pe_int (nomark _)) (pw_and1 (pt_not (pt_val (pe_callB (call_isiK' (K := K) rfl) (by rfl) T.isinstance (by decide +kernel) (pa_cons (pe_c C_once hr (by decide) (by rfl) (pa_cons (pe_fldK (K := K) rfl (pv 6)) pa_nil)) (pa_cons (pe_exc (mg := mg) rfl G_Tails (by rfl)) pa_nil))))))))) (pss_one (ps_ret pe_bl)) pss_nil)
      (pss_cons (ps_expr (pe_bm PySem.F.plainAttrs_list PySem.F.slot_list_append PySem.F.type_list_append mt_append (pe_fldK (K := K) rfl (pv 6)) (pa_cons pe_str pa_nil)))
      (pss_one (ps_if (pt_cmpR op_ne (pe_alt (pe_mth M_Words_shows hr (by decide) (pv 6) (pa_cons (pv 2) (pa_cons (pv 7) pa_nil))) (pe_mth M_Full_shows hr (by decide) (pv 6) (pa_cons (pv 2) (pa_cons (pv 7) pa_nil)))) (pe_c C__law_words hr (by decide) (by rfl) (pa_cons (pv 2) (pa_cons (pv 7) (pa_cons (pe_fldK (K := K) rfl (pv 6)) pa_nil)))) (nomark _)) (pss_one (ps_ret pe_bl)) pss_nil))))) pss_nil))))))))))
      (pss_one (ps_ret (pe_and (pe_cmpR (op_eqDK (K := K) rfl hr.units) (pe_fldK (K := K) rfl (pe_c C_of_lengths hr (by decide) (by rfl) (pa_cons pe_int (pa_cons (pe_lst pa_nil) pa_nil)))) (pe_lst pa_nil) (nomark _)) (pe_one (pe_callB (call_isiK' (K := K) rfl) (by rfl) T.isinstance (by decide +kernel) (pa_cons (pe_c C_of_lengths hr (by decide) (by rfl) (pa_cons pe_int (pa_cons (pe_lst (pa_cons pe_int (pa_cons pe_int pa_nil))) pa_nil))) (pa_cons (pe_exc (mg := mg) rfl G_Full (by rfl)) pa_nil))))))))))), ?_⟩
    obtain ⟨k, hk1, hk2, hka⟩ := letters_of ns.sum
    obtain ⟨m, hm1, hm2, hma⟩ := cells_of (ns.sum / 7)
    have hlc : LsOk (ns.map fun c => (1 + c % m).toNat) := ⟨fun l hl => by
      obtain ⟨c, _, rfl⟩ := List.mem_map.mp hl
      have h1 := Int.emod_nonneg c (show m ≠ 0 by omega)
      have h2 := Int.emod_lt_of_pos c hm1
      omega, by rw [List.length_map]; exact hn⟩
    refine q_asg (v := .int ns.sum) (ev_sum (ev_var rfl) hs) fun H1 e1 => ?_
    refine q_asg (v := .int (k : Int)) (ev_ixU (eu_tup (ea_cons ev_c (ea_cons (ev_op ev_c (ev_op (ev_op (ev_var rfl) ev_c (rv_fdiv ⟨by decide, by decide⟩)) ev_c (rv_mod (by decide))) rv_add) (ea_cons ev_c ea_nil))) (by simp)) (ev_op (ev_var rfl) ev_c (rv_mod (by decide))) hka) fun H2 e2 => ?_
    have ex2 := e1.trans e2
    refine q_asgL (xs := (ns.map fun c => (1 + c % m).toNat).map nI) (by
      rw [List.map_map]
      refine el_map V.int _ (ev_var rfl) (ex_l ex2 hs) (by omega) (fun _ => rfl) fun c hc => ?_
      refine ev_is (ev_op (x := .int 1) ev_c (ev_op (y := .int m) (ev_var rfl) (ev_ixU (eu_tup (ea_cons ev_c (ea_cons ev_c (ea_cons ev_c ea_nil))) (by simp)) (ev_op (ev_op (ev_var rfl) ev_c (rv_fdiv ⟨by decide, by decide⟩)) ev_c (rv_mod (by decide))) hma) (rv_mod hm1)) rv_add) ?_
      have h1 := Int.emod_nonneg c (show m ≠ 0 by omega)
      show V.int (1 + c % m) = .int (((1 + c % m).toNat : Nat) : Int)
      congr 1; omega) fun pl H3 npl e3 hpl => ?_
    generalize (ns.map fun c => (1 + c % m).toNat) = lc at *
    have ex3 := ex2.trans e3
    refine q_forP (n := 5) (C := CL) up_CL (ep_lst up_CL (ab_cons up_CL (ep_ev (ev_var rfl) fun H4 e4 => ⟨pl, lc, rfl, e4 pl _ hpl, hlc⟩) (ab_cons up_CL (ep_el (el_sl (ev_var rfl) eo_none (eo_some (i := ((3 : Nat) : Int)) ev_c) (sq_of hpl)) fun p H4 _ hp => ⟨p, lc.take 3, rfl, by rw [hp, cutV_to, List.map_take], fun l hl => hlc.1 l (List.mem_of_mem_take hl), by rw [List.length_take]; have := hlc.2; omega⟩)
      (ab_cons up_CL (ep_el (el_step2 (K := K) (ev_var rfl) (sq_of hpl)) fun p H4 _ hp => ⟨p, step2 lc, rfl, by rw [hp, step2_map], fun l hl => hlc.1 l (step2_mem hl), Nat.le_trans (step2_len lc) hlc.2⟩)
      (ab_cons up_CL (ep_el (el_filterI (φ := nI) (g := fun l : Nat => (l : Int) + 3) (p := fun l : Nat => decide ((l : Int) < 98)) (ev_var rfl) (sq_of hpl) (by have := hlc.2; omega) (fun _ => rfl) (fun l _ => et_test (ev_op (ev_var rfl) ev_c rv_lt)) (fun l _ _ => ev_op (ev_var rfl) ev_c rv_add)) fun p H4 _ hp => ⟨p, (lc.filter fun l : Nat => decide ((l : Int) < 98)).map (· + 3), rfl, by rw [hp, List.map_map, List.map_map]; rfl, fun l hl => ?_, ?_⟩)
      (ab_cons up_CL (ep_ev (ev_var rfl) fun H4 e4 => ⟨pl, lc, rfl, e4 pl _ hpl, hlc⟩) ab_nil))))) (by decide)) (fun σ' => ∃ s4 s5 s6 s7, σ' = [some (.ref s2), some (.int ns.sum), some (.int (k : Int)), some (.ref pl), s4, s5, s6, s7, none, none]) ⟨_, _, _, _, rfl⟩ (fun v σ' H' exH hS hC D' hnx hrt => ?_) (fun σ' H' exH hS => ?_)
    · obtain ⟨l0, h0, rfl⟩ := List.mem_map.mp hl
      obtain ⟨h1, h2⟩ := List.mem_filter.mp h0
      have h3 := of_decide_eq_true h2
      have := hlc.1 l0 h1
      omega
    · rw [List.length_map]
      have := List.length_filter_le (fun l : Nat => decide ((l : Int) < 98)) lc
      have := hlc.2
      omega
    · obtain ⟨s4, s5, s6, s7, rfl⟩ := hS
      obtain ⟨q, ls, rfl, hq, hok⟩ := hC
      have hln := hok.2
      have hlm : ∀ l ∈ ls, l ≤ 1000 := fun l h => by have := hok.1 l h; omega
      refine q_asgL (xs := ls.map nI) (ev_listOf (ev_var rfl) (sq_of hq)) fun hd H4 nhd e4 hhd => ?_
      refine q_asgX (call_run (vs := [.int (k : Int), .ref hd]) (by walk_at "ea") fun H5 e5 => ofl_all (sq_of (e5 hd _ hhd)) hk1 hk2 hok fun b o l H6 ws no nlw e6 hA hb => ?_)
      have ex46 := e5.trans e6
      have ex6 := e4.trans ex46
      have hq6 := ex6 q _ hq
      have hhd6 := ex46 hd _ hhd
      have gis : ∀ (X : Addr) (r : Bool) (σ : L2.St) (H' : Hp), Ex H6 H' → σ[6]? = some (some (.ref o)) → PySem.W.kitOne K (.ref (if b then aFu else aWo)) (.ref X) = some r → Ev (tCB (rIsi K) (tCons (tVar 6) (tCons (tC (.ref X)) tNil))) σ H' (.bl r) := fun X r σ H' e h6 hk =>
        ev_isC (ev_var h6) ev_c ((hA.ex e).ty (LK.cl b)) hk
      have gsh : ∀ (H' : Hp) (σ : L2.St) (j : Nat) (q2 : Addr) (ls2 : List Nat) (ws2 : List Wd), H' q2 = some (.lst (ls2.map nI)) → LenAt aWo aFu b H' o l ws2 → (∀ l ∈ ls2, l ≤ 1000) → (b = false → ws2.length ≤ 1000 ∧ ∀ a ∈ ws2, a.length ≤ 1000) → σ[6]? = some (some (.ref o)) → σ[2]? = some (some (.int (k : Int))) → σ[j]? = some (some (.ref q2)) →
          Ev (tAlt (tMeth aWo "shows" (spWordsShows K aWo) [] E0 (tVar 6) (tCons (tVar 2) (tCons (tVar j) tNil))) (tMeth aFu "shows" (spFullShows K aFu) [] E0 (tVar 6) (tCons (tVar 2) (tCons (tVar j) tNil)))) σ H' (.bl (saysL b k ls2 ws2)) := fun H' σ j q2 ls2 ws2 hq2 hA' h1 h2 h6 h2' hj => by
        cases b with
        | true =>
          obtain ⟨dx, a1⟩ := hA'
          exact ev_altR (ev_mth (ev_var h6) a1 rfl (ea_cons (ev_var h2') (ea_cons (ev_var hj) ea_nil)) fun H7 e7 Q' q' _ => ⟨o, q2, k, ls2, rfl, sq_of (e7 q2 _ hq2), hk1, hk2, h1, q'⟩)
        | false =>
          obtain ⟨dx, a1, a2⟩ := hA'
          exact ev_altL (ev_mth (ev_var h6) a1 (look_no (by decide +kernel)) (ea_cons (ev_var h2') (ea_cons (ev_var hj) ea_nil)) fun H7 e7 Q' q' _ => ⟨o, l, q2, dx, k, ws2, ls2, rfl, e7 o _ a1, sq_of (e7 l _ a2), sq_of (e7 q2 _ hq2), (h2 rfl).1, (h2 rfl).2, q'⟩)
      have gfu : ∀ (H' : Hp) (σ : L2.St) (j : Nat) (q2 : Addr) (ls2 : List Nat), H' q2 = some (.lst (ls2.map nI)) → (∀ l ∈ ls2, l ≤ 1000) → σ[2]? = some (some (.int (k : Int))) → σ[j]? = some (some (.ref q2)) → Ev (tCall (spLawFull K) [] E0 (tCons (tVar 2) (tCons (tVar j) tNil))) σ H' (.bl (fullV k ls2 (maxN ls2))) := fun H' σ j q2 ls2 hq2 h1 h2' hj =>
        ev_call (vs := [.int (k : Int), .ref q2]) (ea_cons (ev_var h2') (ea_cons (ev_var hj) ea_nil)) fun H7 e7 Q' q' _ => ⟨q2, k, ls2, rfl, sq_of (e7 q2 _ hq2), hk1, hk2, h1, q'⟩
      have hws : b = false → ws.length ≤ 1000 ∧ ∀ a ∈ ws, a.length ≤ 1000 := fun hb' => by
        obtain ⟨h1, h2⟩ := words_small (nlw hb').2.2 hok
        exact ⟨by omega, fun a ha => by have := (h2 a ha).1; omega⟩
      have hsay : saysL b k ls ws = true := by
        cases b with
        | true => exact hb.symm
        | false => exact wordsV_of (nlw rfl).2.2
      refine q_skip (et_is (et_or (et_not (et_test (gis aAns true _ _ (Ex.refl _) rfl (LK.isA b)))) fun _ => et_or (et_test (ev_op (gis aWo (!b) _ _ (Ex.refl _) rfl (LK.isW b)) (gis aFu b _ _ (Ex.refl _) rfl (LK.isF b)) rv_eqB)) fun _ => et_B (ev_neQ enc_int (eq_nI (ev_var rfl) (sq_of hhd6)) (eq_nI (ev_var rfl) (sq_of hq6)) (by simp) (by simp))) (by cases b <;> simp)) fun H7 e7 => ?_
      refine q_skip (et_is (et_or (et_test (gis aBe false _ _ e7 rfl (LK.isB b))) fun _ => et_or (et_test (gis aTl false _ _ e7 rfl (LK.isT b))) fun _ => et_B (ev_op (gsh _ _ 4 q ls ws (e7 q _ hq6) (hA.ex e7) hlm hws rfl rfl rfl) ev_c rv_notB)) (by rw [hsay]; rfl)) fun H8 e8 => ?_
      have ex8 := e7.trans e8
      refine q_skip (et_is (et_test (ev_op (gis aFu b _ _ ex8 rfl (LK.isF b)) (gfu _ _ 4 q ls (ex8 q _ hq6) hlm rfl rfl) rv_neB)) (by rw [← hb]; simp)) fun H9 e9 => ?_
      have ex9 := ex8.trans e9
      refine q_asgL (xs := (ls ++ [1]).map nI) (by rw [List.map_append]; exact el_catV (ev_var rfl) (ex9 q _ hq6) (el_lst (ea_cons ev_c ea_nil) (by simp)) (by simp; omega)) fun qm H10 nqm e10 hqm => ?_
      have hlm2 : ∀ l ∈ ls ++ [1], l ≤ 1000 := fun l h => by
        rcases List.mem_append.mp h with h | h
        · exact hlm l h
        · rw [List.mem_singleton.mp h]; decide
      have ex10 := ex9.trans e10
      refine q_skip (et_is (et_and (et_test (gis aFu b _ _ ex10 rfl (LK.isF b))) fun _ => et_test (ev_op (gsh _ _ 7 qm (ls ++ [1]) ws hqm (hA.ex ex10) hlm2 hws rfl rfl rfl) (gfu _ _ 7 qm (ls ++ [1]) hqm hlm2 rfl rfl) rv_neB)) (by cases b <;> simp [saysL])) fun H11 e11 => ?_
      have ex11 := ex10.trans e11
      have hqm11 := e11 qm _ hqm
      refine s_when (b := !b) (et_test (gis aWo (!b) _ _ ex11 rfl (LK.isW b))) (fun hbn H12 e12 => ?_) (fun hbn H12 e12 => hnx _ H12 (((ex6.trans ex11)).trans e12) ⟨_, _, _, _, rfl⟩)
      have hbf : b = false := by cases b <;> simp_all
      subst hbf
      obtain ⟨nl, hlo, hwo⟩ := nlw rfl
      obtain ⟨hwn, hwa⟩ := words_small hwo hok
      have ex12 := ex11.trans e12
      have hA12 := hA.ex ex12
      obtain ⟨dx, ho12, hl12⟩ := id hA12
      have hqm12 := e12 qm _ hqm11
      have gf : ∀ (H' : Hp) (σ : L2.St), Ex H12 H' → σ[6]? = some (some (.ref o)) → Ev (tFld K (tVar 6) "words") σ H' (.ref l) := fun H' σ e h6 => ev_fld (ev_var h6) (e o _ ho12) (LK.cl false).cl LK.n (look1 _ _)
      have glw : ∀ (H' : Hp) (σ : L2.St) (j : Nat) (q2 : Addr) (ls2 : List Nat) (ws2 : List Wd), H' q2 = some (.lst (ls2.map nI)) → H' l = some (.lst (ws2.map tx)) → Ev (tFld K (tVar 6) "words") σ H' (.ref l) → (ws2.length ≤ 1000 ∧ ∀ a ∈ ws2, a.length ≤ 1000) → σ[2]? = some (some (.int (k : Int))) → σ[j]? = some (some (.ref q2)) →
          Ev (tCall (spLawWords K) [] E0 (tCons (tVar 2) (tCons (tVar j) (tCons (tFld K (tVar 6) "words") tNil)))) σ H' (.bl (wordsV k ls2 ws2)) := fun H' σ j q2 ls2 ws2 hq2 hl2 hf hb2 h2' hj =>
        ev_call (vs := [.int (k : Int), .ref q2, .ref l]) (ea_cons (ev_var h2') (ea_cons (ev_var hj) (ea_cons hf ea_nil))) fun H7 e7 Q' q' _ => ⟨l, q2, k, ws2, ls2, rfl, sq_of (e7 l _ hl2), sq_of (e7 q2 _ hq2), hb2.1, hb2.2, q'⟩
      have hq12 := ex12 q _ hq6
      refine q_skip (et_is (et_or (et_not (et_test (glw _ _ 4 q ls ws hq12 hl12 (gf _ _ (Ex.refl _) rfl) (hws rfl) rfl rfl))) fun _ => et_B (ev_op (gsh _ _ 7 qm (ls ++ [1]) ws hqm12 hA12 hlm2 hws rfl rfl rfl) ev_c rv_notB)) (by
        show (!wordsV k ls ws || !decide (wordsV k (ls ++ [1]) ws = false)) = false
        rw [wordsV_of hwo, wordsV_more hwo]; rfl)) fun H13 e13 => ?_
      have hq13 := e13 q _ hq12
      have hc13 : ∀ H', Ex H13 H' → CodeAt K H' l ws := fun H' e => ⟨sq_of ((e13.trans e) l _ hl12), fun a ha => ⟨(hwa a ha).2, letK_ok (hwo.let_ a ha), by have := (hwa a ha).1; omega⟩, by omega⟩
      have hlen13 : ∀ σ : L2.St, σ[4]? = some (some (.ref q)) → Ev (tCB (rLenQ K) (tCons (tVar 4) tNil)) σ H13 (.int (ls.length : Int)) := fun σ h4 => by
        have := ev_len' (K := K) (ev_var h4) (sq_of hq13)
        rwa [List.length_map] at this
      refine q_skip (et_is (et_and (et_test (ev_op (hlen13 _ rfl) ev_c rv_lt)) fun h9 => et_and (et_test (ev_op (ev_maxD (ns := ls) (ev_var rfl) (sq_of hq13) ev_c) ev_c rv_lt)) fun hmx => et_not (et_B (b := true) (ev_isP (ep_once (aCl := aCl) (gf _ _ e13 rfl) (hc13 _ (Ex.refl _)) hwn (suf_few (by
          have h1 := congrArg List.length hwo.len
          rw [List.length_map] at h1
          have := of_decide_eq_true h9
          omega) fun a ha => by
          have h1 : a.length ∈ ls := by rw [← hwo.len]; exact List.mem_map.mpr ⟨a, ha, rfl⟩
          have h2 := le_maxN h1
          have := of_decide_eq_true hmx
          omega) hwo.free) (fun H' v hv => by
          obtain ⟨o', dx', l', rfl, h'⟩ := hv
          exact ty_ins LK.clT h' H' (Ex.refl _)) up_TLs ev_c LK.tT))) (by simp)) fun H14 e14 => ?_
      have e1214 := e13.trans e14
      refine q_app (xs := ws.map tx) (v := tx [97]) (e1214 l _ hl12) (gf _ _ e1214 rfl) (ev_is ev_cS (congrArg tx (by decide +kernel))) (by rw [List.length_map]; omega) fun H15 e15 => ?_
      have hmapw : ws.map tx ++ [tx [97]] = (ws ++ [[97]]).map tx := by rw [List.map_append]; rfl
      rw [hmapw]
      have e1215 := e1214.trans e15
      have nlH : H' l = none := fresh_back (e4.trans e5) nl
      have hlne : ∀ (p : Addr) (u : List V), H12 p = some (.lst u) → (∃ x, x ∈ u ∧ ∃ i, x = .int i) → p ≠ l := fun p u hp hx z => by
        rw [z, hl12] at hp
        obtain ⟨x, hx, i, rfl⟩ := hx
        injection hp with hp
        injection hp with hp
        rw [← hp] at hx
        obtain ⟨_, _, h⟩ := List.mem_map.mp hx
        cases h
      have hqml : qm ≠ l := hlne qm _ hqm12 ⟨nI 1, by rw [List.map_append]; exact List.mem_append_right _ (by simp), _, rfl⟩
      have hol : o ≠ l := fun z => by rw [z, hl12] at ho12; cases ho12
      have hqmE : (upd H15 l (.lst ((ws ++ [[97]]).map tx))) qm = some (.lst ((ls ++ [1]).map nI)) := by rw [upd_ne hqml]; exact e1215 qm _ hqm12
      have hlE : (upd H15 l (.lst ((ws ++ [[97]]).map tx))) l = some (.lst ((ws ++ [[97]]).map tx)) := upd_same
      have hoE : (upd H15 l (.lst ((ws ++ [[97]]).map tx))) o = some (.ins aWo dx [("words", .ref l)]) := by rw [upd_ne hol]; exact e1215 o _ ho12
      have hwE : (ws ++ [[97]]).length ≤ 1000 ∧ ∀ a ∈ ws ++ [[97]], a.length ≤ 1000 := ⟨by rw [List.length_append, List.length_singleton]; omega, fun a ha => by
        rcases List.mem_append.mp ha with h | h
        · have := (hwa a h).1; omega
        · rw [List.mem_singleton.mp h]; decide⟩
      refine s_when (b := false) (et_is (et_test (ev_op (gsh _ _ 7 qm (ls ++ [1]) (ws ++ [[97]]) hqmE ⟨dx, hoE, hlE⟩ hlm2 (fun _ => hwE) rfl rfl rfl) (glw _ _ 7 qm (ls ++ [1]) (ws ++ [[97]]) hqmE hlE (ev_fld (ev_var rfl) hoE (LK.cl false).cl LK.n (look1 _ _)) hwE rfl rfl) rv_neB)) (by simp [saysL])) (fun z => nomatch z) fun _ H16 e16 => ?_
      exact hnx _ H16 ((Ex.mut ((ex6.trans ex12).trans e1215) nlH).trans e16) ⟨_, _, _, _, rfl⟩
    · obtain ⟨s4, s5, s6, s7, rfl⟩ := hS
      have hex : Ex H H' := ex3.trans exH
      have g0 : EvP (tCall (spOfLengths K aWo aFu) [] E0 (tCons (tC (.int 2)) (tCons (tLst tNil) tNil))) [some (.ref s2), some (.int ns.sum), some (.int (k : Int)), some (.ref pl), s4, s5, s6, s7, none, none] H' (fun H v => ∃ o dx l, v = .ref o ∧ H o = some (.ins aWo dx [("words", .ref l)]) ∧ H l = some (.lst [])) := ep_callQ (eaq_cons (B := fun _ v => v = .int ((2 : Nat) : Int)) (fun _ _ _ _ h => h) (ep_ev ev_c fun _ _ => rfl) (eaq_cons (B := NLs []) up_NLs (ep_el el_lst0 fun p H1 _ hp => ⟨p, rfl, hp⟩) eaq_nil)) fun H6 vs e6 hvs Q q => by
          obtain ⟨_, _, rfl, rfl, _, _, rfl, ⟨p, rfl, hp⟩, rfl⟩ := hvs
          refine ofl_all (ls := []) (sq_of hp) (by decide) (by decide) ⟨by simp, by simp⟩ fun b o l H7 ws no nlw e7 hA hb => ?_
          have hbf : b = false := by rw [hb]; rfl
          subst hbf
          obtain ⟨nl, hlo, hwo⟩ := nlw rfl
          obtain ⟨dx, h1, h2⟩ := hA
          have hw0 : ws = [] := List.map_eq_nil_iff.mp hwo.len
          subst hw0
          exact q _ H7 e7 ⟨o, dx, l, rfl, h1, h2⟩
      have g1 : EvQ K (tFld K (tCall (spOfLengths K aWo aFu) [] E0 (tCons (tC (.int 2)) (tCons (tLst tNil) tNil))) "words") [some (.ref s2), some (.int ns.sum), some (.int (k : Int)), some (.ref pl), s4, s5, s6, s7, none, none] H' (([] : List Wd).map tx) := fun H4 e4 Q q =>
        g0 H4 e4 _ fun v H5 e5 ⟨o, dx, l, ev, h1, h2⟩ => ⟨o, aWo, dx, _, .ref l, ev, h1, (LK.cl false).cl, LK.n, look1 _ _, q l H5 e5 (sq_of h2)⟩
      have g2 : EvP (tCall (spOfLengths K aWo aFu) [] E0 (tCons (tC (.int 1)) (tCons (tLst (tCons (tC (.int 1)) (tCons (tC (.int 100)) tNil))) tNil))) [some (.ref s2), some (.int ns.sum), some (.int (k : Int)), some (.ref pl), s4, s5, s6, s7, none, none] H' (MB aFu) := ep_callQ (eaq_cons (B := fun _ v => v = .int ((1 : Nat) : Int)) (fun _ _ _ _ h => h) (ep_ev ev_c fun _ _ => rfl) (eaq_cons (B := NLs [1, 100]) up_NLs (ep_el (el_lst (vs := [.int 1, .int 100]) (ea_cons ev_c (ea_cons ev_c ea_nil)) (by simp)) fun p H1 _ hp => ⟨p, rfl, hp⟩) eaq_nil)) fun H6 vs e6 hvs Q q => by
          obtain ⟨_, _, rfl, rfl, _, _, rfl, ⟨p, rfl, hp⟩, rfl⟩ := hvs
          refine ofl_all (ls := [1, 100]) (sq_of hp) (by decide) (by decide) ⟨by decide, by decide⟩ fun b o l H7 ws no nlw e7 hA hb => ?_
          have hbf : b = true := by rw [hb]; decide +kernel
          subst hbf
          obtain ⟨dx, h1⟩ := hA
          exact q _ H7 e7 ⟨o, dx, rfl, h1⟩
      refine s_ret (v := .bl (decide (([] : List Wd) = []) && true)) (ev_andV (ev_eqQ enc_tx g1 (eq_new el_lst0) (by simp) (by simp)) fun _ => ev_isP g2 (fun H1 v hv => by
          obtain ⟨o', dx', rfl, h'⟩ := hv
          exact ty_ins (LK.cl true) h' H1 (Ex.refl _)) up_MB ev_c (LK.isF true)) fun H5 e5 => kend H5 (hex.trans e5)
end
end Tr


set_option Elab.async false
set_option linter.all false
set_option maxRecDepth 100000
set_option maxHeartbeats 4000000
namespace Tr
open PySem PySem.Spec PyProof.Rows L2 Evl
section
theorem all_mk {l : PySem.W.OpenLaw} {w : World} {K : PySem.W.Frag} {h : Heap} {mg : Str → Option Value} {fa : Addr} (X : K.In h) (G : h.Ns mainGlobals mg) (hfa : mg "law" = some (.ref fa))
    {f_stands : Addr} {od_stands an_stands : Option Addr} {sl_stands : Array (Option Value)} {oc_stands kV_stands dc_stands pm_stands cd_stands ct_stands : Value}
    {f_is_number : Addr} {od_is_number an_is_number : Option Addr} {sl_is_number : Array (Option Value)} {oc_is_number kV_is_number dc_is_number pm_is_number cd_is_number ct_is_number : Value}
    {f_is_text : Addr} {od_is_text an_is_text : Option Addr} {sl_is_text : Array (Option Value)} {oc_is_text kV_is_text dc_is_text pm_is_text cd_is_text ct_is_text : Value}
    {f_asked_code : Addr} {od_asked_code an_asked_code : Option Addr} {sl_asked_code : Array (Option Value)} {oc_asked_code kV_asked_code dc_asked_code pm_asked_code cd_asked_code ct_asked_code : Value}
    {f_written : Addr} {od_written an_written : Option Addr} {sl_written : Array (Option Value)} {oc_written kV_written dc_written pm_written cd_written ct_written : Value}
    {f_of_lengths : Addr} {od_of_lengths an_of_lengths : Option Addr} {sl_of_lengths : Array (Option Value)} {oc_of_lengths kV_of_lengths dc_of_lengths pm_of_lengths cd_of_lengths ct_of_lengths : Value}
    {f_first_tails : Addr} {od_first_tails an_first_tails : Option Addr} {sl_first_tails : Array (Option Value)} {oc_first_tails kV_first_tails dc_first_tails pm_first_tails cd_first_tails ct_first_tails : Value}
    {f_next_tails : Addr} {od_next_tails an_next_tails : Option Addr} {sl_next_tails : Array (Option Value)} {oc_next_tails kV_next_tails dc_next_tails pm_next_tails cd_next_tails ct_next_tails : Value}
    {f_once : Addr} {od_once an_once : Option Addr} {sl_once : Array (Option Value)} {oc_once kV_once dc_once pm_once cd_once ct_once : Value}
    {f__law_words : Addr} {od__law_words an__law_words : Option Addr} {sl__law_words : Array (Option Value)} {oc__law_words kV__law_words dc__law_words pm__law_words cd__law_words ct__law_words : Value}
    {f__law_full : Addr} {od__law_full an__law_full : Option Addr} {sl__law_full : Array (Option Value)} {oc__law_full kV__law_full dc__law_full pm__law_full cd__law_full ct__law_full : Value}
    {f_law : Addr} {od_law an_law : Option Addr} {sl_law : Array (Option Value)} {oc_law kV_law dc_law pm_law cd_law ct_law : Value}
    {aAns : Addr}
    {aCl : Addr}
    {aTl : Addr}
    {aBe : Addr}
    {aWo : Addr}
    {aFu : Addr}
    {f_Clash___init__ : Addr} {od_Clash___init__ an_Clash___init__ : Option Addr} {sl_Clash___init__ : Array (Option Value)} {oc_Clash___init__ kV_Clash___init__ dc_Clash___init__ pm_Clash___init__ cd_Clash___init__ ct_Clash___init__ : Value}
    {f_Tails___init__ : Addr} {od_Tails___init__ an_Tails___init__ : Option Addr} {sl_Tails___init__ : Array (Option Value)} {oc_Tails___init__ kV_Tails___init__ dc_Tails___init__ pm_Tails___init__ cd_Tails___init__ ct_Tails___init__ : Value}
    {f_Words___init__ : Addr} {od_Words___init__ an_Words___init__ : Option Addr} {sl_Words___init__ : Array (Option Value)} {oc_Words___init__ kV_Words___init__ dc_Words___init__ pm_Words___init__ cd_Words___init__ ct_Words___init__ : Value}
    {f_Words_shows : Addr} {od_Words_shows an_Words_shows : Option Addr} {sl_Words_shows : Array (Option Value)} {oc_Words_shows kV_Words_shows dc_Words_shows pm_Words_shows cd_Words_shows ct_Words_shows : Value}
    {f_Full_shows : Addr} {od_Full_shows an_Full_shows : Option Addr} {sl_Full_shows : Array (Option Value)} {oc_Full_shows kV_Full_shows dc_Full_shows pm_Full_shows cd_Full_shows ct_Full_shows : Value}
    {tL : Tok}
    {tG : Tok}
    (a_stands : PySem.W.nsIn K mainGlobals "stands" = some (some (.ref f_stands)))
    (l_stands : K.lookup f_stands = some ⟨oc_stands, od_stands, .func (PySem.W.fnOf "stands" "stands" (defArgs s_stands) (defBody s_stands) (defScope s_stands) .none kV_stands dc_stands pm_stands an_stands cd_stands ct_stands), sl_stands⟩)
    (c_stands : PySem.W.codeIn K cd_stands "stands" = true)
    (k_stands : PySem.W.keepIn K (.ref f_stands) = true)
    (a_is_number : PySem.W.nsIn K mainGlobals "is_number" = some (some (.ref f_is_number)))
    (l_is_number : K.lookup f_is_number = some ⟨oc_is_number, od_is_number, .func (PySem.W.fnOf "is_number" "is_number" (defArgs s_is_number) (defBody s_is_number) (defScope s_is_number) .none kV_is_number dc_is_number pm_is_number an_is_number cd_is_number ct_is_number), sl_is_number⟩)
    (c_is_number : PySem.W.codeIn K cd_is_number "is_number" = true)
    (k_is_number : PySem.W.keepIn K (.ref f_is_number) = true)
    (a_is_text : PySem.W.nsIn K mainGlobals "is_text" = some (some (.ref f_is_text)))
    (l_is_text : K.lookup f_is_text = some ⟨oc_is_text, od_is_text, .func (PySem.W.fnOf "is_text" "is_text" (defArgs s_is_text) (defBody s_is_text) (defScope s_is_text) .none kV_is_text dc_is_text pm_is_text an_is_text cd_is_text ct_is_text), sl_is_text⟩)
    (c_is_text : PySem.W.codeIn K cd_is_text "is_text" = true)
    (k_is_text : PySem.W.keepIn K (.ref f_is_text) = true)
    (a_asked_code : PySem.W.nsIn K mainGlobals "asked_code" = some (some (.ref f_asked_code)))
    (l_asked_code : K.lookup f_asked_code = some ⟨oc_asked_code, od_asked_code, .func (PySem.W.fnOf "asked_code" "asked_code" (defArgs s_asked_code) (defBody s_asked_code) (defScope s_asked_code) .none kV_asked_code dc_asked_code pm_asked_code an_asked_code cd_asked_code ct_asked_code), sl_asked_code⟩)
    (c_asked_code : PySem.W.codeIn K cd_asked_code "asked_code" = true)
    (k_asked_code : PySem.W.keepIn K (.ref f_asked_code) = true)
    (a_written : PySem.W.nsIn K mainGlobals "written" = some (some (.ref f_written)))
    (l_written : K.lookup f_written = some ⟨oc_written, od_written, .func (PySem.W.fnOf "written" "written" (defArgs s_written) (defBody s_written) (defScope s_written) .none kV_written dc_written pm_written an_written cd_written ct_written), sl_written⟩)
    (c_written : PySem.W.codeIn K cd_written "written" = true)
    (k_written : PySem.W.keepIn K (.ref f_written) = true)
    (a_of_lengths : PySem.W.nsIn K mainGlobals "of_lengths" = some (some (.ref f_of_lengths)))
    (l_of_lengths : K.lookup f_of_lengths = some ⟨oc_of_lengths, od_of_lengths, .func (PySem.W.fnOf "of_lengths" "of_lengths" (defArgs s_of_lengths) (defBody s_of_lengths) (defScope s_of_lengths) .none kV_of_lengths dc_of_lengths pm_of_lengths an_of_lengths cd_of_lengths ct_of_lengths), sl_of_lengths⟩)
    (c_of_lengths : PySem.W.codeIn K cd_of_lengths "of_lengths" = true)
    (k_of_lengths : PySem.W.keepIn K (.ref f_of_lengths) = true)
    (a_first_tails : PySem.W.nsIn K mainGlobals "first_tails" = some (some (.ref f_first_tails)))
    (l_first_tails : K.lookup f_first_tails = some ⟨oc_first_tails, od_first_tails, .func (PySem.W.fnOf "first_tails" "first_tails" (defArgs s_first_tails) (defBody s_first_tails) (defScope s_first_tails) .none kV_first_tails dc_first_tails pm_first_tails an_first_tails cd_first_tails ct_first_tails), sl_first_tails⟩)
    (c_first_tails : PySem.W.codeIn K cd_first_tails "first_tails" = true)
    (k_first_tails : PySem.W.keepIn K (.ref f_first_tails) = true)
    (a_next_tails : PySem.W.nsIn K mainGlobals "next_tails" = some (some (.ref f_next_tails)))
    (l_next_tails : K.lookup f_next_tails = some ⟨oc_next_tails, od_next_tails, .func (PySem.W.fnOf "next_tails" "next_tails" (defArgs s_next_tails) (defBody s_next_tails) (defScope s_next_tails) .none kV_next_tails dc_next_tails pm_next_tails an_next_tails cd_next_tails ct_next_tails), sl_next_tails⟩)
    (c_next_tails : PySem.W.codeIn K cd_next_tails "next_tails" = true)
    (k_next_tails : PySem.W.keepIn K (.ref f_next_tails) = true)
    (a_once : PySem.W.nsIn K mainGlobals "once" = some (some (.ref f_once)))
    (l_once : K.lookup f_once = some ⟨oc_once, od_once, .func (PySem.W.fnOf "once" "once" (defArgs s_once) (defBody s_once) (defScope s_once) .none kV_once dc_once pm_once an_once cd_once ct_once), sl_once⟩)
    (c_once : PySem.W.codeIn K cd_once "once" = true)
    (k_once : PySem.W.keepIn K (.ref f_once) = true)
    (a__law_words : PySem.W.nsIn K mainGlobals "_law_words" = some (some (.ref f__law_words)))
    (l__law_words : K.lookup f__law_words = some ⟨oc__law_words, od__law_words, .func (PySem.W.fnOf "_law_words" "_law_words" (defArgs s__law_words) (defBody s__law_words) (defScope s__law_words) .none kV__law_words dc__law_words pm__law_words an__law_words cd__law_words ct__law_words), sl__law_words⟩)
    (c__law_words : PySem.W.codeIn K cd__law_words "_law_words" = true)
    (k__law_words : PySem.W.keepIn K (.ref f__law_words) = true)
    (a__law_full : PySem.W.nsIn K mainGlobals "_law_full" = some (some (.ref f__law_full)))
    (l__law_full : K.lookup f__law_full = some ⟨oc__law_full, od__law_full, .func (PySem.W.fnOf "_law_full" "_law_full" (defArgs s__law_full) (defBody s__law_full) (defScope s__law_full) .none kV__law_full dc__law_full pm__law_full an__law_full cd__law_full ct__law_full), sl__law_full⟩)
    (c__law_full : PySem.W.codeIn K cd__law_full "_law_full" = true)
    (k__law_full : PySem.W.keepIn K (.ref f__law_full) = true)
    (a_law : PySem.W.nsIn K mainGlobals "law" = some (some (.ref f_law)))
    (l_law : K.lookup f_law = some ⟨oc_law, od_law, .func (PySem.W.fnOf "law" "law" (defArgs s_law) (defBody s_law) (defScope s_law) .none kV_law dc_law pm_law an_law cd_law ct_law), sl_law⟩)
    (c_law : PySem.W.codeIn K cd_law "law" = true)
    (k_law : PySem.W.keepIn K (.ref f_law) = true)
    (g_Answer : PySem.W.nsIn K mainGlobals "Answer" = some (some (.ref aAns)))
    (g_Clash : PySem.W.nsIn K mainGlobals "Clash" = some (some (.ref aCl)))
    (g_Tails : PySem.W.nsIn K mainGlobals "Tails" = some (some (.ref aTl)))
    (g_Begins : PySem.W.nsIn K mainGlobals "Begins" = some (some (.ref aBe)))
    (g_Words : PySem.W.nsIn K mainGlobals "Words" = some (some (.ref aWo)))
    (g_Full : PySem.W.nsIn K mainGlobals "Full" = some (some (.ref aFu)))
    (e6 : PySem.W.specialIn K (.builtin "object.__class__") "__get__" = some (some (.builtin "getset_descriptor.__get__")))
    (e7 : PySem.W.takesIn K (.builtin "object.__class__") = some true)
    (q1_Clash : PySem.W.plainGet K aCl Str.empty = true)
    (q2_Clash : PySem.W.hasDictIn K aCl = true)
    (q3_Clash : PySem.W.plainOver K aCl = true)
    (q4_Clash : PySem.W.findIn K (.ref aCl) "__setattr__" = some (some (.builtin "object.__setattr__")))
    (q5_Clash : PySem.W.findIn K (.ref aCl) "__class__" = some (some (.builtin "object.__class__")))
    (q6_Clash : PySem.W.mroIn K aCl (.type "object") = some true)
    (q7_Clash : PySem.W.makesIn K aCl = true)
    (q8_Clash : PySem.W.keepIn K (.ref aCl) = true)
    (n_Clash_one : PySem.W.findIn K (.ref aCl) "one" = some none)
    (n_Clash_other : PySem.W.findIn K (.ref aCl) "other" = some none)
    (i_Clash___init__ : PySem.W.findIn K (.ref aCl) "__init__" = some (some (.ref f_Clash___init__)))
    (w_Clash___init__ : PySem.W.isFn K (.ref f_Clash___init__) = true)
    (l_Clash___init__ : K.lookup f_Clash___init__ = some ⟨oc_Clash___init__, od_Clash___init__, .func (PySem.W.fnOf "__init__" "Clash.__init__" (defArgs s_Clash___init__) (defBody s_Clash___init__) (defScope s_Clash___init__) .none kV_Clash___init__ dc_Clash___init__ pm_Clash___init__ an_Clash___init__ cd_Clash___init__ ct_Clash___init__), sl_Clash___init__⟩)
    (c_Clash___init__ : PySem.W.codeIn K cd_Clash___init__ "Clash.__init__" = true)
    (k_Clash___init__ : PySem.W.keepIn K (.ref f_Clash___init__) = true)
    (q1_Tails : PySem.W.plainGet K aTl Str.empty = true)
    (q2_Tails : PySem.W.hasDictIn K aTl = true)
    (q3_Tails : PySem.W.plainOver K aTl = true)
    (q4_Tails : PySem.W.findIn K (.ref aTl) "__setattr__" = some (some (.builtin "object.__setattr__")))
    (q5_Tails : PySem.W.findIn K (.ref aTl) "__class__" = some (some (.builtin "object.__class__")))
    (q6_Tails : PySem.W.mroIn K aTl (.type "object") = some true)
    (q7_Tails : PySem.W.makesIn K aTl = true)
    (q8_Tails : PySem.W.keepIn K (.ref aTl) = true)
    (n_Tails_tails : PySem.W.findIn K (.ref aTl) "tails" = some none)
    (i_Tails___init__ : PySem.W.findIn K (.ref aTl) "__init__" = some (some (.ref f_Tails___init__)))
    (w_Tails___init__ : PySem.W.isFn K (.ref f_Tails___init__) = true)
    (l_Tails___init__ : K.lookup f_Tails___init__ = some ⟨oc_Tails___init__, od_Tails___init__, .func (PySem.W.fnOf "__init__" "Tails.__init__" (defArgs s_Tails___init__) (defBody s_Tails___init__) (defScope s_Tails___init__) .none kV_Tails___init__ dc_Tails___init__ pm_Tails___init__ an_Tails___init__ cd_Tails___init__ ct_Tails___init__), sl_Tails___init__⟩)
    (c_Tails___init__ : PySem.W.codeIn K cd_Tails___init__ "Tails.__init__" = true)
    (k_Tails___init__ : PySem.W.keepIn K (.ref f_Tails___init__) = true)
    (q1_Words : PySem.W.plainGet K aWo Str.empty = true)
    (q2_Words : PySem.W.hasDictIn K aWo = true)
    (q3_Words : PySem.W.plainOver K aWo = true)
    (q4_Words : PySem.W.findIn K (.ref aWo) "__setattr__" = some (some (.builtin "object.__setattr__")))
    (q5_Words : PySem.W.findIn K (.ref aWo) "__class__" = some (some (.builtin "object.__class__")))
    (q6_Words : PySem.W.mroIn K aWo (.type "object") = some true)
    (q7_Words : PySem.W.makesIn K aWo = true)
    (q8_Words : PySem.W.keepIn K (.ref aWo) = true)
    (n_Words_words : PySem.W.findIn K (.ref aWo) "words" = some none)
    (i_Words___init__ : PySem.W.findIn K (.ref aWo) "__init__" = some (some (.ref f_Words___init__)))
    (w_Words___init__ : PySem.W.isFn K (.ref f_Words___init__) = true)
    (l_Words___init__ : K.lookup f_Words___init__ = some ⟨oc_Words___init__, od_Words___init__, .func (PySem.W.fnOf "__init__" "Words.__init__" (defArgs s_Words___init__) (defBody s_Words___init__) (defScope s_Words___init__) .none kV_Words___init__ dc_Words___init__ pm_Words___init__ an_Words___init__ cd_Words___init__ ct_Words___init__), sl_Words___init__⟩)
    (c_Words___init__ : PySem.W.codeIn K cd_Words___init__ "Words.__init__" = true)
    (k_Words___init__ : PySem.W.keepIn K (.ref f_Words___init__) = true)
    (i_Words_shows : PySem.W.findIn K (.ref aWo) "shows" = some (some (.ref f_Words_shows)))
    (w_Words_shows : PySem.W.isFn K (.ref f_Words_shows) = true)
    (l_Words_shows : K.lookup f_Words_shows = some ⟨oc_Words_shows, od_Words_shows, .func (PySem.W.fnOf "shows" "Words.shows" (defArgs s_Words_shows) (defBody s_Words_shows) (defScope s_Words_shows) .none kV_Words_shows dc_Words_shows pm_Words_shows an_Words_shows cd_Words_shows ct_Words_shows), sl_Words_shows⟩)
    (c_Words_shows : PySem.W.codeIn K cd_Words_shows "Words.shows" = true)
    (k_Words_shows : PySem.W.keepIn K (.ref f_Words_shows) = true)
    (q1_Full : PySem.W.plainGet K aFu Str.empty = true)
    (q2_Full : PySem.W.hasDictIn K aFu = true)
    (q3_Full : PySem.W.plainOver K aFu = true)
    (q4_Full : PySem.W.findIn K (.ref aFu) "__setattr__" = some (some (.builtin "object.__setattr__")))
    (q5_Full : PySem.W.findIn K (.ref aFu) "__class__" = some (some (.builtin "object.__class__")))
    (q6_Full : PySem.W.mroIn K aFu (.type "object") = some true)
    (q7_Full : PySem.W.makesIn K aFu = true)
    (q8_Full : PySem.W.keepIn K (.ref aFu) = true)
    (i_Full_shows : PySem.W.findIn K (.ref aFu) "shows" = some (some (.ref f_Full_shows)))
    (w_Full_shows : PySem.W.isFn K (.ref f_Full_shows) = true)
    (l_Full_shows : K.lookup f_Full_shows = some ⟨oc_Full_shows, od_Full_shows, .func (PySem.W.fnOf "shows" "Full.shows" (defArgs s_Full_shows) (defBody s_Full_shows) (defScope s_Full_shows) .none kV_Full_shows dc_Full_shows pm_Full_shows an_Full_shows cd_Full_shows ct_Full_shows), sl_Full_shows⟩)
    (c_Full_shows : PySem.W.codeIn K cd_Full_shows "Full.shows" = true)
    (k_Full_shows : PySem.W.keepIn K (.ref f_Full_shows) = true)
    (z_len : PySem.W.nsIn K mainGlobals "len" = some none)
    (z_all : PySem.W.nsIn K mainGlobals "all" = some none)
    (z_any : PySem.W.nsIn K mainGlobals "any" = some none)
    (z_isinstance : PySem.W.nsIn K mainGlobals "isinstance" = some none)
    (z_range : PySem.W.nsIn K mainGlobals "range" = some none)
    (z_sum : PySem.W.nsIn K mainGlobals "sum" = some none)
    (z_sorted : PySem.W.nsIn K mainGlobals "sorted" = some none)
    (z_enumerate : PySem.W.nsIn K mainGlobals "enumerate" = some none)
    (z_max : PySem.W.nsIn K mainGlobals "max" = some none)
    (z_min : PySem.W.nsIn K mainGlobals "min" = some none)
    (z_reversed : PySem.W.nsIn K mainGlobals "reversed" = some none)
    (z_list : PySem.W.nsIn K mainGlobals "list" = some none)
    (z_int : PySem.W.nsIn K mainGlobals "int" = some none)
    (z_str : PySem.W.nsIn K mainGlobals "str" = some none)
    (z_bool : PySem.W.nsIn K mainGlobals "bool" = some none)
    (z_set : PySem.W.nsIn K mainGlobals "set" = some none)
    (z_ValueError : PySem.W.nsIn K mainGlobals "ValueError" = some none)
    (z_LETTERS : PySem.W.nsIn K mainGlobals "LETTERS" = some (some (.str "abcdefghijklmnopqrstuvwxyz" tL)))
    (z_LONGEST : PySem.W.nsIn K mainGlobals "LONGEST" = some (some (.int 100 tG)))
    (y_aFu_aWo : PySem.W.kitOne K (.ref aFu) (.ref aWo) = some false)
    (y_aWo_aWo : PySem.W.kitOne K (.ref aWo) (.ref aWo) = some true)
    (y_aFu_aFu : PySem.W.kitOne K (.ref aFu) (.ref aFu) = some true)
    (y_aWo_aFu : PySem.W.kitOne K (.ref aWo) (.ref aFu) = some false)
    (y_aTl_aTl : PySem.W.kitOne K (.ref aTl) (.ref aTl) = some true)
    (y_aFu_aAns : PySem.W.kitOne K (.ref aFu) (.ref aAns) = some true)
    (y_aWo_aAns : PySem.W.kitOne K (.ref aWo) (.ref aAns) = some true)
    (y_aFu_aBe : PySem.W.kitOne K (.ref aFu) (.ref aBe) = some false)
    (y_aWo_aBe : PySem.W.kitOne K (.ref aWo) (.ref aBe) = some false)
    (y_aFu_aTl : PySem.W.kitOne K (.ref aFu) (.ref aTl) = some false)
    (y_aWo_aTl : PySem.W.kitOne K (.ref aWo) (.ref aTl) = some false)
    (ini_Full : PySem.W.findIn K (.ref aFu) "__init__" = some (some (.builtin "object.__init__")))
    : ∃ fd : FuncData, (∀ (s : Shared) (v : Value), BindsTo s fd ⟨[v], []⟩ [("_law_script", v)]) ∧ ∀ base : Heap, K.In base → base.Ns mainGlobals mg → FnOk l.prog w K mg base (L2N.CX l.prog w) 4 fa fd ["_law_script"] (spLaw K) := by
  have e := hfa.symm.trans (PySem.W.mg_of X G a_law)
  cases e
  refine ⟨PySem.W.fnOf "law" "law" (defArgs s_law) (defBody s_law) (defScope s_law) .none kV_law dc_law pm_law an_law cd_law ct_law, fun s v => .of_eq rfl, fun base _ _ => ?_⟩
  have D_stands : DefAt K mg "stands" s_stands ["word", "text", "at"] := ⟨_, _, fun_mk l_stands c_stands k_stands, PySem.W.mg_of X G a_stands, (fun_mk l_stands c_stands k_stands).binds fun _ _ _ _ _ _ us hl => match us, hl with | [_, _, _], _ => rfl⟩
  have D_is_number : DefAt K mg "is_number" s_is_number ["thing", "least", "most"] := ⟨_, _, fun_mk l_is_number c_is_number k_is_number, PySem.W.mg_of X G a_is_number, (fun_mk l_is_number c_is_number k_is_number).binds fun _ _ _ _ _ _ us hl => match us, hl with | [_, _, _], _ => rfl⟩
  have D_is_text : DefAt K mg "is_text" s_is_text ["thing"] := ⟨_, _, fun_mk l_is_text c_is_text k_is_text, PySem.W.mg_of X G a_is_text, (fun_mk l_is_text c_is_text k_is_text).binds fun _ _ _ _ _ _ us hl => match us, hl with | [_], _ => rfl⟩
  have D_asked_code : DefAt K mg "asked_code" s_asked_code ["code"] := ⟨_, _, fun_mk l_asked_code c_asked_code k_asked_code, PySem.W.mg_of X G a_asked_code, (fun_mk l_asked_code c_asked_code k_asked_code).binds fun _ _ _ _ _ _ us hl => match us, hl with | [_], _ => rfl⟩
  have D_written : DefAt K mg "written" s_written ["number", "letters", "length"] := ⟨_, _, fun_mk l_written c_written k_written, PySem.W.mg_of X G a_written, (fun_mk l_written c_written k_written).binds fun _ _ _ _ _ _ us hl => match us, hl with | [_, _, _], _ => rfl⟩
  have D_of_lengths : DefAt K mg "of_lengths" s_of_lengths ["letters", "lengths"] := ⟨_, _, fun_mk l_of_lengths c_of_lengths k_of_lengths, PySem.W.mg_of X G a_of_lengths, (fun_mk l_of_lengths c_of_lengths k_of_lengths).binds fun _ _ _ _ _ _ us hl => match us, hl with | [_, _], _ => rfl⟩
  have D_first_tails : DefAt K mg "first_tails" s_first_tails ["code"] := ⟨_, _, fun_mk l_first_tails c_first_tails k_first_tails, PySem.W.mg_of X G a_first_tails, (fun_mk l_first_tails c_first_tails k_first_tails).binds fun _ _ _ _ _ _ us hl => match us, hl with | [_], _ => rfl⟩
  have D_next_tails : DefAt K mg "next_tails" s_next_tails ["code", "told"] := ⟨_, _, fun_mk l_next_tails c_next_tails k_next_tails, PySem.W.mg_of X G a_next_tails, (fun_mk l_next_tails c_next_tails k_next_tails).binds fun _ _ _ _ _ _ us hl => match us, hl with | [_, _], _ => rfl⟩
  have D_once : DefAt K mg "once" s_once ["code"] := ⟨_, _, fun_mk l_once c_once k_once, PySem.W.mg_of X G a_once, (fun_mk l_once c_once k_once).binds fun _ _ _ _ _ _ us hl => match us, hl with | [_], _ => rfl⟩
  have D__law_words : DefAt K mg "_law_words" s__law_words ["_law_letters", "_law_lengths", "_law_words_here"] := ⟨_, _, fun_mk l__law_words c__law_words k__law_words, PySem.W.mg_of X G a__law_words, (fun_mk l__law_words c__law_words k__law_words).binds fun _ _ _ _ _ _ us hl => match us, hl with | [_, _, _], _ => rfl⟩
  have D__law_full : DefAt K mg "_law_full" s__law_full ["_law_letters", "_law_lengths"] := ⟨_, _, fun_mk l__law_full c__law_full k__law_full, PySem.W.mg_of X G a__law_full, (fun_mk l__law_full c__law_full k__law_full).binds fun _ _ _ _ _ _ us hl => match us, hl with | [_, _], _ => rfl⟩
  have G_Answer : mg "Answer" = some (.ref aAns) := PySem.W.mg_of X G g_Answer
  have G_Clash : mg "Clash" = some (.ref aCl) := PySem.W.mg_of X G g_Clash
  have G_Tails : mg "Tails" = some (.ref aTl) := PySem.W.mg_of X G g_Tails
  have G_Begins : mg "Begins" = some (.ref aBe) := PySem.W.mg_of X G g_Begins
  have G_Words : mg "Words" = some (.ref aWo) := PySem.W.mg_of X G g_Words
  have G_Full : mg "Full" = some (.ref aFu) := PySem.W.mg_of X G g_Full
  have L_Clash : ClsI K aCl := ⟨⟨q1_Clash, q2_Clash, q3_Clash, q4_Clash⟩, q5_Clash, e6, e7, q6_Clash⟩
  have N_Clash_one : NoAttr K aCl "one" := n_Clash_one
  have N_Clash_other : NoAttr K aCl "other" := n_Clash_other
  have D_Clash___init__ : IniAt K aCl "Clash.__init__" s_Clash___init__ ["self", "one", "other"] := ⟨_, _, fun_mk l_Clash___init__ c_Clash___init__ k_Clash___init__, ⟨q7_Clash, i_Clash___init__, w_Clash___init__, q8_Clash⟩, (fun_mk l_Clash___init__ c_Clash___init__ k_Clash___init__).binds fun _ _ _ _ _ _ us hl => match us, hl with | [_, _, _], _ => rfl⟩
  have L_Tails : ClsI K aTl := ⟨⟨q1_Tails, q2_Tails, q3_Tails, q4_Tails⟩, q5_Tails, e6, e7, q6_Tails⟩
  have N_Tails_tails : NoAttr K aTl "tails" := n_Tails_tails
  have D_Tails___init__ : IniAt K aTl "Tails.__init__" s_Tails___init__ ["self", "tails"] := ⟨_, _, fun_mk l_Tails___init__ c_Tails___init__ k_Tails___init__, ⟨q7_Tails, i_Tails___init__, w_Tails___init__, q8_Tails⟩, (fun_mk l_Tails___init__ c_Tails___init__ k_Tails___init__).binds fun _ _ _ _ _ _ us hl => match us, hl with | [_, _], _ => rfl⟩
  have L_Words : ClsI K aWo := ⟨⟨q1_Words, q2_Words, q3_Words, q4_Words⟩, q5_Words, e6, e7, q6_Words⟩
  have N_Words_words : NoAttr K aWo "words" := n_Words_words
  have D_Words___init__ : IniAt K aWo "Words.__init__" s_Words___init__ ["self", "words"] := ⟨_, _, fun_mk l_Words___init__ c_Words___init__ k_Words___init__, ⟨q7_Words, i_Words___init__, w_Words___init__, q8_Words⟩, (fun_mk l_Words___init__ c_Words___init__ k_Words___init__).binds fun _ _ _ _ _ _ us hl => match us, hl with | [_, _], _ => rfl⟩
  have D_Words_shows : MthAt K aWo "shows" "Words.shows" s_Words_shows ["self", "letters", "lengths"] := ⟨_, _, fun_mk l_Words_shows c_Words_shows k_Words_shows, ⟨i_Words_shows, w_Words_shows, k_Words_shows⟩, (fun_mk l_Words_shows c_Words_shows k_Words_shows).binds fun _ _ _ _ _ _ us hl => match us, hl with | [_, _, _], _ => rfl⟩
  have L_Full : ClsI K aFu := ⟨⟨q1_Full, q2_Full, q3_Full, q4_Full⟩, q5_Full, e6, e7, q6_Full⟩
  have D_Full_shows : MthAt K aFu "shows" "Full.shows" s_Full_shows ["self", "letters", "lengths"] := ⟨_, _, fun_mk l_Full_shows c_Full_shows k_Full_shows, ⟨i_Full_shows, w_Full_shows, k_Full_shows⟩, (fun_mk l_Full_shows c_Full_shows k_Full_shows).binds fun _ _ _ _ _ _ us hl => match us, hl with | [_, _, _], _ => rfl⟩
  have T : Blt mg := ⟨PySem.W.mg_none_of X G z_len, PySem.W.mg_none_of X G z_all, PySem.W.mg_none_of X G z_any, PySem.W.mg_none_of X G z_isinstance, PySem.W.mg_none_of X G z_range, PySem.W.mg_none_of X G z_sum, PySem.W.mg_none_of X G z_sorted, PySem.W.mg_none_of X G z_enumerate, PySem.W.mg_none_of X G z_max, PySem.W.mg_none_of X G z_min, PySem.W.mg_none_of X G z_reversed, PySem.W.mg_none_of X G z_list, PySem.W.mg_none_of X G z_int, PySem.W.mg_none_of X G z_str, PySem.W.mg_none_of X G z_bool, PySem.W.mg_none_of X G z_set, PySem.W.mg_none_of X G z_ValueError, ⟨_, PySem.W.mg_of X G z_LETTERS, tL, rfl⟩⟩
  have TLong : ∃ u, mg "LONGEST" = some u ∧ RelV (.int 100) u := ⟨_, PySem.W.mg_of X G z_LONGEST, tG, rfl⟩
  have K_Full : Mk0At K mg "Full" aFu := ⟨G_Full, q7_Full, ini_Full, q8_Full⟩
  have LK : LenK K aWo aFu aAns aBe aTl := ⟨fun b => match b with | true => y_aFu_aWo | false => y_aWo_aWo, fun b => match b with | true => y_aFu_aFu | false => y_aWo_aFu, fun b => match b with | true => y_aFu_aAns | false => y_aWo_aAns, fun b => match b with | true => y_aFu_aBe | false => y_aWo_aBe, fun b => match b with | true => y_aFu_aTl | false => y_aWo_aTl, fun b => match b with | true => L_Full | false => L_Words, N_Words_words, L_Tails, y_aTl_aTl⟩
  have C_stands := ok_stands (P := l.prog) (w := w) (base := base) D_stands T
  have C_is_number := ok_is_number (P := l.prog) (w := w) (base := base) D_is_number T
  have C_is_text := ok_is_text (P := l.prog) (w := w) (base := base) D_is_text T
  have C_asked_code := ok_asked_code (P := l.prog) (w := w) (base := base) D_asked_code T C_is_text
  have K_Clash := ok_Clash___init__ (P := l.prog) (w := w) (base := base) D_Clash___init__ T G_Clash L_Clash N_Clash_one N_Clash_other
  have K_Tails := ok_Tails___init__ (P := l.prog) (w := w) (base := base) D_Tails___init__ T G_Tails L_Tails N_Tails_tails
  have K_Words := ok_Words___init__ (P := l.prog) (w := w) (base := base) D_Words___init__ T G_Words L_Words N_Words_words
  have M_Words_shows := ok_Words_shows (P := l.prog) (w := w) (base := base) D_Words_shows T L_Words N_Words_words C_is_text C_stands
  have M_Full_shows := ok_Full_shows (P := l.prog) (w := w) (base := base) D_Full_shows T L_Full
  have C_written := ok_written (P := l.prog) (w := w) (base := base) D_written T
  have C_of_lengths := ok_of_lengths (P := l.prog) (w := w) (base := base) D_of_lengths T TLong C_is_number C_written K_Full M_Full_shows K_Words
  have C_first_tails := ok_first_tails (P := l.prog) (w := w) (base := base) D_first_tails T C_stands
  have C_next_tails := ok_next_tails (P := l.prog) (w := w) (base := base) D_next_tails T C_stands
  have C_once := ok_once (P := l.prog) (w := w) (base := base) D_once T C_asked_code C_first_tails C_next_tails K_Clash K_Tails
  have C__law_words := ok__law_words (P := l.prog) (w := w) (base := base) D__law_words T
  have C__law_full := ok__law_full (P := l.prog) (w := w) (base := base) D__law_full T
  exact ok_law (fun_mk l_law c_law k_law) T G_Words G_Full G_Answer G_Begins G_Tails LK C_of_lengths C_once C__law_words C__law_full M_Words_shows M_Full_shows
end
theorem walk {l : PySem.W.OpenLaw} {q : Program} {loose : List Str} {XP : (Str → Option Value) → Heap → Prop} {YP : World → Heap → Prop} {d : DefRec} {K : Params → PySem.W.Frag} (hn : l.most = some 63) (hdf : d.params.defaults = [])
    (hY : ∀ (w : World) (h : Heap), YP w h → (K w.params).In h)
    (F : ∀ (w : World) (mg : Str → Option Value) (fa : Addr) (h : Heap), (K w.params).In h → h.Ns mainGlobals mg → mg d.name = some (.ref fa) →
      ∃ fd : FuncData, (∀ (s : Shared) (u : Value), BindsTo s fd ⟨[u], []⟩ [("_law_script", u)]) ∧ ∀ base : Heap, (K w.params).In base → base.Ns mainGlobals mg → FnOk l.prog w (K w.params) mg base (L2N.CX l.prog w) 4 fa fd ["_law_script"] (spLaw (K w.params))) :
    PySem.W.WalkO q loose XP YP l.row.toRowW d [] (fun f vs => PySem.call f vs) :=
  L2.walk_of (n := 63) (k := 4) (x := "_law_script") (CX := fun w => L2N.CX l.prog w) (sp := fun w => spLaw (K w.params)) hn (by decide) hdf ⟨rfl, by decide, by decide⟩ hY F (fun _ _ a ns hl _ hS => ⟨a, ns, rfl, hS, hl, fun _ _ => rfl⟩) fun _ _ _ _ _ z => by
    obtain ⟨_, _, _, _, _, _, _, _, _, _, _, _, y⟩ := z
    exact y
end Tr
open PySem PySem.W PyProof.Rows
set_option maxRecDepth 100000 in
set_option maxHeartbeats 0 in
theorem PySem.Challenge.cw_tworeadings_k05_whole_lengths_holds : PySem.Challenge.rw_tworeadings_k05_whole_lengths.Holds := by
  w_on; o_law; k_head; (case hw => w_witness2)
  k_fill
  refine Tr.walk (l := PySem.Challenge.rw_tworeadings_k05_whole_lengths) rfl rfl (fun w h Y => by first | exact PySem.W.kIn_of Y | exact PySem.W.km_in_of Y) ?F
  case F =>
    intro w mg fa h KX G hmg
    refine' Tr.all_mk KX G hmg ?a_stands ?l_stands ?c_stands ?k_stands ?a_is_number ?l_is_number ?c_is_number ?k_is_number ?a_is_text ?l_is_text ?c_is_text ?k_is_text ?a_asked_code ?l_asked_code ?c_asked_code ?k_asked_code ?a_written ?l_written ?c_written ?k_written ?a_of_lengths ?l_of_lengths ?c_of_lengths ?k_of_lengths ?a_first_tails ?l_first_tails ?c_first_tails ?k_first_tails ?a_next_tails ?l_next_tails ?c_next_tails ?k_next_tails ?a_once ?l_once ?c_once ?k_once ?a__law_words ?l__law_words ?c__law_words ?k__law_words ?a__law_full ?l__law_full ?c__law_full ?k__law_full ?a_law ?l_law ?c_law ?k_law ?g_Answer ?g_Clash ?g_Tails ?g_Begins ?g_Words ?g_Full ?e6 ?e7 ?q1_Clash ?q2_Clash ?q3_Clash ?q4_Clash ?q5_Clash ?q6_Clash ?q7_Clash ?q8_Clash ?n_Clash_one ?n_Clash_other ?i_Clash___init__ ?w_Clash___init__ ?l_Clash___init__ ?c_Clash___init__ ?k_Clash___init__ ?q1_Tails ?q2_Tails ?q3_Tails ?q4_Tails ?q5_Tails ?q6_Tails ?q7_Tails ?q8_Tails ?n_Tails_tails ?i_Tails___init__ ?w_Tails___init__ ?l_Tails___init__ ?c_Tails___init__ ?k_Tails___init__ ?q1_Words ?q2_Words ?q3_Words ?q4_Words ?q5_Words ?q6_Words ?q7_Words ?q8_Words ?n_Words_words ?i_Words___init__ ?w_Words___init__ ?l_Words___init__ ?c_Words___init__ ?k_Words___init__ ?i_Words_shows ?w_Words_shows ?l_Words_shows ?c_Words_shows ?k_Words_shows ?q1_Full ?q2_Full ?q3_Full ?q4_Full ?q5_Full ?q6_Full ?q7_Full ?q8_Full ?i_Full_shows ?w_Full_shows ?l_Full_shows ?c_Full_shows ?k_Full_shows ?z_len ?z_all ?z_any ?z_isinstance ?z_range ?z_sum ?z_sorted ?z_enumerate ?z_max ?z_min ?z_reversed ?z_list ?z_int ?z_str ?z_bool ?z_set ?z_ValueError ?z_LETTERS ?z_LONGEST ?y_aFu_aWo ?y_aWo_aWo ?y_aFu_aFu ?y_aWo_aFu ?y_aTl_aTl ?y_aFu_aAns ?y_aWo_aAns ?y_aFu_aBe ?y_aWo_aBe ?y_aFu_aTl ?y_aWo_aTl ?ini_Full
    (case a_stands => first | k_is | rfl); (case l_stands => first | k_is | rfl); (case c_stands => first | k_is | rfl); (case k_stands => first | k_is | rfl); (case a_is_number => first | k_is | rfl); (case l_is_number => first | k_is | rfl)
    (case c_is_number => first | k_is | rfl); (case k_is_number => first | k_is | rfl); (case a_is_text => first | k_is | rfl); (case l_is_text => first | k_is | rfl); (case c_is_text => first | k_is | rfl); (case k_is_text => first | k_is | rfl)
    (case a_asked_code => first | k_is | rfl); (case l_asked_code => first | k_is | rfl); (case c_asked_code => first | k_is | rfl); (case k_asked_code => first | k_is | rfl); (case a_written => first | k_is | rfl); (case l_written => first | k_is | rfl)
    (case c_written => first | k_is | rfl); (case k_written => first | k_is | rfl); (case a_of_lengths => first | k_is | rfl); (case l_of_lengths => first | k_is | rfl); (case c_of_lengths => first | k_is | rfl); (case k_of_lengths => first | k_is | rfl)
    (case a_first_tails => first | k_is | rfl); (case l_first_tails => first | k_is | rfl); (case c_first_tails => first | k_is | rfl); (case k_first_tails => first | k_is | rfl); (case a_next_tails => first | k_is | rfl); (case l_next_tails => first | k_is | rfl)
    (case c_next_tails => first | k_is | rfl); (case k_next_tails => first | k_is | rfl); (case a_once => first | k_is | rfl); (case l_once => first | k_is | rfl); (case c_once => first | k_is | rfl); (case k_once => first | k_is | rfl)
    (case a__law_words => first | k_is | rfl); (case l__law_words => first | k_is | rfl); (case c__law_words => first | k_is | rfl); (case k__law_words => first | k_is | rfl); (case a__law_full => first | k_is | rfl); (case l__law_full => first | k_is | rfl)
    (case c__law_full => first | k_is | rfl); (case k__law_full => first | k_is | rfl); (case a_law => first | k_is | rfl); (case l_law => first | k_is | rfl); (case c_law => first | k_is | rfl); (case k_law => first | k_is | rfl)
    (case g_Answer => first | k_is | rfl); (case g_Clash => first | k_is | rfl); (case g_Tails => first | k_is | rfl); (case g_Begins => first | k_is | rfl); (case g_Words => first | k_is | rfl); (case g_Full => first | k_is | rfl)
    (case e6 => first | k_is | rfl); (case e7 => first | k_is | rfl); (case q1_Clash => first | k_is | rfl); (case q2_Clash => first | k_is | rfl); (case q3_Clash => first | k_is | rfl); (case q4_Clash => first | k_is | rfl)
    (case q5_Clash => first | k_is | rfl); (case q6_Clash => first | k_is | rfl); (case q7_Clash => first | k_is | rfl); (case q8_Clash => first | k_is | rfl); (case n_Clash_one => first | k_is | rfl); (case n_Clash_other => first | k_is | rfl)
    (case i_Clash___init__ => first | k_is | rfl); (case w_Clash___init__ => first | k_is | rfl); (case l_Clash___init__ => first | k_is | rfl); (case c_Clash___init__ => first | k_is | rfl); (case k_Clash___init__ => first | k_is | rfl); (case q1_Tails => first | k_is | rfl)
    (case q2_Tails => first | k_is | rfl); (case q3_Tails => first | k_is | rfl); (case q4_Tails => first | k_is | rfl); (case q5_Tails => first | k_is | rfl); (case q6_Tails => first | k_is | rfl); (case q7_Tails => first | k_is | rfl)
    (case q8_Tails => first | k_is | rfl); (case n_Tails_tails => first | k_is | rfl); (case i_Tails___init__ => first | k_is | rfl); (case w_Tails___init__ => first | k_is | rfl); (case l_Tails___init__ => first | k_is | rfl); (case c_Tails___init__ => first | k_is | rfl)
    (case k_Tails___init__ => first | k_is | rfl); (case q1_Words => first | k_is | rfl); (case q2_Words => first | k_is | rfl); (case q3_Words => first | k_is | rfl); (case q4_Words => first | k_is | rfl); (case q5_Words => first | k_is | rfl)
    (case q6_Words => first | k_is | rfl); (case q7_Words => first | k_is | rfl); (case q8_Words => first | k_is | rfl); (case n_Words_words => first | k_is | rfl); (case i_Words___init__ => first | k_is | rfl); (case w_Words___init__ => first | k_is | rfl)
    (case l_Words___init__ => first | k_is | rfl); (case c_Words___init__ => first | k_is | rfl); (case k_Words___init__ => first | k_is | rfl); (case i_Words_shows => first | k_is | rfl); (case w_Words_shows => first | k_is | rfl); (case l_Words_shows => first | k_is | rfl)
    (case c_Words_shows => first | k_is | rfl); (case k_Words_shows => first | k_is | rfl); (case q1_Full => first | k_is | rfl); (case q2_Full => first | k_is | rfl); (case q3_Full => first | k_is | rfl); (case q4_Full => first | k_is | rfl)
    (case q5_Full => first | k_is | rfl); (case q6_Full => first | k_is | rfl); (case q7_Full => first | k_is | rfl); (case q8_Full => first | k_is | rfl); (case i_Full_shows => first | k_is | rfl); (case w_Full_shows => first | k_is | rfl)
    (case l_Full_shows => first | k_is | rfl); (case c_Full_shows => first | k_is | rfl); (case k_Full_shows => first | k_is | rfl); (case z_len => first | k_is | rfl); (case z_all => first | k_is | rfl); (case z_any => first | k_is | rfl)
    (case z_isinstance => first | k_is | rfl); (case z_range => first | k_is | rfl); (case z_sum => first | k_is | rfl); (case z_sorted => first | k_is | rfl); (case z_enumerate => first | k_is | rfl); (case z_max => first | k_is | rfl)
    (case z_min => first | k_is | rfl); (case z_reversed => first | k_is | rfl); (case z_list => first | k_is | rfl); (case z_int => first | k_is | rfl); (case z_str => first | k_is | rfl); (case z_bool => first | k_is | rfl)
    (case z_set => first | k_is | rfl); (case z_ValueError => first | k_is | rfl); (case z_LETTERS => first | k_is | rfl); (case z_LONGEST => first | k_is | rfl); (case y_aFu_aWo => first | k_is | rfl); (case y_aWo_aWo => first | k_is | rfl)
    (case y_aFu_aFu => first | k_is | rfl); (case y_aWo_aFu => first | k_is | rfl); (case y_aTl_aTl => first | k_is | rfl); (case y_aFu_aAns => first | k_is | rfl); (case y_aWo_aAns => first | k_is | rfl); (case y_aFu_aBe => first | k_is | rfl)
    (case y_aWo_aBe => first | k_is | rfl); (case y_aFu_aTl => first | k_is | rfl); (case y_aWo_aTl => first | k_is | rfl); (case ini_Full => first | k_is | rfl)
#print axioms PySem.Challenge.cw_tworeadings_k05_whole_lengths_holds
