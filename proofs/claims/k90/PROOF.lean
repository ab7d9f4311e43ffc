import PyProof.Rows.All
import Wide.All
import OpenK.AllK
import Wide.FinOn
import HandS.Base
import HandS.Call
import HandS.List
import HandS.Exc
import HandS.ExcInit
import HandS.ExcIs
import HandS.ExcField
import HandS.ExcOwn
import HandS.TupLe
import HandS.IsInst
import KE.KExcIs
import HandS.ForMost
import HandS.ForExc
import HandS.Star
import HandS.Wide
import HandS.Evl
import HandS.Steps
import PySem.Challenge.RW_duejobs_k90_numbers_of_claims
set_option Elab.async false
set_option linter.all false
set_option maxRecDepth 100000
set_option maxHeartbeats 4000000
namespace L2
open PySem PySem.Spec PyProof.Rows
/-! ### self.f, .. = .. : a field of an exception that is being made, as a target -/
def gOst (K : PySem.W.Frag) (f : Str) (to : TE) : TG := fun y σ H Q => to σ H fun x H2 => ∃ a C : Addr, x = .ref a ∧ OexC K C ∧ PySem.W.findIn K (.ref C) f = some none ∧
  ((H2 a = some (exo a C none) ∧ ∀ dx, H2 dx = none → dx ≠ a → Q σ (upd (upd H2 dx (exd dx [(f, y)])) a (exo a C (some dx)))) ∨
    ∃ (dx : Addr) (fs : List (Str × V)), H2 a = some (exo a C (some dx)) ∧ H2 dx = some (exd dx fs) ∧ fs.length ≤ 900 ∧ Q σ (upd H2 dx (exd dx ((f, y) :: fs))))
theorem pg_ost {X : Cx} {o : Expr} {to : TE} {f : Str} {pos : Pos} (ho : PE X o to)
    (ha : ∀ v, assign (.Attribute o f pos) X.env v = (do
      let ov ← holding [v] (eval o X.env)
      standAt pos.atName
      holding [v, ov] (setAttr ov f v)
      release [v, ov] []) := by intro _; rfl) : PG X (.Attribute o f pos) (gOst X.K f to) := by
  refine ⟨fun pins s σ H v u Q I r h => ?_⟩
  rw [ha]
  refine wpAny_bind (wpAny_holding (thn (ho.run pins s σ H _ I h) fun ov s1 ⟨x, H1, I1, r1, a, C, ex, T, hno, q⟩ => ?_))
  subst ex
  obtain rfl : ov = Value.ref a := r1
  refine wpAny_bind (wpAny_standAt (wpAny_bind (wpAny_holding ?_)))
  rcases q with ⟨ea, q⟩ | ⟨dx, fs, ea, ed, hl, q⟩
  · refine ost_new (s := { s1 with os := s1.os }) T I1 ea hno r fun dx s' n ne J => wpAny_release ⟨σ, _, J, q dx n ne⟩
  · refine ost_old (s := { s1 with os := s1.os }) T I1 ea ed hl hno r fun s' J => wpAny_release ⟨σ, _, J, q⟩
/-! ### t > u of two tuples of whole numbers -/
def rGtT (K : PySem.W.Frag) : R2 := fun x y H Q => ∃ (a b : Addr) (ns ms : List Int), x = .ref a ∧ y = .ref b ∧ SqT K H a (ns.map V.int) ∧ SqT K H b (ms.map V.int) ∧
  Q (.bl (Ob.lexAt (fun j => decide (ns.getD j 0 = ms.getD j 0)) (fun j => decide (ms.getD j 0 < ns.getD j 0)) (decide (ns.length > ms.length)) 0 (min ns.length ms.length))) H
/-- the j-th of whole numbers as the machine has them -/
theorem int_of {us : List Value} {ks : List Int} (h : Vals (ks.map V.int) us) (j : Nat) (hj : j < us.toArray.size) : ∃ t, us.toArray[j] = .int (ks.getD j 0) t := by
  have hu : j < us.length := by simpa using hj
  have hk : j < ks.length := by have := h.length; rw [List.length_map] at this; omega
  obtain ⟨u, e, t, rfl⟩ := h.get (i := j) (x := .int ks[j]) (by rw [List.getElem?_map, List.getElem?_eq_getElem hk]; rfl)
  rw [List.getElem?_eq_getElem hu] at e
  exact ⟨t, by rw [List.getElem_toArray, Option.some.inj e, List.getD_eq_getElem?_getD, List.getElem?_eq_getElem hk]; rfl⟩
theorem op_gtT {X : Cx} (hu : X.A.units < cLine) : OpR X (compareOp .Gt) (rGtT X.K) := by
  rintro pins s σ H _ _ v u Q I rx ry ⟨a, b, ns, ms, rfl, rfl, ha, hb, q⟩
  cases (show v = Value.ref a from rx)
  cases (show u = Value.ref b from ry)
  obtain ⟨us, ru, pu, _⟩ := I.tuple ha
  obtain ⟨ws, rw', pw, _⟩ := I.tuple hb
  have nu : us.toArray.size = ns.length := by have := ru.length; rw [List.length_map] at this; simp [← this]
  have nw : ws.toArray.size = ms.length := by have := rw'.length; rw [List.length_map] at this; simp [← this]
  have G := Ob.RcOp.tuples_gt (A := X.A) (s := s) (e := fun j => decide (ns.getD j 0 = ms.getD j 0)) (r := fun j => decide (ms.getD j 0 < ns.getD j 0)) pu pw hu
    (fun j h1 h2 => by
      obtain ⟨t, e1⟩ := int_of ru j h1
      obtain ⟨t', e2⟩ := int_of rw' j h2
      have z := SeqAt.EqAt.int_int (A := X.A.in1) (s := s) (ns.getD j 0) t (ms.getD j 0) t'
      rw [e1, e2]
      rwa [show (ns.getD j 0 == ms.getD j 0) = decide (ns.getD j 0 = ms.getD j 0) from rfl] at z)
    (fun j h1 h2 _ => by
      obtain ⟨t, e1⟩ := int_of ru j h1
      obtain ⟨t', e2⟩ := int_of rw' j h2
      rw [e1, e2]
      exact Ob.RcOp.gt_int _ _ t t')
  rw [nu, nw] at G
  exact (G X.prog X.w X.xe (EP X pins σ Q) ⟨.bl _, H, I, rfl, q⟩ : wpAny (model X.prog X.w) X.A (compareOp .Gt (.ref a) (.ref b)) (EP X pins σ Q) X.xe s)
end L2

namespace L2
open PySem PySem.Spec PyProof.Rows
/-- isinstance(e, c), e the exception that the suite holds, with its own dict -/
def rIsX (K : PySem.W.Frag) (a : Addr) (cls : Value) (d : Option Addr) : List V → Hp → VK → Prop := fun xs H Q => ∃ (D dd : Addr) (fs : List (Str × V)) (c : V) (cv : Value) (b : Bool), cls = .ref D ∧ ExcC K D ∧ d = some dd ∧ H dd = some (.xd fs) ∧ xs = [.ref a, c] ∧ ClsV c cv ∧ PySem.W.kitOne K (.ref D) cv = some b ∧ Q (.bl b) H
theorem call_isX {X : Cx} {a : Addr} {oe : Obj} {cls : Value} {d : Option Addr} {pn : List (Addr × Obj)} (hz : Zc cls d oe) (hf : ∃ vs, oe.data = .fields vs) : CallR (X.suite a ((a, oe) :: pn)) (.builtin "isinstance") (rIsX X.K a cls d) := by
  rintro pins s σ H _ us Q I r ⟨D, dd, fs, c, cv, b, rfl, C, rfl, ea, rfl, hcv, e, q⟩
  obtain ⟨u1, u2, rfl, r1, r2⟩ := vals2 r
  cases (show u1 = Value.ref a from r1)
  cases hcv.eq r2
  obtain ⟨mA, hns, _⟩ := (show ObjOk X.prog X.w H s.heap dd (.xd fs) from I.hok dd _ ea)
  obtain ⟨od, ho, _⟩ := lookIn_ns hns
  obtain ⟨vs, hv⟩ := hf
  have stands : PySem.W.InstAt s.heap a oe D (some od) := ⟨(I.pin (a, oe) (by simp)).1, hz.1, by rw [PySem.W.notCls, hv], hz.2 ▸ ho⟩
  have known : (PySem.W.clsIn X.K D).isSome = true := by
    obtain ⟨cd, h, _⟩ := PySem.W.any_some C.hd
    rw [h] <;> rfl
  refine PySem.W.kia_one (PySem.W.kitx_exc known C.hg C.hk C.hs C.ha C.hn C.ht C.hm) I.kIn stands e (fun z => nomatch z) fun tk => ?_
  exact ⟨.bl b, H, I.tok tk, rfl, q⟩
end L2
namespace PySem.W
open PySem
theorem xr_kit {K : Frag} {D C : Addr} {b : Bool} (hd : hasDictIn K C = true) (ht : typeIn K (.ref C) = some (.type "type")) (hs : subIn K (.ref D) (.ref C) = some b) (hself : subIn K (.ref C) (.ref C) = some true) : kitOne K (.ref D) (.ref C) = some b := by
  obtain ⟨cd, hc, _⟩ := any_some hd
  unfold kitOne
  by_cases e : D = C
  · subst e
    rw [hself] at hs
    rw [if_pos (by simp)]
    exact hs
  · rw [if_neg (by simpa using e)]
    show (if ((clsIn K C).isSome && typeIn K (.ref C) == some (.type "type")) = true then subIn K (.ref D) (.ref C) else none) = some b
    rw [if_pos (by rw [hc, ht] <;> rfl)]
    exact hs
theorem xr_kitV {K : Frag} {D : Addr} {T : String} {b : Bool} (hm : kitMeta T = true) (hs : subIn K (.ref D) (.type T) = some b) : kitOne K (.ref D) (.type T) = some b := by
  unfold kitOne
  rw [if_neg (by intro z; cases (beq_iff_eq.mp z))]
  show (if kitMeta T = true then subIn K (.ref D) (.type T) else none) = some b
  rw [if_pos hm]
  exact hs
end PySem.W
namespace L2
open PySem PySem.Spec PyProof.Rows
/-! ### o.m(e, ..), the method may raise; what is raised is wished for at the caller's slots -/
def tMethSS (C : Addr) (m : Str) (sp : Sp) (E : St → XK) (ta : TE) (t : TA) : TE := fun σ H Q => ta σ H fun x H1 => ∃ a dx fs, x = .ref a ∧ H1 a = some (.ins C dx fs) ∧ fs.lookup m = none ∧
  t σ H1 fun vs H2 => sp (x :: vs) H2 Q (E σ)
theorem pe_methSS {X : Cx} {CX : CXT} {k : Nat} {f C : Addr} {fd : FuncData} {ps : List Str} {sp : Sp} {E : St → XK} {m : Str} {pos apos : Pos} {e o : Expr} {es : List Expr} {ta : TE} {t : TA} {pl : Sem Bool}
    (he : PE X o ta) (c : Cls X.K C) (hm : Meth X.K C m f) (F : FnOk X.prog X.w X.K X.mg X.base CX k f fd ps sp) (hr : Room k X.A) (hb : Binds X.K fd ps []) (hx : ∀ σ, PassesAt CX X σ (E σ)) (ha : PA X (e :: es) t)
    (hst : starEach (e :: es) X.env = (false, eval e X.env) :: starEach es X.env := by rfl) (hpl : (backTo pos (starEach es X.env)).any (·.1) = false := by rfl)
    (ht : eval (.Call (.Attribute o m apos) (e :: es) [] pos) X.env = (do
      let ov ← eval o X.env
      standAt apos.atName
      let (f, first) ← holding [ov] (getMethod ov m pl)
      callWith pos f first (backTo pos (starEach (e :: es) X.env)) (backToKw pos (keywordEach [] X.env))) := by rfl) :
    PE X (.Call (.Attribute o m apos) (e :: es) [] pos) (tMethSS C m sp E ta t) := by
  constructor
  intro pins s σ H Q I h
  refine PySem.W.methodCall_KW (pl := pl) (thn (he.run pins s σ H _ I h) ?_) ht
  rintro ov s1 ⟨_, H1, I1, rx, r, dx, fs, rfl, er, l, q⟩
  cases (show ov = Value.ref r from rx)
  have args := ha.run pos pins s1 σ H1 _ I1 q
  refine getmeth_ok I1 er c hm l (PySem.W.callWith_K (first := [.ref r]) (h₀ := X.base) I1.ok.mod.kin hm.kp (thn args ?_) hst hpl)
  rintro us s2 ⟨vs, H2, I2, rv, asked⟩
  exact ⟨I2.kIn, run_fnS (us := .ref r :: us) (vs := .ref r :: vs) F hr hb (hx σ) I2 (.cons rfl rv) asked⟩
/-- a promise that nobody asks -/
theorem fn_none {P : Program} {w : World} {K : PySem.W.Frag} {mg : Str → Option Value} {base : Heap} {CX : CXT} {k : Nat} {f : Addr} {fd : FuncData} {ps : List Str} : FnOk P w K mg base CX k f fd ps (fun _ _ _ _ => False) :=
  ⟨fun _ _ _ _ h => h.elim, fun _ _ _ _ _ _ _ _ _ _ _ _ _ h => h.elim⟩
end L2
namespace L2
open PySem PySem.Spec PyProof.Rows
/-! ### within a comprehension's block: the written part named -/
theorem ix_tupK {X : Cx} (K : PySem.W.Frag) (h : X.K = K := by rfl) : IxR X (rIxT K) := by subst h; exact ix_tup
theorem ix_listK {X : Cx} (K : PySem.W.Frag) (h : X.K = K := by rfl) : IxR X (rIxL K) := by subst h; exact ix_list
theorem ix_seqK {X : Cx} (K : PySem.W.Frag) (h : X.K = K := by rfl) : IxR X (rIx K) := by subst h; exact ix_seq
def rLenK (K : PySem.W.Frag) : List V → Hp → VK → Prop := fun xs H Q => ∃ p ys, xs = [.ref p] ∧ (SqL K H p ys ∨ SqT K H p ys) ∧ Q (.int ys.length) H
theorem call_lenK {X : Cx} (K : PySem.W.Frag) (h : X.K = K := by rfl) : CallR X (.builtin "len") (rLenK K) := by subst h; exact call_len_seq
theorem op_inK {X : Cx} (K : PySem.W.Frag) (h : X.K = K := by rfl) : OpR X (compareOp .In) (rIn K false) := by subst h; exact op_in_seq
theorem op_notInK {X : Cx} (K : PySem.W.Frag) (h : X.K = K := by rfl) : OpR X (compareOp .NotIn) (rIn K true) := by subst h; exact op_notIn_seq
theorem pe_fldK {X : Cx} (K : PySem.W.Frag) {o : Expr} {f : Str} {pos : Pos} {ta : TE} (ha : PE X o ta) (hb : attributeBase o f X.env (eval o X.env) = eval o X.env) (h : X.K = K := by rfl) : PE X (.Attribute o f pos) (tFld K ta f) := by subst h; exact pe_fld ha hb
end L2

namespace My
open PySem L2
def top (i : Nat) : Stmt := PySem.Challenge.pw_duejobs_k90_numbers_of_claims.main.body.getD i (.Pass ⟨0, 0, 0, 0⟩)
abbrev s_OutOfRange_init : Stmt := inClass (top 2) 0
abbrev s_NotNewer_init : Stmt := inClass (top 3) 0
abbrev s_in_range : Stmt := top 5
abbrev s_Ledger_init : Stmt := inClass (top 9) 0
abbrev s_Ledger_opened : Stmt := inClass (top 9) 1
abbrev s_Ledger_tell : Stmt := inClass (top 9) 2
abbrev s_check_number : Stmt := top 10
abbrev s__law_pool : Stmt := top 12
abbrev s__law_draw : Stmt := top 13
abbrev s__law_same : Stmt := top 14
abbrev s__law_number : Stmt := top 15
abbrev s__law_due : Stmt := top 16
abbrev s__law_call : Stmt := top 17
abbrev s__law_stands : Stmt := top 18
abbrev s__law_step : Stmt := top 19
abbrev s_law : Stmt := top 20
theorem sc_OutOfRange_init : FnScope ["self", "what", "value"] ["self", "what", "value"] (defScope s_OutOfRange_init) := ⟨rfl, rfl, rfl, by decide +kernel, rfl, by decide +kernel, by decide +kernel⟩
theorem sc_NotNewer_init : FnScope ["self", "due", "claim"] ["self", "due", "claim"] (defScope s_NotNewer_init) := ⟨rfl, rfl, rfl, by decide +kernel, rfl, by decide +kernel, by decide +kernel⟩
theorem sc_in_range : FnScope ["what", "value", "low", "high"] ["what", "value", "low", "high"] (defScope s_in_range) := ⟨rfl, rfl, rfl, by decide +kernel, rfl, by decide +kernel, by decide +kernel⟩
theorem sc_Ledger_init : FnScope ["self"] ["self"] (defScope s_Ledger_init) := ⟨rfl, rfl, rfl, by decide +kernel, rfl, by decide +kernel, by decide +kernel⟩
theorem sc_Ledger_opened : FnScope ["self", "due", "claim"] ["self", "due", "claim"] (defScope s_Ledger_opened) := ⟨rfl, rfl, rfl, by decide +kernel, rfl, by decide +kernel, by decide +kernel⟩
theorem sc_Ledger_tell : FnScope ["self", "due", "claim"] ["self", "due", "claim"] (defScope s_Ledger_tell) := ⟨rfl, rfl, rfl, by decide +kernel, rfl, by decide +kernel, by decide +kernel⟩
theorem sc_check_number : FnScope ["due", "claim"] ["due", "claim"] (defScope s_check_number) := ⟨rfl, rfl, rfl, by decide +kernel, rfl, by decide +kernel, by decide +kernel⟩
theorem sc__law_pool : FnScope ["script", "pool", "cell", "x", "one", "k"] ["script"] (defScope s__law_pool) := ⟨rfl, rfl, rfl, by decide +kernel, rfl, by decide +kernel, by decide +kernel⟩
theorem sc__law_draw : FnScope ["pool", "many", "k", "digit"] ["pool", "many"] (defScope s__law_draw) := ⟨rfl, rfl, rfl, by decide +kernel, rfl, by decide +kernel, by decide +kernel⟩
theorem sc__law_same : FnScope ["told", "due", "k"] ["told", "due"] (defScope s__law_same) := ⟨rfl, rfl, rfl, by decide +kernel, rfl, by decide +kernel, by decide +kernel⟩
theorem sc__law_number : FnScope ["pool", "now", "low", "due", "claim", "gap", "mode", "beyond"] ["pool", "now", "low"] (defScope s__law_number) := ⟨rfl, rfl, rfl, by decide +kernel, rfl, by decide +kernel, by decide +kernel⟩
theorem sc__law_due : FnScope ["book", "opens", "due", "claim", "now"] ["book", "opens", "due", "claim"] (defScope s__law_due) := ⟨rfl, rfl, rfl, by decide +kernel, rfl, by decide +kernel, by decide +kernel⟩
theorem sc__law_call : FnScope ["ledger", "opens", "due", "claim", "e"] ["ledger", "opens", "due", "claim"] (defScope s__law_call) := ⟨rfl, rfl, rfl, by decide +kernel, rfl, by decide +kernel, by decide +kernel⟩
theorem sc__law_stands : FnScope ["ledger", "book", "kept", "k"] ["ledger", "book"] (defScope s__law_stands) := ⟨rfl, rfl, rfl, by decide +kernel, rfl, by decide +kernel, by decide +kernel⟩
theorem sc__law_step : FnScope ["ledgers", "books", "k", "opens", "number", "before", "copy", "due", "told"] ["ledgers", "books", "k", "opens", "number"] (defScope s__law_step) := ⟨rfl, rfl, rfl, by decide +kernel, rfl, by decide +kernel, by decide +kernel⟩
theorem sc_law : FnScope ["script", "pool", "low", "ledgers", "books", "one", "two", "far", "n", "number", "k", "opens"] ["script"] (defScope s_law) := ⟨rfl, rfl, rfl, by decide +kernel, rfl, by decide +kernel, by decide +kernel⟩
structure Ad where
  (c_DueError c_OutOfRange c_NotNewer c_Ledger f_OutOfRange_init f_NotNewer_init f_in_range f_Ledger_init f_Ledger_opened f_Ledger_tell f_check_number f__law_pool f__law_draw f__law_same f__law_number f__law_due f__law_call f__law_stands f__law_step f_law : Addr)
  (d_OutOfRange_init d_NotNewer_init d_in_range d_Ledger_init d_Ledger_opened d_Ledger_tell d_check_number d__law_pool d__law_draw d__law_same d__law_number d__law_due d__law_call d__law_stands d__law_step d_law : FuncData)
structure Tx (K : PySem.W.Frag) (mg : Str → Option Value) (a : Ad) : Prop where
  g_DueError : mg "DueError" = some (.ref a.c_DueError)
  ox_DueError : OexC K a.c_DueError
  xc_DueError : ExcC K a.c_DueError
  xf_DueError : XfC K a.c_DueError
  sub_DueError_DueError : PySem.W.subIn K (.ref a.c_DueError) (.ref a.c_DueError) = some true
  exm_DueError_DueError : PySem.W.exmOne K (.ref a.c_DueError) (.ref a.c_DueError) = some true
  kit_DueError_DueError : PySem.W.kitOne K (.ref a.c_DueError) (.ref a.c_DueError) = some true
  sub_DueError_OutOfRange : PySem.W.subIn K (.ref a.c_DueError) (.ref a.c_OutOfRange) = some false
  exm_DueError_OutOfRange : PySem.W.exmOne K (.ref a.c_DueError) (.ref a.c_OutOfRange) = some false
  kit_DueError_OutOfRange : PySem.W.kitOne K (.ref a.c_DueError) (.ref a.c_OutOfRange) = some false
  sub_DueError_NotNewer : PySem.W.subIn K (.ref a.c_DueError) (.ref a.c_NotNewer) = some false
  exm_DueError_NotNewer : PySem.W.exmOne K (.ref a.c_DueError) (.ref a.c_NotNewer) = some false
  kit_DueError_NotNewer : PySem.W.kitOne K (.ref a.c_DueError) (.ref a.c_NotNewer) = some false
  kitV_DueError : PySem.W.kitOne K (.ref a.c_DueError) (.type "ValueError") = some true
  g_OutOfRange : mg "OutOfRange" = some (.ref a.c_OutOfRange)
  ox_OutOfRange : OexC K a.c_OutOfRange
  xc_OutOfRange : ExcC K a.c_OutOfRange
  xf_OutOfRange : XfC K a.c_OutOfRange
  no_OutOfRange_what : PySem.W.findIn K (.ref a.c_OutOfRange) "what" = some none
  no_OutOfRange_value : PySem.W.findIn K (.ref a.c_OutOfRange) "value" = some none
  i_OutOfRange : PySem.W.findIn K (.ref a.c_OutOfRange) "__init__" = some (some (.ref a.f_OutOfRange_init))
  t_OutOfRange : PySem.W.typeIn K (.ref a.f_OutOfRange_init) = some (.type "function")
  sub_OutOfRange_DueError : PySem.W.subIn K (.ref a.c_OutOfRange) (.ref a.c_DueError) = some true
  exm_OutOfRange_DueError : PySem.W.exmOne K (.ref a.c_OutOfRange) (.ref a.c_DueError) = some true
  kit_OutOfRange_DueError : PySem.W.kitOne K (.ref a.c_OutOfRange) (.ref a.c_DueError) = some true
  sub_OutOfRange_OutOfRange : PySem.W.subIn K (.ref a.c_OutOfRange) (.ref a.c_OutOfRange) = some true
  exm_OutOfRange_OutOfRange : PySem.W.exmOne K (.ref a.c_OutOfRange) (.ref a.c_OutOfRange) = some true
  kit_OutOfRange_OutOfRange : PySem.W.kitOne K (.ref a.c_OutOfRange) (.ref a.c_OutOfRange) = some true
  sub_OutOfRange_NotNewer : PySem.W.subIn K (.ref a.c_OutOfRange) (.ref a.c_NotNewer) = some false
  exm_OutOfRange_NotNewer : PySem.W.exmOne K (.ref a.c_OutOfRange) (.ref a.c_NotNewer) = some false
  kit_OutOfRange_NotNewer : PySem.W.kitOne K (.ref a.c_OutOfRange) (.ref a.c_NotNewer) = some false
  kitV_OutOfRange : PySem.W.kitOne K (.ref a.c_OutOfRange) (.type "ValueError") = some true
  g_NotNewer : mg "NotNewer" = some (.ref a.c_NotNewer)
  ox_NotNewer : OexC K a.c_NotNewer
  xc_NotNewer : ExcC K a.c_NotNewer
  xf_NotNewer : XfC K a.c_NotNewer
  no_NotNewer_due : PySem.W.findIn K (.ref a.c_NotNewer) "due" = some none
  no_NotNewer_claim : PySem.W.findIn K (.ref a.c_NotNewer) "claim" = some none
  i_NotNewer : PySem.W.findIn K (.ref a.c_NotNewer) "__init__" = some (some (.ref a.f_NotNewer_init))
  t_NotNewer : PySem.W.typeIn K (.ref a.f_NotNewer_init) = some (.type "function")
  sub_NotNewer_DueError : PySem.W.subIn K (.ref a.c_NotNewer) (.ref a.c_DueError) = some true
  exm_NotNewer_DueError : PySem.W.exmOne K (.ref a.c_NotNewer) (.ref a.c_DueError) = some true
  kit_NotNewer_DueError : PySem.W.kitOne K (.ref a.c_NotNewer) (.ref a.c_DueError) = some true
  sub_NotNewer_OutOfRange : PySem.W.subIn K (.ref a.c_NotNewer) (.ref a.c_OutOfRange) = some false
  exm_NotNewer_OutOfRange : PySem.W.exmOne K (.ref a.c_NotNewer) (.ref a.c_OutOfRange) = some false
  kit_NotNewer_OutOfRange : PySem.W.kitOne K (.ref a.c_NotNewer) (.ref a.c_OutOfRange) = some false
  sub_NotNewer_NotNewer : PySem.W.subIn K (.ref a.c_NotNewer) (.ref a.c_NotNewer) = some true
  exm_NotNewer_NotNewer : PySem.W.exmOne K (.ref a.c_NotNewer) (.ref a.c_NotNewer) = some true
  kit_NotNewer_NotNewer : PySem.W.kitOne K (.ref a.c_NotNewer) (.ref a.c_NotNewer) = some true
  kitV_NotNewer : PySem.W.kitOne K (.ref a.c_NotNewer) (.type "ValueError") = some true
  g_Ledger : mg "Ledger" = some (.ref a.c_Ledger)
  cl_Ledger : Cls K a.c_Ledger
  no_Ledger_newest : NoAttr K a.c_Ledger "newest"
  no_Ledger_kept : NoAttr K a.c_Ledger "kept"
  M_Ledger : Mk K a.c_Ledger a.f_Ledger_init
  m_Ledger_opened : Meth K a.c_Ledger "opened" a.f_Ledger_opened
  m_Ledger_tell : Meth K a.c_Ledger "tell" a.f_Ledger_tell
  F_OutOfRange_init : Fun K "__init__" "OutOfRange.__init__" s_OutOfRange_init a.f_OutOfRange_init a.d_OutOfRange_init
  b_OutOfRange_init : Binds K a.d_OutOfRange_init ["self", "what", "value"] []
  F_NotNewer_init : Fun K "__init__" "NotNewer.__init__" s_NotNewer_init a.f_NotNewer_init a.d_NotNewer_init
  b_NotNewer_init : Binds K a.d_NotNewer_init ["self", "due", "claim"] []
  F_in_range : Fun K "in_range" "in_range" s_in_range a.f_in_range a.d_in_range
  b_in_range : Binds K a.d_in_range ["what", "value", "low", "high"] []
  g_in_range : mg "in_range" = some (.ref a.f_in_range)
  F_Ledger_init : Fun K "__init__" "Ledger.__init__" s_Ledger_init a.f_Ledger_init a.d_Ledger_init
  b_Ledger_init : Binds K a.d_Ledger_init ["self"] []
  F_Ledger_opened : Fun K "opened" "Ledger.opened" s_Ledger_opened a.f_Ledger_opened a.d_Ledger_opened
  b_Ledger_opened : Binds K a.d_Ledger_opened ["self", "due", "claim"] []
  F_Ledger_tell : Fun K "tell" "Ledger.tell" s_Ledger_tell a.f_Ledger_tell a.d_Ledger_tell
  b_Ledger_tell : Binds K a.d_Ledger_tell ["self", "due", "claim"] []
  F_check_number : Fun K "check_number" "check_number" s_check_number a.f_check_number a.d_check_number
  b_check_number : Binds K a.d_check_number ["due", "claim"] []
  g_check_number : mg "check_number" = some (.ref a.f_check_number)
  F__law_pool : Fun K "_law_pool" "_law_pool" s__law_pool a.f__law_pool a.d__law_pool
  b__law_pool : Binds K a.d__law_pool ["script"] []
  g__law_pool : mg "_law_pool" = some (.ref a.f__law_pool)
  F__law_draw : Fun K "_law_draw" "_law_draw" s__law_draw a.f__law_draw a.d__law_draw
  b__law_draw : Binds K a.d__law_draw ["pool", "many"] []
  g__law_draw : mg "_law_draw" = some (.ref a.f__law_draw)
  F__law_same : Fun K "_law_same" "_law_same" s__law_same a.f__law_same a.d__law_same
  b__law_same : Binds K a.d__law_same ["told", "due"] []
  g__law_same : mg "_law_same" = some (.ref a.f__law_same)
  F__law_number : Fun K "_law_number" "_law_number" s__law_number a.f__law_number a.d__law_number
  b__law_number : Binds K a.d__law_number ["pool", "now", "low"] []
  g__law_number : mg "_law_number" = some (.ref a.f__law_number)
  F__law_due : Fun K "_law_due" "_law_due" s__law_due a.f__law_due a.d__law_due
  b__law_due : Binds K a.d__law_due ["book", "opens", "due", "claim"] []
  g__law_due : mg "_law_due" = some (.ref a.f__law_due)
  F__law_call : Fun K "_law_call" "_law_call" s__law_call a.f__law_call a.d__law_call
  b__law_call : Binds K a.d__law_call ["ledger", "opens", "due", "claim"] []
  g__law_call : mg "_law_call" = some (.ref a.f__law_call)
  F__law_stands : Fun K "_law_stands" "_law_stands" s__law_stands a.f__law_stands a.d__law_stands
  b__law_stands : Binds K a.d__law_stands ["ledger", "book"] []
  g__law_stands : mg "_law_stands" = some (.ref a.f__law_stands)
  F__law_step : Fun K "_law_step" "_law_step" s__law_step a.f__law_step a.d__law_step
  b__law_step : Binds K a.d__law_step ["ledgers", "books", "k", "opens", "number"] []
  g__law_step : mg "_law_step" = some (.ref a.f__law_step)
  F_law : Fun K "law" "law" s_law a.f_law a.d_law
  b_law : Binds K a.d_law ["script"] []
  g_law : mg "law" = some (.ref a.f_law)
  g_FAR : ∃ t, mg "FAR" = some (.int (10 ^ 40) t)
  g_MOST_CLAIM : ∃ t, mg "MOST_CLAIM" = some (.int 6 t)
  n_ValueError : mg "ValueError" = none
  n_all : mg "all" = none
  n_bool : mg "bool" = none
  n_int : mg "int" = none
  n_isinstance : mg "isinstance" = none
  n_len : mg "len" = none
  n_list : mg "list" = none
  n_range : mg "range" = none
  n_str : mg "str" = none
  n_tuple : mg "tuple" = none
theorem all_mk {K : PySem.W.Frag} {h : Heap} {mg : Str → Option Value} (X : K.In h) (G : h.Ns mainGlobals mg)
    {od_OutOfRange_init an_OutOfRange_init : Option Addr} {sl_OutOfRange_init : Array (Option Value)} {oc_OutOfRange_init kV_OutOfRange_init dc_OutOfRange_init pm_OutOfRange_init cd_OutOfRange_init ct_OutOfRange_init : Value}
    {od_NotNewer_init an_NotNewer_init : Option Addr} {sl_NotNewer_init : Array (Option Value)} {oc_NotNewer_init kV_NotNewer_init dc_NotNewer_init pm_NotNewer_init cd_NotNewer_init ct_NotNewer_init : Value}
    {od_in_range an_in_range : Option Addr} {sl_in_range : Array (Option Value)} {oc_in_range kV_in_range dc_in_range pm_in_range cd_in_range ct_in_range : Value}
    {od_Ledger_init an_Ledger_init : Option Addr} {sl_Ledger_init : Array (Option Value)} {oc_Ledger_init kV_Ledger_init dc_Ledger_init pm_Ledger_init cd_Ledger_init ct_Ledger_init : Value}
    {od_Ledger_opened an_Ledger_opened : Option Addr} {sl_Ledger_opened : Array (Option Value)} {oc_Ledger_opened kV_Ledger_opened dc_Ledger_opened pm_Ledger_opened cd_Ledger_opened ct_Ledger_opened : Value}
    {od_Ledger_tell an_Ledger_tell : Option Addr} {sl_Ledger_tell : Array (Option Value)} {oc_Ledger_tell kV_Ledger_tell dc_Ledger_tell pm_Ledger_tell cd_Ledger_tell ct_Ledger_tell : Value}
    {od_check_number an_check_number : Option Addr} {sl_check_number : Array (Option Value)} {oc_check_number kV_check_number dc_check_number pm_check_number cd_check_number ct_check_number : Value}
    {od__law_pool an__law_pool : Option Addr} {sl__law_pool : Array (Option Value)} {oc__law_pool kV__law_pool dc__law_pool pm__law_pool cd__law_pool ct__law_pool : Value}
    {od__law_draw an__law_draw : Option Addr} {sl__law_draw : Array (Option Value)} {oc__law_draw kV__law_draw dc__law_draw pm__law_draw cd__law_draw ct__law_draw : Value}
    {od__law_same an__law_same : Option Addr} {sl__law_same : Array (Option Value)} {oc__law_same kV__law_same dc__law_same pm__law_same cd__law_same ct__law_same : Value}
    {od__law_number an__law_number : Option Addr} {sl__law_number : Array (Option Value)} {oc__law_number kV__law_number dc__law_number pm__law_number cd__law_number ct__law_number : Value}
    {od__law_due an__law_due : Option Addr} {sl__law_due : Array (Option Value)} {oc__law_due kV__law_due dc__law_due pm__law_due cd__law_due ct__law_due : Value}
    {od__law_call an__law_call : Option Addr} {sl__law_call : Array (Option Value)} {oc__law_call kV__law_call dc__law_call pm__law_call cd__law_call ct__law_call : Value}
    {od__law_stands an__law_stands : Option Addr} {sl__law_stands : Array (Option Value)} {oc__law_stands kV__law_stands dc__law_stands pm__law_stands cd__law_stands ct__law_stands : Value}
    {od__law_step an__law_step : Option Addr} {sl__law_step : Array (Option Value)} {oc__law_step kV__law_step dc__law_step pm__law_step cd__law_step ct__law_step : Value}
    {od_law an_law : Option Addr} {sl_law : Array (Option Value)} {oc_law kV_law dc_law pm_law cd_law ct_law : Value}
    {c_DueError c_OutOfRange c_NotNewer c_Ledger f_OutOfRange_init f_NotNewer_init f_in_range f_Ledger_init f_Ledger_opened f_Ledger_tell f_check_number f__law_pool f__law_draw f__law_same f__law_number f__law_due f__law_call f__law_stands f__law_step f_law : Addr}
    {nm_DueError q_DueError : Str} {N_DueError : Addr} {bs_DueError : List Value} {sn_DueError : List Str} {sub_DueError : List Value} {ab_DueError : Bool} {col_DueError : Option Bool} {dd_DueError : Option Addr} {k0_DueError k1_DueError k2_DueError k3_DueError k5_DueError : Option Value}
    {nm_OutOfRange q_OutOfRange : Str} {N_OutOfRange : Addr} {bs_OutOfRange : List Value} {sn_OutOfRange : List Str} {sub_OutOfRange : List Value} {ab_OutOfRange : Bool} {col_OutOfRange : Option Bool} {dd_OutOfRange : Option Addr} {k0_OutOfRange k1_OutOfRange k2_OutOfRange k3_OutOfRange k5_OutOfRange : Option Value}
    {nm_NotNewer q_NotNewer : Str} {N_NotNewer : Addr} {bs_NotNewer : List Value} {sn_NotNewer : List Str} {sub_NotNewer : List Value} {ab_NotNewer : Bool} {col_NotNewer : Option Bool} {dd_NotNewer : Option Addr} {k0_NotNewer k1_NotNewer k2_NotNewer k3_NotNewer k5_NotNewer : Option Value}
    {tk_FAR : Tok}
    {tk_MOST_CLAIM : Tok}
    (ac_DueError : PySem.W.nsIn K mainGlobals "DueError" = some (some (.ref c_DueError)))
    (xl_DueError : K.lookup c_DueError = some (excClassObj nm_DueError q_DueError c_DueError N_DueError bs_DueError ([.type "ValueError", .type "Exception", .type "BaseException", .type "object"]) true sn_DueError sub_DueError ab_DueError col_DueError dd_DueError k0_DueError k1_DueError k2_DueError k3_DueError k5_DueError "ValueError.__new__"))
    (sa_DueError : PySem.W.findIn K (.ref c_DueError) "__setattr__" = some (some (.builtin "object.__setattr__")))
    (ga_DueError : PySem.W.findIn K (.ref c_DueError) "__getattribute__" = some (some (.builtin "BaseException.__getattribute__")))
    (gg_DueError : PySem.W.findIn K (.ref c_DueError) "__getattr__" = some none)
    (ex_DueError : PySem.W.subIn K (.ref c_DueError) (.type "BaseException") = some true)
    (ty_DueError : PySem.W.typeIn K (.ref c_DueError) = some (.type "type"))
    (kc_DueError : PySem.W.keepIn K (.ref c_DueError) = true)
    (hd_DueError : PySem.W.hasDictIn K c_DueError = true)
    (ha_DueError : PySem.W.findIn K (.ref c_DueError) "__class__" = some (some (.builtin "object.__class__")))
    (hm_DueError : PySem.W.mroIn K c_DueError (.type "object") = some true)
    (ac_OutOfRange : PySem.W.nsIn K mainGlobals "OutOfRange" = some (some (.ref c_OutOfRange)))
    (xl_OutOfRange : K.lookup c_OutOfRange = some (excClassObj nm_OutOfRange q_OutOfRange c_OutOfRange N_OutOfRange bs_OutOfRange (.ref c_DueError :: [.type "ValueError", .type "Exception", .type "BaseException", .type "object"]) true sn_OutOfRange sub_OutOfRange ab_OutOfRange col_OutOfRange dd_OutOfRange k0_OutOfRange k1_OutOfRange k2_OutOfRange k3_OutOfRange k5_OutOfRange "ValueError.__new__"))
    (sa_OutOfRange : PySem.W.findIn K (.ref c_OutOfRange) "__setattr__" = some (some (.builtin "object.__setattr__")))
    (ga_OutOfRange : PySem.W.findIn K (.ref c_OutOfRange) "__getattribute__" = some (some (.builtin "BaseException.__getattribute__")))
    (gg_OutOfRange : PySem.W.findIn K (.ref c_OutOfRange) "__getattr__" = some none)
    (ex_OutOfRange : PySem.W.subIn K (.ref c_OutOfRange) (.type "BaseException") = some true)
    (ty_OutOfRange : PySem.W.typeIn K (.ref c_OutOfRange) = some (.type "type"))
    (kc_OutOfRange : PySem.W.keepIn K (.ref c_OutOfRange) = true)
    (hd_OutOfRange : PySem.W.hasDictIn K c_OutOfRange = true)
    (ha_OutOfRange : PySem.W.findIn K (.ref c_OutOfRange) "__class__" = some (some (.builtin "object.__class__")))
    (hm_OutOfRange : PySem.W.mroIn K c_OutOfRange (.type "object") = some true)
    (no_OutOfRange_what : PySem.W.findIn K (.ref c_OutOfRange) "what" = some none)
    (no_OutOfRange_value : PySem.W.findIn K (.ref c_OutOfRange) "value" = some none)
    (i_OutOfRange : PySem.W.findIn K (.ref c_OutOfRange) "__init__" = some (some (.ref f_OutOfRange_init)))
    (t_OutOfRange : PySem.W.typeIn K (.ref f_OutOfRange_init) = some (.type "function"))
    (ac_NotNewer : PySem.W.nsIn K mainGlobals "NotNewer" = some (some (.ref c_NotNewer)))
    (xl_NotNewer : K.lookup c_NotNewer = some (excClassObj nm_NotNewer q_NotNewer c_NotNewer N_NotNewer bs_NotNewer (.ref c_DueError :: [.type "ValueError", .type "Exception", .type "BaseException", .type "object"]) true sn_NotNewer sub_NotNewer ab_NotNewer col_NotNewer dd_NotNewer k0_NotNewer k1_NotNewer k2_NotNewer k3_NotNewer k5_NotNewer "ValueError.__new__"))
    (sa_NotNewer : PySem.W.findIn K (.ref c_NotNewer) "__setattr__" = some (some (.builtin "object.__setattr__")))
    (ga_NotNewer : PySem.W.findIn K (.ref c_NotNewer) "__getattribute__" = some (some (.builtin "BaseException.__getattribute__")))
    (gg_NotNewer : PySem.W.findIn K (.ref c_NotNewer) "__getattr__" = some none)
    (ex_NotNewer : PySem.W.subIn K (.ref c_NotNewer) (.type "BaseException") = some true)
    (ty_NotNewer : PySem.W.typeIn K (.ref c_NotNewer) = some (.type "type"))
    (kc_NotNewer : PySem.W.keepIn K (.ref c_NotNewer) = true)
    (hd_NotNewer : PySem.W.hasDictIn K c_NotNewer = true)
    (ha_NotNewer : PySem.W.findIn K (.ref c_NotNewer) "__class__" = some (some (.builtin "object.__class__")))
    (hm_NotNewer : PySem.W.mroIn K c_NotNewer (.type "object") = some true)
    (no_NotNewer_due : PySem.W.findIn K (.ref c_NotNewer) "due" = some none)
    (no_NotNewer_claim : PySem.W.findIn K (.ref c_NotNewer) "claim" = some none)
    (i_NotNewer : PySem.W.findIn K (.ref c_NotNewer) "__init__" = some (some (.ref f_NotNewer_init)))
    (t_NotNewer : PySem.W.typeIn K (.ref f_NotNewer_init) = some (.type "function"))
    (ac_Ledger : PySem.W.nsIn K mainGlobals "Ledger" = some (some (.ref c_Ledger)))
    (pg_Ledger : PySem.W.plainGet K c_Ledger Str.empty = true)
    (hd_Ledger : PySem.W.hasDictIn K c_Ledger = true)
    (po_Ledger : PySem.W.plainOver K c_Ledger = true)
    (sa_Ledger : PySem.W.findIn K (.ref c_Ledger) "__setattr__" = some (some (.builtin "object.__setattr__")))
    (kc_Ledger : PySem.W.keepIn K (.ref c_Ledger) = true)
    (no_Ledger_newest : PySem.W.findIn K (.ref c_Ledger) "newest" = some none)
    (no_Ledger_kept : PySem.W.findIn K (.ref c_Ledger) "kept" = some none)
    (mk_Ledger : PySem.W.makesIn K c_Ledger = true)
    (i_Ledger : PySem.W.findIn K (.ref c_Ledger) "__init__" = some (some (.ref f_Ledger_init)))
    (fi_Ledger : PySem.W.isFn K (.ref f_Ledger_init) = true)
    (a_Ledger_opened : PySem.W.findIn K (.ref c_Ledger) "opened" = some (some (.ref f_Ledger_opened)))
    (fi_Ledger_opened : PySem.W.isFn K (.ref f_Ledger_opened) = true)
    (a_Ledger_tell : PySem.W.findIn K (.ref c_Ledger) "tell" = some (some (.ref f_Ledger_tell)))
    (fi_Ledger_tell : PySem.W.isFn K (.ref f_Ledger_tell) = true)
    (sub_DueError_DueError : PySem.W.subIn K (.ref c_DueError) (.ref c_DueError) = some true)
    (sub_DueError_OutOfRange : PySem.W.subIn K (.ref c_DueError) (.ref c_OutOfRange) = some false)
    (sub_DueError_NotNewer : PySem.W.subIn K (.ref c_DueError) (.ref c_NotNewer) = some false)
    (ve_DueError : PySem.W.subIn K (.ref c_DueError) (.type "ValueError") = some true)
    (sub_OutOfRange_DueError : PySem.W.subIn K (.ref c_OutOfRange) (.ref c_DueError) = some true)
    (sub_OutOfRange_OutOfRange : PySem.W.subIn K (.ref c_OutOfRange) (.ref c_OutOfRange) = some true)
    (sub_OutOfRange_NotNewer : PySem.W.subIn K (.ref c_OutOfRange) (.ref c_NotNewer) = some false)
    (ve_OutOfRange : PySem.W.subIn K (.ref c_OutOfRange) (.type "ValueError") = some true)
    (sub_NotNewer_DueError : PySem.W.subIn K (.ref c_NotNewer) (.ref c_DueError) = some true)
    (sub_NotNewer_OutOfRange : PySem.W.subIn K (.ref c_NotNewer) (.ref c_OutOfRange) = some false)
    (sub_NotNewer_NotNewer : PySem.W.subIn K (.ref c_NotNewer) (.ref c_NotNewer) = some true)
    (ve_NotNewer : PySem.W.subIn K (.ref c_NotNewer) (.type "ValueError") = some true)
    (hn_C : PySem.W.specialIn K (.builtin "object.__class__") "__get__" = some (some (.builtin "getset_descriptor.__get__")))
    (ht_C : PySem.W.takesIn K (.builtin "object.__class__") = some true)
    (l_OutOfRange_init : K.lookup f_OutOfRange_init = some ⟨oc_OutOfRange_init, od_OutOfRange_init, .func (PySem.W.fnOf "__init__" "OutOfRange.__init__" (defArgs s_OutOfRange_init) (defBody s_OutOfRange_init) (defScope s_OutOfRange_init) .none kV_OutOfRange_init dc_OutOfRange_init pm_OutOfRange_init an_OutOfRange_init cd_OutOfRange_init ct_OutOfRange_init), sl_OutOfRange_init⟩)
    (co_OutOfRange_init : PySem.W.codeIn K cd_OutOfRange_init "OutOfRange.__init__" = true)
    (k_OutOfRange_init : PySem.W.keepIn K (.ref f_OutOfRange_init) = true)
    (l_NotNewer_init : K.lookup f_NotNewer_init = some ⟨oc_NotNewer_init, od_NotNewer_init, .func (PySem.W.fnOf "__init__" "NotNewer.__init__" (defArgs s_NotNewer_init) (defBody s_NotNewer_init) (defScope s_NotNewer_init) .none kV_NotNewer_init dc_NotNewer_init pm_NotNewer_init an_NotNewer_init cd_NotNewer_init ct_NotNewer_init), sl_NotNewer_init⟩)
    (co_NotNewer_init : PySem.W.codeIn K cd_NotNewer_init "NotNewer.__init__" = true)
    (k_NotNewer_init : PySem.W.keepIn K (.ref f_NotNewer_init) = true)
    (a_in_range : PySem.W.nsIn K mainGlobals "in_range" = some (some (.ref f_in_range)))
    (l_in_range : K.lookup f_in_range = some ⟨oc_in_range, od_in_range, .func (PySem.W.fnOf "in_range" "in_range" (defArgs s_in_range) (defBody s_in_range) (defScope s_in_range) .none kV_in_range dc_in_range pm_in_range an_in_range cd_in_range ct_in_range), sl_in_range⟩)
    (co_in_range : PySem.W.codeIn K cd_in_range "in_range" = true)
    (k_in_range : PySem.W.keepIn K (.ref f_in_range) = true)
    (l_Ledger_init : K.lookup f_Ledger_init = some ⟨oc_Ledger_init, od_Ledger_init, .func (PySem.W.fnOf "__init__" "Ledger.__init__" (defArgs s_Ledger_init) (defBody s_Ledger_init) (defScope s_Ledger_init) .none kV_Ledger_init dc_Ledger_init pm_Ledger_init an_Ledger_init cd_Ledger_init ct_Ledger_init), sl_Ledger_init⟩)
    (co_Ledger_init : PySem.W.codeIn K cd_Ledger_init "Ledger.__init__" = true)
    (k_Ledger_init : PySem.W.keepIn K (.ref f_Ledger_init) = true)
    (l_Ledger_opened : K.lookup f_Ledger_opened = some ⟨oc_Ledger_opened, od_Ledger_opened, .func (PySem.W.fnOf "opened" "Ledger.opened" (defArgs s_Ledger_opened) (defBody s_Ledger_opened) (defScope s_Ledger_opened) .none kV_Ledger_opened dc_Ledger_opened pm_Ledger_opened an_Ledger_opened cd_Ledger_opened ct_Ledger_opened), sl_Ledger_opened⟩)
    (co_Ledger_opened : PySem.W.codeIn K cd_Ledger_opened "Ledger.opened" = true)
    (k_Ledger_opened : PySem.W.keepIn K (.ref f_Ledger_opened) = true)
    (l_Ledger_tell : K.lookup f_Ledger_tell = some ⟨oc_Ledger_tell, od_Ledger_tell, .func (PySem.W.fnOf "tell" "Ledger.tell" (defArgs s_Ledger_tell) (defBody s_Ledger_tell) (defScope s_Ledger_tell) .none kV_Ledger_tell dc_Ledger_tell pm_Ledger_tell an_Ledger_tell cd_Ledger_tell ct_Ledger_tell), sl_Ledger_tell⟩)
    (co_Ledger_tell : PySem.W.codeIn K cd_Ledger_tell "Ledger.tell" = true)
    (k_Ledger_tell : PySem.W.keepIn K (.ref f_Ledger_tell) = true)
    (a_check_number : PySem.W.nsIn K mainGlobals "check_number" = some (some (.ref f_check_number)))
    (l_check_number : K.lookup f_check_number = some ⟨oc_check_number, od_check_number, .func (PySem.W.fnOf "check_number" "check_number" (defArgs s_check_number) (defBody s_check_number) (defScope s_check_number) .none kV_check_number dc_check_number pm_check_number an_check_number cd_check_number ct_check_number), sl_check_number⟩)
    (co_check_number : PySem.W.codeIn K cd_check_number "check_number" = true)
    (k_check_number : PySem.W.keepIn K (.ref f_check_number) = true)
    (a__law_pool : PySem.W.nsIn K mainGlobals "_law_pool" = some (some (.ref f__law_pool)))
    (l__law_pool : K.lookup f__law_pool = some ⟨oc__law_pool, od__law_pool, .func (PySem.W.fnOf "_law_pool" "_law_pool" (defArgs s__law_pool) (defBody s__law_pool) (defScope s__law_pool) .none kV__law_pool dc__law_pool pm__law_pool an__law_pool cd__law_pool ct__law_pool), sl__law_pool⟩)
    (co__law_pool : PySem.W.codeIn K cd__law_pool "_law_pool" = true)
    (k__law_pool : PySem.W.keepIn K (.ref f__law_pool) = true)
    (a__law_draw : PySem.W.nsIn K mainGlobals "_law_draw" = some (some (.ref f__law_draw)))
    (l__law_draw : K.lookup f__law_draw = some ⟨oc__law_draw, od__law_draw, .func (PySem.W.fnOf "_law_draw" "_law_draw" (defArgs s__law_draw) (defBody s__law_draw) (defScope s__law_draw) .none kV__law_draw dc__law_draw pm__law_draw an__law_draw cd__law_draw ct__law_draw), sl__law_draw⟩)
    (co__law_draw : PySem.W.codeIn K cd__law_draw "_law_draw" = true)
    (k__law_draw : PySem.W.keepIn K (.ref f__law_draw) = true)
    (a__law_same : PySem.W.nsIn K mainGlobals "_law_same" = some (some (.ref f__law_same)))
    (l__law_same : K.lookup f__law_same = some ⟨oc__law_same, od__law_same, .func (PySem.W.fnOf "_law_same" "_law_same" (defArgs s__law_same) (defBody s__law_same) (defScope s__law_same) .none kV__law_same dc__law_same pm__law_same an__law_same cd__law_same ct__law_same), sl__law_same⟩)
    (co__law_same : PySem.W.codeIn K cd__law_same "_law_same" = true)
    (k__law_same : PySem.W.keepIn K (.ref f__law_same) = true)
    (a__law_number : PySem.W.nsIn K mainGlobals "_law_number" = some (some (.ref f__law_number)))
    (l__law_number : K.lookup f__law_number = some ⟨oc__law_number, od__law_number, .func (PySem.W.fnOf "_law_number" "_law_number" (defArgs s__law_number) (defBody s__law_number) (defScope s__law_number) .none kV__law_number dc__law_number pm__law_number an__law_number cd__law_number ct__law_number), sl__law_number⟩)
    (co__law_number : PySem.W.codeIn K cd__law_number "_law_number" = true)
    (k__law_number : PySem.W.keepIn K (.ref f__law_number) = true)
    (a__law_due : PySem.W.nsIn K mainGlobals "_law_due" = some (some (.ref f__law_due)))
    (l__law_due : K.lookup f__law_due = some ⟨oc__law_due, od__law_due, .func (PySem.W.fnOf "_law_due" "_law_due" (defArgs s__law_due) (defBody s__law_due) (defScope s__law_due) .none kV__law_due dc__law_due pm__law_due an__law_due cd__law_due ct__law_due), sl__law_due⟩)
    (co__law_due : PySem.W.codeIn K cd__law_due "_law_due" = true)
    (k__law_due : PySem.W.keepIn K (.ref f__law_due) = true)
    (a__law_call : PySem.W.nsIn K mainGlobals "_law_call" = some (some (.ref f__law_call)))
    (l__law_call : K.lookup f__law_call = some ⟨oc__law_call, od__law_call, .func (PySem.W.fnOf "_law_call" "_law_call" (defArgs s__law_call) (defBody s__law_call) (defScope s__law_call) .none kV__law_call dc__law_call pm__law_call an__law_call cd__law_call ct__law_call), sl__law_call⟩)
    (co__law_call : PySem.W.codeIn K cd__law_call "_law_call" = true)
    (k__law_call : PySem.W.keepIn K (.ref f__law_call) = true)
    (a__law_stands : PySem.W.nsIn K mainGlobals "_law_stands" = some (some (.ref f__law_stands)))
    (l__law_stands : K.lookup f__law_stands = some ⟨oc__law_stands, od__law_stands, .func (PySem.W.fnOf "_law_stands" "_law_stands" (defArgs s__law_stands) (defBody s__law_stands) (defScope s__law_stands) .none kV__law_stands dc__law_stands pm__law_stands an__law_stands cd__law_stands ct__law_stands), sl__law_stands⟩)
    (co__law_stands : PySem.W.codeIn K cd__law_stands "_law_stands" = true)
    (k__law_stands : PySem.W.keepIn K (.ref f__law_stands) = true)
    (a__law_step : PySem.W.nsIn K mainGlobals "_law_step" = some (some (.ref f__law_step)))
    (l__law_step : K.lookup f__law_step = some ⟨oc__law_step, od__law_step, .func (PySem.W.fnOf "_law_step" "_law_step" (defArgs s__law_step) (defBody s__law_step) (defScope s__law_step) .none kV__law_step dc__law_step pm__law_step an__law_step cd__law_step ct__law_step), sl__law_step⟩)
    (co__law_step : PySem.W.codeIn K cd__law_step "_law_step" = true)
    (k__law_step : PySem.W.keepIn K (.ref f__law_step) = true)
    (a_law : PySem.W.nsIn K mainGlobals "law" = some (some (.ref f_law)))
    (l_law : K.lookup f_law = some ⟨oc_law, od_law, .func (PySem.W.fnOf "law" "law" (defArgs s_law) (defBody s_law) (defScope s_law) .none kV_law dc_law pm_law an_law cd_law ct_law), sl_law⟩)
    (co_law : PySem.W.codeIn K cd_law "law" = true)
    (k_law : PySem.W.keepIn K (.ref f_law) = true)
    (ag_FAR : PySem.W.nsIn K mainGlobals "FAR" = some (some (.int (10 ^ 40) tk_FAR)))
    (ag_MOST_CLAIM : PySem.W.nsIn K mainGlobals "MOST_CLAIM" = some (some (.int 6 tk_MOST_CLAIM)))
    (n_ValueError : PySem.W.nsIn K mainGlobals "ValueError" = some none)
    (n_all : PySem.W.nsIn K mainGlobals "all" = some none)
    (n_bool : PySem.W.nsIn K mainGlobals "bool" = some none)
    (n_int : PySem.W.nsIn K mainGlobals "int" = some none)
    (n_isinstance : PySem.W.nsIn K mainGlobals "isinstance" = some none)
    (n_len : PySem.W.nsIn K mainGlobals "len" = some none)
    (n_list : PySem.W.nsIn K mainGlobals "list" = some none)
    (n_range : PySem.W.nsIn K mainGlobals "range" = some none)
    (n_str : PySem.W.nsIn K mainGlobals "str" = some none)
    (n_tuple : PySem.W.nsIn K mainGlobals "tuple" = some none)
    : ∃ a : Ad, mg "law" = some (.ref a.f_law) ∧ (∀ (s : Shared) (u : Value), BindsTo s a.d_law ⟨[u], []⟩ [("script", u)]) ∧ Tx K mg a := by
  refine ⟨{ c_DueError := c_DueError, c_OutOfRange := c_OutOfRange, c_NotNewer := c_NotNewer, c_Ledger := c_Ledger, f_OutOfRange_init := f_OutOfRange_init, f_NotNewer_init := f_NotNewer_init, f_in_range := f_in_range, f_Ledger_init := f_Ledger_init, f_Ledger_opened := f_Ledger_opened, f_Ledger_tell := f_Ledger_tell, f_check_number := f_check_number, f__law_pool := f__law_pool, f__law_draw := f__law_draw, f__law_same := f__law_same, f__law_number := f__law_number, f__law_due := f__law_due, f__law_call := f__law_call, f__law_stands := f__law_stands, f__law_step := f__law_step, f_law := f_law, d_OutOfRange_init := PySem.W.fnOf "__init__" "OutOfRange.__init__" (defArgs s_OutOfRange_init) (defBody s_OutOfRange_init) (defScope s_OutOfRange_init) .none kV_OutOfRange_init dc_OutOfRange_init pm_OutOfRange_init an_OutOfRange_init cd_OutOfRange_init ct_OutOfRange_init, d_NotNewer_init := PySem.W.fnOf "__init__" "NotNewer.__init__" (defArgs s_NotNewer_init) (defBody s_NotNewer_init) (defScope s_NotNewer_init) .none kV_NotNewer_init dc_NotNewer_init pm_NotNewer_init an_NotNewer_init cd_NotNewer_init ct_NotNewer_init, d_in_range := PySem.W.fnOf "in_range" "in_range" (defArgs s_in_range) (defBody s_in_range) (defScope s_in_range) .none kV_in_range dc_in_range pm_in_range an_in_range cd_in_range ct_in_range, d_Ledger_init := PySem.W.fnOf "__init__" "Ledger.__init__" (defArgs s_Ledger_init) (defBody s_Ledger_init) (defScope s_Ledger_init) .none kV_Ledger_init dc_Ledger_init pm_Ledger_init an_Ledger_init cd_Ledger_init ct_Ledger_init, d_Ledger_opened := PySem.W.fnOf "opened" "Ledger.opened" (defArgs s_Ledger_opened) (defBody s_Ledger_opened) (defScope s_Ledger_opened) .none kV_Ledger_opened dc_Ledger_opened pm_Ledger_opened an_Ledger_opened cd_Ledger_opened ct_Ledger_opened, d_Ledger_tell := PySem.W.fnOf "tell" "Ledger.tell" (defArgs s_Ledger_tell) (defBody s_Ledger_tell) (defScope s_Ledger_tell) .none kV_Ledger_tell dc_Ledger_tell pm_Ledger_tell an_Ledger_tell cd_Ledger_tell ct_Ledger_tell, d_check_number := PySem.W.fnOf "check_number" "check_number" (defArgs s_check_number) (defBody s_check_number) (defScope s_check_number) .none kV_check_number dc_check_number pm_check_number an_check_number cd_check_number ct_check_number, d__law_pool := PySem.W.fnOf "_law_pool" "_law_pool" (defArgs s__law_pool) (defBody s__law_pool) (defScope s__law_pool) .none kV__law_pool dc__law_pool pm__law_pool an__law_pool cd__law_pool ct__law_pool, d__law_draw := PySem.W.fnOf "_law_draw" "_law_draw" (defArgs s__law_draw) (defBody s__law_draw) (defScope s__law_draw) .none kV__law_draw dc__law_draw pm__law_draw an__law_draw cd__law_draw ct__law_draw, d__law_same := PySem.W.fnOf "_law_same" "_law_same" (defArgs s__law_same) (defBody s__law_same) (defScope s__law_same) .none kV__law_same dc__law_same pm__law_same an__law_same cd__law_same ct__law_same, d__law_number := PySem.W.fnOf "_law_number" "_law_number" (defArgs s__law_number) (defBody s__law_number) (defScope s__law_number) .none kV__law_number dc__law_number pm__law_number an__law_number cd__law_number ct__law_number, d__law_due := PySem.W.fnOf "_law_due" "_law_due" (defArgs s__law_due) (defBody s__law_due) (defScope s__law_due) .none kV__law_due dc__law_due pm__law_due an__law_due cd__law_due ct__law_due, d__law_call := PySem.W.fnOf "_law_call" "_law_call" (defArgs s__law_call) (defBody s__law_call) (defScope s__law_call) .none kV__law_call dc__law_call pm__law_call an__law_call cd__law_call ct__law_call, d__law_stands := PySem.W.fnOf "_law_stands" "_law_stands" (defArgs s__law_stands) (defBody s__law_stands) (defScope s__law_stands) .none kV__law_stands dc__law_stands pm__law_stands an__law_stands cd__law_stands ct__law_stands, d__law_step := PySem.W.fnOf "_law_step" "_law_step" (defArgs s__law_step) (defBody s__law_step) (defScope s__law_step) .none kV__law_step dc__law_step pm__law_step an__law_step cd__law_step ct__law_step, d_law := PySem.W.fnOf "law" "law" (defArgs s_law) (defBody s_law) (defScope s_law) .none kV_law dc_law pm_law an_law cd_law ct_law : Ad }, PySem.W.mg_of X G a_law, fun s u => .of_eq rfl, ?_⟩
  exact {
    g_DueError := PySem.W.mg_of X G ac_DueError
    ox_DueError := ⟨⟨_, _, _, _, _, _, _, _, _, _, _, _, _, _, _, xl_DueError, by first | rfl | decide +kernel⟩, sa_DueError, ex_DueError, ty_DueError, kc_DueError⟩
    xc_DueError := ⟨ga_DueError, gg_DueError, ex_DueError, hd_DueError, ha_DueError, hn_C, ht_C, hm_DueError⟩
    xf_DueError := ⟨ga_DueError, gg_DueError, ex_DueError, hd_DueError⟩
    g_OutOfRange := PySem.W.mg_of X G ac_OutOfRange
    ox_OutOfRange := ⟨⟨_, _, _, _, _, _, _, _, _, _, _, _, _, _, _, xl_OutOfRange, by first | rfl | decide +kernel⟩, sa_OutOfRange, ex_OutOfRange, ty_OutOfRange, kc_OutOfRange⟩
    xc_OutOfRange := ⟨ga_OutOfRange, gg_OutOfRange, ex_OutOfRange, hd_OutOfRange, ha_OutOfRange, hn_C, ht_C, hm_OutOfRange⟩
    xf_OutOfRange := ⟨ga_OutOfRange, gg_OutOfRange, ex_OutOfRange, hd_OutOfRange⟩
    no_OutOfRange_what := no_OutOfRange_what
    no_OutOfRange_value := no_OutOfRange_value
    i_OutOfRange := i_OutOfRange
    t_OutOfRange := t_OutOfRange
    g_NotNewer := PySem.W.mg_of X G ac_NotNewer
    ox_NotNewer := ⟨⟨_, _, _, _, _, _, _, _, _, _, _, _, _, _, _, xl_NotNewer, by first | rfl | decide +kernel⟩, sa_NotNewer, ex_NotNewer, ty_NotNewer, kc_NotNewer⟩
    xc_NotNewer := ⟨ga_NotNewer, gg_NotNewer, ex_NotNewer, hd_NotNewer, ha_NotNewer, hn_C, ht_C, hm_NotNewer⟩
    xf_NotNewer := ⟨ga_NotNewer, gg_NotNewer, ex_NotNewer, hd_NotNewer⟩
    no_NotNewer_due := no_NotNewer_due
    no_NotNewer_claim := no_NotNewer_claim
    i_NotNewer := i_NotNewer
    t_NotNewer := t_NotNewer
    g_Ledger := PySem.W.mg_of X G ac_Ledger
    cl_Ledger := ⟨pg_Ledger, hd_Ledger, po_Ledger, sa_Ledger⟩
    no_Ledger_newest := no_Ledger_newest
    no_Ledger_kept := no_Ledger_kept
    M_Ledger := ⟨mk_Ledger, i_Ledger, fi_Ledger, kc_Ledger⟩
    m_Ledger_opened := ⟨a_Ledger_opened, fi_Ledger_opened, k_Ledger_opened⟩
    m_Ledger_tell := ⟨a_Ledger_tell, fi_Ledger_tell, k_Ledger_tell⟩
    sub_DueError_DueError := sub_DueError_DueError
    kit_DueError_DueError := PySem.W.xr_kit hd_DueError ty_DueError sub_DueError_DueError sub_DueError_DueError
    exm_DueError_DueError := PySem.W.exm_ref ex_DueError hd_DueError ty_DueError sub_DueError_DueError
    sub_DueError_OutOfRange := sub_DueError_OutOfRange
    kit_DueError_OutOfRange := PySem.W.xr_kit hd_OutOfRange ty_OutOfRange sub_DueError_OutOfRange sub_OutOfRange_OutOfRange
    exm_DueError_OutOfRange := PySem.W.exm_ref ex_OutOfRange hd_OutOfRange ty_OutOfRange sub_DueError_OutOfRange
    sub_DueError_NotNewer := sub_DueError_NotNewer
    kit_DueError_NotNewer := PySem.W.xr_kit hd_NotNewer ty_NotNewer sub_DueError_NotNewer sub_NotNewer_NotNewer
    exm_DueError_NotNewer := PySem.W.exm_ref ex_NotNewer hd_NotNewer ty_NotNewer sub_DueError_NotNewer
    kitV_DueError := PySem.W.xr_kitV (by decide +kernel) ve_DueError
    sub_OutOfRange_DueError := sub_OutOfRange_DueError
    kit_OutOfRange_DueError := PySem.W.xr_kit hd_DueError ty_DueError sub_OutOfRange_DueError sub_DueError_DueError
    exm_OutOfRange_DueError := PySem.W.exm_ref ex_DueError hd_DueError ty_DueError sub_OutOfRange_DueError
    sub_OutOfRange_OutOfRange := sub_OutOfRange_OutOfRange
    kit_OutOfRange_OutOfRange := PySem.W.xr_kit hd_OutOfRange ty_OutOfRange sub_OutOfRange_OutOfRange sub_OutOfRange_OutOfRange
    exm_OutOfRange_OutOfRange := PySem.W.exm_ref ex_OutOfRange hd_OutOfRange ty_OutOfRange sub_OutOfRange_OutOfRange
    sub_OutOfRange_NotNewer := sub_OutOfRange_NotNewer
    kit_OutOfRange_NotNewer := PySem.W.xr_kit hd_NotNewer ty_NotNewer sub_OutOfRange_NotNewer sub_NotNewer_NotNewer
    exm_OutOfRange_NotNewer := PySem.W.exm_ref ex_NotNewer hd_NotNewer ty_NotNewer sub_OutOfRange_NotNewer
    kitV_OutOfRange := PySem.W.xr_kitV (by decide +kernel) ve_OutOfRange
    sub_NotNewer_DueError := sub_NotNewer_DueError
    kit_NotNewer_DueError := PySem.W.xr_kit hd_DueError ty_DueError sub_NotNewer_DueError sub_DueError_DueError
    exm_NotNewer_DueError := PySem.W.exm_ref ex_DueError hd_DueError ty_DueError sub_NotNewer_DueError
    sub_NotNewer_OutOfRange := sub_NotNewer_OutOfRange
    kit_NotNewer_OutOfRange := PySem.W.xr_kit hd_OutOfRange ty_OutOfRange sub_NotNewer_OutOfRange sub_OutOfRange_OutOfRange
    exm_NotNewer_OutOfRange := PySem.W.exm_ref ex_OutOfRange hd_OutOfRange ty_OutOfRange sub_NotNewer_OutOfRange
    sub_NotNewer_NotNewer := sub_NotNewer_NotNewer
    kit_NotNewer_NotNewer := PySem.W.xr_kit hd_NotNewer ty_NotNewer sub_NotNewer_NotNewer sub_NotNewer_NotNewer
    exm_NotNewer_NotNewer := PySem.W.exm_ref ex_NotNewer hd_NotNewer ty_NotNewer sub_NotNewer_NotNewer
    kitV_NotNewer := PySem.W.xr_kitV (by decide +kernel) ve_NotNewer
    F_OutOfRange_init := fun_mk (st := s_OutOfRange_init) l_OutOfRange_init co_OutOfRange_init k_OutOfRange_init
    b_OutOfRange_init := (fun_mk (st := s_OutOfRange_init) l_OutOfRange_init co_OutOfRange_init k_OutOfRange_init).binds (ps := ["self", "what", "value"]) fun _ _ _ _ _ _ us hl => match us, hl with | [_, _, _], _ => rfl
    F_NotNewer_init := fun_mk (st := s_NotNewer_init) l_NotNewer_init co_NotNewer_init k_NotNewer_init
    b_NotNewer_init := (fun_mk (st := s_NotNewer_init) l_NotNewer_init co_NotNewer_init k_NotNewer_init).binds (ps := ["self", "due", "claim"]) fun _ _ _ _ _ _ us hl => match us, hl with | [_, _, _], _ => rfl
    g_in_range := PySem.W.mg_of X G a_in_range
    F_in_range := fun_mk (st := s_in_range) l_in_range co_in_range k_in_range
    b_in_range := (fun_mk (st := s_in_range) l_in_range co_in_range k_in_range).binds (ps := ["what", "value", "low", "high"]) fun _ _ _ _ _ _ us hl => match us, hl with | [_, _, _, _], _ => rfl
    F_Ledger_init := fun_mk (st := s_Ledger_init) l_Ledger_init co_Ledger_init k_Ledger_init
    b_Ledger_init := (fun_mk (st := s_Ledger_init) l_Ledger_init co_Ledger_init k_Ledger_init).binds (ps := ["self"]) fun _ _ _ _ _ _ us hl => match us, hl with | [_], _ => rfl
    F_Ledger_opened := fun_mk (st := s_Ledger_opened) l_Ledger_opened co_Ledger_opened k_Ledger_opened
    b_Ledger_opened := (fun_mk (st := s_Ledger_opened) l_Ledger_opened co_Ledger_opened k_Ledger_opened).binds (ps := ["self", "due", "claim"]) fun _ _ _ _ _ _ us hl => match us, hl with | [_, _, _], _ => rfl
    F_Ledger_tell := fun_mk (st := s_Ledger_tell) l_Ledger_tell co_Ledger_tell k_Ledger_tell
    b_Ledger_tell := (fun_mk (st := s_Ledger_tell) l_Ledger_tell co_Ledger_tell k_Ledger_tell).binds (ps := ["self", "due", "claim"]) fun _ _ _ _ _ _ us hl => match us, hl with | [_, _, _], _ => rfl
    g_check_number := PySem.W.mg_of X G a_check_number
    F_check_number := fun_mk (st := s_check_number) l_check_number co_check_number k_check_number
    b_check_number := (fun_mk (st := s_check_number) l_check_number co_check_number k_check_number).binds (ps := ["due", "claim"]) fun _ _ _ _ _ _ us hl => match us, hl with | [_, _], _ => rfl
    g__law_pool := PySem.W.mg_of X G a__law_pool
    F__law_pool := fun_mk (st := s__law_pool) l__law_pool co__law_pool k__law_pool
    b__law_pool := (fun_mk (st := s__law_pool) l__law_pool co__law_pool k__law_pool).binds (ps := ["script"]) fun _ _ _ _ _ _ us hl => match us, hl with | [_], _ => rfl
    g__law_draw := PySem.W.mg_of X G a__law_draw
    F__law_draw := fun_mk (st := s__law_draw) l__law_draw co__law_draw k__law_draw
    b__law_draw := (fun_mk (st := s__law_draw) l__law_draw co__law_draw k__law_draw).binds (ps := ["pool", "many"]) fun _ _ _ _ _ _ us hl => match us, hl with | [_, _], _ => rfl
    g__law_same := PySem.W.mg_of X G a__law_same
    F__law_same := fun_mk (st := s__law_same) l__law_same co__law_same k__law_same
    b__law_same := (fun_mk (st := s__law_same) l__law_same co__law_same k__law_same).binds (ps := ["told", "due"]) fun _ _ _ _ _ _ us hl => match us, hl with | [_, _], _ => rfl
    g__law_number := PySem.W.mg_of X G a__law_number
    F__law_number := fun_mk (st := s__law_number) l__law_number co__law_number k__law_number
    b__law_number := (fun_mk (st := s__law_number) l__law_number co__law_number k__law_number).binds (ps := ["pool", "now", "low"]) fun _ _ _ _ _ _ us hl => match us, hl with | [_, _, _], _ => rfl
    g__law_due := PySem.W.mg_of X G a__law_due
    F__law_due := fun_mk (st := s__law_due) l__law_due co__law_due k__law_due
    b__law_due := (fun_mk (st := s__law_due) l__law_due co__law_due k__law_due).binds (ps := ["book", "opens", "due", "claim"]) fun _ _ _ _ _ _ us hl => match us, hl with | [_, _, _, _], _ => rfl
    g__law_call := PySem.W.mg_of X G a__law_call
    F__law_call := fun_mk (st := s__law_call) l__law_call co__law_call k__law_call
    b__law_call := (fun_mk (st := s__law_call) l__law_call co__law_call k__law_call).binds (ps := ["ledger", "opens", "due", "claim"]) fun _ _ _ _ _ _ us hl => match us, hl with | [_, _, _, _], _ => rfl
    g__law_stands := PySem.W.mg_of X G a__law_stands
    F__law_stands := fun_mk (st := s__law_stands) l__law_stands co__law_stands k__law_stands
    b__law_stands := (fun_mk (st := s__law_stands) l__law_stands co__law_stands k__law_stands).binds (ps := ["ledger", "book"]) fun _ _ _ _ _ _ us hl => match us, hl with | [_, _], _ => rfl
    g__law_step := PySem.W.mg_of X G a__law_step
    F__law_step := fun_mk (st := s__law_step) l__law_step co__law_step k__law_step
    b__law_step := (fun_mk (st := s__law_step) l__law_step co__law_step k__law_step).binds (ps := ["ledgers", "books", "k", "opens", "number"]) fun _ _ _ _ _ _ us hl => match us, hl with | [_, _, _, _, _], _ => rfl
    g_law := PySem.W.mg_of X G a_law
    F_law := fun_mk (st := s_law) l_law co_law k_law
    b_law := (fun_mk (st := s_law) l_law co_law k_law).binds (ps := ["script"]) fun _ _ _ _ _ _ us hl => match us, hl with | [_], _ => rfl
    g_FAR := ⟨_, PySem.W.mg_of X G ag_FAR⟩
    g_MOST_CLAIM := ⟨_, PySem.W.mg_of X G ag_MOST_CLAIM⟩
    n_ValueError := PySem.W.mg_none_of X G n_ValueError
    n_all := PySem.W.mg_none_of X G n_all
    n_bool := PySem.W.mg_none_of X G n_bool
    n_int := PySem.W.mg_none_of X G n_int
    n_isinstance := PySem.W.mg_none_of X G n_isinstance
    n_len := PySem.W.mg_none_of X G n_len
    n_list := PySem.W.mg_none_of X G n_list
    n_range := PySem.W.mg_none_of X G n_range
    n_str := PySem.W.mg_none_of X G n_str
    n_tuple := PySem.W.mg_none_of X G n_tuple
  }
end My

namespace My
open PySem L2
/-! ### 1. errors -/
def But (p : Addr) (H H' : Hp) : Prop := ∀ b o, H b = some o → b ≠ p → H' b = some o
/-- an own error's __init__ with two fields -/
def spX2 (C : Addr) (f g : Str) : Sp := fun vs H Q _ => ∃ (x : Addr) (v w : V), vs = [.ref x, v, w] ∧ H x = some (exo x C none) ∧
  ∀ d H', H d = none → d ≠ x → H' x = some (exo x C (some d)) → H' d = some (exd d [(g, w), (f, v)]) → But x H H' → Q .non H'
section
variable {P : Program} {w : World} {K : PySem.W.Frag} {mg : Str → Option Value} {base : Heap} {a : Ad}
theorem x2_read {K : PySem.W.Frag} {C : Addr} {f g : Str} (ox : OexC K C) (nf : PySem.W.findIn K (.ref C) f = some none) (ng : PySem.W.findIn K (.ref C) g = some none) {x : Addr} {v w : V} {H : Hp} {D : Ends} (hx : H x = some (exo x C none))
    (h : ∀ d H', H d = none → d ≠ x → H' x = some (exo x C (some d)) → H' d = some (exd d [(g, w), (f, v)]) → But x H H' → D.nx [some (.ref x), some v, some w] H') :
    tAsg (tTup (tCons (tVar 1) (tCons (tVar 2) tNil))) (gTup K 2 (gCons (gOst K f (tVar 0)) (gCons (gOst K g (tVar 0)) gNil))) D [some (.ref x), some v, some w] H := by
  refine ⟨_, rfl, _, rfl, (by show 2 ≤ sizeLine; decide), fun p hp => ?_⟩
  have npx : p ≠ x := (ne_of_none hx hp).symm
  refine ⟨p, [v, w], rfl, SqT.of upd_same, rfl, _, _, rfl, _, rfl, x, C, rfl, ox, nf, Or.inl ⟨(upd_ne npx.symm).trans hx, fun d hd hdx => ?_⟩⟩
  have ndp : d ≠ p := fun z => by rw [z, upd_same] at hd; cases hd
  have hd0 : H d = none := by rw [← hd, upd_ne ndp]
  refine ⟨_, _, rfl, _, rfl, x, C, rfl, ox, ng, Or.inr ⟨d, _, upd_same, (upd_ne hdx).trans upd_same, (by show 1 ≤ 900; decide), rfl, ?_⟩⟩
  refine h d _ hd0 hdx ((upd_ne hdx.symm).trans upd_same) upd_same fun b o e hb => ?_
  rw [upd_ne (ne_of_none e hd0), upd_ne hb, upd_ne (ne_of_none e hd0), upd_ne (ne_of_none e hp)]
  exact e
theorem G_OutOfRange_init (T : Tx K mg a) : FnOk P w K mg base CX0 1 a.f_OutOfRange_init a.d_OutOfRange_init ["self", "what", "value"] (spX2 a.c_OutOfRange "what" "value") := by
  refine T.F_OutOfRange_init.ok sc_OutOfRange_init (fun vs H Q E h => ?_) (fun cdv A outer s H vs Q E hr h => ?_)
  · obtain ⟨x, v, w, rfl, _⟩ := h
    rfl
  · obtain ⟨x, v, w, rfl, hx, k⟩ := h
    refine ⟨_, (pss_one (ps_asg (pe_tup (pa_cons (pv 1) (pa_cons (pv 2) pa_nil))) (pg_tup rfl (pgs_cons (pg_ost (pv 0)) (pgs_cons (pg_ost (pv 0)) pgs_nil))))), ?_⟩
    exact x2_read T.ox_OutOfRange T.no_OutOfRange_what T.no_OutOfRange_value hx k
theorem G_NotNewer_init (T : Tx K mg a) : FnOk P w K mg base CX0 1 a.f_NotNewer_init a.d_NotNewer_init ["self", "due", "claim"] (spX2 a.c_NotNewer "due" "claim") := by
  refine T.F_NotNewer_init.ok sc_NotNewer_init (fun vs H Q E h => ?_) (fun cdv A outer s H vs Q E hr h => ?_)
  · obtain ⟨x, v, w, rfl, _⟩ := h
    rfl
  · obtain ⟨x, v, w, rfl, hx, k⟩ := h
    refine ⟨_, (pss_one (ps_asg (pe_tup (pa_cons (pv 1) (pa_cons (pv 2) pa_nil))) (pg_tup rfl (pgs_cons (pg_ost (pv 0)) (pgs_cons (pg_ost (pv 0)) pgs_nil))))), ?_⟩
    exact x2_read T.ox_NotNewer T.no_NotNewer_due T.no_NotNewer_claim hx k
/-- C(v, w) is made: what its raising asks -/
theorem x2_made {C : Addr} {f g : Str} {v w : V} {H : Hp} {Q : XK} (h : ∀ d H', H' d = some (.xd [(g, w), (f, v)]) → Same H H' → Q (.ref C) (some d) H') :
    [v, w].length ≤ 1000 ∧ ∀ x, H x = none → spX2 C f g (.ref x :: ([v, w] ++ [])) (upd H x (exo x C none))
      (fun v H2 => v = .non ∧ ∃ (d : Addr) (fs : List (Str × V)), H2 x = some (exo x C (some d)) ∧ H2 d = some (exd d fs) ∧ H d = none ∧ Q (.ref C) (some d) (upd (del H2 x) d (.xd fs))) (fun _ _ _ => False) := by
  refine ⟨by show 2 ≤ 1000; decide, fun x hx => ⟨x, v, w, rfl, upd_same, fun d H' hd hdx e1 e2 bt => ⟨rfl, d, _, e1, e2, ?_, ?_⟩⟩⟩
  · rw [← hd, upd_ne hdx]
  · refine h d _ upd_same fun b o e => ?_
    have hbx : b ≠ x := ne_of_none e hx
    have hbd : b ≠ d := fun z => by rw [z] at e; rw [upd_ne hdx, e] at hd; cases hd
    rw [upd_ne hbd, del_ne hbx]
    exact bt b o (by rw [upd_ne hbx]; exact e) hbx
/-! ### 2. checks -/
def spRange (a : Ad) : Sp := fun vs H Q E => ∃ (s : Str) (v lo hi : Int), vs = [.str s, .int v, .int lo, .int hi] ∧
  ((lo ≤ v ∧ v ≤ hi) → Q .non H) ∧ (¬ (lo ≤ v ∧ v ≤ hi) → ∀ d H', H' d = some (.xd [("value", .int v), ("what", .str s)]) → Same H H' → E (.ref a.c_OutOfRange) (some d) H')
theorem G_in_range (T : Tx K mg a) : FnOk P w K mg base (L2.CX P w) 3 a.f_in_range a.d_in_range ["what", "value", "low", "high"] (spRange a) := by
  refine T.F_in_range.okX sc_in_range (fun vs H Q E h => ?_) (fun cdv A outer s H vs Q E hr h => ?_)
  · obtain ⟨s, v, lo, hi, rfl, _⟩ := h
    rfl
  · obtain ⟨s, v, lo, hi, rfl, k1, k2⟩ := h
    refine ⟨_, (pss_one (ps_if (pt_not (pt_chain op_le op_le (pv 2) (pv 1) (pv 3))) (pss_one (ps_raise rfl (takes_of rfl rfl rfl rfl) (pmk_oex T.ox_OutOfRange T.i_OutOfRange T.t_OutOfRange (G_OutOfRange_init T) (hr.mono (by decide)) T.b_OutOfRange_init .nil pass0 rfl T.g_OutOfRange (pa_cons (pv 0) (pa_cons (pv 1) pa_nil))))) pss_nil)), ?_⟩
    refine ⟨_, rfl, _, rfl, _, _, rfl, rfl, _, rfl, ?_⟩
    by_cases c1 : lo ≤ v
    · rw [decide_eq_true c1]
      refine ⟨_, rfl, _, _, rfl, rfl, _, rfl, ?_⟩
      by_cases c2 : v ≤ hi
      · rw [decide_eq_true c2]
        exact k1 ⟨c1, c2⟩
      · rw [decide_eq_false c2]
        refine ⟨_, rfl, _, rfl, ?_⟩
        exact x2_made (k2 fun z => c2 z.2)
    · rw [decide_eq_false c1]
      refine ⟨_, rfl, ?_⟩
      refine ⟨_, rfl, _, rfl, ?_⟩
      exact x2_made (k2 fun z => c1 z.1)
end
end My

namespace My
open PySem L2
/-! ### 3. a ledger: what it holds, what its two methods do (plain Lean) -/
abbrev LS := Option (Int × Int) × List Int
inductive An where
  | rng (s : Str) (v : Int) | nn (d c : Int) | tl (v : V)
def okD (d : Int) : Prop := 0 ≤ d ∧ d ≤ 10 ^ 40
def okC (c : Int) : Prop := 0 ≤ c ∧ c ≤ 6
instance (d : Int) : Decidable (okD d) := inferInstanceAs (Decidable (_ ∧ _))
instance (d : Int) : Decidable (okC d) := inferInstanceAs (Decidable (_ ∧ _))
def opn (s : LS) (d c : Int) : An × LS :=
  if ¬ okD d then (.rng "due" d, s) else if ¬ okC c then (.rng "claim" c, s) else
  match s.1 with
  | none => (.tl .non, (some (d, c), s.2))
  | some q => if d < q.1 ∨ (d = q.1 ∧ c ≤ q.2) then (.nn d c, s) else (.tl .non, (some (d, c), s.2))
def tel (s : LS) (d c : Int) : An × LS :=
  if ¬ okD d then (.rng "due" d, s) else if ¬ okC c then (.rng "claim" c, s) else
  match s.1 with
  | none => (.tl (.str "unknown"), s)
  | some q => if q.1 < d ∨ (d = q.1 ∧ q.2 < c) then (.tl (.str "unknown"), s) else if d < q.1 ∨ (d = q.1 ∧ c < q.2) then (.tl (.str "old"), s) else
    if d ∈ s.2 then (.tl (.str "again"), s) else (.tl (.str "kept"), (s.1, s.2 ++ [d]))
/-! ### the heap -/
def NwAt (H : Hp) (v : V) : Option (Int × Int) → Prop
  | none => v = .non
  | some q => ∃ t, v = .ref t ∧ H t = some (.tup [.int q.1, .int q.2])
def lf (nv : V) (kt : Addr) : List (Str × V) := [("newest", nv), ("kept", .ref kt)]
theorem ne_nk : ¬ (("newest" : Str) = "kept") := by decide +kernel
theorem ne_kn : ¬ (("kept" : Str) = "newest") := by decide +kernel
theorem lf_newest (nv : V) (kt : Addr) : (lf nv kt).lookup ("newest" : Str) = some nv := by simp [lf, List.lookup]
theorem lf_kept (nv : V) (kt : Addr) : (lf nv kt).lookup ("kept" : Str) = some (.ref kt) := by
  have h : (("kept" : Str) == "newest") = false := by simpa using ne_kn
  simp [lf, List.lookup, h]
theorem lf_put_newest (nv w : V) (kt : Addr) : putF "newest" w (lf nv kt) = lf w kt := by
  show (if ("newest" : Str) = "newest" then _ else _) = _
  rw [if_pos rfl] <;> rfl
theorem lf_put_kept (nv : V) (kt kt' : Addr) : putF "kept" (.ref kt') (lf nv kt) = lf nv kt' := by
  simp [lf, putF, ne_nk]
theorem lf_make (nv : V) (kt : Addr) : putF "kept" (.ref kt) (putF "newest" nv []) = lf nv kt := by
  simp [lf, putF, ne_nk]
theorem lf_no (nv : V) (kt : Addr) {m : Str} (h1 : ¬ m = "newest") (h2 : ¬ m = "kept") : (lf nv kt).lookup m = none := by
  have e1 : (m == ("newest" : Str)) = false := by simpa using h1
  have e2 : (m == ("kept" : Str)) = false := by simpa using h2
  simp [lf, List.lookup, e1, e2]
def LedAt (C : Addr) (H : Hp) (p : Addr) (s : LS) : Prop := ∃ dx nv kt, H p = some (.ins C dx (lf nv kt)) ∧ NwAt H nv s.1 ∧ H kt = some (.tup (s.2.map V.int))
/-- how it ends, by the answer -/
def Out (a : Ad) (Q : VK) (E : XK) (H' : Hp) : An → Prop
  | .tl v => Q v H'
  | .rng s v => ∀ dd H2, H2 dd = some (.xd [("value", .int v), ("what", .str s)]) → Same H' H2 → E (.ref a.c_OutOfRange) (some dd) H2
  | .nn d c => ∀ dd H2, H2 dd = some (.xd [("claim", .int c), ("due", .int d)]) → Same H' H2 → E (.ref a.c_NotNewer) (some dd) H2
def spOp (a : Ad) (f : LS → Int → Int → An × LS) : Sp := fun vs H Q E => ∃ p s d c, vs = [.ref p, .int d, .int c] ∧ LedAt a.c_Ledger H p s ∧ s.2.length ≤ 1000 ∧
  ∀ H', LedAt a.c_Ledger H' p (f s d c).2 → But p H H' → Out a Q E H' (f s d c).1
def spNew (C : Addr) : Sp := fun vs H Q _ => ∃ p dx, vs = [.ref p] ∧ H p = some (.ins C dx []) ∧ ∀ H', LedAt C H' p (none, []) → But p H H' → Q .non H'
def spCheck (a : Ad) : Sp := fun vs H Q E => ∃ (d c : Int), vs = [.int d, .int c] ∧
  ((okD d ∧ okC c) → Q .non H) ∧ (¬ okD d → Out a Q E H (.rng "due" d)) ∧ (okD d → ¬ okC c → Out a Q E H (.rng "claim" c))
theorem NwAt.same {H H' : Hp} {v : V} {q : Option (Int × Int)} (h : NwAt H v q) (s : ∀ t xs, H t = some (.tup xs) → H' t = some (.tup xs)) : NwAt H' v q := by
  cases q with
  | none => exact h
  | some q =>
    obtain ⟨t, e, ht⟩ := h
    exact ⟨t, e, s _ _ ht⟩
/-- the ledger's own object is not a tuple -/
theorem But.tup {p C dx : Addr} {fs : List (Str × V)} {H H' : Hp} (b : But p H H') (hp : H p = some (.ins C dx fs)) : ∀ t xs, H t = some (.tup xs) → H' t = some (.tup xs) := fun t xs h => b t _ h (ne_of h hp (by intro z; cases z))
theorem But.refl (p : Addr) (H : Hp) : But p H H := fun _ _ h _ => h
theorem But.same {p : Addr} {H H1 H2 : Hp} (a : Same H H1) (b : But p H1 H2) : But p H H2 := fun c o h n => b c o (a c o h) n
theorem But.thenS {p : Addr} {H H1 H2 : Hp} (a : But p H H1) (b : Same H1 H2) : But p H H2 := fun c o h n => b c o (a c o h n)
theorem But.upd {p : Addr} {H H1 : Hp} {o : HO} (a : But p H H1) : But p H (upd H1 p o) := fun c o' h n => by rw [upd_ne n]; exact a c o' h n
theorem Same.new {H : Hp} {p : Addr} {o : HO} (h : H p = none) : Same H (upd H p o) := fun b u e => by rw [upd_ne (ne_of_none e h)]; exact e
theorem LedAt.same {C : Addr} {H H' : Hp} {p : Addr} {s : LS} (h : LedAt C H p s) (e : Same H H') : LedAt C H' p s := by
  obtain ⟨dx, nv, kt, h1, h2, h3⟩ := h
  exact ⟨dx, nv, kt, e _ _ h1, h2.same fun t xs z => e _ _ z, e _ _ h3⟩
/-! ### comparisons of pairs -/
theorem le2 (d c x y : Int) : Ob.lexAt (fun j => decide (([d, c] : List Int).getD j 0 = ([x, y] : List Int).getD j 0)) (fun j => decide (([d, c] : List Int).getD j 0 ≤ ([x, y] : List Int).getD j 0)) (decide (([d, c] : List Int).length ≤ ([x, y] : List Int).length)) 0 (min ([d, c] : List Int).length ([x, y] : List Int).length) = decide (d < x ∨ (d = x ∧ c ≤ y)) := by
  show (if decide (d = x) = true then (if decide (c = y) = true then true else decide (c ≤ y)) else decide (d ≤ x)) = _
  by_cases h1 : d = x
  · subst h1
    rw [decide_eq_true rfl, if_pos rfl]
    by_cases h2 : c = y
    · subst h2
      rw [decide_eq_true rfl, if_pos rfl]
      exact (decide_eq_true (Or.inr ⟨rfl, Int.le_refl _⟩)).symm
    · rw [decide_eq_false h2, if_neg Bool.false_ne_true]
      exact decide_eq_decide.mpr ⟨fun z => Or.inr ⟨rfl, z⟩, fun z => by omega⟩
  · rw [decide_eq_false h1, if_neg Bool.false_ne_true]
    exact decide_eq_decide.mpr ⟨fun z => by omega, fun z => by omega⟩
theorem gt2 (d c x y : Int) : Ob.lexAt (fun j => decide (([d, c] : List Int).getD j 0 = ([x, y] : List Int).getD j 0)) (fun j => decide (([x, y] : List Int).getD j 0 < ([d, c] : List Int).getD j 0)) (decide (([d, c] : List Int).length > ([x, y] : List Int).length)) 0 (min ([d, c] : List Int).length ([x, y] : List Int).length) = decide (x < d ∨ (d = x ∧ y < c)) := by
  show (if decide (d = x) = true then (if decide (c = y) = true then false else decide (y < c)) else decide (x < d)) = _
  by_cases h1 : d = x
  · subst h1
    rw [decide_eq_true rfl, if_pos rfl]
    by_cases h2 : c = y
    · subst h2
      rw [decide_eq_true rfl, if_pos rfl]
      exact (decide_eq_false (by omega)).symm
    · rw [decide_eq_false h2, if_neg Bool.false_ne_true]
      exact decide_eq_decide.mpr ⟨fun z => Or.inr ⟨rfl, z⟩, fun z => by omega⟩
  · rw [decide_eq_false h1, if_neg Bool.false_ne_true]
    exact decide_eq_decide.mpr ⟨fun z => by omega, fun z => by omega⟩
theorem lt2 (d c x y : Int) : HT.lexLt [d, c] [x, y] = decide (d < x ∨ (d = x ∧ c < y)) := by
  show (if d = x then (if c = y then false else decide (c < y)) else decide (d < x)) = _
  by_cases h1 : d = x
  · rw [if_pos h1]
    by_cases h2 : c = y
    · rw [if_pos h2]
      exact (decide_eq_false (by omega)).symm
    · rw [if_neg h2]
      exact decide_eq_decide.mpr ⟨fun z => Or.inr ⟨h1, z⟩, fun z => by omega⟩
  · rw [if_neg h1]
    exact decide_eq_decide.mpr ⟨fun z => by omega, fun z => by omega⟩
theorem inV_ints (d : Int) (ks : List Int) : inV (.int d) (ks.map V.int) = decide (d ∈ ks) := by
  induction ks with
  | nil => rfl
  | cons k ks ih =>
    have e : inV (.int d) ((k :: ks).map V.int) = ((k == d) || inV (.int d) (ks.map V.int)) := rfl
    rw [e, ih]
    by_cases h : k = d
    · subst h
      simp
    · have h' : ¬ d = k := fun z => h z.symm
      simp [h, h']
theorem flat_ints (ks : List Int) : (ks.map V.int).all flatV = true := by
  induction ks with
  | nil => rfl
  | cons k ks ih => exact ih
section
variable {P : Program} {w : World} {K : PySem.W.Frag} {mg : Str → Option Value} {base : Heap} {a : Ad}
theorem G_check_number (T : Tx K mg a) : FnOk P w K mg base (L2.CX P w) 4 a.f_check_number a.d_check_number ["due", "claim"] (spCheck a) := by
  refine T.F_check_number.okX sc_check_number (fun vs H Q E h => ?_) (fun cdv A outer s H vs Q E hr h => ?_)
  · obtain ⟨d, c, rfl, _⟩ := h
    rfl
  · obtain ⟨d, c, rfl, k1, k2, k3⟩ := h
    refine ⟨_, (pss_cons (ps_expr (pe_call (G_in_range T) (hr.mono (by decide)) rfl T.g_in_range T.F_in_range.kp T.b_in_range .nil (passes_call (takes_of rfl rfl rfl rfl) (fun _ _ _ _ h => h)) (pa_cons pe_str (pa_cons (pv 0) (pa_cons pe_int (pa_cons (pe_glob (v := .int (10 ^ 40)) rfl T.g_FAR.choose_spec ⟨_, rfl⟩) pa_nil))))))
      (pss_one (ps_expr (pe_call (G_in_range T) (hr.mono (by decide)) rfl T.g_in_range T.F_in_range.kp T.b_in_range .nil (passes_call (takes_of rfl rfl rfl rfl) (fun _ _ _ _ h => h)) (pa_cons pe_str (pa_cons (pv 1) (pa_cons pe_int (pa_cons (pe_glob (v := .int 6) rfl T.g_MOST_CLAIM.choose_spec ⟨_, rfl⟩) pa_nil)))))))), ?_⟩
    refine ⟨_, rfl, "due", d, 0, 10 ^ 40, rfl, fun h1 => ?_, fun h1 => k2 h1⟩
    exact ⟨_, rfl, "claim", c, 0, 6, rfl, fun h2 => k1 ⟨h1, h2⟩, fun h2 => k3 h1 h2⟩
theorem G_Ledger_init (T : Tx K mg a) : FnOk P w K mg base CX0 1 a.f_Ledger_init a.d_Ledger_init ["self"] (spNew a.c_Ledger) := by
  refine T.F_Ledger_init.ok sc_Ledger_init (fun vs H Q E h => ?_) (fun cdv A outer s H vs Q E hr h => ?_)
  · obtain ⟨p, dx, rfl, _⟩ := h
    rfl
  · obtain ⟨p, dx, rfl, hp, k⟩ := h
    refine ⟨_, (pss_cons (ps_fld (pv 0) pe_non rfl)
      (pss_one (ps_fld (pv 0) (pe_tup pa_nil) rfl))), ?_⟩
    refine ⟨_, rfl, p, _, dx, _, rfl, hp, T.cl_Ledger, T.no_Ledger_newest, (by show 0 < 1000; decide), ?_⟩
    refine ⟨(by show 0 ≤ sizeLine; decide), fun t ht => ⟨_, rfl, p, _, dx, _, rfl, (upd_ne (ne_of_none upd_same ht)).trans upd_same, T.cl_Ledger, T.no_Ledger_kept, (by show 1 < 1000; decide), ?_⟩⟩
    have npt : p ≠ t := ne_of_none upd_same ht
    have ht0 : H t = none := by rw [← ht, upd_ne npt.symm]
    refine k _ ⟨dx, .non, t, upd_same.trans (congrArg (fun q => some (HO.ins a.c_Ledger dx q)) (lf_make _ _)), rfl, (upd_ne npt.symm).trans upd_same⟩ fun b o e hb => ?_
    rw [upd_ne hb, upd_ne (ne_of_none e ht0), upd_ne hb]
    exact e
/-- what stands ahead of both methods -/
theorem led_bad {a : Ad} {f : LS → Int → Int → An × LS} {p : Addr} {s : LS} {d c : Int} {H : Hp} {Q : VK} {E : XK} (hf : ∀ s d c, (¬ okD d → f s d c = (.rng "due" d, s)) ∧ (okD d → ¬ okC c → f s d c = (.rng "claim" c, s))) (hL : LedAt a.c_Ledger H p s)
    (k : ∀ H', LedAt a.c_Ledger H' p (f s d c).2 → But p H H' → Out a Q E H' (f s d c).1) : (¬ okD d → Out a Q E H (.rng "due" d)) ∧ (okD d → ¬ okC c → Out a Q E H (.rng "claim" c)) := by
  refine ⟨fun h1 => ?_, fun h1 h2 => ?_⟩
  · have e := (hf s d c).1 h1
    have z := k H (by rw [e]; exact hL) (But.refl p H)
    rw [e] at z
    exact z
  · have e := (hf s d c).2 h1 h2
    have z := k H (by rw [e]; exact hL) (But.refl p H)
    rw [e] at z
    exact z
theorem opn_bad (s : LS) (d c : Int) : (¬ okD d → opn s d c = (.rng "due" d, s)) ∧ (okD d → ¬ okC c → opn s d c = (.rng "claim" c, s)) :=
  ⟨fun h => if_pos h, fun h1 h2 => (if_neg (fun z => z h1)).trans (if_pos h2)⟩
theorem tel_bad (s : LS) (d c : Int) : (¬ okD d → tel s d c = (.rng "due" d, s)) ∧ (okD d → ¬ okC c → tel s d c = (.rng "claim" c, s)) :=
  ⟨fun h => if_pos h, fun h1 h2 => (if_neg (fun z => z h1)).trans (if_pos h2)⟩
theorem opn_ok {s : LS} {d c : Int} (h1 : okD d) (h2 : okC c) : opn s d c = (match s.1 with
  | none => (.tl .non, (some (d, c), s.2))
  | some q => if d < q.1 ∨ (d = q.1 ∧ c ≤ q.2) then (.nn d c, s) else (.tl .non, (some (d, c), s.2))) := (if_neg (fun z => z h1)).trans (if_neg (fun z => z h2))
theorem tel_ok {s : LS} {d c : Int} (h1 : okD d) (h2 : okC c) : tel s d c = (match s.1 with
  | none => (.tl (.str "unknown"), s)
  | some q => if q.1 < d ∨ (d = q.1 ∧ q.2 < c) then (.tl (.str "unknown"), s) else if d < q.1 ∨ (d = q.1 ∧ c < q.2) then (.tl (.str "old"), s) else
    if d ∈ s.2 then (.tl (.str "again"), s) else (.tl (.str "kept"), (s.1, s.2 ++ [d]))) := (if_neg (fun z => z h1)).trans (if_neg (fun z => z h2))
theorem G_Ledger_opened (T : Tx K mg a) : FnOk P w K mg base (L2.CX P w) 5 a.f_Ledger_opened a.d_Ledger_opened ["self", "due", "claim"] (spOp a opn) := by
  refine T.F_Ledger_opened.okX sc_Ledger_opened (fun vs H Q E h => ?_) (fun cdv A outer s H vs Q E hr h => ?_)
  · obtain ⟨p, s, d, c, rfl, _⟩ := h
    rfl
  · obtain ⟨p, ⟨nw, kp⟩, d, c, rfl, hL, hz, k⟩ := h
    refine ⟨_, (pss_cons (ps_expr (pe_call (G_check_number T) (hr.mono (by decide)) rfl T.g_check_number T.F_check_number.kp T.b_check_number .nil (passes_call (takes_of rfl rfl rfl rfl) (fun _ _ _ _ h => h)) (pa_cons (pv 1) (pa_cons (pv 2) pa_nil))))
      (pss_cons (ps_if (PW.pt (pw_and (pt_cmpR op_notN (pe_fld (pv 0) rfl) pe_non (nomark _)) (pw_and1 (pt_cmpR (op_leT hr.units0) (pe_tup (pa_cons (pv 1) (pa_cons (pv 2) pa_nil))) (pe_fld (pv 0) rfl) (nomark _))))) (pss_one (ps_raise rfl (takes_of rfl rfl rfl rfl) (pmk_oex T.ox_NotNewer T.i_NotNewer T.t_NotNewer (G_NotNewer_init T) (hr.mono (by decide)) T.b_NotNewer_init .nil pass0 rfl T.g_NotNewer (pa_cons (pv 1) (pa_cons (pv 2) pa_nil))))) pss_nil)
      (pss_one (ps_fld (pv 0) (pe_tup (pa_cons (pv 1) (pa_cons (pv 2) pa_nil))) rfl)))), ?_⟩
    refine ⟨_, rfl, _, rfl, d, c, rfl, fun ⟨h1, h2⟩ => ?_, (led_bad opn_bad hL k).1, (led_bad opn_bad hL k).2⟩
    rw [opn_ok h1 h2] at k
    obtain ⟨dx, nv, kt, hp, hnw, hkt⟩ := hL
    have fin : ∀ H1, Same H H1 → (∀ H', LedAt a.c_Ledger H' p (some (d, c), kp) → But p H H' → Q .non H') → sFld K (tVar 0) (tTup (tCons (tVar 1) (tCons (tVar 2) tNil))) "newest" { nx := fun _ H' => Q .non H', rt := Q } [some (.ref p), some (.int d), some (.int c)] H1 := by
      intro H1 s1 k
      refine ⟨_, rfl, _, rfl, (by show 2 ≤ sizeLine; decide), fun t ht => ⟨_, rfl, p, _, dx, _, rfl, Same.new ht _ _ (s1 _ _ hp), T.cl_Ledger, T.no_Ledger_newest, (by show 2 < 1000; decide), ?_⟩⟩
      have ntp : t ≠ p := (ne_of_none (s1 _ _ hp) ht).symm
      refine k _ ⟨dx, .ref t, kt, upd_same.trans (congrArg (fun q => some (HO.ins a.c_Ledger dx q)) (lf_put_newest _ _ _)), ⟨t, rfl, (upd_ne ntp).trans upd_same⟩, ?_⟩ (But.upd (But.thenS (But.thenS (But.refl p H) s1) (Same.new ht)))
      rw [upd_ne (ne_of hkt hp (by intro z; cases z))]
      exact Same.new ht _ _ (s1 _ _ hkt)
    cases nw with
    | none =>
      have e : nv = .non := hnw
      subst e
      refine ⟨_, rfl, p, _, dx, _, _, rfl, hp, T.cl_Ledger, T.no_Ledger_newest, lf_newest _ _, rfl, _, rfl, ?_⟩
      exact fin H (Same.refl H) k
    | some q =>
      obtain ⟨t, e, ht⟩ := hnw
      subst e
      refine ⟨_, rfl, p, _, dx, _, _, rfl, hp, T.cl_Ledger, T.no_Ledger_newest, lf_newest _ _, rfl, _, rfl, ?_⟩
      refine ⟨_, rfl, _, rfl, (by show 2 ≤ sizeLine; decide), fun u hu => ⟨_, rfl, p, _, dx, _, _, rfl, Same.new hu _ _ hp, T.cl_Ledger, T.no_Ledger_newest, lf_newest _ _, u, t, [d, c], [q.1, q.2], rfl, rfl, SqT.of upd_same, SqT.of (Same.new hu _ _ ht), _, rfl, ?_⟩⟩
      rw [le2]
      dsimp only at k
      by_cases hc : d < q.1 ∨ (d = q.1 ∧ c ≤ q.2)
      · rw [if_pos hc] at k
        rw [decide_eq_true hc]
        refine ⟨_, rfl, _, rfl, x2_made fun dd H' e s => ?_⟩
        exact k _ ⟨dx, _, kt, Same.new hu _ _ hp, ⟨t, rfl, Same.new hu _ _ ht⟩, Same.new hu _ _ hkt⟩ (But.thenS (But.refl p H) (Same.new hu)) dd H' e s
      · rw [if_neg hc] at k
        rw [decide_eq_false hc]
        exact fin _ (Same.new hu) k
end
end My

namespace My
open PySem L2
section
variable {P : Program} {w : World} {K : PySem.W.Frag} {mg : Str → Option Value} {base : Heap} {a : Ad}
theorem G_Ledger_tell (T : Tx K mg a) : FnOk P w K mg base (L2.CX P w) 5 a.f_Ledger_tell a.d_Ledger_tell ["self", "due", "claim"] (spOp a tel) := by
  refine T.F_Ledger_tell.okX sc_Ledger_tell (fun vs H Q E h => ?_) (fun cdv A outer s H vs Q E hr h => ?_)
  · obtain ⟨p, s, d, c, rfl, _⟩ := h
    rfl
  · obtain ⟨p, ⟨nw, kp⟩, d, c, rfl, hL, hz, k⟩ := h
    refine ⟨_, (pss_cons (ps_expr (pe_call (G_check_number T) (hr.mono (by decide)) rfl T.g_check_number T.F_check_number.kp T.b_check_number .nil (passes_call (takes_of rfl rfl rfl rfl) (fun _ _ _ _ h => h)) (pa_cons (pv 1) (pa_cons (pv 2) pa_nil))))
      (pss_cons (ps_if (PW.pt (pw_or (pt_cmpR op_isN (pe_fld (pv 0) rfl) pe_non (nomark _)) (pw_or1 (pt_cmpR (op_gtT hr.units0) (pe_tup (pa_cons (pv 1) (pa_cons (pv 2) pa_nil))) (pe_fld (pv 0) rfl) (nomark _))))) (pss_one (ps_ret pe_str)) pss_nil)
      (pss_cons (ps_if (pt_cmpR (op_ltT hr.units0) (pe_tup (pa_cons (pv 1) (pa_cons (pv 2) pa_nil))) (pe_fld (pv 0) rfl) (nomark _)) (pss_one (ps_ret pe_str)) pss_nil)
      (pss_cons (ps_if (pt_cmpR op_in_seq (pv 1) (pe_fld (pv 0) rfl) (by rfl)) (pss_one (ps_ret pe_str)) pss_nil)
      (pss_cons (ps_fld (pv 0) (pe_tup (StX.pa_star (pe_fld (pv 0) rfl) (pa_cons (pv 1) pa_nil))) rfl)
      (pss_one (ps_ret pe_str))))))), ?_⟩
    refine ⟨_, rfl, _, rfl, d, c, rfl, fun ⟨h1, h2⟩ => ?_, (led_bad tel_bad hL k).1, (led_bad tel_bad hL k).2⟩
    rw [tel_ok h1 h2] at k
    obtain ⟨dx, nv, kt, hp, hnw, hkt⟩ := hL
    cases nw with
    | none =>
      have e : nv = .non := hnw
      subst e
      refine ⟨_, rfl, p, _, dx, _, _, rfl, hp, T.cl_Ledger, T.no_Ledger_newest, lf_newest _ _, rfl, _, rfl, ?_⟩
      exact k H ⟨dx, _, kt, hp, rfl, hkt⟩ (But.refl p H)
    | some q =>
      obtain ⟨t, e, ht⟩ := hnw
      subst e
      dsimp only at k
      refine ⟨_, rfl, p, _, dx, _, _, rfl, hp, T.cl_Ledger, T.no_Ledger_newest, lf_newest _ _, rfl, _, rfl, ?_⟩
      refine ⟨_, rfl, _, rfl, (by show 2 ≤ sizeLine; decide), fun u hu => ⟨_, rfl, p, _, dx, _, _, rfl, Same.new hu _ _ hp, T.cl_Ledger, T.no_Ledger_newest, lf_newest _ _, u, t, [d, c], [q.1, q.2], rfl, rfl, SqT.of upd_same, SqT.of (Same.new hu _ _ ht), _, rfl, ?_⟩⟩
      rw [gt2]
      generalize eH : upd H u (HO.tup [V.int d, V.int c]) = H1
      have s1 : Same H H1 := by rw [← eH]; exact Same.new hu
      have stay : ∀ H2, Same H H2 → LedAt a.c_Ledger H2 p (some q, kp) := fun H2 s => ⟨dx, _, kt, s _ _ hp, ⟨t, rfl, s _ _ ht⟩, s _ _ hkt⟩
      by_cases hc : q.1 < d ∨ (d = q.1 ∧ q.2 < c)
      · rw [if_pos hc] at k
        rw [decide_eq_true hc]
        exact k _ (stay _ s1) (But.thenS (But.refl p H) s1)
      rw [if_neg hc] at k
      rw [decide_eq_false hc]
      refine ⟨_, rfl, _, rfl, (by show 2 ≤ sizeLine; decide), fun u2 hu2 => ⟨_, rfl, p, _, dx, _, _, rfl, Same.new hu2 _ _ (s1 _ _ hp), T.cl_Ledger, T.no_Ledger_newest, lf_newest _ _, u2, t, [d, c], [q.1, q.2], rfl, rfl, SqT.of upd_same, SqT.of (Same.new hu2 _ _ (s1 _ _ ht)), _, rfl, ?_⟩⟩
      rw [lt2]
      have s2 : Same H (upd H1 u2 (HO.tup [V.int d, V.int c])) := s1.trans (Same.new hu2)
      generalize upd H1 u2 (HO.tup [V.int d, V.int c]) = H2 at s2
      by_cases hc2 : d < q.1 ∨ (d = q.1 ∧ c < q.2)
      · rw [if_pos hc2] at k
        rw [decide_eq_true hc2]
        exact k _ (stay _ s2) (But.thenS (But.refl p H) s2)
      rw [if_neg hc2] at k
      rw [decide_eq_false hc2]
      refine ⟨_, rfl, _, rfl, p, _, dx, _, _, rfl, s2 _ _ hp, T.cl_Ledger, T.no_Ledger_kept, lf_kept _ _, kt, _, rfl, Or.inr (SqT.of (s2 _ _ hkt)), rfl, flat_ints _, _, rfl, ?_⟩
      show (if (inV (.int d) (kp.map V.int)) = true then _ else _)
      rw [inV_ints]
      by_cases hc3 : d ∈ kp
      · rw [if_pos hc3] at k
        rw [decide_eq_true hc3]
        exact k _ (stay _ s2) (But.thenS (But.refl p H) s2)
      rw [if_neg hc3] at k
      rw [decide_eq_false hc3]
      have hz' : kp.length ≤ 1000 := hz
      refine ⟨_, rfl, p, _, dx, _, _, rfl, s2 _ _ hp, T.cl_Ledger, T.no_Ledger_kept, lf_kept _ _, kt, _, rfl, Or.inl (SqT.of (s2 _ _ hkt)), _, rfl, ?_, fun u3 hu3 => ?_⟩
      · show (kp.map V.int ++ [V.int d]).length ≤ sizeLine
        rw [List.length_append, List.length_map]
        exact Nat.le_trans (Nat.add_le_add_right hz' 1) (by decide)
      refine ⟨_, rfl, p, _, dx, _, rfl, Same.new hu3 _ _ (s2 _ _ hp), T.cl_Ledger, T.no_Ledger_kept, (by show 2 < 1000; decide), ?_⟩
      have np : u3 ≠ p := (ne_of_none (s2 _ _ hp) hu3).symm
      have nt : t ≠ p := ne_of ht hp (by intro z; cases z)
      refine k _ ⟨dx, _, u3, upd_same.trans (congrArg (fun q => some (HO.ins a.c_Ledger dx q)) (lf_put_kept _ _ _)), ⟨t, rfl, ?_⟩, ?_⟩ (But.upd (But.thenS (But.thenS (But.refl p H) s2) (Same.new hu3)))
      · rw [upd_ne nt]
        exact Same.new hu3 _ _ (s2 _ _ ht)
      · rw [upd_ne np, upd_same, List.map_append]
        rfl
/-! ### 4. the pool of draws: any whole numbers; what is drawn lies in its bounds -/
def PoolAt (H : Hp) (l : Addr) : Prop := ∃ ns : List Int, H l = some (.lst (ns.map V.int)) ∧ ns.length ≤ 100
def spDraw : Sp := fun vs H Q _ => ∃ (l : Addr) (m : Int), vs = [.ref l, .int m] ∧ PoolAt H l ∧ 0 < m ∧ m < 1000 ∧ ∀ (d : Int) H', 0 ≤ d → d < m → PoolAt H' l → But l H H' → Q (.int d) H'
theorem G__law_draw (T : Tx K mg a) : FnOk P w K mg base CX0 1 a.f__law_draw a.d__law_draw ["pool", "many"] spDraw := by
  refine T.F__law_draw.ok sc__law_draw (fun vs H Q E h => ?_) (fun cdv A outer s H vs Q E hr h => ?_)
  · obtain ⟨l, m, rfl, _⟩ := h
    rfl
  · obtain ⟨l, m, rfl, ⟨ns, hl, hn⟩, h0, h1, k⟩ := h
    refine ⟨_, (pss_cons (ps_for PassesOwn.never rfl (pi_range1 rfl T.n_range (pa_cons (pe_callB call_len_seq (by rfl) T.n_len (by decide +kernel) (pa_cons (pv 0) pa_nil)) pa_nil)) (pg_name (i := 2) sc__law_draw.nd rfl (Or.inl rfl)) (pss_one (ps_if (pt_cmpR op_gt (pe_ix ix_list (pv 0) (pv 2) (fun _ _ => rfl)) pe_int (nomark _)) (pss_cons (ps_set (i := 3) sc__law_draw.nd rfl (Or.inl rfl) (pe_op op_modN (pe_callTy call_int1 (by rfl) T.n_int (by decide +kernel) (pa_cons (pe_ix ix_list (pv 0) (pv 2) (fun _ _ => rfl)) pa_nil)) (pv 1)))
      (pss_cons (ps_asg (pe_op op_fdivN (pe_ix ix_list (pv 0) (pv 2) (fun _ _ => rfl)) (pv 1)) (pg_sub (pv 0) (pv 2) set_list))
      (pss_one (ps_ret (pv 3))))) pss_nil)))
      (pss_one (ps_ret pe_int))), ?_⟩
    refine ⟨_, rfl, l, _, rfl, Or.inl (SqL.of hl), _, rfl, ?_, ?_, for_range (fun i σ H' => ∃ v, σ = [some (.ref l), some (.int m), v, none] ∧ H' = H) ⟨none, rfl, rfl⟩ ?_ ?_⟩
    · simp only [List.length_map]; omega
    · simp only [List.length_map]; omega
    · rintro i σ H' hi ⟨v, rfl, rfl⟩
      have hi' : i < ns.length := by simpa using hi
      obtain ⟨z, hz⟩ : ∃ z, ns[i]? = some z := ⟨_, List.getElem?_eq_getElem hi'⟩
      have hg : (ns.map V.int)[i]? = some (.int z) := by rw [List.getElem?_map, hz]; rfl
      have e0 : (0 : Int) + (i : Int) = (i : Int) := by omega
      refine ⟨_, rfl, _, rfl, l, _, _, _, rfl, rfl, SqL.of hl, at_of e0 hg, _, _, rfl, rfl, _, rfl, ?_⟩
      by_cases c : 0 < z
      · rw [decide_eq_true c]
        refine ⟨_, rfl, _, rfl, l, _, _, _, rfl, rfl, SqL.of hl, at_of e0 hg, Or.inl ⟨_, rfl, _, rfl, _, _, rfl, rfl, by omega, ?_⟩⟩
        refine ⟨_, rfl, _, rfl, l, _, _, _, rfl, rfl, SqL.of hl, at_of e0 hg, _, rfl, _, _, rfl, rfl, ⟨by omega, by omega⟩, ?_⟩
        refine ⟨_, rfl, _, rfl, l, _, _, i, rfl, rfl, hl, ?_, _, rfl, ?_⟩
        · rw [e0]
          exact Evl.ixN_nat (by rw [List.length_map]; exact hi')
        have e1 : z.fmod m = z % m := Int.fmod_eq_emod_of_nonneg _ (by omega)
        refine k _ _ (by rw [e1]; exact Int.emod_nonneg _ (by omega)) (by rw [e1]; exact Int.emod_lt_of_pos _ h0) ⟨ns.set i (z.fdiv m), ?_, by rw [List.length_set]; exact hn⟩ fun b o e nb => by rw [upd_ne nb]; exact e
        rw [upd_same, List.map_set]
      · rw [decide_eq_false c]
        exact ⟨_, rfl, rfl⟩
    · rintro σ H' ⟨v, rfl, rfl⟩
      exact k 0 _ (by omega) h0 ⟨ns, hl, hn⟩ (But.refl _ _)
end
end My

namespace My
open PySem L2
section
variable {P : Program} {w : World} {K : PySem.W.Frag} {mg : Str → Option Value} {base : Heap} {a : Ad}
theorem map_get {ns : List Int} {i : Nat} {y : V} (h : (ns.map V.int)[i]? = some y) : ∃ z, ns[i]? = some z ∧ y = .int z := by
  rw [List.getElem?_map] at h
  cases e : ns[i]? with
  | none => rw [e] at h; cases h
  | some z => rw [e] at h; exact ⟨z, rfl, (Option.some.inj h).symm⟩
theorem cut_ints (ns : List Int) (lo hi : Option Int) : ∃ ms : List Int, cutV (ns.map V.int) lo hi = ms.map V.int ∧ ms.length ≤ ns.length := by
  refine ⟨((ns.drop (HT.sIx ns.length 0 lo)).take (HT.sIx ns.length ns.length hi - HT.sIx ns.length 0 lo)), ?_, ?_⟩
  · unfold cutV
    simp only [List.length_map, List.map_take, List.map_drop]
  · simp only [List.length_take, List.length_drop]
    omega
def spPool (K : PySem.W.Frag) : Sp := fun vs H Q _ => ∃ (s : Addr) (ns : List Int), vs = [.ref s] ∧ SqL K H s (ns.map V.int) ∧ ns.length ≤ 63 ∧ ∀ (l : Addr) H', PoolAt H' l → H l = none → Same H H' → Q (.ref l) H'
theorem G__law_pool (T : Tx K mg a) : FnOk P w K mg base CX0 1 a.f__law_pool a.d__law_pool ["script"] (spPool K) := by
  refine T.F__law_pool.ok sc__law_pool (fun vs H Q E h => ?_) (fun cdv A outer s H vs Q E hr h => ?_)
  · obtain ⟨l, m, rfl, _⟩ := h
    rfl
  · obtain ⟨l, ns, rfl, hS, hn, k⟩ := h
    refine ⟨_, (pss_cons (ps_set (i := 1) sc__law_pool.nd rfl (Or.inl rfl) (pe_lst pa_nil))
      (pss_cons (ps_for PassesOwn.never rfl (pi_list (pe_lc (own := [("x", 3)]) (g := gName 3) (tt := tYes) rfl sc__law_pool.nd (pi_list (pe_slice sl_list (pv 0) po_none (po_some pe_int))) (blkOk_by (own := [("x", 3)]) (N := ["script", "pool", "cell", "x", "one", "k"]) (sc := defScope s__law_pool) (by decide +kernel)) (fun _ _ _ _ _ => pg_name (i := 3) sc__law_pool.nd rfl (Or.inl rfl)) (fun _ _ _ _ _ => pts_nil) (fun _ _ _ _ _ => (pe_op op_modN (pe_callTy call_int1 (by rfl) T.n_int (by decide +kernel) (pa_cons (pv 3) pa_nil)) (pe_op op_mulW (pe_op op_pow pe_int pe_int) (pe_op op_pow pe_int pe_int)))))) (pg_name (i := 2) sc__law_pool.nd rfl (Or.inl rfl)) (pss_cons (ps_set (i := 4) sc__law_pool.nd rfl (Or.inl rfl) (pe_op op_mul (pe_callTy call_int1 (by rfl) T.n_int (by decide +kernel) (pa_cons (pe_op op_add (pe_op op_add (pv 2) pe_int) (pe_callB call_len_seq (by rfl) T.n_len (by decide +kernel) (pa_cons (pv 1) pa_nil))) pa_nil)) pe_int))
      (pss_cons (ps_for PassesOwn.never rfl (pi_range1 rfl T.n_range (pa_cons (pe_op op_mul pe_int (pe_callTy call_int1 (by rfl) T.n_int (by decide +kernel) (pa_cons (pe_cmpR op_lt (pv 2) (pe_op op_pow pe_int pe_int) (nomark _)) pa_nil))) pa_nil)) (pg_name (i := 5) sc__law_pool.nd rfl (Or.inl rfl)) (pss_cons (ps_set (i := 4) sc__law_pool.nd rfl (Or.inl rfl) (pe_op op_modN (pe_callTy call_int1 (by rfl) T.n_int (by decide +kernel) (pa_cons (pe_op op_add (pe_op op_mul (pv 4) pe_int) pe_int) pa_nil)) pe_int))
      (pss_one (ps_set (i := 2) sc__law_pool.nd rfl (Or.inl rfl) (pe_op op_add (pe_op op_mul (pv 2) pe_int) (pv 4))))))
      (pss_one (ps_expr (pe_bm PySem.F.plainAttrs_list PySem.F.slot_list_append PySem.F.type_list_append mt_append (pv 1) (pa_cons (pv 2) pa_nil)))))))
      (pss_one (ps_ret (pe_op op_cat (pv 1) (pe_lst (pa_cons (pe_op op_add (pe_op op_modN (pe_callB call_len_seq (by rfl) T.n_len (by decide +kernel) (pa_cons (pv 0) pa_nil)) pe_int) pe_int) (pa_cons pe_int (pa_cons pe_int pa_nil))))))))), ?_⟩
    refine ⟨(by show 0 ≤ sizeLine; decide), fun pl hpl => ?_⟩
    have s1 : Same H (upd H pl (.lst [])) := Same.new hpl
    -- the comprehension over a slice
    obtain ⟨cs, ecs, hcs⟩ := cut_ints ns none (some 63)
    refine ⟨_, rfl, _, rfl, l, _, rfl, s1.seq hS, fun q hq => ?_⟩
    rw [ecs]
    have s2 : Same H (upd (upd H pl (.lst [])) q (.lst (cs.map V.int))) := s1.trans (Same.new hq)
    have nqp : q ≠ pl := (ne_of_none upd_same hq).symm
    have hpl2 : upd (upd H pl (.lst [])) q (.lst (cs.map V.int)) pl = some (.lst []) := (upd_ne nqp.symm).trans upd_same
    have hq2 : upd (upd H pl (.lst [])) q (.lst (cs.map V.int)) q = some (.lst (cs.map V.int)) := upd_same
    generalize upd (upd H pl (.lst [])) q (.lst (cs.map V.int)) = H2 at s2 hpl2 hq2
    refine ⟨q, rfl, ⟨_, SqL.of hq2⟩, fun D hD => lc_list (xs := cs.map V.int) (fun i H' => ∃ acc : List Int, H' D = some (.lst (acc.map V.int)) ∧ acc.length = i ∧ Same H2 H') ⟨[], upd_same, rfl, Same.new hD⟩ (fun i H' _ ⟨_, _, _, s⟩ => SqL.of (s _ _ hq2)) ?_ ?_⟩
    · rintro i x H' hx ⟨acc, e1, e2, e3⟩
      obtain ⟨z, hz, rfl⟩ := map_get hx
      have hi : i < cs.length := (List.getElem?_eq_some_iff.mp hz).1
      refine ⟨rfl, ?_⟩
      refine ⟨_, rfl, Or.inl ⟨_, rfl, _, _, rfl, rfl, ⟨by decide, by decide, by decide⟩, _, _, rfl, rfl, ⟨by decide, by decide, by decide⟩, _, _, rfl, rfl, ?_, _, _, rfl, rfl, ?_, ?_⟩⟩
      · exact wide_mul (a := 200) (b := 200) (by decide) (by decide) (by decide) (by decide) (by decide)
      · show ((10 : Int) ^ (Int.toNat 60) * 10 ^ (Int.toNat 60)) ≠ 0
        decide
      · refine ⟨_, e1, ?_, acc ++ [z.fmod (10 ^ Int.toNat 60 * 10 ^ Int.toNat 60)], ?_, ?_, fun b o e => ?_⟩
        · rw [List.length_map]
          exact small1000 (by omega)
        · rw [upd_same, List.map_append]
          rfl
        · simp [e2]
        · by_cases hb : b = D
          · rw [hb, hD] at e; cases e
          · rw [upd_ne hb]; exact e3 b o e
    · rintro H3 ⟨xs, e1, e2, e3⟩
      rw [List.length_map] at e2
      have s3 : Same H H3 := s2.trans e3
      have hpl3 := e3 _ _ hpl2
      have nDp : D ≠ pl := fun z => by rw [z, hpl2] at hD; cases hD
      refine ⟨D, rfl, ⟨_, SqL.of e1⟩, for_list (K := K) (a := D) (xs := xs.map V.int) (fun i σ H' => ∃ (acc : List Int) (v2 v4 v5 : Option V), σ = [some (.ref l), some (.ref pl), v2, none, v4, v5] ∧ H' pl = some (.lst (acc.map V.int)) ∧ acc.length = i ∧ But pl H3 H')
        ⟨[], none, none, none, rfl, hpl3, rfl, But.refl _ _⟩ (fun i σ H' _ ⟨_, _, _, _, _, _, _, b⟩ => SqL.of (b _ _ e1 nDp)) ?_ ?_⟩
      · rintro i y σ H' hy ⟨acc, v2, v4, v5, rfl, hacc, hlen, bt⟩
        obtain ⟨z, hz, rfl⟩ := map_get hy
        have hi : i < xs.length := (List.getElem?_eq_some_iff.mp hz).1
        refine ⟨_, rfl, _, _, rfl, rfl, _, rfl, pl, _, rfl, Or.inl (SqL.of hacc), _, _, rfl, rfl, Or.inl ⟨_, rfl, _, _, rfl, rfl, Or.inr ⟨by decide, by decide⟩, ?_⟩⟩
        refine ⟨_, rfl, _, _, rfl, rfl, ⟨by decide, by decide, by decide⟩, _, _, rfl, rfl, Or.inr ⟨_, rfl, _, _, rfl, rfl, Or.inl ⟨by decide, by decide⟩, _, rfl, ?_, ?_, for_range (fun i σ H'' => ∃ (c o : Int) (v : Option V), σ = [some (.ref l), some (.ref pl), some (.int c), none, some (.int o), v] ∧ H'' = H') ⟨_, _, _, rfl, rfl⟩ ?_ ?_⟩⟩
        · split <;> decide
        · split <;> decide
        · rintro j σ H'' _ ⟨c, o, v, rfl, rfl⟩
          refine ⟨_, rfl, _, _, rfl, rfl, Or.inr ⟨by decide, by decide⟩, _, _, rfl, rfl, Or.inl ⟨_, rfl, _, _, rfl, rfl, (by show (2147483629 : Int) ≠ 0; decide), ?_⟩⟩
          exact ⟨_, rfl, _, _, rfl, rfl, Or.inr ⟨by decide, by decide⟩, _, rfl, _, _, rfl, rfl, _, _, _, rfl, rfl⟩
        · rintro σ H'' ⟨c, o, v, rfl, rfl⟩
          refine ⟨_, rfl, Or.inl ⟨rfl, _, Or.inl (Or.inl hacc)⟩, _, rfl, pl, _, _, rfl, rfl, hacc, ?_, ?_⟩
          · rw [List.length_map]
            exact small1000 (by omega)
          · refine ⟨acc ++ [c], _, _, _, rfl, ?_, ?_, But.upd bt⟩
            · rw [upd_same, List.map_append]
              rfl
            · simp [hlen]
      · rintro σ H' ⟨acc, v2, v4, v5, rfl, hacc, hlen, bt⟩
        rw [List.length_map] at hlen
        have npl : ∀ b o, H b = some o → b ≠ pl := fun b o e z => by rw [z, hpl] at e; cases e
        have s4 : Same H H' := fun b o e => bt b o (s3 b o e) (npl b o e)
        refine ⟨_, rfl, _, rfl, l, _, rfl, Or.inl (s4.seq hS), _, _, rfl, rfl, (by show (64 : Int) ≠ 0; decide), _, _, rfl, rfl, ?_⟩
        refine ⟨by show 3 ≤ sizeLine; decide, fun r hr => ?_⟩
        refine ⟨pl, r, _, _, rfl, rfl, Same.new hr _ _ hacc, upd_same, ?_, fun t ht => ?_⟩
        · rw [List.length_map]
          exact Nat.le_trans (Nat.add_le_add_right (show acc.length ≤ 63 by omega) 3) (by decide)
        · have s5 := s4.trans (Same.new (o := .lst [.int (((ns.map V.int).length : Int).fmod 64 + 7), .int 5, .int 3]) hr)
          refine k t _ ⟨acc ++ [((ns.map V.int).length : Int).fmod 64 + 7, 5, 3], ?_, ?_⟩ (s5.free ht) (s5.trans (Same.new ht))
          · rw [upd_same, List.map_append]
            rfl
          · simp
            omega
end
end My

namespace My
open PySem L2
/-! ### 5. plain data and the law's own sameness -/
theorem ifT {c A B : Prop} [Decidable c] (hc : c) (h : A) : if decide c = true then A else B := by
  rw [decide_eq_true hc, if_pos rfl]
  exact h
theorem ifF {c A B : Prop} [Decidable c] (hc : ¬ c) (h : B) : if decide c = true then A else B := by
  rw [decide_eq_false hc, if_neg Bool.false_ne_true]
  exact h
inductive Dt where
  | non | int (i : Int) | str (s : Str) | tup (l : List Dt)
def Fl : V → Dt → Prop
  | v, .non => v = .non
  | v, .int i => v = .int i
  | v, .str s => v = .str s
  | _, .tup _ => False
/-- v is d, tuples at most n deep -/
def DAt (H : Hp) : Nat → V → Dt → Prop
  | 0, v, d => Fl v d
  | n + 1, v, d => Fl v d ∨ ∃ (t : Addr) (xs : List V) (l : List Dt), v = .ref t ∧ d = .tup l ∧ H t = some (.tup xs) ∧ xs.length = l.length ∧ xs.length ≤ 1000 ∧ ∀ (i : Nat) (x : V) (e : Dt), xs[i]? = some x → l[i]? = some e → DAt H n x e
theorem DAt.same {H H' : Hp} (s : ∀ t xs, H t = some (.tup xs) → H' t = some (.tup xs)) : ∀ {n : Nat} {v : V} {d : Dt}, DAt H n v d → DAt H' n v d
  | 0, _, _, h => h
  | n + 1, _, _, h => by
    rcases h with h | ⟨t, xs, l, e1, e2, e3, e4, e5, e6⟩
    · exact Or.inl h
    · exact Or.inr ⟨t, xs, l, e1, e2, s _ _ e3, e4, e5, fun i x e h1 h2 => DAt.same s (e6 i x e h1 h2)⟩
theorem DAt.two {H : Hp} {n : Nat} {v u : V} {d : Dt} (hv : DAt H n v d) (hu : DAt H n u d) : (Fl v d ∧ Fl u d) ∨ ∃ (m : Nat) (t r : Addr) (xs ys : List V) (l : List Dt), n = m + 1 ∧ v = .ref t ∧ u = .ref r ∧ H t = some (.tup xs) ∧ H r = some (.tup ys) ∧ xs.length = l.length ∧ ys.length = l.length ∧ l.length ≤ 1000 ∧
    (∀ (i : Nat) (x : V) (e : Dt), xs[i]? = some x → l[i]? = some e → DAt H m x e) ∧ (∀ (i : Nat) (x : V) (e : Dt), ys[i]? = some x → l[i]? = some e → DAt H m x e) := by
  cases n with
  | zero => exact Or.inl ⟨hv, hu⟩
  | succ m =>
    rcases hv with hv | ⟨t, xs, l, e1, e2, e3, e4, e5, e6⟩
    · rcases hu with hu | ⟨t, xs, l, e1, e2, e3, e4, e5, e6⟩
      · exact Or.inl ⟨hv, hu⟩
      · subst e2
        exact hv.elim
    · subst e2
      rcases hu with hu | ⟨r, ys, l', f1, f2, f3, f4, f5, f6⟩
      · exact hu.elim
      · cases f2
        exact Or.inr ⟨m, t, r, xs, ys, l, rfl, e1, f1, e3, f3, e4, f4, by omega, e6, f6⟩
theorem isi_rd {K : PySem.W.Frag} {H : Hp} {Q : VK} {x : V} (tn : String) {cn : String} (b : Bool) (ty : TyX K H x (.type tn)) (h : kitB tn cn = some b) (q : Q (.bl b) H) : rIsi K [x, .ty cn] H Q := ⟨x, .ty cn, _, _, b, rfl, .ty _, ty, kit_ty h, q⟩
def spSame (n : Nat) : Sp := fun vs H Q _ => ∃ v u d, vs = [v, u] ∧ DAt H n v d ∧ DAt H n u d ∧ ∀ H', Same H H' → Q (.bl true) H'
theorem all_true (n : Nat) : (List.replicate n true).all id = true := by
  induction n with
  | zero => rfl
  | succ n ih => exact ih
section
variable {P : Program} {w : World} {K : PySem.W.Frag} {mg : Str → Option Value} {base : Heap} {a : Ad}
theorem same_step (T : Tx K mg a) {n k : Nat} {sp' : Sp} (G : FnOk P w K mg base CX0 k a.f__law_same a.d__law_same ["told", "due"] sp')
    (hrec : ∀ (x y : V) (d : Dt) (H : Hp) (Q : VK) (E : XK) (m : Nat), n = m + 1 → DAt H m x d → DAt H m y d → (∀ H', Same H H' → Q (.bl true) H') → sp' [x, y] H Q E) :
    FnOk P w K mg base CX0 (k + 1) a.f__law_same a.d__law_same ["told", "due"] (spSame n) := by
  refine T.F__law_same.ok sc__law_same (fun vs H Q E h => ?_) (fun cdv A outer s H vs Q E hr h => ?_)
  · obtain ⟨v, u, d, rfl, _⟩ := h
    rfl
  · obtain ⟨v, u, d, rfl, hv, hu, k⟩ := h
    refine ⟨_, (pss_cons (ps_if (pt_cmpR op_isN (pv 1) pe_non (nomark _)) (pss_one (ps_ret (pe_cmpR op_isN (pv 0) pe_non (nomark _)))) pss_nil)
      (pss_cons (ps_if (pt_val (pe_callB call_isi (by rfl) T.n_isinstance (by decide +kernel) (pa_cons (pv 1) (pa_cons (pe_bltn (v := .ty "str") rfl T.n_str (by decide +kernel) rfl) pa_nil)))) (pss_one (ps_ret (pe_and (pe_callB call_isi (by rfl) T.n_isinstance (by decide +kernel) (pa_cons (pv 0) (pa_cons (pe_bltn (v := .ty "str") rfl T.n_str (by decide +kernel) rfl) pa_nil))) (pe_one (pe_cmpR op_eq (pv 0) (pv 1) (nomark _)))))) pss_nil)
      (pss_cons (ps_if (pt_val (pe_callB call_isi (by rfl) T.n_isinstance (by decide +kernel) (pa_cons (pv 1) (pa_cons (pe_bltn (v := .ty "int") rfl T.n_int (by decide +kernel) rfl) pa_nil)))) (pss_one (ps_ret (pe_and (pe_callB call_isi (by rfl) T.n_isinstance (by decide +kernel) (pa_cons (pv 0) (pa_cons (pe_bltn (v := .ty "int") rfl T.n_int (by decide +kernel) rfl) pa_nil))) (pe_and (pe_not (pe_callB call_isi (by rfl) T.n_isinstance (by decide +kernel) (pa_cons (pv 0) (pa_cons (pe_bltn (v := .ty "bool") rfl T.n_bool (by decide +kernel) rfl) pa_nil)))) (pe_one (pe_cmpR op_eq (pv 0) (pv 1) (nomark _))))))) pss_nil)
      (pss_cons (ps_if (pt_cmpR op_ne (pe_callB call_isi (by rfl) T.n_isinstance (by decide +kernel) (pa_cons (pv 1) (pa_cons (pe_bltn (v := .ty "tuple") rfl T.n_tuple (by decide +kernel) rfl) pa_nil))) (pe_callB call_isi (by rfl) T.n_isinstance (by decide +kernel) (pa_cons (pv 0) (pa_cons (pe_bltn (v := .ty "tuple") rfl T.n_tuple (by decide +kernel) rfl) pa_nil))) (nomark _)) (pss_one (ps_ret pe_bl)) pss_nil)
      (pss_cons (ps_if (PW.pt (pw_or (pt_cmpR op_ne (pe_callB call_isi (by rfl) T.n_isinstance (by decide +kernel) (pa_cons (pv 1) (pa_cons (pe_bltn (v := .ty "list") rfl T.n_list (by decide +kernel) rfl) pa_nil))) (pe_callB call_isi (by rfl) T.n_isinstance (by decide +kernel) (pa_cons (pv 0) (pa_cons (pe_bltn (v := .ty "list") rfl T.n_list (by decide +kernel) rfl) pa_nil))) (nomark _)) (pw_or1 (pt_cmpR op_ne (pe_callB call_len_seq (by rfl) T.n_len (by decide +kernel) (pa_cons (pv 0) pa_nil)) (pe_callB call_len_seq (by rfl) T.n_len (by decide +kernel) (pa_cons (pv 1) pa_nil)) (nomark _))))) (pss_one (ps_ret pe_bl)) pss_nil)
      (pss_one (ps_ret (pe_callB (cr_all rfl) (by rfl) T.n_all (by decide +kernel) (pa_cons (pe_lc (own := [("k", 2)]) (g := gName 2) (tt := tYes) rfl sc__law_same.nd (pi_range1 rfl T.n_range (pa_cons (pe_callB call_len_seq (by rfl) T.n_len (by decide +kernel) (pa_cons (pv 1) pa_nil)) pa_nil)) (blkOk_by (own := [("k", 2)]) (N := ["told", "due", "k"]) (sc := defScope s__law_same) (by decide +kernel)) (fun _ _ _ _ _ => pg_name (i := 2) sc__law_same.nd rfl (Or.inl rfl)) (fun _ _ _ _ _ => pts_nil) (fun _ _ _ _ _ => (pe_call G hr rfl T.g__law_same T.F__law_same.kp T.b__law_same .nil pass0 (pa_cons (pe_ix (ix_tupK K) (pv 0) (pv 2) (fun _ _ => rfl)) (pa_cons (pe_ix (ix_tupK K) (pv 1) (pv 2) (fun _ _ => rfl)) pa_nil))))) pa_nil))))))))), ?_⟩
    rcases DAt.two hv hu with ⟨fv, fu⟩ | ⟨m, t, r, xs, ys, l, en, e1, e2, e3, e4, e5, e6, e7, e8, e9⟩
    · revert hv hu
      intro _ _
      cases d with
      | non =>
        have e1 : v = .non := fv
        have e2 : u = .non := fu
        subst e1 e2
        refine ⟨_, rfl, rfl, _, rfl, ifT rfl ?_⟩
        exact ⟨_, rfl, rfl, k H (Same.refl H)⟩
      | int i =>
        have e1 : v = .int i := fv
        have e2 : u = .int i := fu
        subst e1 e2
        refine ⟨_, rfl, rfl, _, rfl, ifF (by intro z; cases z) ?_⟩
        refine ⟨_, rfl, _, _, _, _, false, rfl, .ty _, (.base (.int _)), kit_ty (by decide +kernel), _, rfl, iteF ?_⟩
        refine ⟨_, rfl, _, _, _, _, true, rfl, .ty _, (.base (.int _)), kit_ty (by decide +kernel), _, rfl, iteT ?_⟩
        refine ⟨_, rfl, _, _, _, _, true, rfl, .ty _, (.base (.int _)), kit_ty (by decide +kernel), _, rfl, iteT ?_⟩
        refine ⟨_, rfl, _, _, _, _, false, rfl, .ty _, (.base (.int _)), kit_ty (by decide +kernel), _, rfl, _, rfl, iteT ?_⟩
        refine ⟨_, rfl, _, rfl, rfl, ?_⟩
        have e : decide (V.int i = V.int i) = true := decide_eq_true rfl
        rw [e]
        exact k H (Same.refl H)
      | str x =>
        have e1 : v = .str x := fv
        have e2 : u = .str x := fu
        subst e1 e2
        refine ⟨_, rfl, rfl, _, rfl, ifF (by intro z; cases z) ?_⟩
        refine ⟨_, rfl, _, _, _, _, true, rfl, .ty _, (.base (.str _)), kit_ty (by decide +kernel), _, rfl, iteT ?_⟩
        refine ⟨_, rfl, _, _, _, _, true, rfl, .ty _, (.base (.str _)), kit_ty (by decide +kernel), _, rfl, iteT ?_⟩
        refine ⟨_, rfl, _, rfl, rfl, ?_⟩
        have e : decide (V.str x = V.str x) = true := decide_eq_true rfl
        rw [e]
        exact k H (Same.refl H)
      | tup l => exact fv.elim
    · subst e1 e2
      have ety : ∀ {H' : Hp} {t : Addr} {xs : List V}, H' t = some (.tup xs) → TyX K H' (.ref t) (.type "tuple") := fun h => .base (.tup h)
      refine ⟨_, rfl, rfl, _, rfl, ifF (by intro z; cases z) ?_⟩
      refine ⟨_, rfl, _, _, _, _, false, rfl, .ty _, (ety e4), kit_ty (by decide +kernel), _, rfl, iteF ?_⟩
      refine ⟨_, rfl, _, _, _, _, false, rfl, .ty _, (ety e4), kit_ty (by decide +kernel), _, rfl, iteF ?_⟩
      refine ⟨_, rfl, _, _, _, _, true, rfl, .ty _, (ety e4), kit_ty (by decide +kernel), _, rfl, _, _, _, _, true, rfl, .ty _, (ety e3), kit_ty (by decide +kernel), rfl, _, rfl, iteF ?_⟩
      refine ⟨_, rfl, _, _, _, _, false, rfl, .ty _, (ety e4), kit_ty (by decide +kernel), _, rfl, _, _, _, _, false, rfl, .ty _, (ety e3), kit_ty (by decide +kernel), rfl, _, rfl, iteF ?_⟩
      refine ⟨_, rfl, t, _, rfl, Or.inr (SqT.of e3), _, rfl, r, _, rfl, Or.inr (SqT.of e4), rfl, _, rfl, ?_⟩
      have el : decide (V.int (xs.length : Int) = V.int (ys.length : Int)) = true := decide_eq_true (by rw [e5, e6])
      rw [el]
      refine iteF ?_
      refine ⟨_, rfl, r, _, rfl, Or.inr (SqT.of e4), _, rfl, by omega, by omega, fun D hD => lc_range (fun i H' => H' D = some (.lst ((List.replicate i true).map V.bl)) ∧ Same H H') ⟨upd_same, Same.new hD⟩ ?_ ?_⟩
      · rintro i H' hi ⟨h1, h2⟩
        have hi' : i < l.length := by omega
        obtain ⟨x, hx⟩ : ∃ x, xs[i]? = some x := ⟨_, List.getElem?_eq_getElem (by omega)⟩
        obtain ⟨y, hy⟩ : ∃ y, ys[i]? = some y := ⟨_, List.getElem?_eq_getElem (by omega)⟩
        obtain ⟨e, he⟩ : ∃ e, l[i]? = some e := ⟨_, List.getElem?_eq_getElem hi'⟩
        have e0 : (0 : Int) + (i : Int) = (i : Int) := by omega
        refine ⟨rfl, ?_⟩
        refine ⟨_, rfl, _, rfl, t, _, _, _, rfl, rfl, SqT.of (h2 _ _ e3), at_of e0 hx, _, rfl, _, rfl, r, _, _, _, rfl, rfl, SqT.of (h2 _ _ e4), at_of e0 hy, ?_⟩
        refine hrec x y e H' _ _ m en ((e8 i x e hx he).same fun t xs h => h2 _ _ h) ((e9 i y e hy he).same fun t xs h => h2 _ _ h) fun H2 s2 => ?_
        refine ⟨_, s2 _ _ h1, ?_, ?_, fun b o e => ?_⟩
        · rw [List.length_map, List.length_replicate]
          exact small1000 (by omega)
        · rw [upd_same, List.replicate_succ', List.map_append]
          rfl
        · by_cases hb : b = D
          · rw [hb, hD] at e; cases e
          · rw [upd_ne hb]
            exact s2 _ _ (h2 _ _ e)
      · rintro H' ⟨h1, h2⟩
        refine ⟨D, _, rfl, SqL.of h1, ?_⟩
        rw [all_true]
        exact k H' h2
theorem same_at (T : Tx K mg a) : ∀ n : Nat, FnOk P w K mg base CX0 (n + 1) a.f__law_same a.d__law_same ["told", "due"] (spSame n)
  | 0 => same_step T (k := 0) fn_none fun x y d H Q E m e => by cases e
  | n + 1 => same_step T (same_at T n) fun x y d H Q E m e h1 h2 k => by
    cases e
    exact ⟨x, y, d, rfl, h1, h2, k⟩
/-- four deep is enough -/
theorem G__law_same (T : Tx K mg a) : FnOk P w K mg base CX0 6 a.f__law_same a.d__law_same ["told", "due"] (spSame 5) := same_at T 5
end
end My

namespace My
open PySem L2
/-! ### 6. the law's book -/
def bk (nv : V) (kl : Addr) : List (Key × V) := [(.inr "newest", nv), (.inr "kept", .ref kl)]
theorem key_nk : ¬ ((Sum.inr ("newest" : Str) : Key) = Sum.inr ("kept" : Str)) := fun z => ne_nk (Sum.inr.inj z)
theorem key_kn : ¬ ((Sum.inr ("kept" : Str) : Key) = Sum.inr ("newest" : Str)) := fun z => ne_kn (Sum.inr.inj z)
theorem get_newest {H : Hp} {b kl : Addr} {nv : V} (h : H b = some (.dK (bk nv kl))) : DGet H b (.str "newest") (some nv) := by
  have z := DGet.k (k := .inr "newest") h
  rwa [show valV (bk nv kl) (.inr "newest") = some nv from valV_pos rfl] at z
theorem get_kept {H : Hp} {b kl : Addr} {nv : V} (h : H b = some (.dK (bk nv kl))) : DGet H b (.str "kept") (some (.ref kl)) := by
  have z := DGet.k (k := .inr "kept") h
  rwa [show valV (bk nv kl) (.inr "kept") = some (.ref kl) from (valV_neg key_nk).trans (valV_pos rfl)] at z
theorem bk_put (nv w : V) (kl : Addr) : putK (bk nv kl) (.inr "newest") w = bk w kl := by
  simp [putK, bk, key_kn, ne_kn]
def BookAt (H : Hp) (b kl : Addr) (s : LS) : Prop := ∃ nv, H b = some (.dK (bk nv kl)) ∧ NwAt H nv s.1 ∧ H kl = some (.lst (s.2.map V.int))
theorem BookAt.same {H H' : Hp} {b kl : Addr} {s : LS} (h : BookAt H b kl s) (e : Same H H') : BookAt H' b kl s := by
  obtain ⟨nv, h1, h2, h3⟩ := h
  exact ⟨nv, e _ _ h1, h2.same fun t xs z => e _ _ z, e _ _ h3⟩
def ansV : An → List V
  | .rng s v => [.str "range", .str s, .int v]
  | .nn d c => [.str "not newer", .int d, .int c]
  | .tl v => [.str "told", v]
def act (o : Bool) : LS → Int → Int → An × LS := if o = true then opn else tel
def But2 (p q : Addr) (H H' : Hp) : Prop := ∀ b o, H b = some o → b ≠ p → b ≠ q → H' b = some o
def spDue : Sp := fun vs H Q _ => ∃ b kl s o d c, vs = [.ref b, .bl o, .int d, .int c] ∧ BookAt H b kl s ∧ s.2.length ≤ 1000 ∧
  ∀ t H', H' t = some (.tup (ansV (act o s d c).1)) → H t = none → BookAt H' b kl (act o s d c).2 → But2 b kl H H' → Q (.ref t) H'
def spCall (a : Ad) : Sp := fun vs H Q _ => ∃ p s o d c, vs = [.ref p, .bl o, .int d, .int c] ∧ LedAt a.c_Ledger H p s ∧ s.2.length ≤ 1000 ∧
  ∀ t H', H' t = some (.tup (ansV (act o s d c).1)) → H t = none → LedAt a.c_Ledger H' p (act o s d c).2 → But p H H' → Q (.ref t) H'
theorem act_bad (o : Bool) (s : LS) (d c : Int) : (¬ okD d → act o s d c = (.rng "due" d, s)) ∧ (okD d → ¬ okC c → act o s d c = (.rng "claim" c, s)) := by
  cases o with
  | true => exact opn_bad s d c
  | false => exact tel_bad s d c
section
variable {P : Program} {w : World} {K : PySem.W.Frag} {mg : Str → Option Value} {base : Heap} {a : Ad}
theorem G__law_due (T : Tx K mg a) : FnOk P w K mg base CX0 1 a.f__law_due a.d__law_due ["book", "opens", "due", "claim"] spDue := by
  refine T.F__law_due.ok sc__law_due (fun vs H Q E h => ?_) (fun cdv A outer s H vs Q E hr h => ?_)
  · obtain ⟨b, kl, s, o, d, c, rfl, _⟩ := h
    rfl
  · obtain ⟨b, kl, ⟨nw, kp⟩, o, d, c, rfl, hB, hz, k⟩ := h
    have hu := hu_of hr
    refine ⟨_, (pss_cons (ps_if (pt_not (pt_chain op_le op_le pe_int (pv 2) (pe_op op_pow pe_int pe_int))) (pss_one (ps_ret (pe_tup (pa_cons pe_str (pa_cons pe_str (pa_cons (pv 2) pa_nil)))))) pss_nil)
      (pss_cons (ps_if (pt_not (pt_chain op_le op_le pe_int (pv 3) pe_int)) (pss_one (ps_ret (pe_tup (pa_cons pe_str (pa_cons pe_str (pa_cons (pv 3) pa_nil)))))) pss_nil)
      (pss_cons (ps_set (i := 4) sc__law_due.nd rfl (Or.inl rfl) (pe_dget hu (pv 0) pe_str (fun _ _ => rfl)))
      (pss_cons (ps_if (PW.pt (pw_and (pt_val (pv 1)) (pw_and (pt_cmpR op_notN (pv 4) pe_non (nomark _)) (pw_and1 (pt_cmpR (op_leT hr.units0) (pe_tup (pa_cons (pv 2) (pa_cons (pv 3) pa_nil))) (pv 4) (nomark _)))))) (pss_one (ps_ret (pe_tup (pa_cons pe_str (pa_cons (pv 2) (pa_cons (pv 3) pa_nil)))))) pss_nil)
      (pss_cons (ps_if (pt_val (pv 1)) (pss_cons (ps_dput hu (pv 0) pe_str (pe_tup (pa_cons (pv 2) (pa_cons (pv 3) pa_nil))) rfl)
      (pss_one (ps_ret (pe_tup (pa_cons pe_str (pa_cons pe_non pa_nil)))))) pss_nil)
      (pss_cons (ps_if (PW.pt (pw_or (pt_cmpR op_isN (pv 4) pe_non (nomark _)) (pw_or1 (pt_cmpR (op_gtT hr.units0) (pe_tup (pa_cons (pv 2) (pa_cons (pv 3) pa_nil))) (pv 4) (nomark _))))) (pss_one (ps_ret (pe_tup (pa_cons pe_str (pa_cons pe_str pa_nil))))) pss_nil)
      (pss_cons (ps_if (pt_cmpR (op_ltT hr.units0) (pe_tup (pa_cons (pv 2) (pa_cons (pv 3) pa_nil))) (pv 4) (nomark _)) (pss_one (ps_ret (pe_tup (pa_cons pe_str (pa_cons pe_str pa_nil))))) pss_nil)
      (pss_cons (ps_if (pt_cmpR op_in_seq (pv 2) (pe_dget hu (pv 0) pe_str (fun _ _ => rfl)) (by rfl)) (pss_one (ps_ret (pe_tup (pa_cons pe_str (pa_cons pe_str pa_nil))))) pss_nil)
      (pss_cons (ps_expr (pe_bm PySem.F.plainAttrs_list PySem.F.slot_list_append PySem.F.type_list_append mt_append (pe_dget hu (pv 0) pe_str (fun _ _ => rfl)) (pa_cons (pv 2) pa_nil)))
      (pss_one (ps_ret (pe_tup (pa_cons pe_str (pa_cons pe_str pa_nil)))))))))))))), ?_⟩
    have bad : ∀ w x H1 t, act o (nw, kp) d c = (.rng w x, (nw, kp)) → Same H H1 → H1 t = none → Q (.ref t) (upd H1 t (.tup [.str "range", .str w, .int x])) := by
      intro w x H1 t e s1 ht
      refine k t _ ?_ (s1.free ht) ?_ fun b o e _ _ => Same.new ht _ _ (s1 _ _ e)
      · rw [e]; exact upd_same
      · rw [e]; exact hB.same (s1.trans (Same.new ht))
    refine ⟨_, rfl, _, _, rfl, rfl, _, rfl, ?_⟩
    by_cases c1 : 0 ≤ d
    case neg =>
      rw [decide_eq_false c1]
      refine ⟨_, rfl, ?_⟩
      exact ⟨_, rfl, (by show 3 ≤ sizeLine; decide), fun t ht => bad _ _ H t ((act_bad o _ _ _).1 fun z => c1 z.1) (Same.refl H) ht⟩
    rw [decide_eq_true c1]
    refine ⟨_, _, rfl, rfl, ⟨by decide, by decide, by decide⟩, _, _, rfl, rfl, _, rfl, ?_⟩
    by_cases c2 : d ≤ 10 ^ (Int.toNat 40)
    case neg =>
      rw [decide_eq_false c2]
      exact ⟨_, rfl, (by show 3 ≤ sizeLine; decide), fun t ht => bad _ _ H t ((act_bad o _ _ _).1 fun z => c2 z.2) (Same.refl H) ht⟩
    rw [decide_eq_true c2]
    have hD : okD d := ⟨c1, c2⟩
    refine ⟨_, rfl, _, _, rfl, rfl, _, rfl, ?_⟩
    by_cases c3 : 0 ≤ c
    case neg =>
      rw [decide_eq_false c3]
      refine ⟨_, rfl, ?_⟩
      exact ⟨_, rfl, (by show 3 ≤ sizeLine; decide), fun t ht => bad _ _ H t ((act_bad o _ _ _).2 hD fun z => c3 z.1) (Same.refl H) ht⟩
    rw [decide_eq_true c3]
    refine ⟨_, _, rfl, rfl, _, rfl, ?_⟩
    by_cases c4 : c ≤ 6
    case neg =>
      rw [decide_eq_false c4]
      exact ⟨_, rfl, (by show 3 ≤ sizeLine; decide), fun t ht => bad _ _ H t ((act_bad o _ _ _).2 hD fun z => c4 z.2) (Same.refl H) ht⟩
    rw [decide_eq_true c4]
    have hC : okC c := ⟨c3, c4⟩
    clear bad
    obtain ⟨nv, hb, hnw, hkl⟩ := hB
    refine ⟨_, rfl, b, _, rfl, get_newest hb, ?_⟩
    have same : ∀ H1, Same H H1 → BookAt H1 b kl (nw, kp) := fun H1 s1 => BookAt.same ⟨nv, hb, hnw, hkl⟩ s1
    cases o with
    | true =>
      have ke : act true = opn := rfl
      rw [ke, opn_ok hD hC] at k
      -- book['newest'] = (due, claim); return ('told', None)
      have fin : ∀ H1, Same H H1 → (∀ t H', H' t = some (.tup [.str "told", .non]) → H t = none → BookAt H' b kl (some (d, c), kp) → But2 b kl H H' → Q (.ref t) H') → ∀ u, H1 u = none →
          ∀ t, upd (upd H1 u (.tup [.int d, .int c])) b (.dK (putK (bk nv kl) (.inr "newest") (.ref u))) t = none → Q (.ref t) (upd (upd (upd H1 u (.tup [.int d, .int c])) b (.dK (putK (bk nv kl) (.inr "newest") (.ref u)))) t (.tup [.str "told", .non])) := by
        intro H1 s1 k u hu t ht
        have nub : u ≠ b := (ne_of_none (s1 _ _ hb) hu).symm
        have nkb : kl ≠ b := ne_of hkl hb (by intro z; cases z)
        have bt : But b H (upd (upd H1 u (.tup [.int d, .int c])) b (.dK (putK (bk nv kl) (.inr "newest") (.ref u)))) := But.upd (But.thenS (But.thenS (But.refl b H) s1) (Same.new hu))
        have ntb : t ≠ b := fun z => by rw [z, upd_same] at ht; cases ht
        have ht0 : H t = none := by
          cases e : H t with
          | none => rfl
          | some o => rw [bt _ _ e ntb] at ht; cases ht
        refine k t _ upd_same ht0 ⟨.ref u, ?_, ⟨u, rfl, ?_⟩, ?_⟩ fun x o e h1 _ => Same.new ht _ _ (bt _ _ e h1)
        · rw [upd_ne ntb.symm, upd_same, bk_put]
        · have e1 : upd (upd H1 u (.tup [.int d, .int c])) b (.dK (putK (bk nv kl) (.inr "newest") (.ref u))) u = some (.tup [.int d, .int c]) := (upd_ne nub).trans upd_same
          exact Same.new ht _ _ e1
        · exact Same.new ht _ _ (bt _ _ hkl nkb)
      refine ⟨_, rfl, _, rfl, iteT ?_⟩
      cases nw with
      | none =>
        have e : nv = .non := hnw
        subst e
        refine ⟨_, rfl, rfl, _, rfl, ?_⟩
        refine ⟨_, rfl, _, rfl, iteT ?_⟩
        refine ⟨_, rfl, _, rfl, (by show 2 ≤ sizeLine; decide), fun u hu => ⟨_, rfl, b, _, rfl, DPut.k (k := .inr "newest") (Same.new hu _ _ hb) (by show 2 < sizeLine; decide), (by show 2 ≤ sizeLine; decide), fun t ht => ?_⟩⟩
        exact fin H (Same.refl H) k u hu t ht
      | some q =>
        obtain ⟨t0, e, ht0⟩ := hnw
        subst e
        refine ⟨_, rfl, rfl, _, rfl, ?_⟩
        refine ⟨_, rfl, _, rfl, (by show 2 ≤ sizeLine; decide), fun u hu => ⟨_, rfl, u, t0, [d, c], [q.1, q.2], rfl, rfl, SqT.of upd_same, SqT.of (Same.new hu _ _ ht0), _, rfl, ?_⟩⟩
        rw [le2]
        dsimp only at k
        have s1 : Same H (upd H u (HO.tup [V.int d, V.int c])) := Same.new hu
        generalize upd H u (HO.tup [V.int d, V.int c]) = H1 at s1
        by_cases hc : d < q.1 ∨ (d = q.1 ∧ c ≤ q.2)
        · rw [if_pos hc] at k
          rw [decide_eq_true hc]
          refine ⟨_, rfl, _, rfl, (by show 3 ≤ sizeLine; decide), fun t ht => ?_⟩
          exact k t _ upd_same (s1.free ht) (same _ (s1.trans (Same.new ht))) fun x o e _ _ => Same.new ht _ _ (s1 _ _ e)
        · rw [if_neg hc] at k
          rw [decide_eq_false hc]
          refine ⟨_, rfl, _, rfl, iteT ?_⟩
          refine ⟨_, rfl, _, rfl, (by show 2 ≤ sizeLine; decide), fun u2 hu2 => ⟨_, rfl, b, _, rfl, DPut.k (k := .inr "newest") (Same.new hu2 _ _ (s1 _ _ hb)) (by show 2 < sizeLine; decide), (by show 2 ≤ sizeLine; decide), fun t ht => ?_⟩⟩
          exact fin H1 s1 k u2 hu2 t ht
    | false =>
      have ke : act false = tel := rfl
      rw [ke, tel_ok hD hC] at k
      have told : ∀ H1 (x : V), Same H H1 → (∀ t H', H' t = some (.tup [.str "told", x]) → H t = none → BookAt H' b kl (nw, kp) → But2 b kl H H' → Q (.ref t) H') → ∀ t, H1 t = none → Q (.ref t) (upd H1 t (.tup [.str "told", x])) :=
        fun H1 x s1 k t ht => k t _ upd_same (s1.free ht) (same _ (s1.trans (Same.new ht))) fun x o e _ _ => Same.new ht _ _ (s1 _ _ e)
      refine ⟨_, rfl, _, rfl, iteF ?_⟩
      refine ⟨_, rfl, _, rfl, iteF ?_⟩
      cases nw with
      | none =>
        have e : nv = .non := hnw
        subst e
        refine ⟨_, rfl, rfl, _, rfl, ifT rfl ?_⟩
        exact ⟨(by show 2 ≤ sizeLine; decide), fun t ht => told H _ (Same.refl H) k t ht⟩
      | some q =>
        obtain ⟨t0, e, ht0⟩ := hnw
        subst e
        dsimp only at k
        refine ⟨_, rfl, rfl, _, rfl, ifF (by intro z; cases z) ?_⟩
        refine ⟨_, rfl, _, rfl, (by show 2 ≤ sizeLine; decide), fun u hu => ⟨_, rfl, u, t0, [d, c], [q.1, q.2], rfl, rfl, SqT.of upd_same, SqT.of (Same.new hu _ _ ht0), _, rfl, ?_⟩⟩
        rw [gt2]
        have s1 : Same H (upd H u (HO.tup [V.int d, V.int c])) := Same.new hu
        generalize upd H u (HO.tup [V.int d, V.int c]) = H1 at s1
        by_cases hc : q.1 < d ∨ (d = q.1 ∧ q.2 < c)
        · rw [if_pos hc] at k
          rw [decide_eq_true hc]
          exact ⟨(by show 2 ≤ sizeLine; decide), fun t ht => told H1 _ s1 k t ht⟩
        rw [if_neg hc] at k
        rw [decide_eq_false hc]
        refine ⟨_, rfl, _, rfl, (by show 2 ≤ sizeLine; decide), fun u2 hu2 => ⟨_, rfl, u2, t0, [d, c], [q.1, q.2], rfl, rfl, SqT.of upd_same, SqT.of (Same.new hu2 _ _ (s1 _ _ ht0)), _, rfl, ?_⟩⟩
        rw [lt2]
        have s2 : Same H (upd H1 u2 (HO.tup [V.int d, V.int c])) := s1.trans (Same.new hu2)
        generalize upd H1 u2 (HO.tup [V.int d, V.int c]) = H2 at s2
        by_cases hc2 : d < q.1 ∨ (d = q.1 ∧ c < q.2)
        · rw [if_pos hc2] at k
          rw [decide_eq_true hc2]
          exact ⟨(by show 2 ≤ sizeLine; decide), fun t ht => told H2 _ s2 k t ht⟩
        rw [if_neg hc2] at k
        rw [decide_eq_false hc2]
        refine ⟨_, rfl, _, rfl, b, _, rfl, get_kept (s2 _ _ hb), kl, _, rfl, Or.inl (SqL.of (s2 _ _ hkl)), rfl, flat_ints _, _, rfl, ?_⟩
        show (if (inV (.int d) (kp.map V.int)) = true then _ else _)
        rw [inV_ints]
        by_cases hc3 : d ∈ kp
        · rw [if_pos hc3] at k
          rw [decide_eq_true hc3]
          exact ⟨(by show 2 ≤ sizeLine; decide), fun t ht => told H2 _ s2 k t ht⟩
        rw [if_neg hc3] at k
        rw [decide_eq_false hc3]
        have hz' : kp.length ≤ 1000 := hz
        refine ⟨_, rfl, b, _, rfl, get_kept (s2 _ _ hb), Or.inl ⟨rfl, _, Or.inl (Or.inl (s2 _ _ hkl))⟩, _, rfl, kl, _, _, rfl, rfl, s2 _ _ hkl, ?_, ?_⟩
        · rw [List.length_map]
          exact small1000 hz'
        refine ⟨(by show 2 ≤ sizeLine; decide), fun t ht => ?_⟩
        have bt : But kl H (upd H2 kl (.lst (kp.map V.int ++ [.int d]))) := But.upd (But.thenS (But.refl kl H) s2)
        have nbk : b ≠ kl := ne_of hb hkl (by intro z; cases z)
        have n0 : t0 ≠ kl := ne_of ht0 hkl (by intro z; cases z)
        have ntk : t ≠ kl := fun z => by rw [z, upd_same] at ht; cases ht
        have htn : H t = none := by
          cases e : H t with
          | none => rfl
          | some o => rw [bt _ _ e ntk] at ht; cases ht
        refine k t _ upd_same htn ⟨_, Same.new ht _ _ (bt _ _ hb nbk), ⟨t0, rfl, Same.new ht _ _ (bt _ _ ht0 n0)⟩, ?_⟩ fun x o e _ h2 => Same.new ht _ _ (bt _ _ e h2)
        rw [upd_ne ntk.symm, upd_same, List.map_append]
        rfl
end
end My

namespace My
open PySem L2
theorem look2a {f g : Str} (v w : V) : List.lookup f [(f, v), (g, w)] = some v := by simp [List.lookup]
theorem look2b {f g : Str} (v w : V) (h : ¬ g = f) : List.lookup g [(f, v), (g, w)] = some w := by
  have e : (g == f) = false := by simpa using h
  simp [List.lookup, e]
theorem ne_wv : ¬ (("what" : Str) = "value") := by decide +kernel
theorem ne_dc : ¬ (("due" : Str) = "claim") := by decide +kernel
section
variable {P : Program} {w : World} {K : PySem.W.Frag} {mg : Str → Option Value} {base : Heap} {a : Ad}
theorem G__law_call (T : Tx K mg a) : FnOk P w K mg base CX0 6 a.f__law_call a.d__law_call ["ledger", "opens", "due", "claim"] (spCall a) := by
  refine T.F__law_call.ok sc__law_call (fun vs H Q E h => ?_) (fun cdv A outer s H vs Q E hr h => ?_)
  · obtain ⟨b, s, o, d, c, rfl, _⟩ := h
    rfl
  · obtain ⟨p, s, o, d, c, rfl, hL, hz, k⟩ := h
    have hu := hu_of hr
    refine ⟨_, (pss_one (ps_try_as (i := 4) rfl rfl sc__law_call.nd rfl rfl ⟨rfl, by decide, Or.inl T.g_DueError⟩ takes0
      (fun W pn xe tk _ => (pss_cons (ps_if (pt_val (pv 1)) (pss_one (ps_ret (pe_tup (pa_cons pe_str (pa_cons (pe_methSS (pv 0) T.cl_Ledger T.m_Ledger_opened (G_Ledger_opened T) (hr.mono (by decide)) T.b_Ledger_opened (fun σ => passAt tk σ) (by exact (pa_cons (pv 2) (pa_cons (pv 3) pa_nil)))) pa_nil))))) pss_nil)
      (pss_one (ps_ret (pe_tup (pa_cons pe_str (pa_cons (pe_methSS (pv 0) T.cl_Ledger T.m_Ledger_tell (G_Ledger_tell T) (hr.mono (by decide)) T.b_Ledger_tell (fun σ => passAt tk σ) (by exact (pa_cons (pv 2) (pa_cons (pv 3) pa_nil)))) pa_nil)))))))
      (fun xa oe cls xd pn hz hf => (pss_cons (ps_if (PW.pt (pw_and (pt_val (pe_callB (call_isX hz hf) (by rfl) T.n_isinstance (by decide +kernel) (pa_cons (pv 4) (pa_cons (pe_glob (v := .ref a.c_OutOfRange) rfl T.g_OutOfRange rfl) pa_nil)))) (pw_and1 (pt_not (pt_val (pe_callB (call_isX hz hf) (by rfl) T.n_isinstance (by decide +kernel) (pa_cons (pv 4) (pa_cons (pe_glob (v := .ref a.c_NotNewer) rfl T.g_NotNewer rfl) pa_nil)))))))) (pss_one (ps_ret (pe_tup (pa_cons pe_str (pa_cons (pe_xf T.xf_OutOfRange T.no_OutOfRange_what hz hf (pv 4)) (pa_cons (pe_xf T.xf_OutOfRange T.no_OutOfRange_value hz hf (pv 4)) pa_nil)))))) pss_nil)
      (pss_cons (ps_if (PW.pt (pw_and (pt_val (pe_callB (call_isX hz hf) (by rfl) T.n_isinstance (by decide +kernel) (pa_cons (pv 4) (pa_cons (pe_glob (v := .ref a.c_NotNewer) rfl T.g_NotNewer rfl) pa_nil)))) (pw_and (pt_not (pt_val (pe_callB (call_isX hz hf) (by rfl) T.n_isinstance (by decide +kernel) (pa_cons (pv 4) (pa_cons (pe_glob (v := .ref a.c_OutOfRange) rfl T.g_OutOfRange rfl) pa_nil))))) (pw_and1 (pt_val (pe_callB (call_isX hz hf) (by rfl) T.n_isinstance (by decide +kernel) (pa_cons (pv 4) (pa_cons (pe_bltn (v := .ty "ValueError") rfl T.n_ValueError (by decide +kernel) rfl) pa_nil)))))))) (pss_one (ps_ret (pe_tup (pa_cons pe_str (pa_cons (pe_xf T.xf_NotNewer T.no_NotNewer_due hz hf (pv 4)) (pa_cons (pe_xf T.xf_NotNewer T.no_NotNewer_claim hz hf (pv 4)) pa_nil)))))) pss_nil)
      (pss_one (ps_ret (pe_tup (pa_cons pe_str pa_nil))))))))), ?_⟩
    obtain ⟨dx, nv, kt, hp, hnw, hkt⟩ := id hL
    refine ⟨_, rfl, _, rfl, ?_⟩
    have done : ∀ H', LedAt a.c_Ledger H' p (act o s d c).2 → But p H H' → ∀ t H2, Same H' H2 → H' t = none → H2 t = some (.tup (ansV (act o s d c).1)) → Q (.ref t) H2 := by
      intro H' h1 h2 t H2 h3 h4 h5
      have htp : t ≠ p := fun z => by
        obtain ⟨_, _, _, e, _⟩ := h1
        rw [z, e] at h4; cases h4
      refine k t H2 h5 ?_ (h1.same h3) (But.thenS h2 h3)
      cases e : H t with
      | none => rfl
      | some o => rw [h2 _ _ e htp] at h4; cases h4
    cases o with
    | true =>
      refine iteT ?_
      refine ⟨_, rfl, p, dx, _, rfl, hp, lf_no _ _ (by decide +kernel) (by decide +kernel), _, rfl, _, rfl, ?_⟩
      refine ⟨p, s, d, c, rfl, hL, hz, fun H' h1 h2 => ?_⟩
      have dn := done H' h1 h2
      clear done
      have ea : act true s d c = opn s d c := rfl
      rw [ea] at dn
      cases ean : (opn s d c).1 with
      | tl v =>
        rw [ean] at dn
        exact ⟨(by show 2 ≤ sizeLine; decide), fun t ht => dn t _ (Same.new ht) ht upd_same⟩
      | rng w v =>
        rw [ean] at dn
        intro dd H2 hd s2
        refine ⟨true, T.exm_OutOfRange_DueError, fun _ a0 _ => ?_, fun q => Bool.noConfusion q⟩
        refine ⟨_, rfl, _, dd, _, _, _, true, rfl, T.xc_OutOfRange, rfl, hd, rfl, .own _, T.kit_OutOfRange_OutOfRange, _, rfl, iteT ?_⟩
        refine ⟨_, rfl, _, dd, _, _, _, false, rfl, T.xc_OutOfRange, rfl, hd, rfl, .own _, T.kit_OutOfRange_NotNewer, _, rfl, ?_⟩
        refine ⟨_, rfl, rfl, rfl, dd, _, .str w, rfl, hd, look2b _ _ ne_wv, _, rfl, rfl, rfl, dd, _, .int v, rfl, hd, look2a _ _, (by show 3 ≤ sizeLine; decide), fun t ht => ?_⟩
        exact dn t _ (s2.trans (Same.new ht)) (s2.free ht) upd_same
      | nn x y =>
        rw [ean] at dn
        intro dd H2 hd s2
        refine ⟨true, T.exm_NotNewer_DueError, fun _ a0 _ => ?_, fun q => Bool.noConfusion q⟩
        refine ⟨_, rfl, _, dd, _, _, _, false, rfl, T.xc_NotNewer, rfl, hd, rfl, .own _, T.kit_NotNewer_OutOfRange, _, rfl, iteF ?_⟩
        refine ⟨_, rfl, _, dd, _, _, _, true, rfl, T.xc_NotNewer, rfl, hd, rfl, .own _, T.kit_NotNewer_NotNewer, _, rfl, iteT ?_⟩
        refine ⟨_, rfl, _, dd, _, _, _, false, rfl, T.xc_NotNewer, rfl, hd, rfl, .own _, T.kit_NotNewer_OutOfRange, _, rfl, iteT ?_⟩
        refine ⟨_, rfl, _, dd, _, _, _, true, rfl, T.xc_NotNewer, rfl, hd, rfl, .ty _, T.kitV_NotNewer, _, rfl, ?_⟩
        refine ⟨_, rfl, rfl, rfl, dd, _, .int x, rfl, hd, look2b _ _ ne_dc, _, rfl, rfl, rfl, dd, _, .int y, rfl, hd, look2a _ _, (by show 3 ≤ sizeLine; decide), fun t ht => ?_⟩
        exact dn t _ (s2.trans (Same.new ht)) (s2.free ht) upd_same
    | false =>
      refine iteF ?_
      refine ⟨_, rfl, p, dx, _, rfl, hp, lf_no _ _ (by decide +kernel) (by decide +kernel), _, rfl, _, rfl, ?_⟩
      refine ⟨p, s, d, c, rfl, hL, hz, fun H' h1 h2 => ?_⟩
      have dn := done H' h1 h2
      clear done
      have ea : act false s d c = tel s d c := rfl
      rw [ea] at dn
      cases ean : (tel s d c).1 with
      | tl v =>
        rw [ean] at dn
        exact ⟨(by show 2 ≤ sizeLine; decide), fun t ht => dn t _ (Same.new ht) ht upd_same⟩
      | rng w v =>
        rw [ean] at dn
        intro dd H2 hd s2
        refine ⟨true, T.exm_OutOfRange_DueError, fun _ a0 _ => ?_, fun q => Bool.noConfusion q⟩
        refine ⟨_, rfl, _, dd, _, _, _, true, rfl, T.xc_OutOfRange, rfl, hd, rfl, .own _, T.kit_OutOfRange_OutOfRange, _, rfl, iteT ?_⟩
        refine ⟨_, rfl, _, dd, _, _, _, false, rfl, T.xc_OutOfRange, rfl, hd, rfl, .own _, T.kit_OutOfRange_NotNewer, _, rfl, ?_⟩
        refine ⟨_, rfl, rfl, rfl, dd, _, .str w, rfl, hd, look2b _ _ ne_wv, _, rfl, rfl, rfl, dd, _, .int v, rfl, hd, look2a _ _, (by show 3 ≤ sizeLine; decide), fun t ht => ?_⟩
        exact dn t _ (s2.trans (Same.new ht)) (s2.free ht) upd_same
      | nn x y =>
        rw [ean] at dn
        intro dd H2 hd s2
        refine ⟨true, T.exm_NotNewer_DueError, fun _ a0 _ => ?_, fun q => Bool.noConfusion q⟩
        refine ⟨_, rfl, _, dd, _, _, _, false, rfl, T.xc_NotNewer, rfl, hd, rfl, .own _, T.kit_NotNewer_OutOfRange, _, rfl, iteF ?_⟩
        refine ⟨_, rfl, _, dd, _, _, _, true, rfl, T.xc_NotNewer, rfl, hd, rfl, .own _, T.kit_NotNewer_NotNewer, _, rfl, iteT ?_⟩
        refine ⟨_, rfl, _, dd, _, _, _, false, rfl, T.xc_NotNewer, rfl, hd, rfl, .own _, T.kit_NotNewer_OutOfRange, _, rfl, iteT ?_⟩
        refine ⟨_, rfl, _, dd, _, _, _, true, rfl, T.xc_NotNewer, rfl, hd, rfl, .ty _, T.kitV_NotNewer, _, rfl, ?_⟩
        refine ⟨_, rfl, rfl, rfl, dd, _, .int x, rfl, hd, look2b _ _ ne_dc, _, rfl, rfl, rfl, dd, _, .int y, rfl, hd, look2a _ _, (by show 3 ≤ sizeLine; decide), fun t ht => ?_⟩
        exact dn t _ (s2.trans (Same.new ht)) (s2.free ht) upd_same
end
end My

namespace My
open PySem L2
theorem at_ints {ns : List Int} {d : Int} (h0 : 0 ≤ d) (h1 : d < ns.length) : ∃ v, atI (ns.map V.int) d = some (.int v) := by
  obtain ⟨j, rfl⟩ : ∃ j : Nat, d = (j : Int) := ⟨d.toNat, by omega⟩
  have hj : j < ns.length := by omega
  exact ⟨ns[j], atI_nat (by rw [List.getElem?_map, List.getElem?_eq_getElem hj]; rfl)⟩
theorem PoolAt.same {H H' : Hp} {l : Addr} (h : PoolAt H l) (s : Same H H') : PoolAt H' l := by
  obtain ⟨ns, h1, h2⟩ := h
  exact ⟨ns, s _ _ h1, h2⟩
theorem But.trans {p : Addr} {H H1 H2 : Hp} (a : But p H H1) (b : But p H1 H2) : But p H H2 := fun c o h n => b c o (a c o h n) n
theorem But.free {p t : Addr} {H H1 : Hp} (a : But p H H1) (h : H1 t = none) (n : t ≠ p) : H t = none := by
  cases e : H t with
  | none => rfl
  | some o => rw [a _ _ e n] at h; cases h
theorem st_if {σ : St} {H : Hp} {c : TT} {t1 t2 : TS} {D : Ends} {b : Bool} (h : Ans c σ H b) (q1 : b = true → t1 D σ H) (q2 : b = false → t2 D σ H) : tIfS c t1 t2 D σ H := by
  cases b with
  | true => exact st_yes h (q1 rfl)
  | false => exact st_no h (q2 rfl)
theorem ans_eqI {σ : St} {H : Hp} {ta tb : TE} {x y : Int} (ha : Val ta σ H (.int x)) (hb : Val tb σ H (.int y)) : Ans (tTest (tOp rEq ta tb)) σ H (decide (x = y)) :=
  ans_eq ha hb rfl (decide_eq_decide.mpr ⟨fun z => V.int.inj z, fun z => congrArg V.int z⟩)
theorem ans_I {σ : St} {H : Hp} {ta tb : TE} {x y : Int} {g : Int → Int → Bool} (ha : Val ta σ H (.int x)) (hb : Val tb σ H (.int y)) : Ans (tTest (tOp (rI0 fun i j => .bl (g i j)) ta tb)) σ H (g x y) :=
  ans_cmp ha hb fun _ q => ⟨x, y, rfl, rfl, q⟩
/-! ### 7. plain data of what stands in the heap -/
def nwD : Option (Int × Int) → Dt
  | none => .non
  | some q => .tup [.int q.1, .int q.2]
theorem DAt.fl {H : Hp} {n : Nat} {v : V} {d : Dt} (h : Fl v d) : DAt H n v d := by
  cases n with
  | zero => exact h
  | succ n => exact Or.inl h
theorem DAt.pair {H : Hp} {n : Nat} {t : Addr} {x y : V} {d e : Dt} (h : H t = some (.tup [x, y])) (hx : DAt H n x d) (hy : DAt H n y e) : DAt H (n + 1) (.ref t) (.tup [d, e]) := by
  refine Or.inr ⟨t, _, _, rfl, rfl, h, rfl, (by show 2 ≤ 1000; decide), fun i z f h1 h2 => ?_⟩
  match i, h1, h2 with
  | 0, h1, h2 => cases h1; cases h2; exact hx
  | 1, h1, h2 => cases h1; cases h2; exact hy
  | i + 2, h1, h2 => simp at h1
theorem DAt.nw {H : Hp} {n : Nat} {v : V} {q : Option (Int × Int)} (h : NwAt H v q) : DAt H (n + 1) v (nwD q) := by
  cases q with
  | none => exact DAt.fl h
  | some q =>
    obtain ⟨t, e, ht⟩ := h
    subst e
    exact DAt.pair ht (DAt.fl rfl) (DAt.fl rfl)
theorem DAt.flats {H : Hp} {n : Nat} {t : Addr} {xs : List V} (f : V → Dt) (hf : ∀ x ∈ xs, Fl x (f x)) (h : H t = some (.tup xs)) (hl : xs.length ≤ 1000) : DAt H (n + 1) (.ref t) (.tup (xs.map f)) := by
  refine Or.inr ⟨t, _, _, rfl, rfl, h, by rw [List.length_map], hl, fun i z g h1 h2 => ?_⟩
  rw [List.getElem?_map, h1] at h2
  cases h2
  exact DAt.fl (hf z (List.mem_of_getElem? h1))
def toD : V → Dt
  | .int i => .int i
  | .str s => .str s
  | _ => .non
theorem fl_ints (ks : List Int) : ∀ x ∈ ks.map V.int, Fl x (toD x) := by
  intro x hx
  obtain ⟨k, _, rfl⟩ := List.mem_map.mp hx
  rfl
theorem fl_ans (o : Bool) (s : LS) (d c : Int) : ∀ x ∈ ansV (act o s d c).1, Fl x (toD x) := by
  have key : ∀ an : An, (∀ v, an = .tl v → Fl v (toD v)) → ∀ x ∈ ansV an, Fl x (toD x) := by
    intro an h x hx
    cases an with
    | rng w v =>
      simp only [ansV, List.mem_cons, List.not_mem_nil, or_false] at hx
      rcases hx with rfl | rfl | rfl <;> rfl
    | nn p q =>
      simp only [ansV, List.mem_cons, List.not_mem_nil, or_false] at hx
      rcases hx with rfl | rfl | rfl <;> rfl
    | tl v =>
      simp only [ansV, List.mem_cons, List.not_mem_nil, or_false] at hx
      rcases hx with rfl | rfl
      · rfl
      · exact h _ rfl
  refine key _ fun v hv => ?_
  cases o with
  | true =>
    change (opn s d c).1 = _ at hv
    unfold opn at hv
    repeat' split at hv
    all_goals first | (cases hv; rfl) | cases hv
  | false =>
    change (tel s d c).1 = _ at hv
    unfold tel at hv
    repeat' split at hv
    all_goals first | (cases hv; rfl) | cases hv
theorem ans_len (an : An) : (ansV an).length ≤ 1000 := by cases an <;> simp [ansV]
/-! ### 8. what stays so: rising dues, none above the newest one -/
structure Good (s : LS) : Prop where
  inc : ∀ (i : Nat) (x y : Int), s.2[i]? = some x → s.2[i + 1]? = some y → x < y
  top : ∀ x ∈ s.2, ∃ q, s.1 = some q ∧ x ≤ q.1
theorem good0 : Good (none, []) := ⟨fun i x y h => by simp at h, fun x h => by cases h⟩
theorem good_act (o : Bool) {s : LS} (g : Good s) (d c : Int) : Good (act o s d c).2 := by
  obtain ⟨nw, kp⟩ := s
  cases o with
  | true =>
    show Good (opn (nw, kp) d c).2
    unfold opn
    by_cases h1 : okD d
    case neg => rw [if_pos h1]; exact g
    rw [if_neg (fun z => z h1)]
    by_cases h2 : okC c
    case neg => rw [if_pos h2]; exact g
    rw [if_neg (fun z => z h2)]
    cases nw with
    | none =>
      refine ⟨g.inc, fun x hx => ?_⟩
      obtain ⟨q, e, _⟩ := g.top x hx
      cases e
    | some q =>
      dsimp only
      by_cases h : d < q.1 ∨ (d = q.1 ∧ c ≤ q.2)
      · rw [if_pos h]; exact g
      · rw [if_neg h]
        refine ⟨g.inc, fun x hx => ?_⟩
        obtain ⟨q', e, hq⟩ := g.top x hx
        cases e
        exact ⟨(d, c), rfl, by show x ≤ d; omega⟩
  | false =>
    show Good (tel (nw, kp) d c).2
    unfold tel
    by_cases h1 : okD d
    case neg => rw [if_pos h1]; exact g
    rw [if_neg (fun z => z h1)]
    by_cases h2 : okC c
    case neg => rw [if_pos h2]; exact g
    rw [if_neg (fun z => z h2)]
    cases nw with
    | none => exact g
    | some q =>
      dsimp only
      by_cases h : q.1 < d ∨ (d = q.1 ∧ q.2 < c)
      · rw [if_pos h]; exact g
      rw [if_neg h]
      by_cases h' : d < q.1 ∨ (d = q.1 ∧ c < q.2)
      · rw [if_pos h']; exact g
      rw [if_neg h']
      by_cases h3 : d ∈ kp
      · rw [if_pos h3]; exact g
      rw [if_neg h3]
      have ed : d = q.1 := by omega
      refine ⟨fun i x y hx hy => ?_, fun x hx => ?_⟩
      · dsimp only at hx hy
        by_cases hi : i + 1 < kp.length
        · rw [List.getElem?_append_left hi] at hy
          rw [List.getElem?_append_left (by omega)] at hx
          exact g.inc i x y hx hy
        · have hl : i + 1 < (kp ++ [d]).length := (List.getElem?_eq_some_iff.mp hy).1
          rw [List.length_append] at hl
          have hl' : i + 1 = kp.length := by
            have : ([d] : List Int).length = 1 := rfl
            omega
          rw [List.getElem?_append_right (by omega), show i + 1 - kp.length = 0 by omega] at hy
          cases hy
          rw [List.getElem?_append_left (by omega)] at hx
          have hm := List.mem_of_getElem? hx
          obtain ⟨q', e, hq⟩ := g.top x hm
          cases e
          have : x ≠ d := fun z => h3 (by rw [← z]; exact hm)
          omega
      · dsimp only at hx
        rcases List.mem_append.mp hx with hx | hx
        · exact g.top x hx
        · have : x = d := by simpa using hx
          exact ⟨q, rfl, by omega⟩
theorem len_act (o : Bool) (s : LS) (d c : Int) : s.2.length ≤ (act o s d c).2.2.length ∧ (act o s d c).2.2.length ≤ s.2.length + 1 := by
  cases o with
  | true =>
    show _ ≤ (opn s d c).2.2.length ∧ (opn s d c).2.2.length ≤ _
    unfold opn
    repeat' split
    all_goals exact ⟨Nat.le_refl _, Nat.le_succ _⟩
  | false =>
    show _ ≤ (tel s d c).2.2.length ∧ (tel s d c).2.2.length ≤ _
    unfold tel
    repeat' split
    all_goals first | exact ⟨Nat.le_refl _, Nat.le_succ _⟩ | (simp)
section
variable {P : Program} {w : World} {K : PySem.W.Frag} {mg : Str → Option Value} {base : Heap} {a : Ad}
def spStands (a : Ad) : Sp := fun vs H Q _ => ∃ p b kl s, vs = [.ref p, .ref b] ∧ LedAt a.c_Ledger H p s ∧ BookAt H b kl s ∧ Good s ∧ s.2.length ≤ 900 ∧ ∀ H', Same H H' → Q (.bl true) H'
theorem G__law_stands (T : Tx K mg a) : FnOk P w K mg base CX0 7 a.f__law_stands a.d__law_stands ["ledger", "book"] (spStands a) := by
  refine T.F__law_stands.ok sc__law_stands (fun vs H Q E h => ?_) (fun cdv A outer s H vs Q E hr h => ?_)
  · obtain ⟨p, b, kl, s, rfl, _⟩ := h
    rfl
  · obtain ⟨p, b, kl, ⟨nw, kp⟩, rfl, ⟨dx, nv, kt, hp, hnw, hkt⟩, ⟨nv', hb, hnw', hkl⟩, g, hz, k⟩ := h
    have hu := hu_of hr
    have hz' : kp.length ≤ 900 := hz
    refine ⟨_, (pss_cons (ps_set (i := 2) sc__law_stands.nd rfl (Or.inr rfl) (pe_callTy call_tuple_of (by rfl) T.n_tuple (by decide +kernel) (pa_cons (pe_dget hu (pv 1) pe_str (fun _ _ => rfl)) pa_nil)))
      (pss_cons (ps_if (pt_not (pt_val (pe_call (G__law_same T) (hr.mono (by decide)) rfl T.g__law_same T.F__law_same.kp T.b__law_same .nil pass0 (pa_cons (pe_tup (pa_cons (pe_fld (pv 0) rfl) (pa_cons (pe_fld (pv 0) rfl) pa_nil))) (pa_cons (pe_tup (pa_cons (pe_dget hu (pv 1) pe_str (fun _ _ => rfl)) (pa_cons (pv 2) pa_nil))) pa_nil))))) (pss_one (ps_ret pe_bl)) pss_nil)
      (pss_one (ps_ret (pe_callB (cr_all rfl) (by rfl) T.n_all (by decide +kernel) (pa_cons (pe_lc (own := [("k", 3)]) (g := gName 3) (tt := tYes) rfl sc__law_stands.nd (pi_range2 rfl T.n_range (pa_cons pe_int (pa_cons (pe_callB call_len_seq (by rfl) T.n_len (by decide +kernel) (pa_cons (pv 2) pa_nil)) pa_nil))) (blkOk_by (own := [("k", 3)]) (N := ["ledger", "book", "kept", "k"]) (sc := defScope s__law_stands) (by decide +kernel)) (fun _ _ _ _ _ => pg_name (i := 3) sc__law_stands.nd rfl (Or.inl rfl)) (fun _ _ _ _ _ => pts_nil) (fun _ _ _ _ _ => (pe_cmpR op_lt (pe_ix (ix_tupK K) (pv 2) (pe_op op_sub (pv 3) pe_int) (fun _ _ => rfl)) (pe_ix (ix_tupK K) (pv 2) (pv 3) (fun _ _ => rfl)) (nomark _)))) pa_nil)))))), ?_⟩
    refine ⟨_, rfl, b, _, rfl, get_kept hb, kl, _, rfl, Or.inl ⟨SqL.of hkl, fun l hl => ?_⟩⟩
    have s1 : Same H (upd H l (.tup (kp.map V.int))) := Same.new hl
    have h1 : upd H l (.tup (kp.map V.int)) l = some (.tup (kp.map V.int)) := upd_same
    generalize upd H l (.tup (kp.map V.int)) = H1 at s1 h1
    refine ⟨_, rfl, p, _, dx, _, _, rfl, s1 _ _ hp, T.cl_Ledger, T.no_Ledger_newest, lf_newest _ _, _, rfl, p, _, dx, _, _, rfl, s1 _ _ hp, T.cl_Ledger, T.no_Ledger_kept, lf_kept _ _, (by show 2 ≤ sizeLine; decide), fun t1 ht1 => ?_⟩
    have s2 : Same H (upd H1 t1 (.tup [nv, .ref kt])) := s1.trans (Same.new ht1)
    have h2 : upd H1 t1 (.tup [nv, .ref kt]) t1 = some (.tup [nv, .ref kt]) := upd_same
    have h2' := Same.new (o := .tup [nv, .ref kt]) ht1 _ _ h1
    generalize upd H1 t1 (.tup [nv, .ref kt]) = H2 at s2 h2 h2'
    refine ⟨_, rfl, b, _, rfl, get_newest (s2 _ _ hb), _, rfl, (by show 2 ≤ sizeLine; decide), fun t2 ht2 => ?_⟩
    have s3 : Same H (upd H2 t2 (.tup [nv', .ref l])) := s2.trans (Same.new ht2)
    have h3 : upd H2 t2 (.tup [nv', .ref l]) t2 = some (.tup [nv', .ref l]) := upd_same
    have h3' := Same.new (o := .tup [nv', .ref l]) ht2 _ _ h2
    have h3'' := Same.new (o := .tup [nv', .ref l]) ht2 _ _ h2'
    generalize upd H2 t2 (.tup [nv', .ref l]) = H3 at s3 h3 h3' h3''
    refine ⟨.ref t1, .ref t2, .tup [nwD nw, .tup ((kp.map V.int).map toD)], rfl, ?_, ?_, fun H4 s4 => ?_⟩
    · exact DAt.pair h3' (DAt.nw (hnw.same fun t xs z => s3 _ _ z)) (DAt.flats toD (fl_ints kp) (s3 _ _ hkt) (by rw [List.length_map]; omega))
    · exact DAt.pair h3 (DAt.nw (hnw'.same fun t xs z => s3 _ _ z)) (DAt.flats toD (fl_ints kp) h3'' (by rw [List.length_map]; omega))
    refine ⟨_, rfl, iteF ?_⟩
    have h4 := s4 _ _ h3''
    refine ⟨_, rfl, l, _, rfl, Or.inr (SqT.of h4), _, _, rfl, ⟨by omega, by omega, by omega, by rw [List.length_map]; omega⟩, fun D hD => lc_range (fun i H' => H' D = some (.lst ((List.replicate i true).map V.bl)) ∧ Same H4 H') ⟨upd_same, Same.new hD⟩ ?_ ?_⟩
    · rintro i H' hi ⟨f1, f2⟩
      rw [List.length_map] at hi
      obtain ⟨x, hx⟩ : ∃ x, kp[i]? = some x := ⟨_, List.getElem?_eq_getElem (by omega)⟩
      obtain ⟨y, hy⟩ : ∃ y, kp[i + 1]? = some y := ⟨_, List.getElem?_eq_getElem (by omega)⟩
      have e0 : (1 : Int) + (i : Int) - 1 = (i : Int) := by omega
      have e1 : (1 : Int) + (i : Int) = ((i + 1 : Nat) : Int) := by omega
      refine ⟨rfl, ?_⟩
      refine ⟨_, rfl, _, rfl, _, _, rfl, rfl, l, _, _, _, rfl, rfl, SqT.of (f2 _ _ h4), at_of e0 (by rw [List.getElem?_map, hx]; rfl), _, rfl, _, rfl, l, _, _, _, rfl, rfl, SqT.of (f2 _ _ h4), at_of e1 (by rw [List.getElem?_map, hy]; rfl), _, _, rfl, rfl, ?_⟩
      have lt : x < y := g.inc i x y hx hy
      dsimp only
      rw [decide_eq_true lt]
      refine ⟨_, f1, ?_, ?_, fun b o e => ?_⟩
      · rw [List.length_map, List.length_replicate]
        exact small1000 (by omega)
      · rw [upd_same, List.replicate_succ', List.map_append]
        rfl
      · by_cases hb : b = D
        · rw [hb, hD] at e; cases e
        · rw [upd_ne hb]
          exact f2 _ _ e
    · rintro H' ⟨f1, f2⟩
      refine ⟨D, _, rfl, SqL.of f1, ?_⟩
      rw [all_true]
      exact k H' ((s3.trans s4).trans f2)
def spNum : Sp := fun vs H Q _ => ∃ pl v q low, vs = [.ref pl, v, .int low] ∧ PoolAt H pl ∧ NwAt H v q ∧ ∀ t d c H', H' t = some (.tup [.int d, .int c]) → H t = none → PoolAt H' pl → But pl H H' → Q (.ref t) H'
theorem G__law_number (T : Tx K mg a) : FnOk P w K mg base CX0 2 a.f__law_number a.d__law_number ["pool", "now", "low"] spNum := by
  refine T.F__law_number.ok sc__law_number (fun vs H Q E h => ?_) (fun cdv A outer s H vs Q E hr h => ?_)
  · obtain ⟨pl, v, q, low, rfl, _⟩ := h
    rfl
  · obtain ⟨pl, v, q, low, rfl, hP, hq, k⟩ := h
    refine ⟨_, (pss_cons (ps_set (i := 3) sc__law_number.nd rfl (Or.inl rfl) (pv 2))
      (pss_cons (ps_set (i := 4) sc__law_number.nd rfl (Or.inl rfl) pe_int)
      (pss_cons (ps_set (i := 5) sc__law_number.nd rfl (Or.inl rfl) (pe_ix ix_list (pe_lst (pa_cons pe_int (pa_cons pe_int (pa_cons pe_int (pa_cons (pe_op op_pow pe_int pe_int) pa_nil))))) (pe_call (G__law_draw T) (hr.mono (by decide)) rfl T.g__law_draw T.F__law_draw.kp T.b__law_draw .nil pass0 (pa_cons (pv 0) (pa_cons pe_int pa_nil))) (fun _ _ => rfl)))
      (pss_cons (ps_if (pt_cmpR op_notN (pv 1) pe_non (nomark _)) (pss_one (ps_asg (pv 1) (pg_tup rfl (pgs_cons (pg_name (i := 3) sc__law_number.nd rfl (Or.inl rfl)) (pgs_cons (pg_name (i := 4) sc__law_number.nd rfl (Or.inl rfl)) pgs_nil))))) pss_nil)
      (pss_cons (ps_set (i := 6) sc__law_number.nd rfl (Or.inl rfl) (pe_call (G__law_draw T) (hr.mono (by decide)) rfl T.g__law_draw T.F__law_draw.kp T.b__law_draw .nil pass0 (pa_cons (pv 0) (pa_cons pe_int pa_nil))))
      (pss_cons (ps_if (PW.pt (pw_and (pt_cmpR op_eq (pv 6) pe_int (nomark _)) (pw_and1 (pt_cmpR op_lt (pv 4) pe_int (nomark _))))) (pss_one (ps_ret (pe_tup (pa_cons (pv 3) (pa_cons (pe_op op_add (pv 4) pe_int) pa_nil))))) pss_nil)
      (pss_cons (ps_if (pt_cmpR op_eq (pv 6) pe_int (nomark _)) (pss_one (ps_ret (pe_tup (pa_cons (pv 3) (pa_cons (pv 4) pa_nil))))) pss_nil)
      (pss_cons (ps_if (PW.pt (pw_and (pt_cmpR op_eq (pv 6) pe_int (nomark _)) (pw_and1 (pt_cmpR op_gt (pv 4) pe_int (nomark _))))) (pss_one (ps_ret (pe_tup (pa_cons (pv 3) (pa_cons (pe_op op_sub (pv 4) pe_int) pa_nil))))) pss_nil)
      (pss_cons (ps_if (pt_cmpR op_eq (pv 6) pe_int (nomark _)) (pss_one (ps_ret (pe_tup (pa_cons (pe_op op_sub (pv 3) (pv 5)) (pa_cons pe_int pa_nil))))) pss_nil)
      (pss_cons (ps_if (pt_cmpR op_eq (pv 6) pe_int (nomark _)) (pss_one (ps_ret (pe_tup (pa_cons (pe_op op_add (pv 2) (pe_call (G__law_draw T) (hr.mono (by decide)) rfl T.g__law_draw T.F__law_draw.kp T.b__law_draw .nil pass0 (pa_cons (pv 0) (pa_cons pe_int pa_nil)))) (pa_cons (pe_call (G__law_draw T) (hr.mono (by decide)) rfl T.g__law_draw T.F__law_draw.kp T.b__law_draw .nil pass0 (pa_cons (pv 0) (pa_cons pe_int pa_nil))) pa_nil))))) pss_nil)
      (pss_cons (ps_if (pt_cmpR op_eq (pv 6) pe_int (nomark _)) (pss_cons (ps_set (i := 7) sc__law_number.nd rfl (Or.inl rfl) (pe_call (G__law_draw T) (hr.mono (by decide)) rfl T.g__law_draw T.F__law_draw.kp T.b__law_draw .nil pass0 (pa_cons (pv 0) (pa_cons pe_int pa_nil))))
      (pss_cons (ps_set (i := 3) sc__law_number.nd rfl (Or.inl rfl) (pe_ix ix_list (pe_lst (pa_cons (pe_op op_sub (pe_un un_neg pe_int) (pv 7)) (pa_cons (pe_op op_add (pe_op op_add (pe_op op_pow pe_int pe_int) pe_int) (pv 7)) (pa_cons (pv 3) pa_nil)))) (pe_call (G__law_draw T) (hr.mono (by decide)) rfl T.g__law_draw T.F__law_draw.kp T.b__law_draw .nil pass0 (pa_cons (pv 0) (pa_cons pe_int pa_nil))) (fun _ _ => rfl)))
      (pss_one (ps_ret (pe_tup (pa_cons (pv 3) (pa_cons (pe_ix ix_list (pe_lst (pa_cons (pv 4) (pa_cons (pe_un un_neg pe_int) (pa_cons pe_int pa_nil)))) (pe_call (G__law_draw T) (hr.mono (by decide)) rfl T.g__law_draw T.F__law_draw.kp T.b__law_draw .nil pass0 (pa_cons (pv 0) (pa_cons pe_int pa_nil))) (fun _ _ => rfl)) pa_nil))))))) pss_nil)
      (pss_one (ps_ret (pe_tup (pa_cons (pe_op op_add (pv 3) (pv 5)) (pa_cons (pe_call (G__law_draw T) (hr.mono (by decide)) rfl T.g__law_draw T.F__law_draw.kp T.b__law_draw .nil pass0 (pa_cons (pv 0) (pa_cons pe_int pa_nil))) pa_nil)))))))))))))))), ?_⟩
    obtain ⟨ns0, hpl, _⟩ := id hP
    have ret : ∀ H1 (d c : Int), But pl H H1 → PoolAt H1 pl → ∀ t, H1 t = none → Q (.ref t) (upd H1 t (.tup [.int d, .int c])) := by
      intro H1 d c b1 p1 t ht
      obtain ⟨ns, e, _⟩ := id p1
      exact k t d c _ upd_same (b1.free ht (ne_of_none e ht).symm) (p1.same (Same.new ht)) (But.thenS b1 (Same.new ht))
    refine ⟨_, rfl, ?_⟩
    -- gap
    refine ⟨_, _, rfl, rfl, ⟨by decide, by decide, by decide⟩, (by show 4 ≤ sizeLine; decide), fun g hg => ?_⟩
    have ngp : g ≠ pl := (ne_of_none hpl hg).symm
    refine ⟨_, rfl, pl, 4, rfl, hP.same (Same.new hg), by decide, by decide, fun d1 H1 d10 d11 hP1 b1 => ?_⟩
    obtain ⟨gap, hgap⟩ := at_ints (ns := [1, 2, 5, 10 ^ Int.toNat 39]) d10 d11
    refine ⟨g, _, _, _, rfl, rfl, SqL.of (b1 _ _ upd_same ngp), hgap, ?_⟩
    have b1' : But pl H H1 := But.same (Same.new hg) b1
    clear b1
    -- due, claim
    have two : But pl H H1 ∧ PoolAt H1 pl := ⟨b1', hP1⟩
    have hq1 : NwAt H1 v q := hq.same fun t xs z => b1' _ _ z (ne_of z hpl (by intro z; cases z))
    cases q with
    | none =>
      have e : v = .non := hq1
      subst e
      refine ⟨_, rfl, rfl, _, rfl, ?_⟩
      refine iteF ?_
      refine ⟨_, rfl, pl, 7, rfl, hP1, by decide, by decide, fun mode H2 m0 m1 hP2 b2 => ?_⟩
      have b2' := b1'.trans b2
      refine st_if (ans_and2 (ans_eqI (val_var rfl) val_c) (ans_I (val_var rfl) val_c)) (fun _ => ?_) (fun _ => ?_)
      · exact ⟨_, rfl, _, rfl, _, _, rfl, rfl, (by show 2 ≤ sizeLine; decide), fun t ht => ret H2 _ _ b2' hP2 t ht⟩
      refine st_if (ans_eqI (val_var rfl) val_c) (fun _ => ?_) (fun _ => ?_)
      · exact ⟨_, rfl, _, rfl, (by show 2 ≤ sizeLine; decide), fun t ht => ret H2 _ _ b2' hP2 t ht⟩
      refine st_if (ans_and2 (ans_eqI (val_var rfl) val_c) (ans_I (val_var rfl) val_c)) (fun _ => ?_) (fun _ => ?_)
      · exact ⟨_, rfl, _, rfl, _, _, rfl, rfl, (by show 2 ≤ sizeLine; decide), fun t ht => ret H2 _ _ b2' hP2 t ht⟩
      refine st_if (ans_eqI (val_var rfl) val_c) (fun _ => ?_) (fun _ => ?_)
      · exact ⟨_, rfl, _, rfl, _, _, rfl, rfl, (by show 2 ≤ sizeLine; decide), fun t ht => ret H2 _ _ b2' hP2 t ht⟩
      refine st_if (ans_eqI (val_var rfl) val_c) (fun _ => ?_) (fun _ => ?_)
      · refine ⟨_, rfl, _, rfl, pl, 9, rfl, hP2, by decide, by decide, fun x H3 _ _ hP3 b3 => ?_⟩
        refine ⟨_, _, rfl, rfl, _, rfl, pl, 7, rfl, hP3, by decide, by decide, fun y H4 _ _ hP4 b4 => ?_⟩
        exact ⟨(by show 2 ≤ sizeLine; decide), fun t ht => ret H4 _ _ ((b2'.trans b3).trans b4) hP4 t ht⟩
      refine st_if (ans_eqI (val_var rfl) val_c) (fun _ => ?_) (fun _ => ?_)
      · refine ⟨_, rfl, pl, 3, rfl, hP2, by decide, by decide, fun x H3 _ _ hP3 b3 => ?_⟩
        obtain ⟨ns3, hp3, _⟩ := id hP3
        refine ⟨_, rfl, _, rfl, _, _, rfl, rfl, _, _, rfl, rfl, ⟨by decide, by decide, by decide⟩, _, _, rfl, rfl, _, rfl, _, _, rfl, rfl, _, rfl, (by show 3 ≤ sizeLine; decide), fun g2 hg2 => ?_⟩
        have n2 : g2 ≠ pl := (ne_of_none hp3 hg2).symm
        refine ⟨_, rfl, pl, 3, rfl, hP3.same (Same.new hg2), by decide, by decide, fun d2 H4 d20 d21 hP4 b4 => ?_⟩
        obtain ⟨due2, hdue2⟩ := at_ints (ns := [_, _, _]) d20 d21
        refine ⟨g2, _, _, _, rfl, rfl, SqL.of (b4 _ _ upd_same n2), hdue2, ?_⟩
        have b4' := (b2'.trans b3).trans (But.same (Same.new hg2) b4)
        obtain ⟨ns4, hp4, _⟩ := id hP4
        refine ⟨_, rfl, _, rfl, _, rfl, (by show 3 ≤ sizeLine; decide), fun g3 hg3 => ?_⟩
        have n3 : g3 ≠ pl := (ne_of_none hp4 hg3).symm
        refine ⟨_, rfl, pl, 3, rfl, hP4.same (Same.new hg3), by decide, by decide, fun d3 H5 d30 d31 hP5 b5 => ?_⟩
        obtain ⟨c2, hc2⟩ := at_ints (ns := [_, _, _]) d30 d31
        refine ⟨g3, _, _, _, rfl, rfl, SqL.of (b5 _ _ upd_same n3), hc2, ?_⟩
        exact ⟨(by show 2 ≤ sizeLine; decide), fun t ht => ret H5 _ _ (b4'.trans (But.same (Same.new hg3) b5)) hP5 t ht⟩
      refine ⟨_, rfl, _, rfl, _, _, rfl, rfl, _, rfl, pl, 7, rfl, hP2, by decide, by decide, fun y H3 _ _ hP3 b3 => ?_⟩
      exact ⟨(by show 2 ≤ sizeLine; decide), fun t ht => ret H3 _ _ (b2'.trans b3) hP3 t ht⟩
    | some q =>
      obtain ⟨t0, e, ht0⟩ := hq1
      subst e
      refine ⟨_, rfl, rfl, _, rfl, ?_⟩
      refine iteT ?_
      refine ⟨_, rfl, t0, _, rfl, SqT.of ht0, rfl, _, _, rfl, _, _, rfl, rfl, ?_⟩
      refine ⟨_, rfl, pl, 7, rfl, hP1, by decide, by decide, fun mode H2 m0 m1 hP2 b2 => ?_⟩
      have b2' := b1'.trans b2
      refine st_if (ans_and2 (ans_eqI (val_var rfl) val_c) (ans_I (val_var rfl) val_c)) (fun _ => ?_) (fun _ => ?_)
      · exact ⟨_, rfl, _, rfl, _, _, rfl, rfl, (by show 2 ≤ sizeLine; decide), fun t ht => ret H2 _ _ b2' hP2 t ht⟩
      refine st_if (ans_eqI (val_var rfl) val_c) (fun _ => ?_) (fun _ => ?_)
      · exact ⟨_, rfl, _, rfl, (by show 2 ≤ sizeLine; decide), fun t ht => ret H2 _ _ b2' hP2 t ht⟩
      refine st_if (ans_and2 (ans_eqI (val_var rfl) val_c) (ans_I (val_var rfl) val_c)) (fun _ => ?_) (fun _ => ?_)
      · exact ⟨_, rfl, _, rfl, _, _, rfl, rfl, (by show 2 ≤ sizeLine; decide), fun t ht => ret H2 _ _ b2' hP2 t ht⟩
      refine st_if (ans_eqI (val_var rfl) val_c) (fun _ => ?_) (fun _ => ?_)
      · exact ⟨_, rfl, _, rfl, _, _, rfl, rfl, (by show 2 ≤ sizeLine; decide), fun t ht => ret H2 _ _ b2' hP2 t ht⟩
      refine st_if (ans_eqI (val_var rfl) val_c) (fun _ => ?_) (fun _ => ?_)
      · refine ⟨_, rfl, _, rfl, pl, 9, rfl, hP2, by decide, by decide, fun x H3 _ _ hP3 b3 => ?_⟩
        refine ⟨_, _, rfl, rfl, _, rfl, pl, 7, rfl, hP3, by decide, by decide, fun y H4 _ _ hP4 b4 => ?_⟩
        exact ⟨(by show 2 ≤ sizeLine; decide), fun t ht => ret H4 _ _ ((b2'.trans b3).trans b4) hP4 t ht⟩
      refine st_if (ans_eqI (val_var rfl) val_c) (fun _ => ?_) (fun _ => ?_)
      · refine ⟨_, rfl, pl, 3, rfl, hP2, by decide, by decide, fun x H3 _ _ hP3 b3 => ?_⟩
        obtain ⟨ns3, hp3, _⟩ := id hP3
        refine ⟨_, rfl, _, rfl, _, _, rfl, rfl, _, _, rfl, rfl, ⟨by decide, by decide, by decide⟩, _, _, rfl, rfl, _, rfl, _, _, rfl, rfl, _, rfl, (by show 3 ≤ sizeLine; decide), fun g2 hg2 => ?_⟩
        have n2 : g2 ≠ pl := (ne_of_none hp3 hg2).symm
        refine ⟨_, rfl, pl, 3, rfl, hP3.same (Same.new hg2), by decide, by decide, fun d2 H4 d20 d21 hP4 b4 => ?_⟩
        obtain ⟨due2, hdue2⟩ := at_ints (ns := [_, _, _]) d20 d21
        refine ⟨g2, _, _, _, rfl, rfl, SqL.of (b4 _ _ upd_same n2), hdue2, ?_⟩
        have b4' := (b2'.trans b3).trans (But.same (Same.new hg2) b4)
        obtain ⟨ns4, hp4, _⟩ := id hP4
        refine ⟨_, rfl, _, rfl, _, rfl, (by show 3 ≤ sizeLine; decide), fun g3 hg3 => ?_⟩
        have n3 : g3 ≠ pl := (ne_of_none hp4 hg3).symm
        refine ⟨_, rfl, pl, 3, rfl, hP4.same (Same.new hg3), by decide, by decide, fun d3 H5 d30 d31 hP5 b5 => ?_⟩
        obtain ⟨c2, hc2⟩ := at_ints (ns := [_, _, _]) d30 d31
        refine ⟨g3, _, _, _, rfl, rfl, SqL.of (b5 _ _ upd_same n3), hc2, ?_⟩
        exact ⟨(by show 2 ≤ sizeLine; decide), fun t ht => ret H5 _ _ (b4'.trans (But.same (Same.new hg3) b5)) hP5 t ht⟩
      refine ⟨_, rfl, _, rfl, _, _, rfl, rfl, _, rfl, pl, 7, rfl, hP2, by decide, by decide, fun y H3 _ _ hP3 b3 => ?_⟩
      exact ⟨(by show 2 ≤ sizeLine; decide), fun t ht => ret H3 _ _ (b2'.trans b3) hP3 t ht⟩
end
end My

namespace My
open PySem L2
/-! ### 9. both ledgers and both books -/
structure Wd (a : Ad) (H : Hp) (pL bL : Addr) (p b k : Bool → Addr) (s : Bool → LS) : Prop where
  lL : H pL = some (.lst [.ref (p false), .ref (p true)])
  lB : H bL = some (.lst [.ref (b false), .ref (b true)])
  led : ∀ i, LedAt a.c_Ledger H (p i) (s i)
  bok : ∀ i, BookAt H (b i) (k i) (s i)
  np : p false ≠ p true
  nb : b false ≠ b true
  nk : k false ≠ k true
  gd : ∀ i, Good (s i)
def idx (i : Bool) : Int := if i = true then 1 else 0
theorem ne_bool {f : Bool → Addr} (h : f false ≠ f true) {i j : Bool} (n : j ≠ i) : f j ≠ f i := by
  cases i <;> cases j
  · exact absurd rfl n
  · exact h.symm
  · exact h
  · exact absurd rfl n
/-- what is none of the ledgers, books, lists of kept dues -/
def Off (p b k : Bool → Addr) (x : Addr) : Prop := ∀ j, x ≠ p j ∧ x ≠ b j ∧ x ≠ k j
section
variable {a : Ad} {H H' : Hp} {pL bL : Addr} {p b k : Bool → Addr} {s : Bool → LS}
theorem Wd.tup (W : Wd a H pL bL p b k s) {t : Addr} {xs : List V} (h : H t = some (.tup xs)) : Off p b k t := fun j => by
  obtain ⟨dx, nv, kt, h1, _⟩ := W.led j
  obtain ⟨nv', h2, _, h3⟩ := W.bok j
  exact ⟨ne_of h h1 (by intro z; cases z), ne_of h h2 (by intro z; cases z), ne_of h h3 (by intro z; cases z)⟩
theorem refs_ne {xs : List V} {q : Addr} {ks : List Int} : HO.lst (.ref q :: xs) ≠ HO.lst (ks.map V.int) := by
  intro z
  cases ks with
  | nil => cases z
  | cons k ks => cases z
theorem Wd.refs (W : Wd a H pL bL p b k s) {t q : Addr} {xs : List V} (h : H t = some (.lst (.ref q :: xs))) : Off p b k t := fun j => by
  obtain ⟨dx, nv, kt, h1, _⟩ := W.led j
  obtain ⟨nv', h2, _, h3⟩ := W.bok j
  exact ⟨ne_of h h1 (by intro z; cases z), ne_of h h2 (by intro z; cases z), ne_of h h3 refs_ne⟩
theorem Wd.same (W : Wd a H pL bL p b k s) (e : Same H H') : Wd a H' pL bL p b k s :=
  ⟨e _ _ W.lL, e _ _ W.lB, fun i => (W.led i).same e, fun i => (W.bok i).same e, W.np, W.nb, W.nk, W.gd⟩
theorem Wd.but (W : Wd a H pL bL p b k s) {l : Addr} {xs : List Int} (hl : H l = some (.lst (xs.map V.int))) (nl : ∀ j, l ≠ k j) (e : But l H H') : Wd a H' pL bL p b k s := by
  have tu : ∀ t ys, H t = some (.tup ys) → H' t = some (.tup ys) := fun t ys h => e _ _ h (ne_of h hl (by intro z; cases z))
  refine ⟨e _ _ W.lL (ne_of W.lL hl refs_ne), e _ _ W.lB (ne_of W.lB hl refs_ne), fun i => ?_, fun i => ?_, W.np, W.nb, W.nk, W.gd⟩
  · obtain ⟨dx, nv, kt, h1, h2, h3⟩ := W.led i
    exact ⟨dx, nv, kt, e _ _ h1 (ne_of h1 hl (by intro z; cases z)), h2.same tu, tu _ _ h3⟩
  · obtain ⟨nv', h1, h2, h3⟩ := W.bok i
    exact ⟨nv', e _ _ h1 (ne_of h1 hl (by intro z; cases z)), h2.same tu, e _ _ h3 (nl i).symm⟩
theorem Wd.step (W : Wd a H pL bL p b k s) (i : Bool) (st : LS) (g : Good st) (hb : BookAt H' (b i) (k i) st) (hp : LedAt a.c_Ledger H' (p i) st) (fr : ∀ x u, H x = some u → x ≠ p i → x ≠ b i → x ≠ k i → H' x = some u) :
    Wd a H' pL bL p b k (fun j => if j = i then st else s j) := by
  have tu : ∀ t ys, H t = some (.tup ys) → H' t = some (.tup ys) := fun t ys h => let o := W.tup h i; fr _ _ h o.1 o.2.1 o.2.2
  have oL := W.refs W.lL i
  have oB := W.refs W.lB i
  obtain ⟨dx, nv, kt, i1, _⟩ := W.led i
  obtain ⟨nv', i2, _, i3⟩ := W.bok i
  refine ⟨fr _ _ W.lL oL.1 oL.2.1 oL.2.2, fr _ _ W.lB oB.1 oB.2.1 oB.2.2, fun j => ?_, fun j => ?_, W.np, W.nb, W.nk, fun j => ?_⟩
  · by_cases e : j = i
    · subst e
      rw [if_pos rfl]
      exact hp
    · rw [if_neg e]
      obtain ⟨dx, nv, kt, h1, h2, h3⟩ := W.led j
      exact ⟨dx, nv, kt, fr _ _ h1 (ne_bool W.np e) (ne_of h1 i2 (by intro z; cases z)) (ne_of h1 i3 (by intro z; cases z)), h2.same tu, tu _ _ h3⟩
  · by_cases e : j = i
    · subst e
      rw [if_pos rfl]
      exact hb
    · rw [if_neg e]
      obtain ⟨nv', h1, h2, h3⟩ := W.bok j
      exact ⟨nv', fr _ _ h1 (ne_of h1 i1 (by intro z; cases z)) (ne_bool W.nb e) (ne_of h1 i3 (by intro z; cases z)), h2.same tu, fr _ _ h3 (ne_of h3 i1 (by intro z; cases z)) (ne_of h3 i2 (by intro z; cases z)) (ne_bool W.nk e)⟩
  · by_cases e : j = i
    · rw [if_pos e]; exact g
    · rw [if_neg e]; exact W.gd j
theorem at_two {f : Bool → Addr} (i : Bool) : atI [V.ref (f false), V.ref (f true)] (idx i) = some (.ref (f i)) := by
  cases i <;> rfl
end
section
variable {P : Program} {w : World} {K : PySem.W.Frag} {mg : Str → Option Value} {base : Heap} {a : Ad}
def spStep (a : Ad) : Sp := fun vs H Q _ => ∃ (pL bL : Addr) (p b k : Bool → Addr) (s : Bool → LS) (i o : Bool) (t : Addr) (d c : Int), vs = [.ref pL, .ref bL, .int (idx i), .bl o, .ref t] ∧ H t = some (.tup [.int d, .int c]) ∧ Wd a H pL bL p b k s ∧ (∀ j, (s j).2.length ≤ 500) ∧
  ∀ H', Wd a H' pL bL p b k (fun j => if j = i then (act o (s i) d c).2 else s j) → (∀ x u, H x = some u → Off p b k x → H' x = some u) → Q (.bl true) H'
theorem G__law_step (T : Tx K mg a) : FnOk P w K mg base CX0 8 a.f__law_step a.d__law_step ["ledgers", "books", "k", "opens", "number"] (spStep a) := by
  refine T.F__law_step.ok sc__law_step (fun vs H Q E h => ?_) (fun cdv A outer s H vs Q E hr h => ?_)
  · obtain ⟨pL, bL, p, b, k, s, i, o, t, d, c, rfl, _⟩ := h
    rfl
  · obtain ⟨pL, bL, p, b, k, s, i, o, t, d, c, rfl, ht, W, hz, kk⟩ := h
    have hu := hu_of hr
    refine ⟨_, (pss_cons (ps_set (i := 5) sc__law_step.nd rfl (Or.inl rfl) (pe_fld (pe_ix ix_list (pv 0) (pv 2) (fun _ _ => rfl)) rfl))
      (pss_cons (ps_set (i := 6) sc__law_step.nd rfl (Or.inl rfl) (pe_callTy call_tuple_of (by rfl) T.n_tuple (by decide +kernel) (pa_cons (pe_dget hu (pe_ix ix_list (pv 1) (pv 2) (fun _ _ => rfl)) pe_str (fun _ _ => rfl)) pa_nil)))
      (pss_cons (ps_set (i := 7) sc__law_step.nd rfl (Or.inl rfl) (pe_call (G__law_due T) (hr.mono (by decide)) rfl T.g__law_due T.F__law_due.kp T.b__law_due .nil pass0 (pa_cons (pe_ix ix_list (pv 1) (pv 2) (fun _ _ => rfl)) (pa_cons (pv 3) (pa_cons (pe_ix ix_tup (pv 4) pe_int (fun _ _ => rfl)) (pa_cons (pe_ix ix_tup (pv 4) pe_int (fun _ _ => rfl)) pa_nil))))))
      (pss_cons (ps_set (i := 8) sc__law_step.nd rfl (Or.inl rfl) (pe_call (G__law_call T) (hr.mono (by decide)) rfl T.g__law_call T.F__law_call.kp T.b__law_call .nil pass0 (pa_cons (pe_ix ix_list (pv 0) (pv 2) (fun _ _ => rfl)) (pa_cons (pv 3) (pa_cons (pe_ix ix_tup (pv 4) pe_int (fun _ _ => rfl)) (pa_cons (pe_ix ix_tup (pv 4) pe_int (fun _ _ => rfl)) pa_nil))))))
      (pss_cons (ps_if (PW.pt (pw_or (pt_not (pt_val (pe_call (G__law_same T) (hr.mono (by decide)) rfl T.g__law_same T.F__law_same.kp T.b__law_same .nil pass0 (pa_cons (pv 8) (pa_cons (pv 7) pa_nil))))) (pw_or1 (pt_not (pt_val (pe_call (G__law_same T) (hr.mono (by decide)) rfl T.g__law_same T.F__law_same.kp T.b__law_same .nil pass0 (pa_cons (pv 5) (pa_cons (pv 6) pa_nil)))))))) (pss_one (ps_ret pe_bl)) pss_nil)
      (pss_one (ps_ret (pe_and (pe_call (G__law_stands T) (hr.mono (by decide)) rfl T.g__law_stands T.F__law_stands.kp T.b__law_stands .nil pass0 (pa_cons (pe_ix ix_list (pv 0) pe_int (fun _ _ => rfl)) (pa_cons (pe_ix ix_list (pv 1) pe_int (fun _ _ => rfl)) pa_nil))) (pe_one (pe_call (G__law_stands T) (hr.mono (by decide)) rfl T.g__law_stands T.F__law_stands.kp T.b__law_stands .nil pass0 (pa_cons (pe_ix ix_list (pv 0) pe_int (fun _ _ => rfl)) (pa_cons (pe_ix ix_list (pv 1) pe_int (fun _ _ => rfl)) pa_nil)))))))))))), ?_⟩
    obtain ⟨dx, nv, kt, hp, hnw, hkt⟩ := W.led i
    obtain ⟨nv', hb, hnw', hkl⟩ := W.bok i
    -- before, copy
    refine ⟨_, rfl, _, rfl, pL, _, _, _, rfl, rfl, SqL.of W.lL, at_two (f := p) i, _, _, dx, _, _, rfl, hp, T.cl_Ledger, T.no_Ledger_kept, lf_kept _ _, ?_⟩
    refine ⟨_, rfl, _, rfl, bL, _, _, _, rfl, rfl, SqL.of W.lB, at_two (f := b) i, b i, _, rfl, get_kept hb, k i, _, rfl, Or.inl ⟨SqL.of hkl, fun tc htc => ?_⟩⟩
    have s1 : Same H (upd H tc (.tup ((s i).2.map V.int))) := Same.new htc
    have hc1 : upd H tc (.tup ((s i).2.map V.int)) tc = some (.tup ((s i).2.map V.int)) := upd_same
    generalize upd H tc (.tup ((s i).2.map V.int)) = H1 at s1 hc1
    have W1 := W.same s1
    -- due = _law_due(..)
    refine ⟨_, rfl, _, rfl, bL, _, _, _, rfl, rfl, SqL.of W1.lB, at_two (f := b) i, _, rfl, _, rfl, t, _, _, _, rfl, rfl, SqT.of (s1 _ _ ht), atI_nat (j := 0) rfl, _, rfl, t, _, _, _, rfl, rfl, SqT.of (s1 _ _ ht), atI_nat (j := 1) rfl, ?_⟩
    refine ⟨b i, k i, s i, o, d, c, rfl, W1.bok i, Nat.le_trans (hz i) (by decide), fun td H2 htd fd hB2 b2 => ?_⟩
    have off1 : ∀ {x : Addr} {xs : List V}, H1 x = some (.tup xs) → H2 x = some (.tup xs) := fun h => let z := W1.tup h i; b2 _ _ h z.2.1 z.2.2
    have hL1 := b2 _ _ W1.lL (W1.refs W1.lL i).2.1 (W1.refs W1.lL i).2.2
    have hled2 : LedAt a.c_Ledger H2 (p i) (s i) := by
      obtain ⟨dx, nv, kt, h1, h2, h3⟩ := W1.led i
      obtain ⟨nv', h4, _, h5⟩ := W1.bok i
      exact ⟨dx, nv, kt, b2 _ _ h1 (ne_of h1 h4 (by intro z; cases z)) (ne_of h1 h5 (by intro z; cases z)), h2.same (fun t xs h => off1 h), off1 h3⟩
    -- told = _law_call(..)
    refine ⟨_, rfl, _, rfl, pL, _, _, _, rfl, rfl, SqL.of hL1, at_two (f := p) i, _, rfl, _, rfl, t, _, _, _, rfl, rfl, SqT.of (off1 (s1 _ _ ht)), atI_nat (j := 0) rfl, _, rfl, t, _, _, _, rfl, rfl, SqT.of (off1 (s1 _ _ ht)), atI_nat (j := 1) rfl, ?_⟩
    refine ⟨p i, s i, o, d, c, rfl, hled2, Nat.le_trans (hz i) (by decide), fun tt H3 htt ft hL3 b3 => ?_⟩
    obtain ⟨dx2, nv2, kt2, hp2, _⟩ := id hled2
    have off2 : ∀ {x : Addr} {xs : List V}, H2 x = some (.tup xs) → H3 x = some (.tup xs) := fun h => b3 _ _ h (ne_of h hp2 (by intro z; cases z))
    have hB3 : BookAt H3 (b i) (k i) (act o (s i) d c).2 := by
      obtain ⟨nv', h4, h6, h5⟩ := hB2
      exact ⟨nv', b3 _ _ h4 (ne_of h4 hp2 (by intro z; cases z)), h6.same (fun t xs h => off2 h), b3 _ _ h5 (ne_of h5 hp2 (by intro z; cases z))⟩
    have fr : ∀ x u, H x = some u → x ≠ p i → x ≠ b i → x ≠ k i → H3 x = some u := fun x u e n1 n2 n3 => b3 _ _ (b2 _ _ (s1 _ _ e) n2 n3) n1
    have W3 := W.step i _ (good_act o (W.gd i) d c) hB3 hL3 fr
    -- both are the same
    refine ⟨_, rfl, _, rfl, .ref tt, .ref td, .tup ((ansV (act o (s i) d c).1).map toD), rfl, DAt.flats toD (fl_ans _ _ _ _) htt (ans_len _), DAt.flats toD (fl_ans _ _ _ _) (off2 htd) (ans_len _), fun H4 s4 => ⟨_, rfl, iteF ?_⟩⟩
    have hkt4 : H4 kt = some (.tup ((s i).2.map V.int)) := s4 _ _ (off2 (off1 (s1 _ _ hkt)))
    have hc4 : H4 tc = some (.tup ((s i).2.map V.int)) := s4 _ _ (off2 (off1 hc1))
    have hz1 : ((s i).2.map V.int).length ≤ 1000 := by
      rw [List.length_map]
      exact Nat.le_trans (hz i) (by decide)
    refine ⟨_, rfl, _, rfl, .ref kt, .ref tc, .tup (((s i).2.map V.int).map toD), rfl, DAt.flats toD (fl_ints _) hkt4 hz1, DAt.flats toD (fl_ints _) hc4 hz1, fun H5 s5 => ⟨_, rfl, iteF ?_⟩⟩
    have W5 := W3.same (s4.trans s5)
    have hz5 : ∀ j, ((fun j => if j = i then (act o (s i) d c).2 else s j) j : LS).2.length ≤ 900 := fun j => by
      by_cases e : j = i
      · simp only [e, if_pos]
        have := (len_act o (s i) d c).2
        have := hz i
        omega
      · simp only [if_neg e]
        exact Nat.le_trans (hz j) (by decide)
    refine ⟨_, rfl, pL, _, _, _, rfl, rfl, SqL.of W5.lL, at_two (f := p) false, _, rfl, bL, _, _, _, rfl, rfl, SqL.of W5.lB, at_two (f := b) false, ?_⟩
    refine ⟨_, _, _, _, rfl, W5.led false, W5.bok false, W5.gd false, hz5 false, fun H6 s6 => ⟨true, rfl, iteT ?_⟩⟩
    have W6 := W5.same s6
    refine ⟨_, rfl, pL, _, _, _, rfl, rfl, SqL.of W6.lL, at_two (f := p) true, _, rfl, bL, _, _, _, rfl, rfl, SqL.of W6.lB, at_two (f := b) true, ?_⟩
    refine ⟨_, _, _, _, rfl, W6.led true, W6.bok true, W6.gd true, hz5 true, fun H7 s7 => ?_⟩
    refine kk H7 (W6.same s7) fun x u e off => ?_
    exact s7 _ _ (s6 _ _ (s5 _ _ (s4 _ _ (fr x u e (off i).1 (off i).2.1 (off i).2.2))))
end
end My

namespace My
open PySem L2
/-! ### 10. the thirteen told calls (plain Lean) -/
def told13 : List Int := [1, 10, 1, 0, 0, 11, 10, 0, 1, 12, 1, 12, 2]
def pick (low c1 fd fc n : Int) : Int × Int := if n % 10 = 0 then (low, c1) else if n % 10 = 1 then (low, c1 + 1) else (fd, fc)
def stp (low c1 fd fc : Int) (s : LS) (n : Int) : LS := (act (decide (10 ≤ n)) s (pick low c1 fd fc n).1 (pick low c1 fd fc n).2).2
theorem opn_none {d c : Int} {kp : List Int} (h1 : okD d) (h2 : okC c) : (opn (none, kp) d c).2 = (some (d, c), kp) := by rw [opn_ok h1 h2]
theorem opn_old {d c : Int} {q : Int × Int} {kp : List Int} (h1 : okD d) (h2 : okC c) (h : d < q.1 ∨ (d = q.1 ∧ c ≤ q.2)) : (opn (some q, kp) d c).2 = (some q, kp) := by
  rw [opn_ok h1 h2]
  dsimp only
  rw [if_pos h]
theorem opn_new {d c : Int} {q : Int × Int} {kp : List Int} (h1 : okD d) (h2 : okC c) (h : ¬ (d < q.1 ∨ (d = q.1 ∧ c ≤ q.2))) : (opn (some q, kp) d c).2 = (some (d, c), kp) := by
  rw [opn_ok h1 h2]
  dsimp only
  rw [if_neg h]
theorem tel_none {d c : Int} {kp : List Int} (h1 : okD d) (h2 : okC c) : (tel (none, kp) d c).2 = (none, kp) := by rw [tel_ok h1 h2]
theorem tel_in {d c : Int} {q : Int × Int} {kp : List Int} (h1 : okD d) (h2 : okC c) (h : d ∈ kp ∨ ¬ (d = q.1 ∧ c = q.2)) : (tel (some q, kp) d c).2 = (some q, kp) := by
  rw [tel_ok h1 h2]
  dsimp only
  by_cases e1 : q.1 < d ∨ (d = q.1 ∧ q.2 < c)
  · rw [if_pos e1]
  rw [if_neg e1]
  by_cases e2 : d < q.1 ∨ (d = q.1 ∧ c < q.2)
  · rw [if_pos e2]
  rw [if_neg e2]
  rcases h with h | h
  · rw [if_pos h]
  · exact absurd ⟨by omega, by omega⟩ h
theorem tel_new {d c : Int} {kp : List Int} (h1 : okD d) (h2 : okC c) (h : ¬ d ∈ kp) : (tel (some (d, c), kp) d c).2 = (some (d, c), kp ++ [d]) := by
  rw [tel_ok h1 h2]
  dsimp only
  rw [if_neg (by omega), if_neg (by omega), if_neg h]
theorem thirteen {low c1 fd fc : Int} (hl : 0 ≤ low) (hf : low < fd) (hf2 : fd ≤ 10 ^ 40) (h1 : 0 ≤ c1) (h2 : c1 < 6) (h3 : 0 ≤ fc) (h4 : fc < 7) : (told13.foldl (stp low c1 fd fc) (none, [])).2.length = 2 := by
  have kl : okD low := ⟨hl, by omega⟩
  have kf : okD fd := ⟨by omega, hf2⟩
  have k1 : okC c1 := ⟨h1, by omega⟩
  have k2 : okC (c1 + 1) := ⟨by omega, by omega⟩
  have k3 : okC fc := ⟨h3, by omega⟩
  have e0 : ∀ s, stp low c1 fd fc s 0 = (tel s low c1).2 := fun s => rfl
  have e1 : ∀ s, stp low c1 fd fc s 1 = (tel s low (c1 + 1)).2 := fun s => rfl
  have e2 : ∀ s, stp low c1 fd fc s 2 = (tel s fd fc).2 := fun s => rfl
  have e10 : ∀ s, stp low c1 fd fc s 10 = (opn s low c1).2 := fun s => rfl
  have e11 : ∀ s, stp low c1 fd fc s 11 = (opn s low (c1 + 1)).2 := fun s => rfl
  have e12 : ∀ s, stp low c1 fd fc s 12 = (opn s fd fc).2 := fun s => rfl
  simp only [told13, List.foldl_cons, List.foldl_nil, e0, e1, e2, e10, e11, e12]
  rw [tel_none kl k2, opn_none kl k1, tel_in kl k2 (Or.inr (by dsimp only; omega)), tel_new kl k1 (by simp), tel_in kl k1 (Or.inl (by simp)), opn_new kl k2 (by dsimp only; omega), opn_old kl k1 (by dsimp only; omega), tel_in kl k1 (Or.inl (by simp)), tel_in kl k2 (Or.inl (by simp)),
    opn_new kf k3 (by dsimp only; omega), tel_in kl k2 (Or.inl (by simp)), opn_old kf k3 (by dsimp only; omega), tel_new kf k3 (by simp; omega)]
  rfl
theorem stp_len (low c1 fd fc : Int) (s : LS) (n : Int) : (stp low c1 fd fc s n).2.length ≤ s.2.length + 1 := (len_act _ _ _ _).2
theorem fold_len (low c1 fd fc : Int) : ∀ (l : List Int) (s : LS), (l.foldl (stp low c1 fd fc) s).2.length ≤ s.2.length + l.length
  | [], s => Nat.le_refl _
  | n :: l, s => by
    have h := fold_len low c1 fd fc l (stp low c1 fd fc s n)
    have h' := stp_len low c1 fd fc s n
    simp only [List.foldl_cons, List.length_cons]
    omega
/-! ### 11. the law -/
theorem ite_set {c : Bool} {te : TE} {i : Nat} {D : Ends} {σ : St} {H : Hp} {v0 : V} (R : V → Prop) (h0 : σ[i]? = some (some v0)) (hp0 : R v0) (ht : c = true → ∃ x, R x ∧ Val te σ H x) (k : ∀ v, R v → D.nx (σ.set i (some v)) H) :
    if c = true then tAsg te (gName i) D σ H else tNext D σ H := by
  cases c with
  | true =>
    obtain ⟨x, hx, hv⟩ := ht rfl
    exact iteT (hv _ (k x hx))
  | false =>
    refine iteF ?_
    have z := k v0 hp0
    have e : σ.set i (some v0) = σ := by
      obtain ⟨h1, h2⟩ := List.getElem?_eq_some_iff.mp h0
      rw [← h2]
      exact List.set_getElem_self h1
    rw [e] at z
    exact z
theorem bk_merge (l : Addr) : mergeK [] (bk .non l) = bk .non l := by
  simp [mergeK, putK, bk, ne_nk]
theorem book0 {H1 : Hp} {l p : Addr} (nl : l ≠ p) (h : H1 l = some (.lst [])) : BookAt (upd H1 p (.dK (mergeK [] (bk .non l)))) p l (none, []) := by
  rw [bk_merge]
  exact ⟨.non, upd_same, rfl, (upd_ne nl).trans h⟩
theorem Wd.draw {a : Ad} {H H' : Hp} {pL bL l : Addr} {p b k : Bool → Addr} {s : Bool → LS} (W : Wd a H pL bL p b k s) (h : PoolAt H l) (nl : ∀ j, l ≠ k j) (e : But l H H') : Wd a H' pL bL p b k s := by
  obtain ⟨ns, h1, _⟩ := h
  exact W.but h1 nl e
theorem Wd.offL {a : Ad} {H : Hp} {pL bL l : Addr} {p b k : Bool → Addr} {s : Bool → LS} (W : Wd a H pL bL p b k s) {xs : List V} (h : H l = some (.lst xs)) (nl : ∀ j, l ≠ k j) : Off p b k l := fun j => by
  obtain ⟨dx, nv, kt, h1, _⟩ := W.led j
  obtain ⟨nv', h2, _, h3⟩ := W.bok j
  exact ⟨ne_of h h1 (by intro z; cases z), ne_of h h2 (by intro z; cases z), nl j⟩
theorem PoolAt.tup {H H' : Hp} {l t : Addr} {xs : List V} (h : PoolAt H l) (e : But l H H') (ht : H t = some (.tup xs)) : H' t = some (.tup xs) := by
  obtain ⟨ns, h1, _⟩ := h
  exact e _ _ ht (ne_of ht h1 (by intro z; cases z))
def tAt (t1 t2 t3 : Addr) (n : Int) : Addr := if n % 10 = 0 then t1 else if n % 10 = 1 then t2 else t3
theorem tAt_is {t1 t2 t3 : Addr} {n : Int} (h : n ∈ told13) : atI [V.ref t1, V.ref t2, V.ref t3] (n.fmod 10) = some (.ref (tAt t1 t2 t3 n)) := by
  simp only [told13, List.mem_cons, List.not_mem_nil, or_false] at h
  rcases h with rfl | rfl | rfl | rfl | rfl | rfl | rfl | rfl | rfl | rfl | rfl | rfl | rfl <;> rfl
theorem tAt_tup {H : Hp} {t1 t2 t3 : Addr} {low c1 fd fc n : Int} (h1 : H t1 = some (.tup [.int low, .int c1])) (h2 : H t2 = some (.tup [.int low, .int (c1 + 1)])) (h3 : H t3 = some (.tup [.int fd, .int fc])) :
    H (tAt t1 t2 t3 n) = some (.tup [.int (pick low c1 fd fc n).1, .int (pick low c1 fd fc n).2]) := by
  unfold tAt pick
  by_cases e1 : n % 10 = 0
  · rw [if_pos e1, if_pos e1]; exact h1
  · rw [if_neg e1, if_neg e1]
    by_cases e2 : n % 10 = 1
    · rw [if_pos e2, if_pos e2]; exact h2
    · rw [if_neg e2, if_neg e2]; exact h3
theorem take_more {α : Type} {l : List α} {i : Nat} {x : α} (h : l[i]? = some x) : l.take (i + 1) = l.take i ++ [x] := by
  obtain ⟨h1, h2⟩ := List.getElem?_eq_some_iff.mp h
  rw [← h2, List.take_succ_eq_append_getElem h1]
def two (s : LS) : Bool → LS := fun j => if j = false then s else (none, [])
theorem two_step (s s' : LS) : (fun j => if j = false then s' else two s j) = two s' := by
  funext j
  cases j <;> rfl
theorem is_idx {d : Int} (h0 : 0 ≤ d) (h1 : d < 2) : ∃ i : Bool, d = idx i := by
  by_cases h : d = 0
  · exact ⟨false, h⟩
  · exact ⟨true, by show d = 1; omega⟩
section
variable {P : Program} {w : World} {K : PySem.W.Frag} {mg : Str → Option Value} {base : Heap} {a : Ad}
def spLaw (K : PySem.W.Frag) : Sp := fun vs H Q _ => ∃ (s : Addr) (ns : List Int), vs = [.ref s] ∧ SqL K H s (ns.map V.int) ∧ ns.length ≤ 63 ∧ ∀ H', Q (.bl true) H'
theorem G_law (T : Tx K mg a) : FnOk P w K mg base CX0 9 a.f_law a.d_law ["script"] (spLaw K) := by
  refine T.F_law.ok sc_law (fun vs H Q E h => ?_) (fun cdv A outer s H vs Q E hr h => ?_)
  · obtain ⟨s, ns, rfl, _⟩ := h
    rfl
  · obtain ⟨s, ns, rfl, hS, hn, kk⟩ := h
    have hu := hu_of hr
    refine ⟨_, (pss_cons (ps_set (i := 1) sc_law.nd rfl (Or.inl rfl) (pe_call (G__law_pool T) (hr.mono (by decide)) rfl T.g__law_pool T.F__law_pool.kp T.b__law_pool .nil pass0 (pa_cons (pv 0) pa_nil)))
      (pss_cons (ps_set (i := 2) sc_law.nd rfl (Or.inl rfl) (pe_call (G__law_draw T) (hr.mono (by decide)) rfl T.g__law_draw T.F__law_draw.kp T.b__law_draw .nil pass0 (pa_cons (pv 1) (pa_cons pe_int pa_nil))))
      (pss_cons (ps_if (pt_cmpR op_eq (pe_call (G__law_draw T) (hr.mono (by decide)) rfl T.g__law_draw T.F__law_draw.kp T.b__law_draw .nil pass0 (pa_cons (pv 1) (pa_cons pe_int pa_nil))) pe_int (nomark _)) (pss_one (ps_set (i := 2) sc_law.nd rfl (Or.inl rfl) (pe_op op_add (pe_op op_sub (pe_op op_pow pe_int pe_int) pe_int) (pv 2)))) pss_nil)
      (pss_cons (ps_set (i := 3) sc_law.nd rfl (Or.inl rfl) (pe_lst (pa_cons (pe_make0 T.M_Ledger (G_Ledger_init T) (hr.mono (by decide)) rfl T.g_Ledger T.b_Ledger_init .nil pass0) (pa_cons (pe_make0 T.M_Ledger (G_Ledger_init T) (hr.mono (by decide)) rfl T.g_Ledger T.b_Ledger_init .nil pass0) pa_nil))))
      (pss_cons (ps_set (i := 4) sc_law.nd rfl (Or.inl rfl) (pe_lst (pa_cons (pe_disp (pps_cons pe_str pe_non (pps_cons pe_str (pe_lst pa_nil) pps_nil)) (by rfl) (by rfl) (fun z => by cases z) (by decide)) (pa_cons (pe_disp (pps_cons pe_str pe_non (pps_cons pe_str (pe_lst pa_nil) pps_nil)) (by rfl) (by rfl) (fun z => by cases z) (by decide)) pa_nil))))
      (pss_cons (ps_if (PW.pt (pw_or (pt_not (pt_val (pe_call (G__law_stands T) (hr.mono (by decide)) rfl T.g__law_stands T.F__law_stands.kp T.b__law_stands .nil pass0 (pa_cons (pe_ix ix_list (pv 3) pe_int (fun _ _ => rfl)) (pa_cons (pe_ix ix_list (pv 4) pe_int (fun _ _ => rfl)) pa_nil))))) (pw_or1 (pt_not (pt_val (pe_call (G__law_stands T) (hr.mono (by decide)) rfl T.g__law_stands T.F__law_stands.kp T.b__law_stands .nil pass0 (pa_cons (pe_ix ix_list (pv 3) pe_int (fun _ _ => rfl)) (pa_cons (pe_ix ix_list (pv 4) pe_int (fun _ _ => rfl)) pa_nil)))))))) (pss_one (ps_ret pe_bl)) pss_nil)
      (pss_cons (ps_set (i := 5) sc_law.nd rfl (Or.inl rfl) (pe_tup (pa_cons (pv 2) (pa_cons (pe_call (G__law_draw T) (hr.mono (by decide)) rfl T.g__law_draw T.F__law_draw.kp T.b__law_draw .nil pass0 (pa_cons (pv 1) (pa_cons pe_int pa_nil))) pa_nil))))
      (pss_cons (ps_set (i := 6) sc_law.nd rfl (Or.inl rfl) (pe_tup (pa_cons (pv 2) (pa_cons (pe_op op_add (pe_ix ix_tup (pv 5) pe_int (fun _ _ => rfl)) pe_int) pa_nil))))
      (pss_cons (ps_set (i := 7) sc_law.nd rfl (Or.inl rfl) (pe_tup (pa_cons (pe_op op_add (pe_op op_add (pv 2) pe_int) (pe_call (G__law_draw T) (hr.mono (by decide)) rfl T.g__law_draw T.F__law_draw.kp T.b__law_draw .nil pass0 (pa_cons (pv 1) (pa_cons pe_int pa_nil)))) (pa_cons (pe_call (G__law_draw T) (hr.mono (by decide)) rfl T.g__law_draw T.F__law_draw.kp T.b__law_draw .nil pass0 (pa_cons (pv 1) (pa_cons pe_int pa_nil))) pa_nil))))
      (pss_cons (ps_for PassesOwn.never rfl (pi_list (pe_lst (pa_cons pe_int (pa_cons pe_int (pa_cons pe_int (pa_cons pe_int (pa_cons pe_int (pa_cons pe_int (pa_cons pe_int (pa_cons pe_int (pa_cons pe_int (pa_cons pe_int (pa_cons pe_int (pa_cons pe_int (pa_cons pe_int pa_nil))))))))))))))) (pg_name (i := 8) sc_law.nd rfl (Or.inl rfl)) (pss_cons (ps_set (i := 9) sc_law.nd rfl (Or.inl rfl) (pe_ix ix_list (pe_lst (pa_cons (pv 5) (pa_cons (pv 6) (pa_cons (pv 7) pa_nil)))) (pe_op op_modN (pe_callTy call_int1 (by rfl) T.n_int (by decide +kernel) (pa_cons (pv 8) pa_nil)) pe_int) (fun _ _ => rfl)))
      (pss_one (ps_if (pt_not (pt_val (pe_call (G__law_step T) (hr.mono (by decide)) rfl T.g__law_step T.F__law_step.kp T.b__law_step .nil pass0 (pa_cons (pv 3) (pa_cons (pv 4) (pa_cons pe_int (pa_cons (pe_cmpR op_ge (pv 8) pe_int (nomark _)) (pa_cons (pv 9) pa_nil)))))))) (pss_one (ps_ret pe_bl)) pss_nil))))
      (pss_cons (ps_for PassesOwn.never rfl (pi_range1 rfl T.n_range (pa_cons (pe_op op_add pe_int (pe_call (G__law_draw T) (hr.mono (by decide)) rfl T.g__law_draw T.F__law_draw.kp T.b__law_draw .nil pass0 (pa_cons (pv 1) (pa_cons pe_int pa_nil)))) pa_nil)) (pg_name (i := 8) sc_law.nd rfl (Or.inl rfl)) (pss_cons (ps_set (i := 10) sc_law.nd rfl (Or.inl rfl) (pe_call (G__law_draw T) (hr.mono (by decide)) rfl T.g__law_draw T.F__law_draw.kp T.b__law_draw .nil pass0 (pa_cons (pv 1) (pa_cons pe_int pa_nil))))
      (pss_cons (ps_set (i := 11) sc_law.nd rfl (Or.inl rfl) (pe_cmpR op_eq (pe_call (G__law_draw T) (hr.mono (by decide)) rfl T.g__law_draw T.F__law_draw.kp T.b__law_draw .nil pass0 (pa_cons (pv 1) (pa_cons pe_int pa_nil))) pe_int (nomark _)))
      (pss_cons (ps_set (i := 9) sc_law.nd rfl (Or.inl rfl) (pe_call (G__law_number T) (hr.mono (by decide)) rfl T.g__law_number T.F__law_number.kp T.b__law_number .nil pass0 (pa_cons (pv 1) (pa_cons (pe_dget hu (pe_ix ix_list (pv 4) (pv 10) (fun _ _ => rfl)) pe_str (fun _ _ => rfl)) (pa_cons (pv 2) pa_nil)))))
      (pss_one (ps_if (pt_not (pt_val (pe_call (G__law_step T) (hr.mono (by decide)) rfl T.g__law_step T.F__law_step.kp T.b__law_step .nil pass0 (pa_cons (pv 3) (pa_cons (pv 4) (pa_cons (pv 10) (pa_cons (pv 11) (pa_cons (pv 9) pa_nil)))))))) (pss_one (ps_ret pe_bl)) pss_nil))))))
      (pss_one (ps_ret (pe_cmpR op_ge (pe_callB call_len_seq (by rfl) T.n_len (by decide +kernel) (pa_cons (pe_fld (pe_ix ix_list (pv 3) pe_int (fun _ _ => rfl)) rfl) pa_nil)) pe_int (nomark _))))))))))))))), ?_⟩
    refine ⟨_, rfl, s, ns, rfl, hS, hn, fun pl H1 hP1 _ _ => ?_⟩
    -- low
    refine ⟨_, rfl, pl, 9, rfl, hP1, by decide, by decide, fun d2 H2 d20 d21 hP2 _ => ?_⟩
    refine ⟨_, rfl, pl, 4, rfl, hP2, by decide, by decide, fun d3 H3 d30 d31 hP3 _ => ⟨rfl, _, rfl, ?_⟩⟩
    refine ite_set (fun v => ∃ low : Int, v = .int low ∧ 0 ≤ low ∧ low ≤ 10 ^ 40 - 20) rfl ⟨d2, rfl, d20, by omega⟩ (fun _ => ⟨_, ?_, fun Q q => ⟨_, _, rfl, rfl, ⟨by decide, by decide, by decide⟩, _, _, rfl, rfl, _, rfl, _, _, rfl, rfl, q⟩⟩) ?_
    · exact ⟨_, rfl, by show (0 : Int) ≤ 10 ^ 40 - 30 + d2; omega, by show (10 : Int) ^ 40 - 30 + d2 ≤ _; omega⟩
    rintro _ ⟨low, rfl, hl0, hl1⟩
    -- two ledgers
    intro x0 e0 n0 m0 _
    refine ⟨x0, e0, rfl, upd_same, fun H4 l4 b4 => ⟨rfl, ?_⟩⟩
    have s4 : Same H3 H4 := fun b o e => b4 _ _ (by rw [upd_ne (ne_of_none e n0), upd_ne (ne_of_none e m0)]; exact e) (ne_of_none e n0)
    intro x1 e1 n1 m1 _
    refine ⟨x1, e1, rfl, upd_same, fun H5 l5 b5 => ⟨rfl, ?_⟩⟩
    have s5 : Same H4 H5 := fun b o e => b5 _ _ (by rw [upd_ne (ne_of_none e n1), upd_ne (ne_of_none e m1)]; exact e) (ne_of_none e n1)
    have np : x0 ≠ x1 := by
      obtain ⟨_, _, _, h, _⟩ := id l4
      exact ne_of_none h n1
    refine ⟨(by show 2 ≤ sizeLine; decide), fun pL fpL => ?_⟩
    have s6 : Same H5 (upd H5 pL (.lst [.ref x0, .ref x1])) := Same.new fpL
    have hpL : upd H5 pL (.lst [.ref x0, .ref x1]) pL = some (.lst [.ref x0, .ref x1]) := upd_same
    generalize upd H5 pL (.lst [.ref x0, .ref x1]) = H6 at s6 hpL
    -- two books
    intro y0 f0
    refine ⟨(by show 0 ≤ sizeLine; decide), fun k0 g0 => ?_⟩
    have ky0 : k0 ≠ y0 := fun z => by rw [z, upd_same] at g0; cases g0
    refine ⟨(upd_ne ky0.symm).trans upd_same, bk .non k0, rfl, (by show 2 ≤ 15; decide), ?_⟩
    have B7 := book0 (H1 := upd (upd H6 y0 (.dK [])) k0 (.lst [])) ky0 upd_same
    have s7 : Same H6 (upd (upd (upd H6 y0 (.dK [])) k0 (.lst [])) y0 (.dK (mergeK [] (bk .non k0)))) := fun b o e => by
      have h1 := ne_of_none e f0
      have h2 : b ≠ k0 := fun z => by rw [z] at e; rw [upd_ne ky0, e] at g0; cases g0
      rw [upd_ne h1, upd_ne h2, upd_ne h1]
      exact e
    generalize upd (upd (upd H6 y0 (.dK [])) k0 (.lst [])) y0 (.dK (mergeK [] (bk .non k0))) = H7 at B7 s7
    intro y1 f1
    refine ⟨(by show 0 ≤ sizeLine; decide), fun k1 g1 => ?_⟩
    have ky1 : k1 ≠ y1 := fun z => by rw [z, upd_same] at g1; cases g1
    refine ⟨(upd_ne ky1.symm).trans upd_same, bk .non k1, rfl, (by show 2 ≤ 15; decide), ?_⟩
    have B8 := book0 (H1 := upd (upd H7 y1 (.dK [])) k1 (.lst [])) ky1 upd_same
    have g1' : H7 k1 = none := by rw [upd_ne ky1] at g1; exact g1
    have s8 : Same H7 (upd (upd (upd H7 y1 (.dK [])) k1 (.lst [])) y1 (.dK (mergeK [] (bk .non k1)))) := fun b o e => by
      have h1 := ne_of_none e f1
      have h2 : b ≠ k1 := ne_of_none e g1'
      rw [upd_ne h1, upd_ne h2, upd_ne h1]
      exact e
    generalize upd (upd (upd H7 y1 (.dK [])) k1 (.lst [])) y1 (.dK (mergeK [] (bk .non k1))) = H8 at B8 s8
    refine ⟨(by show 2 ≤ sizeLine; decide), fun bL fbL => ?_⟩
    have s9 : Same H8 (upd H8 bL (.lst [.ref y0, .ref y1])) := Same.new fbL
    have hbL : upd H8 bL (.lst [.ref y0, .ref y1]) bL = some (.lst [.ref y0, .ref y1]) := upd_same
    generalize upd H8 bL (.lst [.ref y0, .ref y1]) = H9 at s9 hbL
    have nb : y0 ≠ y1 := by
      obtain ⟨_, h, _⟩ := id B7
      exact ne_of_none h f1
    have nk : k0 ≠ k1 := by
      obtain ⟨_, _, _, h⟩ := id B7
      exact ne_of_none h g1'
    have s39 : Same H3 H9 := ((((s4.trans s5).trans s6).trans s7).trans s8).trans s9
    have hP9 := hP3.same s39
    obtain ⟨ns3, hpl3, _⟩ := id hP3
    obtain ⟨p, rfl, rfl⟩ : ∃ p : Bool → Addr, p false = x0 ∧ p true = x1 := ⟨fun j => if j = true then x1 else x0, rfl, rfl⟩
    obtain ⟨b, rfl, rfl⟩ : ∃ p : Bool → Addr, p false = y0 ∧ p true = y1 := ⟨fun j => if j = true then y1 else y0, rfl, rfl⟩
    obtain ⟨kb, rfl, rfl⟩ : ∃ p : Bool → Addr, p false = k0 ∧ p true = k1 := ⟨fun j => if j = true then k1 else k0, rfl, rfl⟩
    have npk : ∀ j : Bool, pl ≠ kb j := fun j => by
      have h0 : H6 (kb false) = none := by
        have z := g0
        rw [upd_ne ky0] at z
        exact z
      cases j with
      | false => exact ne_of_none (((s4.trans s5).trans s6) _ _ hpl3) h0
      | true => exact ne_of_none ((((s4.trans s5).trans s6).trans s7) _ _ hpl3) g1'
    have W9 : Wd a H9 pL bL p b kb (fun _ => (none, [])) :=
      ⟨((s7.trans s8).trans s9) _ _ hpL, hbL, fun i => by
        cases i with
        | false => exact ((((l4.same s5).same s6).same s7).same s8).same s9
        | true => exact (((l5.same s6).same s7).same s8).same s9, fun i => by
        cases i with
        | false => exact (B7.same s8).same s9
        | true => exact B8.same s9, np, nb, nk, fun _ => good0⟩
    -- they stand
    refine ⟨_, rfl, pL, _, _, _, rfl, rfl, SqL.of W9.lL, at_two (f := p) false, _, rfl, bL, _, _, _, rfl, rfl, SqL.of W9.lB, at_two (f := b) false, ?_⟩
    refine ⟨_, _, _, _, rfl, W9.led false, W9.bok false, W9.gd false, (by show 0 ≤ 900; decide), fun H10 s10 => ⟨_, rfl, iteF ?_⟩⟩
    have W10 := W9.same s10
    refine ⟨_, rfl, pL, _, _, _, rfl, rfl, SqL.of W10.lL, at_two (f := p) true, _, rfl, bL, _, _, _, rfl, rfl, SqL.of W10.lB, at_two (f := b) true, ?_⟩
    refine ⟨_, _, _, _, rfl, W10.led true, W10.bok true, W10.gd true, (by show 0 ≤ 900; decide), fun H11 s11 => ⟨_, rfl, iteF ?_⟩⟩
    have W11 := W10.same s11
    have hP11 := (hP9.same s10).same s11
    -- one, two, far
    refine ⟨_, rfl, _, rfl, pl, 6, rfl, hP11, by decide, by decide, fun c1 H12 c10 c11 hP12 b12 => ⟨(by show 2 ≤ sizeLine; decide), fun t1 ft1 => ?_⟩⟩
    have W12 := (W11.draw hP11 npk b12).same (Same.new (o := .tup [.int low, .int c1]) ft1)
    have hP12' := hP12.same (Same.new (o := .tup [.int low, .int c1]) ft1)
    have ht1 : upd H12 t1 (.tup [.int low, .int c1]) t1 = some (.tup [.int low, .int c1]) := upd_same
    generalize upd H12 t1 (.tup [.int low, .int c1]) = H13 at W12 hP12' ht1
    refine ⟨_, rfl, _, rfl, t1, _, _, _, rfl, rfl, SqT.of ht1, atI_nat (j := 1) rfl, _, _, rfl, rfl, (by show 2 ≤ sizeLine; decide), fun t2 ft2 => ?_⟩
    have s14 : Same H13 (upd H13 t2 (.tup [.int low, .int (c1 + 1)])) := Same.new ft2
    have ht2 : upd H13 t2 (.tup [.int low, .int (c1 + 1)]) t2 = some (.tup [.int low, .int (c1 + 1)]) := upd_same
    generalize upd H13 t2 (.tup [.int low, .int (c1 + 1)]) = H14 at s14 ht2
    have W14 := W12.same s14
    have hP14 := hP12'.same s14
    refine ⟨_, rfl, _, _, rfl, rfl, _, rfl, pl, 9, rfl, hP14, by decide, by decide, fun f1 H15 f10 f11 hP15 b15 => ?_⟩
    refine ⟨_, _, rfl, rfl, _, rfl, pl, 7, rfl, hP15, by decide, by decide, fun fc H16 fc0 fc1 hP16 b16 => ⟨(by show 2 ≤ sizeLine; decide), fun t3 ft3 => ?_⟩⟩
    have W16 := ((W14.draw hP14 npk b15).draw hP15 npk b16).same (Same.new (o := .tup [.int (low + 1 + f1), .int fc]) ft3)
    have hP17 := hP16.same (Same.new (o := .tup [.int (low + 1 + f1), .int fc]) ft3)
    have k1 := Same.new (o := .tup [.int (low + 1 + f1), .int fc]) ft3 _ _ (hP15.tup b16 (hP14.tup b15 (s14 _ _ ht1)))
    have k2 := Same.new (o := .tup [.int (low + 1 + f1), .int fc]) ft3 _ _ (hP15.tup b16 (hP14.tup b15 ht2))
    have k3 : upd H16 t3 (.tup [.int (low + 1 + f1), .int fc]) t3 = some (.tup [.int (low + 1 + f1), .int fc]) := upd_same
    generalize upd H16 t3 (.tup [.int (low + 1 + f1), .int fc]) = H17 at W16 hP17 k1 k2 k3
    -- the thirteen told calls
    refine ⟨(by show 13 ≤ sizeLine; decide), fun ql fql => ?_⟩
    have s18 : Same H17 (upd H17 ql (.lst (told13.map V.int))) := Same.new fql
    have hql : upd H17 ql (.lst (told13.map V.int)) ql = some (.lst (told13.map V.int)) := upd_same
    have nql : ∀ j, ql ≠ kb j := fun j z => by
      obtain ⟨_, _, _, h⟩ := W16.bok j
      rw [← z, fql] at h; cases h
    have W18 := W16.same s18
    have hP18 := hP17.same s18
    refine ⟨ql, rfl, ⟨_, SqL.of hql⟩, for_list (K := K) (a := ql) (xs := told13.map V.int) (fun i σ H' => ∃ v8 v9 : Option V, σ = [some (.ref s), some (.ref pl), some (.int low), some (.ref pL), some (.ref bL), some (.ref t1), some (.ref t2), some (.ref t3), v8, v9, none, none] ∧
        Wd a H' pL bL p b kb (two ((told13.take i).foldl (stp low c1 (low + 1 + f1) fc) (none, []))) ∧ PoolAt H' pl ∧ H' t1 = some (.tup [.int low, .int c1]) ∧ H' t2 = some (.tup [.int low, .int (c1 + 1)]) ∧ H' t3 = some (.tup [.int (low + 1 + f1), .int fc]) ∧ H' ql = some (.lst (told13.map V.int)))
      ⟨none, none, rfl, ?_, hP18, s18 _ _ k1, s18 _ _ k2, s18 _ _ k3, hql⟩ (fun i σ H' _ ⟨_, _, _, _, _, _, _, _, e⟩ => SqL.of e) ?_ ?_⟩
    · have e : two (none, []) = fun _ => (none, []) := by funext j; cases j <;> rfl
      show Wd a _ pL bL p b kb (two (none, []))
      rw [e]
      exact W18
    · rintro i y σ H' hy ⟨v8, v9, rfl, W, hP, e1, e2, e3, e4⟩
      obtain ⟨n, hn, rfl⟩ := map_get hy
      have hi : i < 13 := (List.getElem?_eq_some_iff.mp hn).1
      have hmem : n ∈ told13 := List.mem_of_getElem? hn
      refine ⟨_, rfl, _, rfl, _, rfl, (by show 3 ≤ sizeLine; decide), fun g hg => ?_⟩
      have sg : Same H' (upd H' g (.lst [.ref t1, .ref t2, .ref t3])) := Same.new hg
      refine ⟨_, rfl, Or.inl ⟨_, rfl, _, _, rfl, rfl, (by show (10 : Int) ≠ 0; decide), g, _, _, _, rfl, rfl, SqL.of upd_same, tAt_is hmem, ?_⟩⟩
      generalize upd H' g (.lst [.ref t1, .ref t2, .ref t3]) = H2 at sg
      have W2 := W.same sg
      refine ⟨_, rfl, _, rfl, _, rfl, _, _, rfl, rfl, _, rfl, ?_⟩
      refine ⟨pL, bL, p, b, kb, _, false, decide (10 ≤ n), _, _, _, rfl, tAt_tup (sg _ _ e1) (sg _ _ e2) (sg _ _ e3), W2, fun j => ?_, fun H3 W3 fr => ⟨_, rfl, iteF ?_⟩⟩
      · have h := fold_len low c1 (low + 1 + f1) fc (told13.take i) (none, [])
        have h2 : (told13.take i).length ≤ 13 := by
          rw [List.length_take]
          exact Nat.min_le_right _ _
        cases j with
        | false =>
          show ((told13.take i).foldl (stp low c1 (low + 1 + f1) fc) (none, [])).2.length ≤ 500
          have h3 : ((none, []) : LS).2.length = 0 := rfl
          omega
        | true => exact Nat.zero_le _
      · have W3' := W3
        rw [two_step] at W3'
        obtain ⟨ns', hpl', hn'⟩ := id hP
        refine ⟨_, _, rfl, ?_, ⟨ns', fr _ _ (sg _ _ hpl') (W2.offL (sg _ _ hpl') npk), hn'⟩, fr _ _ (sg _ _ e1) (W2.tup (sg _ _ e1)), fr _ _ (sg _ _ e2) (W2.tup (sg _ _ e2)), fr _ _ (sg _ _ e3) (W2.tup (sg _ _ e3)), fr _ _ (sg _ _ e4) (W2.offL (sg _ _ e4) nql)⟩
        rw [take_more hn, List.foldl_append]
        exact W3'
    rintro σ H' ⟨v8, v9, rfl, W, hP, e1, e2, e3, e4⟩
    have h13 : (told13.map V.int).length = 13 := rfl
    rw [h13, show told13.take 13 = told13 from rfl] at W
    have l13 := thirteen (low := low) (c1 := c1) (fd := low + 1 + f1) (fc := fc) hl0 (by omega) (by omega) c10 c11 fc0 fc1
    generalize told13.foldl (stp low c1 (low + 1 + f1) fc) (none, []) = st at W l13
    -- the drawn calls
    refine ⟨_, rfl, pl, 20, rfl, hP, by decide, by decide, fun m H20 m0 m1 hP20 b20 => ⟨_, _, rfl, rfl, _, rfl, by omega, by omega, for_range (fun i σ H' => ∃ (v8 v9 v10 v11 : Option V) (s' : Bool → LS), σ = [some (.ref s), some (.ref pl), some (.int low), some (.ref pL), some (.ref bL), some (.ref t1), some (.ref t2), some (.ref t3), v8, v9, v10, v11] ∧
        Wd a H' pL bL p b kb s' ∧ PoolAt H' pl ∧ 2 ≤ (s' false).2.length ∧ ∀ j, (s' j).2.length ≤ 20 + i)
      ⟨_, _, _, _, _, rfl, W.draw hP npk b20, hP20, (by show 2 ≤ st.2.length; omega), fun j => by
        cases j with
        | false => show st.2.length ≤ 20 + 0; omega
        | true => exact Nat.zero_le _⟩ ?_ ?_⟩⟩
    · rintro i σ H1 hi ⟨v8, v9, v10, v11, s', rfl, W1, hP1, h2, hz⟩
      refine ⟨_, rfl, pl, 2, rfl, hP1, by decide, by decide, fun kd H2 kd0 kd1 hP2 b2 => ?_⟩
      obtain ⟨j, rfl⟩ := is_idx kd0 kd1
      have W2 := W1.draw hP1 npk b2
      refine ⟨_, rfl, pl, 2, rfl, hP2, by decide, by decide, fun od H3 _ _ hP3 b3 => ⟨rfl, ?_⟩⟩
      have W3 := W2.draw hP2 npk b3
      obtain ⟨nv, hb, hnw, _⟩ := W3.bok j
      refine ⟨_, rfl, _, rfl, _, rfl, bL, _, _, _, rfl, rfl, SqL.of W3.lB, at_two (f := b) j, b j, _, rfl, get_newest hb, _, rfl, ?_⟩
      refine ⟨pl, nv, _, low, rfl, hP3, hnw, fun t d c H4 ht ft hP4 b4 => ?_⟩
      have W4 := W3.draw hP3 npk b4
      refine ⟨_, rfl, _, rfl, _, rfl, _, rfl, _, rfl, ?_⟩
      refine ⟨pL, bL, p, b, kb, _, j, _, t, d, c, rfl, ht, W4, fun j' => ?_, fun H5 W5 fr => ⟨_, rfl, iteF ?_⟩⟩
      · have := hz j'
        omega
      · obtain ⟨ns', hpl', hn'⟩ := id hP4
        refine ⟨_, _, _, _, _, rfl, W5, ⟨ns', fr _ _ hpl' (W4.offL hpl' npk), hn'⟩, ?_, fun j' => ?_⟩
        · by_cases e : false = j
          · rw [if_pos e]
            have := (len_act (decide (V.int od = V.int 0)) (s' j) d c).1
            rw [← e] at this ⊢
            omega
          · rw [if_neg e]
            exact h2
        · by_cases e : j' = j
          · rw [if_pos e]
            have := (len_act (decide (V.int od = V.int 0)) (s' j) d c).2
            have := hz j
            omega
          · rw [if_neg e]
            have := hz j'
            omega
    · rintro σ H1 ⟨v8, v9, v10, v11, s', rfl, W1, hP1, h2, hz⟩
      obtain ⟨dx, nv, kt, hp, _, hkt⟩ := W1.led false
      refine ⟨_, rfl, pL, _, _, _, rfl, rfl, SqL.of W1.lL, at_two (f := p) false, _, _, dx, _, _, rfl, hp, T.cl_Ledger, T.no_Ledger_kept, lf_kept _ _, kt, _, rfl, Or.inr (SqT.of hkt), _, _, rfl, rfl, ?_⟩
      have e : decide ((2 : Int) ≤ (((s' false).2.map V.int).length : Int)) = true := decide_eq_true (by rw [List.length_map]; omega)
      dsimp only
      rw [e]
      exact kk H1
end
end My

namespace My
open PySem L2
theorem fin {P : Program} {w : World} {K : PySem.W.Frag} {mg : Str → Option Value} {fa : Addr} (T : ∃ a : Ad, mg "law" = some (.ref a.f_law) ∧ (∀ (s : Shared) (u : Value), BindsTo s a.d_law ⟨[u], []⟩ [("script", u)]) ∧ Tx K mg a) (hfa : mg "law" = some (.ref fa)) :
    ∃ fd : FuncData, (∀ (s : Shared) (u : Value), BindsTo s fd ⟨[u], []⟩ [("script", u)]) ∧ ∀ base : Heap, K.In base → base.Ns mainGlobals mg → FnOk P w K mg base CX0 9 fa fd ["script"] (spLaw K) := by
  obtain ⟨a, h, hb, T⟩ := T
  have e := hfa.symm.trans h
  cases e
  exact ⟨a.d_law, hb, fun base _ _ => G_law T⟩
end My
open PySem PySem.W PyProof.Rows
set_option maxRecDepth 100000 in
set_option maxHeartbeats 0 in
theorem PySem.Challenge.cw_duejobs_k90_numbers_of_claims_holds : PySem.Challenge.rw_duejobs_k90_numbers_of_claims.Holds := by
  w_on; o_law; k_head; (case hw => w_witness2)
  k_fill
  refine L2.walk_ofK (n := 63) (k := 9) (x := "script") (CX := L2.CX0) (sp := My.spLaw) rfl (by decide) rfl ⟨rfl, by decide, by decide⟩ (fun w h Y => PySem.W.kIn_of Y) ?F ?S (fun _ _ _ _ z => z)
  case S => exact fun K H a ns hn _ hS => ⟨a, ns, rfl, hS, hn, fun _ => rfl⟩
  case F =>
    intro w mg fa h KX G hmg
    refine' My.fin ?_ hmg
    refine' My.all_mk KX G ?ac_DueError ?xl_DueError ?sa_DueError ?ga_DueError ?gg_DueError ?ex_DueError ?ty_DueError ?kc_DueError ?hd_DueError ?ha_DueError ?hm_DueError ?ac_OutOfRange ?xl_OutOfRange ?sa_OutOfRange ?ga_OutOfRange ?gg_OutOfRange ?ex_OutOfRange ?ty_OutOfRange ?kc_OutOfRange ?hd_OutOfRange ?ha_OutOfRange ?hm_OutOfRange ?no_OutOfRange_what ?no_OutOfRange_value ?i_OutOfRange ?t_OutOfRange ?ac_NotNewer ?xl_NotNewer ?sa_NotNewer ?ga_NotNewer ?gg_NotNewer ?ex_NotNewer ?ty_NotNewer ?kc_NotNewer ?hd_NotNewer ?ha_NotNewer ?hm_NotNewer ?no_NotNewer_due ?no_NotNewer_claim ?i_NotNewer ?t_NotNewer ?ac_Ledger ?pg_Ledger ?hd_Ledger ?po_Ledger ?sa_Ledger ?kc_Ledger ?no_Ledger_newest ?no_Ledger_kept ?mk_Ledger ?i_Ledger ?fi_Ledger ?a_Ledger_opened ?fi_Ledger_opened ?a_Ledger_tell ?fi_Ledger_tell ?sub_DueError_DueError ?sub_DueError_OutOfRange ?sub_DueError_NotNewer ?ve_DueError ?sub_OutOfRange_DueError ?sub_OutOfRange_OutOfRange ?sub_OutOfRange_NotNewer ?ve_OutOfRange ?sub_NotNewer_DueError ?sub_NotNewer_OutOfRange ?sub_NotNewer_NotNewer ?ve_NotNewer ?hn_C ?ht_C ?l_OutOfRange_init ?co_OutOfRange_init ?k_OutOfRange_init ?l_NotNewer_init ?co_NotNewer_init ?k_NotNewer_init ?a_in_range ?l_in_range ?co_in_range ?k_in_range ?l_Ledger_init ?co_Ledger_init ?k_Ledger_init ?l_Ledger_opened ?co_Ledger_opened ?k_Ledger_opened ?l_Ledger_tell ?co_Ledger_tell ?k_Ledger_tell ?a_check_number ?l_check_number ?co_check_number ?k_check_number ?a__law_pool ?l__law_pool ?co__law_pool ?k__law_pool ?a__law_draw ?l__law_draw ?co__law_draw ?k__law_draw ?a__law_same ?l__law_same ?co__law_same ?k__law_same ?a__law_number ?l__law_number ?co__law_number ?k__law_number ?a__law_due ?l__law_due ?co__law_due ?k__law_due ?a__law_call ?l__law_call ?co__law_call ?k__law_call ?a__law_stands ?l__law_stands ?co__law_stands ?k__law_stands ?a__law_step ?l__law_step ?co__law_step ?k__law_step ?a_law ?l_law ?co_law ?k_law ?ag_FAR ?ag_MOST_CLAIM ?n_ValueError ?n_all ?n_bool ?n_int ?n_isinstance ?n_len ?n_list ?n_range ?n_str ?n_tuple
    (case ac_DueError => k_is)
    (case xl_DueError => k_is)
    (case sa_DueError => k_is)
    (case ga_DueError => k_is)
    (case gg_DueError => k_is)
    (case ex_DueError => k_is)
    (case ty_DueError => k_is)
    (case kc_DueError => k_is)
    (case hd_DueError => k_is)
    (case ha_DueError => k_is)
    (case hm_DueError => k_is)
    (case ac_OutOfRange => k_is)
    (case xl_OutOfRange => k_is)
    (case sa_OutOfRange => k_is)
    (case ga_OutOfRange => k_is)
    (case gg_OutOfRange => k_is)
    (case ex_OutOfRange => k_is)
    (case ty_OutOfRange => k_is)
    (case kc_OutOfRange => k_is)
    (case hd_OutOfRange => k_is)
    (case ha_OutOfRange => k_is)
    (case hm_OutOfRange => k_is)
    (case no_OutOfRange_what => k_is)
    (case no_OutOfRange_value => k_is)
    (case i_OutOfRange => k_is)
    (case t_OutOfRange => k_is)
    (case ac_NotNewer => k_is)
    (case xl_NotNewer => k_is)
    (case sa_NotNewer => k_is)
    (case ga_NotNewer => k_is)
    (case gg_NotNewer => k_is)
    (case ex_NotNewer => k_is)
    (case ty_NotNewer => k_is)
    (case kc_NotNewer => k_is)
    (case hd_NotNewer => k_is)
    (case ha_NotNewer => k_is)
    (case hm_NotNewer => k_is)
    (case no_NotNewer_due => k_is)
    (case no_NotNewer_claim => k_is)
    (case i_NotNewer => k_is)
    (case t_NotNewer => k_is)
    (case ac_Ledger => k_is)
    (case pg_Ledger => k_is)
    (case hd_Ledger => k_is)
    (case po_Ledger => k_is)
    (case sa_Ledger => k_is)
    (case kc_Ledger => k_is)
    (case no_Ledger_newest => k_is)
    (case no_Ledger_kept => k_is)
    (case mk_Ledger => k_is)
    (case i_Ledger => k_is)
    (case fi_Ledger => k_is)
    (case a_Ledger_opened => k_is)
    (case fi_Ledger_opened => k_is)
    (case a_Ledger_tell => k_is)
    (case fi_Ledger_tell => k_is)
    (case sub_DueError_DueError => k_is)
    (case sub_DueError_OutOfRange => k_is)
    (case sub_DueError_NotNewer => k_is)
    (case ve_DueError => k_is)
    (case sub_OutOfRange_DueError => k_is)
    (case sub_OutOfRange_OutOfRange => k_is)
    (case sub_OutOfRange_NotNewer => k_is)
    (case ve_OutOfRange => k_is)
    (case sub_NotNewer_DueError => k_is)
    (case sub_NotNewer_OutOfRange => k_is)
    (case sub_NotNewer_NotNewer => k_is)
    (case ve_NotNewer => k_is)
    (case hn_C => k_is)
    (case ht_C => k_is)
    (case l_OutOfRange_init => k_is)
    (case co_OutOfRange_init => k_is)
    (case k_OutOfRange_init => k_is)
    (case l_NotNewer_init => k_is)
    (case co_NotNewer_init => k_is)
    (case k_NotNewer_init => k_is)
    (case a_in_range => k_is)
    (case l_in_range => k_is)
    (case co_in_range => k_is)
    (case k_in_range => k_is)
    (case l_Ledger_init => k_is)
    (case co_Ledger_init => k_is)
    (case k_Ledger_init => k_is)
    (case l_Ledger_opened => k_is)
    (case co_Ledger_opened => k_is)
    (case k_Ledger_opened => k_is)
    (case l_Ledger_tell => k_is)
    (case co_Ledger_tell => k_is)
    (case k_Ledger_tell => k_is)
    (case a_check_number => k_is)
    (case l_check_number => k_is)
    (case co_check_number => k_is)
    (case k_check_number => k_is)
    (case a__law_pool => k_is)
    (case l__law_pool => k_is)
    (case co__law_pool => k_is)
    (case k__law_pool => k_is)
    (case a__law_draw => k_is)
    (case l__law_draw => k_is)
    (case co__law_draw => k_is)
    (case k__law_draw => k_is)
    (case a__law_same => k_is)
    (case l__law_same => k_is)
    (case co__law_same => k_is)
    (case k__law_same => k_is)
    (case a__law_number => k_is)
    (case l__law_number => k_is)
    (case co__law_number => k_is)
    (case k__law_number => k_is)
    (case a__law_due => k_is)
    (case l__law_due => k_is)
    (case co__law_due => k_is)
    (case k__law_due => k_is)
    (case a__law_call => k_is)
    (case l__law_call => k_is)
    (case co__law_call => k_is)
    (case k__law_call => k_is)
    (case a__law_stands => k_is)
    (case l__law_stands => k_is)
    (case co__law_stands => k_is)
    (case k__law_stands => k_is)
    (case a__law_step => k_is)
    (case l__law_step => k_is)
    (case co__law_step => k_is)
    (case k__law_step => k_is)
    (case a_law => k_is)
    (case l_law => k_is)
    (case co_law => k_is)
    (case k_law => k_is)
    (case ag_FAR => k_is)
    (case ag_MOST_CLAIM => k_is)
    (case n_ValueError => k_is)
    (case n_all => k_is)
    (case n_bool => k_is)
    (case n_int => k_is)
    (case n_isinstance => k_is)
    (case n_len => k_is)
    (case n_list => k_is)
    (case n_range => k_is)
    (case n_str => k_is)
    (case n_tuple => k_is)

