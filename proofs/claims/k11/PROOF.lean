import PyProof.Rows.All
import Wide.All
import OpenK.AllK
import Wide.FinOn
import HandS.Base
import HandS.Call
import HandS.List
import HandS.Exc
import HandS.ExcInit
import HandS.ExcIs
import HandS.ExcField
import HandS.ExcOwn
import HandS.TupLe
import HandS.IsInst
import KE.KExcIs
import HandS.ForMost
import HandS.ForExc
import HandS.ClsMeth
import HandS.TryMany
import HandS.HotCalls
import PyProof.SumWalkG
import PyProof.TupleIter
import PyProof.WalksMore
import PyProof.Rows.RuleB_pow
import HandS.Steps
import HandS.AnyAll
import HandS.Strs
import HandS.FStr
import HandS.Conv
import HandS.Defaults
import HandS.MakeKwOnly
import HandS.Text
import HandS.Iter
import HandS.Zip0
import PyProof.Draws
import HandS.Wide
import HandS.WideBits
import HandS.Style
import HandS.Evl
import HandS.More
import HandS.Star
import HandS.RaiseMore
import KE.KStateDown
import HandS.Property
import HandS.Head0
import HandS.Head1
import HandS.Head2
import HandS.HeadEnd
import HandS.HeadHook1
import HandS.HeadHook2
import HandS.HeadNt
import PyProof.Rows.StrJoinMade
import HandS.Ends
import PySem.Challenge.RW_duejobs_k11_why_due_and_why_not
set_option Elab.async false
set_option linter.all false
set_option maxRecDepth 100000
set_option maxHeartbeats 4000000
namespace L2
open PySem PySem.Spec PyProof.Rows
/-! ### self.f, .. = .. : a field of an exception that is being made, as a target -/
def gOst (K : PySem.W.Frag) (f : Str) (to : TE) : TG := fun y σ H Q => to σ H fun x H2 => ∃ a C : Addr, x = .ref a ∧ OexC K C ∧ PySem.W.findIn K (.ref C) f = some none ∧
  ((H2 a = some (exo a C none) ∧ ∀ dx, H2 dx = none → dx ≠ a → Q σ (upd (upd H2 dx (exd dx [(f, y)])) a (exo a C (some dx)))) ∨
    ∃ (dx : Addr) (fs : List (Str × V)), H2 a = some (exo a C (some dx)) ∧ H2 dx = some (exd dx fs) ∧ fs.length ≤ 900 ∧ Q σ (upd H2 dx (exd dx ((f, y) :: fs))))
theorem pg_ost {X : Cx} {o : Expr} {to : TE} {f : Str} {pos : Pos} (ho : PE X o to)
    (ha : ∀ v, assign (.Attribute o f pos) X.env v = (do
      let ov ← holding [v] (eval o X.env)
      standAt pos.atName
      holding [v, ov] (setAttr ov f v)
      release [v, ov] []) := by intro _; rfl) : PG X (.Attribute o f pos) (gOst X.K f to) := by
  refine ⟨fun pins s σ H v u Q I r h => ?_⟩
  rw [ha]
  refine wpAny_bind (wpAny_holding (thn (ho.run pins s σ H _ I h) fun ov s1 ⟨x, H1, I1, r1, a, C, ex, T, hno, q⟩ => ?_))
  subst ex
  obtain rfl : ov = Value.ref a := r1
  refine wpAny_bind (wpAny_standAt (wpAny_bind (wpAny_holding ?_)))
  rcases q with ⟨ea, q⟩ | ⟨dx, fs, ea, ed, hl, q⟩
  · refine ost_new (s := { s1 with os := s1.os }) T I1 ea hno r fun dx s' n ne J => wpAny_release ⟨σ, _, J, q dx n ne⟩
  · refine ost_old (s := { s1 with os := s1.os }) T I1 ea ed hl hno r fun s' J => wpAny_release ⟨σ, _, J, q⟩
/-! ### t > u of two tuples of whole numbers -/
def rGtT (K : PySem.W.Frag) : R2 := fun x y H Q => ∃ (a b : Addr) (ns ms : List Int), x = .ref a ∧ y = .ref b ∧ SqT K H a (ns.map V.int) ∧ SqT K H b (ms.map V.int) ∧
  Q (.bl (Ob.lexAt (fun j => decide (ns.getD j 0 = ms.getD j 0)) (fun j => decide (ms.getD j 0 < ns.getD j 0)) (decide (ns.length > ms.length)) 0 (min ns.length ms.length))) H
/-- the j-th of whole numbers as the machine has them -/
theorem int_of {us : List Value} {ks : List Int} (h : Vals (ks.map V.int) us) (j : Nat) (hj : j < us.toArray.size) : ∃ t, us.toArray[j] = .int (ks.getD j 0) t := by
  have hu : j < us.length := by simpa using hj
  have hk : j < ks.length := by have := h.length; rw [List.length_map] at this; omega
  obtain ⟨u, e, t, rfl⟩ := h.get (i := j) (x := .int ks[j]) (by rw [List.getElem?_map, List.getElem?_eq_getElem hk]; rfl)
  rw [List.getElem?_eq_getElem hu] at e
  exact ⟨t, by rw [List.getElem_toArray, Option.some.inj e, List.getD_eq_getElem?_getD, List.getElem?_eq_getElem hk]; rfl⟩
theorem op_gtT {X : Cx} (hu : X.A.units < cLine) : OpR X (compareOp .Gt) (rGtT X.K) := by
  rintro pins s σ H _ _ v u Q I rx ry ⟨a, b, ns, ms, rfl, rfl, ha, hb, q⟩
  cases (show v = Value.ref a from rx)
  cases (show u = Value.ref b from ry)
  obtain ⟨us, ru, pu, _⟩ := I.tuple ha
  obtain ⟨ws, rw', pw, _⟩ := I.tuple hb
  have nu : us.toArray.size = ns.length := by have := ru.length; rw [List.length_map] at this; simp [← this]
  have nw : ws.toArray.size = ms.length := by have := rw'.length; rw [List.length_map] at this; simp [← this]
  have G := Ob.RcOp.tuples_gt (A := X.A) (s := s) (e := fun j => decide (ns.getD j 0 = ms.getD j 0)) (r := fun j => decide (ms.getD j 0 < ns.getD j 0)) pu pw hu
    (fun j h1 h2 => by
      obtain ⟨t, e1⟩ := int_of ru j h1
      obtain ⟨t', e2⟩ := int_of rw' j h2
      have z := SeqAt.EqAt.int_int (A := X.A.in1) (s := s) (ns.getD j 0) t (ms.getD j 0) t'
      rw [e1, e2]
      rwa [show (ns.getD j 0 == ms.getD j 0) = decide (ns.getD j 0 = ms.getD j 0) from rfl] at z)
    (fun j h1 h2 _ => by
      obtain ⟨t, e1⟩ := int_of ru j h1
      obtain ⟨t', e2⟩ := int_of rw' j h2
      rw [e1, e2]
      exact Ob.RcOp.gt_int _ _ t t')
  rw [nu, nw] at G
  exact (G X.prog X.w X.xe (EP X pins σ Q) ⟨.bl _, H, I, rfl, q⟩ : wpAny (model X.prog X.w) X.A (compareOp .Gt (.ref a) (.ref b)) (EP X pins σ Q) X.xe s)
end L2

namespace L2
open PySem PySem.Spec PyProof.Rows
/-- isinstance(e, c), e the exception that the suite holds, with its own dict -/
def rIsX (K : PySem.W.Frag) (a : Addr) (cls : Value) (d : Option Addr) : List V → Hp → VK → Prop := fun xs H Q => ∃ (D dd : Addr) (fs : List (Str × V)) (c : V) (cv : Value) (b : Bool), cls = .ref D ∧ ExcC K D ∧ d = some dd ∧ H dd = some (.xd fs) ∧ xs = [.ref a, c] ∧ ClsV c cv ∧ PySem.W.kitOne K (.ref D) cv = some b ∧ Q (.bl b) H
theorem call_isX {X : Cx} {a : Addr} {oe : Obj} {cls : Value} {d : Option Addr} {pn : List (Addr × Obj)} (hz : Zc cls d oe) (hf : ∃ vs, oe.data = .fields vs) : CallR (X.suite a ((a, oe) :: pn)) (.builtin "isinstance") (rIsX X.K a cls d) := by
  rintro pins s σ H _ us Q I r ⟨D, dd, fs, c, cv, b, rfl, C, rfl, ea, rfl, hcv, e, q⟩
  obtain ⟨u1, u2, rfl, r1, r2⟩ := vals2 r
  cases (show u1 = Value.ref a from r1)
  cases hcv.eq r2
  obtain ⟨mA, hns, _⟩ := (show ObjOk X.prog X.w H s.heap dd (.xd fs) from I.hok dd _ ea)
  obtain ⟨od, ho, _⟩ := lookIn_ns hns
  obtain ⟨vs, hv⟩ := hf
  have stands : PySem.W.InstAt s.heap a oe D (some od) := ⟨(I.pin (a, oe) (by simp)).1, hz.1, by rw [PySem.W.notCls, hv], hz.2 ▸ ho⟩
  have known : (PySem.W.clsIn X.K D).isSome = true := by
    obtain ⟨cd, h, _⟩ := PySem.W.any_some C.hd
    rw [h] <;> rfl
  refine PySem.W.kia_one (PySem.W.kitx_exc known C.hg C.hk C.hs C.ha C.hn C.ht C.hm) I.kIn stands e (fun z => nomatch z) fun tk => ?_
  exact ⟨.bl b, H, I.tok tk, rfl, q⟩
end L2
namespace PySem.W
open PySem
theorem xr_kit {K : Frag} {D C : Addr} {b : Bool} (hd : hasDictIn K C = true) (ht : typeIn K (.ref C) = some (.type "type")) (hs : subIn K (.ref D) (.ref C) = some b) (hself : subIn K (.ref C) (.ref C) = some true) : kitOne K (.ref D) (.ref C) = some b := by
  obtain ⟨cd, hc, _⟩ := any_some hd
  unfold kitOne
  by_cases e : D = C
  · subst e
    rw [hself] at hs
    rw [if_pos (by simp)]
    exact hs
  · rw [if_neg (by simpa using e)]
    show (if ((clsIn K C).isSome && typeIn K (.ref C) == some (.type "type")) = true then subIn K (.ref D) (.ref C) else none) = some b
    rw [if_pos (by rw [hc, ht] <;> rfl)]
    exact hs
theorem xr_kitV {K : Frag} {D : Addr} {T : String} {b : Bool} (hm : kitMeta T = true) (hs : subIn K (.ref D) (.type T) = some b) : kitOne K (.ref D) (.type T) = some b := by
  unfold kitOne
  rw [if_neg (by intro z; cases (beq_iff_eq.mp z))]
  show (if kitMeta T = true then subIn K (.ref D) (.type T) else none) = some b
  rw [if_pos hm]
  exact hs
end PySem.W
namespace L2
open PySem PySem.Spec PyProof.Rows
/-! ### o.m(e, ..), the method may raise; what is raised is wished for at the caller's slots -/
def tMethSS (C : Addr) (m : Str) (sp : Sp) (E : St → XK) (ta : TE) (t : TA) : TE := fun σ H Q => ta σ H fun x H1 => ∃ a dx fs, x = .ref a ∧ H1 a = some (.ins C dx fs) ∧ fs.lookup m = none ∧
  t σ H1 fun vs H2 => sp (x :: vs) H2 Q (E σ)
theorem pe_methSS {X : Cx} {CX : CXT} {k : Nat} {f C : Addr} {fd : FuncData} {ps : List Str} {sp : Sp} {E : St → XK} {m : Str} {pos apos : Pos} {e o : Expr} {es : List Expr} {ta : TE} {t : TA} {pl : Sem Bool}
    (he : PE X o ta) (c : Cls X.K C) (hm : Meth X.K C m f) (F : FnOk X.prog X.w X.K X.mg X.base CX k f fd ps sp) (hr : Room k X.A) (hb : Binds X.K fd ps []) (hx : ∀ σ, PassesAt CX X σ (E σ)) (ha : PA X (e :: es) t)
    (hst : starEach (e :: es) X.env = (false, eval e X.env) :: starEach es X.env := by rfl) (hpl : (backTo pos (starEach es X.env)).any (·.1) = false := by rfl)
    (ht : eval (.Call (.Attribute o m apos) (e :: es) [] pos) X.env = (do
      let ov ← eval o X.env
      standAt apos.atName
      let (f, first) ← holding [ov] (getMethod ov m pl)
      callWith pos f first (backTo pos (starEach (e :: es) X.env)) (backToKw pos (keywordEach [] X.env))) := by rfl) :
    PE X (.Call (.Attribute o m apos) (e :: es) [] pos) (tMethSS C m sp E ta t) := by
  constructor
  intro pins s σ H Q I h
  refine PySem.W.methodCall_KW (pl := pl) (thn (he.run pins s σ H _ I h) ?_) ht
  rintro ov s1 ⟨_, H1, I1, rx, r, dx, fs, rfl, er, l, q⟩
  cases (show ov = Value.ref r from rx)
  have args := ha.run pos pins s1 σ H1 _ I1 q
  refine getmeth_ok I1 er c hm l (PySem.W.callWith_K (first := [.ref r]) (h₀ := X.base) I1.ok.mod.kin hm.kp (thn args ?_) hst hpl)
  rintro us s2 ⟨vs, H2, I2, rv, asked⟩
  exact ⟨I2.kIn, run_fnS (us := .ref r :: us) (vs := .ref r :: vs) F hr hb (hx σ) I2 (.cons rfl rv) asked⟩
/-- a promise that nobody asks -/
theorem fn_none {P : Program} {w : World} {K : PySem.W.Frag} {mg : Str → Option Value} {base : Heap} {CX : CXT} {k : Nat} {f : Addr} {fd : FuncData} {ps : List Str} : FnOk P w K mg base CX k f fd ps (fun _ _ _ _ => False) :=
  ⟨fun _ _ _ _ h => h.elim, fun _ _ _ _ _ _ _ _ _ _ _ _ _ h => h.elim⟩
end L2
namespace L2
open PySem PySem.Spec PyProof.Rows
/-! ### within a comprehension's block: the written part named -/
theorem ix_tupK {X : Cx} (K : PySem.W.Frag) (h : X.K = K := by rfl) : IxR X (rIxT K) := by subst h; exact ix_tup
theorem ix_listK {X : Cx} (K : PySem.W.Frag) (h : X.K = K := by rfl) : IxR X (rIxL K) := by subst h; exact ix_list
theorem ix_seqK {X : Cx} (K : PySem.W.Frag) (h : X.K = K := by rfl) : IxR X (rIx K) := by subst h; exact ix_seq
def rLenK (K : PySem.W.Frag) : List V → Hp → VK → Prop := fun xs H Q => ∃ p ys, xs = [.ref p] ∧ (SqL K H p ys ∨ SqT K H p ys) ∧ Q (.int ys.length) H
theorem call_lenK {X : Cx} (K : PySem.W.Frag) (h : X.K = K := by rfl) : CallR X (.builtin "len") (rLenK K) := by subst h; exact call_len_seq
theorem op_inK {X : Cx} (K : PySem.W.Frag) (h : X.K = K := by rfl) : OpR X (compareOp .In) (rIn K false) := by subst h; exact op_in_seq
theorem op_notInK {X : Cx} (K : PySem.W.Frag) (h : X.K = K := by rfl) : OpR X (compareOp .NotIn) (rIn K true) := by subst h; exact op_notIn_seq
theorem pe_fldK {X : Cx} (K : PySem.W.Frag) {o : Expr} {f : Str} {pos : Pos} {ta : TE} (ha : PE X o ta) (hb : attributeBase o f X.env (eval o X.env) = eval o X.env) (h : X.K = K := by rfl) : PE X (.Attribute o f pos) (tFld K ta f) := by subst h; exact pe_fld ha hb
end L2

namespace L2
open PySem PySem.Spec PyProof.Rows
/-! ### sum of a list or of a tuple of whole numbers -/
theorem sum_go (val : Nat → Int) (ks : List Int) (h : ∀ (j : Nat) (x : Int), ks[j]? = some x → val j = x) : ∀ n, n ≤ ks.length → preSum val n = (ks.take n).sum
  | 0, _ => by rw [List.take_zero]; rfl
  | n + 1, hn => by
    have e := List.getElem?_eq_getElem (l := ks) (i := n) (by omega)
    rw [List.take_succ_eq_append_getElem (by omega), List.sum_append]
    show preSum val n + val n = _
    rw [sum_go val ks h n (by omega), h n _ e]
    simp
theorem sum_tup {prog : Program} {w : World} {A : Around} {E : Value → Shared → Prop} {s : Shared} {t : Addr} {us : List Value} {ks : List Int} {Q : Value → Shared → Prop} (hh : A.handled = none) (ht : s.heap.IsTuple t us.toArray) (hv : Vals (ks.map V.int) us)
    (h : ∀ h' tk t', (∀ b o, s.heap.get? b = some o → h'.get? b = some o) → Q (.int ks.sum t') { s with heap := h', toks := tk }) : wpAny (model prog w) A (call (.builtin "sum") [.ref t]) Q E s := by
  have hlen : us.length = ks.length := by rw [← hv.length, List.length_map]
  have lt : t < s.heap.objs.size := by obtain ⟨o, e, _⟩ := ht; exact Heap.lt_size e
  refine call_sum_walkG (wpAny_pyIter_tuple ht ?_)
  have up : ∀ {b : Addr} {o : Obj}, s.heap.get? b = some o → (s.heap.push { cls := .type "tuple_iterator", data := .fields #[.ref t, .int 0 0] }).get? b = some o := fun e => Heap.get?_push_of_some _ e
  refine ⟨s.heap.objs.size, _, _, _, _, _, fun j => (ks[j]?).getD 0, rfl, Walks.tuple (A := A.in1) hh _ t (Nat.ne_of_lt lt) us.toArray, ⟨⟨_, Heap.get?_push_size _ rfl, rfl, rfl⟩, ht.at fun o e => up e⟩, fun b hb => ?_, fun i v hi => ?_, fun h' tk t' hk => ?_⟩
  · show b < (s.heap.push _).objs.size
    rw [Heap.size_push]
    rcases List.mem_cons.mp hb with rfl | hb
    · exact Nat.lt_succ_self _
    · have : b = t := by simpa using hb
      rw [this]; exact Nat.lt_succ_of_lt lt
  · have hi' : us[i]? = some v := by simpa using hi
    have hk : i < ks.length := by rw [← hlen]; exact (List.getElem?_eq_some_iff.mp hi').1
    obtain ⟨u, e, tt, rfl⟩ := hv.get (i := i) (x := .int ks[i]) (by rw [List.getElem?_map, List.getElem?_eq_getElem hk]; rfl)
    rw [hi'] at e
    cases e
    exact ⟨tt, by dsimp only; rw [List.getElem?_eq_getElem hk]; rfl⟩
  · have nm : ∀ b o, s.heap.get? b = some o → b ∉ [s.heap.objs.size] := fun b o e hm => by
      have q : b = s.heap.objs.size := by simpa using hm
      rw [q] at e
      exact Nat.lt_irrefl _ (Heap.lt_size e)
    have z := h h' tk t' fun b o e => hk b o (nm b o e) (up e)
    have e : preSum (fun j => (ks[j]?).getD 0) us.toArray.size = ks.sum := by
      rw [List.size_toArray, hlen, sum_go _ ks (fun j x hj => by simp [hj]) _ (Nat.le_refl _), List.take_length]
    rw [e]
    exact z
def rSumA (K : PySem.W.Frag) : List V → Hp → VK → Prop := fun vs H Q => ∃ (a : Addr) (ns : List Int), vs = [V.ref a] ∧ (SqL K H a (ns.map V.int) ∨ SqT K H a (ns.map V.int)) ∧ Q (.int ns.sum) H
theorem cr_sumA {X : Cx} (hc : X.calm = true) : CallR X (.builtin "sum") (rSumA X.K) := by
  rintro pins s σ H vs us Q I r ⟨a, ns, rfl, hs | hs, q⟩
  · exact cr_sum hc pins s σ H _ us Q I r ⟨a, ns, rfl, hs, q⟩
  · obtain ⟨its, rv, ht, _⟩ := I.tuple hs
    rw [Vals.ref1 r]
    exact sum_tup (I.ok.hd hc) ht rv fun h' tk t' hk => ⟨.int _, H, I.kept hk, ⟨_, rfl⟩, q⟩
/-! ### a walk of a list or of a tuple -/
def PI.two {X : Cx} {tg : Expr} {l : Expr} {t1 t2 : TI} (h1 : PI X tg l t1) (h2 : PI X tg l t2) : PI X tg l (fun σ H R => t1 σ H R ∨ t2 σ H R) :=
  ⟨fun pins s σ H R I h => h.elim (h1.run pins s σ H R I) (h2.run pins s σ H R I)⟩
theorem pi_seq {X : Cx} {tg l : Expr} {tl : TE} (hl : PE X l tl) : PI X tg l (fun σ H R => iList X.K tl σ H R ∨ iTup X.K tl σ H R) := PI.two (pi_list hl) (pi_tup hl)
/-! ### powers of any base -/
def CPowW (i j : Int) : Prop := 0 ≤ j ∧ (Builtin.Int.intBits i : Int) * j ≤ 2 ^ 27
theorem op_powW {X : Cx} : OpR X (binaryOp .Pow) (rI CPowW fun i j => .int (i ^ j.toNat)) := opI fun _ _ _ _ _ _ _ hc q => pow_int hc.1 hc.2 q
/-! ### several except clauses, each with a name or without -/
/-- an exception of the class cls at a has come back to the frame that looks at it; sI: the state without it -/
structure Landed (X : Cx) (pins : List (Addr × Obj)) (σ : St) (H : Hp) (a : Addr) (cls : Value) (d : Option Addr) (B : Heap) (sI s : Shared) : Prop where
  inv : Inv X pins σ H sI
  grd : ∀ b o, sI.heap.get? b = some o → b ∉ frs X.stack → B.get? b = some o
  up : sI.heap.UpToSlots s.heap
  fly : HandSPX.FlyingZ B (X.env :: X.outer) a (Zc cls d) s.heap
  no : H a = none
  os : s.os = sI.os
  gens : AllBare s.gens
section
variable {X : Cx} {pins : List (Addr × Obj)} {σ : St} {H : Hp} {a : Addr} {cls : Value} {d : Option Addr} {B : Heap} {sI s : Shared}
theorem Landed.now (L : Landed X pins σ H a cls d B sI s) : Inv X pins σ H s := L.inv.landed L.grd L.fly.1 L.up L.os L.gens
theorem Landed.apart (L : Landed X pins σ H a cls d B sI s) (hf : X.env.frame = some X.env.locals) : a ≠ X.env.locals ∧ a ∉ X.fs := by
  obtain ⟨oe, vs, he, _, hd⟩ := L.fly.there
  have out : a ∉ frs (X.env :: X.outer) := fun hm => by
    obtain ⟨_, o, e, no⟩ := L.fly.2.2.1.mem hm
    rw [he] at e
    cases e
    exact no _ hd
  refine ⟨fun z => out (List.mem_filterMap.mpr ⟨X.env, List.mem_cons_self, by rw [hf, z]⟩), fun hm => ?_⟩
  obtain ⟨e, he', q⟩ := List.mem_filterMap.mp hm
  exact out (List.mem_filterMap.mpr ⟨e, List.mem_cons_of_mem _ he', q⟩)
/-- in the suite's context -/
theorem Landed.suite (L : Landed X pins σ H a cls d B sI s) (hf : X.env.frame = some X.env.locals) : ∃ oe, Zc cls d oe ∧ (∃ vs, oe.data = .fields vs) ∧ Inv (X.suite a ((a, oe) :: (X.pn ++ pins))) [] σ H s := by
  obtain ⟨oe, vs, he, hz, hd⟩ := L.fly.there
  obtain ⟨n1, n2⟩ := L.apart hf
  exact ⟨oe, hz, ⟨vs, hd⟩, L.now.suite he hd L.no n1 n2⟩
theorem Landed.free (L : Landed X pins σ H a cls d B sI s) {M : Model} {A : Around} {E : Value → Shared → Prop} {Q : Unit → Shared → Prop} (h : ∀ s', Landed X pins σ H a cls d B sI s' → Q () s') : wpAny M A (setFlight (.ref a) none) Q E s :=
  HandSPX.lands_againZ L.fly fun h' f u => h _ ⟨L.inv, L.grd, L.up.trans u, f, L.no, L.os, L.gens⟩
end
/-- what these clauses wish of an exception, and that they do it -/
structure Hds (X : Cx) (hds : List ExceptHandler) (W : Ends → WX) : Prop where
  run : ∀ (pins : List (Addr × Obj)) (σ : St) (H : Hp) (a : Addr) (cls : Value) (d : Option Addr) (B : Heap) (sI s : Shared) (D : Ends), Landed X pins σ H a cls d B sI s → W D cls d σ H →
    wpAny (model X.prog X.w) X.A (handleBy (.ref a) X.env hds) (SP X pins D) X.xe s
section
variable {X : Cx} {x n : Str} {c : Value} {i : Nat} {suite : List Stmt} {b₀ : Stmt} {np pos' : Pos} {ts : Addr → Value → Option Addr → TS} {Wout : WX} {hds : List ExceptHandler} {W : Ends → WX}
theorem hds_nil (hs : X.stack = X.env :: X.outer) (hf : X.env.frame = some X.env.locals) (tk : Takes X Wout) : Hds X [] (fun _ => Wout) := by
  refine ⟨fun pins σ H a cls d B sI s D L w => wpAny_handleBy_nil ?_⟩
  obtain ⟨_, _, _, oe, vs, T, _, _, he, _, hd, h1, _⟩ := id L.fly
  unfold PySem.passOn
  refine wpAny_bind (wpAny_field he hd h1 ?_)
  rw [if_neg (show ¬ ((Value.ref T == Value.none) = true) from by simp)]
  have on : wpAny (model X.prog X.w) X.A (setFlight (.ref a) X.env.frame) (fun _ s4 => wpAny (model X.prog X.w) X.A (throw (.ref a) : Sem Flow) (SP X pins D) X.xe s4) X.xe s := by
    rw [hf]
    refine HandSPX.setFlight_upZ L.fly fun h' held u => wpAny_throw (tk _ _ ?_)
    exact ⟨a, B, sI, pins, σ, H, cls, d, rfl, L.inv, L.grd, L.up.trans u, .inr (.inr (by rw [hs]; exact held)), L.no, L.os, L.gens, w⟩
  first
    | exact wpAny_bind (wpAny_pure (wpAny_bind on))
    | exact wpAny_bind on
/-- the clause's own test, asked in the suite's marks -/
theorem hds_test {pins : List (Addr × Obj)} {σ : St} {H : Hp} {a : Addr} {cls : Value} {d : Option Addr} {B : Heap} {sI s : Shared} {b : Bool} {E : Value → Shared → Prop} {R : Bool → Shared → Prop} (hf : X.env.frame = some X.env.locals) (hc : Names X x c) (L : Landed X pins σ H a cls d B sI s) (hb : PySem.W.exmOne X.K cls c = some b)
    (h : R b s) : wpAny (model X.prog X.w) (X.A.mark (some (.ref a))) (eval (.Name x np) X.env) (fun v s1 => wpAny (model X.prog X.w) (X.A.mark (some (.ref a))) (excMatches (.ref a) v) R E s1) E s := by
  obtain ⟨oe, vs, he, hz, hd⟩ := L.fly.there
  have ty : PySem.W.Looks (model X.prog X.w) s.heap (typeOf (.ref a)) cls := fun A Q E s k q => wpAny_typeOf_ref (k _ _ he) (by rw [hz.1]; exact q)
  have it := (PySem.W.exm_one (M := model X.prog X.w) L.now.kIn ty hb).here (A := X.A.mark (some (.ref a))) (E := E) (Q := R) h
  obtain ⟨n1, n2⟩ := L.apart hf
  have S := L.now.suite he hd L.no n1 n2
  obtain ⟨hg, hdbg, hm | ⟨hm, hv, hnn⟩⟩ := hc
  · exact ld_glob (X := X.suite a ((a, oe) :: (X.pn ++ pins))) S hg hm it hdbg
  · exact ld_blt (X := X.suite a ((a, oe) :: (X.pn ++ pins))) S hg hm hv it hnn hdbg
/-- except x as n: suite; slot i is n's -/
theorem hds_as (hf : X.env.frame = some X.env.locals) (hN : X.N.Nodup) (hi : X.N[i]? = some n) (hln : X.env.kindOf n = some .local) (hc : Names X x c)
    (hsu : ∀ (a : Addr) (oe : Obj) (cls : Value) (d : Option Addr) (pn : List (Addr × Obj)), Zc cls d oe → (∃ vs, oe.data = .fields vs) → PSs (X.suite a ((a, oe) :: pn)) (b₀ :: suite) (ts a cls d)) (r : Hds X hds W) :
    Hds X (.ExceptHandler (some (.Name x np)) (some n) (b₀ :: suite) pos' :: hds) (fun D cls d σ H => ∃ b, PySem.W.exmOne X.K cls c = some b ∧
      (b = true → ∀ a, H a = none → ts a cls d { nx := fun σ' H' => D.nx (σ'.set i none) H', rt := D.rt, bk := fun σ' H' => D.bk (σ'.set i none) H', ct := fun σ' H' => D.ct (σ'.set i none) H' } (σ.set i (some (.ref a))) H) ∧ (b = false → W D cls d σ H)) := by
  refine ⟨fun pins σ H a cls d B sI s D L ⟨b, hb, yes, no⟩ => ?_⟩
  refine wpAny_handleBy_cons (codeAny_handlers_test (hds_test hf hc L hb ?_)) (by intro q; cases q)
  cases b with
  | false => exact r.run pins σ H a cls d B sI s D L (no rfl)
  | true =>
    refine codeAny_handlers_suite_as (L.free fun s1 L1 => ?_)
    obtain ⟨oe, hz, hv, S1⟩ := L1.suite hf
    refine store_ok (X := X.suite a ((a, oe) :: (X.pn ++ pins))) (v := .ref a) S1 hN hi (.inl hln) rfl (fun s2 S2 => ?_) (.inr hln)
    refine wpAny_mono ((hsu a oe cls d (X.pn ++ pins) hz hv).run [] s2 _ H _ S2 (yes rfl a L.no)) (fun f s3 q => ?_) (fun _ _ z => False.elim z)
    have gone : ∀ {σ' : St} {H' : Hp} {Q : Shared → Prop}, Inv (X.suite a ((a, oe) :: (X.pn ++ pins))) [] σ' H' s3 → (∀ s4, Inv X pins (σ'.set i none) H' s4 → Q s4) →
        wpAny (model X.prog X.w) X.A (do bindName X.env n .none; unbindBehindTheSuite X.env n pos') (fun _ s4 => Q s4) X.xe s3 := fun S hq => gone_ok (S.unsuite L.inv.ok) hN hi hln hq
    cases f with
    | next => obtain ⟨_, _, S3, q3⟩ := q; exact gone S3 fun s4 J => ⟨_, _, J, q3⟩
    | brk => obtain ⟨_, _, S3, q3⟩ := q; exact gone S3 fun s4 J => ⟨_, _, J, q3⟩
    | cont => obtain ⟨_, _, S3, q3⟩ := q; exact gone S3 fun s4 J => ⟨_, _, J, q3⟩
    | ret u => obtain ⟨_, _, _, S3, r3, q3⟩ := q; exact gone S3 fun s4 J => ⟨_, _, _, J, r3, q3⟩
/-- except x: suite -/
theorem hds_only (hf : X.env.frame = some X.env.locals) (hc : Names X x c)
    (hsu : ∀ (a : Addr) (oe : Obj) (cls : Value) (d : Option Addr) (pn : List (Addr × Obj)), Zc cls d oe → (∃ vs, oe.data = .fields vs) → PSs (X.suite a ((a, oe) :: pn)) (b₀ :: suite) (ts a cls d)) (r : Hds X hds W) :
    Hds X (.ExceptHandler (some (.Name x np)) none (b₀ :: suite) pos' :: hds) (fun D cls d σ H => ∃ b, PySem.W.exmOne X.K cls c = some b ∧ (b = true → ∀ a, H a = none → ts a cls d D σ H) ∧ (b = false → W D cls d σ H)) := by
  refine ⟨fun pins σ H a cls d B sI s D L ⟨b, hb, yes, no⟩ => ?_⟩
  refine wpAny_handleBy_cons (codeAny_handlers_test (hds_test hf hc L hb ?_)) (by intro q; cases q)
  cases b with
  | false => exact r.run pins σ H a cls d B sI s D L (no rfl)
  | true =>
    refine codeAny_handlers_suite (L.free fun s1 L1 => ?_)
    obtain ⟨oe, hz, hv, S1⟩ := L1.suite hf
    refine wpAny_mono ((hsu a oe cls d (X.pn ++ pins) hz hv).run [] s1 _ H _ S1 (yes rfl a L.no)) (fun f s3 q => ?_) (fun _ _ z => False.elim z)
    cases f with
    | next => obtain ⟨_, _, S3, q3⟩ := q; exact ⟨_, _, S3.unsuite L.inv.ok, q3⟩
    | brk => obtain ⟨_, _, S3, q3⟩ := q; exact ⟨_, _, S3.unsuite L.inv.ok, q3⟩
    | cont => obtain ⟨_, _, S3, q3⟩ := q; exact ⟨_, _, S3.unsuite L.inv.ok, q3⟩
    | ret u => obtain ⟨_, _, _, S3, r3, q3⟩ := q; exact ⟨_, _, _, S3.unsuite L.inv.ok, r3, q3⟩
theorem ps_try_hds {body : List Stmt} {h₀ : ExceptHandler} {pos : Pos} {tb : WX → TS} (hs : X.stack = X.env :: X.outer) (hf : X.env.frame = some X.env.locals)
    (hb : ∀ (W' : WX) (pn : List (Addr × Obj)) (xe : Value → Shared → Prop), Takes (X.tr pn xe) W' → PassesOwn (model X.prog X.w) X.A X.env xe → PSs (X.tr pn xe) body (tb W')) (r : Hds X (h₀ :: hds) W) :
    PS X (.Try body (h₀ :: hds) [] [] pos) (fun D σ H => tb (W D) D σ H) := by
  refine ⟨fun pins s σ H D I h => ?_⟩
  have ok := I.ok
  have hfr : X.A.frames = some (X.env :: X.outer) := by rw [ok.frames, hs]
  refine wpAny_Try_except ?_
  have took := hb (W D) (X.pn ++ pins) (fun e s₁ => wpAny (model X.prog X.w) X.A (noteFrame e X.env) (fun _ s₂ => wpAny (model X.prog X.w) X.A (setFlight e none) (fun _ s₃ =>
    wpAny (model X.prog X.w) X.A (handleBy e X.env (h₀ :: hds)) (SP X pins D) X.xe s₃) X.xe s₂) X.xe s₁) ?_ PassesOwn.looking
  · refine wpAny_mono (took.run [] s σ H D (I.toTry _) h) (fun f s1 q => ?_) (fun _ _ z => z)
    cases f with
    | next => obtain ⟨_, _, J, q⟩ := q; exact wpAny_execs_nil ⟨_, _, J.ofTry ok, q⟩
    | brk => obtain ⟨_, _, J, q⟩ := q; exact ⟨_, _, J.ofTry ok, q⟩
    | cont => obtain ⟨_, _, J, q⟩ := q; exact ⟨_, _, J.ofTry ok, q⟩
    | ret u => obtain ⟨_, _, _, J, r, q⟩ := q; exact ⟨_, _, _, J.ofTry ok, r, q⟩
  · rintro u s' ⟨a, B, sI, pins', σ', H', cls, d, rfl, J', nb, up, sky, na, os, ag, w⟩
    have sky' : Sky B (X.env :: X.outer) a (Zc cls d) X.env.locals s'.heap := by rw [← hs]; exact sky
    exact Sky.land Zc.steady hfr hf sky' fun h3 fl up3 => r.run pins σ' H' a cls d B sI _ D ⟨J'.ofTry ok, nb, up.trans up3, fl, na, os, ag⟩ w
end
/-! ### C.m() where m is a staticmethod of the class at C -/
structure SMet (K : PySem.W.Frag) (C : Addr) (mc : Value) (m : Str) (p g : Addr) : Prop where
  found : PySem.W.findCls K (.ref C) mc m = some (.get (.builtin "staticmethod.__get__") (.ref p) .none (.ref C))
  held : ∃ rest, PySem.W.recIn K p "staticmethod" = some (.ref g :: rest)
def tSMeth (C : Addr) (sp : Sp) (dvs : List V) (E : XK) (ta : TE) : TE := fun σ H Q => ta σ H fun x H1 => x = .ref C ∧ sp dvs H1 Q E
theorem pe_smeth0 {X : Cx} {CX : CXT} {k : Nat} {C p g : Addr} {mc : Value} {fd : FuncData} {ps : List Str} {ds : List Value} {dvs : List V} {sp : Sp} {E : XK} {o : Expr} {m : Str} {pos apos : Pos} {ta : TE} {pl : Sem Bool}
    (ho : PE X o ta) (r : ClX.CRead X.K C mc) (c : SMet X.K C mc m p g) (F : FnOk X.prog X.w X.K X.mg X.base CX k g fd ps sp) (room : Room k X.A) (kp : PySem.W.keepIn X.K (.ref g) = true) (hb : Binds X.K fd ps ds) (hd : Vals dvs ds) (hx : Passes CX X E)
    (form : eval (.Call (.Attribute o m apos) [] [] pos) X.env = (do
      let ov ← eval o X.env
      standAt apos.atName
      let (f, first) ← holding [ov] (getMethod ov m pl)
      callWith pos f first (backTo pos (starEach [] X.env)) (backToKw pos (keywordEach [] X.env))) := by rfl) :
    PE X (.Call (.Attribute o m apos) [] [] pos) (tSMeth C sp dvs E ta) := by
  refine ⟨fun pins s σ H Q I h => PySem.W.methodCall_KW (pl := pl) (thn (ho.run pins s σ H _ I h) fun u s1 ⟨x, H1, I1, rx, ex, q⟩ => ?_) form⟩
  subst ex
  obtain rfl : u = Value.ref C := rx
  obtain ⟨rest, hp⟩ := c.held
  refine PySem.W.method_cls I1.kIn r.ga (PySem.W.cls_bind I1.kIn r.rd c.found (wpAny_call (PySem.W.sm_get (s := { s1 with toks := s1.toks + 1 }) I1.kIn hp (PySem.W.handed_on rfl ?_))))
  exact PySem.W.callWith_K0 I1.kIn kp (run_fn (us := []) F room hb hd hx (I1.tok _) .nil q)
/-! ### a def without loops and calls, called while an exception is handled (its context is of no matter) -/
structure FnC (P : Program) (w : World) (K : PySem.W.Frag) (mg : Str → Option Value) (base : Heap) (k : Nat) (f : Addr) (fd : FuncData) (ps : List Str) (sp : Sp) : Prop where
  arity : ∀ vs H Q E, sp vs H Q E → vs.length = ps.length
  goes : ∀ (A : Around) (outer : List Env) (s : Shared) (H : Hp) (args : Args) (us : List Value) (vs : List V) (Q : VK), L2H.RoomH k A → Env0 P w K mg base A outer s H → BindsTo s fd args (ps.zip us) → Vals vs us → sp vs H Q E0 →
    codeAny (model P w) A (.call (.ref f) args) (CR CX0 outer P w H s Q E0) s
def cxC (P : Program) (w : World) (K : PySem.W.Frag) (mg : Str → Option Value) (base : Heap) (N : List Str) (qual : Str) (scope : Scope) (f : Addr) (cd : Value) (A : Around) (outer : List Env) (s : Shared) (H : Hp) : Cx :=
  { cxOf CX0 P w K mg base N qual scope f cd A outer s H E0 with calm := false, xe := fun _ _ => False }
theorem Fun.okC {P : Program} {w : World} {K : PySem.W.Frag} {mg : Str → Option Value} {base : Heap} {x qual : Str} {st : Stmt} {f : Addr} {fd : FuncData} {N ps : List Str} {k : Nat} {sp : Sp} (F : Fun K x qual st f fd) (S : FnScope N ps (defScope st)) (ar : ∀ vs H Q E, sp vs H Q E → vs.length = ps.length)
    (body : ∀ (cdv : Value) (A : Around) (outer : List Env) (s : Shared) (H : Hp) (vs : List V) (Q : VK), sp vs H Q E0 →
      ∃ t, PSs (cxC P w K mg base N qual (defScope st) f cdv A outer s H) (defBody st) t ∧ t { nx := fun _ H' => Q .non H', rt := Q } (start N vs) H) : FnC P w K mg base (k + 1) f fd ps sp := by
  obtain ⟨oc, od, kV, doc, pm, an, cdv, ct, osl, rfl, lk, hcd⟩ := F.ex
  refine ⟨ar, fun A outer s H args us vs Q room e0 hb rv want => ?_⟩
  have stands := fun b o e => (e0.bs b o e).1
  have KX : K.In s.heap := e0.mod.kin.keeps stands
  have slot : ∀ y ∈ ps.zip us, (defScope st).names.lookup y.1 = some .local ∨ ((defScope st).names.lookup y.1 = some .cell ∧ ((cellsFrom (s.heap.objs.size + 1) (defScope st).names []).lookup y.1).isSome = true) := by
    rintro ⟨n, v⟩ hy
    exact (S.par n (List.of_mem_zip hy).1).imp id fun q => ⟨q, PySem.W.cellsFrom_some _ _ _ (.inl q)⟩
  refine codeAny_call_function room.depth (KX _ _ lk) rfl S.co S.gen rfl (PySem.W.codeRec_of KX hcd) (hb _ _ _ _ (wpAny_newFunctionEnv_cells S.kind slot fun env he s1 x => ?_))
  cases he
  refine ⟨(e0.mod.nolimit.keeps stands).keeps x.toInCall.keep, codeAny_func ?_⟩
  obtain ⟨t, ht, hq⟩ := body cdv A outer s H vs Q want
  have e1 : Env0 P w K mg base { A with handled := none } outer s H := { e0 with frames := e0.frames }
  have I0 := inv_start (CX := CX0) (E := E0) (cd := cdv) S rfl e1 (ar _ _ _ _ want) rv x
  have I : Inv (cxC P w K mg base N qual (defScope st) f cdv A outer s H) [] (start N vs) H s1 :=
    ⟨{ I0.ok with hd := (fun z => nomatch z), frames := Around.frames_deeper e0.frames }, I0.os, I0.bare, I0.base, I0.loc, I0.cell, I0.free, I0.freeC, I0.pin, I0.hok, I0.len⟩
  refine wpAny_mono (ht.run [] s1 _ H _ I hq) (fun fl s' z => ?_) (fun e s' z => False.elim z)
  cases fl with
  | next => obtain ⟨_, H', J, q⟩ := z; exact ⟨.non, H', J.os, J.bare, J.base, J.hok, rfl, q⟩
  | ret u => obtain ⟨v, _, H', J, rr, q⟩ := z; exact ⟨v, H', J.os, J.bare, J.base, J.hok, rr, q⟩
  | brk => exact (let ⟨_, _, _, q⟩ := z; False.elim q)
  | cont => exact (let ⟨_, _, _, q⟩ := z; False.elim q)
theorem pe_callC {X : Cx} {k : Nat} {f : Addr} {fd : FuncData} {ps : List Str} {sp : Sp} {x : Str} {p pos : Pos} {e : Expr} {es : List Expr} {t : TA} (F : FnC X.prog X.w X.K X.mg X.base k f fd ps sp) (room : L2H.RoomH k X.A) (hg : Gl X x) (hm : X.mg x = some (.ref f)) (kp : PySem.W.keepIn X.K (.ref f) = true) (hb : Binds X.K fd ps []) (ha : PA X (e :: es) t)
    (dbg : (x == ("__debug__" : Str)) = false := by decide) (one : starEach (e :: es) X.env = (false, eval e X.env) :: starEach es X.env := by rfl) (plain : (backTo pos (starEach es X.env)).any (·.1) = false := by rfl) :
    PE X (.Call (.Name x p) (e :: es) [] pos) (fun σ H Q => t σ H fun vs H1 => sp vs H1 Q E0) := by
  refine ⟨fun pins s σ H Q I h => wpAny_Call_Name_kw (ld_glob I hg hm (PySem.W.callWith_K (h₀ := X.base) I.ok.mod.kin kp (thn (ha.run pos pins s σ H _ I h) fun us s1 ⟨vs, H1, I1, r, q⟩ => ⟨I1.kIn, ?_⟩) one plain) dbg)⟩
  have b := hb s1 us I1.kIn (by rw [List.append_nil, ← r.length]; exact F.arity _ _ _ _ q)
  rw [List.append_nil] at b
  refine wpAny_call (codeAny_mono (F.goes X.A X.stack s1 H1 ⟨us, []⟩ us vs Q room I1.env0 b r q) fun z s' c => ?_)
  cases z with
  | error e => exact False.elim c
  | ok fl =>
    cases fl with
    | ret u => exact I1.after c
    | next => exact False.elim c
    | brk => exact False.elim c
    | cont => exact False.elim c
end L2

namespace L2
open PySem PySem.Spec PyProof.Rows
/-! ### frames -/
def But (p : Addr) (H H' : Hp) : Prop := ∀ b o, H b = some o → b ≠ p → H' b = some o
theorem But.refl (p : Addr) (H : Hp) : But p H H := fun _ _ h _ => h
theorem But.same {p : Addr} {H H1 H2 : Hp} (a : Same H H1) (b : But p H1 H2) : But p H H2 := fun c o h n => b c o (a c o h) n
theorem But.thenS {p : Addr} {H H1 H2 : Hp} (a : But p H H1) (b : Same H1 H2) : But p H H2 := fun c o h n => b c o (a c o h n)
theorem But.upd {p : Addr} {H H1 : Hp} {o : HO} (a : But p H H1) : But p H (upd H1 p o) := fun c o' h n => by rw [upd_ne n]; exact a c o' h n
theorem But.trans {p : Addr} {H H1 H2 : Hp} (a : But p H H1) (b : But p H1 H2) : But p H H2 := fun c o h n => b c o (a c o h n) n
/-- what was new at H's time may be anything -/
theorem But.new {p : Addr} {H H2 : Hp} (h : H p = none) (b : But p H H2) : Same H H2 := fun c o e => b c o e (ne_of_none e h)
theorem Same.new {H : Hp} {p : Addr} {o : HO} (h : H p = none) : Same H (upd H p o) := fun b u e => by rw [upd_ne (ne_of_none e h)]; exact e
theorem Same.sqT {K : PySem.W.Frag} {H H' : Hp} {p : Addr} {xs : List V} (s : Same H H') (h : SqT K H p xs) : SqT K H' p xs := by
  rcases h with (h | ⟨o, h⟩) | h
  · exact Or.inl (Or.inl (s _ _ h))
  · exact Or.inl (Or.inr ⟨o, s _ _ h⟩)
  · exact Or.inr h
/-- a list or a tuple -/
def SqA (K : PySem.W.Frag) (H : Hp) (p : Addr) (xs : List V) : Prop := SqL K H p xs ∨ SqT K H p xs
theorem Same.sqA {K : PySem.W.Frag} {H H' : Hp} {p : Addr} {xs : List V} (s : Same H H') (h : SqA K H p xs) : SqA K H' p xs := h.imp (fun h => s.seq h) fun h => s.sqT h
/-! ### whole numbers in a list -/
theorem ints_get {ks : List Int} {i : Nat} {x : V} (h : (ks.map V.int)[i]? = some x) : ∃ z, ks[i]? = some z ∧ x = .int z := by
  rw [List.getElem?_map] at h
  cases e : ks[i]? with
  | none => rw [e] at h; cases h
  | some z => rw [e] at h; cases h; exact ⟨z, rfl, rfl⟩
theorem ints_at {ks : List Int} {i : Nat} {z : Int} (h : ks[i]? = some z) : (ks.map V.int)[i]? = some (.int z) := by
  rw [List.getElem?_map, h]; rfl
theorem take_snoc {α : Type} {l : List α} {i : Nat} {x : α} (h : l[i]? = some x) : l.take (i + 1) = l.take i ++ [x] := by
  obtain ⟨h1, rfl⟩ := List.getElem?_eq_some_iff.mp h
  exact List.take_succ_eq_append_getElem h1
/-! ### comprehensions without effects: the items that are kept, their elements -/
section
variable {K : PySem.W.Frag} {a : Addr} {xs : List V} {tt : TT} {te : TE} {vs : List Nat} {σ : St} {H1 : Hp} {Q : VK} {i0 : Nat} {keep : V → Bool} {f : V → V}
theorem comp_step {D : Addr} {H : Hp} {x : V} {i : Nat} {Pv : Hp → Prop} (hx : xs[i]? = some x) (hz : xs.length ≤ 1000000) (h : H D = some (.lst (((xs.take i).filter keep).map f)))
    (ht : Ans tt ((wipe σ vs).set i0 (some x)) H (keep x)) (he : keep x = true → Val te ((wipe σ vs).set i0 (some x)) H (f x))
    (put : ∀ H', H' D = some (.lst (((xs.take (i + 1)).filter keep).map f)) → (∀ b, b ≠ D → H' b = H b) → Pv H') :
    tt ((wipe σ vs).set i0 (some x)) H fun b H3 => if b = true then te ((wipe σ vs).set i0 (some x)) H3 fun y H4 => ∃ acc, H4 D = some (.lst acc) ∧ acc.length < sizeLine ∧ Pv (upd H4 D (.lst (acc ++ [y]))) else Pv H3 := by
  have e : (xs.take (i + 1)).filter keep = (xs.take i).filter keep ++ (if keep x = true then [x] else []) := by
    rw [take_snoc hx, List.filter_append]
    congr 1
    by_cases k : keep x = true <;> simp [k]
  refine ht _ ?_
  by_cases k : keep x = true
  · rw [if_pos k]
    refine he k _ ⟨_, h, ?_, put _ ?_ fun b nb => upd_ne nb⟩
    · have l1 : (((xs.take i).filter keep).map f).length ≤ xs.length := by
        rw [List.length_map]
        exact Nat.le_trans (List.length_filter_le _ _) (by rw [List.length_take]; exact Nat.min_le_right _ _)
      exact Nat.lt_of_le_of_lt (Nat.le_trans l1 hz) (by decide)
    · rw [upd_same, e, if_pos k, List.map_append]
      rfl
  · rw [if_neg k]
    refine put H ?_ fun b _ => rfl
    rw [h, e, if_neg k, List.append_nil]
theorem comp_list (keep : V → Bool) (f : V → V) (hp : SqL K H1 a xs) (hz : xs.length ≤ 1000000) (hw : ∀ x, wipe ((wipe σ vs).set i0 (some x)) vs = wipe σ vs)
    (ht : ∀ (i : Nat) x H, xs[i]? = some x → Same H1 H → Ans tt ((wipe σ vs).set i0 (some x)) H (keep x)) (he : ∀ (i : Nat) x H, xs[i]? = some x → keep x = true → Same H1 H → Val te ((wipe σ vs).set i0 (some x)) H (f x))
    (hd : ∀ D H', H1 D = none → H' D = some (.lst ((xs.filter keep).map f)) → Same H1 H' → Q (.ref D) H') : tLc (fun _ H R => R (Itl K a) H) (gName i0) tt te vs σ H1 Q := by
  refine fun D hD => lc_list (xs := xs) (fun i H' => H' D = some (.lst (((xs.take i).filter keep).map f)) ∧ Same H1 H') ⟨upd_same, Same.new hD⟩ (fun i H' _ p => p.2.seq hp) ?_ ?_
  · rintro i x H' hx ⟨h1, h2⟩
    refine ⟨hw x, comp_step hx hz h1 (ht i x H' hx h2) (fun k => he i x H' hx k h2) fun H2 e1 e2 => ⟨e1, fun b o z => ?_⟩⟩
    rw [e2 b (ne_of_none z hD)]
    exact h2 b o z
  · rintro H' ⟨h1, h2⟩
    rw [List.take_length] at h1
    exact hd D H' hD h1 h2
theorem comp_tup (keep : V → Bool) (f : V → V) (hp : SqT K H1 a xs) (hz : xs.length ≤ 1000000) (hw : ∀ x, wipe ((wipe σ vs).set i0 (some x)) vs = wipe σ vs)
    (ht : ∀ (i : Nat) x H, xs[i]? = some x → Same H1 H → Ans tt ((wipe σ vs).set i0 (some x)) H (keep x)) (he : ∀ (i : Nat) x H, xs[i]? = some x → keep x = true → Same H1 H → Val te ((wipe σ vs).set i0 (some x)) H (f x))
    (hd : ∀ D H', H1 D = none → H' D = some (.lst ((xs.filter keep).map f)) → Same H1 H' → Q (.ref D) H') : tLc (fun _ H R => R (Itt K a) H) (gName i0) tt te vs σ H1 Q := by
  refine fun D hD => lc_tup (xs := xs) (fun i H' => H' D = some (.lst (((xs.take i).filter keep).map f)) ∧ Same H1 H') ⟨upd_same, Same.new hD⟩ (fun i H' _ p => p.2.sqT hp) ?_ ?_
  · rintro i x H' hx ⟨h1, h2⟩
    refine ⟨hw x, comp_step hx hz h1 (ht i x H' hx h2) (fun k => he i x H' hx k h2) fun H2 e1 e2 => ⟨e1, fun b o z => ?_⟩⟩
    rw [e2 b (ne_of_none z hD)]
    exact h2 b o z
  · rintro H' ⟨h1, h2⟩
    rw [List.take_length] at h1
    exact hd D H' hD h1 h2
theorem comp_L {tl : TE} (keep : V → Bool) (f : V → V) (hl : ∀ R : V → Hp → Prop, R (.ref a) H1 → tl σ H1 R) (hp : SqL K H1 a xs) (hz : xs.length ≤ 1000000) (hw : ∀ x, wipe ((wipe σ vs).set i0 (some x)) vs = wipe σ vs)
    (ht : ∀ (i : Nat) x H, xs[i]? = some x → Same H1 H → Ans tt ((wipe σ vs).set i0 (some x)) H (keep x)) (he : ∀ (i : Nat) x H, xs[i]? = some x → keep x = true → Same H1 H → Val te ((wipe σ vs).set i0 (some x)) H (f x))
    (hd : ∀ D H', H1 D = none → H' D = some (.lst ((xs.filter keep).map f)) → Same H1 H' → Q (.ref D) H') : tLc (iList K tl) (gName i0) tt te vs σ H1 Q := hl _ ⟨a, rfl, ⟨_, hp⟩, comp_list keep f hp hz hw ht he hd⟩
/-- the whole numbers from lo on, n of them -/
def rng (lo : Int) (n : Nat) : List V := (List.range n).map fun i => V.int (lo + (i : Nat))
theorem rng_get {lo : Int} {n i : Nat} (h : i < n) : (rng lo n)[i]? = some (.int (lo + i)) := by simp [rng, h]
theorem rng_len {lo : Int} {n : Nat} : (rng lo n).length = n := by simp [rng]
theorem comp_range (keep : V → Bool) (f : V → V) {lo : Int} {n : Nat} (hz : n ≤ 1000000) (hw : ∀ x, wipe ((wipe σ vs).set i0 (some x)) vs = wipe σ vs)
    (ht : ∀ (i : Nat) H, i < n → Same H1 H → Ans tt ((wipe σ vs).set i0 (some (.int (lo + i)))) H (keep (.int (lo + i)))) (he : ∀ (i : Nat) H, i < n → keep (.int (lo + i)) = true → Same H1 H → Val te ((wipe σ vs).set i0 (some (.int (lo + i)))) H (f (.int (lo + i))))
    (hd : ∀ D H', H1 D = none → H' D = some (.lst (((rng lo n).filter keep).map f)) → Same H1 H' → Q (.ref D) H') : tLc (fun _ H R => R (Itr lo n) H) (gName i0) tt te vs σ H1 Q := by
  refine fun D hD => lc_range (fun i H' => H' D = some (.lst ((((rng lo n).take i).filter keep).map f)) ∧ Same H1 H') ⟨upd_same, Same.new hD⟩ ?_ ?_
  · rintro i H' hi ⟨h1, h2⟩
    refine ⟨hw _, comp_step (rng_get hi) (by rw [rng_len]; exact hz) h1 (ht i H' hi h2) (fun k => he i H' hi k h2) fun H2 e1 e2 => ⟨e1, fun b o z => ?_⟩⟩
    rw [e2 b (ne_of_none z hD)]
    exact h2 b o z
  · rintro H' ⟨h1, h2⟩
    have e : (rng lo n).take n = rng lo n := by rw [List.take_of_length_le (by rw [rng_len]; exact Nat.le_refl _)]
    rw [e] at h1
    exact hd D H' hD h1 h2
end
/-! ### values and tests of whole numbers -/
section
variable {σ : St} {H : Hp} {K : PySem.W.Frag} {ta tb tc : TE} {t u : TT} {i j k : Int} {x y v : V} {p : Addr} {xs : List V} {D : Ends} {t1 t2 : TS}
theorem v_rI0 {g : Int → Int → V} (ha : Val ta σ H (.int i)) (hb : Val tb σ H (.int j)) : Val (tOp (rI0 g) ta tb) σ H (g i j) := val_op ha hb fun Q q => ⟨_, _, rfl, rfl, q⟩
theorem v_rI {C : Int → Int → Prop} {g : Int → Int → V} (ha : Val ta σ H (.int i)) (hb : Val tb σ H (.int j)) (hc : C i j) : Val (tOp (rI C g) ta tb) σ H (g i j) := val_op ha hb fun Q q => ⟨_, _, rfl, rfl, hc, q⟩
theorem v_un {g : Int → V} (ha : Val ta σ H (.int i)) : Val (tUn (rU g) ta) σ H (g i) := fun Q q => ha _ ⟨_, rfl, q⟩
theorem v_cb {r : List V → Hp → VK → Prop} (ha : Val ta σ H x) (hr : ∀ Q : VK, Q v H → r [x] H Q) : Val (tCB r (tCons ta tNil)) σ H v := fun Q q => ha _ (hr _ q)
theorem v_ixT (ha : Val ta σ H (.ref p)) (hb : Val tb σ H (.int i)) (hp : SqT K H p xs) (e : atI xs i = some v) : Val (tOp (rIxT K) ta tb) σ H v := val_op ha hb fun Q q => ⟨_, _, _, _, rfl, rfl, hp, e, q⟩
theorem v_ixL (ha : Val ta σ H (.ref p)) (hb : Val tb σ H (.int i)) (hp : SqL K H p xs) (e : atI xs i = some v) : Val (tOp (rIxL K) ta tb) σ H v := val_op ha hb fun Q q => ⟨_, _, _, _, rfl, rfl, hp, e, q⟩
theorem v_chain {f g : Int → Int → Bool} (ha : Val ta σ H (.int i)) (hb : Val tb σ H (.int j)) (hc : Val tc σ H (.int k)) : Val (tChain (rI0 fun i j => .bl (f i j)) (rI0 fun i j => .bl (g i j)) ta tb tc) σ H (.bl (f i j && g j k)) := fun Q q => by
  refine ha _ (hb _ ⟨_, _, rfl, rfl, _, rfl, ?_⟩)
  cases e : f i j with
  | true =>
    rw [if_pos rfl]
    refine hc _ ⟨_, _, rfl, rfl, ?_⟩
    rw [e] at q
    exact q
  | false =>
    rw [if_neg Bool.false_ne_true]
    rw [e] at q
    exact q
theorem a_val {te : TE} {b : Bool} (h : Val te σ H (.bl b)) : Ans (tTest te) σ H b := fun Q q => h _ ⟨_, rfl, q⟩
theorem a_cmp {f : Int → Int → Bool} (ha : Val ta σ H (.int i)) (hb : Val tb σ H (.int j)) : Ans (tTest (tOp (rI0 fun i j => .bl (f i j)) ta tb)) σ H (f i j) := a_val (v_rI0 (g := fun i j => .bl (f i j)) ha hb)
theorem a_eq (ha : Val ta σ H (.int i)) (hb : Val tb σ H (.int j)) : Ans (tTest (tOp rEq ta tb)) σ H (decide (i = j)) := ans_eq ha hb rfl (by rw [dec_int]; exact (Bool.beq_eq_decide_eq i j))
theorem a_ne (ha : Val ta σ H (.int i)) (hb : Val tb σ H (.int j)) : Ans (tTest (tOp rNe ta tb)) σ H (!decide (i = j)) := ans_ne ha hb rfl (by rw [dec_int, Bool.beq_eq_decide_eq])
theorem v_eq (ha : Val ta σ H (.int i)) (hb : Val tb σ H (.int j)) : Val (tOp rEq ta tb) σ H (.bl (decide (i = j))) := val_op ha hb fun Q q => ⟨rfl, by rw [dec_int, Bool.beq_eq_decide_eq]; exact q⟩
theorem a_or {b c : Bool} (ha : Ans t σ H b) (hb : b = false → Ans u σ H c) : Ans (tOr t u) σ H (b || c) := by
  cases b with
  | true => exact ans_or1 ha
  | false => exact ans_or ha (hb rfl)
theorem a_and {b c : Bool} (ha : Ans t σ H b) (hb : b = true → Ans u σ H c) : Ans (tAnd t u) σ H (b && c) := by
  cases b with
  | true => exact ans_and ha (hb rfl)
  | false => exact ans_and0 ha
theorem st_ifb {c : TT} {b : Bool} (h : Ans c σ H b) (y : b = true → t1 D σ H) (n : b = false → t2 D σ H) : tIfS c t1 t2 D σ H := by
  cases b with
  | true => exact st_yes h (y rfl)
  | false => exact st_no h (n rfl)
/-- in an if's condition: what is decided -/
theorem st_ifp {c : TT} {q : Prop} {b : Bool} (h : Ans c σ H b) (e : b = true ↔ q) (y : q → t1 D σ H) (n : ¬ q → t2 D σ H) : tIfS c t1 t2 D σ H :=
  st_ifb h (fun z => y (e.mp z)) fun z => n fun w => by rw [e.mpr w] at z; cases z
theorem st_letX {te : TE} {i : Nat} {t3 : TS} (h : te σ H fun v H1 => t3 D (σ.set i (some v)) H1) : tSeq (tAsg te (gName i)) t3 D σ H := h
/-- a guard: if q: leave -/
theorem st_guard {c : TT} {q : Prop} {b : Bool} {t3 : TS} (h : Ans c σ H b) (e : b = true ↔ q) (y : q → t1 { D with nx := t3 D } σ H) (n : ¬ q → t3 D σ H) : tSeq (tIfS c t1 tNext) t3 D σ H :=
  st_seq (st_ifp h e y n)
/-- x = e, e without effects -/
theorem st_let {te : TE} {i : Nat} {t3 : TS} (h : Val te σ H v) (q : t3 D (σ.set i (some v)) H) : tSeq (tAsg te (gName i)) t3 D σ H := h _ q
end
/-- return f(e), f a built-in word -/
theorem st_ret1 {r : List V → Hp → VK → Prop} {te : TE} {σ : St} {H : Hp} {D : Ends} (h : te σ H fun v H1 => r [v] H1 D.rt) : tRet (tCB r (tCons te tNil)) D σ H := h
theorem v_cb1 {r : List V → Hp → VK → Prop} {te : TE} {σ : St} {H : Hp} {Q : VK} (h : te σ H fun v H1 => r [v] H1 Q) : tCB r (tCons te tNil) σ H Q := h
/-! ### loops -/
section
variable {K : PySem.W.Frag} {a : Addr} {xs : List V} {g : TG} {tb : TS} {D : Ends} {σ : St} {H : Hp} {tl : TE}
theorem st_forT (hl : ∀ R : V → Hp → Prop, R (.ref a) H → tl σ H R) (Pv : Nat → St → Hp → Prop) (h0 : Pv 0 σ H) (hk : ∀ i σ H, i ≤ xs.length → Pv i σ H → SqT K H a xs)
    (hs : ∀ (i : Nat) x σ H, xs[i]? = some x → Pv i σ H → g x σ H fun σ2 H2 => tb { D with nx := Pv (i + 1), ct := Pv (i + 1), bk := D.nx } σ2 H2) (hd : ∀ σ H, Pv xs.length σ H → D.nx σ H) : tFor (iTup K tl) g tb D σ H :=
  hl _ ⟨a, rfl, ⟨_, hk 0 σ H (Nat.zero_le _) h0⟩, for_tup Pv h0 hk hs hd⟩
theorem st_forL (hl : ∀ R : V → Hp → Prop, R (.ref a) H → tl σ H R) (Pv : Nat → St → Hp → Prop) (h0 : Pv 0 σ H) (hk : ∀ i σ H, i ≤ xs.length → Pv i σ H → SqL K H a xs)
    (hs : ∀ (i : Nat) x σ H, xs[i]? = some x → Pv i σ H → g x σ H fun σ2 H2 => tb { D with nx := Pv (i + 1), ct := Pv (i + 1), bk := D.nx } σ2 H2) (hd : ∀ σ H, Pv xs.length σ H → D.nx σ H) : tFor (iList K tl) g tb D σ H :=
  hl _ ⟨a, rfl, ⟨_, hk 0 σ H (Nat.zero_le _) h0⟩, for_list Pv h0 hk hs hd⟩
theorem st_forA (hp : SqA K H a xs) (hl : ∀ R : V → Hp → Prop, R (.ref a) H → tl σ H R) (Pv : Nat → St → Hp → Prop) (h0 : Pv 0 σ H) (hk : ∀ i σ' H', Pv i σ' H' → Same H H')
    (hs : ∀ (i : Nat) x σ H, xs[i]? = some x → Pv i σ H → g x σ H fun σ2 H2 => tb { D with nx := Pv (i + 1), ct := Pv (i + 1), bk := D.nx } σ2 H2) (hd : ∀ σ H, Pv xs.length σ H → D.nx σ H) : tFor (fun σ H R => iList K tl σ H R ∨ iTup K tl σ H R) g tb D σ H := by
  rcases hp with hp | hp
  · exact Or.inl (hl _ ⟨a, rfl, ⟨_, hp⟩, for_list Pv h0 (fun i σ' H' _ z => (hk i σ' H' z).seq hp) hs hd⟩)
  · exact Or.inr (hl _ ⟨a, rfl, ⟨_, hp⟩, for_tup Pv h0 (fun i σ' H' _ z => (hk i σ' H' z).sqT hp) hs hd⟩)
end
section
variable {g : TG} {tb : TS} {D : Ends} {σ : St} {H : Hp} {ta tc : TE} {lo hi : Int} {n : Nat}
theorem st_forR1 (ha : Val ta σ H (.int hi)) (hn : hi = (n : Int)) (bd : n ≤ 1000000) (Pv : Nat → St → Hp → Prop) (h0 : Pv 0 σ H)
    (hs : ∀ i σ H, i < n → Pv i σ H → g (.int (i : Int)) σ H fun σ2 H2 => tb { D with nx := Pv (i + 1), ct := Pv (i + 1), bk := D.nx } σ2 H2) (hd : ∀ σ H, Pv n σ H → D.nx σ H) : tFor (iRng1 (tCons ta tNil)) g tb D σ H := by
  subst hn
  refine ha _ ⟨_, rfl, by omega, by omega, ?_⟩
  have e : ((n : Int)).toNat = n := by omega
  rw [e]
  exact for_range Pv h0 (fun i σ' H' hi p => by rw [Int.zero_add]; exact hs i σ' H' hi p) hd
theorem st_forR2 (ha : Val ta σ H (.int lo)) (hc : Val tc σ H (.int hi)) (hn : hi - lo = (n : Int)) (b1 : -1000000 ≤ lo) (b2 : hi ≤ 1000000) (Pv : Nat → St → Hp → Prop) (h0 : Pv 0 σ H)
    (hs : ∀ i σ H, i < n → Pv i σ H → g (.int (lo + i)) σ H fun σ2 H2 => tb { D with nx := Pv (i + 1), ct := Pv (i + 1), bk := D.nx } σ2 H2) (hd : ∀ σ H, Pv n σ H → D.nx σ H) : tFor (iRng2 (tCons ta (tCons tc tNil))) g tb D σ H := by
  refine ha _ (hc _ ⟨_, _, rfl, ⟨by omega, by omega, by omega, by omega⟩, ?_⟩)
  have e : (hi - lo).toNat = n := by omega
  rw [e]
  exact for_range Pv h0 hs hd
end
/-- for k, x in enumerate(list) -/
theorem st_forE {K : PySem.W.Frag} {a : Addr} {xs : List V} {g : TG} {tb : TS} {D : Ends} {σ : St} {H : Hp} (Pv : Nat → St → Hp → Prop) (h0 : Pv 0 σ H) (hk : ∀ i σ H, i ≤ xs.length → Pv i σ H → SqL K H a xs)
    (hs : ∀ (i : Nat) x T σ H, xs[i]? = some x → Pv i σ H → H T = none → g (.ref T) σ (upd H T (.tup [.int (i : Nat), x])) fun σ2 H2 => tb { D with nx := Pv (i + 1), ct := Pv (i + 1), bk := D.nx } σ2 H2) (hd : ∀ σ H, Pv xs.length σ H → D.nx σ H) : tFor (fun _ H R => R (Ite K a) H) g tb D σ H := by
  refine ⟨fun i m σ H => m = xs.length - i ∧ i ≤ xs.length ∧ Pv i σ H, ⟨_, rfl, Nat.zero_le _, h0⟩, ?_⟩
  rintro i m σ H ⟨rfl, hi, p⟩
  have sq := hk i σ H hi p
  rcases Nat.lt_or_eq_of_le hi with lt | rfl
  · obtain ⟨x, hx⟩ : ∃ x, xs[i]? = some x := ⟨_, List.getElem?_eq_getElem lt⟩
    refine Or.inr ⟨⟨xs, x, sq, hx⟩, Pv (i + 1), fun σ' H' p' => ⟨_, by omega, rfl, lt, p'⟩, ?_⟩
    rintro y H' ⟨T, z, rfl, hT, rfl, hz⟩
    have e := hz xs sq
    rw [hx] at e
    cases e
    exact hs i x T σ H hx p hT
  · exact Or.inl ⟨⟨xs, sq, Nat.le_refl _⟩, hd σ H p⟩
/-- while: the condition without effects -/
theorem st_whileb {tc : TT} {tb : TS} {D : Ends} {σ : St} {H : Hp} (Pv : St → Hp → Prop) (μ : St → Hp → Nat) (h0 : Pv σ H)
    (hc : ∀ σ H, Pv σ H → ∃ b, Ans tc σ H b ∧ (b = true → tb { D with nx := fun σ' H' => Pv σ' H' ∧ μ σ' H' < μ σ H, ct := fun σ' H' => Pv σ' H' ∧ μ σ' H' < μ σ H, bk := D.nx } σ H) ∧ (b = false → D.nx σ H)) : tWhile tc tb D σ H := by
  refine ⟨fun m σ H => m = μ σ H ∧ Pv σ H, ⟨_, rfl, h0⟩, ?_⟩
  rintro m σ H ⟨rfl, p⟩
  obtain ⟨b, hb, y, n⟩ := hc σ H p
  refine hb _ ?_
  cases b with
  | true =>
    rw [if_pos rfl]
    exact ⟨_, fun σ' H' z => ⟨_, z.2, rfl, z.1⟩, y rfl⟩
  | false =>
    rw [if_neg Bool.false_ne_true]
    exact n rfl
/-! an object that is being made -/
theorem But.keepT {K : PySem.W.Frag} {H H' : Hp} {p C dx t : Addr} {fs : List (Str × V)} {xs : List V} (b : But p H H') (hp : H p = some (.ins C dx fs)) (h : SqT K H t xs) : SqT K H' t xs := by
  rcases h with (h | ⟨o, h⟩) | h
  · exact Or.inl (Or.inl (b _ _ h (ne_of h hp (by intro z; cases z))))
  · exact Or.inl (Or.inr ⟨o, b _ _ h (ne_of h hp (by intro z; cases z))⟩)
  · exact Or.inr h
theorem But.keepL {K : PySem.W.Frag} {H H' : Hp} {p C dx t : Addr} {fs : List (Str × V)} {xs : List V} (b : But p H H') (hp : H p = some (.ins C dx fs)) (h : SqL K H t xs) : SqL K H' t xs := by
  rcases h with (h | ⟨o, h⟩) | h
  · exact Or.inl (Or.inl (b _ _ h (ne_of h hp (by intro z; cases z))))
  · exact Or.inl (Or.inr ⟨o, b _ _ h (ne_of h hp (by intro z; cases z))⟩)
  · exact Or.inr h
theorem But.keepA {K : PySem.W.Frag} {H H' : Hp} {p C dx t : Addr} {fs : List (Str × V)} {xs : List V} (b : But p H H') (hp : H p = some (.ins C dx fs)) (h : SqA K H t xs) : SqA K H' t xs := h.imp (fun h => b.keepL hp h) fun h => b.keepT hp h
section
variable {K : PySem.W.Frag} {D : Ends} {σ : St} {H : Hp} {ta tv te : TE} {t3 : TS} {p C dx : Addr} {fs : List (Str × V)} {f : Str} {y : V} {PV : V → Hp → Prop}
theorem st_mk (hv : Val tv σ H y) (ha : Val ta σ H (.ref p)) (hp : H p = some (.ins C dx fs)) (hc : Cls K C) (hn : NoAttr K C f) (hl : fs.length < 1000)
    (q : ∀ H', H' p = some (.ins C dx (putF f y fs)) → But p H H' → t3 D σ H') : tSeq (sFld K ta tv f) t3 D σ H := hv _ (ha _ ⟨p, C, dx, fs, rfl, hp, hc, hn, hl, q _ upd_same (But.refl p H).upd⟩)
theorem st_mkH (hv : ValH tv σ H PV) (ha : ∀ H, Val ta σ H (.ref p)) (hp : ∀ y H1, PV y H1 → H1 p = some (.ins C dx fs)) (hc : Cls K C) (hn : NoAttr K C f) (hl : fs.length < 1000)
    (q : ∀ y H1 H', PV y H1 → H' p = some (.ins C dx (putF f y fs)) → But p H1 H' → t3 D σ H') : tSeq (sFld K ta tv f) t3 D σ H :=
  hv _ fun y H1 pv => ha H1 _ ⟨p, C, dx, fs, rfl, hp y H1 pv, hc, hn, hl, q y H1 _ pv upd_same (But.refl p H1).upd⟩
theorem st_guardX {c : TT} {t1 : TS} (h : c σ H fun b H1 => if b = true then t1 { D with nx := t3 D } σ H1 else t3 D σ H1) : tSeq (tIfS c t1 tNext) t3 D σ H := h
/-- what stands behind t1 is shown once -/
theorem st_share {t1 : TS} (p : Prop) (r : p → t3 D σ H) (h : ∀ N : St → Hp → Prop, (p → N σ H) → t1 { D with nx := N } σ H) : tSeq t1 t3 D σ H := h _ r
theorem st_shareH {t1 : TS} (p : Hp → Prop) (r : ∀ H', p H' → t3 D σ H') (h : ∀ N : St → Hp → Prop, (∀ H', p H' → N σ H') → t1 { D with nx := N } σ H) : tSeq t1 t3 D σ H := h _ r
theorem tyL {p : Addr} {xs : List V} (h : H p = some (.lst xs)) : tyV K "list" (.ref p) H := Or.inl ⟨rfl, _, Or.inl (Or.inl h)⟩
/-- xs[i] = e -/
theorem st_put {tb : TE} {xs : List V} {i : Int} {j : Nat} {v : V} (hv : Val te σ H v) (ha : Val ta σ H (.ref p)) (hb : Val tb σ H (.int i)) (hp : H p = some (.lst xs)) (hi : ixN xs.length i = some j) (q : D.nx σ (upd H p (.lst (xs.set j v)))) : tAsg te (gSub ta tb rSetL) D σ H :=
  hv _ (ha _ (hb _ ⟨p, xs, i, j, rfl, rfl, hp, hi, q⟩))
theorem st_puts {tb : TE} {xs : List V} {i : Int} {j : Nat} {v : V} (hv : Val te σ H v) (ha : Val ta σ H (.ref p)) (hb : Val tb σ H (.int i)) (hp : H p = some (.lst xs)) (hi : ixN xs.length i = some j) (q : t3 D σ (upd H p (.lst (xs.set j v)))) : tSeq (tAsg te (gSub ta tb rSetL)) t3 D σ H :=
  hv _ (ha _ (hb _ ⟨p, xs, i, j, rfl, rfl, hp, hi, q⟩))
theorem st_shareS {t1 : TS} (p : St → Hp → Prop) (r : ∀ σ' H', p σ' H' → t3 D σ' H') (h : ∀ N : St → Hp → Prop, (∀ σ' H', p σ' H' → N σ' H') → t1 { D with nx := N } σ H) : tSeq t1 t3 D σ H := h _ r
/-- x = e, e a whole number of which only a bound is kept -/
theorem st_letP {i : Nat} {z : Int} (P : Int → Prop) (hv : Val te σ H (.int z)) (hz : P z) (q : ∀ z, P z → t3 D (σ.set i (some (.int z))) H) : tSeq (tAsg te (gName i)) t3 D σ H := hv _ (q z hz)
/-- a word that is called for its refusals -/
theorem st_do (h : te σ H fun _ H1 => t3 D σ H1) : tSeq (tDrop te) t3 D σ H := h
end
theorem v_if {σ : St} {H : Hp} {tA : TT} {ta tb : TE} {b : Bool} {v : V} (h : Ans tA σ H b) (y : b = true → Val ta σ H v) (n : b = false → Val tb σ H v) : Val (tIf tA ta tb) σ H v := fun Q q => by
  refine h _ ?_
  cases b with
  | true => exact y rfl _ q
  | false => exact n rfl _ q
/-! calls of own words that change nothing -/
section
variable {σ : St} {H : Hp} {ta tb tc : TE} {x y z v : V} {sp : Sp} {E : XK}
theorem v_call1 (ha : Val ta σ H x) (hs : ∀ Q : VK, Q v H → sp [x] H Q E) : Val (tCall sp [] E (tCons ta tNil)) σ H v := fun Q q => ha _ (hs _ q)
theorem v_call2 (ha : Val ta σ H x) (hb : Val tb σ H y) (hs : ∀ Q : VK, Q v H → sp [x, y] H Q E) : Val (tCall sp [] E (tCons ta (tCons tb tNil))) σ H v := fun Q q => ha _ (hb _ (hs _ q))
theorem v_call3 (ha : Val ta σ H x) (hb : Val tb σ H y) (hc : Val tc σ H z) (hs : ∀ Q : VK, Q v H → sp [x, y, z] H Q E) : Val (tCall sp [] E (tCons ta (tCons tb (tCons tc tNil)))) σ H v := fun Q q => ha _ (hb _ (hc _ (hs _ q)))
end
theorem st_retop {r : R2} {te tb : TE} {σ : St} {H : Hp} {D : Ends} (h : te σ H fun x H1 => tb σ H1 fun y H2 => r x y H2 D.rt) : tRet (tOp r te tb) D σ H := h
theorem op_l {r : R2} {te tb : TE} {σ : St} {H : Hp} {Q : VK} (h : te σ H fun x H1 => tb σ H1 fun y H2 => r x y H2 Q) : tOp r te tb σ H Q := h
end L2

namespace L2
open PySem PySem.Spec PyProof.Rows
section
variable {X : Cx} {a b c d : Expr} {ta tb tc td t1 t2 : TE} {pos : Pos}
/-- an expression with two readings (a method of one of several classes) -/
theorem pe_alt {e : Expr} (h1 : PE X e t1) (h2 : PE X e t2) : PE X e (fun σ H Q => t1 σ H Q ∨ t2 σ H Q) := by
  refine ⟨fun pins s σ H Q I h => ?_⟩
  rcases h with h | h
  · exact h1.run pins s σ H Q I h
  · exact h2.run pins s σ H Q I h
/-- a op1 b op2 c op3 d -/
def tChain3 (r r' r'' : R2) (ta tb tc td : TE) : TE := fun σ H Q => ta σ H fun x H1 => tb σ H1 fun y H2 => r x y H2 fun z H3 => ∃ k, z = .bl k ∧
  (if k = true then tc σ H3 fun u H4 => r' y u H4 fun z' H5 => ∃ k', z' = .bl k' ∧ (if k' = true then td σ H5 fun v H6 => r'' u v H6 Q else Q (.bl false) H5) else Q (.bl false) H3)
theorem pe_chain3 {op op' op'' : CmpOp} {r r' r'' : R2} (ho : OpR X (compareOp op) r) (ho' : OpR X (compareOp op') r') (ho'' : OpR X (compareOp op'') r'') (ha : PE X a ta) (hb : PE X b tb) (hc : PE X c tc) (hd : PE X d td)
    (hm : lastMarks [op, op', op''] [b, c, d] = false := by with_unfolding_all rfl) : PE X (.Compare a [op, op', op''] [b, c, d] pos) (tChain3 r r' r'' ta tb tc td) := by
  refine ⟨fun pins s σ H Q I h => ?_⟩
  refine Compare_chain (thn (ha.run pins s σ H _ I h) fun v s1 ⟨x, H1, I1, r1, q1⟩ => chain_link (thn (hb.run pins s1 σ H1 _ I1 q1) fun u s2 ⟨y, H2, I2, r2, q2⟩ =>
    thn (ho pins s2 σ H2 x y v u _ I2 r1 r2 q2) fun e s3 ⟨z, H3, I3, r3, k, ez, q3⟩ => ?_)) hm
  subst ez
  cases r3
  refine wpAny_truthy_bool ?_
  cases k with
  | false => exact ite_ff ⟨.bl false, H3, I3, rfl, q3⟩
  | true =>
    refine ite_tt (chain_link (thn (hc.run pins s3 σ H3 _ I3 q3) fun w' s4 ⟨z', H4, I4, r4, q4⟩ => thn (ho' pins s4 σ H4 y z' u w' _ I4 r2 r4 q4) fun e5 s5 ⟨z5, H5, I5, r5, k5, ez5, q5⟩ => ?_))
    subst ez5
    cases r5
    refine wpAny_truthy_bool ?_
    cases k5 with
    | false => exact ite_ff ⟨.bl false, H5, I5, rfl, q5⟩
    | true => exact ite_tt (chain_last (thn (hd.run pins s5 σ H5 _ I5 q5) fun w6 s6 ⟨z6, H6, I6, r6, q6⟩ => ho'' pins s6 σ H6 z' z6 w' w6 Q I6 r4 r6 q6))
theorem v_chain3 {f g h : Int → Int → Bool} {σ : St} {H : Hp} {i j k l : Int} (ha : ∀ Q : VK, Q (.int i) H → ta σ H Q) (hb : ∀ Q : VK, Q (.int j) H → tb σ H Q) (hc : ∀ Q : VK, Q (.int k) H → tc σ H Q) (hd : ∀ Q : VK, Q (.int l) H → td σ H Q) (Q : VK) (q : Q (.bl (f i j && g j k && h k l)) H) :
    tChain3 (rI0 fun i j => .bl (f i j)) (rI0 fun i j => .bl (g i j)) (rI0 fun i j => .bl (h i j)) ta tb tc td σ H Q := by
  refine ha _ (hb _ ⟨_, _, rfl, rfl, _, rfl, ?_⟩)
  cases e : f i j with
  | false =>
    rw [if_neg Bool.false_ne_true]
    rw [e] at q
    exact q
  | true =>
    rw [if_pos rfl]
    refine hc _ ⟨_, _, rfl, rfl, _, rfl, ?_⟩
    cases e2 : g j k with
    | false =>
      rw [if_neg Bool.false_ne_true]
      rw [e, e2] at q
      exact q
    | true =>
      rw [if_pos rfl]
      refine hd _ ⟨_, _, rfl, rfl, ?_⟩
      rw [e, e2] at q
      exact q
end
end L2

/-! enumerate over a tuple -/
namespace PySem
open AutoSeq1 (wpAny_loadPart')
theorem xr_enum_new (tp : Addr) (vs : Array Value) (n0 : Nat) (di : Option Addr) (ss : Array (Option Value)) :
    Meets (Builtin.«enumerate.__new__» ⟨[.type "enumerate", .ref tp], []⟩) (fun _ R sh => sh.heap.get? tp = some { cls := .type "tuple", dict := di, data := .seq vs n0, slots := ss } ∧
      R (.ok (.ret (.ref (sh.heap.push { cls := .type "tuple_iterator", data := .fields #[.ref tp, .int 0 0] }).objs.size)))
        { sh with heap := (sh.heap.push { cls := .type "tuple_iterator", data := .fields #[.ref tp, .int 0 0] }).push { cls := .type "enumerate", data := .fields #[.none, .bool false, .ref sh.heap.objs.size, rawInt 0, .none, .none] } }) :=
  .of_wp fun pr wo Ar Rr sh hy => by
    obtain ⟨hp, gg, dd, tt, oo⟩ := sh; obtain ⟨hlt, hy⟩ := hy
    have hsubE := sub_enumerate
    have hTup : Heap.IsTuple (Shared.heap ⟨hp, gg, dd, tt, oo⟩) tp vs := ⟨_, hlt, rfl, n0, rfl⟩
    wp_walk using wpAny_loadPart' hlt
    refine wpAny_stack_any fun st0 => wpAny_pure ?_
    split
    · rename_i cc _ _ _ _ _
      cases (cc == Value.type "enumerate")
      · wp_walk using wpAny_loadPart' hlt, wpAny_pyIter_tuple hTup
        exact ⟨_, rfl, hy⟩
      · wp_walk using wpAny_loadPart' hlt, wpAny_pyIter_tuple hTup
        exact ⟨_, rfl, hy⟩
    · wp_walk using wpAny_loadPart' hlt, wpAny_pyIter_tuple hTup
      exact ⟨_, rfl, hy⟩
theorem xr_call_enum {prog : Program} {w : World} {A : Around} {E : Value → Shared → Prop} {sh : Shared} {tp : Addr} {vs : Array Value} {Q : Value → Shared → Prop} (hT : sh.heap.IsTuple tp vs)
    (k : ∀ g, IsEnum g (sh.heap.objs.size + 1) sh.heap.objs.size 0 .none → g.IsTupleIter sh.heap.objs.size tp 0 → (∀ c u, sh.heap.get? c = some u → g.get? c = some u) → Q (.ref (sh.heap.objs.size + 1)) { sh with heap := g }) :
    wpAny (model prog w) A (call (.type "enumerate") [.ref tp]) Q E sh := by
  obtain ⟨⟨cc, di, da, ss⟩, hlt, ec, n0, ed⟩ := hT
  replace ec : cc = .type "tuple" := ec
  replace ed : da = .seq vs n0 := ed
  subst ec ed
  refine callType_new F.called_enumerate (by decide) (F.typeCall_enumerate_1 _) (F.newCall_enumerate_1 _) (fun ob => F.args_object_init_2 ob _) F.entry_enumerate_new (xr_enum_new tp vs n0 di ss) ⟨hlt, ?_⟩
  have z1 : (sh.heap.push { cls := .type "tuple_iterator", data := .fields #[.ref tp, .int 0 0] }).objs.size = sh.heap.objs.size + 1 := Heap.size_push ..
  show _ ∧ _
  rw [z1]
  have hen : IsEnum ((sh.heap.push { cls := .type "tuple_iterator", data := .fields #[.ref tp, .int 0 0] }).push { cls := .type "enumerate", data := .fields #[.none, .bool false, .ref sh.heap.objs.size, rawInt 0, .none, .none] }) (sh.heap.objs.size + 1) sh.heap.objs.size 0 .none := by
    have z2 := Heap.get?_push_size (sh.heap.push { cls := .type "tuple_iterator", data := .fields #[.ref tp, .int 0 0] }) (o := { cls := .type "enumerate", data := .fields #[.none, .bool false, .ref sh.heap.objs.size, rawInt 0, .none, .none] }) rfl
    rw [z1] at z2; exact z2
  exact ⟨⟨_, hen, rfl⟩, k _ hen ⟨_, Heap.get?_push_of_some _ (Heap.get?_push_size _ rfl), rfl, rfl⟩ fun c u y => Heap.get?_push_of_some _ (Heap.get?_push_of_some _ y)⟩
theorem xr_draws {prog : Program} {w : World} {A : Around} (hn : A.handled = none) (it tp : Addr) (ne : tp ≠ it) (vs : Array Value) : Draws prog w A it [it, tp] vs.size (fun j v => vs[j]? = some v) (fun j g => g.IsTupleIter it tp j ∧ g.IsTuple tp vs) where
  live := fun _ _ st => st.1.imp fun _ z => z.1
  frame := fun _ _ _ st hk => by
    obtain ⟨⟨o1, e1, r1⟩, ⟨o2, e2, r2⟩⟩ := st
    exact ⟨⟨o1, hk it (by simp) o1 e1, r1⟩, ⟨o2, hk tp (by simp) o2 e2, r2⟩⟩
  item := fun j sh Q E lt st hQ => RZ.nextOf_tuple_item st.1 st.2 (x := vs[j]) (by simp [lt]) fun g st2 sb => hQ _ g sh.toks (by simp [lt]) ⟨st2, st.2.extBut sb.extBut ne⟩ sb
  done := fun sh Q E st hE => RZ.nextOf_tuple_end hn st.1 st.2 (by simp) hE
theorem xr_enum_end {prog : Program} {w : World} {A : Around} {E : Value → Shared → Prop} {sh : Shared} {en it tp : Addr} {j : Nat} {k : Int} {vs : Array Value} {old : Value} {Q : Option Value → Shared → Prop} (hn : A.handled = none)
    (z1 : IsEnum sh.heap en it k old) (z2 : sh.heap.IsTupleIter it tp j) (z3 : sh.heap.IsTuple tp vs) (hx : vs[j]? = none) (hQ : ∀ g, Heap.ExtBut it sh.heap g → Q none { sh with heap := g }) : wpAny (model prog w) A (pyNext (.ref en)) Q E sh := by
  have hEn : sh.TypeIs (.ref en) "enumerate" := ⟨_, z1, rfl⟩
  unfold pyNext
  refine wpAny_bind (wpAny_attempt (wpAny_callSpecial?_slot (name := Str.ofString "__next__") hEn F.slot_enumerate_next (wpAny_call_entry F.slot_enumerate_next hEn F.entry_enumerate_next ?_ (F.args_enumerate_next_1 _))))
  show wpAny _ _ (field (.ref en) 2 >>= _) _ _ _
  refine wpAny_bind (wpAny_field z1 rfl (x := .ref it) rfl (wpAny_bind (RZ.nextOf_tuple_end (show A.in1.handled = none from hn) z2 z3 hx fun g c eb ec => ?_)))
  obtain ⟨u, hu, cu⟩ := ec
  exact wpAny_bind (wpAny_isInstance (T := "StopIteration") (b := true) ⟨u, hu, cu⟩ isSubtype_stop (wpAny_pure (hQ _ eb)))
end PySem
namespace L2
open PySem PySem.Spec PyProof.Rows
/-- the tuple at a, each item in a new pair -/
def Itte (K : PySem.W.Frag) (a : Addr) : It :=
  ⟨fun i H => ∃ (ys : List V) (y : V), SqT K H a ys ∧ ys[i]? = some y, fun i H v H' => ∃ T y, v = .ref T ∧ H T = none ∧ H' = upd H T (.tup [.int (i : Nat), y]) ∧ ∀ ys, SqT K H a ys → ys[i]? = some y, fun i H => ∃ ys : List V, SqT K H a ys ∧ ys.length ≤ i⟩
theorem turn_enumT {P : Program} {w : World} {K : PySem.W.Frag} {elts : List Expr} {kk : Nat} {tpos : Pos} (tp en it : Addr) :
    Turn P w K (.Tuple elts kk tpos) (Itte K tp) [en, it] en (fun j g => (∃ old, IsEnum g en it ((j : Nat) : Int) old) ∧ g.IsTupleIter it tp j ∧ en ≠ it) where
  mem := by simp
  obj := fun j g st c hc => by
    obtain ⟨⟨old, z1⟩, ⟨u, z2, _, z3⟩, _⟩ := st
    have e2 : c = en ∨ c = it := by simpa using hc
    rcases e2 with z | z
    · rw [z]; exact ⟨_, z1, fun v q => nomatch q⟩
    · rw [z]; exact ⟨u, z2, fun v q => by rw [z3] at q; cases q⟩
  keep := fun j g g' st k => by
    obtain ⟨⟨old, z1⟩, z2, ne⟩ := st
    exact ⟨⟨old, k en (by simp) _ z1⟩, z2.at fun o q => k it (by simp) o q, ne⟩
  item := by
    intro X eP ew eK hc j pins s σ H E I hf st hg
    subst eP ew eK
    obtain ⟨⟨old, z1⟩, z2, ne⟩ := st
    obtain ⟨ys, y, hq, hy⟩ := hg
    obtain ⟨its, rv, pt, hz⟩ := I.tuple hq
    obtain ⟨u, hu, ru⟩ := rv.get hy
    have hel : en < s.heap.objs.size := Heap.lt_size z1
    have hil : it < s.heap.objs.size := by obtain ⟨_, q, _⟩ := z2; exact Heap.lt_size q
    have hTup : s.heap.IsTuple tp its.toArray := pt
    have tpi : tp ≠ it := fun z => by
      obtain ⟨o1, e1, c1, _⟩ := z2
      obtain ⟨o2, e2, c2, _⟩ := hTup
      rw [z, e1] at e2
      cases e2
      rw [c1] at c2
      exact absurd c2 (fun y => by injection y with y; exact absurd y (by decide))
    have tpe : en ≠ tp := fun z => by
      obtain ⟨o2, e2, c2, _⟩ := hTup
      rw [← z, z1] at e2
      cases e2
      exact absurd c2 (fun y => by injection y with y; exact absurd y (by decide))
    have D : Draws X.prog X.w X.A.in1 it [it, tp] its.toArray.size (fun j v => its.toArray[j]? = some v) (fun j g => g.IsTupleIter it tp j ∧ g.IsTuple tp its.toArray) := xr_draws (A := X.A.in1) (show X.A.in1.handled = none from I.ok.hd hc) it tp tpi its.toArray
    have lt : j < its.toArray.size := by
      rw [List.size_toArray]
      exact (List.getElem?_eq_some_iff.mp hu).1
    refine wpAny_pyNext_enum_itemD D z1 ⟨z2, hTup⟩ lt ne (by simp [ne, tpe]) fun v g tk hv ho z4 hT hsz hk => ?_
    have ev : v = u := by
      have h1 : its.toArray[j]? = some v := hv
      have h2 : its.toArray[j]? = some u := by simpa using hu
      rw [h1] at h2
      exact Option.some.inj h2
    subst ev
    refine ⟨_, rfl, wpAny_letOwnedTupleGo_enum (s := { s with heap := g, toks := tk + 1 }) ho fun g2 z5 sb => ?_⟩
    have hT2 : g2.get? s.heap.objs.size = some { cls := .type "tuple", data := .seq #[.int j tk, v] } := (sb.2 _ (Nat.ne_of_gt hel)).trans hT
    have new : ObjOk X.prog X.w (upd H s.heap.objs.size (.tup [.int (j : Nat), y])) g2 s.heap.objs.size (.tup [.int (j : Nat), y]) :=
      ⟨by show 2 ≤ sizeLine; decide, [.int j tk, v], .cons ⟨_, rfl⟩ (.cons ru .nil), ⟨_, hT2, rfl, _, rfl⟩⟩
    have I1 : Inv X pins σ (upd H s.heap.objs.size (.tup [.int (j : Nat), y])) { s with heap := g2, toks := tk + 1 } :=
      I.turnedNew (ch := [en, it]) (fun c ob hb q => (sb.2 c (fun z => hb (by simp [z]))).trans (hk c ob (fun z => hb (by simp [z])) (fun z => hb (by simp [z])) q)) hf (Nat.le_refl _) new
    refine ⟨.ref s.heap.objs.size, _, I1, rfl, ⟨_, y, rfl, I.hok.fresh (Nat.le_refl _), rfl, fun xs hx => by rw [I.tuple_inj hx hq]; exact hy⟩, ⟨⟨v, ?_⟩, z4.1.at fun o q => (sb.2 it (Ne.symm ne)).trans q, ne⟩, fun c hb => ?_⟩
    · have e1 : ((j + 1 : Nat) : Int) = (j : Int) + 1 := by omega
      rw [e1]; exact z5
    · have hb' : c < s.heap.objs.size := by
        have e2 : c = en ∨ c = it := by simpa using hb
        rcases e2 with z | z
        · rw [z]; exact hel
        · rw [z]; exact hil
      rw [upd_ne (Nat.ne_of_lt hb')]
      exact (hf c hb).1
  done := by
    intro X eP ew eK hc j pins s σ H E I hf st hg
    subst eP ew eK
    obtain ⟨⟨old, z1⟩, z2, ne⟩ := st
    obtain ⟨ys, hq, hy⟩ := hg
    obtain ⟨its, rv, pt, hz⟩ := I.tuple hq
    obtain ⟨f0, f1, f2, f3, f4, f5⟩ := hf it (by simp)
    have hl := rv.length
    have hTup : s.heap.IsTuple tp its.toArray := pt
    exact xr_enum_end (I.ok.hd hc) z1 z2 hTup (by simp; omega) fun g eb => ⟨rfl, I.turned (t' := s.toks) (fun c o hb q => eb c o hb q) f0 f1 f3 f4 f5⟩
  self := fun A j s Q E st h => let ⟨⟨_, z⟩, _⟩ := st; wpAny_pyIter_enum z h
def iEnumT (K : PySem.W.Frag) (ta : TA) : TI := fun σ H R => ta σ H fun vs H1 => ∃ a xs, vs = [.ref a] ∧ SqT K H1 a xs ∧ R (Itte K a) H1
theorem pi_enumT {X : Cx} {e : Expr} {ta : TA} {p pos tpos : Pos} {elts : List Expr} {kk : Nat} (hg : Gl X "enumerate") (hm : X.mg "enumerate" = none) (ha : PA X [e] ta) (hs : starEach [e] X.env = [(false, eval e X.env)] := by rfl) :
    PI X (.Tuple elts kk tpos) (.Call (.Name "enumerate" p) [e] [] pos) (iEnumT X.K ta) := by
  refine ⟨fun pins s σ H R I h => ?_⟩
  refine Call_ (ld_blt I hg hm boot_enumerate (PyProof.Rows.callWith_type1 (thn (ha.run pos pins s σ H _ I h) fun us s1 ⟨vs, H1, I1, r1, q1⟩ => ?_) hs rfl))
  obtain ⟨tp, xs, ex, hq, q⟩ := q1
  subst ex
  cases r1 with
  | cons r rr =>
    cases rr
    cases r
    obtain ⟨its, rv, pt, hz⟩ := I1.tuple hq
    refine xr_call_enum (show s1.heap.IsTuple tp its.toArray from pt) fun g z1 z2 hk => wpAny_pyIter_enum z1 ?_
    have I2 : Inv X pins σ H1 { s1 with heap := g } := I1.kept (t' := s1.toks) hk
    refine ⟨s1.heap.objs.size + 1, [s1.heap.objs.size + 1, s1.heap.objs.size], _, _, H1, rfl, I2, turn_enumT tp (s1.heap.objs.size + 1) s1.heap.objs.size, ⟨⟨.none, z1⟩, z2, Nat.succ_ne_self _⟩, fun c hb => ?_, q⟩
    have e2 : c = s1.heap.objs.size + 1 ∨ c = s1.heap.objs.size := by simpa using hb
    have hle : s1.heap.objs.size ≤ c := by
      rcases e2 with z | z
      · rw [z]; exact Nat.le_add_right _ _
      · rw [z]; exact Nat.le_refl _
    exact I1.fpOk hle (I1.hok.fresh hle)
/-- enumerate of a list or of a tuple -/
theorem pi_enumA {X : Cx} {e : Expr} {ta : TA} {p pos tpos : Pos} {elts : List Expr} {kk : Nat} (hg : Gl X "enumerate") (hm : X.mg "enumerate" = none) (ha : PA X [e] ta) (hs : starEach [e] X.env = [(false, eval e X.env)] := by rfl) :
    PI X (.Tuple elts kk tpos) (.Call (.Name "enumerate" p) [e] [] pos) (fun σ H R => iEnum X.K ta σ H R ∨ iEnumT X.K ta σ H R) := PI.two (pi_enum hg hm ha hs) (pi_enumT hg hm ha hs)
/-- a def with defaults that may raise -/
theorem FunD.okX {P : Program} {w : World} {K : PySem.W.Frag} {mg : Str → Option Value} {base : Heap} {x qual : Str} {params : Arguments} {body : List Stmt} {scope : Scope} {dvs : List V} {kws : List (Str × V)} {f : Addr} {fd : FuncData} {N ps : List Str} {k : Nat} {sp : Sp} (F : FunD K x qual params body scope dvs kws f fd) (S : FnScope N ps scope) (ar : ∀ vs H Q E, sp vs H Q E → vs.length = ps.length)
    (hb : ∀ (cdv : Value) (A : Around) (outer : List Env) (s : Shared) (H : Hp) (vs : List V) (Q : VK) (E : XK), Room k (A.deeper (envOfC qual scope s.heap.objs.size f cdv)) → sp vs H Q E →
      ∃ t, PSs (cxOf (L2.CX P w) P w K mg base N qual scope f cdv A outer s H E) body t ∧ t { nx := fun _ H' => Q .non H', rt := Q } (start N vs) H) : FnOk P w K mg base (L2.CX P w) (k + 1) f fd ps sp := F.ok S ar hb
/-! within a comprehension -/
def rTupK (K : PySem.W.Frag) : List V → Hp → VK → Prop := fun xs H Q => ∃ p ys, xs = [.ref p] ∧ ((SqL K H p ys ∧ ∀ l, H l = none → Q (.ref l) (upd H l (.tup ys))) ∨ (SqT K H p ys ∧ Q (.ref p) H))
theorem call_tupK {X : Cx} (K : PySem.W.Frag) (h : X.K = K := by rfl) : CallR X (.type "tuple") (rTupK K) := by subst h; exact call_tuple_of
def rLstK (K : PySem.W.Frag) : List V → Hp → VK → Prop := fun xs H Q => ∃ p ys, xs = [.ref p] ∧ (SqL K H p ys ∨ SqT K H p ys) ∧ ∀ l, H l = none → Q (.ref l) (upd H l (.lst ys))
theorem call_lstK {X : Cx} (K : PySem.W.Frag) (h : X.K = K := by rfl) : CallR X (.type "list") (rLstK K) := by subst h; exact call_list_of
end L2

/-! a lean head: one kernel run of the top, and the facts that Tx wants by one Bool over what the names reach -/
namespace Hm
open PySem PySem.Spec PyProof.Rows L2 He
/-- one level: the addresses not seen yet -/
def stepL {β : Type} : List Addr → Nat → List Addr → (Nat → List Addr → β) → β
  | [], seen, acc, k => k seen acc
  | a :: r, seen, acc, k => match Nat.testBit seen a with
    | true => stepL r seen acc k
    | false => HandSHeadRun.frNat a fun a => HandSHeadRun.frNat (Nat.lor seen (Nat.shiftLeft 1 a)) fun s => stepL r s (a :: acc) k
def lvl (g : Addr → Option Obj) : Nat → List Addr → Nat → List Addr → List Addr
  | 0, _, _, all => all
  | n + 1, fr, seen, all => stepL (fr.flatMap fun a => match g a with
    | some o => refsD o
    | none => []) seen [] fun seen nf => lvl g n nf seen (all ++ nf)
/-- what the module's names reach in n steps -/
def asM (g : Addr → Option Obj) (n : Nat) : List Addr := lvl g n [mainGlobals] (Nat.shiftLeft 1 mainGlobals) [mainGlobals] ++ [cStatics]
abbrev AlM : Type := Bool × List He.FnW
def obsM (ex : List (PySem.W.Frag → Bool)) (fn : List He5.DefA) (K : PySem.W.Frag) : AlM := ((ex.all fun f => f K) && fn.all fun d => d.ok K, fn.map fun d => He5.fnA K (d.at_ K))
def valM (fn : List He5.DefA) : AlM := (true, fn.map He5.DefA.val)
def SaysM (ex : List (PySem.W.Frag → Bool)) (fn : List He5.DefA) (K : PySem.W.Frag) : Prop := obsM ex fn K = valM fn
def obsMG (n : Nat) (ex : List (PySem.W.Frag → Bool)) (fn : List He5.DefA) (g : Addr → Option Obj) : AlM := obsM ex fn (frG g (asM g n))
def hookM (n : Nat) (ex : List (PySem.W.Frag → Bool)) (fn : List He5.DefA) : PySem.W.Hook where
  α := AlM
  obs := fun s => obsMG n ex fn s.heap.get?
  val := fun _ => valM fn
  says := fun _ h => ∃ K : PySem.W.Frag, K.In h ∧ SaysM ex fn K
  of := fun _ _ e => ⟨_, frG_in, e⟩
  keeps := fun _ _ _ ⟨K, hK, c⟩ k => ⟨K, PySem.W.Frag.In.keeps hK k, c⟩
def obM (n : Nat) (ex : List (PySem.W.Frag → Bool)) (fn : List He5.DefA) (s : PySem.W.SharedT) : AlM := obsMG n ex fn (HandSHeadRun.getT s)
theorem obM_eq {n : Nat} {ex : List (PySem.W.Frag → Bool)} {fn : List He5.DefA} (s : PySem.W.SharedT) : obM n ex fn s = (hookM n ex fn).obs s.abs := by
  have e : HandSHeadRun.getT s = s.abs.heap.get? := funext (HandSHeadRun.getT_eq s)
  unfold obM
  rw [e] <;> rfl
section
variable {ex : List (PySem.W.Frag → Bool)} {fn : List He5.DefA} {K : PySem.W.Frag}
theorem SaysM.fact (c : SaysM ex fn K) (i : Nat) {f : PySem.W.Frag → Bool} (h : ex[i]? = some f) : f K = true := by
  have c1 := (ba (show ((ex.all fun f => f K) && fn.all fun d => d.ok K) = true from congrArg (fun z : AlM => z.1) c)).1
  exact List.all_eq_true.mp c1 f (List.mem_of_getElem? h)
theorem SaysM.def_ (c : SaysM ex fn K) (i : Nat) {d : He5.DefA} (h : fn[i]? = some d) : ∃ fd, L2.FunD K d.name d.qual d.params d.body d.scope (d.dvs K) (d.kws K) (d.at_ K) fd := by
  have c2 := (ba (show ((ex.all fun f => f K) && fn.all fun d => d.ok K) = true from congrArg (fun z : AlM => z.1) c)).2
  have e : fn.map (fun d => He5.fnA K (d.at_ K)) = fn.map He5.DefA.val := congrArg (fun z : AlM => z.2) c
  have e2 : (fn.map fun d => He5.fnA K (d.at_ K))[i]? = (fn.map He5.DefA.val)[i]? := by rw [e]
  rw [List.getElem?_map, List.getElem?_map, h] at e2
  exact He5.DefA.funD (Option.some.inj e2) (List.all_eq_true.mp c2 d (List.mem_of_getElem? h))
end
/-! an own exception class -/
def oexB (K : PySem.W.Frag) (C : Addr) : Bool := match K.lookup C with
  | some ⟨.type "type", _, .cls cd, sl⟩ => (match cd.mro, sl.toList with
    | .ref C' :: bm, [_, _, _, _, some (.builtin n), _] => C' == C && n == "ValueError.__new__" && !cd.hasDel && cd.hasDict && PySem.HandSPX.refsVE bm
    | _, _ => false)
  | _ => false
theorem oexB_ok {K : PySem.W.Frag} {C : Addr} (q : oexB K C = true) : ∃ nm qn N bs bm sn sub ab col dd k0 k1 k2 k3 k5, K.lookup C = some (PySem.excClassObj nm qn C N bs bm true sn sub ab col dd k0 k1 k2 k3 k5 "ValueError.__new__") ∧ PySem.HandSPX.refsVE bm = true := by
  unfold oexB at q
  split at q
  · rename_i dd cd sl ho
    split at q
    · rename_i C' bm k0 k1 k2 k3 n k5 hm hs
      simp only [Bool.and_eq_true, beq_iff_eq, Bool.not_eq_true'] at q
      obtain ⟨⟨⟨⟨rfl, rfl⟩, hdel⟩, hd⟩, ht⟩ := q
      obtain ⟨nm, bs, mro, ns, qn, hd', sn, sub, ab, col, del⟩ := cd
      dsimp only at hm hdel hd
      subst hm hdel hd
      have hsl : sl = #[k0, k1, k2, k3, some (.builtin "ValueError.__new__"), k5] := by
        obtain ⟨l⟩ := sl
        simp only at hs
        rw [hs]
      subst hsl
      exact ⟨nm, qn, ns, bs, bm, sn, sub, ab, col, dd, k0, k1, k2, k3, k5, ho, ht⟩
    · cases q
  · cases q
/-- the record at p of the type T: its first place -/
def rc1 (K : PySem.W.Frag) (p : Addr) (T : String) : Addr := match PySem.W.recIn K p T with
  | some (.ref f :: _) => f
  | _ => 0
def rcB (K : PySem.W.Frag) (p : Addr) (T : String) : Bool := match PySem.W.recIn K p T with
  | some (.ref _ :: _) => true
  | _ => false
theorem rcB_ok {K : PySem.W.Frag} {p : Addr} {T : String} (h : rcB K p T = true) : ∃ rest, PySem.W.recIn K p T = some (.ref (rc1 K p T) :: rest) := by
  unfold rcB at h
  unfold rc1
  split at h
  · rename_i f r e
    exact ⟨r, by rw [e]⟩
  · cases h
/-- a module's name: an int -/
def gInt (K : PySem.W.Frag) (x : Str) (i : Int) : Bool := (Fa.int x i).ok K
theorem gInt_ok {K : PySem.W.Frag} {h : Heap} {mg : Str → Option Value} (X : K.In h) (G : h.Ns mainGlobals mg) {x : Str} {i : Int} (c : gInt K x i = true) : ∃ t, mg x = some (.int i t) := int_ok X G c
/-- the tuple at a is empty -/
def tup0B (K : PySem.W.Frag) (a : Addr) : Bool := match K.lookup a with
  | some ⟨.type c, _, .seq its _, _⟩ => decide (c = "tuple") && its.isEmpty
  | _ => false
theorem tup0B_ok {K : PySem.W.Frag} {a : Addr} (h : tup0B K a = true) (H : Hp) : SqT K H a [] := by
  unfold tup0B at h
  cases q : K.lookup a with
  | none =>
    rw [q] at h
    cases h
  | some o =>
    obtain ⟨oc, od, dt, osl⟩ := o
    rw [q] at h
    cases oc with
    | type c =>
      cases dt with
      | seq its n =>
        obtain ⟨h1, h2⟩ := ba (show (decide (c = "tuple") && its.isEmpty) = true from h)
        have e : its = #[] := Array.isEmpty_iff.mp h2
        subst e
        exact .inr ⟨_, _, n, q, congrArg Value.type (of_decide_eq_true h1), rfl, by decide, .nil⟩
      | _ => cases h
    | _ => cases dt <;> cases h
/-- the keyword-only default x of the def at f, if it is an object -/
def kwAt (f : PySem.W.Frag → Addr) (x : Str) (K : PySem.W.Frag) : Addr := match K.lookup (f K) with
  | some ⟨_, _, .func fd, _⟩ => (match fd.kwdefaults with
    | .ref D => (match PySem.W.nsIn K D x with
      | some (some (.ref b)) => b
      | _ => 0)
    | _ => 0)
  | _ => 0
/-- the i-th default of the def at f, if it is an object -/
def dfAt (f : PySem.W.Frag → Addr) (i : Nat) (K : PySem.W.Frag) : Addr := match K.lookup (f K) with
  | some ⟨_, _, .func fd, _⟩ => (match fd.defaults with
    | .ref T => (match K.lookup T with
      | some ⟨_, _, .seq its _, _⟩ => (match its.toList[i]? with
        | some (.ref a) => a
        | _ => 0)
      | _ => 0)
    | _ => 0)
  | _ => 0
end Hm
namespace Hm
open PySem PySem.Spec PyProof.Rows L2 He
theorem fc_ok {K : PySem.W.Frag} {C P : Addr} {m : Str} (h : (match PySem.W.findCls K (.ref C) (.type "type") m with
    | some (.get (.builtin g) (.ref p) .none (.ref D)) => decide (g = "staticmethod.__get__") && (decide (p = P) && decide (D = C))
    | _ => false) = true) : PySem.W.findCls K (.ref C) (.type "type") m = some (.get (.builtin "staticmethod.__get__") (.ref P) .none (.ref C)) := by
  split at h
  · rename_i g p D e
    obtain ⟨k1, k⟩ := ba h
    obtain ⟨k2, k3⟩ := ba k
    rw [e, of_decide_eq_true k1, of_decide_eq_true k2, of_decide_eq_true k3]
  · cases h
end Hm

namespace My
/-! ### the plain law: days, years, dates (no program in sight) -/
theorem div_eq {a d k : Int} (hd : 0 < d) (h1 : k * d ≤ a) (h2 : a < k * d + d) : a / d = k := by
  apply Int.le_antisymm
  · have h : a < (k + 1) * d := by rw [Int.add_mul, Int.one_mul]; exact h2
    have := (Int.ediv_lt_iff_lt_mul hd).mpr h
    omega
  · exact (Int.le_ediv_iff_mul_le hd).mpr h1
def longv : List Int → Int → Int
  | [], _ => 0
  | d :: r, y => (y + d - 1) / d - longv r y
def alt : List Int → Int → Int
  | [], _ => 0
  | d :: r, y => (if y % d = 0 then 1 else 0) - alt r y
def cnt (l : List Int) (y : Int) : Nat := (l.filter fun d => decide (y % d = 0)).length
def isL (l : List Int) (y : Int) : Bool := decide ((cnt l y : Int) % 2 = 1)
def okLeaps : Int → List Int → Prop
  | _, [] => True
  | b, d :: r => 2 ≤ d ∧ d ≤ 1000 ∧ b < d ∧ d % b = 0 ∧ okLeaps d r
def lastOr : Int → List Int → Int
  | b, [] => b
  | _, d :: r => lastOr d r
theorem okLeaps.pos : ∀ {b : Int} {l : List Int}, okLeaps b l → ∀ d ∈ l, 2 ≤ d ∧ d ≤ 1000
  | _, [], _, d, h => by cases h
  | b, e :: r, ⟨h1, h2, h3, h4, h5⟩, d, h => by
    rcases List.mem_cons.mp h with rfl | h
    · exact ⟨h1, h2⟩
    · exact h5.pos d h
theorem okLeaps.last : ∀ {b : Int} {l : List Int}, okLeaps b l → 0 < b → (∀ d ∈ l, lastOr b l % d = 0) ∧ lastOr b l % b = 0 ∧ 0 < lastOr b l ∧ (l = [] ∨ lastOr b l ≤ 1000)
  | b, [], _, hb => ⟨fun d h => (nomatch h), Int.emod_self, hb, Or.inl rfl⟩
  | b, e :: r, ⟨h1, h2, h3, h4, h5⟩, hb => by
    obtain ⟨a1, a2, a3, a4⟩ := h5.last (by omega)
    refine ⟨fun d h => ?_, ?_, a3, Or.inr ?_⟩
    · rcases List.mem_cons.mp h with rfl | h
      · exact a2
      · exact a1 d h
    · exact Int.emod_eq_zero_of_dvd (Int.dvd_trans (Int.dvd_of_emod_eq_zero h4) (Int.dvd_of_emod_eq_zero a2))
    · rcases a4 with rfl | a4
      · exact h2
      · exact a4
theorem ceil_succ {y d : Int} (hd : 0 < d) : (y + 1 + d - 1) / d = (y + d - 1) / d + if y % d = 0 then 1 else 0 := by
  have e := Int.mul_ediv_add_emod y d
  have r0 := Int.emod_nonneg y (show d ≠ 0 by omega)
  have r1 := Int.emod_lt_of_pos y hd
  have c : d * (y / d) = y / d * d := Int.mul_comm _ _
  have c1 : (y / d + 1) * d = y / d * d + d := by rw [Int.add_mul, Int.one_mul]
  have a : (y + 1 + d - 1) / d = y / d + 1 := div_eq hd (by omega) (by omega)
  rw [a]
  by_cases h : y % d = 0
  · have b : (y + d - 1) / d = y / d := div_eq hd (by omega) (by omega)
    rw [if_pos h, b]
  · have b : (y + d - 1) / d = y / d + 1 := div_eq hd (by omega) (by omega)
    rw [if_neg h, b, Int.add_zero]
theorem longv_succ : ∀ {l : List Int} {y : Int}, (∀ d ∈ l, 0 < d) → longv l (y + 1) = longv l y + alt l y
  | [], _, _ => rfl
  | d :: r, y, h => by
    have i := longv_succ (l := r) (y := y) fun e he => h e (List.mem_cons_of_mem _ he)
    have c := ceil_succ (y := y) (h d (List.mem_cons_self ..))
    show (y + 1 + d - 1) / d - longv r (y + 1) = (y + d - 1) / d - longv r y + ((if y % d = 0 then 1 else 0) - alt r y)
    rw [i, c]
    omega
theorem cnt_none : ∀ {d y : Int} {l : List Int}, okLeaps d l → 0 < d → y % d ≠ 0 → cnt l y = 0 ∧ alt l y = 0
  | _, _, [], _, _, _ => ⟨rfl, rfl⟩
  | d, y, e :: r, ⟨h1, h2, h3, h4, h5⟩, hd, hn => by
    have he : y % e ≠ 0 := fun z => hn (Int.emod_eq_zero_of_dvd (Int.dvd_trans (Int.dvd_of_emod_eq_zero h4) (Int.dvd_of_emod_eq_zero z)))
    obtain ⟨i1, i2⟩ := cnt_none (y := y) h5 (by omega) he
    refine ⟨?_, ?_⟩
    · show (List.filter _ (e :: r)).length = 0
      rw [List.filter_cons_of_neg (by simpa using he)]
      exact i1
    · show (if y % e = 0 then (1 : Int) else 0) - alt r y = 0
      rw [if_neg he, i2]
      rfl
theorem alt_cnt : ∀ {b y : Int} {l : List Int}, okLeaps b l → alt l y = if (cnt l y : Int) % 2 = 1 then 1 else 0
  | _, _, [], _ => rfl
  | b, y, d :: r, ⟨h1, h2, h3, h4, h5⟩ => by
    by_cases h : y % d = 0
    · have i := alt_cnt (y := y) h5
      have e : cnt (d :: r) y = cnt r y + 1 := by
        show (List.filter _ (d :: r)).length = _
        rw [List.filter_cons_of_pos (by simpa using h)]
        rfl
      show (if y % d = 0 then (1 : Int) else 0) - alt r y = _
      rw [if_pos h, i, e]
      by_cases p : (cnt r y : Int) % 2 = 1
      · rw [if_pos p, if_neg (by omega)]; rfl
      · rw [if_neg p, if_pos (by omega)]; rfl
    · obtain ⟨i1, i2⟩ := cnt_none (y := y) h5 (by omega) h
      have e : cnt (d :: r) y = 0 := by
        show (List.filter _ (d :: r)).length = _
        rw [List.filter_cons_of_neg (by simpa using h)]
        exact i1
      show (if y % d = 0 then (1 : Int) else 0) - alt r y = _
      rw [if_neg h, i2, e]
      rfl
theorem alt_isL {b y : Int} {l : List Int} (h : okLeaps b l) : alt l y = if isL l y = true then 1 else 0 := by
  rw [alt_cnt h]
  unfold isL
  by_cases p : (cnt l y : Int) % 2 = 1
  · rw [if_pos p, if_pos (decide_eq_true p)]
  · rw [if_neg p, if_neg (by simpa using p)]
theorem alt_01 {b y : Int} {l : List Int} (h : okLeaps b l) : 0 ≤ alt l y ∧ alt l y ≤ 1 := by
  rw [alt_cnt h]
  split <;> omega
theorem longv_per : ∀ {l : List Int} {R q y : Int}, (∀ d ∈ l, 0 < d ∧ R % d = 0) → longv l (q * R + y) = q * longv l R + longv l y
  | [], _, _, _, _ => by show (0 : Int) = _ * 0 + 0; omega
  | d :: r, R, q, y, h => by
    obtain ⟨hd, hR⟩ := h d (List.mem_cons_self ..)
    have i := longv_per (l := r) (R := R) (q := q) (y := y) fun e he => h e (List.mem_cons_of_mem _ he)
    obtain ⟨m, e⟩ := Int.dvd_of_emod_eq_zero hR
    have e1 : (q * R + y + d - 1) / d = (y + d - 1) / d + q * m := by
      have : q * R + y + d - 1 = (y + d - 1) + d * (q * m) := by
        rw [e, ← Int.mul_assoc, Int.mul_comm q d, Int.mul_assoc]
        omega
      rw [this, Int.add_mul_ediv_left _ _ (by omega)]
    have e2 : (R + d - 1) / d = m := by
      have c : d * m = m * d := Int.mul_comm _ _
      exact div_eq hd (by omega) (by omega)
    show (q * R + y + d - 1) / d - longv r (q * R + y) = q * ((R + d - 1) / d - longv r R) + ((y + d - 1) / d - longv r y)
    rw [i, e1, e2, Int.mul_sub]
    omega
theorem longv_zero : ∀ {l : List Int}, (∀ d ∈ l, 0 < d) → longv l 0 = 0
  | [], _ => rfl
  | d :: r, h => by
    have hd := h d (List.mem_cons_self ..)
    show (0 + d - 1) / d - longv r 0 = 0
    rw [longv_zero fun e he => h e (List.mem_cons_of_mem _ he), div_eq hd (k := 0) (by omega) (by omega)]
    rfl
/-! the calendar -/
structure Cal where
  day : Int
  week : Int
  months : List Int
  lm : Int
  leaps : List Int
  first : Int
  hour : Int
def okMonths (l : List Int) : Prop := (1 ≤ l.length ∧ l.length ≤ 13) ∧ ∀ k ∈ l, 1 ≤ k ∧ k ≤ 60
structure OkCal (c : Cal) : Prop where
  day : 1 ≤ c.day ∧ c.day ≤ 1440
  week : 1 ≤ c.week ∧ c.week ≤ 10
  months : okMonths c.months
  lm : 1 ≤ c.lm ∧ c.lm ≤ c.months.length
  leaps : okLeaps 1 c.leaps ∧ c.leaps.length ≤ 4
  first : 0 ≤ c.first ∧ c.first ≤ c.week - 1
  hour : 1 ≤ c.hour ∧ c.hour ≤ c.day
def Cal.round (c : Cal) : Int := lastOr 1 c.leaps
def Cal.bef (c : Cal) (y : Int) : Int := y * c.months.sum + longv c.leaps y
def dim (c : Cal) (y : Int) (j : Nat) : Int := c.months.getD j 0 + if ((j : Int) + 1 = c.lm) ∧ isL c.leaps y = true then 1 else 0
def pre (c : Cal) (y : Int) : Nat → Int
  | 0 => 0
  | j + 1 => pre c y j + dim c y j
theorem sum_ge : ∀ {l : List Int}, (∀ k ∈ l, 1 ≤ k ∧ k ≤ 60) → (l.length : Int) ≤ l.sum ∧ l.sum ≤ 60 * (l.length : Int)
  | [], _ => by simp
  | a :: r, h => by
    have i := sum_ge fun k hk => h k (List.mem_cons_of_mem _ hk)
    have ha := h a (List.mem_cons_self ..)
    rw [List.sum_cons, List.length_cons]
    omega
section
variable {c : Cal} (ok : OkCal c)
include ok
theorem OkCal.sum1 : 1 ≤ c.months.sum ∧ c.months.sum ≤ 780 := by
  have := sum_ge ok.months.2
  have := ok.months.1
  omega
theorem OkCal.posl : ∀ d ∈ c.leaps, 0 < d := fun d h => by have := ok.leaps.1.pos d h; omega
theorem OkCal.round1 : 1 ≤ c.round ∧ c.round ≤ 1000 ∧ ∀ d ∈ c.leaps, 0 < d ∧ c.round % d = 0 := by
  obtain ⟨h1, _, h3, h4⟩ := ok.leaps.1.last (by decide)
  refine ⟨h3, ?_, fun d hd => ⟨ok.posl d hd, h1 d hd⟩⟩
  rcases h4 with e | h
  · show lastOr 1 c.leaps ≤ 1000
    rw [e]
    show (1 : Int) ≤ 1000
    decide
  · exact h
theorem OkCal.bef_succ (y : Int) : c.bef (y + 1) = c.bef y + c.months.sum + alt c.leaps y := by
  show (y + 1) * c.months.sum + longv c.leaps (y + 1) = y * c.months.sum + longv c.leaps y + c.months.sum + alt c.leaps y
  rw [longv_succ ok.posl, Int.add_mul, Int.one_mul]
  omega
theorem OkCal.bef_zero : c.bef 0 = 0 := by
  show 0 * c.months.sum + longv c.leaps 0 = 0
  rw [longv_zero ok.posl, Int.zero_mul]
  rfl
theorem OkCal.bef_add (y : Int) : ∀ k : Nat, c.bef y + k * c.months.sum ≤ c.bef (y + k) ∧ c.bef (y + k) ≤ c.bef y + k * (c.months.sum + 1)
  | 0 => by simp
  | k + 1 => by
    have i := OkCal.bef_add y k
    have s := ok.bef_succ (y + k)
    have a := alt_01 (y := y + k) ok.leaps.1
    have e : y + ((k + 1 : Nat) : Int) = y + k + 1 := by omega
    rw [e, s]
    have e1 : ((k + 1 : Nat) : Int) * c.months.sum = k * c.months.sum + c.months.sum := by
      rw [Int.natCast_succ, Int.add_mul, Int.one_mul]
    have e2 : ((k + 1 : Nat) : Int) * (c.months.sum + 1) = k * (c.months.sum + 1) + (c.months.sum + 1) := by
      rw [Int.natCast_succ, Int.add_mul, Int.one_mul]
    rw [e1, e2]
    omega
theorem OkCal.bef_lt {y z : Int} (h : y < z) : c.bef y < c.bef z := by
  have i := (ok.bef_add y (z - y).toNat).1
  have e : y + ((z - y).toNat : Int) = z := by omega
  rw [e] at i
  have h1 : (1 : Int) ≤ ((z - y).toNat : Int) := by omega
  have h2 := ok.sum1
  have h3 : 1 * c.months.sum ≤ ((z - y).toNat : Int) * c.months.sum := Int.mul_le_mul_of_nonneg_right h1 (by omega)
  omega
theorem OkCal.bef_le {y z : Int} (h : y ≤ z) : c.bef y ≤ c.bef z := by
  rcases Int.lt_or_eq_of_le h with h | rfl
  · exact Int.le_of_lt (ok.bef_lt h)
  · exact Int.le_refl _
theorem OkCal.bef_ge {y : Int} (h : 0 ≤ y) : y * c.months.sum ≤ c.bef y ∧ c.bef y ≤ y * (c.months.sum + 1) ∧ y ≤ c.bef y := by
  have i := ok.bef_add 0 y.toNat
  have e : (0 : Int) + (y.toNat : Int) = y := by omega
  have e' : (y.toNat : Int) = y := by omega
  rw [e, ok.bef_zero, e'] at i
  have h3 : y * 1 ≤ y * c.months.sum := Int.mul_le_mul_of_nonneg_left ok.sum1.1 h
  omega
theorem OkCal.bef_per (q y : Int) : c.bef (q * c.round + y) = q * c.bef c.round + c.bef y := by
  show (q * c.round + y) * c.months.sum + longv c.leaps (q * c.round + y) = q * (c.round * c.months.sum + longv c.leaps c.round) + (y * c.months.sum + longv c.leaps y)
  rw [longv_per ok.round1.2.2, Int.add_mul, Int.mul_add, Int.mul_assoc]
  omega
theorem take_sum (l : List Int) (j : Nat) (h : j < l.length) : (l.take (j + 1)).sum = (l.take j).sum + l.getD j 0 := by
  rw [List.take_succ_eq_append_getElem h, List.sum_append]
  simp [List.getD, h]
theorem OkCal.pre_eq (y : Int) : ∀ j : Nat, j ≤ c.months.length → pre c y j = (c.months.take j).sum + if c.lm ≤ j ∧ isL c.leaps y = true then 1 else 0
  | 0, _ => by
    have := ok.lm
    rw [if_neg (by omega)]
    rfl
  | j + 1, h => by
    show pre c y j + (c.months.getD j 0 + if ((j : Int) + 1 = c.lm) ∧ isL c.leaps y = true then 1 else 0) = _
    rw [OkCal.pre_eq y j (by omega), take_sum ok _ _ h]
    cases isL c.leaps y with
    | false => simp <;> omega
    | true =>
      simp only [and_true]
      by_cases e1 : c.lm ≤ j
      · rw [if_pos e1, if_neg (by omega), if_pos (by omega)]; omega
      · by_cases e2 : (j : Int) + 1 = c.lm
        · rw [if_neg e1, if_pos e2, if_pos (by omega)]; omega
        · rw [if_neg e1, if_neg e2, if_neg (by omega)]; omega
theorem OkCal.pre_all (y : Int) : pre c y c.months.length = c.months.sum + alt c.leaps y := by
  rw [ok.pre_eq y _ (Nat.le_refl _), List.take_length, alt_isL ok.leaps.1]
  have := ok.lm
  cases isL c.leaps y with
  | false => simp
  | true => rw [if_pos ⟨this.2, rfl⟩, if_pos rfl]
theorem OkCal.dim1 (y : Int) {j : Nat} (h : j < c.months.length) : 1 ≤ dim c y j ∧ dim c y j ≤ 61 := by
  have e : c.months.getD j 0 = c.months[j] := by simp [List.getD, h]
  have := ok.months.2 _ (List.getElem_mem h)
  show 1 ≤ c.months.getD j 0 + _ ∧ c.months.getD j 0 + _ ≤ 61
  rw [e]
  split <;> omega
theorem OkCal.pre_lt (y : Int) : ∀ {i j : Nat}, i < j → j ≤ c.months.length → pre c y i < pre c y j
  | i, 0, h, _ => absurd h (Nat.not_lt_zero _)
  | i, j + 1, h, hj => by
    have d := ok.dim1 y (j := j) (by omega)
    show pre c y i < pre c y j + dim c y j
    rcases Nat.lt_or_eq_of_le (Nat.le_of_lt_succ h) with h | rfl
    · have := OkCal.pre_lt y h (by omega)
      omega
    · omega
omit ok in
theorem pre_zero (c : Cal) (y : Int) : pre c y 0 = 0 := rfl
end
/-- (y, m, d) is the date of day n; m is j + 1 -/
structure IsDate (c : Cal) (n y m d : Int) (j : Nat) : Prop where
  y0 : 0 ≤ y
  lo : c.bef y ≤ n
  hi : n < c.bef (y + 1)
  m : m = (j : Int) + 1
  jl : j < c.months.length
  mlo : pre c y j ≤ n - c.bef y
  mhi : n - c.bef y < pre c y (j + 1)
  d : d = n - c.bef y - pre c y j + 1
theorem IsDate.uniq {c : Cal} (ok : OkCal c) {n y m d y' m' d' : Int} {j j' : Nat} (a : IsDate c n y m d j) (b : IsDate c n y' m' d' j') : y = y' ∧ m = m' ∧ d = d' ∧ j = j' := by
  have ey : y = y' := by
    rcases Int.lt_trichotomy y y' with h | h | h
    · have := ok.bef_le (y := y + 1) (z := y') (by omega)
      have := a.hi; have := b.lo; omega
    · exact h
    · have := ok.bef_le (y := y' + 1) (z := y) (by omega)
      have := b.hi; have := a.lo; omega
  subst ey
  have mono : ∀ {i k : Nat}, i < k → k ≤ c.months.length → pre c y (i + 1) ≤ pre c y k := fun {i k} h hk => by
    rcases Nat.lt_or_eq_of_le (Nat.succ_le_of_lt h) with h | h
    · exact Int.le_of_lt (ok.pre_lt y h hk)
    · rw [← h]; exact Int.le_refl _
  have ej : j = j' := by
    rcases Nat.lt_trichotomy j j' with h | h | h
    · have := mono h (Nat.le_of_lt b.jl)
      have := a.mhi; have := b.mlo; omega
    · exact h
    · have := mono h (Nat.le_of_lt a.jl)
      have := b.mhi; have := a.mlo; omega
  subst ej
  exact ⟨rfl, a.m.trans b.m.symm, a.d.trans b.d.symm, rfl⟩
theorem IsDate.zero {c : Cal} (ok : OkCal c) : IsDate c 0 0 1 1 0 := by
  have h0 := ok.bef_zero
  have h1 := ok.bef_lt (y := 0) (z := 0 + 1) (by omega)
  have h2 := ok.pre_lt 0 (i := 0) (j := 1) (by decide) ok.months.1.1
  rw [h0] at h1
  rw [pre_zero] at h2
  exact ⟨by omega, by omega, h1, rfl, ok.months.1.1, by rw [h0, pre_zero]; decide, by rw [h0]; exact h2, by rw [h0, pre_zero]; decide⟩
theorem IsDate.day {c : Cal} {n y m d : Int} {j : Nat} (a : IsDate c n y m d j) : 1 ≤ d ∧ d ≤ dim c y j := by
  have h1 := a.mlo; have h2 := a.mhi; have h3 := a.d
  have h4 : pre c y (j + 1) = pre c y j + dim c y j := rfl
  omega
theorem IsDate.next {c : Cal} (ok : OkCal c) {n y m d : Int} {j : Nat} (a : IsDate c n y m d j) :
    (d ≠ dim c y j → IsDate c (n + 1) y m (d + 1) j) ∧ (d = dim c y j → j + 1 < c.months.length → IsDate c (n + 1) y (m + 1) 1 (j + 1)) ∧ (d = dim c y j → j + 1 = c.months.length → IsDate c (n + 1) (y + 1) 1 1 0) := by
  obtain ⟨y0, lo, hi, em, jl, mlo, mhi, ed⟩ := a
  have h4 : pre c y (j + 1) = pre c y j + dim c y j := rfl
  have hs := ok.bef_succ y
  have hp := ok.pre_all y
  refine ⟨fun h => ?_, fun h hj => ?_, fun h hj => ?_⟩
  · have le : pre c y (j + 1) ≤ pre c y c.months.length := by
      rcases Nat.lt_or_eq_of_le (Nat.succ_le_of_lt jl) with h | h
      · exact Int.le_of_lt (ok.pre_lt y h (Nat.le_refl _))
      · rw [← h]; exact Int.le_refl _
    exact ⟨y0, by omega, by omega, em, jl, by omega, by omega, by omega⟩
  · have lt := ok.pre_lt y hj (Nat.le_refl _)
    have l2 := ok.dim1 y hj
    have h5 : pre c y (j + 1 + 1) = pre c y (j + 1) + dim c y (j + 1) := rfl
    exact ⟨y0, by omega, by omega, by omega, hj, by omega, by omega, by omega⟩
  · rw [hj] at h4
    have e : n + 1 = c.bef (y + 1) := by omega
    have h6 := ok.bef_lt (y := y + 1) (z := y + 1 + 1) (by omega)
    have h7 := ok.pre_lt (y + 1) (i := 0) (j := 1) (by decide) ok.months.1.1
    rw [pre_zero] at h7
    exact ⟨by omega, by omega, by omega, rfl, ok.months.1.1, by rw [pre_zero]; omega, by rw [e]; show c.bef (y + 1) - c.bef (y + 1) < pre c (y + 1) 1; omega, by rw [pre_zero]; omega⟩
/-- from the parts of a division -/
theorem IsDate.of_round {c : Cal} (ok : OkCal c) {n y : Int} (hn : 0 ≤ n) (y0 : 0 ≤ y) (h1 : c.bef y ≤ n % c.bef c.round) (h2 : n % c.bef c.round < c.bef (y + 1)) :
    0 ≤ n / c.bef c.round * c.round + y ∧ c.bef (n / c.bef c.round * c.round + y) ≤ n ∧ n < c.bef (n / c.bef c.round * c.round + y + 1) ∧ n - c.bef (n / c.bef c.round * c.round + y) = n % c.bef c.round - c.bef y := by
  have r1 := ok.round1
  have D1 : 0 < c.bef c.round := by have := ok.bef_lt (y := 0) (z := c.round) (by omega); rw [ok.bef_zero] at this; exact this
  have e := Int.mul_ediv_add_emod n (c.bef c.round)
  have cm : c.bef c.round * (n / c.bef c.round) = n / c.bef c.round * c.bef c.round := Int.mul_comm _ _
  have p1 := ok.bef_per (n / c.bef c.round) y
  have p2 := ok.bef_per (n / c.bef c.round) (y + 1)
  rw [← Int.add_assoc] at p2
  have q0 : 0 ≤ n / c.bef c.round := Int.ediv_nonneg hn (by omega)
  have q1 : 0 ≤ n / c.bef c.round * c.round := Int.mul_nonneg q0 (by omega)
  rw [p1, p2]
  omega
/-- the months -/
theorem IsDate.of_month {c : Cal} (ok : OkCal c) {n y : Int} {j : Nat} (y0 : 0 ≤ y) (lo : c.bef y ≤ n) (hi : n < c.bef (y + 1)) (jl : j < c.months.length) (mlo : pre c y j ≤ n - c.bef y) (mhi : n - c.bef y < pre c y (j + 1)) :
    IsDate c n y ((j : Int) + 1) (n - c.bef y - pre c y j + 1) j := ⟨y0, lo, hi, rfl, jl, mlo, mhi, rfl⟩
theorem OkCal.inYear {c : Cal} (ok : OkCal c) {n y : Int} (hi : n < c.bef (y + 1)) : n - c.bef y < pre c y c.months.length := by
  have := ok.bef_succ y
  have := ok.pre_all y
  omega
end My

namespace My
open PySem L2
def top (i : Nat) : Stmt := PySem.Challenge.pw_duejobs_k11_why_due_and_why_not.main.body.getD i (.Pass ⟨0, 0, 0, 0⟩)
abbrev s__wall : Stmt := top 0
abbrev s_OutOfRange_init : Stmt := inClass (top 3) 0
abbrev s_TooMany_init : Stmt := inClass (top 4) 0
abbrev s_BadCalendar_init : Stmt := inClass (top 5) 0
abbrev s_BadChoice_init : Stmt := inClass (top 6) 0
abbrev s_BadDays_init : Stmt := inClass (top 7) 0
abbrev s_in_range : Stmt := top 9
abbrev s_first_bar : Stmt := top 12
abbrev s_why_due : Stmt := top 13
abbrev s_why_not : Stmt := top 14
abbrev s_right_months : Stmt := top 16
abbrev s_right_leaps : Stmt := top 17
abbrev s_is_long_year : Stmt := top 18
abbrev s_long_years : Stmt := top 19
abbrev s_days_ahead : Stmt := top 20
abbrev s_days_in_month : Stmt := top 21
abbrev s_year_of_day : Stmt := top 22
abbrev s_Calendar_init : Stmt := inClass (top 23) 0
abbrev s_Calendar_gregorian : Stmt := inClass (top 23) 1
abbrev s_Calendar_is_long : Stmt := inClass (top 23) 2
abbrev s_Calendar_days_before : Stmt := inClass (top 23) 3
abbrev s_Calendar_month_length : Stmt := inClass (top 23) 4
abbrev s_Calendar_date_of : Stmt := inClass (top 23) 5
abbrev s_Calendar_day_number : Stmt := inClass (top 23) 6
abbrev s_Calendar_weekday_of : Stmt := inClass (top 23) 7
abbrev s_right_part : Stmt := top 27
abbrev s_part_text : Stmt := top 28
abbrev s_first_member : Stmt := top 29
abbrev s_Choice_init : Stmt := inClass (top 30) 0
abbrev s_Choice_holds : Stmt := inClass (top 30) 1
abbrev s_Choice_numbers : Stmt := inClass (top 30) 2
abbrev s_last_word : Stmt := top 34
abbrev s_bad_day : Stmt := top 35
abbrev s_MonthDays_init : Stmt := inClass (top 37) 0
abbrev s_MonthDays_holds : Stmt := inClass (top 37) 1
abbrev s_MonthDays_head_days : Stmt := inClass (top 37) 2
abbrev s_MonthDays_period_days : Stmt := inClass (top 37) 3
abbrev s_Weekdays_init : Stmt := inClass (top 38) 0
abbrev s_Weekdays_holds : Stmt := inClass (top 38) 1
abbrev s_Weekdays_head_days : Stmt := inClass (top 38) 2
abbrev s_Weekdays_period_days : Stmt := inClass (top 38) 3
abbrev s_Months_init : Stmt := inClass (top 39) 0
abbrev s_Months_holds : Stmt := inClass (top 39) 1
abbrev s_Months_head_days : Stmt := inClass (top 39) 2
abbrev s_Months_period_days : Stmt := inClass (top 39) 3
abbrev s_NthWeekday_init : Stmt := inClass (top 40) 0
abbrev s_NthWeekday_holds : Stmt := inClass (top 40) 1
abbrev s_NthWeekday_head_days : Stmt := inClass (top 40) 2
abbrev s_NthWeekday_period_days : Stmt := inClass (top 40) 3
abbrev s_EveryDays_init : Stmt := inClass (top 41) 0
abbrev s_EveryDays_holds : Stmt := inClass (top 41) 1
abbrev s_EveryDays_head_days : Stmt := inClass (top 41) 2
abbrev s_EveryDays_period_days : Stmt := inClass (top 41) 3
abbrev s_FromDay_init : Stmt := inClass (top 42) 0
abbrev s_FromDay_holds : Stmt := inClass (top 42) 1
abbrev s_FromDay_head_days : Stmt := inClass (top 42) 2
abbrev s_FromDay_period_days : Stmt := inClass (top 42) 3
abbrev s_UntilDay_init : Stmt := inClass (top 43) 0
abbrev s_UntilDay_holds : Stmt := inClass (top 43) 1
abbrev s_UntilDay_head_days : Stmt := inClass (top 43) 2
abbrev s_UntilDay_period_days : Stmt := inClass (top 43) 3
abbrev s_NotOn_init : Stmt := inClass (top 44) 0
abbrev s_NotOn_holds : Stmt := inClass (top 44) 1
abbrev s_NotOn_head_days : Stmt := inClass (top 44) 2
abbrev s_NotOn_period_days : Stmt := inClass (top 44) 3
abbrev s_Rule_init : Stmt := inClass (top 48) 0
abbrev s_Rule_holds : Stmt := inClass (top 48) 1
abbrev s_Schedule_init : Stmt := inClass (top 49) 0
abbrev s_Schedule_holds : Stmt := inClass (top 49) 1
abbrev s__law_start : Stmt := top 51
abbrev s__law_draw : Stmt := top 52
abbrev s__law_far : Stmt := top 53
abbrev s__law_days_of : Stmt := top 54
abbrev s__law_drawn : Stmt := top 55
abbrev s__law_parts : Stmt := top 56
abbrev s__law_condition : Stmt := top 57
abbrev s__law_object : Stmt := top 58
abbrev s__law_chosen : Stmt := top 59
abbrev s__law_on : Stmt := top 60
abbrev s__law_bar : Stmt := top 61
abbrev s__law_int : Stmt := top 62
abbrev s__law_row : Stmt := top 63
abbrev s__law_why : Stmt := top 64
abbrev s__law_call : Stmt := top 65
abbrev s__law_asked : Stmt := top 66
abbrev s__law_size : Stmt := top 67
abbrev s__law_wide : Stmt := top 68
abbrev s__law_choice : Stmt := top 69
abbrev s__law_integers : Stmt := top 70
abbrev s__law_wrong : Stmt := top 71
abbrev s_law : Stmt := top 72
theorem sc_OutOfRange_init : FnScope ["self", "what", "value"] ["self", "what", "value"] (defScope s_OutOfRange_init) := ⟨rfl, rfl, rfl, by decide +kernel, rfl, by decide +kernel, by decide +kernel⟩
theorem sc_TooMany_init : FnScope ["self", "what", "many"] ["self", "what", "many"] (defScope s_TooMany_init) := ⟨rfl, rfl, rfl, by decide +kernel, rfl, by decide +kernel, by decide +kernel⟩
theorem sc_BadCalendar_init : FnScope ["self", "part"] ["self", "part"] (defScope s_BadCalendar_init) := ⟨rfl, rfl, rfl, by decide +kernel, rfl, by decide +kernel, by decide +kernel⟩
theorem sc_BadChoice_init : FnScope ["self", "at"] ["self", "at"] (defScope s_BadChoice_init) := ⟨rfl, rfl, rfl, by decide +kernel, rfl, by decide +kernel, by decide +kernel⟩
theorem sc_BadDays_init : FnScope ["self", "at"] ["self", "at"] (defScope s_BadDays_init) := ⟨rfl, rfl, rfl, by decide +kernel, rfl, by decide +kernel, by decide +kernel⟩
theorem sc_in_range : FnScope ["what", "value", "low", "high"] ["what", "value", "low", "high"] (defScope s_in_range) := ⟨rfl, rfl, rfl, by decide +kernel, rfl, by decide +kernel, by decide +kernel⟩
theorem sc_first_bar : FnScope ["rule", "calendar", "minute", "number", "inner", "at", "condition"] ["rule", "calendar", "minute"] (defScope s_first_bar) := ⟨rfl, rfl, rfl, by decide +kernel, rfl, by decide +kernel, by decide +kernel⟩
theorem sc_why_due : FnScope ["schedule", "calendar", "minute", "at", "rule"] ["schedule", "calendar", "minute"] (defScope s_why_due) := ⟨rfl, rfl, rfl, by decide +kernel, rfl, by decide +kernel, by decide +kernel⟩
theorem sc_why_not : FnScope ["schedule", "calendar", "minute", "rule"] ["schedule", "calendar", "minute"] (defScope s_why_not) := ⟨rfl, rfl, rfl, by decide +kernel, rfl, by decide +kernel, by decide +kernel⟩
theorem sc_right_months : FnScope ["months", "length"] ["months"] (defScope s_right_months) := ⟨rfl, rfl, rfl, by decide +kernel, rfl, by decide +kernel, by decide +kernel⟩
theorem sc_right_leaps : FnScope ["leaps", "before", "divisor"] ["leaps"] (defScope s_right_leaps) := ⟨rfl, rfl, rfl, by decide +kernel, rfl, by decide +kernel, by decide +kernel⟩
theorem sc_is_long_year : FnScope ["leaps", "year", "many", "divisor"] ["leaps", "year"] (defScope s_is_long_year) := ⟨rfl, rfl, rfl, by decide +kernel, rfl, by decide +kernel, by decide +kernel⟩
theorem sc_long_years : FnScope ["leaps", "year", "many", "sign", "divisor"] ["leaps", "year"] (defScope s_long_years) := ⟨rfl, rfl, rfl, by decide +kernel, rfl, by decide +kernel, by decide +kernel⟩
theorem sc_days_ahead : FnScope ["calendar", "year"] ["calendar", "year"] (defScope s_days_ahead) := ⟨rfl, rfl, rfl, by decide +kernel, rfl, by decide +kernel, by decide +kernel⟩
theorem sc_days_in_month : FnScope ["calendar", "year", "month", "length"] ["calendar", "year", "month"] (defScope s_days_in_month) := ⟨rfl, rfl, rfl, by decide +kernel, rfl, by decide +kernel, by decide +kernel⟩
theorem sc_year_of_day : FnScope ["calendar", "number", "rounds", "rest", "shortest", "low", "high", "middle"] ["calendar", "number"] (defScope s_year_of_day) := ⟨rfl, rfl, rfl, by decide +kernel, rfl, by decide +kernel, by decide +kernel⟩
theorem sc_Calendar_init : FnScope ["self", "day", "week", "months", "leap_month", "leaps", "first", "hour"] ["self", "day", "week", "months", "leap_month", "leaps", "first", "hour"] (defScope s_Calendar_init) := ⟨rfl, rfl, rfl, by decide +kernel, rfl, by decide +kernel, by decide +kernel⟩
theorem sc_Calendar_month_length : FnScope ["self", "year", "month"] ["self", "year", "month"] (defScope s_Calendar_month_length) := ⟨rfl, rfl, rfl, by decide +kernel, rfl, by decide +kernel, by decide +kernel⟩
theorem sc_Calendar_date_of : FnScope ["self", "number", "year", "left", "month"] ["self", "number"] (defScope s_Calendar_date_of) := ⟨rfl, rfl, rfl, by decide +kernel, rfl, by decide +kernel, by decide +kernel⟩
theorem sc_Calendar_weekday_of : FnScope ["self", "number"] ["self", "number"] (defScope s_Calendar_weekday_of) := ⟨rfl, rfl, rfl, by decide +kernel, rfl, by decide +kernel, by decide +kernel⟩
theorem sc_right_part : FnScope ["part", "low", "high", "step"] ["part"] (defScope s_right_part) := ⟨rfl, rfl, rfl, by decide +kernel, rfl, by decide +kernel, by decide +kernel⟩
theorem sc_part_text : FnScope ["part", "low", "high", "step"] ["part"] (defScope s_part_text) := ⟨rfl, rfl, rfl, by decide +kernel, rfl, by decide +kernel, by decide +kernel⟩
theorem sc_first_member : FnScope ["low", "step", "least"] ["low", "step", "least"] (defScope s_first_member) := ⟨rfl, rfl, rfl, by decide +kernel, rfl, by decide +kernel, by decide +kernel⟩
theorem sc_Choice_init : FnScope ["self", "parts", "at", "part"] ["self", "parts"] (defScope s_Choice_init) := ⟨rfl, rfl, rfl, by decide +kernel, rfl, by decide +kernel, by decide +kernel⟩
theorem sc_Choice_holds : FnScope ["self", "number", "low", "high", "step"] ["self", "number"] (defScope s_Choice_holds) := ⟨rfl, rfl, rfl, by decide +kernel, rfl, by decide +kernel, by decide +kernel⟩
theorem sc_Choice_numbers : FnScope ["self", "low", "high", "found", "first", "last", "step", "number"] ["self", "low", "high"] (defScope s_Choice_numbers) := ⟨rfl, rfl, rfl, by decide +kernel, rfl, by decide +kernel, by decide +kernel⟩
theorem sc_last_word : FnScope ["from_end"] ["from_end"] (defScope s_last_word) := ⟨rfl, rfl, rfl, by decide +kernel, rfl, by decide +kernel, by decide +kernel⟩
theorem sc_bad_day : FnScope ["days", "at", "day"] ["days"] (defScope s_bad_day) := ⟨rfl, rfl, rfl, by decide +kernel, rfl, by decide +kernel, by decide +kernel⟩
theorem sc_MonthDays_init : FnScope ["self", "choice", "from_end"] ["self", "choice", "from_end"] (defScope s_MonthDays_init) := ⟨rfl, rfl, rfl, by decide +kernel, rfl, by decide +kernel, by decide +kernel⟩
theorem sc_MonthDays_holds : FnScope ["self", "calendar", "number", "year", "month", "day"] ["self", "calendar", "number"] (defScope s_MonthDays_holds) := ⟨rfl, rfl, rfl, by decide +kernel, rfl, by decide +kernel, by decide +kernel⟩
theorem sc_Weekdays_init : FnScope ["self", "choice"] ["self", "choice"] (defScope s_Weekdays_init) := ⟨rfl, rfl, rfl, by decide +kernel, rfl, by decide +kernel, by decide +kernel⟩
theorem sc_Weekdays_holds : FnScope ["self", "calendar", "number"] ["self", "calendar", "number"] (defScope s_Weekdays_holds) := ⟨rfl, rfl, rfl, by decide +kernel, rfl, by decide +kernel, by decide +kernel⟩
theorem sc_Months_init : FnScope ["self", "choice"] ["self", "choice"] (defScope s_Months_init) := ⟨rfl, rfl, rfl, by decide +kernel, rfl, by decide +kernel, by decide +kernel⟩
theorem sc_Months_holds : FnScope ["self", "calendar", "number"] ["self", "calendar", "number"] (defScope s_Months_holds) := ⟨rfl, rfl, rfl, by decide +kernel, rfl, by decide +kernel, by decide +kernel⟩
theorem sc_NthWeekday_init : FnScope ["self", "nth", "weekday", "from_end"] ["self", "nth", "weekday", "from_end"] (defScope s_NthWeekday_init) := ⟨rfl, rfl, rfl, by decide +kernel, rfl, by decide +kernel, by decide +kernel⟩
theorem sc_NthWeekday_holds : FnScope ["self", "calendar", "number", "year", "month", "day", "others"] ["self", "calendar", "number"] (defScope s_NthWeekday_holds) := ⟨rfl, rfl, rfl, by decide +kernel, rfl, by decide +kernel, by decide +kernel⟩
theorem sc_EveryDays_init : FnScope ["self", "step", "first"] ["self", "step", "first"] (defScope s_EveryDays_init) := ⟨rfl, rfl, rfl, by decide +kernel, rfl, by decide +kernel, by decide +kernel⟩
theorem sc_EveryDays_holds : FnScope ["self", "calendar", "number"] ["self", "calendar", "number"] (defScope s_EveryDays_holds) := ⟨rfl, rfl, rfl, by decide +kernel, rfl, by decide +kernel, by decide +kernel⟩
theorem sc_FromDay_init : FnScope ["self", "day"] ["self", "day"] (defScope s_FromDay_init) := ⟨rfl, rfl, rfl, by decide +kernel, rfl, by decide +kernel, by decide +kernel⟩
theorem sc_FromDay_holds : FnScope ["self", "calendar", "number"] ["self", "calendar", "number"] (defScope s_FromDay_holds) := ⟨rfl, rfl, rfl, by decide +kernel, rfl, by decide +kernel, by decide +kernel⟩
theorem sc_UntilDay_init : FnScope ["self", "day"] ["self", "day"] (defScope s_UntilDay_init) := ⟨rfl, rfl, rfl, by decide +kernel, rfl, by decide +kernel, by decide +kernel⟩
theorem sc_UntilDay_holds : FnScope ["self", "calendar", "number"] ["self", "calendar", "number"] (defScope s_UntilDay_holds) := ⟨rfl, rfl, rfl, by decide +kernel, rfl, by decide +kernel, by decide +kernel⟩
theorem sc_NotOn_init : FnScope ["self", "days", "at", "day"] ["self", "days"] (defScope s_NotOn_init) := ⟨rfl, rfl, rfl, by decide +kernel, rfl, by decide +kernel, by decide +kernel⟩
theorem sc_NotOn_holds : FnScope ["self", "calendar", "number"] ["self", "calendar", "number"] (defScope s_NotOn_holds) := ⟨rfl, rfl, rfl, by decide +kernel, rfl, by decide +kernel, by decide +kernel⟩
theorem sc_Rule_init : FnScope ["self", "minutes", "conditions", "condition"] ["self", "minutes", "conditions"] (defScope s_Rule_init) := ⟨rfl, rfl, rfl, by decide +kernel, rfl, by decide +kernel, by decide +kernel⟩
theorem sc_Rule_holds : FnScope ["self", "calendar", "minute", "number", "inner", "condition"] ["self", "calendar", "minute"] (defScope s_Rule_holds) := ⟨rfl, rfl, rfl, by decide +kernel, rfl, by decide +kernel, by decide +kernel⟩
theorem sc_Schedule_init : FnScope ["self", "rules", "rule"] ["self", "rules"] (defScope s_Schedule_init) := ⟨rfl, rfl, rfl, by decide +kernel, rfl, by decide +kernel, by decide +kernel⟩
theorem sc_Schedule_holds : FnScope ["self", "calendar", "minute", "rule"] ["self", "calendar", "minute"] (defScope s_Schedule_holds) := ⟨rfl, rfl, rfl, by decide +kernel, rfl, by decide +kernel, by decide +kernel⟩
theorem sc__law_start : FnScope ["script", "cells", "k", "cell", "one", "two", "three"] ["script"] (defScope s__law_start) := ⟨rfl, rfl, rfl, by decide +kernel, rfl, by decide +kernel, by decide +kernel⟩
theorem sc__law_draw : FnScope ["pool", "many", "one"] ["pool", "many"] (defScope s__law_draw) := ⟨rfl, rfl, rfl, by decide +kernel, rfl, by decide +kernel, by decide +kernel⟩
theorem sc__law_far : FnScope ["pool"] ["pool"] (defScope s__law_far) := ⟨rfl, rfl, rfl, by decide +kernel, rfl, by decide +kernel, by decide +kernel⟩
theorem sc__law_days_of : FnScope ["months", "one", "leaps", "rows", "year", "odd", "k", "month", "length", "day"] ["months", "one", "leaps"] (defScope s__law_days_of) := ⟨rfl, rfl, rfl, by decide +kernel, rfl, by decide +kernel, by decide +kernel⟩
theorem sc__law_drawn : FnScope ["pool", "months", "k", "leaps", "one", "week", "first", "day", "land"] ["pool"] (defScope s__law_drawn) := ⟨rfl, rfl, rfl, by decide +kernel, rfl, by decide +kernel, by decide +kernel⟩
theorem sc__law_parts : FnScope ["pool", "top", "parts", "k", "low", "high"] ["pool", "top"] (defScope s__law_parts) := ⟨rfl, rfl, rfl, by decide +kernel, rfl, by decide +kernel, by decide +kernel⟩
theorem sc__law_condition : FnScope ["pool", "kind", "parts", "a", "b", "some"] ["pool"] (defScope s__law_condition) := ⟨rfl, rfl, rfl, by decide +kernel, rfl, by decide +kernel, by decide +kernel⟩
theorem sc__law_object : FnScope ["c", "one", "some"] ["c"] (defScope s__law_object) := ⟨rfl, rfl, rfl, by decide +kernel, rfl, by decide +kernel, by decide +kernel⟩
theorem sc__law_chosen : FnScope ["parts", "x", "a"] ["parts", "x"] (defScope s__law_chosen) := ⟨rfl, rfl, rfl, by decide +kernel, rfl, by decide +kernel, by decide +kernel⟩
theorem sc__law_on : FnScope ["c", "w", "n", "month", "day", "length", "weekday", "places", "ahead"] ["c", "w", "n"] (defScope s__law_on) := ⟨rfl, rfl, rfl, by decide +kernel, rfl, by decide +kernel, by decide +kernel⟩
theorem sc__law_bar : FnScope ["rule", "w", "minute", "k"] ["rule", "w", "minute"] (defScope s__law_bar) := ⟨rfl, rfl, rfl, by decide +kernel, rfl, by decide +kernel, by decide +kernel⟩
theorem sc__law_int : FnScope ["one"] ["one"] (defScope s__law_int) := ⟨rfl, rfl, rfl, by decide +kernel, rfl, by decide +kernel, by decide +kernel⟩
theorem sc__law_row : FnScope ["told", "due", "x"] ["told", "due"] (defScope s__law_row) := ⟨rfl, rfl, rfl, by decide +kernel, rfl, by decide +kernel, by decide +kernel⟩
theorem sc__law_why : FnScope ["whole", "land", "w", "rules", "minute", "bars", "rule", "one", "two", "three"] ["whole", "land", "w", "rules", "minute"] (defScope s__law_why) := ⟨rfl, rfl, rfl, by decide +kernel, rfl, by decide +kernel, by decide +kernel⟩
theorem sc__law_call : FnScope ["kind", "a", "b", "c"] ["kind", "a", "b", "c"] (defScope s__law_call) := ⟨rfl, rfl, rfl, by decide +kernel, rfl, by decide +kernel, by decide +kernel⟩
theorem sc__law_asked : FnScope ["kind", "a", "b", "c", "e", "odd", "fine"] ["kind", "a", "b", "c"] (defScope s__law_asked) := ⟨rfl, rfl, rfl, by decide +kernel, rfl, by decide +kernel, by decide +kernel⟩
theorem sc__law_size : FnScope ["pool", "low", "top", "shape"] ["pool", "low", "top"] (defScope s__law_size) := ⟨rfl, rfl, rfl, by decide +kernel, rfl, by decide +kernel, by decide +kernel⟩
theorem sc__law_wide : FnScope ["pool", "parts", "k", "low", "high"] ["pool"] (defScope s__law_wide) := ⟨rfl, rfl, rfl, by decide +kernel, rfl, by decide +kernel, by decide +kernel⟩
theorem sc__law_choice : FnScope ["pool", "parts", "handed", "one", "k", "low", "high", "some", "x", "points", "a", "told"] ["pool", "parts"] (defScope s__law_choice) := ⟨rfl, rfl, rfl, by decide +kernel, rfl, by decide +kernel, by decide +kernel⟩
theorem sc__law_integers : FnScope ["pool", "land", "rule", "d", "rows", "ends", "row", "x", "whole", "c"] ["pool", "land", "rule"] (defScope s__law_integers) := ⟨rfl, rfl, rfl, by decide +kernel, rfl, by decide +kernel, by decide +kernel⟩
theorem sc__law_wrong : FnScope ["pool", "parts", "d", "at", "bad", "bent", "many", "odd", "days", "k", "more", "some", "one"] ["pool", "parts"] (defScope s__law_wrong) := ⟨rfl, rfl, rfl, by decide +kernel, rfl, by decide +kernel, by decide +kernel⟩
theorem sc_law : FnScope ["script", "pool", "land", "w", "big", "rules", "k", "cs", "j", "made", "rule", "c", "whole", "minutes", "minute", "never", "none", "some", "parts"] ["script"] (defScope s_law) := ⟨rfl, rfl, rfl, by decide +kernel, rfl, by decide +kernel, by decide +kernel⟩
structure Ad where
  (c_DueError c_OutOfRange c_TooMany c_BadCalendar c_BadChoice c_BadDays c_Calendar c_Choice c_Condition c_MonthDays c_Weekdays c_Months c_NthWeekday c_EveryDays c_FromDay c_UntilDay c_NotOn c_Rule c_Schedule f_OutOfRange_init f_TooMany_init f_BadCalendar_init f_BadChoice_init f_BadDays_init f_in_range f_first_bar f_why_due f_why_not f_right_months f_right_leaps f_is_long_year f_long_years f_days_ahead f_days_in_month f_year_of_day f_Calendar_init f_Calendar_month_length f_Calendar_date_of f_Calendar_weekday_of f_right_part f_part_text f_first_member f_Choice_init f_Choice_holds f_Choice_numbers f_last_word f_bad_day f_MonthDays_init f_MonthDays_holds f_Weekdays_init f_Weekdays_holds f_Months_init f_Months_holds f_NthWeekday_init f_NthWeekday_holds f_EveryDays_init f_EveryDays_holds f_FromDay_init f_FromDay_holds f_UntilDay_init f_UntilDay_holds f_NotOn_init f_NotOn_holds f_Rule_init f_Rule_holds f_Schedule_init f_Schedule_holds f__law_start f__law_draw f__law_far f__law_days_of f__law_drawn f__law_parts f__law_condition f__law_object f__law_chosen f__law_on f__law_bar f__law_int f__law_row f__law_why f__law_call f__law_asked f__law_size f__law_wide f__law_choice f__law_integers f__law_wrong f_law : Addr)
  (e_Calendar_init_leaps e_Choice_init_parts e_Rule_init_conditions : Addr)
  (d_OutOfRange_init d_TooMany_init d_BadCalendar_init d_BadChoice_init d_BadDays_init d_in_range d_first_bar d_why_due d_why_not d_right_months d_right_leaps d_is_long_year d_long_years d_days_ahead d_days_in_month d_year_of_day d_Calendar_init d_Calendar_month_length d_Calendar_date_of d_Calendar_weekday_of d_right_part d_part_text d_first_member d_Choice_init d_Choice_holds d_Choice_numbers d_last_word d_bad_day d_MonthDays_init d_MonthDays_holds d_Weekdays_init d_Weekdays_holds d_Months_init d_Months_holds d_NthWeekday_init d_NthWeekday_holds d_EveryDays_init d_EveryDays_holds d_FromDay_init d_FromDay_holds d_UntilDay_init d_UntilDay_holds d_NotOn_init d_NotOn_holds d_Rule_init d_Rule_holds d_Schedule_init d_Schedule_holds d__law_start d__law_draw d__law_far d__law_days_of d__law_drawn d__law_parts d__law_condition d__law_object d__law_chosen d__law_on d__law_bar d__law_int d__law_row d__law_why d__law_call d__law_asked d__law_size d__law_wide d__law_choice d__law_integers d__law_wrong d_law : FuncData)
structure Tx (K : PySem.W.Frag) (mg : Str → Option Value) (a : Ad) : Prop where
  g_DueError : mg "DueError" = some (.ref a.c_DueError)
  ox_DueError : OexC K a.c_DueError
  xc_DueError : ExcC K a.c_DueError
  xf_DueError : XfC K a.c_DueError
  sub_DueError_DueError : PySem.W.subIn K (.ref a.c_DueError) (.ref a.c_DueError) = some true
  exm_DueError_DueError : PySem.W.exmOne K (.ref a.c_DueError) (.ref a.c_DueError) = some true
  kit_DueError_DueError : PySem.W.kitOne K (.ref a.c_DueError) (.ref a.c_DueError) = some true
  sub_DueError_OutOfRange : PySem.W.subIn K (.ref a.c_DueError) (.ref a.c_OutOfRange) = some false
  exm_DueError_OutOfRange : PySem.W.exmOne K (.ref a.c_DueError) (.ref a.c_OutOfRange) = some false
  kit_DueError_OutOfRange : PySem.W.kitOne K (.ref a.c_DueError) (.ref a.c_OutOfRange) = some false
  sub_DueError_TooMany : PySem.W.subIn K (.ref a.c_DueError) (.ref a.c_TooMany) = some false
  exm_DueError_TooMany : PySem.W.exmOne K (.ref a.c_DueError) (.ref a.c_TooMany) = some false
  kit_DueError_TooMany : PySem.W.kitOne K (.ref a.c_DueError) (.ref a.c_TooMany) = some false
  sub_DueError_BadCalendar : PySem.W.subIn K (.ref a.c_DueError) (.ref a.c_BadCalendar) = some false
  exm_DueError_BadCalendar : PySem.W.exmOne K (.ref a.c_DueError) (.ref a.c_BadCalendar) = some false
  kit_DueError_BadCalendar : PySem.W.kitOne K (.ref a.c_DueError) (.ref a.c_BadCalendar) = some false
  sub_DueError_BadChoice : PySem.W.subIn K (.ref a.c_DueError) (.ref a.c_BadChoice) = some false
  exm_DueError_BadChoice : PySem.W.exmOne K (.ref a.c_DueError) (.ref a.c_BadChoice) = some false
  kit_DueError_BadChoice : PySem.W.kitOne K (.ref a.c_DueError) (.ref a.c_BadChoice) = some false
  sub_DueError_BadDays : PySem.W.subIn K (.ref a.c_DueError) (.ref a.c_BadDays) = some false
  exm_DueError_BadDays : PySem.W.exmOne K (.ref a.c_DueError) (.ref a.c_BadDays) = some false
  kit_DueError_BadDays : PySem.W.kitOne K (.ref a.c_DueError) (.ref a.c_BadDays) = some false
  kitV_DueError : PySem.W.kitOne K (.ref a.c_DueError) (.type "ValueError") = some true
  g_OutOfRange : mg "OutOfRange" = some (.ref a.c_OutOfRange)
  ox_OutOfRange : OexC K a.c_OutOfRange
  xc_OutOfRange : ExcC K a.c_OutOfRange
  xf_OutOfRange : XfC K a.c_OutOfRange
  no_OutOfRange_what : PySem.W.findIn K (.ref a.c_OutOfRange) "what" = some none
  no_OutOfRange_value : PySem.W.findIn K (.ref a.c_OutOfRange) "value" = some none
  i_OutOfRange : PySem.W.findIn K (.ref a.c_OutOfRange) "__init__" = some (some (.ref a.f_OutOfRange_init))
  t_OutOfRange : PySem.W.typeIn K (.ref a.f_OutOfRange_init) = some (.type "function")
  sub_OutOfRange_DueError : PySem.W.subIn K (.ref a.c_OutOfRange) (.ref a.c_DueError) = some true
  exm_OutOfRange_DueError : PySem.W.exmOne K (.ref a.c_OutOfRange) (.ref a.c_DueError) = some true
  kit_OutOfRange_DueError : PySem.W.kitOne K (.ref a.c_OutOfRange) (.ref a.c_DueError) = some true
  sub_OutOfRange_OutOfRange : PySem.W.subIn K (.ref a.c_OutOfRange) (.ref a.c_OutOfRange) = some true
  exm_OutOfRange_OutOfRange : PySem.W.exmOne K (.ref a.c_OutOfRange) (.ref a.c_OutOfRange) = some true
  kit_OutOfRange_OutOfRange : PySem.W.kitOne K (.ref a.c_OutOfRange) (.ref a.c_OutOfRange) = some true
  sub_OutOfRange_TooMany : PySem.W.subIn K (.ref a.c_OutOfRange) (.ref a.c_TooMany) = some false
  exm_OutOfRange_TooMany : PySem.W.exmOne K (.ref a.c_OutOfRange) (.ref a.c_TooMany) = some false
  kit_OutOfRange_TooMany : PySem.W.kitOne K (.ref a.c_OutOfRange) (.ref a.c_TooMany) = some false
  sub_OutOfRange_BadCalendar : PySem.W.subIn K (.ref a.c_OutOfRange) (.ref a.c_BadCalendar) = some false
  exm_OutOfRange_BadCalendar : PySem.W.exmOne K (.ref a.c_OutOfRange) (.ref a.c_BadCalendar) = some false
  kit_OutOfRange_BadCalendar : PySem.W.kitOne K (.ref a.c_OutOfRange) (.ref a.c_BadCalendar) = some false
  sub_OutOfRange_BadChoice : PySem.W.subIn K (.ref a.c_OutOfRange) (.ref a.c_BadChoice) = some false
  exm_OutOfRange_BadChoice : PySem.W.exmOne K (.ref a.c_OutOfRange) (.ref a.c_BadChoice) = some false
  kit_OutOfRange_BadChoice : PySem.W.kitOne K (.ref a.c_OutOfRange) (.ref a.c_BadChoice) = some false
  sub_OutOfRange_BadDays : PySem.W.subIn K (.ref a.c_OutOfRange) (.ref a.c_BadDays) = some false
  exm_OutOfRange_BadDays : PySem.W.exmOne K (.ref a.c_OutOfRange) (.ref a.c_BadDays) = some false
  kit_OutOfRange_BadDays : PySem.W.kitOne K (.ref a.c_OutOfRange) (.ref a.c_BadDays) = some false
  kitV_OutOfRange : PySem.W.kitOne K (.ref a.c_OutOfRange) (.type "ValueError") = some true
  g_TooMany : mg "TooMany" = some (.ref a.c_TooMany)
  ox_TooMany : OexC K a.c_TooMany
  xc_TooMany : ExcC K a.c_TooMany
  xf_TooMany : XfC K a.c_TooMany
  no_TooMany_what : PySem.W.findIn K (.ref a.c_TooMany) "what" = some none
  no_TooMany_many : PySem.W.findIn K (.ref a.c_TooMany) "many" = some none
  i_TooMany : PySem.W.findIn K (.ref a.c_TooMany) "__init__" = some (some (.ref a.f_TooMany_init))
  t_TooMany : PySem.W.typeIn K (.ref a.f_TooMany_init) = some (.type "function")
  sub_TooMany_DueError : PySem.W.subIn K (.ref a.c_TooMany) (.ref a.c_DueError) = some true
  exm_TooMany_DueError : PySem.W.exmOne K (.ref a.c_TooMany) (.ref a.c_DueError) = some true
  kit_TooMany_DueError : PySem.W.kitOne K (.ref a.c_TooMany) (.ref a.c_DueError) = some true
  sub_TooMany_OutOfRange : PySem.W.subIn K (.ref a.c_TooMany) (.ref a.c_OutOfRange) = some false
  exm_TooMany_OutOfRange : PySem.W.exmOne K (.ref a.c_TooMany) (.ref a.c_OutOfRange) = some false
  kit_TooMany_OutOfRange : PySem.W.kitOne K (.ref a.c_TooMany) (.ref a.c_OutOfRange) = some false
  sub_TooMany_TooMany : PySem.W.subIn K (.ref a.c_TooMany) (.ref a.c_TooMany) = some true
  exm_TooMany_TooMany : PySem.W.exmOne K (.ref a.c_TooMany) (.ref a.c_TooMany) = some true
  kit_TooMany_TooMany : PySem.W.kitOne K (.ref a.c_TooMany) (.ref a.c_TooMany) = some true
  sub_TooMany_BadCalendar : PySem.W.subIn K (.ref a.c_TooMany) (.ref a.c_BadCalendar) = some false
  exm_TooMany_BadCalendar : PySem.W.exmOne K (.ref a.c_TooMany) (.ref a.c_BadCalendar) = some false
  kit_TooMany_BadCalendar : PySem.W.kitOne K (.ref a.c_TooMany) (.ref a.c_BadCalendar) = some false
  sub_TooMany_BadChoice : PySem.W.subIn K (.ref a.c_TooMany) (.ref a.c_BadChoice) = some false
  exm_TooMany_BadChoice : PySem.W.exmOne K (.ref a.c_TooMany) (.ref a.c_BadChoice) = some false
  kit_TooMany_BadChoice : PySem.W.kitOne K (.ref a.c_TooMany) (.ref a.c_BadChoice) = some false
  sub_TooMany_BadDays : PySem.W.subIn K (.ref a.c_TooMany) (.ref a.c_BadDays) = some false
  exm_TooMany_BadDays : PySem.W.exmOne K (.ref a.c_TooMany) (.ref a.c_BadDays) = some false
  kit_TooMany_BadDays : PySem.W.kitOne K (.ref a.c_TooMany) (.ref a.c_BadDays) = some false
  kitV_TooMany : PySem.W.kitOne K (.ref a.c_TooMany) (.type "ValueError") = some true
  g_BadCalendar : mg "BadCalendar" = some (.ref a.c_BadCalendar)
  ox_BadCalendar : OexC K a.c_BadCalendar
  xc_BadCalendar : ExcC K a.c_BadCalendar
  xf_BadCalendar : XfC K a.c_BadCalendar
  no_BadCalendar_part : PySem.W.findIn K (.ref a.c_BadCalendar) "part" = some none
  i_BadCalendar : PySem.W.findIn K (.ref a.c_BadCalendar) "__init__" = some (some (.ref a.f_BadCalendar_init))
  t_BadCalendar : PySem.W.typeIn K (.ref a.f_BadCalendar_init) = some (.type "function")
  sub_BadCalendar_DueError : PySem.W.subIn K (.ref a.c_BadCalendar) (.ref a.c_DueError) = some true
  exm_BadCalendar_DueError : PySem.W.exmOne K (.ref a.c_BadCalendar) (.ref a.c_DueError) = some true
  kit_BadCalendar_DueError : PySem.W.kitOne K (.ref a.c_BadCalendar) (.ref a.c_DueError) = some true
  sub_BadCalendar_OutOfRange : PySem.W.subIn K (.ref a.c_BadCalendar) (.ref a.c_OutOfRange) = some false
  exm_BadCalendar_OutOfRange : PySem.W.exmOne K (.ref a.c_BadCalendar) (.ref a.c_OutOfRange) = some false
  kit_BadCalendar_OutOfRange : PySem.W.kitOne K (.ref a.c_BadCalendar) (.ref a.c_OutOfRange) = some false
  sub_BadCalendar_TooMany : PySem.W.subIn K (.ref a.c_BadCalendar) (.ref a.c_TooMany) = some false
  exm_BadCalendar_TooMany : PySem.W.exmOne K (.ref a.c_BadCalendar) (.ref a.c_TooMany) = some false
  kit_BadCalendar_TooMany : PySem.W.kitOne K (.ref a.c_BadCalendar) (.ref a.c_TooMany) = some false
  sub_BadCalendar_BadCalendar : PySem.W.subIn K (.ref a.c_BadCalendar) (.ref a.c_BadCalendar) = some true
  exm_BadCalendar_BadCalendar : PySem.W.exmOne K (.ref a.c_BadCalendar) (.ref a.c_BadCalendar) = some true
  kit_BadCalendar_BadCalendar : PySem.W.kitOne K (.ref a.c_BadCalendar) (.ref a.c_BadCalendar) = some true
  sub_BadCalendar_BadChoice : PySem.W.subIn K (.ref a.c_BadCalendar) (.ref a.c_BadChoice) = some false
  exm_BadCalendar_BadChoice : PySem.W.exmOne K (.ref a.c_BadCalendar) (.ref a.c_BadChoice) = some false
  kit_BadCalendar_BadChoice : PySem.W.kitOne K (.ref a.c_BadCalendar) (.ref a.c_BadChoice) = some false
  sub_BadCalendar_BadDays : PySem.W.subIn K (.ref a.c_BadCalendar) (.ref a.c_BadDays) = some false
  exm_BadCalendar_BadDays : PySem.W.exmOne K (.ref a.c_BadCalendar) (.ref a.c_BadDays) = some false
  kit_BadCalendar_BadDays : PySem.W.kitOne K (.ref a.c_BadCalendar) (.ref a.c_BadDays) = some false
  kitV_BadCalendar : PySem.W.kitOne K (.ref a.c_BadCalendar) (.type "ValueError") = some true
  g_BadChoice : mg "BadChoice" = some (.ref a.c_BadChoice)
  ox_BadChoice : OexC K a.c_BadChoice
  xc_BadChoice : ExcC K a.c_BadChoice
  xf_BadChoice : XfC K a.c_BadChoice
  no_BadChoice_at : PySem.W.findIn K (.ref a.c_BadChoice) "at" = some none
  i_BadChoice : PySem.W.findIn K (.ref a.c_BadChoice) "__init__" = some (some (.ref a.f_BadChoice_init))
  t_BadChoice : PySem.W.typeIn K (.ref a.f_BadChoice_init) = some (.type "function")
  sub_BadChoice_DueError : PySem.W.subIn K (.ref a.c_BadChoice) (.ref a.c_DueError) = some true
  exm_BadChoice_DueError : PySem.W.exmOne K (.ref a.c_BadChoice) (.ref a.c_DueError) = some true
  kit_BadChoice_DueError : PySem.W.kitOne K (.ref a.c_BadChoice) (.ref a.c_DueError) = some true
  sub_BadChoice_OutOfRange : PySem.W.subIn K (.ref a.c_BadChoice) (.ref a.c_OutOfRange) = some false
  exm_BadChoice_OutOfRange : PySem.W.exmOne K (.ref a.c_BadChoice) (.ref a.c_OutOfRange) = some false
  kit_BadChoice_OutOfRange : PySem.W.kitOne K (.ref a.c_BadChoice) (.ref a.c_OutOfRange) = some false
  sub_BadChoice_TooMany : PySem.W.subIn K (.ref a.c_BadChoice) (.ref a.c_TooMany) = some false
  exm_BadChoice_TooMany : PySem.W.exmOne K (.ref a.c_BadChoice) (.ref a.c_TooMany) = some false
  kit_BadChoice_TooMany : PySem.W.kitOne K (.ref a.c_BadChoice) (.ref a.c_TooMany) = some false
  sub_BadChoice_BadCalendar : PySem.W.subIn K (.ref a.c_BadChoice) (.ref a.c_BadCalendar) = some false
  exm_BadChoice_BadCalendar : PySem.W.exmOne K (.ref a.c_BadChoice) (.ref a.c_BadCalendar) = some false
  kit_BadChoice_BadCalendar : PySem.W.kitOne K (.ref a.c_BadChoice) (.ref a.c_BadCalendar) = some false
  sub_BadChoice_BadChoice : PySem.W.subIn K (.ref a.c_BadChoice) (.ref a.c_BadChoice) = some true
  exm_BadChoice_BadChoice : PySem.W.exmOne K (.ref a.c_BadChoice) (.ref a.c_BadChoice) = some true
  kit_BadChoice_BadChoice : PySem.W.kitOne K (.ref a.c_BadChoice) (.ref a.c_BadChoice) = some true
  sub_BadChoice_BadDays : PySem.W.subIn K (.ref a.c_BadChoice) (.ref a.c_BadDays) = some false
  exm_BadChoice_BadDays : PySem.W.exmOne K (.ref a.c_BadChoice) (.ref a.c_BadDays) = some false
  kit_BadChoice_BadDays : PySem.W.kitOne K (.ref a.c_BadChoice) (.ref a.c_BadDays) = some false
  kitV_BadChoice : PySem.W.kitOne K (.ref a.c_BadChoice) (.type "ValueError") = some true
  g_BadDays : mg "BadDays" = some (.ref a.c_BadDays)
  ox_BadDays : OexC K a.c_BadDays
  xc_BadDays : ExcC K a.c_BadDays
  xf_BadDays : XfC K a.c_BadDays
  no_BadDays_at : PySem.W.findIn K (.ref a.c_BadDays) "at" = some none
  i_BadDays : PySem.W.findIn K (.ref a.c_BadDays) "__init__" = some (some (.ref a.f_BadDays_init))
  t_BadDays : PySem.W.typeIn K (.ref a.f_BadDays_init) = some (.type "function")
  sub_BadDays_DueError : PySem.W.subIn K (.ref a.c_BadDays) (.ref a.c_DueError) = some true
  exm_BadDays_DueError : PySem.W.exmOne K (.ref a.c_BadDays) (.ref a.c_DueError) = some true
  kit_BadDays_DueError : PySem.W.kitOne K (.ref a.c_BadDays) (.ref a.c_DueError) = some true
  sub_BadDays_OutOfRange : PySem.W.subIn K (.ref a.c_BadDays) (.ref a.c_OutOfRange) = some false
  exm_BadDays_OutOfRange : PySem.W.exmOne K (.ref a.c_BadDays) (.ref a.c_OutOfRange) = some false
  kit_BadDays_OutOfRange : PySem.W.kitOne K (.ref a.c_BadDays) (.ref a.c_OutOfRange) = some false
  sub_BadDays_TooMany : PySem.W.subIn K (.ref a.c_BadDays) (.ref a.c_TooMany) = some false
  exm_BadDays_TooMany : PySem.W.exmOne K (.ref a.c_BadDays) (.ref a.c_TooMany) = some false
  kit_BadDays_TooMany : PySem.W.kitOne K (.ref a.c_BadDays) (.ref a.c_TooMany) = some false
  sub_BadDays_BadCalendar : PySem.W.subIn K (.ref a.c_BadDays) (.ref a.c_BadCalendar) = some false
  exm_BadDays_BadCalendar : PySem.W.exmOne K (.ref a.c_BadDays) (.ref a.c_BadCalendar) = some false
  kit_BadDays_BadCalendar : PySem.W.kitOne K (.ref a.c_BadDays) (.ref a.c_BadCalendar) = some false
  sub_BadDays_BadChoice : PySem.W.subIn K (.ref a.c_BadDays) (.ref a.c_BadChoice) = some false
  exm_BadDays_BadChoice : PySem.W.exmOne K (.ref a.c_BadDays) (.ref a.c_BadChoice) = some false
  kit_BadDays_BadChoice : PySem.W.kitOne K (.ref a.c_BadDays) (.ref a.c_BadChoice) = some false
  sub_BadDays_BadDays : PySem.W.subIn K (.ref a.c_BadDays) (.ref a.c_BadDays) = some true
  exm_BadDays_BadDays : PySem.W.exmOne K (.ref a.c_BadDays) (.ref a.c_BadDays) = some true
  kit_BadDays_BadDays : PySem.W.kitOne K (.ref a.c_BadDays) (.ref a.c_BadDays) = some true
  kitV_BadDays : PySem.W.kitOne K (.ref a.c_BadDays) (.type "ValueError") = some true
  g_Calendar : mg "Calendar" = some (.ref a.c_Calendar)
  cl_Calendar : Cls K a.c_Calendar
  no_Calendar_day : NoAttr K a.c_Calendar "day"
  no_Calendar_week : NoAttr K a.c_Calendar "week"
  no_Calendar_months : NoAttr K a.c_Calendar "months"
  no_Calendar_leap_month : NoAttr K a.c_Calendar "leap_month"
  no_Calendar_leaps : NoAttr K a.c_Calendar "leaps"
  no_Calendar_first : NoAttr K a.c_Calendar "first"
  no_Calendar_hour : NoAttr K a.c_Calendar "hour"
  no_Calendar_years_round : NoAttr K a.c_Calendar "years_round"
  no_Calendar_days_round : NoAttr K a.c_Calendar "days_round"
  M_Calendar : Mk K a.c_Calendar a.f_Calendar_init
  m_Calendar_month_length : Meth K a.c_Calendar "month_length" a.f_Calendar_month_length
  m_Calendar_date_of : Meth K a.c_Calendar "date_of" a.f_Calendar_date_of
  m_Calendar_weekday_of : Meth K a.c_Calendar "weekday_of" a.f_Calendar_weekday_of
  g_Choice : mg "Choice" = some (.ref a.c_Choice)
  cl_Choice : Cls K a.c_Choice
  no_Choice_parts : NoAttr K a.c_Choice "parts"
  no_Choice_text : NoAttr K a.c_Choice "text"
  M_Choice : Mk K a.c_Choice a.f_Choice_init
  m_Choice_holds : Meth K a.c_Choice "holds" a.f_Choice_holds
  m_Choice_numbers : Meth K a.c_Choice "numbers" a.f_Choice_numbers
  g_Condition : mg "Condition" = some (.ref a.c_Condition)
  cl_Condition : Cls K a.c_Condition
  g_MonthDays : mg "MonthDays" = some (.ref a.c_MonthDays)
  cl_MonthDays : Cls K a.c_MonthDays
  no_MonthDays_choice : NoAttr K a.c_MonthDays "choice"
  no_MonthDays_from_end : NoAttr K a.c_MonthDays "from_end"
  no_MonthDays_text : NoAttr K a.c_MonthDays "text"
  M_MonthDays : Mk K a.c_MonthDays a.f_MonthDays_init
  m_MonthDays_holds : Meth K a.c_MonthDays "holds" a.f_MonthDays_holds
  g_Weekdays : mg "Weekdays" = some (.ref a.c_Weekdays)
  cl_Weekdays : Cls K a.c_Weekdays
  no_Weekdays_choice : NoAttr K a.c_Weekdays "choice"
  no_Weekdays_text : NoAttr K a.c_Weekdays "text"
  M_Weekdays : Mk K a.c_Weekdays a.f_Weekdays_init
  m_Weekdays_holds : Meth K a.c_Weekdays "holds" a.f_Weekdays_holds
  g_Months : mg "Months" = some (.ref a.c_Months)
  cl_Months : Cls K a.c_Months
  no_Months_choice : NoAttr K a.c_Months "choice"
  no_Months_text : NoAttr K a.c_Months "text"
  M_Months : Mk K a.c_Months a.f_Months_init
  m_Months_holds : Meth K a.c_Months "holds" a.f_Months_holds
  g_NthWeekday : mg "NthWeekday" = some (.ref a.c_NthWeekday)
  cl_NthWeekday : Cls K a.c_NthWeekday
  no_NthWeekday_nth : NoAttr K a.c_NthWeekday "nth"
  no_NthWeekday_weekday : NoAttr K a.c_NthWeekday "weekday"
  no_NthWeekday_from_end : NoAttr K a.c_NthWeekday "from_end"
  no_NthWeekday_text : NoAttr K a.c_NthWeekday "text"
  M_NthWeekday : Mk K a.c_NthWeekday a.f_NthWeekday_init
  m_NthWeekday_holds : Meth K a.c_NthWeekday "holds" a.f_NthWeekday_holds
  g_EveryDays : mg "EveryDays" = some (.ref a.c_EveryDays)
  cl_EveryDays : Cls K a.c_EveryDays
  no_EveryDays_step : NoAttr K a.c_EveryDays "step"
  no_EveryDays_first : NoAttr K a.c_EveryDays "first"
  no_EveryDays_text : NoAttr K a.c_EveryDays "text"
  M_EveryDays : Mk K a.c_EveryDays a.f_EveryDays_init
  m_EveryDays_holds : Meth K a.c_EveryDays "holds" a.f_EveryDays_holds
  g_FromDay : mg "FromDay" = some (.ref a.c_FromDay)
  cl_FromDay : Cls K a.c_FromDay
  no_FromDay_day : NoAttr K a.c_FromDay "day"
  no_FromDay_text : NoAttr K a.c_FromDay "text"
  M_FromDay : Mk K a.c_FromDay a.f_FromDay_init
  m_FromDay_holds : Meth K a.c_FromDay "holds" a.f_FromDay_holds
  g_UntilDay : mg "UntilDay" = some (.ref a.c_UntilDay)
  cl_UntilDay : Cls K a.c_UntilDay
  no_UntilDay_day : NoAttr K a.c_UntilDay "day"
  no_UntilDay_text : NoAttr K a.c_UntilDay "text"
  M_UntilDay : Mk K a.c_UntilDay a.f_UntilDay_init
  m_UntilDay_holds : Meth K a.c_UntilDay "holds" a.f_UntilDay_holds
  g_NotOn : mg "NotOn" = some (.ref a.c_NotOn)
  cl_NotOn : Cls K a.c_NotOn
  no_NotOn_days : NoAttr K a.c_NotOn "days"
  no_NotOn_text : NoAttr K a.c_NotOn "text"
  M_NotOn : Mk K a.c_NotOn a.f_NotOn_init
  m_NotOn_holds : Meth K a.c_NotOn "holds" a.f_NotOn_holds
  g_Rule : mg "Rule" = some (.ref a.c_Rule)
  cl_Rule : Cls K a.c_Rule
  no_Rule_minutes : NoAttr K a.c_Rule "minutes"
  no_Rule_conditions : NoAttr K a.c_Rule "conditions"
  no_Rule_text : NoAttr K a.c_Rule "text"
  M_Rule : Mk K a.c_Rule a.f_Rule_init
  m_Rule_holds : Meth K a.c_Rule "holds" a.f_Rule_holds
  g_Schedule : mg "Schedule" = some (.ref a.c_Schedule)
  cl_Schedule : Cls K a.c_Schedule
  no_Schedule_rules : NoAttr K a.c_Schedule "rules"
  no_Schedule_text : NoAttr K a.c_Schedule "text"
  M_Schedule : Mk K a.c_Schedule a.f_Schedule_init
  m_Schedule_holds : Meth K a.c_Schedule "holds" a.f_Schedule_holds
  F_OutOfRange_init : Fun K "__init__" "OutOfRange.__init__" s_OutOfRange_init a.f_OutOfRange_init a.d_OutOfRange_init
  b_OutOfRange_init : Binds K a.d_OutOfRange_init ["self", "what", "value"] []
  F_TooMany_init : Fun K "__init__" "TooMany.__init__" s_TooMany_init a.f_TooMany_init a.d_TooMany_init
  b_TooMany_init : Binds K a.d_TooMany_init ["self", "what", "many"] []
  F_BadCalendar_init : Fun K "__init__" "BadCalendar.__init__" s_BadCalendar_init a.f_BadCalendar_init a.d_BadCalendar_init
  b_BadCalendar_init : Binds K a.d_BadCalendar_init ["self", "part"] []
  F_BadChoice_init : Fun K "__init__" "BadChoice.__init__" s_BadChoice_init a.f_BadChoice_init a.d_BadChoice_init
  b_BadChoice_init : Binds K a.d_BadChoice_init ["self", "at"] []
  F_BadDays_init : Fun K "__init__" "BadDays.__init__" s_BadDays_init a.f_BadDays_init a.d_BadDays_init
  b_BadDays_init : Binds K a.d_BadDays_init ["self", "at"] []
  F_in_range : Fun K "in_range" "in_range" s_in_range a.f_in_range a.d_in_range
  b_in_range : Binds K a.d_in_range ["what", "value", "low", "high"] []
  g_in_range : mg "in_range" = some (.ref a.f_in_range)
  F_first_bar : Fun K "first_bar" "first_bar" s_first_bar a.f_first_bar a.d_first_bar
  b_first_bar : Binds K a.d_first_bar ["rule", "calendar", "minute"] []
  g_first_bar : mg "first_bar" = some (.ref a.f_first_bar)
  F_why_due : Fun K "why_due" "why_due" s_why_due a.f_why_due a.d_why_due
  b_why_due : Binds K a.d_why_due ["schedule", "calendar", "minute"] []
  g_why_due : mg "why_due" = some (.ref a.f_why_due)
  F_why_not : Fun K "why_not" "why_not" s_why_not a.f_why_not a.d_why_not
  b_why_not : Binds K a.d_why_not ["schedule", "calendar", "minute"] []
  g_why_not : mg "why_not" = some (.ref a.f_why_not)
  F_right_months : Fun K "right_months" "right_months" s_right_months a.f_right_months a.d_right_months
  b_right_months : Binds K a.d_right_months ["months"] []
  g_right_months : mg "right_months" = some (.ref a.f_right_months)
  F_right_leaps : Fun K "right_leaps" "right_leaps" s_right_leaps a.f_right_leaps a.d_right_leaps
  b_right_leaps : Binds K a.d_right_leaps ["leaps"] []
  g_right_leaps : mg "right_leaps" = some (.ref a.f_right_leaps)
  F_is_long_year : Fun K "is_long_year" "is_long_year" s_is_long_year a.f_is_long_year a.d_is_long_year
  b_is_long_year : Binds K a.d_is_long_year ["leaps", "year"] []
  g_is_long_year : mg "is_long_year" = some (.ref a.f_is_long_year)
  F_long_years : Fun K "long_years" "long_years" s_long_years a.f_long_years a.d_long_years
  b_long_years : Binds K a.d_long_years ["leaps", "year"] []
  g_long_years : mg "long_years" = some (.ref a.f_long_years)
  F_days_ahead : Fun K "days_ahead" "days_ahead" s_days_ahead a.f_days_ahead a.d_days_ahead
  b_days_ahead : Binds K a.d_days_ahead ["calendar", "year"] []
  g_days_ahead : mg "days_ahead" = some (.ref a.f_days_ahead)
  F_days_in_month : Fun K "days_in_month" "days_in_month" s_days_in_month a.f_days_in_month a.d_days_in_month
  b_days_in_month : Binds K a.d_days_in_month ["calendar", "year", "month"] []
  g_days_in_month : mg "days_in_month" = some (.ref a.f_days_in_month)
  F_year_of_day : Fun K "year_of_day" "year_of_day" s_year_of_day a.f_year_of_day a.d_year_of_day
  b_year_of_day : Binds K a.d_year_of_day ["calendar", "number"] []
  g_year_of_day : mg "year_of_day" = some (.ref a.f_year_of_day)
  F_Calendar_init : Fun K "__init__" "Calendar.__init__" s_Calendar_init a.f_Calendar_init a.d_Calendar_init
  bD_Calendar_init : ∃ ds, Vals [.int 1, .ref a.e_Calendar_init_leaps, .int 0, .non] ds ∧ Binds K a.d_Calendar_init ["self", "day", "week", "months", "leap_month", "leaps", "first", "hour"] ds
  bK_Calendar_init : ∃ mv : List Value, KBn K a.d_Calendar_init ["self", "day", "week", "months", "leap_month", "leaps", "first", "hour"] 4 ["leap_month", "leaps", "first", "hour"] (fun us ws => us ++ ws) (fun vs zs => vs ++ zs)
  bK_Calendar_init_0 : ∃ mv : List Value, KBn K a.d_Calendar_init ["self", "day", "week", "months", "leap_month", "leaps", "first", "hour"] 4 ["leap_month", "leaps", "first"] (fun us ws => us ++ (ws ++ mv)) (fun vs zs => vs ++ (zs ++ [.non]))
  z_Calendar_init_leaps : ∀ H, SqT K H a.e_Calendar_init_leaps []
  F_Calendar_month_length : Fun K "month_length" "Calendar.month_length" s_Calendar_month_length a.f_Calendar_month_length a.d_Calendar_month_length
  b_Calendar_month_length : Binds K a.d_Calendar_month_length ["self", "year", "month"] []
  F_Calendar_date_of : Fun K "date_of" "Calendar.date_of" s_Calendar_date_of a.f_Calendar_date_of a.d_Calendar_date_of
  b_Calendar_date_of : Binds K a.d_Calendar_date_of ["self", "number"] []
  F_Calendar_weekday_of : Fun K "weekday_of" "Calendar.weekday_of" s_Calendar_weekday_of a.f_Calendar_weekday_of a.d_Calendar_weekday_of
  b_Calendar_weekday_of : Binds K a.d_Calendar_weekday_of ["self", "number"] []
  F_right_part : Fun K "right_part" "right_part" s_right_part a.f_right_part a.d_right_part
  b_right_part : Binds K a.d_right_part ["part"] []
  g_right_part : mg "right_part" = some (.ref a.f_right_part)
  F_part_text : Fun K "part_text" "part_text" s_part_text a.f_part_text a.d_part_text
  b_part_text : Binds K a.d_part_text ["part"] []
  g_part_text : mg "part_text" = some (.ref a.f_part_text)
  F_first_member : Fun K "first_member" "first_member" s_first_member a.f_first_member a.d_first_member
  b_first_member : Binds K a.d_first_member ["low", "step", "least"] []
  g_first_member : mg "first_member" = some (.ref a.f_first_member)
  F_Choice_init : FunD K "__init__" "Choice.__init__" (defArgs s_Choice_init) (defBody s_Choice_init) (defScope s_Choice_init) [.ref a.e_Choice_init_parts] [] a.f_Choice_init a.d_Choice_init
  bP_Choice_init_0 : ∃ ds, Vals [.ref a.e_Choice_init_parts] ds ∧ Binds K a.d_Choice_init ["self", "parts"] ds
  bP_Choice_init_1 : ∃ ds, Vals [] ds ∧ Binds K a.d_Choice_init ["self", "parts"] ds
  z_Choice_init_parts : ∀ H, SqT K H a.e_Choice_init_parts []
  F_Choice_holds : Fun K "holds" "Choice.holds" s_Choice_holds a.f_Choice_holds a.d_Choice_holds
  b_Choice_holds : Binds K a.d_Choice_holds ["self", "number"] []
  F_Choice_numbers : Fun K "numbers" "Choice.numbers" s_Choice_numbers a.f_Choice_numbers a.d_Choice_numbers
  b_Choice_numbers : Binds K a.d_Choice_numbers ["self", "low", "high"] []
  F_last_word : Fun K "last_word" "last_word" s_last_word a.f_last_word a.d_last_word
  b_last_word : Binds K a.d_last_word ["from_end"] []
  g_last_word : mg "last_word" = some (.ref a.f_last_word)
  F_bad_day : Fun K "bad_day" "bad_day" s_bad_day a.f_bad_day a.d_bad_day
  b_bad_day : Binds K a.d_bad_day ["days"] []
  g_bad_day : mg "bad_day" = some (.ref a.f_bad_day)
  F_MonthDays_init : Fun K "__init__" "MonthDays.__init__" s_MonthDays_init a.f_MonthDays_init a.d_MonthDays_init
  bD_MonthDays_init : ∃ ds, Vals [.bl false] ds ∧ Binds K a.d_MonthDays_init ["self", "choice", "from_end"] ds
  bK_MonthDays_init : ∃ mv : List Value, KBn K a.d_MonthDays_init ["self", "choice", "from_end"] 2 ["from_end"] (fun us ws => us ++ ws) (fun vs zs => vs ++ zs)
  F_MonthDays_holds : Fun K "holds" "MonthDays.holds" s_MonthDays_holds a.f_MonthDays_holds a.d_MonthDays_holds
  b_MonthDays_holds : Binds K a.d_MonthDays_holds ["self", "calendar", "number"] []
  F_Weekdays_init : Fun K "__init__" "Weekdays.__init__" s_Weekdays_init a.f_Weekdays_init a.d_Weekdays_init
  b_Weekdays_init : Binds K a.d_Weekdays_init ["self", "choice"] []
  F_Weekdays_holds : Fun K "holds" "Weekdays.holds" s_Weekdays_holds a.f_Weekdays_holds a.d_Weekdays_holds
  b_Weekdays_holds : Binds K a.d_Weekdays_holds ["self", "calendar", "number"] []
  F_Months_init : Fun K "__init__" "Months.__init__" s_Months_init a.f_Months_init a.d_Months_init
  b_Months_init : Binds K a.d_Months_init ["self", "choice"] []
  F_Months_holds : Fun K "holds" "Months.holds" s_Months_holds a.f_Months_holds a.d_Months_holds
  b_Months_holds : Binds K a.d_Months_holds ["self", "calendar", "number"] []
  F_NthWeekday_init : Fun K "__init__" "NthWeekday.__init__" s_NthWeekday_init a.f_NthWeekday_init a.d_NthWeekday_init
  bD_NthWeekday_init : ∃ ds, Vals [.bl false] ds ∧ Binds K a.d_NthWeekday_init ["self", "nth", "weekday", "from_end"] ds
  bK_NthWeekday_init : ∃ mv : List Value, KBn K a.d_NthWeekday_init ["self", "nth", "weekday", "from_end"] 3 ["from_end"] (fun us ws => us ++ ws) (fun vs zs => vs ++ zs)
  F_NthWeekday_holds : Fun K "holds" "NthWeekday.holds" s_NthWeekday_holds a.f_NthWeekday_holds a.d_NthWeekday_holds
  b_NthWeekday_holds : Binds K a.d_NthWeekday_holds ["self", "calendar", "number"] []
  F_EveryDays_init : FunD K "__init__" "EveryDays.__init__" (defArgs s_EveryDays_init) (defBody s_EveryDays_init) (defScope s_EveryDays_init) [.int 0] [] a.f_EveryDays_init a.d_EveryDays_init
  bP_EveryDays_init_0 : ∃ ds, Vals [.int 0] ds ∧ Binds K a.d_EveryDays_init ["self", "step", "first"] ds
  bP_EveryDays_init_1 : ∃ ds, Vals [] ds ∧ Binds K a.d_EveryDays_init ["self", "step", "first"] ds
  F_EveryDays_holds : Fun K "holds" "EveryDays.holds" s_EveryDays_holds a.f_EveryDays_holds a.d_EveryDays_holds
  b_EveryDays_holds : Binds K a.d_EveryDays_holds ["self", "calendar", "number"] []
  F_FromDay_init : Fun K "__init__" "FromDay.__init__" s_FromDay_init a.f_FromDay_init a.d_FromDay_init
  b_FromDay_init : Binds K a.d_FromDay_init ["self", "day"] []
  F_FromDay_holds : Fun K "holds" "FromDay.holds" s_FromDay_holds a.f_FromDay_holds a.d_FromDay_holds
  b_FromDay_holds : Binds K a.d_FromDay_holds ["self", "calendar", "number"] []
  F_UntilDay_init : Fun K "__init__" "UntilDay.__init__" s_UntilDay_init a.f_UntilDay_init a.d_UntilDay_init
  b_UntilDay_init : Binds K a.d_UntilDay_init ["self", "day"] []
  F_UntilDay_holds : Fun K "holds" "UntilDay.holds" s_UntilDay_holds a.f_UntilDay_holds a.d_UntilDay_holds
  b_UntilDay_holds : Binds K a.d_UntilDay_holds ["self", "calendar", "number"] []
  F_NotOn_init : Fun K "__init__" "NotOn.__init__" s_NotOn_init a.f_NotOn_init a.d_NotOn_init
  b_NotOn_init : Binds K a.d_NotOn_init ["self", "days"] []
  F_NotOn_holds : Fun K "holds" "NotOn.holds" s_NotOn_holds a.f_NotOn_holds a.d_NotOn_holds
  b_NotOn_holds : Binds K a.d_NotOn_holds ["self", "calendar", "number"] []
  F_Rule_init : FunD K "__init__" "Rule.__init__" (defArgs s_Rule_init) (defBody s_Rule_init) (defScope s_Rule_init) [.ref a.e_Rule_init_conditions] [] a.f_Rule_init a.d_Rule_init
  bP_Rule_init_0 : ∃ ds, Vals [.ref a.e_Rule_init_conditions] ds ∧ Binds K a.d_Rule_init ["self", "minutes", "conditions"] ds
  bP_Rule_init_1 : ∃ ds, Vals [] ds ∧ Binds K a.d_Rule_init ["self", "minutes", "conditions"] ds
  z_Rule_init_conditions : ∀ H, SqT K H a.e_Rule_init_conditions []
  F_Rule_holds : Fun K "holds" "Rule.holds" s_Rule_holds a.f_Rule_holds a.d_Rule_holds
  b_Rule_holds : Binds K a.d_Rule_holds ["self", "calendar", "minute"] []
  F_Schedule_init : Fun K "__init__" "Schedule.__init__" s_Schedule_init a.f_Schedule_init a.d_Schedule_init
  b_Schedule_init : Binds K a.d_Schedule_init ["self", "rules"] []
  F_Schedule_holds : Fun K "holds" "Schedule.holds" s_Schedule_holds a.f_Schedule_holds a.d_Schedule_holds
  b_Schedule_holds : Binds K a.d_Schedule_holds ["self", "calendar", "minute"] []
  F__law_start : Fun K "_law_start" "_law_start" s__law_start a.f__law_start a.d__law_start
  b__law_start : Binds K a.d__law_start ["script"] []
  g__law_start : mg "_law_start" = some (.ref a.f__law_start)
  F__law_draw : Fun K "_law_draw" "_law_draw" s__law_draw a.f__law_draw a.d__law_draw
  b__law_draw : Binds K a.d__law_draw ["pool", "many"] []
  g__law_draw : mg "_law_draw" = some (.ref a.f__law_draw)
  F__law_far : Fun K "_law_far" "_law_far" s__law_far a.f__law_far a.d__law_far
  b__law_far : Binds K a.d__law_far ["pool"] []
  g__law_far : mg "_law_far" = some (.ref a.f__law_far)
  F__law_days_of : Fun K "_law_days_of" "_law_days_of" s__law_days_of a.f__law_days_of a.d__law_days_of
  b__law_days_of : Binds K a.d__law_days_of ["months", "one", "leaps"] []
  g__law_days_of : mg "_law_days_of" = some (.ref a.f__law_days_of)
  F__law_drawn : Fun K "_law_drawn" "_law_drawn" s__law_drawn a.f__law_drawn a.d__law_drawn
  b__law_drawn : Binds K a.d__law_drawn ["pool"] []
  g__law_drawn : mg "_law_drawn" = some (.ref a.f__law_drawn)
  F__law_parts : Fun K "_law_parts" "_law_parts" s__law_parts a.f__law_parts a.d__law_parts
  b__law_parts : Binds K a.d__law_parts ["pool", "top"] []
  g__law_parts : mg "_law_parts" = some (.ref a.f__law_parts)
  F__law_condition : Fun K "_law_condition" "_law_condition" s__law_condition a.f__law_condition a.d__law_condition
  b__law_condition : Binds K a.d__law_condition ["pool"] []
  g__law_condition : mg "_law_condition" = some (.ref a.f__law_condition)
  F__law_object : Fun K "_law_object" "_law_object" s__law_object a.f__law_object a.d__law_object
  b__law_object : Binds K a.d__law_object ["c"] []
  g__law_object : mg "_law_object" = some (.ref a.f__law_object)
  F__law_chosen : Fun K "_law_chosen" "_law_chosen" s__law_chosen a.f__law_chosen a.d__law_chosen
  b__law_chosen : Binds K a.d__law_chosen ["parts", "x"] []
  g__law_chosen : mg "_law_chosen" = some (.ref a.f__law_chosen)
  F__law_on : Fun K "_law_on" "_law_on" s__law_on a.f__law_on a.d__law_on
  b__law_on : Binds K a.d__law_on ["c", "w", "n"] []
  g__law_on : mg "_law_on" = some (.ref a.f__law_on)
  F__law_bar : Fun K "_law_bar" "_law_bar" s__law_bar a.f__law_bar a.d__law_bar
  b__law_bar : Binds K a.d__law_bar ["rule", "w", "minute"] []
  g__law_bar : mg "_law_bar" = some (.ref a.f__law_bar)
  F__law_int : Fun K "_law_int" "_law_int" s__law_int a.f__law_int a.d__law_int
  b__law_int : Binds K a.d__law_int ["one"] []
  g__law_int : mg "_law_int" = some (.ref a.f__law_int)
  F__law_row : Fun K "_law_row" "_law_row" s__law_row a.f__law_row a.d__law_row
  b__law_row : Binds K a.d__law_row ["told", "due"] []
  g__law_row : mg "_law_row" = some (.ref a.f__law_row)
  F__law_why : Fun K "_law_why" "_law_why" s__law_why a.f__law_why a.d__law_why
  b__law_why : Binds K a.d__law_why ["whole", "land", "w", "rules", "minute"] []
  g__law_why : mg "_law_why" = some (.ref a.f__law_why)
  F__law_call : Fun K "_law_call" "_law_call" s__law_call a.f__law_call a.d__law_call
  b__law_call : Binds K a.d__law_call ["kind", "a", "b", "c"] []
  g__law_call : mg "_law_call" = some (.ref a.f__law_call)
  F__law_asked : Fun K "_law_asked" "_law_asked" s__law_asked a.f__law_asked a.d__law_asked
  b__law_asked : Binds K a.d__law_asked ["kind", "a", "b", "c"] []
  g__law_asked : mg "_law_asked" = some (.ref a.f__law_asked)
  F__law_size : Fun K "_law_size" "_law_size" s__law_size a.f__law_size a.d__law_size
  b__law_size : Binds K a.d__law_size ["pool", "low", "top"] []
  g__law_size : mg "_law_size" = some (.ref a.f__law_size)
  F__law_wide : Fun K "_law_wide" "_law_wide" s__law_wide a.f__law_wide a.d__law_wide
  b__law_wide : Binds K a.d__law_wide ["pool"] []
  g__law_wide : mg "_law_wide" = some (.ref a.f__law_wide)
  F__law_choice : Fun K "_law_choice" "_law_choice" s__law_choice a.f__law_choice a.d__law_choice
  b__law_choice : Binds K a.d__law_choice ["pool", "parts"] []
  g__law_choice : mg "_law_choice" = some (.ref a.f__law_choice)
  F__law_integers : Fun K "_law_integers" "_law_integers" s__law_integers a.f__law_integers a.d__law_integers
  b__law_integers : Binds K a.d__law_integers ["pool", "land", "rule"] []
  g__law_integers : mg "_law_integers" = some (.ref a.f__law_integers)
  F__law_wrong : Fun K "_law_wrong" "_law_wrong" s__law_wrong a.f__law_wrong a.d__law_wrong
  b__law_wrong : Binds K a.d__law_wrong ["pool", "parts"] []
  g__law_wrong : mg "_law_wrong" = some (.ref a.f__law_wrong)
  F_law : Fun K "law" "law" s_law a.f_law a.d_law
  b_law : Binds K a.d_law ["script"] []
  g_law : mg "law" = some (.ref a.f_law)
  g_FAR : ∃ t, mg "FAR" = some (.int (10 ^ 40) t)
  g_TOP : ∃ t, mg "TOP" = some (.int 9999 t)
  g_MOST_PARTS : ∃ t, mg "MOST_PARTS" = some (.int 1500 t)
  g_MOST_DAY : ∃ t, mg "MOST_DAY" = some (.int 100000 t)
  g_MOST_DAYS : ∃ t, mg "MOST_DAYS" = some (.int 100 t)
  g_MOST_CONDITIONS : ∃ t, mg "MOST_CONDITIONS" = some (.int 8 t)
  g_MOST_RULES : ∃ t, mg "MOST_RULES" = some (.int 6 t)
  n_ValueError : mg "ValueError" = none
  n_all : mg "all" = none
  n_any : mg "any" = none
  n_bool : mg "bool" = none
  n_divmod : mg "divmod" = none
  n_enumerate : mg "enumerate" = none
  n_int : mg "int" = none
  n_isinstance : mg "isinstance" = none
  n_len : mg "len" = none
  n_list : mg "list" = none
  n_max : mg "max" = none
  n_min : mg "min" = none
  n_range : mg "range" = none
  n_set : mg "set" = none
  n_sorted : mg "sorted" = none
  n_str : mg "str" = none
  n_sum : mg "sum" = none
  n_tuple : mg "tuple" = none
end My

namespace My
open PySem L2
/-! ### 1. errors -/
/-- an own error's __init__ with two fields -/
def spX2 (C : Addr) (f g : Str) : Sp := fun vs H Q _ => ∃ (x : Addr) (v w : V), vs = [.ref x, v, w] ∧ H x = some (exo x C none) ∧
  ∀ d H', H d = none → d ≠ x → H' x = some (exo x C (some d)) → H' d = some (exd d [(g, w), (f, v)]) → But x H H' → Q .non H'
section
variable {P : Program} {w : World} {K : PySem.W.Frag} {mg : Str → Option Value} {base : Heap} {a : Ad}
theorem x2_read {K : PySem.W.Frag} {C : Addr} {f g : Str} (ox : OexC K C) (nf : PySem.W.findIn K (.ref C) f = some none) (ng : PySem.W.findIn K (.ref C) g = some none) {x : Addr} {v w : V} {H : Hp} {D : Ends} (hx : H x = some (exo x C none))
    (h : ∀ d H', H d = none → d ≠ x → H' x = some (exo x C (some d)) → H' d = some (exd d [(g, w), (f, v)]) → But x H H' → D.nx [some (.ref x), some v, some w] H') :
    tAsg (tTup (tCons (tVar 1) (tCons (tVar 2) tNil))) (gTup K 2 (gCons (gOst K f (tVar 0)) (gCons (gOst K g (tVar 0)) gNil))) D [some (.ref x), some v, some w] H := by
  refine ⟨_, rfl, _, rfl, (by show 2 ≤ sizeLine; decide), fun p hp => ?_⟩
  have npx : p ≠ x := (ne_of_none hx hp).symm
  refine ⟨p, [v, w], rfl, SqT.of upd_same, rfl, _, _, rfl, _, rfl, x, C, rfl, ox, nf, Or.inl ⟨(upd_ne npx.symm).trans hx, fun d hd hdx => ?_⟩⟩
  have ndp : d ≠ p := fun z => by rw [z, upd_same] at hd; cases hd
  have hd0 : H d = none := by rw [← hd, upd_ne ndp]
  refine ⟨_, _, rfl, _, rfl, x, C, rfl, ox, ng, Or.inr ⟨d, _, upd_same, (upd_ne hdx).trans upd_same, (by show 1 ≤ 900; decide), rfl, ?_⟩⟩
  refine h d _ hd0 hdx ((upd_ne hdx.symm).trans upd_same) upd_same fun b o e hb => ?_
  rw [upd_ne (ne_of_none e hd0), upd_ne hb, upd_ne (ne_of_none e hd0), upd_ne (ne_of_none e hp)]
  exact e
theorem G_OutOfRange_init (T : Tx K mg a) : FnOk P w K mg base CX0 1 a.f_OutOfRange_init a.d_OutOfRange_init ["self", "what", "value"] (spX2 a.c_OutOfRange "what" "value") := by
  refine T.F_OutOfRange_init.ok sc_OutOfRange_init (fun vs H Q E h => ?_) (fun cdv A outer s H vs Q E hr h => ?_)
  · obtain ⟨x, v, w, rfl, _⟩ := h
    rfl
  · obtain ⟨x, v, w, rfl, hx, k⟩ := h
    refine ⟨_, (pss_one (ps_asg (pe_tup (pa_cons (pv 1) (pa_cons (pv 2) pa_nil))) (pg_tup rfl (pgs_cons (pg_ost (pv 0)) (pgs_cons (pg_ost (pv 0)) pgs_nil))))), ?_⟩
    exact x2_read T.ox_OutOfRange T.no_OutOfRange_what T.no_OutOfRange_value hx k
/-- an own error's __init__ with one field -/
def spX1 (C : Addr) (f : Str) : Sp := fun vs H Q _ => ∃ (x : Addr) (v : V), vs = [.ref x, v] ∧ H x = some (exo x C none) ∧
  ∀ d H', H d = none → d ≠ x → H' x = some (exo x C (some d)) → H' d = some (exd d [(f, v)]) → But x H H' → Q .non H'
theorem G_BadCalendar_init (T : Tx K mg a) : FnOk P w K mg base CX0 1 a.f_BadCalendar_init a.d_BadCalendar_init ["self", "part"] (spX1 a.c_BadCalendar "part") := by
  refine T.F_BadCalendar_init.ok sc_BadCalendar_init (fun vs H Q E h => ?_) (fun cdv A outer s H vs Q E hr h => ?_)
  · obtain ⟨x, v, rfl, _⟩ := h
    rfl
  · obtain ⟨x, v, rfl, hx, k⟩ := h
    refine ⟨_, (pss_one (ps_ost (pv 0) (pv 1))), ?_⟩
    refine ⟨_, rfl, _, rfl, x, a.c_BadCalendar, rfl, T.ox_BadCalendar, T.no_BadCalendar_part, Or.inl ⟨hx, fun d hd hdx => ?_⟩⟩
    refine k d _ hd hdx upd_same ((upd_ne hdx).trans upd_same) fun b o e hb => ?_
    rw [upd_ne hb, upd_ne (ne_of_none e hd)]
    exact e
theorem x1_made {C : Addr} {f : Str} {v : V} {H : Hp} {Q : XK} (h : ∀ d H', H' d = some (.xd [(f, v)]) → Same H H' → Q (.ref C) (some d) H') :
    [v].length ≤ 1000 ∧ ∀ x, H x = none → spX1 C f (.ref x :: ([v] ++ [])) (upd H x (exo x C none))
      (fun v H2 => v = .non ∧ ∃ (d : Addr) (fs : List (Str × V)), H2 x = some (exo x C (some d)) ∧ H2 d = some (exd d fs) ∧ H d = none ∧ Q (.ref C) (some d) (upd (del H2 x) d (.xd fs))) (fun _ _ _ => False) := by
  refine ⟨by show 1 ≤ 1000; decide, fun x hx => ⟨x, v, rfl, upd_same, fun d H' hd hdx e1 e2 bt => ⟨rfl, d, _, e1, e2, ?_, ?_⟩⟩⟩
  · rw [← hd, upd_ne hdx]
  · refine h d _ upd_same fun b o e => ?_
    have hbx : b ≠ x := ne_of_none e hx
    have hbd : b ≠ d := fun z => by rw [z] at e; rw [upd_ne hdx, e] at hd; cases hd
    rw [upd_ne hbd, del_ne hbx]
    exact bt b o (by rw [upd_ne hbx]; exact e) hbx
/-- C(v, w) is made: what its raising asks -/
theorem x2_made {C : Addr} {f g : Str} {v w : V} {H : Hp} {Q : XK} (h : ∀ d H', H' d = some (.xd [(g, w), (f, v)]) → Same H H' → Q (.ref C) (some d) H') :
    [v, w].length ≤ 1000 ∧ ∀ x, H x = none → spX2 C f g (.ref x :: ([v, w] ++ [])) (upd H x (exo x C none))
      (fun v H2 => v = .non ∧ ∃ (d : Addr) (fs : List (Str × V)), H2 x = some (exo x C (some d)) ∧ H2 d = some (exd d fs) ∧ H d = none ∧ Q (.ref C) (some d) (upd (del H2 x) d (.xd fs))) (fun _ _ _ => False) := by
  refine ⟨by show 2 ≤ 1000; decide, fun x hx => ⟨x, v, w, rfl, upd_same, fun d H' hd hdx e1 e2 bt => ⟨rfl, d, _, e1, e2, ?_, ?_⟩⟩⟩
  · rw [← hd, upd_ne hdx]
  · refine h d _ upd_same fun b o e => ?_
    have hbx : b ≠ x := ne_of_none e hx
    have hbd : b ≠ d := fun z => by rw [z] at e; rw [upd_ne hdx, e] at hd; cases hd
    rw [upd_ne hbd, del_ne hbx]
    exact bt b o (by rw [upd_ne hbx]; exact e) hbx
/-! ### 2. checks -/
def spRange (a : Ad) : Sp := fun vs H Q E => ∃ (s : Str) (v lo hi : Int), vs = [.str s, .int v, .int lo, .int hi] ∧
  ((lo ≤ v ∧ v ≤ hi) → Q .non H) ∧ (¬ (lo ≤ v ∧ v ≤ hi) → ∀ d H', H' d = some (.xd [("value", .int v), ("what", .str s)]) → Same H H' → E (.ref a.c_OutOfRange) (some d) H')
theorem G_in_range (T : Tx K mg a) : FnOk P w K mg base (L2.CX P w) 3 a.f_in_range a.d_in_range ["what", "value", "low", "high"] (spRange a) := by
  refine T.F_in_range.okX sc_in_range (fun vs H Q E h => ?_) (fun cdv A outer s H vs Q E hr h => ?_)
  · obtain ⟨s, v, lo, hi, rfl, _⟩ := h
    rfl
  · obtain ⟨s, v, lo, hi, rfl, k1, k2⟩ := h
    refine ⟨_, (pss_one (ps_if (pt_not (pt_chain op_le op_le (pv 2) (pv 1) (pv 3))) (pss_one (ps_raise rfl (takes_of rfl rfl rfl rfl) (pmk_oex T.ox_OutOfRange T.i_OutOfRange T.t_OutOfRange (G_OutOfRange_init T) (hr.mono (by decide)) T.b_OutOfRange_init .nil pass0 rfl T.g_OutOfRange (pa_cons (pv 0) (pa_cons (pv 1) pa_nil))))) pss_nil)), ?_⟩
    refine ⟨_, rfl, _, rfl, _, _, rfl, rfl, _, rfl, ?_⟩
    by_cases c1 : lo ≤ v
    · rw [decide_eq_true c1]
      refine ⟨_, rfl, _, _, rfl, rfl, _, rfl, ?_⟩
      by_cases c2 : v ≤ hi
      · rw [decide_eq_true c2]
        exact k1 ⟨c1, c2⟩
      · rw [decide_eq_false c2]
        refine ⟨_, rfl, _, rfl, ?_⟩
        exact x2_made (k2 fun z => c2 z.2)
    · rw [decide_eq_false c1]
      refine ⟨_, rfl, ?_⟩
      refine ⟨_, rfl, _, rfl, ?_⟩
      exact x2_made (k2 fun z => c1 z.1)
end
end My

namespace My
open PySem L2
/-! ### 3. months, leaps, long years -/
/-- both forms of a comprehension over a list or a tuple -/
theorem comp_seq {K : PySem.W.Frag} {a : Addr} {xs : List V} {tt : TT} {te : TE} {vs : List Nat} {σ : St} {H1 : Hp} {Q : VK} {i0 : Nat} {tl : TE} (keep : V → Bool) (f : V → V) (hl : ∀ R : V → Hp → Prop, R (.ref a) H1 → tl σ H1 R) (hp : SqA K H1 a xs) (hz : xs.length ≤ 1000000) (hw : ∀ x, wipe ((wipe σ vs).set i0 (some x)) vs = wipe σ vs)
    (ht : ∀ (i : Nat) x H, xs[i]? = some x → Same H1 H → Ans tt ((wipe σ vs).set i0 (some x)) H (keep x)) (he : ∀ (i : Nat) x H, xs[i]? = some x → keep x = true → Same H1 H → Val te ((wipe σ vs).set i0 (some x)) H (f x))
    (hd : ∀ D H', H1 D = none → H' D = some (.lst ((xs.filter keep).map f)) → Same H1 H' → Q (.ref D) H') : tLc (fun σ H R => iList K tl σ H R ∨ iTup K tl σ H R) (gName i0) tt te vs σ H1 Q := by
  rcases hp with hp | hp
  · exact Or.inl (hl _ ⟨a, rfl, ⟨_, hp⟩, comp_list keep f hp hz hw ht he hd⟩)
  · exact Or.inr (hl _ ⟨a, rfl, ⟨_, hp⟩, comp_tup keep f hp hz hw ht he hd⟩)
theorem keep_all {l : List V} : l.filter (fun _ => true) = l := List.filter_eq_self.mpr fun _ _ => rfl
def okM1 : V → Bool
  | .int k => decide (1 ≤ k ∧ k ≤ 60)
  | _ => false
theorem okM_all (ks : List Int) : ((ks.map V.int).map okM1).all id = true ↔ ∀ k ∈ ks, 1 ≤ k ∧ k ≤ 60 := by
  simp [List.all_eq_true, okM1]
def spMonths (K : PySem.W.Frag) : Sp := fun vs H Q _ => ∃ (p : Addr) (ks : List Int), vs = [.ref p] ∧ SqA K H p (ks.map V.int) ∧ ∀ (b : Bool) H', (b = true ↔ okMonths ks) → Same H H' → Q (.bl b) H'
section
variable {P : Program} {w : World} {K : PySem.W.Frag} {mg : Str → Option Value} {base : Heap} {a : Ad}
theorem G_right_months (T : Tx K mg a) : FnOk P w K mg base CX0 1 a.f_right_months a.d_right_months ["months"] (spMonths K) := by
  refine T.F_right_months.ok sc_right_months (fun vs H Q E h => ?_) (fun cdv A outer s H vs Q E hr h => ?_)
  · obtain ⟨p, ks, rfl, _⟩ := h
    rfl
  · obtain ⟨p, ks, rfl, hp, k⟩ := h
    refine ⟨_, (pss_cons (ps_if (pt_not (pt_chain op_le op_le pe_int (pe_callB call_len_seq (by rfl) T.n_len (by decide +kernel) (pa_cons (pv 0) pa_nil)) pe_int)) (pss_one (ps_ret pe_bl)) pss_nil)
      (pss_one (ps_ret (pe_callB (cr_all rfl) (by rfl) T.n_all (by decide +kernel) (pa_cons (pe_lc (own := [("length", 1)]) (g := gName 1) (tt := tYes) rfl sc_right_months.nd (pi_seq (pv 0)) (blkOk_by (own := [("length", 1)]) (N := ["months", "length"]) (sc := defScope s_right_months) (by decide +kernel)) (fun _ _ _ _ _ => (pg_name (i := 1) sc_right_months.nd rfl (Or.inl rfl))) (fun _ _ _ _ _ => pts_nil) (fun _ _ _ _ _ => (pe_chain op_le op_le pe_int (pv 1) pe_int))) pa_nil))))), ?_⟩
    have hl : ((ks.map V.int).length : Int) = (ks.length : Int) := by rw [List.length_map]
    have vl : ∀ (H : Hp) (σ : St), SqA K H p (ks.map V.int) → Val (tCB (fun xs H Q => ∃ p ys, xs = [.ref p] ∧ (SqL K H p ys ∨ SqT K H p ys) ∧ Q (.int ys.length) H) (tCons (tVar 0) tNil)) (some (.ref p) :: σ) H (.int ks.length) := fun H σ hp => v_cb (val_var rfl) fun Q q => ⟨p, _, rfl, hp, by rw [hl]; exact q⟩
    refine st_guard (q := ¬ (1 ≤ ks.length ∧ ks.length ≤ 13)) (ans_not (a_val (v_chain val_c (vl H _ hp) val_c))) (by simp; omega) (fun c => ?_) fun c => ?_
    · exact k _ H ⟨fun z => (nomatch z), fun z => (c z.1).elim⟩ (Same.refl H)
    · have c' : 1 ≤ ks.length ∧ ks.length ≤ 13 := Classical.not_not.mp c
      refine st_ret1 ?_
      refine comp_seq (a := p) (fun _ => true) (fun x => .bl (okM1 x)) (fun R q => ⟨_, rfl, q⟩) hp (by rw [List.length_map]; omega) (fun x => rfl) (fun i x H' hx s => fun Q q => q) (fun i x H' hx _ s => ?_) fun D H' hD e s => ?_
      · obtain ⟨z, hz, rfl⟩ := ints_get hx
        have v := v_chain (f := fun i j => decide (i ≤ j)) (g := fun i j => decide (i ≤ j)) (σ := [some (.ref p), some (.int z)]) (H := H') (val_c (v := .int 1)) (val_var (i := 1) rfl) (val_c (v := .int 60))
        show Val _ [some (.ref p), some (.int z)] H' (.bl (decide (1 ≤ z ∧ z ≤ 60)))
        rw [show decide (1 ≤ z ∧ z ≤ 60) = (decide (1 ≤ z) && decide (z ≤ 60)) from Bool.decide_and _ _]
        exact v
      · rw [keep_all] at e
        refine ⟨D, (ks.map V.int).map okM1, rfl, SqL.of (by rw [e]; simp), k _ H' ?_ s⟩
        rw [okM_all]
        exact ⟨fun z => ⟨c', z⟩, fun z => z.2⟩
/-! leaps -/
def spLeaps (K : PySem.W.Frag) : Sp := fun vs H Q _ => ∃ (p : Addr) (ks : List Int), vs = [.ref p] ∧ SqA K H p (ks.map V.int) ∧ ∀ (b : Bool), (b = true ↔ (okLeaps 1 ks ∧ ks.length ≤ 4)) → Q (.bl b) H
/-- the walk of the leaps: before is the one that came last -/
theorem okLeaps_snoc : ∀ {b d : Int} {l : List Int}, okLeaps b (l ++ [d]) ↔ okLeaps b l ∧ (2 ≤ d ∧ d ≤ 1000 ∧ lastOr b l < d ∧ d % lastOr b l = 0)
  | b, d, [] => by
    show (2 ≤ d ∧ d ≤ 1000 ∧ b < d ∧ d % b = 0 ∧ True) ↔ True ∧ (2 ≤ d ∧ d ≤ 1000 ∧ b < d ∧ d % b = 0)
    simp
  | b, d, e :: r => by
    have i := okLeaps_snoc (b := e) (d := d) (l := r)
    show (2 ≤ e ∧ e ≤ 1000 ∧ b < e ∧ e % b = 0 ∧ okLeaps e (r ++ [d])) ↔ (2 ≤ e ∧ e ≤ 1000 ∧ b < e ∧ e % b = 0 ∧ okLeaps e r) ∧ (2 ≤ d ∧ d ≤ 1000 ∧ lastOr e r < d ∧ d % lastOr e r = 0)
    rw [i]
    simp only [and_assoc]
theorem lastOr_snoc : ∀ {b d : Int} {l : List Int}, lastOr b (l ++ [d]) = d
  | _, _, [] => rfl
  | _, d, e :: r => lastOr_snoc (b := e) (l := r)
theorem okLeaps_take {b : Int} : ∀ {l : List Int} (n : Nat), okLeaps b l → okLeaps b (l.take n)
  | [], n, h => by rw [List.take_nil]; exact h
  | e :: r, 0, _ => trivial
  | e :: r, n + 1, ⟨h1, h2, h3, h4, h5⟩ => ⟨h1, h2, h3, h4, okLeaps_take (b := e) n h5⟩
theorem okLeaps_step {ks : List Int} {i : Nat} {d : Int} (hx : ks[i]? = some d) (h : okLeaps 1 (ks.take i)) : (okLeaps 1 ks → (2 ≤ d ∧ d ≤ 1000 ∧ lastOr 1 (ks.take i) < d ∧ d % lastOr 1 (ks.take i) = 0)) ∧
    ((2 ≤ d ∧ d ≤ 1000 ∧ lastOr 1 (ks.take i) < d ∧ d % lastOr 1 (ks.take i) = 0) → okLeaps 1 (ks.take (i + 1)) ∧ lastOr 1 (ks.take (i + 1)) = d) := by
  rw [take_snoc hx, lastOr_snoc]
  refine ⟨fun z => ?_, fun z => ⟨okLeaps_snoc.mpr ⟨h, z⟩, rfl⟩⟩
  have y := okLeaps_take (i + 1) z
  rw [take_snoc hx] at y
  exact (okLeaps_snoc.mp y).2
theorem G_right_leaps (T : Tx K mg a) : FnOk P w K mg base CX0 1 a.f_right_leaps a.d_right_leaps ["leaps"] (spLeaps K) := by
  refine T.F_right_leaps.ok sc_right_leaps (fun vs H Q E h => ?_) (fun cdv A outer s H vs Q E hr h => ?_)
  · obtain ⟨p, ks, rfl, _⟩ := h
    rfl
  · obtain ⟨p, ks, rfl, hp, k⟩ := h
    refine ⟨_, (pss_cons (ps_if (pt_cmpR op_gt (pe_callB call_len_seq (by rfl) T.n_len (by decide +kernel) (pa_cons (pv 0) pa_nil)) pe_int (nomark _)) (pss_one (ps_ret pe_bl)) pss_nil)
      (pss_cons (ps_set (i := 1) sc_right_leaps.nd rfl (Or.inl rfl) pe_int)
      (pss_cons (ps_for PassesOwn.never rfl (pi_seq (pv 0)) (pg_name (i := 2) sc_right_leaps.nd rfl (Or.inl rfl)) (pss_cons (ps_if (PW.pt (pw_or (pt_not (pt_chain op_le op_le pe_int (pv 2) pe_int)) (pw_or (pt_cmpR op_le (pv 2) (pv 1) (nomark _)) (pw_or1 (pt_cmpR op_ne (pe_op op_mod (pv 2) (pv 1)) pe_int (nomark _)))))) (pss_one (ps_ret pe_bl)) pss_nil)
      (pss_one (ps_set (i := 1) sc_right_leaps.nd rfl (Or.inl rfl) (pv 2)))))
      (pss_one (ps_ret pe_bl))))), ?_⟩
    have hl : ((ks.map V.int).length : Int) = (ks.length : Int) := by rw [List.length_map]
    refine st_guard (q := 4 < ks.length) (a_cmp (f := fun i j => decide (j < i)) (v_cb (val_var rfl) fun Q q => ⟨p, _, rfl, hp, q⟩) val_c) (by rw [hl]; simp; omega) (fun c => ?_) fun c => ?_
    · exact k _ ⟨fun z => (nomatch z), fun z => by omega⟩
    refine st_let val_c (st_seq ?_)
    refine st_forA (a := p) hp (fun R q => ⟨_, rfl, q⟩) (fun i σ H' => ∃ d, σ = [some (.ref p), some (.int (lastOr 1 (ks.take i))), d] ∧ H' = H ∧ okLeaps 1 (ks.take i)) ⟨none, rfl, rfl, trivial⟩ (fun i σ H' z => by rw [z.choose_spec.2.1]; exact Same.refl H) ?_ ?_
    · rintro i x σ H' hx ⟨d, rfl, rfl, ho⟩
      obtain ⟨z, hz, rfl⟩ := ints_get hx
      have st := okLeaps_step hz ho
      have pos : 0 < lastOr 1 (ks.take i) := (ho.last (by decide)).2.2.1
      refine st_guard (q := ¬ (2 ≤ z ∧ z ≤ 1000 ∧ lastOr 1 (ks.take i) < z ∧ z % lastOr 1 (ks.take i) = 0))
        (a_or (ans_not (a_val (v_chain (f := fun i j => decide (i ≤ j)) (g := fun i j => decide (i ≤ j)) val_c (val_var (i := 2) (v := .int z) rfl) val_c))) fun _ =>
          a_or (a_cmp (f := fun i j => decide (i ≤ j)) (val_var (i := 2) (v := .int z) rfl) (val_var (i := 1) rfl)) fun _ => a_ne (v_rI (g := fun i j => .int (i % j)) (val_var (i := 2) (v := .int z) rfl) (val_var (i := 1) rfl) pos) val_c) ?_ (fun c => ?_) fun c => ?_
      · simp only [Bool.or_eq_true, Bool.not_eq_true', Bool.and_eq_false_iff, decide_eq_false_iff_not, decide_eq_true_eq]
        omega
      · exact k _ ⟨fun z => (nomatch z), fun z => (c (st.1 z.1)).elim⟩
      · obtain ⟨s1, s2⟩ := st.2 (Classical.not_not.mp c)
        exact st_set (val_var (i := 2) (v := .int z) rfl) ⟨some (.int z), by rw [s2]; rfl, rfl, s1⟩
    · rintro σ H' ⟨d, rfl, rfl, ho⟩
      rw [List.length_map, List.take_length] at ho
      exact k _ ⟨fun _ => ⟨ho, by omega⟩, fun _ => rfl⟩
end
end My

namespace My
open PySem L2
/-! ### 4. years -/
theorem divW {i d : Int} (h : 0 < d) (h2 : d ≤ 1000000) : CDivW i d := wide_div (b := 20) h (by omega) (by decide) (by decide)
def spLong (K : PySem.W.Frag) : Sp := fun vs H Q _ => ∃ (t : Addr) (ls : List Int) (y : Int), vs = [.ref t, .int y] ∧ SqT K H t (ls.map V.int) ∧ (∀ d ∈ ls, 0 < d) ∧ Q (.bl (isL ls y)) H
def spLongs (K : PySem.W.Frag) : Sp := fun vs H Q _ => ∃ (t : Addr) (ls : List Int) (y : Int), vs = [.ref t, .int y] ∧ SqT K H t (ls.map V.int) ∧ (∀ d ∈ ls, 0 < d ∧ d ≤ 1000) ∧ Q (.int (longv ls y)) H
theorem mem_at {ls : List Int} {i : Nat} {z : Int} (h : ls[i]? = some z) : z ∈ ls := List.mem_of_getElem? h
theorem drop_at {ls : List Int} {i : Nat} {z : Int} (h : ls[i]? = some z) : ls.drop i = z :: ls.drop (i + 1) := by
  obtain ⟨h1, rfl⟩ := List.getElem?_eq_some_iff.mp h
  exact List.drop_eq_getElem_cons h1
theorem cnt_snoc (l : List Int) (d y : Int) : cnt (l ++ [d]) y = cnt l y + if y % d = 0 then 1 else 0 := by
  unfold cnt
  rw [List.filter_append, List.length_append]
  by_cases h : y % d = 0 <;> simp [h]
section
variable {P : Program} {w : World} {K : PySem.W.Frag} {mg : Str → Option Value} {base : Heap} {a : Ad}
theorem G_is_long_year (T : Tx K mg a) : FnOk P w K mg base CX0 1 a.f_is_long_year a.d_is_long_year ["leaps", "year"] (spLong K) := by
  refine T.F_is_long_year.ok sc_is_long_year (fun vs H Q E h => ?_) (fun cdv A outer s H vs Q E hr h => ?_)
  · obtain ⟨t, ls, y, rfl, _⟩ := h
    rfl
  · obtain ⟨t, ls, y, rfl, ht, pos, k⟩ := h
    refine ⟨_, (pss_cons (ps_set (i := 2) sc_is_long_year.nd rfl (Or.inl rfl) pe_int)
      (pss_cons (ps_for PassesOwn.never rfl (pi_tup (pv 0)) (pg_name (i := 3) sc_is_long_year.nd rfl (Or.inl rfl)) (pss_one (ps_if (pt_cmpR op_eq (pe_op op_mod (pv 1) (pv 3)) pe_int (nomark _)) (pss_one (ps_set (i := 2) sc_is_long_year.nd rfl (Or.inl rfl) (pe_op op_add (pv 2) pe_int))) pss_nil)))
      (pss_one (ps_ret (pe_cmpR op_eq (pe_op op_mod (pv 2) pe_int) pe_int (nomark _)))))), ?_⟩
    refine st_let val_c (st_seq ?_)
    refine st_forT (a := t) (xs := ls.map V.int) (fun R q => ⟨_, rfl, q⟩) (fun i σ H' => ∃ d, σ = [some (.ref t), some (.int y), some (.int (cnt (ls.take i) y : Nat)), d] ∧ H' = H) ⟨none, rfl, rfl⟩ (fun i σ H' _ z => by obtain ⟨_, _, rfl⟩ := z; exact ht) ?_ ?_
    · rintro i x σ H' hx ⟨d, rfl, rfl⟩
      obtain ⟨z, hz, rfl⟩ := ints_get hx
      have e := cnt_snoc (ls.take i) z y
      rw [← take_snoc hz] at e
      refine st_ifp (q := y % z = 0) (a_eq (v_rI (g := fun i j => .int (i % j)) (val_var (i := 1) rfl) (val_var (i := 3) (v := .int z) rfl) (pos z (mem_at hz))) val_c) (by simp) (fun c => ?_) fun c => ?_
      · refine st_set (v_rI0 (val_var (i := 2) rfl) val_c) ⟨some (.int z), ?_, rfl⟩
        rw [e, if_pos c]
        rfl
      · refine st_next ⟨some (.int z), ?_, rfl⟩
        rw [e, if_neg c]
        rfl
    · rintro σ H' ⟨d, rfl, rfl⟩
      rw [List.length_map, List.take_length]
      exact st_ret (v_eq (v_rI (g := fun i j => .int (i % j)) (val_var (i := 2) rfl) val_c (by decide)) val_c) k
theorem G_long_years (T : Tx K mg a) : FnOk P w K mg base CX0 1 a.f_long_years a.d_long_years ["leaps", "year"] (spLongs K) := by
  refine T.F_long_years.ok sc_long_years (fun vs H Q E h => ?_) (fun cdv A outer s H vs Q E hr h => ?_)
  · obtain ⟨t, ls, y, rfl, _⟩ := h
    rfl
  · obtain ⟨t, ls, y, rfl, ht, pos, k⟩ := h
    refine ⟨_, (pss_cons (ps_set (i := 2) sc_long_years.nd rfl (Or.inl rfl) pe_int)
      (pss_cons (ps_set (i := 3) sc_long_years.nd rfl (Or.inl rfl) pe_int)
      (pss_cons (ps_for PassesOwn.never rfl (pi_tup (pv 0)) (pg_name (i := 4) sc_long_years.nd rfl (Or.inl rfl)) (pss_cons (ps_set (i := 2) sc_long_years.nd rfl (Or.inl rfl) (pe_op op_add (pv 2) (pe_op op_mul (pv 3) (pe_op op_fdivW (pe_op op_sub (pe_op op_add (pv 1) (pv 4)) pe_int) (pv 4)))))
      (pss_one (ps_set (i := 3) sc_long_years.nd rfl (Or.inl rfl) (pe_un un_neg (pv 3))))))
      (pss_one (ps_ret (pv 2)))))), ?_⟩
    refine st_let val_c (st_let val_c (st_seq ?_))
    refine st_forT (a := t) (xs := ls.map V.int) (fun R q => ⟨_, rfl, q⟩) (fun i σ H' => ∃ d m g, σ = [some (.ref t), some (.int y), some (.int m), some (.int g), d] ∧ H' = H ∧ (g = 1 ∨ g = -1) ∧ m + g * longv (ls.drop i) y = longv ls y) ⟨none, 0, 1, rfl, rfl, Or.inl rfl, by simp⟩ (fun i σ H' _ z => by obtain ⟨_, _, _, _, rfl, _⟩ := z; exact ht) ?_ ?_
    · rintro i x σ H' hx ⟨d, m, g, rfl, rfl, hg, e⟩
      obtain ⟨z, hz, rfl⟩ := ints_get hx
      have pz := pos z (mem_at hz)
      rw [drop_at hz] at e
      have e2 : m + g * ((y + z - 1) / z - longv (ls.drop (i + 1)) y) = longv ls y := e
      refine st_seq (st_set (v := .int (m + g * ((y + z - 1) / z))) (v_rI0 (g := fun i j => .int (i + j)) (val_var (i := 2) rfl) (v_rI (g := fun i j => .int (i * j)) (val_var (i := 3) rfl) (v_rI (g := fun i j => .int (i / j)) (v_rI0 (g := fun i j => .int (i - j)) (v_rI0 (g := fun i j => .int (i + j)) (val_var (i := 1) rfl) (val_var (i := 4) (v := .int z) rfl)) val_c) (val_var (i := 4) (v := .int z) rfl) (divW pz.1 (by omega))) (Or.inl (by omega)))) ?_)
      refine st_set (v := .int (-g)) (v_un (g := fun i => .int (-i)) (val_var (i := 3) rfl)) ⟨some (.int z), _, _, rfl, rfl, by omega, ?_⟩
      rw [← e2, Int.mul_sub, Int.neg_mul]
      omega
    · rintro σ H' ⟨d, m, g, rfl, rfl, hg, e⟩
      rw [List.length_map, List.drop_length] at e
      have e2 : m + g * 0 = longv ls y := e
      refine st_ret (val_var (i := 2) rfl) ?_
      rw [← e2, Int.mul_zero, Int.add_zero] at k
      exact k
end
end My

namespace My
open PySem L2
/-! ### 5. the calendar's object -/
def cf (c : Cal) (mt lt : Addr) : List (Str × V) := [("day", .int c.day), ("week", .int c.week), ("months", .ref mt), ("leap_month", .int c.lm), ("leaps", .ref lt), ("first", .int c.first), ("hour", .int c.hour), ("years_round", .int c.round), ("days_round", .int (c.bef c.round))]
section
variable (c : Cal) (mt lt : Addr)
theorem cf_day : (cf c mt lt).lookup ("day" : Str) = some (.int c.day) := by kernel_rfl
theorem cf_week : (cf c mt lt).lookup ("week" : Str) = some (.int c.week) := by kernel_rfl
theorem cf_months : (cf c mt lt).lookup ("months" : Str) = some (.ref mt) := by kernel_rfl
theorem cf_leap_month : (cf c mt lt).lookup ("leap_month" : Str) = some (.int c.lm) := by kernel_rfl
theorem cf_leaps : (cf c mt lt).lookup ("leaps" : Str) = some (.ref lt) := by kernel_rfl
theorem cf_first : (cf c mt lt).lookup ("first" : Str) = some (.int c.first) := by kernel_rfl
theorem cf_hour : (cf c mt lt).lookup ("hour" : Str) = some (.int c.hour) := by kernel_rfl
theorem cf_years_round : (cf c mt lt).lookup ("years_round" : Str) = some (.int c.round) := by kernel_rfl
theorem cf_days_round : (cf c mt lt).lookup ("days_round" : Str) = some (.int (c.bef c.round)) := by kernel_rfl
end
def CalAt (C : Addr) (K : PySem.W.Frag) (H : Hp) (p : Addr) (c : Cal) : Prop := ∃ dx mt lt, H p = some (.ins C dx (cf c mt lt)) ∧ SqT K H mt (c.months.map V.int) ∧ SqT K H lt (c.leaps.map V.int)
theorem CalAt.same {C : Addr} {K : PySem.W.Frag} {H H' : Hp} {p : Addr} {c : Cal} (h : CalAt C K H p c) (s : Same H H') : CalAt C K H' p c := by
  obtain ⟨dx, mt, lt, h1, h2, h3⟩ := h
  exact ⟨dx, mt, lt, s _ _ h1, s.sqT h2, s.sqT h3⟩
/-- what days_ahead reads: it is asked while the object is still being made -/
def Half (C : Addr) (K : PySem.W.Frag) (H : Hp) (p : Addr) (ms ls : List Int) : Prop := ∃ dx fs mt lt, H p = some (.ins C dx fs) ∧ fs.lookup ("months" : Str) = some (.ref mt) ∧ fs.lookup ("leaps" : Str) = some (.ref lt) ∧ SqT K H mt (ms.map V.int) ∧ SqT K H lt (ls.map V.int)
theorem CalAt.half {C : Addr} {K : PySem.W.Frag} {H : Hp} {p : Addr} {c : Cal} (h : CalAt C K H p c) : Half C K H p c.months c.leaps := by
  obtain ⟨dx, mt, lt, h1, h2, h3⟩ := h
  exact ⟨dx, _, mt, lt, h1, cf_months c mt lt, cf_leaps c mt lt, h2, h3⟩
def spAhead (C : Addr) (K : PySem.W.Frag) : Sp := fun vs H Q _ => ∃ (p : Addr) (ms ls : List Int) (y : Int), vs = [.ref p, .int y] ∧ Half C K H p ms ls ∧ (∀ d ∈ ls, 0 < d ∧ d ≤ 1000) ∧ (0 ≤ ms.sum ∧ ms.sum ≤ 780) ∧ Q (.int (y * ms.sum + longv ls y)) H
theorem OkCal.leaps1 {c : Cal} (ok : OkCal c) : ∀ d ∈ c.leaps, 0 < d ∧ d ≤ 1000 := fun d h => by have := ok.leaps.1.pos d h; omega
/-- of a whole calendar -/
theorem spAhead.cal {C : Addr} {K : PySem.W.Frag} {H : Hp} {p : Addr} {c : Cal} {y : Int} {Q : VK} {E : XK} (h : CalAt C K H p c) (ok : OkCal c) (q : Q (.int (c.bef y)) H) : spAhead C K [.ref p, .int y] H Q E := by
  have := ok.sum1
  exact ⟨p, c.months, c.leaps, y, rfl, h.half, ok.leaps1, by omega, q⟩
def spDim (C : Addr) (K : PySem.W.Frag) : Sp := fun vs H Q _ => ∃ (p : Addr) (c : Cal) (y : Int) (j : Nat), vs = [.ref p, .int y, .int ((j : Int) + 1)] ∧ CalAt C K H p c ∧ OkCal c ∧ j < c.months.length ∧ Q (.int (dim c y j)) H
def spYear (C : Addr) (K : PySem.W.Frag) : Sp := fun vs H Q _ => ∃ (p : Addr) (c : Cal) (n : Int), vs = [.ref p, .int n] ∧ CalAt C K H p c ∧ OkCal c ∧ 0 ≤ n ∧ ∀ y H', 0 ≤ y → c.bef y ≤ n → n < c.bef (y + 1) → Same H H' → Q (.int y) H'
theorem months_at {c : Cal} {j : Nat} (h : j < c.months.length) : (c.months.map V.int)[j]? = some (.int (c.months.getD j 0)) := by
  have e : c.months[j]? = some (c.months.getD j 0) := by simp [List.getD, h]
  exact ints_at e
section
variable {P : Program} {w : World} {K : PySem.W.Frag} {mg : Str → Option Value} {base : Heap} {a : Ad}
theorem G_days_ahead (T : Tx K mg a) : FnOk P w K mg base CX0 2 a.f_days_ahead a.d_days_ahead ["calendar", "year"] (spAhead a.c_Calendar K) := by
  refine T.F_days_ahead.ok sc_days_ahead (fun vs H Q E h => ?_) (fun cdv A outer s H vs Q E hr h => ?_)
  · obtain ⟨p, ms, ls, y, rfl, _⟩ := h
    rfl
  · obtain ⟨p, ms, ls, y, rfl, ⟨dx, fs, mt, lt, h1, h2, h3, h4, h5⟩, pos, bd, k⟩ := h
    refine ⟨_, (pss_one (ps_ret (pe_op op_add (pe_op op_mul (pv 1) (pe_callB (cr_sumA rfl) (by rfl) T.n_sum (by decide +kernel) (pa_cons (pe_fld (pv 0) rfl) pa_nil))) (pe_call (G_long_years T) (hr.mono (by decide)) rfl T.g_long_years T.F_long_years.kp T.b_long_years .nil pass0 (pa_cons (pe_fld (pv 0) rfl) (pa_cons (pv 1) pa_nil)))))), ?_⟩
    refine st_ret (v := .int (y * ms.sum + longv ls y)) (v_rI0 (g := fun i j => .int (i + j)) (v_rI (g := fun i j => .int (i * j)) (val_var (i := 1) rfl) (v_cb (val_fld (val_var (i := 0) rfl) h1 T.cl_Calendar T.no_Calendar_months h2) fun Q q => ⟨mt, ms, rfl, Or.inr h4, q⟩) (Or.inr (by omega)))
      (v_call2 (val_fld (val_var (i := 0) rfl) h1 T.cl_Calendar T.no_Calendar_leaps h3) (val_var (i := 1) rfl) fun Q q => ⟨lt, ls, y, rfl, h5, pos, q⟩)) k
theorem G_days_in_month (T : Tx K mg a) : FnOk P w K mg base CX0 2 a.f_days_in_month a.d_days_in_month ["calendar", "year", "month"] (spDim a.c_Calendar K) := by
  refine T.F_days_in_month.ok sc_days_in_month (fun vs H Q E h => ?_) (fun cdv A outer s H vs Q E hr h => ?_)
  · obtain ⟨p, c, y, j, rfl, _⟩ := h
    rfl
  · obtain ⟨p, c, y, j, rfl, ⟨dx, mt, lt, h1, h2, h3⟩, ok, hj, k⟩ := h
    refine ⟨_, (pss_cons (ps_set (i := 3) sc_days_in_month.nd rfl (Or.inl rfl) (pe_ix ix_tup (pe_fld (pv 0) rfl) (pe_op op_sub (pv 2) pe_int) (fun _ _ => rfl)))
      (pss_cons (ps_if (PW.pt (pw_and (pt_cmpR op_eq (pv 2) (pe_fld (pv 0) rfl) (nomark _)) (pw_and1 (pt_val (pe_call (G_is_long_year T) (hr.mono (by decide)) rfl T.g_is_long_year T.F_is_long_year.kp T.b_is_long_year .nil pass0 (pa_cons (pe_fld (pv 0) rfl) (pa_cons (pv 1) pa_nil))))))) (pss_one (ps_ret (pe_op op_add (pv 3) pe_int))) pss_nil)
      (pss_one (ps_ret (pv 3))))), ?_⟩
    refine st_let (v := .int (c.months.getD j 0)) (v_ixT (val_fld (val_var (i := 0) rfl) h1 T.cl_Calendar T.no_Calendar_months (cf_months c mt lt)) (v_rI0 (g := fun i j => .int (i - j)) (val_var (i := 2) rfl) val_c) h2 (at_of (j := j) (by omega) (months_at hj))) ?_
    refine st_guard (q := (j : Int) + 1 = c.lm ∧ isL c.leaps y = true) (a_and (a_eq (val_var (i := 2) rfl) (val_fld (val_var (i := 0) rfl) h1 T.cl_Calendar T.no_Calendar_leap_month (cf_leap_month c mt lt))) fun _ =>
      a_val (v_call2 (val_fld (val_var (i := 0) rfl) h1 T.cl_Calendar T.no_Calendar_leaps (cf_leaps c mt lt)) (val_var (i := 1) rfl) fun Q q => ⟨lt, c.leaps, y, rfl, h3, ok.posl, q⟩)) (by simp) (fun z => ?_) fun z => ?_
    · refine st_ret (v_rI0 (g := fun i j => .int (i + j)) (val_var (i := 3) rfl) val_c) ?_
      have e : dim c y j = c.months.getD j 0 + 1 := by show _ + ite _ _ _ = _; rw [if_pos z]
      rw [e] at k
      exact k
    · refine st_ret (val_var (i := 3) rfl) ?_
      have e : dim c y j = c.months.getD j 0 := by show _ + ite _ _ _ = _; rw [if_neg z, Int.add_zero]
      rw [e] at k
      exact k
end
end My

namespace My
open PySem L2
theorem OkCal.dround {c : Cal} (ok : OkCal c) : 1 ≤ c.bef c.round ∧ c.bef c.round ≤ 781000 := by
  have r := ok.round1
  have g := ok.bef_ge (y := c.round) (by omega)
  have s := ok.sum1
  have h : c.round * (c.months.sum + 1) ≤ 1000 * 781 := Int.mul_le_mul r.2.1 (by omega) (by omega) (by decide)
  omega
section
variable {P : Program} {w : World} {K : PySem.W.Frag} {mg : Str → Option Value} {base : Heap} {a : Ad}
theorem G_year_of_day (T : Tx K mg a) : FnOk P w K mg base CX0 3 a.f_year_of_day a.d_year_of_day ["calendar", "number"] (spYear a.c_Calendar K) := by
  refine T.F_year_of_day.ok sc_year_of_day (fun vs H Q E h => ?_) (fun cdv A outer s H vs Q E hr h => ?_)
  · obtain ⟨p, c, n, rfl, _⟩ := h
    rfl
  · obtain ⟨p, c, n, rfl, hc, ok, hn, k⟩ := h
    refine ⟨_, (pss_cons (ps_asg (pe_callB call_divmodW (by rfl) T.n_divmod (by decide +kernel) (pa_cons (pv 1) (pa_cons (pe_fld (pv 0) rfl) pa_nil))) (pg_tup rfl (pgs_cons (pg_name (i := 2) sc_year_of_day.nd rfl (Or.inl rfl)) (pgs_cons (pg_name (i := 3) sc_year_of_day.nd rfl (Or.inl rfl)) pgs_nil))))
      (pss_cons (ps_set (i := 4) sc_year_of_day.nd rfl (Or.inl rfl) (pe_callB (cr_sumA rfl) (by rfl) T.n_sum (by decide +kernel) (pa_cons (pe_fld (pv 0) rfl) pa_nil)))
      (pss_cons (ps_set (i := 5) sc_year_of_day.nd rfl (Or.inl rfl) (pe_op op_fdivW (pv 3) (pe_op op_add (pv 4) pe_int)))
      (pss_cons (ps_set (i := 6) sc_year_of_day.nd rfl (Or.inl rfl) (pe_op op_add (pe_op op_fdivW (pv 3) (pv 4)) pe_int))
      (pss_cons (ps_while PassesOwn.never (pt_cmpR op_gt (pe_op op_sub (pv 6) (pv 5)) pe_int (nomark _)) (pss_cons (ps_set (i := 7) sc_year_of_day.nd rfl (Or.inl rfl) (pe_op op_fdivW (pe_op op_add (pv 5) (pv 6)) pe_int))
      (pss_one (ps_if (pt_cmpR op_le (pe_call (G_days_ahead T) (hr.mono (by decide)) rfl T.g_days_ahead T.F_days_ahead.kp T.b_days_ahead .nil pass0 (pa_cons (pv 0) (pa_cons (pv 7) pa_nil))) (pv 3) (nomark _)) (pss_one (ps_set (i := 5) sc_year_of_day.nd rfl (Or.inl rfl) (pv 7))) (pss_one (ps_set (i := 6) sc_year_of_day.nd rfl (Or.inl rfl) (pv 7)))))))
      (pss_one (ps_ret (pe_op op_add (pe_op op_mul (pv 2) (pe_fld (pv 0) rfl)) (pv 5))))))))), ?_⟩
    have dr := ok.dround
    have s1 := ok.sum1
    have r1 := ok.round1
    obtain ⟨dx, mt, lt, h1, h2, h3⟩ := id hc
    refine ⟨_, rfl, _, rfl, p, _, dx, _, _, rfl, h1, T.cl_Calendar, T.no_Calendar_days_round, cf_days_round c mt lt, n, c.bef c.round, rfl, ⟨by omega, PyProof.noPylong_small (by omega)⟩, fun t ht => ?_⟩
    have st : Same H (upd H t (.tup [.int (n / c.bef c.round), .int (n % c.bef c.round)])) := Same.new ht
    refine ⟨t, _, rfl, SqT.of upd_same, rfl, _, _, rfl, _, _, rfl, rfl, ?_⟩
    generalize upd H t (.tup [.int (n / c.bef c.round), .int (n % c.bef c.round)]) = H1 at st
    have m0 := Int.emod_nonneg n (show c.bef c.round ≠ 0 by omega)
    have m1 := Int.emod_lt_of_pos n (show 0 < c.bef c.round by omega)
    generalize er : n % c.bef c.round = r at m0 m1
    have hc1 := hc.same st
    obtain ⟨dx', mt', lt', g1, g2, g3⟩ := id hc1
    refine st_let (v := .int c.months.sum) (v_cb (val_fld (val_var (i := 0) rfl) g1 T.cl_Calendar T.no_Calendar_months (cf_months c mt' lt')) fun Q q => ⟨mt', c.months, rfl, Or.inr g2, q⟩) ?_
    refine st_let (v := .int (r / (c.months.sum + 1))) (v_rI (g := fun i j => .int (i / j)) (val_var (i := 3) rfl) (v_rI0 (g := fun i j => .int (i + j)) (val_var (i := 4) rfl) val_c) (divW (by omega) (by omega))) ?_
    refine st_let (v := .int (r / c.months.sum + 1)) (v_rI0 (g := fun i j => .int (i + j)) (v_rI (g := fun i j => .int (i / j)) (val_var (i := 3) rfl) (val_var (i := 4) rfl) (divW (by omega) (by omega))) val_c) (st_seq ?_)
    refine st_whileb (fun σ H' => ∃ lo hi m, σ = [some (.ref p), some (.int n), some (.int (n / c.bef c.round)), some (.int r), some (.int c.months.sum), some (.int lo), some (.int hi), m] ∧ H' = H1 ∧ 0 ≤ lo ∧ lo < hi ∧ c.bef lo ≤ r ∧ r < c.bef hi)
      (fun σ H' => match σ with | [_, _, _, _, _, some (.int lo), some (.int hi), _] => (hi - lo).toNat | _ => 0) ⟨_, _, none, rfl, rfl, ?_, ?_, ?_, ?_⟩ ?_
    · exact Int.ediv_nonneg m0 (by omega)
    · have a1 := Int.ediv_nonneg m0 (show (0 : Int) ≤ c.months.sum + 1 by omega)
      have a2 := Int.mul_ediv_self_le (x := r) (k := c.months.sum + 1) (by omega)
      have a3 : r / (c.months.sum + 1) ≤ r / c.months.sum := by
        refine (Int.le_ediv_iff_mul_le (by omega)).mpr ?_
        have e : (c.months.sum + 1) * (r / (c.months.sum + 1)) = c.months.sum * (r / (c.months.sum + 1)) + r / (c.months.sum + 1) := by rw [Int.add_mul, Int.one_mul]
        have e2 := Int.mul_comm c.months.sum (r / (c.months.sum + 1))
        omega
      omega
    · have a1 := Int.ediv_nonneg m0 (show (0 : Int) ≤ c.months.sum + 1 by omega)
      have g := ok.bef_ge a1
      have a2 := Int.ediv_mul_le r (show c.months.sum + 1 ≠ 0 by omega)
      omega
    · have a1 := Int.ediv_nonneg m0 (show (0 : Int) ≤ c.months.sum by omega)
      have g := ok.bef_ge (y := r / c.months.sum + 1) (by omega)
      have a2 := Int.lt_ediv_add_one_mul_self r (show 0 < c.months.sum by omega)
      omega
    · rintro σ H' ⟨lo, hi, m, rfl, rfl, l0, lh, bl, bh⟩
      refine ⟨_, a_cmp (f := fun i j => decide (j < i)) (v_rI0 (g := fun i j => .int (i - j)) (val_var (i := 6) rfl) (val_var (i := 5) rfl)) val_c, fun z => ?_, fun z => ?_⟩
      · have z1 : 1 < hi - lo := of_decide_eq_true z
        refine st_let (v := .int ((lo + hi) / 2)) (v_rI (g := fun i j => .int (i / j)) (v_rI0 (g := fun i j => .int (i + j)) (val_var (i := 5) rfl) (val_var (i := 6) rfl)) val_c (divW (by omega) (by omega))) ?_
        refine st_ifp (q := c.bef ((lo + hi) / 2) ≤ r) (a_cmp (f := fun i j => decide (i ≤ j)) (v_call2 (val_var (i := 0) rfl) (val_var (i := 7) rfl) fun Q q => spAhead.cal hc1 ok q) (val_var (i := 3) rfl)) (by simp) (fun b => ?_) fun b => ?_
        · refine st_set (val_var (i := 7) rfl) ⟨⟨_, _, _, rfl, rfl, by omega, by omega, b, bh⟩, ?_⟩
          show (hi - (lo + hi) / 2).toNat < (hi - lo).toNat
          omega
        · refine st_set (val_var (i := 7) rfl) ⟨⟨_, _, _, rfl, rfl, l0, by omega, bl, by omega⟩, ?_⟩
          show ((lo + hi) / 2 - lo).toNat < (hi - lo).toNat
          omega
      · have z1 : ¬ 1 < hi - lo := of_decide_eq_false z
        have e : hi = lo + 1 := by omega
        subst e
        refine st_ret (v_rI0 (g := fun i j => .int (i + j)) (v_rI (g := fun i j => .int (i * j)) (val_var (i := 2) rfl) (val_fld (val_var (i := 0) rfl) g1 T.cl_Calendar T.no_Calendar_years_round (cf_years_round c mt' lt')) (Or.inr (by omega))) (val_var (i := 5) rfl)) ?_
        have R := IsDate.of_round ok hn l0 (by rw [er]; exact bl) (by rw [er]; exact bh)
        exact k _ _ R.1 R.2.1 R.2.2.1 st
end
end My

namespace My
open PySem L2
/-! ### 6. a calendar is made, or refused -/
inductive An where
  | rng (s : Str) (v : Int)
  | part (s : Str)
def Out (a : Ad) (E : XK) (H : Hp) : An → Prop
  | .rng s v => ∀ dd H2, H2 dd = some (.xd [("value", .int v), ("what", .str s)]) → Same H H2 → E (.ref a.c_OutOfRange) (some dd) H2
  | .part s => ∀ dd H2, H2 dd = some (.xd [("part", .str s)]) → Same H H2 → E (.ref a.c_BadCalendar) (some dd) H2
structure Raw where
  day : Int
  week : Int
  months : List Int
  lm : Int
  leaps : List Int
  first : Int
  hour : Option Int
def Raw.cal (r : Raw) : Cal := ⟨r.day, r.week, r.months, r.lm, r.leaps, r.first, r.hour.getD r.day⟩
def hourV : Option Int → V
  | none => .non
  | some h => .int h
section
open Classical
noncomputable def iniH (day : Int) : Option Int → Option An
  | none => none
  | some h => if ¬ (1 ≤ h ∧ h ≤ day) then some (.rng "hour" h) else if ¬ day % h = 0 then some (.part "hour") else none
noncomputable def ini (r : Raw) : Option An :=
  if ¬ (1 ≤ r.day ∧ r.day ≤ 1440) then some (.rng "day" r.day) else if ¬ (1 ≤ r.week ∧ r.week ≤ 10) then some (.rng "week" r.week) else
  if ¬ okMonths r.months then some (.part "months") else if ¬ (1 ≤ r.lm ∧ r.lm ≤ r.months.length) then some (.rng "leap_month" r.lm) else
  if ¬ (okLeaps 1 r.leaps ∧ r.leaps.length ≤ 4) then some (.part "leaps") else if ¬ (0 ≤ r.first ∧ r.first ≤ r.week - 1) then some (.rng "first" r.first) else iniH r.day r.hour
end
def spInit (a : Ad) (K : PySem.W.Frag) : Sp := fun vs H Q E => ∃ (p dx m l : Addr) (r : Raw), vs = [.ref p, .int r.day, .int r.week, .ref m, .int r.lm, .ref l, .int r.first, hourV r.hour] ∧
  H p = some (.ins a.c_Calendar dx []) ∧ SqA K H m (r.months.map V.int) ∧ SqA K H l (r.leaps.map V.int) ∧
  (ini r = none → OkCal r.cal → ∀ H', CalAt a.c_Calendar K H' p r.cal → But p H H' → Q .non H') ∧ (∀ an, ini r = some an → ∀ H1, Same H H1 → Out a E H1 an)
theorem last_at : ∀ {l : List Int}, l ≠ [] → atI (l.map V.int) (-1) = some (.int (lastOr 1 l)) := by
  have aux : ∀ (b : Int) (l : List Int), l ≠ [] → l[l.length - 1]? = some (lastOr b l) := by
    intro b l
    induction l generalizing b with
    | nil => intro h; exact absurd rfl h
    | cons d r ih =>
      intro _
      cases r with
      | nil => rfl
      | cons e r =>
        have i := ih d (by simp)
        show (d :: e :: r)[r.length + 1]? = some (lastOr d (e :: r))
        rw [← i]
        rfl
  intro l h
  have hl : 0 < l.length := List.length_pos_iff.mpr h
  unfold atI
  have e : ixN (l.map V.int).length (-1) = some (l.length - 1) := by
    rw [List.length_map]
    unfold ixN
    rw [if_neg (by decide), if_pos (by omega)]
    congr 1
    omega
  rw [e]
  show (l.map V.int)[l.length - 1]? = _
  exact ints_at (aux 1 l h)
theorem iniH_hour {day : Int} {h : Option Int} (d1 : 1 ≤ day) (e : iniH day h = none) : 1 ≤ h.getD day ∧ h.getD day ≤ day := by
  cases h with
  | none => exact ⟨d1, Int.le_refl _⟩
  | some h =>
    by_cases c : 1 ≤ h ∧ h ≤ day
    · exact c
    · have e' : ite (¬ (1 ≤ h ∧ h ≤ day)) _ _ = none := e
      rw [if_pos c] at e'
      cases e'
section
variable {P : Program} {w : World} {K : PySem.W.Frag} {mg : Str → Option Value} {base : Heap} {a : Ad}
theorem G_Calendar_init (T : Tx K mg a) : FnOk P w K mg base (L2.CX P w) 4 a.f_Calendar_init a.d_Calendar_init ["self", "day", "week", "months", "leap_month", "leaps", "first", "hour"] (spInit a K) := by
  refine T.F_Calendar_init.okX sc_Calendar_init (fun vs H Q E h => ?_) (fun cdv A outer s H vs Q E hr h => ?_)
  · obtain ⟨p, dx, m, l, r, rfl, _⟩ := h
    rfl
  · obtain ⟨p, dx, m, l, r, rfl, hp, hm, hl, k1, k2⟩ := h
    refine ⟨_, (pss_cons (ps_expr (pe_call (G_in_range T) (hr.mono (by decide)) rfl T.g_in_range T.F_in_range.kp T.b_in_range .nil (passes_call (takes_of rfl rfl rfl rfl) (fun _ _ _ _ h => h)) (pa_cons pe_str (pa_cons (pv 1) (pa_cons pe_int (pa_cons pe_int pa_nil))))))
      (pss_cons (ps_expr (pe_call (G_in_range T) (hr.mono (by decide)) rfl T.g_in_range T.F_in_range.kp T.b_in_range .nil (passes_call (takes_of rfl rfl rfl rfl) (fun _ _ _ _ h => h)) (pa_cons pe_str (pa_cons (pv 2) (pa_cons pe_int (pa_cons pe_int pa_nil))))))
      (pss_cons (ps_if (pt_not (pt_val (pe_call (G_right_months T) (hr.mono (by decide)) rfl T.g_right_months T.F_right_months.kp T.b_right_months .nil pass0 (pa_cons (pv 3) pa_nil)))) (pss_one (ps_raise rfl (takes_of rfl rfl rfl rfl) (pmk_oex T.ox_BadCalendar T.i_BadCalendar T.t_BadCalendar (G_BadCalendar_init T) (hr.mono (by decide)) T.b_BadCalendar_init .nil pass0 rfl T.g_BadCalendar (pa_cons pe_str pa_nil)))) pss_nil)
      (pss_cons (ps_expr (pe_call (G_in_range T) (hr.mono (by decide)) rfl T.g_in_range T.F_in_range.kp T.b_in_range .nil (passes_call (takes_of rfl rfl rfl rfl) (fun _ _ _ _ h => h)) (pa_cons pe_str (pa_cons (pv 4) (pa_cons pe_int (pa_cons (pe_callB call_len_seq (by rfl) T.n_len (by decide +kernel) (pa_cons (pv 3) pa_nil)) pa_nil))))))
      (pss_cons (ps_if (pt_not (pt_val (pe_call (G_right_leaps T) (hr.mono (by decide)) rfl T.g_right_leaps T.F_right_leaps.kp T.b_right_leaps .nil pass0 (pa_cons (pv 5) pa_nil)))) (pss_one (ps_raise rfl (takes_of rfl rfl rfl rfl) (pmk_oex T.ox_BadCalendar T.i_BadCalendar T.t_BadCalendar (G_BadCalendar_init T) (hr.mono (by decide)) T.b_BadCalendar_init .nil pass0 rfl T.g_BadCalendar (pa_cons pe_str pa_nil)))) pss_nil)
      (pss_cons (ps_expr (pe_call (G_in_range T) (hr.mono (by decide)) rfl T.g_in_range T.F_in_range.kp T.b_in_range .nil (passes_call (takes_of rfl rfl rfl rfl) (fun _ _ _ _ h => h)) (pa_cons pe_str (pa_cons (pv 6) (pa_cons pe_int (pa_cons (pe_op op_sub (pv 2) pe_int) pa_nil))))))
      (pss_cons (ps_if (pt_cmpR op_notN (pv 7) pe_non (nomark _)) (pss_cons (ps_expr (pe_call (G_in_range T) (hr.mono (by decide)) rfl T.g_in_range T.F_in_range.kp T.b_in_range .nil (passes_call (takes_of rfl rfl rfl rfl) (fun _ _ _ _ h => h)) (pa_cons pe_str (pa_cons (pv 7) (pa_cons pe_int (pa_cons (pv 1) pa_nil))))))
      (pss_one (ps_if (pt_cmpR op_ne (pe_op op_mod (pv 1) (pv 7)) pe_int (nomark _)) (pss_one (ps_raise rfl (takes_of rfl rfl rfl rfl) (pmk_oex T.ox_BadCalendar T.i_BadCalendar T.t_BadCalendar (G_BadCalendar_init T) (hr.mono (by decide)) T.b_BadCalendar_init .nil pass0 rfl T.g_BadCalendar (pa_cons pe_str pa_nil)))) pss_nil))) pss_nil)
      (pss_cons (ps_fld (pv 0) (pv 1) rfl)
      (pss_cons (ps_fld (pv 0) (pv 2) rfl)
      (pss_cons (ps_fld (pv 0) (pe_callTy call_tuple_of (by rfl) T.n_tuple (by decide +kernel) (pa_cons (pv 3) pa_nil)) rfl)
      (pss_cons (ps_fld (pv 0) (pv 4) rfl)
      (pss_cons (ps_fld (pv 0) (pe_callTy call_tuple_of (by rfl) T.n_tuple (by decide +kernel) (pa_cons (pv 5) pa_nil)) rfl)
      (pss_cons (ps_fld (pv 0) (pv 6) rfl)
      (pss_cons (ps_fld (pv 0) (pe_ifExp (pt_cmpR op_isN (pv 7) pe_non (nomark _)) (pv 1) (pv 7)) rfl)
      (pss_cons (ps_fld (pv 0) (pe_ifExp (pt_truth (pe_fld (pv 0) rfl) (by intro _; rfl)) (pe_ix ix_tup (pe_fld (pv 0) rfl) (pe_un un_neg pe_int) (fun _ _ => rfl)) pe_int) rfl)
      (pss_one (ps_fld (pv 0) (pe_call (G_days_ahead T) (hr.mono (by decide)) rfl T.g_days_ahead T.F_days_ahead.kp T.b_days_ahead .nil pass0 (pa_cons (pv 0) (pa_cons (pe_fld (pv 0) rfl) pa_nil))) rfl))))))))))))))))), ?_⟩
    unfold ini at k1 k2
    refine st_do ?_
    refine ⟨_, rfl, "day", r.day, 1, 1440, rfl, fun c1 => ?_, fun c1 => ?_⟩
    case refine_2 => rw [if_pos c1] at k2; exact k2 _ rfl H (Same.refl H)
    rw [if_neg (fun z => z c1)] at k1 k2
    refine st_do ?_
    refine ⟨_, rfl, "week", r.week, 1, 10, rfl, fun c2 => ?_, fun c2 => ?_⟩
    case refine_2 => rw [if_pos c2] at k2; exact k2 _ rfl H (Same.refl H)
    rw [if_neg (fun z => z c2)] at k1 k2
    refine st_guardX ⟨_, rfl, m, r.months, rfl, hm, fun b H1 hb s1 => ⟨b, rfl, ?_⟩⟩
    by_cases c3 : okMonths r.months
    case neg =>
      have eb : b = false := by cases b with | false => rfl | true => exact absurd (hb.mp rfl) c3
      subst eb
      rw [if_pos c3] at k2
      refine iteT ?_
      exact x1_made fun dd H2 e1 e2 => k2 _ rfl H1 s1 dd H2 e1 e2
    have eb : b = true := hb.mpr c3
    subst eb
    rw [if_neg (fun z => z c3)] at k1 k2
    refine iteF ?_
    refine st_do ?_
    have eml : ((r.months.map V.int).length : Int) = (r.months.length : Int) := by rw [List.length_map]
    refine ⟨_, rfl, _, rfl, m, _, rfl, s1.sqA hm, "leap_month", r.lm, 1, r.months.length, by rw [eml]; rfl, fun c4 => ?_, fun c4 => ?_⟩
    case refine_2 => rw [if_pos c4] at k2; exact k2 _ rfl H1 s1
    rw [if_neg (fun z => z c4)] at k1 k2
    refine st_guardX ⟨_, rfl, l, r.leaps, rfl, s1.sqA hl, fun b hb => ⟨b, rfl, ?_⟩⟩
    by_cases c5 : okLeaps 1 r.leaps ∧ r.leaps.length ≤ 4
    case neg =>
      have eb : b = false := by cases b with | false => rfl | true => exact absurd (hb.mp rfl) c5
      subst eb
      rw [if_pos c5] at k2
      refine iteT ?_
      exact x1_made fun dd H2 e1 e2 => k2 _ rfl H1 s1 dd H2 e1 e2
    have eb : b = true := hb.mpr c5
    subst eb
    rw [if_neg (fun z => z c5)] at k1 k2
    refine iteF ?_
    refine st_do ?_
    refine ⟨_, rfl, _, rfl, _, _, rfl, rfl, "first", r.first, 0, r.week - 1, rfl, fun c6 => ?_, fun c6 => ?_⟩
    case refine_2 => rw [if_pos c6] at k2; exact k2 _ rfl H1 s1
    rw [if_neg (fun z => z c6)] at k1 k2
    have ok : iniH r.day r.hour = none → OkCal r.cal := fun e => ⟨c1, c2, c3, c4, c5, c6, iniH_hour c1.1 e⟩
    have hm1 := s1.sqA hm
    have hl1 := s1.sqA hl
    have hp1 := s1 _ _ hp
    clear hm hl hp
    generalize hsig : L2.start _ _ = σ
    refine st_share (iniH r.day r.hour = none) (fun e => ?_) fun N hN => ?_
    case refine_2 =>
      subst hsig
      revert hN
      cases eh : r.hour with
      | none => exact fun hN => st_no (ans_notN (val_var (i := 7) (v := .non) rfl) rfl) (hN rfl)
      | some h =>
        intro hN
        refine st_yes (ans_notN (val_var (i := 7) (v := .int h) rfl) rfl) (st_do ?_)
        refine ⟨_, rfl, _, rfl, "hour", h, 1, r.day, rfl, fun c7 => ?_, fun c7 => ?_⟩
        case refine_2 => exact k2 (.rng "hour" h) (by rw [eh]; exact if_pos c7) H1 s1
        have e7 : iniH r.day (some h) = if ¬ r.day % h = 0 then some (.part "hour") else none := if_neg (fun z => z c7)
        refine st_ifp (q := ¬ r.day % h = 0) (a_ne (v_rI (g := fun i j => .int (i % j)) (val_var (i := 1) (v := .int r.day) rfl) (val_var (i := 7) (v := .int h) rfl) (by omega)) val_c) (by simp) (fun z => ?_) fun z => ?_
        · exact x1_made fun dd H2 e1 e2 => k2 (.part "hour") (by rw [eh, e7, if_pos z]) H1 s1 dd H2 e1 e2
        · exact hN (by rw [e7, if_neg z])
    have ok := ok e
    replace k1 := k1 e ok
    clear k2 hb
    subst hsig
    refine st_mk (y := .int r.day) (val_var (i := 1) rfl) (val_var (i := 0) rfl) hp1 T.cl_Calendar T.no_Calendar_day (by show 0 < 1000; decide) fun H2 q2 b2 => ?_
    have hp2 : H2 p = some (.ins a.c_Calendar dx [("day", .int r.day)]) := q2.trans (by kernel_rfl)
    have hm2 := b2.keepA hp1 hm1
    have hl2 := b2.keepA hp1 hl1
    refine st_mk (y := .int r.week) (val_var (i := 2) rfl) (val_var (i := 0) rfl) hp2 T.cl_Calendar T.no_Calendar_week (by show 1 < 1000; decide) fun H3 q3 b3 => ?_
    have hp3 : H3 p = some (.ins a.c_Calendar dx [("day", .int r.day), ("week", .int r.week)]) := q3.trans (by kernel_rfl)
    have hm3 := b3.keepA hp2 hm2
    have hl3 := b3.keepA hp2 hl2
    refine st_mkH (PV := fun y H' => ∃ t, y = .ref t ∧ SqT K H' t (r.months.map V.int) ∧ Same H3 H') (fun Q q => ?_) (fun H' => val_var (i := 0) rfl) (fun y H' z => z.choose_spec.2.2 _ _ hp3) T.cl_Calendar T.no_Calendar_months (by show 2 < 1000; decide) fun y H4' H4 z q4 b4' => ?_
    case refine_1 =>
      refine ⟨_, rfl, _, r.months.map V.int, rfl, ?_⟩
      rcases hm3 with z | z
      · exact Or.inl ⟨z, fun t ht => q _ _ ⟨t, rfl, SqT.of upd_same, Same.new ht⟩⟩
      · exact Or.inr ⟨z, q _ _ ⟨_, rfl, z, Same.refl _⟩⟩
    obtain ⟨mt, rfl, hmt4, z⟩ := z
    have b4 : But p H3 H4 := But.same z b4'
    replace hmt4 := b4'.keepT (z _ _ hp3) hmt4
    have hp4 : H4 p = some (.ins a.c_Calendar dx [("day", .int r.day), ("week", .int r.week), ("months", .ref mt)]) := q4.trans (by kernel_rfl)
    have hm4 := b4.keepA hp3 hm3
    have hl4 := b4.keepA hp3 hl3
    refine st_mk (y := .int r.lm) (val_var (i := 4) rfl) (val_var (i := 0) rfl) hp4 T.cl_Calendar T.no_Calendar_leap_month (by show 3 < 1000; decide) fun H5 q5 b5 => ?_
    have hp5 : H5 p = some (.ins a.c_Calendar dx [("day", .int r.day), ("week", .int r.week), ("months", .ref mt), ("leap_month", .int r.lm)]) := q5.trans (by kernel_rfl)
    have hmt5 := b5.keepT hp4 hmt4
    have hm5 := b5.keepA hp4 hm4
    have hl5 := b5.keepA hp4 hl4
    refine st_mkH (PV := fun y H' => ∃ t, y = .ref t ∧ SqT K H' t (r.leaps.map V.int) ∧ Same H5 H') (fun Q q => ?_) (fun H' => val_var (i := 0) rfl) (fun y H' z => z.choose_spec.2.2 _ _ hp5) T.cl_Calendar T.no_Calendar_leaps (by show 4 < 1000; decide) fun y H6' H6 z q6 b6' => ?_
    case refine_1 =>
      refine ⟨_, rfl, _, r.leaps.map V.int, rfl, ?_⟩
      rcases hl5 with z | z
      · exact Or.inl ⟨z, fun t ht => q _ _ ⟨t, rfl, SqT.of upd_same, Same.new ht⟩⟩
      · exact Or.inr ⟨z, q _ _ ⟨_, rfl, z, Same.refl _⟩⟩
    obtain ⟨lt, rfl, hlt6, z⟩ := z
    have b6 : But p H5 H6 := But.same z b6'
    replace hlt6 := b6'.keepT (z _ _ hp5) hlt6
    have hp6 : H6 p = some (.ins a.c_Calendar dx [("day", .int r.day), ("week", .int r.week), ("months", .ref mt), ("leap_month", .int r.lm), ("leaps", .ref lt)]) := q6.trans (by kernel_rfl)
    have hmt6 := b6.keepT hp5 hmt5
    have hm6 := b6.keepA hp5 hm5
    have hl6 := b6.keepA hp5 hl5
    refine st_mk (y := .int r.first) (val_var (i := 6) rfl) (val_var (i := 0) rfl) hp6 T.cl_Calendar T.no_Calendar_first (by show 5 < 1000; decide) fun H7 q7 b7 => ?_
    have hp7 : H7 p = some (.ins a.c_Calendar dx [("day", .int r.day), ("week", .int r.week), ("months", .ref mt), ("leap_month", .int r.lm), ("leaps", .ref lt), ("first", .int r.first)]) := q7.trans (by kernel_rfl)
    have hmt7 := b7.keepT hp6 hmt6
    have hlt7 := b7.keepT hp6 hlt6
    have hm7 := b7.keepA hp6 hm6
    have hl7 := b7.keepA hp6 hl6
    refine st_mk (y := .int (r.hour.getD r.day)) ?_ (val_var (i := 0) rfl) hp7 T.cl_Calendar T.no_Calendar_hour (by show 6 < 1000; decide) fun H8 q8 b8 => ?_
    case refine_1 =>
      cases eh : r.hour with
      | none => exact v_if (ans_isN (val_var (i := 7) (v := .non) (by rfl)) rfl) (fun _ => val_var (i := 1) rfl) fun z => nomatch z
      | some h => exact v_if (ans_isN (val_var (i := 7) (v := .int h) (by rfl)) rfl) (fun z => nomatch z) fun _ => val_var (i := 7) rfl
    have hp8 : H8 p = some (.ins a.c_Calendar dx [("day", .int r.day), ("week", .int r.week), ("months", .ref mt), ("leap_month", .int r.lm), ("leaps", .ref lt), ("first", .int r.first), ("hour", .int (r.hour.getD r.day))]) := q8.trans (by kernel_rfl)
    have hmt8 := b8.keepT hp7 hmt7
    have hlt8 := b8.keepT hp7 hlt7
    refine st_mk (y := .int r.cal.round) ?_ (val_var (i := 0) rfl) hp8 T.cl_Calendar T.no_Calendar_years_round (by show 7 < 1000; decide) fun H9 q9 b9 => ?_
    case refine_1 =>
      refine v_if (b := !(r.leaps.map V.int).isEmpty) (ans_tru (val_fld (val_var (i := 0) rfl) hp8 T.cl_Calendar T.no_Calendar_leaps (v := .ref lt) (by kernel_rfl)) (Or.inr (Or.inl ⟨_, hlt8, rfl⟩))) (fun z => ?_) fun z => ?_
      · have ne : r.leaps ≠ [] := fun e => by rw [e] at z; cases z
        exact v_ixT (val_fld (val_var (i := 0) rfl) hp8 T.cl_Calendar T.no_Calendar_leaps (v := .ref lt) (by kernel_rfl)) (v_un (g := fun i => .int (-i)) val_c) hlt8 (last_at ne)
      · have ee : r.leaps = [] := by
          cases h : r.leaps with
          | nil => rfl
          | cons d l => rw [h] at z; cases z
        have e1 : r.cal.round = 1 := by show lastOr 1 r.leaps = 1; rw [ee]; rfl
        rw [e1]
        exact val_c
    have hp9 : H9 p = some (.ins a.c_Calendar dx [("day", .int r.day), ("week", .int r.week), ("months", .ref mt), ("leap_month", .int r.lm), ("leaps", .ref lt), ("first", .int r.first), ("hour", .int (r.hour.getD r.day)), ("years_round", .int r.cal.round)]) := q9.trans (by kernel_rfl)
    have hmt9 := b9.keepT hp8 hmt8
    have hlt9 := b9.keepT hp8 hlt8
    have half : Half a.c_Calendar K H9 p r.months r.leaps := ⟨dx, _, mt, lt, hp9, by kernel_rfl, by kernel_rfl, hmt9, hlt9⟩
    have sm := ok.sum1
    refine st_fld (y := .int (r.cal.bef r.cal.round)) (v_call2 (val_var (i := 0) rfl) (val_fld (val_var (i := 0) rfl) hp9 T.cl_Calendar T.no_Calendar_years_round (v := .int r.cal.round) (by kernel_rfl)) fun Q q => ⟨p, r.months, r.leaps, r.cal.round, rfl, half, ok.leaps1, ⟨by show 0 ≤ r.cal.months.sum; omega, sm.2⟩, q⟩)
      (val_var (i := 0) rfl) hp9 T.cl_Calendar T.no_Calendar_days_round (by show 8 < 1000; decide) ?_
    have b10 : But p H9 (upd H9 p (.ins a.c_Calendar dx (putF "days_round" (.int (r.cal.bef r.cal.round)) [("day", .int r.day), ("week", .int r.week), ("months", .ref mt), ("leap_month", .int r.lm), ("leaps", .ref lt), ("first", .int r.first), ("hour", .int (r.hour.getD r.day)), ("years_round", .int r.cal.round)]))) := (But.refl p H9).upd
    have fin : CalAt a.c_Calendar K _ p r.cal := ⟨dx, mt, lt, upd_same.trans (by kernel_rfl), b10.keepT hp9 hmt9, b10.keepT hp9 hlt9⟩
    exact k1 _ fin ((But.same s1 b2).trans (b3.trans (b4.trans (b5.trans (b6.trans (b7.trans (b8.trans (b9.trans b10))))))))
end
end My

namespace My
open PySem L2
/-! ### 7. what a calendar tells -/
def okF (n : Int) : Prop := 0 ≤ n ∧ n ≤ 10 ^ 40
def okM (c : Cal) (m : Int) : Prop := 1 ≤ m ∧ m ≤ c.months.length
def spMLen (a : Ad) (K : PySem.W.Frag) : Sp := fun vs H Q E => ∃ (p : Addr) (c : Cal) (y m : Int), vs = [.ref p, .int y, .int m] ∧ CalAt a.c_Calendar K H p c ∧ OkCal c ∧ (¬ okF y → Out a E H (.rng "year" y)) ∧ (okF y → ¬ okM c m → Out a E H (.rng "month" m)) ∧
  (okF y → ∀ j : Nat, m = (j : Int) + 1 → j < c.months.length → Q (.int (dim c y j)) H)
def spDate (a : Ad) (K : PySem.W.Frag) : Sp := fun vs H Q E => ∃ (p : Addr) (c : Cal) (n : Int), vs = [.ref p, .int n] ∧ CalAt a.c_Calendar K H p c ∧ OkCal c ∧ (¬ okF n → Out a E H (.rng "number" n)) ∧
  (okF n → ∀ y m d j t H', IsDate c n y m d j → H' t = some (.tup [.int y, .int m, .int d]) → Same H H' → Q (.ref t) H')
def spWd (a : Ad) (K : PySem.W.Frag) : Sp := fun vs H Q E => ∃ (p : Addr) (c : Cal) (n : Int), vs = [.ref p, .int n] ∧ CalAt a.c_Calendar K H p c ∧ OkCal c ∧ (¬ okF n → Out a E H (.rng "number" n)) ∧ (okF n → Q (.int ((c.first + n) % c.week)) H)
/-- a new calendar, or its refusal -/
theorem made {a : Ad} {K : PySem.W.Frag} {H : Hp} {m l : Addr} {r : Raw} {Q : VK} {E : XK} (hm : SqA K H m (r.months.map V.int)) (hl : SqA K H l (r.leaps.map V.int)) (yes : ini r = none → OkCal r.cal → ∀ p H', CalAt a.c_Calendar K H' p r.cal → Same H H' → Q (.ref p) H')
    (no : ∀ an, ini r = some an → ∀ H1, Same H H1 → Out a E H1 an) : ∀ x dx, H x = none → H dx = none → dx ≠ x →
    spInit a K [.ref x, .int r.day, .int r.week, .ref m, .int r.lm, .ref l, .int r.first, hourV r.hour] (upd (upd H dx (.own x)) x (.ins a.c_Calendar dx [])) (fun v H3 => v = .non ∧ Q (.ref x) H3) E := by
  intro x dx hx hd ne
  have s : Same H (upd (upd H dx (.own x)) x (.ins a.c_Calendar dx [])) := (Same.new hd).trans (Same.new (by rw [upd_ne ne.symm]; exact hx))
  exact ⟨x, dx, m, l, r, rfl, upd_same, s.sqA hm, s.sqA hl, fun e ok H' hc b => ⟨rfl, yes e ok x H' hc (Same.made hx hd b)⟩, fun an e H1 s1 => no an e H1 (s.trans s1)⟩
section
variable {P : Program} {w : World} {K : PySem.W.Frag} {mg : Str → Option Value} {base : Heap} {a : Ad}
theorem G_Calendar_month_length (T : Tx K mg a) : FnOk P w K mg base (L2.CX P w) 4 a.f_Calendar_month_length a.d_Calendar_month_length ["self", "year", "month"] (spMLen a K) := by
  refine T.F_Calendar_month_length.okX sc_Calendar_month_length (fun vs H Q E h => ?_) (fun cdv A outer s H vs Q E hr h => ?_)
  · obtain ⟨p, c, y, m, rfl, _⟩ := h
    rfl
  · obtain ⟨p, c, y, m, rfl, hc, ok, k1, k2, k3⟩ := h
    obtain ⟨dx, mt, lt, h1, h2, h3⟩ := id hc
    refine ⟨_, (pss_cons (ps_expr (pe_call (G_in_range T) (hr.mono (by decide)) rfl T.g_in_range T.F_in_range.kp T.b_in_range .nil (passes_call (takes_of rfl rfl rfl rfl) (fun _ _ _ _ h => h)) (pa_cons pe_str (pa_cons (pv 1) (pa_cons pe_int (pa_cons (pe_glob (v := .int (10 ^ 40)) rfl T.g_FAR.choose_spec ⟨_, rfl⟩) pa_nil))))))
      (pss_cons (ps_expr (pe_call (G_in_range T) (hr.mono (by decide)) rfl T.g_in_range T.F_in_range.kp T.b_in_range .nil (passes_call (takes_of rfl rfl rfl rfl) (fun _ _ _ _ h => h)) (pa_cons pe_str (pa_cons (pv 2) (pa_cons pe_int (pa_cons (pe_callB call_len_seq (by rfl) T.n_len (by decide +kernel) (pa_cons (pe_fld (pv 0) rfl) pa_nil)) pa_nil))))))
      (pss_one (ps_ret (pe_call (G_days_in_month T) (hr.mono (by decide)) rfl T.g_days_in_month T.F_days_in_month.kp T.b_days_in_month .nil pass0 (pa_cons (pv 0) (pa_cons (pv 1) (pa_cons (pv 2) pa_nil)))))))), ?_⟩
    have eml : ((c.months.map V.int).length : Int) = (c.months.length : Int) := by rw [List.length_map]
    refine st_do ⟨_, rfl, "year", y, 0, 10 ^ 40, rfl, fun z => ?_, fun z => k1 z⟩
    refine st_do ⟨_, rfl, _, rfl, p, _, dx, _, _, rfl, h1, T.cl_Calendar, T.no_Calendar_months, cf_months c mt lt, mt, _, rfl, Or.inr h2, "month", m, 1, c.months.length, by rw [eml]; rfl, fun z2 => ?_, fun z2 => k2 z z2⟩
    obtain ⟨j, hj⟩ : ∃ j : Nat, m = (j : Int) + 1 := ⟨(m - 1).toNat, by omega⟩
    subst hj
    have jl : j < c.months.length := by omega
    exact st_ret (v_call3 (val_var (i := 0) rfl) (val_var (i := 1) rfl) (val_var (i := 2) rfl) fun Q q => ⟨p, c, y, j, rfl, hc, ok, jl, q⟩) (k3 z j rfl jl)
theorem G_Calendar_weekday_of (T : Tx K mg a) : FnOk P w K mg base (L2.CX P w) 4 a.f_Calendar_weekday_of a.d_Calendar_weekday_of ["self", "number"] (spWd a K) := by
  refine T.F_Calendar_weekday_of.okX sc_Calendar_weekday_of (fun vs H Q E h => ?_) (fun cdv A outer s H vs Q E hr h => ?_)
  · obtain ⟨p, c, n, rfl, _⟩ := h
    rfl
  · obtain ⟨p, c, n, rfl, ⟨dx, mt, lt, h1, h2, h3⟩, ok, k1, k2⟩ := h
    refine ⟨_, (pss_cons (ps_expr (pe_call (G_in_range T) (hr.mono (by decide)) rfl T.g_in_range T.F_in_range.kp T.b_in_range .nil (passes_call (takes_of rfl rfl rfl rfl) (fun _ _ _ _ h => h)) (pa_cons pe_str (pa_cons (pv 1) (pa_cons pe_int (pa_cons (pe_glob (v := .int (10 ^ 40)) rfl T.g_FAR.choose_spec ⟨_, rfl⟩) pa_nil))))))
      (pss_one (ps_ret (pe_op op_mod (pe_op op_add (pe_fld (pv 0) rfl) (pv 1)) (pe_fld (pv 0) rfl))))), ?_⟩
    refine st_do ⟨_, rfl, "number", n, 0, 10 ^ 40, rfl, fun z => ?_, fun z => k1 z⟩
    exact st_ret (v_rI (g := fun i j => .int (i % j)) (v_rI0 (g := fun i j => .int (i + j)) (val_fld (val_var (i := 0) rfl) h1 T.cl_Calendar T.no_Calendar_first (cf_first c mt lt)) (val_var (i := 1) rfl)) (val_fld (val_var (i := 0) rfl) h1 T.cl_Calendar T.no_Calendar_week (cf_week c mt lt)) (by have := ok.week; omega)) (k2 z)
theorem G_Calendar_date_of (T : Tx K mg a) : FnOk P w K mg base (L2.CX P w) 4 a.f_Calendar_date_of a.d_Calendar_date_of ["self", "number"] (spDate a K) := by
  refine T.F_Calendar_date_of.okX sc_Calendar_date_of (fun vs H Q E h => ?_) (fun cdv A outer s H vs Q E hr h => ?_)
  · obtain ⟨p, c, n, rfl, _⟩ := h
    rfl
  · obtain ⟨p, c, n, rfl, hc, ok, k1, k2⟩ := h
    refine ⟨_, (pss_cons (ps_expr (pe_call (G_in_range T) (hr.mono (by decide)) rfl T.g_in_range T.F_in_range.kp T.b_in_range .nil (passes_call (takes_of rfl rfl rfl rfl) (fun _ _ _ _ h => h)) (pa_cons pe_str (pa_cons (pv 1) (pa_cons pe_int (pa_cons (pe_glob (v := .int (10 ^ 40)) rfl T.g_FAR.choose_spec ⟨_, rfl⟩) pa_nil))))))
      (pss_cons (ps_set (i := 2) sc_Calendar_date_of.nd rfl (Or.inl rfl) (pe_call (G_year_of_day T) (hr.mono (by decide)) rfl T.g_year_of_day T.F_year_of_day.kp T.b_year_of_day .nil pass0 (pa_cons (pv 0) (pa_cons (pv 1) pa_nil))))
      (pss_cons (ps_set (i := 3) sc_Calendar_date_of.nd rfl (Or.inl rfl) (pe_op op_sub (pv 1) (pe_call (G_days_ahead T) (hr.mono (by decide)) rfl T.g_days_ahead T.F_days_ahead.kp T.b_days_ahead .nil pass0 (pa_cons (pv 0) (pa_cons (pv 2) pa_nil)))))
      (pss_cons (ps_set (i := 4) sc_Calendar_date_of.nd rfl (Or.inl rfl) pe_int)
      (pss_cons (ps_while (passes_of rfl) (pt_cmpR op_ge (pv 3) (pe_call (G_days_in_month T) (hr.mono (by decide)) rfl T.g_days_in_month T.F_days_in_month.kp T.b_days_in_month .nil pass0 (pa_cons (pv 0) (pa_cons (pv 2) (pa_cons (pv 4) pa_nil)))) (nomark _)) (pss_cons (ps_set (i := 3) sc_Calendar_date_of.nd rfl (Or.inl rfl) (pe_op op_sub (pv 3) (pe_call (G_days_in_month T) (hr.mono (by decide)) rfl T.g_days_in_month T.F_days_in_month.kp T.b_days_in_month .nil pass0 (pa_cons (pv 0) (pa_cons (pv 2) (pa_cons (pv 4) pa_nil))))))
      (pss_one (ps_set (i := 4) sc_Calendar_date_of.nd rfl (Or.inl rfl) (pe_op op_add (pv 4) pe_int)))))
      (pss_one (ps_ret (pe_tup (pa_cons (pv 2) (pa_cons (pv 4) (pa_cons (pe_op op_add (pv 3) pe_int) pa_nil))))))))))), ?_⟩
    refine st_do ⟨_, rfl, "number", n, 0, 10 ^ 40, rfl, fun z => ?_, fun z => k1 z⟩
    refine ⟨_, rfl, _, rfl, p, c, n, rfl, hc, ok, z.1, fun y H1 y0 lo hi s1 => ?_⟩
    have hc1 := hc.same s1
    have iy := ok.inYear hi
    refine st_let (v := .int (n - c.bef y)) (v_rI0 (g := fun i j => .int (i - j)) (val_var (i := 1) rfl) (v_call2 (val_var (i := 0) rfl) (val_var (i := 2) rfl) fun Q q => spAhead.cal hc1 ok q)) ?_
    refine st_let (v := .int 1) val_c (st_seq ?_)
    refine st_whileb (fun σ H' => ∃ j : Nat, σ = [some (.ref p), some (.int n), some (.int y), some (.int (n - c.bef y - pre c y j)), some (.int ((j : Int) + 1))] ∧ H' = H1 ∧ j < c.months.length ∧ pre c y j ≤ n - c.bef y)
      (fun σ _ => match σ with | [_, _, _, _, some (.int m)] => (c.months.length + 1 - m).toNat | _ => 0) ⟨0, ?_, rfl, ok.months.1.1, by rw [pre_zero]; omega⟩ ?_
    · rw [pre_zero, Int.sub_zero]
      rfl
    · rintro σ H' ⟨j, rfl, rfl, jl, pl⟩
      have vd : ∀ (σ : St), σ = [some (.ref p), some (.int n), some (.int y), some (.int (n - c.bef y - pre c y j)), some (.int ((j : Int) + 1))] → ∀ (E : XK) (K' : PySem.W.Frag), K' = K → Val (tCall (spDim a.c_Calendar K') [] E (tCons (tVar 0) (tCons (tVar 2) (tCons (tVar 4) tNil)))) σ H' (.int (dim c y j)) := by
        rintro σ rfl E K' rfl
        exact v_call3 (val_var (i := 0) rfl) (val_var (i := 2) rfl) (val_var (i := 4) rfl) fun Q q => ⟨p, c, y, j, rfl, hc1, ok, jl, q⟩
      have ps : pre c y (j + 1) = pre c y j + dim c y j := rfl
      refine ⟨_, a_cmp (f := fun i j => decide (j ≤ i)) (val_var (i := 3) rfl) (vd _ rfl _ _ rfl), fun b => ?_, fun b => ?_⟩
      · have b1 : dim c y j ≤ n - c.bef y - pre c y j := of_decide_eq_true b
        have jl2 : j + 1 < c.months.length := by
          rcases Nat.lt_or_eq_of_le (Nat.succ_le_of_lt jl) with h | h
          · exact h
          · exfalso
            have h' : c.months.length = j + 1 := h.symm
            rw [h'] at iy
            omega
        refine st_let (v := .int (n - c.bef y - pre c y j - dim c y j)) (v_rI0 (g := fun i j => .int (i - j)) (val_var (i := 3) rfl) (vd _ rfl _ _ rfl)) ?_
        refine st_set (v := .int ((j : Int) + 1 + 1)) (v_rI0 (g := fun i j => .int (i + j)) (val_var (i := 4) rfl) val_c) ⟨⟨j + 1, ?_, rfl, jl2, by omega⟩, ?_⟩
        · rw [ps]
          have e1 : n - c.bef y - (pre c y j + dim c y j) = n - c.bef y - pre c y j - dim c y j := by omega
          have e2 : (((j + 1 : Nat) : Int) + 1) = (j : Int) + 1 + 1 := by omega
          rw [e1, e2]
          rfl
        · show (c.months.length + 1 - ((j : Int) + 1 + 1)).toNat < (c.months.length + 1 - ((j : Int) + 1)).toNat
          omega
      · have b1 : ¬ dim c y j ≤ n - c.bef y - pre c y j := of_decide_eq_false b
        refine ⟨_, rfl, _, rfl, _, rfl, _, _, rfl, rfl, by show 3 ≤ sizeLine; decide, fun t ht => ?_⟩
        exact k2 z y _ _ j t _ (IsDate.of_month ok y0 lo hi jl pl (by omega)) upd_same (s1.trans (Same.new ht))
end
end My

namespace My
open PySem L2
/-! ### 8. choices -/
abbrev Part := Int × Int × Int
def okPart (q : Part) : Prop := 0 ≤ q.1 ∧ q.1 ≤ q.2.1 ∧ q.2.1 ≤ 9999 ∧ 1 ≤ q.2.2 ∧ q.2.2 ≤ 9999
instance (q : Part) : Decidable (okPart q) := by unfold okPart; infer_instance
def inPart (q : Part) (x : Int) : Bool := decide (q.1 ≤ x ∧ x ≤ q.2.1 ∧ (x - q.1) % q.2.2 = 0)
def chosen (ps : List Part) (x : Int) : Bool := ps.isEmpty || ps.any fun q => inPart q x
def part3 (q : Part) : List V := [.int q.1, .int q.2.1, .int q.2.2]
/-- the items are tuples of these parts -/
def Prs (H : Hp) (as : List V) (ps : List Part) : Prop := as.length = ps.length ∧ ∀ (i : Nat) (q : Part), ps[i]? = some q → ∃ t : Addr, as[i]? = some (V.ref t) ∧ H t = some (.tup (part3 q))
theorem Prs.same {H H' : Hp} {as : List V} {ps : List Part} (h : Prs H as ps) (s : Same H H') : Prs H' as ps := ⟨h.1, fun i q e => let ⟨t, a, b⟩ := h.2 i q e; ⟨t, a, s _ _ b⟩⟩
theorem Prs.at {H : Hp} {as : List V} {ps : List Part} (h : Prs H as ps) {i : Nat} {x : V} (hx : as[i]? = some x) : ∃ (q : Part) (t : Addr), ps[i]? = some q ∧ x = .ref t ∧ H t = some (.tup (part3 q)) := by
  have hi : i < ps.length := by rw [← h.1]; exact (List.getElem?_eq_some_iff.mp hx).1
  obtain ⟨t, a, b⟩ := h.2 i _ (List.getElem?_eq_getElem hi)
  rw [hx] at a
  exact ⟨_, t, List.getElem?_eq_getElem hi, Option.some.inj a, b⟩
def ChAt (C : Addr) (K : PySem.W.Frag) (H : Hp) (p : Addr) (ps : List Part) : Prop := ∃ dx pt txt as, H p = some (.ins C dx [("parts", .ref pt), ("text", .str txt)]) ∧ SqT K H pt as ∧ Prs H as ps ∧ txt.length ≤ 70000 ∧ (∀ q ∈ ps, okPart q) ∧ ps.length ≤ 1500
theorem ChAt.same {C : Addr} {K : PySem.W.Frag} {H H' : Hp} {p : Addr} {ps : List Part} (h : ChAt C K H p ps) (s : Same H H') : ChAt C K H' p ps := by
  obtain ⟨dx, pt, txt, as, h1, h2, h3, h4⟩ := h
  exact ⟨dx, pt, txt, as, s _ _ h1, s.sqT h2, h3.same s, h4⟩
def OutM (a : Ad) (E : XK) (H : Hp) (s : Str) (n : Int) : Prop := ∀ dd H2, H2 dd = some (.xd [("many", .int n), ("what", .str s)]) → Same H H2 → E (.ref a.c_TooMany) (some dd) H2
def OutC (a : Ad) (E : XK) (H : Hp) (i : Int) : Prop := ∀ dd H2, H2 dd = some (.xd [("at", .int i)]) → Same H H2 → E (.ref a.c_BadChoice) (some dd) H2
def OutD (a : Ad) (E : XK) (H : Hp) (i : Int) : Prop := ∀ dd H2, H2 dd = some (.xd [("at", .int i)]) → Same H H2 → E (.ref a.c_BadDays) (some dd) H2
def spRight : Sp := fun vs H Q _ => ∃ (t : Addr) (q : Part), vs = [.ref t] ∧ H t = some (.tup (part3 q)) ∧ Q (.bl (decide (okPart q))) H
def spText : Sp := fun vs H Q _ => ∃ (t : Addr) (q : Part), vs = [.ref t] ∧ H t = some (.tup (part3 q)) ∧ okPart q ∧ ∀ x : Str, x.length ≤ 40 → Q (.str x) H
theorem len4 {i : Int} (h0 : 0 ≤ i) (h1 : i ≤ 9999) : (toString i : Str).length ≤ 4 := PyProof.Rows.toString_length_le h0 (by decide) (by omega)
theorem log_lt {i : Int} (h0 : 0 ≤ i) (h1 : i ≤ 10 ^ 40) : i.natAbs.log2 < 1920 := by
  have h : i.natAbs < 2 ^ 1920 := Nat.lt_of_le_of_lt (show i.natAbs ≤ 10 ^ 40 by omega) (by decide)
  by_cases z : i.natAbs = 0
  · rw [z]; decide
  · exact (Nat.log2_lt z).mpr h
theorem join_len {sep : Str} {B : Nat} : ∀ {ys : List Str}, (∀ y ∈ ys, y.length ≤ B) → (Txt.join sep ys).length ≤ ys.length * (B + sep.length) := by
  intro ys h
  show (Builtin.Str.glued sep ys).length ≤ _
  rw [StrLaws.glued_eq_join]
  induction ys with
  | nil => show (Str.empty).length ≤ _; simp [Str.empty, Str.length]
  | cons y l ih =>
    have i := ih fun z hz => h z (List.mem_cons_of_mem _ hz)
    have hy := h y (List.mem_cons_self ..)
    rw [List.length_cons, Nat.add_mul, Nat.one_mul]
    cases l with
    | nil => show y.length ≤ _; omega
    | cons z r =>
      show (y ++ sep ++ Str.join sep (z :: r)).length ≤ _
      rw [strLen_append, strLen_append]
      omega
theorem join_ok {sep : Str} {B n : Nat} {ys : List Str} (h : ∀ y ∈ ys, y.length ≤ B) (hn : ys.length ≤ n) (hs : sep.length ≤ 4) (hz : n * (B + 4) ≤ 16777216) : (ys.map (·.length)).sum + ys.length * sep.length ≤ 16777216 := by
  have aux : ∀ {ys : List Str}, (∀ y ∈ ys, y.length ≤ B) → (ys.map (·.length)).sum ≤ ys.length * B := by
    intro ys h
    induction ys with
    | nil => simp
    | cons y l ih =>
      have i := ih fun z hz => h z (List.mem_cons_of_mem _ hz)
      have hy := h y (List.mem_cons_self ..)
      rw [List.map_cons, List.sum_cons, List.length_cons, Nat.add_mul, Nat.one_mul]
      omega
  have a := aux h
  have b : ys.length * (B + 4) ≤ n * (B + 4) := Nat.mul_le_mul_right _ hn
  have c : ys.length * sep.length ≤ ys.length * 4 := Nat.mul_le_mul_left _ hs
  rw [Nat.mul_add] at b
  omega
section
variable {P : Program} {w : World} {K : PySem.W.Frag} {mg : Str → Option Value} {base : Heap} {a : Ad}
theorem G_TooMany_init (T : Tx K mg a) : FnOk P w K mg base CX0 1 a.f_TooMany_init a.d_TooMany_init ["self", "what", "many"] (spX2 a.c_TooMany "what" "many") := by
  refine T.F_TooMany_init.ok sc_TooMany_init (fun vs H Q E h => ?_) (fun cdv A outer s H vs Q E hr h => ?_)
  · obtain ⟨x, v, w, rfl, _⟩ := h
    rfl
  · obtain ⟨x, v, w, rfl, hx, k⟩ := h
    refine ⟨_, (pss_one (ps_asg (pe_tup (pa_cons (pv 1) (pa_cons (pv 2) pa_nil))) (pg_tup rfl (pgs_cons (pg_ost (pv 0)) (pgs_cons (pg_ost (pv 0)) pgs_nil))))), ?_⟩
    exact x2_read T.ox_TooMany T.no_TooMany_what T.no_TooMany_many hx k
theorem G_BadChoice_init (T : Tx K mg a) : FnOk P w K mg base CX0 1 a.f_BadChoice_init a.d_BadChoice_init ["self", "at"] (spX1 a.c_BadChoice "at") := by
  refine T.F_BadChoice_init.ok sc_BadChoice_init (fun vs H Q E h => ?_) (fun cdv A outer s H vs Q E hr h => ?_)
  · obtain ⟨x, v, rfl, _⟩ := h
    rfl
  · obtain ⟨x, v, rfl, hx, k⟩ := h
    refine ⟨_, (pss_one (ps_ost (pv 0) (pv 1))), ?_⟩
    refine ⟨_, rfl, _, rfl, x, a.c_BadChoice, rfl, T.ox_BadChoice, T.no_BadChoice_at, Or.inl ⟨hx, fun d hd hdx => ?_⟩⟩
    refine k d _ hd hdx upd_same ((upd_ne hdx).trans upd_same) fun b o e hb => ?_
    rw [upd_ne hb, upd_ne (ne_of_none e hd)]
    exact e
theorem G_BadDays_init (T : Tx K mg a) : FnOk P w K mg base CX0 1 a.f_BadDays_init a.d_BadDays_init ["self", "at"] (spX1 a.c_BadDays "at") := by
  refine T.F_BadDays_init.ok sc_BadDays_init (fun vs H Q E h => ?_) (fun cdv A outer s H vs Q E hr h => ?_)
  · obtain ⟨x, v, rfl, _⟩ := h
    rfl
  · obtain ⟨x, v, rfl, hx, k⟩ := h
    refine ⟨_, (pss_one (ps_ost (pv 0) (pv 1))), ?_⟩
    refine ⟨_, rfl, _, rfl, x, a.c_BadDays, rfl, T.ox_BadDays, T.no_BadDays_at, Or.inl ⟨hx, fun d hd hdx => ?_⟩⟩
    refine k d _ hd hdx upd_same ((upd_ne hdx).trans upd_same) fun b o e hb => ?_
    rw [upd_ne hb, upd_ne (ne_of_none e hd)]
    exact e
theorem G_right_part (T : Tx K mg a) : FnOk P w K mg base CX0 1 a.f_right_part a.d_right_part ["part"] spRight := by
  refine T.F_right_part.ok sc_right_part (fun vs H Q E h => ?_) (fun cdv A outer s H vs Q E hr h => ?_)
  · obtain ⟨t, q, rfl, _⟩ := h
    rfl
  · obtain ⟨t, q, rfl, ht, k⟩ := h
    refine ⟨_, (pss_cons (ps_asg (pv 0) (pg_tup rfl (pgs_cons (pg_name (i := 1) sc_right_part.nd rfl (Or.inl rfl)) (pgs_cons (pg_name (i := 2) sc_right_part.nd rfl (Or.inl rfl)) (pgs_cons (pg_name (i := 3) sc_right_part.nd rfl (Or.inl rfl)) pgs_nil)))))
      (pss_one (ps_ret (pe_and (pe_chain3 op_le op_le op_le pe_int (pv 1) (pv 2) (pe_glob (v := .int 9999) rfl T.g_TOP.choose_spec ⟨_, rfl⟩)) (pe_one (pe_chain op_le op_le pe_int (pv 3) (pe_glob (v := .int 9999) rfl T.g_TOP.choose_spec ⟨_, rfl⟩))))))), ?_⟩
    refine st_seq ⟨_, rfl, t, _, rfl, SqT.of ht, rfl, _, _, rfl, _, _, rfl, _, _, rfl, rfl, ?_⟩
    dsimp only
    refine v_chain3 (f := fun i j => decide (i ≤ j)) (g := fun i j => decide (i ≤ j)) (h := fun i j => decide (i ≤ j)) val_c (val_var (i := 1) rfl) (val_var (i := 2) rfl) val_c _ ⟨_, rfl, ?_⟩
    by_cases c : 0 ≤ q.1 ∧ q.1 ≤ q.2.1 ∧ q.2.1 ≤ 9999
    · rw [decide_eq_true c.1, decide_eq_true c.2.1, decide_eq_true c.2.2]
      refine iteT ?_
      refine v_chain (f := fun i j => decide (i ≤ j)) (g := fun i j => decide (i ≤ j)) val_c (val_var (i := 3) rfl) val_c _ ?_
      have e : (decide (1 ≤ q.2.2) && decide (q.2.2 ≤ 9999)) = decide (okPart q) := by
        rw [Bool.eq_iff_iff]
        simp [okPart, c]
      rw [e]
      exact k
    · have e : (decide (0 ≤ q.1) && decide (q.1 ≤ q.2.1) && decide (q.2.1 ≤ 9999)) = false := by
        rw [Bool.eq_false_iff]
        intro z
        simp at z
        exact c ⟨z.1.1, z.1.2, z.2⟩
      rw [e]
      refine iteF ?_
      have e2 : decide (okPart q) = false := decide_eq_false fun z => c ⟨z.1, z.2.1, z.2.2.1⟩
      rw [e2] at k
      exact k
theorem G_part_text (T : Tx K mg a) : FnOk P w K mg base CX0 1 a.f_part_text a.d_part_text ["part"] spText := by
  refine T.F_part_text.ok sc_part_text (fun vs H Q E h => ?_) (fun cdv A outer s H vs Q E hr h => ?_)
  · obtain ⟨t, q, rfl, _⟩ := h
    rfl
  · obtain ⟨t, q, rfl, ht, ok, k⟩ := h
    obtain ⟨o1, o2, o3, o4, o5⟩ := ok
    refine ⟨_, (pss_cons (ps_asg (pv 0) (pg_tup rfl (pgs_cons (pg_name (i := 1) sc_part_text.nd rfl (Or.inl rfl)) (pgs_cons (pg_name (i := 2) sc_part_text.nd rfl (Or.inl rfl)) (pgs_cons (pg_name (i := 3) sc_part_text.nd rfl (Or.inl rfl)) pgs_nil)))))
      (pss_cons (ps_if (pt_cmpR op_eq (pv 1) (pv 2) (nomark _)) (pss_one (ps_ret (pe_callTy call_str_int (by rfl) T.n_str (by decide +kernel) (pa_cons (pv 1) pa_nil)))) pss_nil)
      (pss_cons (ps_if (pt_cmpR op_eq (pv 3) pe_int (nomark _)) (pss_one (ps_ret (pe_joined (.cons (pe_fmt (pv 1)) (.cons pe_str (.cons (pe_fmt (pv 2)) .nil)))))) pss_nil)
      (pss_one (ps_ret (pe_joined (.cons (pe_fmt (pv 1)) (.cons pe_str (.cons (pe_fmt (pv 2)) (.cons pe_str (.cons (pe_fmt (pv 3)) .nil))))))))))), ?_⟩
    refine st_seq ⟨_, rfl, t, _, rfl, SqT.of ht, rfl, _, _, rfl, _, _, rfl, _, _, rfl, rfl, ?_⟩
    dsimp only
    have l1 := len4 o1 (by omega)
    have l2 := len4 (i := q.2.1) (by omega) o3
    have l3 := len4 (i := q.2.2) (by omega) o5
    have g1 : q.1.natAbs.log2 < 1920 := log_lt o1 (Int.le_trans (by omega : q.1 ≤ 9999) (by decide))
    have g2 : q.2.1.natAbs.log2 < 1920 := log_lt (by omega) (Int.le_trans o3 (by decide))
    have g3 : q.2.2.natAbs.log2 < 1920 := log_lt (by omega) (Int.le_trans o5 (by decide))
    have e0 : (Str.empty).length = 0 := rfl
    have e1 : (Str.ofString "-").length = 1 := rfl
    have e2 : (Str.ofString "/").length = 1 := rfl
    refine st_guard (q := q.1 = q.2.1) (a_eq (val_var (i := 1) rfl) (val_var (i := 2) rfl)) (by simp) (fun z => ?_) fun z => ?_
    · exact ⟨_, rfl, _, rfl, g1, k _ (by omega)⟩
    refine st_guard (q := q.2.2 = 1) (a_eq (val_var (i := 3) rfl) val_c) (by simp) (fun z => ?_) fun z => ?_
    · refine ⟨_, rfl, Or.inr ⟨_, rfl, g1, _, rfl, ?_, _, rfl, ?_, _, rfl, Or.inr ⟨_, rfl, g2, _, rfl, ?_, k _ ?_⟩⟩⟩ <;> simp only [strLen_append] <;> exact Nat.le_trans (by show _ ≤ 20; simp only [e0, e1]; omega) (by decide)
    · refine ⟨_, rfl, Or.inr ⟨_, rfl, g1, _, rfl, ?_, _, rfl, ?_, _, rfl, Or.inr ⟨_, rfl, g2, _, rfl, ?_, _, rfl, ?_, _, rfl, Or.inr ⟨_, rfl, g3, _, rfl, ?_, k _ ?_⟩⟩⟩⟩ <;> simp only [strLen_append] <;> exact Nat.le_trans (by show _ ≤ 20; simp only [e0, e1, e2]; omega) (by decide)
end
end My

namespace L2
open PySem PySem.Spec PyProof.Rows
section
variable {K : PySem.W.Frag} {a : Addr} {xs : List V} {g : TG} {tb : TS} {D : Ends} {σ : St} {H : Hp} {ta : TA}
/-- for k, x in enumerate(tuple) -/
theorem st_forET0 (Pv : Nat → St → Hp → Prop) (h0 : Pv 0 σ H) (hk : ∀ i σ H, i ≤ xs.length → Pv i σ H → SqT K H a xs)
    (hs : ∀ (i : Nat) x T σ H, xs[i]? = some x → Pv i σ H → H T = none → g (.ref T) σ (upd H T (.tup [.int (i : Nat), x])) fun σ2 H2 => tb { D with nx := Pv (i + 1), ct := Pv (i + 1), bk := D.nx } σ2 H2) (hd : ∀ σ H, Pv xs.length σ H → D.nx σ H) : tFor (fun _ H R => R (Itte K a) H) g tb D σ H := by
  refine ⟨fun i m σ H => m = xs.length - i ∧ i ≤ xs.length ∧ Pv i σ H, ⟨_, rfl, Nat.zero_le _, h0⟩, ?_⟩
  rintro i m σ H ⟨rfl, hi, p⟩
  have sq := hk i σ H hi p
  rcases Nat.lt_or_eq_of_le hi with lt | rfl
  · obtain ⟨x, hx⟩ : ∃ x, xs[i]? = some x := ⟨_, List.getElem?_eq_getElem lt⟩
    refine Or.inr ⟨⟨xs, x, sq, hx⟩, Pv (i + 1), fun σ' H' p' => ⟨_, by omega, rfl, lt, p'⟩, ?_⟩
    rintro y H' ⟨T, z, rfl, hT, rfl, hz⟩
    have e := hz xs sq
    rw [hx] at e
    cases e
    exact hs i x T σ H hx p hT
  · exact Or.inl ⟨⟨xs, sq, Nat.le_refl _⟩, hd σ H p⟩
theorem st_forET (hl : ∀ R : List V → Hp → Prop, R [.ref a] H → ta σ H R) (hp : SqT K H a xs) (Pv : Nat → St → Hp → Prop) (h0 : Pv 0 σ H) (hk : ∀ i σ' H', Pv i σ' H' → Same H H')
    (hs : ∀ (i : Nat) x T σ H, xs[i]? = some x → Pv i σ H → H T = none → g (.ref T) σ (upd H T (.tup [.int (i : Nat), x])) fun σ2 H2 => tb { D with nx := Pv (i + 1), ct := Pv (i + 1), bk := D.nx } σ2 H2) (hd : ∀ σ H, Pv xs.length σ H → D.nx σ H) : tFor (iEnumT K ta) g tb D σ H :=
  hl _ ⟨a, xs, rfl, hp, st_forET0 Pv h0 (fun i σ' H' _ z => (hk i σ' H' z).sqT hp) hs hd⟩
theorem st_forEA (hl : ∀ R : List V → Hp → Prop, R [.ref a] H → ta σ H R) (hp : SqA K H a xs) (Pv : Nat → St → Hp → Prop) (h0 : Pv 0 σ H) (hk : ∀ i σ' H', Pv i σ' H' → Same H H')
    (hs : ∀ (i : Nat) x T σ H, xs[i]? = some x → Pv i σ H → H T = none → g (.ref T) σ (upd H T (.tup [.int (i : Nat), x])) fun σ2 H2 => tb { D with nx := Pv (i + 1), ct := Pv (i + 1), bk := D.nx } σ2 H2) (hd : ∀ σ H, Pv xs.length σ H → D.nx σ H) : tFor (fun σ H R => iEnum K ta σ H R ∨ iEnumT K ta σ H R) g tb D σ H := by
  rcases hp with hp | hp
  · exact Or.inl (hl _ ⟨a, xs, rfl, hp, st_forE Pv h0 (fun i σ' H' _ z => (hk i σ' H' z).seq hp) hs hd⟩)
  · exact Or.inr (hl _ ⟨a, xs, rfl, hp, st_forET0 Pv h0 (fun i σ' H' _ z => (hk i σ' H' z).sqT hp) hs hd⟩)
end
section
variable {K : PySem.W.Frag} {a : Addr} {xs : List V} {tt : TT} {te : TE} {vs : List Nat} {σ : St} {H1 : Hp} {Q : VK} {i0 : Nat}
theorem comp_A {tl : TE} (keep : V → Bool) (f : V → V) (hl : ∀ R : V → Hp → Prop, R (.ref a) H1 → tl σ H1 R) (hp : SqA K H1 a xs) (hz : xs.length ≤ 1000000) (hw : ∀ x, wipe ((wipe σ vs).set i0 (some x)) vs = wipe σ vs)
    (ht : ∀ (i : Nat) x H, xs[i]? = some x → Same H1 H → Ans tt ((wipe σ vs).set i0 (some x)) H (keep x)) (he : ∀ (i : Nat) x H, xs[i]? = some x → keep x = true → Same H1 H → Val te ((wipe σ vs).set i0 (some x)) H (f x))
    (hd : ∀ D H', H1 D = none → H' D = some (.lst ((xs.filter keep).map f)) → Same H1 H' → Q (.ref D) H') : tLc (fun σ H R => iList K tl σ H R ∨ iTup K tl σ H R) (gName i0) tt te vs σ H1 Q := by
  rcases hp with hp | hp
  · exact Or.inl (hl _ ⟨a, rfl, ⟨_, hp⟩, comp_list keep f hp hz hw ht he hd⟩)
  · exact Or.inr (hl _ ⟨a, rfl, ⟨_, hp⟩, comp_tup keep f hp hz hw ht he hd⟩)
/-- texts of a bounded length -/
theorem comp_strs {tl : TE} (B : Nat) (hl : ∀ R : V → Hp → Prop, R (.ref a) H1 → tl σ H1 R) (hp : SqT K H1 a xs) (hz : xs.length ≤ 1000000) (hw : ∀ x, wipe ((wipe σ vs).set i0 (some x)) vs = wipe σ vs)
    (he : ∀ (i : Nat) x H (Q' : VK), xs[i]? = some x → Same H1 H → (∀ (y : Str) H2, y.length ≤ B → Same H H2 → Q' (.str y) H2) → te ((wipe σ vs).set i0 (some x)) H Q')
    (hd : ∀ D H' (ys : List Str), H1 D = none → H' D = some (.lst (ys.map V.str)) → ys.length = xs.length → (∀ y ∈ ys, y.length ≤ B) → Same H1 H' → Q (.ref D) H') : tLc (iTup K tl) (gName i0) tYes te vs σ H1 Q := by
  refine hl _ ⟨a, rfl, ⟨_, hp⟩, fun D hD => ?_⟩
  refine lc_tup (xs := xs) (fun i H' => (∃ ys : List Str, H' D = some (.lst (ys.map V.str)) ∧ ys.length = i ∧ ∀ y ∈ ys, y.length ≤ B) ∧ Same H1 H') ⟨⟨[], upd_same, rfl, fun y hy => nomatch hy⟩, Same.new hD⟩ (fun i H' _ p => p.2.sqT hp) ?_ ?_
  · rintro i x H' hx ⟨⟨ys, h1, h2, h3⟩, s1⟩
    refine ⟨hw x, ?_⟩
    have hi := (List.getElem?_eq_some_iff.mp hx).1
    show te _ H' _
    refine he i x H' _ hx s1 fun y H2 hy s2 => ⟨_, s2 _ _ h1, by rw [List.length_map, h2]; exact Nat.lt_of_le_of_lt (Nat.le_trans (Nat.le_of_lt hi) hz) (by decide), ⟨ys ++ [y], by rw [upd_same, List.map_append]; rfl, by simp [h2], ?_⟩, ?_⟩
    · intro z hz
      rcases List.mem_append.mp hz with hz | hz
      · exact h3 z hz
      · rw [List.mem_singleton.mp hz]; exact hy
    · intro b o e
      rw [upd_ne (ne_of_none e hD)]
      exact s2 _ _ (s1 _ _ e)
  · rintro H' ⟨⟨ys, h1, h2, h3⟩, s1⟩
    exact hd D H' ys hD h1 h2 h3 s1
end
end L2
namespace My
open PySem L2
def spFirst : Sp := fun vs H Q _ => ∃ low step least : Int, vs = [.int low, .int step, .int least] ∧ (0 ≤ low ∧ low ≤ 9999) ∧ (1 ≤ step ∧ step ≤ 9999) ∧ (0 ≤ least ∧ least ≤ 9999) ∧ Q (.int (if low ≥ least then low else low + (least - low + step - 1) / step * step)) H
def spChInit (a : Ad) (K : PySem.W.Frag) : Sp := fun vs H Q E => ∃ (p dx m : Addr) (as : List V) (ps : List Part), vs = [.ref p, .ref m] ∧ H p = some (.ins a.c_Choice dx []) ∧ SqA K H m as ∧ Prs H as ps ∧
  (1500 < ps.length → OutM a E H "parts" ps.length) ∧ (ps.length ≤ 1500 → ∀ i q, ps[i]? = some q → ¬ okPart q → (∀ j q, j < i → ps[j]? = some q → okPart q) → ∀ H1, Same H H1 → OutC a E H1 (i : Nat)) ∧
  (ps.length ≤ 1500 → (∀ q ∈ ps, okPart q) → ∀ H', ChAt a.c_Choice K H' p ps → But p H H' → Q .non H')
section
variable {P : Program} {w : World} {K : PySem.W.Frag} {mg : Str → Option Value} {base : Heap} {a : Ad}
theorem G_first_member (T : Tx K mg a) : FnOk P w K mg base CX0 1 a.f_first_member a.d_first_member ["low", "step", "least"] spFirst := by
  refine T.F_first_member.ok sc_first_member (fun vs H Q E h => ?_) (fun cdv A outer s H vs Q E hr h => ?_)
  · obtain ⟨low, step, least, rfl, _⟩ := h
    rfl
  · obtain ⟨low, step, least, rfl, h1, h2, h3, k⟩ := h
    refine ⟨_, (pss_cons (ps_if (pt_cmpR op_ge (pv 0) (pv 2) (nomark _)) (pss_one (ps_ret (pv 0))) pss_nil)
      (pss_one (ps_ret (pe_op op_add (pv 0) (pe_op op_mul (pe_op op_fdivW (pe_op op_sub (pe_op op_add (pe_op op_sub (pv 2) (pv 0)) (pv 1)) pe_int) (pv 1)) (pv 1)))))), ?_⟩
    refine st_guard (q := low ≥ least) (a_cmp (f := fun i j => decide (j ≤ i)) (val_var (i := 0) rfl) (val_var (i := 2) rfl)) (by simp) (fun z => ?_) fun z => ?_
    · rw [if_pos z] at k
      exact ⟨_, rfl, k⟩
    · rw [if_neg z] at k
      have b : 0 ≤ (least - low + step - 1) / step ∧ (least - low + step - 1) / step ≤ 20000 := by
        have d0 : 0 ≤ (least - low + step - 1) / step := Int.ediv_nonneg (by omega) (by omega)
        have d1 : (least - low + step - 1) / step ≤ least - low + step - 1 := Int.ediv_le_self _ (by omega)
        omega
      exact v_rI0 (g := fun i j => .int (i + j)) (val_var (i := 0) rfl) (v_rI (g := fun i j => .int (i * j)) (v_rI (g := fun i j => .int (i / j)) (v_rI0 (g := fun i j => .int (i - j)) (v_rI0 (g := fun i j => .int (i + j)) (v_rI0 (g := fun i j => .int (i - j)) (val_var (i := 2) rfl) (val_var (i := 0) rfl)) (val_var (i := 1) rfl)) val_c) (val_var (i := 1) rfl) (wide_div (b := 40) (by omega) (by omega) (by decide) (by decide))) (val_var (i := 1) rfl) (Or.inl ⟨by omega, by omega⟩)) _ k
theorem G_Choice_init (T : Tx K mg a) : FnOk P w K mg base (L2.CX P w) 3 a.f_Choice_init a.d_Choice_init ["self", "parts"] (spChInit a K) := by
  refine T.F_Choice_init.okX sc_Choice_init (fun vs H Q E h => ?_) (fun cdv A outer s H vs Q E hr h => ?_)
  · obtain ⟨p, dx, m, as, ps, rfl, _⟩ := h
    rfl
  · obtain ⟨p, dx, m, as, ps, rfl, hp, hm, hps, k1, k2, k3⟩ := h
    refine ⟨_, (pss_cons (ps_if (pt_cmpR op_gt (pe_callB call_len_seq (by rfl) T.n_len (by decide +kernel) (pa_cons (pv 1) pa_nil)) (pe_glob (v := .int 1500) rfl T.g_MOST_PARTS.choose_spec ⟨_, rfl⟩) (nomark _)) (pss_one (ps_raise rfl (takes_of rfl rfl rfl rfl) (pmk_oex T.ox_TooMany T.i_TooMany T.t_TooMany (G_TooMany_init T) (hr.mono (by decide)) T.b_TooMany_init .nil pass0 rfl T.g_TooMany (pa_cons pe_str (pa_cons (pe_callB call_len_seq (by rfl) T.n_len (by decide +kernel) (pa_cons (pv 1) pa_nil)) pa_nil))))) pss_nil)
      (pss_cons (ps_for (passes_of rfl) rfl (pi_enumA (by rfl) T.n_enumerate (pa_cons (pv 1) pa_nil)) (pg_tup rfl (pgs_cons (pg_name (i := 2) sc_Choice_init.nd rfl (Or.inl rfl)) (pgs_cons (pg_name (i := 3) sc_Choice_init.nd rfl (Or.inl rfl)) pgs_nil))) (pss_one (ps_if (pt_not (pt_val (pe_call (G_right_part T) (hr.mono (by decide)) rfl T.g_right_part T.F_right_part.kp T.b_right_part .nil pass0 (pa_cons (pv 3) pa_nil)))) (pss_one (ps_raise rfl (takes_of rfl rfl rfl rfl) (pmk_oex T.ox_BadChoice T.i_BadChoice T.t_BadChoice (G_BadChoice_init T) (hr.mono (by decide)) T.b_BadChoice_init .nil pass0 rfl T.g_BadChoice (pa_cons (pv 2) pa_nil)))) pss_nil)))
      (pss_cons (ps_fld (pv 0) (pe_callTy call_tuple_of (by rfl) T.n_tuple (by decide +kernel) (pa_cons (pe_lc (own := [("part", 3)]) (g := gName 3) (tt := tYes) rfl sc_Choice_init.nd (pi_seq (pv 1)) (blkOk_by (own := [("part", 3)]) (N := ["self", "parts", "at", "part"]) (sc := defScope s_Choice_init) (by decide +kernel)) (fun _ _ _ _ _ => (pg_name (i := 3) sc_Choice_init.nd rfl (Or.inl rfl))) (fun _ _ _ _ _ => pts_nil) (fun _ _ _ _ _ => (pe_callTy (call_tupK K) (by rfl) T.n_tuple (by decide +kernel) (pa_cons (pv 3) pa_nil)))) pa_nil)) rfl)
      (pss_one (ps_fld (pv 0) (pe_ifExp (pt_truth (pe_fld (pv 0) rfl) (by intro _; rfl)) (pe_join pe_str (pe_lc (own := [("part", 3)]) (g := gName 3) (tt := tYes) rfl sc_Choice_init.nd (pi_tup (pe_fld (pv 0) rfl)) (blkOk_by (own := [("part", 3)]) (N := ["self", "parts", "at", "part"]) (sc := defScope s_Choice_init) (by decide +kernel)) (fun _ _ _ _ _ => (pg_name (i := 3) sc_Choice_init.nd rfl (Or.inl rfl))) (fun _ _ _ _ _ => pts_nil) (fun _ _ _ _ _ => (pe_call (G_part_text T) (hr.mono (by decide)) rfl T.g_part_text T.F_part_text.kp T.b_part_text .nil pass0 (pa_cons (pv 3) pa_nil))))) pe_str) rfl))))), ?_⟩
    have hl : as.length = ps.length := hps.1
    have ln : ∀ {σ : St}, σ[1]? = some (some (.ref m)) → Val (tCB (fun xs H Q => ∃ p ys, xs = [.ref p] ∧ (SqL K H p ys ∨ SqT K H p ys) ∧ Q (.int ys.length) H) (tCons (tVar 1) tNil)) σ H (.int (ps.length : Nat)) := fun e => v_cb (val_var e) fun Q q => ⟨m, as, rfl, hm, by rw [hl]; exact q⟩
    refine st_guard (q := 1500 < ps.length) (a_cmp (f := fun i j => decide (j < i)) (ln rfl) val_c) (by simp; omega) (fun z => ?_) fun z => ?_
    · refine ⟨_, rfl, m, as, rfl, hm, ?_⟩
      rw [hl]
      exact x2_made (k1 z)
    have hz : ps.length ≤ 1500 := by omega
    refine st_seq ?_
    refine st_forEA (a := m) (xs := as) (fun R q => ⟨_, rfl, q⟩) hm (fun i σ' H' => ∃ v2 v3, σ' = [some (.ref p), some (.ref m), v2, v3] ∧ Same H H' ∧ (∀ (j : Nat) (q : Part), j < i → ps[j]? = some q → okPart q)) ⟨none, none, rfl, Same.refl H, fun j q z => absurd z (Nat.not_lt_zero _)⟩ (fun i σ' H' ⟨_, _, _, z, _⟩ => z) ?_ ?_
    · rintro i x U σ' H1 hx ⟨v2, v3, rfl, s1, ok1⟩ hU
      obtain ⟨q, t, hq, rfl, ht⟩ := (hps.same s1).at hx
      have s2 := s1.trans (Same.new (o := .tup [.int (i : Nat), .ref t]) hU)
      refine ⟨U, _, rfl, SqT.of upd_same, rfl, _, _, rfl, _, _, rfl, rfl, ?_⟩
      dsimp only
      refine st_ifb (b := !decide (okPart q)) (ans_not (a_val (v_call1 (x := .ref t) (val_var (i := 3) rfl) fun Q' z => ⟨t, q, rfl, (Same.new hU) _ _ ht, z⟩))) (fun z => ?_) fun z => ?_
      · refine ⟨_, rfl, ?_⟩
        exact x1_made fun d H2 e1 e2 => k2 hz i q hq (by simpa using z) (fun j q h e => ok1 j q h e) _ s2 d H2 e1 e2
      · refine ⟨_, _, rfl, s2, fun j q' h e => ?_⟩
        rcases Nat.lt_or_eq_of_le (Nat.le_of_lt_succ h) with h | rfl
        · exact ok1 j q' h e
        · rw [hq] at e
          cases e
          simpa using z
    · rintro σ' H1 ⟨v2, v3, rfl, s1, ok1⟩
      have okA : ∀ q ∈ ps, okPart q := fun q hq => by
        obtain ⟨j, hj, e⟩ := List.mem_iff_getElem.mp hq
        exact ok1 j q (by omega) (by rw [List.getElem?_eq_getElem hj, e])
      dsimp only
      clear k1 k2
      have hp1 := s1 _ _ hp
      have hps1 := hps.same s1
      refine st_mkH (PV := fun y H' => ∃ pt, y = .ref pt ∧ SqT K H' pt as ∧ Same H1 H') (fun Q q => ?_) (fun H' => val_var (i := 0) rfl) (fun y H' z => z.choose_spec.2.2 _ _ hp1) T.cl_Choice T.no_Choice_parts (by show 0 < 1000; decide) fun y H2' H2 z q2 b2' => ?_
      case refine_1 =>
        refine v_cb1 ?_
        refine comp_A (a := m) (xs := as) (fun _ => true) (fun v => v) (fun R q => ⟨_, rfl, q⟩) (s1.sqA hm) (by omega) (fun x => rfl) (fun i x H' hx s => fun Q q => q) (fun i x H' hx _ s => ?_) fun D H' hD e s => ?_
        · obtain ⟨q, t, hq, rfl, ht⟩ := (hps1.same s).at hx
          exact v_cb (val_var (i := 3) rfl) fun Q q => ⟨t, _, rfl, Or.inr ⟨SqT.of ht, q⟩⟩
        · rw [List.map_id', List.filter_eq_self.mpr (fun _ _ => rfl)] at e
          exact ⟨D, as, rfl, Or.inl ⟨SqL.of e, fun l hl => q _ _ ⟨l, rfl, SqT.of upd_same, s.trans (Same.new hl)⟩⟩⟩
      obtain ⟨pt, rfl, hpt, s2⟩ := z
      have hp2 : H2 p = some (.ins a.c_Choice dx [("parts", .ref pt)]) := q2.trans (by kernel_rfl)
      have hpt2 := b2'.keepT (s2 _ _ hp1) hpt
      have b2 : But p H H2 := But.same (s1.trans s2) b2'
      have hps2 : Prs H2 as ps := ⟨hps.1, fun i q e => let ⟨t, z1, z2⟩ := hps.2 i q e; ⟨t, z1, b2 _ _ z2 (ne_of z2 hp (by intro z; cases z))⟩⟩
      have fin : ∀ (y : Str) (H3 : Hp), y.length ≤ 70000 → Same H2 H3 → ∃ a0 C dx0 fs, V.ref p = .ref a0 ∧ H3 a0 = some (.ins C dx0 fs) ∧ Cls K C ∧ NoAttr K C "text" ∧ fs.length < 1000 ∧ Q .non (upd H3 a0 (.ins C dx0 (putF "text" (.str y) fs))) := fun y H3 hy s3 => by
        have b3 : But p H3 (upd H3 p (.ins a.c_Choice dx (putF "text" (.str y) [("parts", .ref pt)]))) := (But.refl p H3).upd
        have hp3 := s3 _ _ hp2
        refine ⟨p, _, dx, _, rfl, hp3, T.cl_Choice, T.no_Choice_text, by show 1 < 1000; decide, k3 hz okA _ ⟨dx, pt, y, as, upd_same.trans (by kernel_rfl), b3.keepT hp3 (s3.sqT hpt2), ?_, hy, okA, hz⟩ ((b2.thenS s3).trans b3)⟩
        exact ⟨hps2.1, fun i q e => let ⟨t, z1, z2⟩ := hps2.2 i q e; ⟨t, z1, b3 _ _ (s3 _ _ z2) (ne_of (s3 _ _ z2) hp3 (by intro z; cases z))⟩⟩
      refine ⟨_, rfl, p, _, dx, _, _, rfl, hp2, T.cl_Choice, T.no_Choice_parts, (by kernel_rfl : List.lookup _ _ = some (V.ref pt)), !as.isEmpty, Or.inr (Or.inl ⟨as, hpt2, rfl⟩), ?_⟩
      cases he : as.isEmpty with
      | true => exact iteF ⟨_, rfl, fin _ H2 (by decide) (Same.refl _)⟩
      | false =>
        refine iteT ⟨⟨_, rfl⟩, ?_⟩
        refine comp_strs (a := pt) (xs := as) 40 (fun R q => ⟨_, rfl, p, _, dx, _, _, rfl, hp2, T.cl_Choice, T.no_Choice_parts, (by kernel_rfl : List.lookup _ _ = some (V.ref pt)), q⟩) hpt2 (by omega) (fun x => rfl) (fun i x H' Q' hx s h => ?_) fun D H' ys hD e ly by_ s => ?_
        · obtain ⟨q, t, hq, rfl, ht⟩ := (hps2.same s).at hx
          exact ⟨_, rfl, t, q, rfl, ht, okA q (List.mem_of_getElem? hq), fun y hy => h y H' hy (Same.refl _)⟩
        · exact ⟨_, D, ys, rfl, rfl, Or.inl (SqL.of e), join_ok (n := 1500) by_ (by omega) (by decide) (by decide), _, rfl, fin _ H' (Nat.le_trans (join_len by_) (by rw [ly, hl]; exact Nat.le_trans (Nat.mul_le_mul_right _ hz) (by decide))) s⟩
end
end My

namespace My
/-! ### plain law: steps in a range -/
def firstM (low step least : Int) : Int := if low ≥ least then low else low + (least - low + step - 1) / step * step
theorem firstM_spec {low step least : Int} (hs : 1 ≤ step) : low ≤ firstM low step least ∧ least ≤ firstM low step least ∧ (firstM low step least - low) % step = 0 ∧ ∀ x, low ≤ x → least ≤ x → (x - low) % step = 0 → firstM low step least ≤ x := by
  unfold firstM
  by_cases c : low ≥ least
  · rw [if_pos c]
    exact ⟨Int.le_refl _, c, by rw [Int.sub_self, Int.zero_emod], fun x h _ _ => h⟩
  · rw [if_neg c]
    have e := Int.mul_ediv_add_emod (least - low + step - 1) step
    have r0 := Int.emod_nonneg (least - low + step - 1) (show step ≠ 0 by omega)
    have r1 := Int.emod_lt_of_pos (least - low + step - 1) (show 0 < step by omega)
    have cm : step * ((least - low + step - 1) / step) = (least - low + step - 1) / step * step := Int.mul_comm _ _
    refine ⟨by omega, by omega, ?_, fun x h1 h2 h3 => ?_⟩
    · rw [show low + (least - low + step - 1) / step * step - low = (least - low + step - 1) / step * step by omega]
      exact Int.mul_emod_left _ _
    · obtain ⟨m, hm⟩ := Int.dvd_of_emod_eq_zero h3
      have hm2 : x - low = m * step := by rw [hm, Int.mul_comm]
      have : (least - low + step - 1) / step ≤ m := by
        have a : (least - low + step - 1) / step < m + 1 := by
          refine (Int.ediv_lt_iff_lt_mul (by omega)).mpr ?_
          rw [Int.add_mul, Int.one_mul]
          omega
        omega
      have : (least - low + step - 1) / step * step ≤ m * step := Int.mul_le_mul_of_nonneg_right this (by omega)
      omega
/-- the turns of range(a, b, c) -/
theorem turns {a b c : Int} (hc : 1 ≤ c) : ∃ n : Nat, (if a < b then (b - a - 1) / c + 1 else 0) = (n : Int) ∧ ∀ x, (∃ i : Nat, i < n ∧ x = a + i * c) ↔ a ≤ x ∧ x < b ∧ (x - a) % c = 0 := by
  by_cases h : a < b
  · have d0 : 0 ≤ (b - a - 1) / c := Int.ediv_nonneg (by omega) (by omega)
    refine ⟨((b - a - 1) / c + 1).toNat, by rw [if_pos h]; omega, fun x => ⟨?_, ?_⟩⟩
    · rintro ⟨i, hi, rfl⟩
      have hi2 : (i : Int) ≤ (b - a - 1) / c := by omega
      have h1 : (i : Int) * c ≤ (b - a - 1) / c * c := Int.mul_le_mul_of_nonneg_right hi2 (by omega)
      have h2 : (b - a - 1) / c * c ≤ b - a - 1 := Int.ediv_mul_le _ (by omega)
      have h3 : 0 ≤ (i : Int) * c := Int.mul_nonneg (by omega) (by omega)
      refine ⟨by omega, by omega, ?_⟩
      rw [show a + (i : Int) * c - a = (i : Int) * c by omega]
      exact Int.mul_emod_left _ _
    · rintro ⟨h1, h2, h3⟩
      obtain ⟨m, hm⟩ := Int.dvd_of_emod_eq_zero h3
      have hm2 : x - a = m * c := by rw [hm, Int.mul_comm]
      have m0 : 0 ≤ m := by
        rcases Int.lt_or_le m 0 with z | z
        · have : m * c ≤ (-1) * c := Int.mul_le_mul_of_nonneg_right (by omega) (by omega)
          omega
        · exact z
      have m1 : m ≤ (b - a - 1) / c := (Int.le_ediv_iff_mul_le (by omega)).mpr (by omega)
      refine ⟨m.toNat, by omega, ?_⟩
      have : (m.toNat : Int) = m := by omega
      rw [this]
      omega
  · exact ⟨0, by rw [if_neg h]; rfl, fun x => ⟨fun ⟨i, hi, _⟩ => absurd hi (Nat.not_lt_zero _), fun ⟨h1, h2, _⟩ => by omega⟩⟩
theorem nodup_sub : ∀ {l m : List Int}, l.Nodup → (∀ x ∈ l, x ∈ m) → l.length ≤ m.length
  | [], _, _, _ => Nat.zero_le _
  | a :: r, m, hn, h => by
    have hn' := List.nodup_cons.mp hn
    have ha := h a (List.mem_cons_self ..)
    have e := List.length_erase_of_mem ha
    have i := nodup_sub (l := r) (m := m.erase a) hn'.2 fun x hx => (List.mem_erase_of_ne (fun z : x = a => hn'.1 (by rw [← z]; exact hx))).mpr (h x (List.mem_cons_of_mem _ hx))
    have : 0 < m.length := List.length_pos_of_mem ha
    rw [List.length_cons]
    omega
theorem sorted_eq : ∀ {l m : List Int}, l.Pairwise (· < ·) → m.Pairwise (· < ·) → (∀ x, x ∈ l ↔ x ∈ m) → l = m
  | [], [], _, _, _ => rfl
  | [], b :: r, _, _, h => absurd ((h b).mpr (List.mem_cons_self ..)) (fun z => nomatch z)
  | a :: r, [], _, _, h => absurd ((h a).mp (List.mem_cons_self ..)) (fun z => nomatch z)
  | a :: l, b :: m, hl, hm, h => by
    obtain ⟨hl1, hl2⟩ := List.pairwise_cons.mp hl
    obtain ⟨hm1, hm2⟩ := List.pairwise_cons.mp hm
    have e : a = b := by
      rcases List.mem_cons.mp ((h a).mp (List.mem_cons_self ..)) with z | z
      · exact z
      · rcases List.mem_cons.mp ((h b).mpr (List.mem_cons_self ..)) with y | y
        · exact y.symm
        · have := hm1 a z; have := hl1 b y; omega
    subst e
    rw [sorted_eq hl2 hm2 fun x => ⟨fun hx => ?_, fun hx => ?_⟩]
    · rcases List.mem_cons.mp ((h x).mp (List.mem_cons_of_mem _ hx)) with z | z
      · have := hl1 x hx; omega
      · exact z
    · rcases List.mem_cons.mp ((h x).mpr (List.mem_cons_of_mem _ hx)) with z | z
      · have := hm1 x hx; omega
      · exact z
end My

namespace My
open PySem L2
theorem rgc {i j c : Int} {n : Nat} (hi : 0 ≤ i ∧ i ≤ 1000000) (hj : 0 ≤ j ∧ j ≤ 1000000) (hc : 1 ≤ c ∧ c ≤ 9999) (hn : (if i < j then (j - i - 1) / c + 1 else 0) = (n : Int)) : RgC i j c n := by
  have e : Builtin.Range.rangeSize i j c = (n : Int) := by
    unfold Builtin.Range.rangeSize
    rw [if_pos (show c > 0 by omega)]
    exact hn
  have nb : (n : Int) ≤ 1000001 := by
    rw [← hn]
    split
    · have := Int.ediv_le_self c (show 0 ≤ j - i - 1 by omega)
      omega
    · decide
  refine ⟨by omega, by omega, ?_, e⟩
  unfold Builtin.Range.small
  rw [e]
  simp only [Builtin.Range.rangeFitsLong, Bool.and_eq_true, Bool.or_eq_true, decide_eq_true_eq, beq_iff_eq, if_pos (show c > 0 by omega)]
  omega
def numsOf (ps : List Part) (lo hi : Int) : List Int := (rgI lo hi).filter (chosen ps)
where rgI (lo hi : Int) : List Int := (List.range (hi + 1 - lo).toNat).map fun i => lo + (i : Nat)
theorem mem_rgI {lo hi x : Int} : x ∈ numsOf.rgI lo hi ↔ lo ≤ x ∧ x ≤ hi := by
  unfold numsOf.rgI
  simp only [List.mem_map, List.mem_range]
  constructor
  · rintro ⟨i, h, rfl⟩
    omega
  · intro h
    exact ⟨(x - lo).toNat, by omega, by omega⟩
theorem sorted_rgI (lo hi : Int) : (numsOf.rgI lo hi).Pairwise (· < ·) := by
  unfold numsOf.rgI
  rw [List.pairwise_map]
  exact List.Pairwise.imp (fun h => by omega) List.pairwise_lt_range
theorem mem_nums {ps : List Part} {lo hi x : Int} : x ∈ numsOf ps lo hi ↔ (lo ≤ x ∧ x ≤ hi) ∧ chosen ps x = true := by
  unfold numsOf
  rw [List.mem_filter, mem_rgI]
theorem sorted_nums (ps : List Part) (lo hi : Int) : (numsOf ps lo hi).Pairwise (· < ·) := (sorted_rgI lo hi).filter _
def spChHolds (a : Ad) (K : PySem.W.Frag) : Sp := fun vs H Q E => ∃ (p : Addr) (ps : List Part) (n : Int), vs = [.ref p, .int n] ∧ ChAt a.c_Choice K H p ps ∧ (¬ okF n → Out a E H (.rng "number" n)) ∧ (okF n → Q (.bl (chosen ps n)) H)
def okT (n : Int) : Prop := 0 ≤ n ∧ n ≤ 9999
def spNums (a : Ad) (K : PySem.W.Frag) : Sp := fun vs H Q E => ∃ (p : Addr) (ps : List Part) (lo hi : Int), vs = [.ref p, .int lo, .int hi] ∧ ChAt a.c_Choice K H p ps ∧ (¬ okT lo → Out a E H (.rng "low" lo)) ∧ (okT lo → ¬ okT hi → Out a E H (.rng "high" hi)) ∧
  (okT lo → okT hi → (numsOf ps lo hi).length < 64 ∧ ∀ t H', H' t = some (.tup ((numsOf ps lo hi).map V.int)) → Same H H' → Q (.ref t) H')
section
variable {P : Program} {w : World} {K : PySem.W.Frag} {mg : Str → Option Value} {base : Heap} {a : Ad}
theorem G_Choice_holds (T : Tx K mg a) : FnOk P w K mg base (L2.CX P w) 4 a.f_Choice_holds a.d_Choice_holds ["self", "number"] (spChHolds a K) := by
  refine T.F_Choice_holds.okX sc_Choice_holds (fun vs H Q E h => ?_) (fun cdv A outer s H vs Q E hr h => ?_)
  · obtain ⟨p, ps, n, rfl, _⟩ := h
    rfl
  · obtain ⟨p, ps, n, rfl, ⟨dx, pt, txt, as, h1, h2, h3, _, ok, _⟩, k1, k2⟩ := h
    refine ⟨_, (pss_cons (ps_expr (pe_call (G_in_range T) (hr.mono (by decide)) rfl T.g_in_range T.F_in_range.kp T.b_in_range .nil (passes_call (takes_of rfl rfl rfl rfl) (fun _ _ _ _ h => h)) (pa_cons pe_str (pa_cons (pv 1) (pa_cons pe_int (pa_cons (pe_glob (v := .int (10 ^ 40)) rfl T.g_FAR.choose_spec ⟨_, rfl⟩) pa_nil))))))
      (pss_cons (ps_if (pt_not (pt_truth (pe_fld (pv 0) rfl) (by intro _; rfl))) (pss_one (ps_ret pe_bl)) pss_nil)
      (pss_cons (ps_for (passes_of rfl) rfl (pi_tup (pe_fld (pv 0) rfl)) (pg_tup rfl (pgs_cons (pg_name (i := 2) sc_Choice_holds.nd rfl (Or.inl rfl)) (pgs_cons (pg_name (i := 3) sc_Choice_holds.nd rfl (Or.inl rfl)) (pgs_cons (pg_name (i := 4) sc_Choice_holds.nd rfl (Or.inl rfl)) pgs_nil)))) (pss_one (ps_if (PW.pt (pw_and (pt_chain op_le op_le (pv 2) (pv 1) (pv 3)) (pw_and1 (pt_cmpR op_eq (pe_op op_mod (pe_op op_sub (pv 1) (pv 2)) (pv 4)) pe_int (nomark _))))) (pss_one (ps_ret pe_bl)) pss_nil)))
      (pss_one (ps_ret pe_bl))))), ?_⟩
    have fp : ∀ {σ : St}, σ[0]? = some (some (.ref p)) → Val (tFld K (tVar 0) "parts") σ H (.ref pt) := fun e => val_fld (val_var e) h1 T.cl_Choice T.no_Choice_parts (by kernel_rfl)
    refine st_do ⟨_, rfl, "number", n, 0, 10 ^ 40, rfl, fun z => ?_, fun z => k1 z⟩
    have hl : as.length = ps.length := h3.1
    refine st_guard (q := as.isEmpty = true) (b := !!as.isEmpty) (ans_not (ans_tru (fp rfl) (Or.inr (Or.inl ⟨as, h2, rfl⟩)))) (by simp) (fun z2 => ?_) fun z2 => ?_
    · have e : ps = [] := by
        have : as = [] := List.isEmpty_iff.mp z2
        rw [this] at hl
        exact List.length_eq_zero_iff.mp hl.symm
      have k := k2 z
      rw [e] at k
      exact k
    · refine st_seq (st_forT (a := pt) (xs := as) (fun R q => fp rfl _ q) (fun i σ' H' => ∃ v2 v3 v4, σ' = [some (.ref p), some (.int n), v2, v3, v4] ∧ H' = H ∧ ∀ j q, j < i → ps[j]? = some q → inPart q n = false) ⟨none, none, none, rfl, rfl, fun j q z => absurd z (Nat.not_lt_zero _)⟩ (fun i σ' H' _ ⟨_, _, _, _, e, _⟩ => by rw [e]; exact h2) ?_ ?_)
      · rintro i x σ' H' hx ⟨v2, v3, v4, rfl, rfl, no⟩
        obtain ⟨q, t, hq, rfl, ht⟩ := h3.at hx
        have oq := ok q (List.mem_of_getElem? hq)
        refine ⟨t, _, rfl, SqT.of ht, rfl, _, _, rfl, _, _, rfl, _, _, rfl, rfl, ?_⟩
        dsimp only
        refine st_ifb (b := (decide (q.1 ≤ n) && decide (n ≤ q.2.1)) && decide ((n - q.1) % q.2.2 = 0)) (a_and (a_val (v_chain (f := fun i j => decide (i ≤ j)) (g := fun i j => decide (i ≤ j)) (val_var (i := 2) rfl) (val_var (i := 1) rfl) (val_var (i := 3) rfl))) fun _ => a_eq (v_rI (g := fun i j => .int (i % j)) (v_rI0 (g := fun i j => .int (i - j)) (val_var (i := 1) rfl) (val_var (i := 2) rfl)) (val_var (i := 4) rfl) (by have := oq.2.2.2.1; show 0 < q.2.2; omega)) val_c) (fun z3 => ?_) fun z3 => ?_
        · have e : chosen ps n = true := by
            unfold chosen
            have : ps.any (fun q => inPart q n) = true := List.any_eq_true.mpr ⟨q, List.mem_of_getElem? hq, by simp at z3; unfold inPart; simp; omega⟩
            rw [this, Bool.or_true]
          have k := k2 z
          rw [e] at k
          exact k
        · refine ⟨_, _, _, rfl, rfl, fun j q' h e => ?_⟩
          rcases Nat.lt_or_eq_of_le (Nat.le_of_lt_succ h) with h | rfl
          · exact no j q' h e
          · rw [hq] at e
            cases e
            unfold inPart
            rw [decide_eq_false_iff_not]
            intro y
            rw [decide_eq_true y.1, decide_eq_true y.2.1, decide_eq_true y.2.2] at z3
            cases z3
      · rintro σ' H' ⟨v2, v3, v4, rfl, rfl, no⟩
        have e : chosen ps n = false := by
          unfold chosen
          have e1 : ps.isEmpty = false := by
            cases h : ps with
            | nil => rw [h] at hl; exact absurd (List.isEmpty_iff.mpr (List.length_eq_zero_iff.mp hl)) z2
            | cons _ _ => rfl
          rw [e1, Bool.false_or, List.any_eq_false]
          intro q hq
          obtain ⟨j, hj, e⟩ := List.mem_iff_getElem.mp hq
          have := no j q (by omega) (by rw [List.getElem?_eq_getElem hj, e])
          rw [this]
          exact Bool.false_ne_true
        have k := k2 z
        rw [e] at k
        exact k
end
end My

namespace My
open PySem L2
/-- a set of whole numbers, its members -/
def SetIs (w : World) (H : Hp) (p : Addr) (ms : List Int) : Prop := ∃ S : Int → Bool, H p = some (SetO w p S ms.length) ∧ ms.Nodup ∧ ∀ k, S k = true ↔ k ∈ ms
section
variable {P : Program} {w : World} {K : PySem.W.Frag} {mg : Str → Option Value} {base : Heap} {a : Ad}
theorem set_add {p : Addr} {H : Hp} {ms : List Int} {k : Int} (h : SetIs w H p ms) : ∃ S n, H p = some (SetO w p S n) ∧ n = ms.length ∧ ∃ ms' : List Int, SetIs w (upd H p (SetO w p (fun j => S j || decide (j = k)) (if S k = true then n else n + 1))) p ms' ∧ ∀ x, x ∈ ms' ↔ x ∈ ms ∨ x = k := by
  obtain ⟨S, h1, h2, h3⟩ := h
  refine ⟨S, _, h1, rfl, ?_⟩
  by_cases c : S k = true
  · refine ⟨ms, ⟨_, upd_same.trans (by rw [if_pos c]), h2, fun j => ?_⟩, fun x => ⟨Or.inl, fun z => z.elim id fun e => by rw [e]; exact (h3 k).mp c⟩⟩
    simp only [Bool.or_eq_true, decide_eq_true_eq]
    rw [h3]
    exact ⟨fun z => z.elim id fun e => by rw [e]; exact (h3 k).mp c, Or.inl⟩
  · have nk : k ∉ ms := fun z => c ((h3 k).mpr z)
    refine ⟨k :: ms, ⟨_, upd_same.trans (by rw [if_neg c, List.length_cons]), List.nodup_cons.mpr ⟨nk, h2⟩, fun j => ?_⟩, fun x => ?_⟩
    · simp only [Bool.or_eq_true, decide_eq_true_eq, List.mem_cons]
      rw [h3]
      exact Or.comm
    · rw [List.mem_cons]
      exact Or.comm
theorem G_Choice_numbers (T : Tx K mg a) : FnOk P w K mg base (L2.CX P w) 4 a.f_Choice_numbers a.d_Choice_numbers ["self", "low", "high"] (spNums a K) := by
  refine T.F_Choice_numbers.okX sc_Choice_numbers (fun vs H Q E h => ?_) (fun cdv A outer s H vs Q E hr h => ?_)
  · obtain ⟨p, ps, lo, hi, rfl, _⟩ := h
    rfl
  · obtain ⟨p, ps, lo, hi, rfl, ⟨dx, pt, txt, as, h1, h2, h3, _, ok, _⟩, k1, k2, k3⟩ := h
    refine ⟨_, (pss_cons (ps_expr (pe_call (G_in_range T) (hr.mono (by decide)) rfl T.g_in_range T.F_in_range.kp T.b_in_range .nil (passes_call (takes_of rfl rfl rfl rfl) (fun _ _ _ _ h => h)) (pa_cons pe_str (pa_cons (pv 1) (pa_cons pe_int (pa_cons (pe_glob (v := .int 9999) rfl T.g_TOP.choose_spec ⟨_, rfl⟩) pa_nil))))))
      (pss_cons (ps_expr (pe_call (G_in_range T) (hr.mono (by decide)) rfl T.g_in_range T.F_in_range.kp T.b_in_range .nil (passes_call (takes_of rfl rfl rfl rfl) (fun _ _ _ _ h => h)) (pa_cons pe_str (pa_cons (pv 2) (pa_cons pe_int (pa_cons (pe_glob (v := .int 9999) rfl T.g_TOP.choose_spec ⟨_, rfl⟩) pa_nil))))))
      (pss_cons (ps_if (pt_not (pt_truth (pe_fld (pv 0) rfl) (by intro _; rfl))) (pss_one (ps_ret (pe_tupRg rfl rfl T.n_tuple (prg_2 rfl T.n_range (pv 1) (pe_op op_add (pv 2) pe_int))))) pss_nil)
      (pss_cons (ps_set (i := 3) sc_Choice_numbers.nd rfl (Or.inl rfl) (pe_callTy0 cr_set0 (by rfl) T.n_set (by decide +kernel)))
      (pss_cons (ps_for (passes_of rfl) rfl (pi_tup (pe_fld (pv 0) rfl)) (pg_tup rfl (pgs_cons (pg_name (i := 4) sc_Choice_numbers.nd rfl (Or.inl rfl)) (pgs_cons (pg_name (i := 5) sc_Choice_numbers.nd rfl (Or.inl rfl)) (pgs_cons (pg_name (i := 6) sc_Choice_numbers.nd rfl (Or.inl rfl)) pgs_nil)))) (pss_one (ps_for (passes_of rfl) rfl (pi_range3 rfl T.n_range (pa_cons (pe_call (G_first_member T) (hr.mono (by decide)) rfl T.g_first_member T.F_first_member.kp T.b_first_member .nil pass0 (pa_cons (pv 4) (pa_cons (pv 6) (pa_cons (pv 1) pa_nil)))) (pa_cons (pe_op op_add (pe_callB (call_min2 rfl) (by rfl) T.n_min (by decide +kernel) (pa_cons (pv 5) (pa_cons (pv 2) pa_nil))) pe_int) (pa_cons (pv 6) pa_nil)))) (pg_name (i := 7) sc_Choice_numbers.nd rfl (Or.inl rfl)) (pss_one (ps_expr (pe_sadd (pv 3) (pa_cons (pv 7) pa_nil)))))))
      (pss_one (ps_ret (pe_callTy call_tuple_of (by rfl) T.n_tuple (by decide +kernel) (pa_cons (pe_callB (cr_sortedSet rfl) (by rfl) T.n_sorted (by decide +kernel) (pa_cons (pv 3) pa_nil)) pa_nil))))))))), ?_⟩
    have fp : ∀ {σ : St} {H' : Hp}, σ[0]? = some (some (.ref p)) → H' p = H p → Val (tFld K (tVar 0) "parts") σ H' (.ref pt) := fun e eh => val_fld (val_var e) (eh.trans h1) T.cl_Choice T.no_Choice_parts (by kernel_rfl)
    refine st_do ⟨_, rfl, "low", lo, 0, 9999, rfl, fun z1 => ?_, fun z => k1 z⟩
    refine st_do ⟨_, rfl, "high", hi, 0, 9999, rfl, fun z2 => ?_, fun z => k2 z1 z⟩
    obtain ⟨few, k⟩ := k3 z1 z2
    have hl : as.length = ps.length := h3.1
    refine st_guard (q := as.isEmpty = true) (b := !!as.isEmpty) (ans_not (ans_tru (fp rfl rfl) (Or.inr (Or.inl ⟨as, h2, rfl⟩)))) (by simp) (fun z => ?_) fun z => ?_
    · have e : ps = [] := by
        have : as = [] := List.isEmpty_iff.mp z
        rw [this] at hl
        exact List.length_eq_zero_iff.mp hl.symm
      refine ⟨_, rfl, _, rfl, _, _, rfl, rfl, _, _, rfl, rfl, ⟨by omega, by omega, by omega, by omega, by omega⟩, fun t ht => k t _ ?_ (Same.new ht)⟩
      rw [upd_same]
      have : numsOf ps lo hi = numsOf.rgI lo hi := by
        unfold numsOf
        rw [e]
        exact List.filter_eq_self.mpr fun x _ => rfl
      rw [this]
      show some (HO.tup (rgV lo (hi + 1))) = _
      unfold rgV numsOf.rgI
      rw [List.map_map]
      rfl
    · have e1 : ps.isEmpty = false := by
        cases h : ps with
        | nil => rw [h] at hl; exact absurd (List.isEmpty_iff.mpr (List.length_eq_zero_iff.mp hl)) z
        | cons _ _ => rfl
      refine st_letX ⟨rfl, fun sp hsp => ?_⟩
      have nsp : p ≠ sp := ne_of_none h1 hsp
      have fresh : ∀ {H' : Hp}, But sp (upd H sp (SetO w sp (fun _ => false) 0)) H' → Same H H' := fun b c o e => b c o ((upd_ne (ne_of_none e hsp)).trans e) (ne_of_none e hsp)
      refine st_seq (st_forT (a := pt) (xs := as) (fun R q => fp rfl (upd_ne nsp) _ q) (fun i σ' H' => ∃ v4 v5 v6 v7, σ' = [some (.ref p), some (.int lo), some (.int hi), some (.ref sp), v4, v5, v6, v7] ∧ (∃ ms, SetIs w H' sp ms ∧ ∀ x, x ∈ ms ↔ (lo ≤ x ∧ x ≤ hi) ∧ ∃ j q, j < i ∧ ps[j]? = some q ∧ inPart q x = true) ∧ Same H H')
        ⟨none, none, none, none, rfl, ⟨[], ⟨_, upd_same, List.nodup_nil, fun k => by simp⟩, fun x => ⟨(fun z => nomatch z), fun ⟨_, j, q, z, _⟩ => absurd z (Nat.not_lt_zero _)⟩⟩, Same.new hsp⟩ (fun i σ' H' _ ⟨_, _, _, _, _, _, s⟩ => s.sqT h2) ?_ ?_)
      · rintro i x σ' H1 hx ⟨v4, v5, v6, v7, rfl, ⟨ms, hms, mem⟩, s1⟩
        obtain ⟨q, t, hq, rfl, ht⟩ := (h3.same s1).at hx
        have oq := ok q (List.mem_of_getElem? hq)
        refine ⟨t, _, rfl, SqT.of ht, rfl, _, _, rfl, _, _, rfl, _, _, rfl, rfl, ?_⟩
        dsimp only
        refine ⟨_, rfl, _, rfl, _, rfl, q.1, q.2.2, lo, rfl, ⟨oq.1, by have := oq.2.1; have := oq.2.2.1; omega⟩, ⟨oq.2.2.2.1, oq.2.2.2.2⟩, z1, ?_⟩
        have fm := firstM_spec (low := q.1) (step := q.2.2) (least := lo) oq.2.2.2.1
        show tCons _ _ _ _ _
        change tCons _ _ _ H1 _
        have efm : (if q.1 ≥ lo then q.1 else q.1 + (lo - q.1 + q.2.2 - 1) / q.2.2 * q.2.2) = firstM q.1 q.2.2 lo := rfl
        rw [efm]
        obtain ⟨n, hn, tm⟩ := turns (a := firstM q.1 q.2.2 lo) (b := (if hi < q.2.1 then hi else q.2.1) + 1) (c := q.2.2) oq.2.2.2.1
        have char : ∀ x, (∃ i : Nat, i < n ∧ x = firstM q.1 q.2.2 lo + i * q.2.2) ↔ (lo ≤ x ∧ x ≤ hi) ∧ inPart q x = true := by
          intro x
          rw [tm]
          unfold inPart
          rw [decide_eq_true_iff]
          have mn : (if hi < q.2.1 then hi else q.2.1) ≤ hi ∧ (if hi < q.2.1 then hi else q.2.1) ≤ q.2.1 ∧ ((if hi < q.2.1 then hi else q.2.1) = hi ∨ (if hi < q.2.1 then hi else q.2.1) = q.2.1) := by split <;> omega
          generalize (if hi < q.2.1 then hi else q.2.1) = m at mn
          obtain ⟨f1, f2, f3, f4⟩ := fm
          constructor
          · rintro ⟨g1, g2, g3⟩
            have d := Int.dvd_add (Int.dvd_of_emod_eq_zero g3) (Int.dvd_of_emod_eq_zero f3)
            rw [show x - firstM q.1 q.2.2 lo + (firstM q.1 q.2.2 lo - q.1) = x - q.1 by omega] at d
            exact ⟨⟨by omega, by omega⟩, by omega, by omega, Int.emod_eq_zero_of_dvd d⟩
          · rintro ⟨⟨g1, g2⟩, g3, g4, g5⟩
            have d := Int.dvd_sub (Int.dvd_of_emod_eq_zero g5) (Int.dvd_of_emod_eq_zero f3)
            rw [show x - q.1 - (firstM q.1 q.2.2 lo - q.1) = x - firstM q.1 q.2.2 lo by omega] at d
            exact ⟨f4 x g3 g1 g5, by omega, Int.emod_eq_zero_of_dvd d⟩
        have fb : 0 ≤ firstM q.1 q.2.2 lo ∧ firstM q.1 q.2.2 lo ≤ 1000000 := by
          have f1 := fm.1
          have o0 := oq.1
          have o1 := oq.2.1
          have o2 := oq.2.2.1
          have o3 := oq.2.2.2.2
          have o4 := oq.2.2.2.1
          refine ⟨by omega, ?_⟩
          unfold firstM
          split
          · omega
          · have := Int.ediv_mul_le (lo - q.1 + q.2.2 - 1) (show q.2.2 ≠ 0 by omega)
            have := z1.2
            omega
        refine ⟨_, rfl, _, rfl, _, _, rfl, _, _, rfl, rfl, _, rfl, _, _, _, n, rfl, rgc fb ⟨?_, ?_⟩ ⟨oq.2.2.2.1, oq.2.2.2.2⟩ hn, ?_⟩
        · have := oq.1; have := oq.2.1; have := z2.1; split <;> omega
        · have := oq.2.2.1; have := z2.2; split <;> omega
        refine for_rangeC (fun k σ' H' => ∃ v7, σ' = [some (.ref p), some (.int lo), some (.int hi), some (.ref sp), some (.int q.1), some (.int q.2.1), some (.int q.2.2), v7] ∧ (∃ ms', SetIs w H' sp ms' ∧ ∀ x, x ∈ ms' ↔ x ∈ ms ∨ ∃ i : Nat, i < k ∧ x = firstM q.1 q.2.2 lo + i * q.2.2) ∧ Same H H') ⟨v7, rfl, ⟨ms, hms, fun x => ⟨Or.inl, fun z => z.elim id fun ⟨i, hi, _⟩ => absurd hi (Nat.not_lt_zero _)⟩⟩, s1⟩ ?_ ?_
        · rintro k σ' H2 hk ⟨v7, rfl, ⟨ms', hms', mem'⟩, s2⟩
          obtain ⟨S, m, hS, hm, ms2, h5, h6⟩ := set_add (k := firstM q.1 q.2.2 lo + (k : Nat) * q.2.2) hms'
          have small : ms'.length ≤ 63 := by
            have := nodup_sub (l := ms') (m := numsOf ps lo hi) (by obtain ⟨_, _, z, _⟩ := hms'; exact z) fun x hx => by
              rw [mem_nums]
              rcases (mem' x).mp hx with hx | ⟨i', hi', e⟩
              · obtain ⟨g1, j, q', _, g2, g3⟩ := (mem x).mp hx
                exact ⟨g1, by unfold chosen; rw [List.any_eq_true.mpr ⟨q', List.mem_of_getElem? g2, g3⟩, Bool.or_true]⟩
              · obtain ⟨g1, g3⟩ := (char x).mp ⟨i', by omega, e⟩
                exact ⟨g1, by unfold chosen; rw [List.any_eq_true.mpr ⟨q, List.mem_of_getElem? hq, g3⟩, Bool.or_true]⟩
            omega
          refine ⟨_, rfl, ⟨sp, S, m, rfl, hS⟩, _, rfl, sp, _, S, m, rfl, rfl, hS, by rw [hm]; show ms'.length + 1 < 4096; omega, _, rfl, ⟨ms2, h5, fun x => ?_⟩, fun b o e => (upd_ne (ne_of_none e hsp)).trans (s2 _ _ e)⟩
          rw [h6, mem']
          constructor
          · rintro ((z | ⟨i', hi', e⟩) | e)
            · exact Or.inl z
            · exact Or.inr ⟨i', by omega, e⟩
            · exact Or.inr ⟨k, by omega, e⟩
          · rintro (z | ⟨i', hi', e⟩)
            · exact Or.inl (Or.inl z)
            · rcases Nat.lt_or_eq_of_le (Nat.le_of_lt_succ hi') with h | rfl
              · exact Or.inl (Or.inr ⟨i', h, e⟩)
              · exact Or.inr e
        · rintro σ' H2 ⟨v7, rfl, ⟨ms', hms', mem'⟩, s2⟩
          refine ⟨_, _, _, _, rfl, ⟨ms', hms', fun x => ?_⟩, s2⟩
          rw [mem', mem, char]
          constructor
          · rintro (⟨g1, j, q', g2, g3, g4⟩ | ⟨g1, g4⟩)
            · exact ⟨g1, j, q', by omega, g3, g4⟩
            · exact ⟨g1, i, q, by omega, hq, g4⟩
          · rintro ⟨g1, j, q', g2, g3, g4⟩
            rcases Nat.lt_or_eq_of_le (Nat.le_of_lt_succ g2) with h | rfl
            · exact Or.inl ⟨g1, j, q', h, g3, g4⟩
            · rw [hq] at g3
              cases g3
              exact Or.inr ⟨g1, g4⟩
      · rintro σ' H1 ⟨v4, v5, v6, v7, rfl, ⟨ms, hms, mem⟩, s1⟩
        obtain ⟨S, hS, nd, hSm⟩ := hms
        have sub : ∀ x, x ∈ ms ↔ x ∈ numsOf ps lo hi := fun x => by
          rw [mem, mem_nums]
          unfold chosen
          rw [e1, Bool.false_or, List.any_eq_true]
          constructor
          · rintro ⟨g1, j, q, _, g2, g3⟩
            exact ⟨g1, q, List.mem_of_getElem? g2, g3⟩
          · rintro ⟨g1, q, g2, g3⟩
            obtain ⟨j, hj, e⟩ := List.mem_iff_getElem.mp g2
            exact ⟨g1, j, q, by omega, by rw [List.getElem?_eq_getElem hj, e], g3⟩
        have lm := nodup_sub nd fun x hx => (sub x).mp hx
        refine ⟨_, rfl, sp, S, _, rfl, hS, by omega, fun ns pp hs hmm _ hpp => ⟨pp, _, rfl, Or.inl ⟨SqL.of upd_same, fun t ht => k t _ ?_ (s1.trans ((Same.new hpp).trans (Same.new ht)))⟩⟩⟩
        rw [upd_same, sorted_eq hs (sorted_nums ps lo hi) fun x => by rw [hmm, hSm, sub]]
end
end My

namespace My
open PySem L2
/-! ### 9. conditions -/
inductive Cd where
  | md (ps : List Part) (fe : Bool)
  | wd (ps : List Part)
  | mo (ps : List Part)
  | nth (n v : Int) (fe : Bool)
  | ev (s f : Int)
  | fr (d : Int)
  | un (d : Int)
  | no (ds : List Int)
open Classical in
noncomputable def dateOf (c : Cal) (n : Int) : Int × Int × Int × Nat := if h : ∃ x : Int × Int × Int × Nat, IsDate c n x.1 x.2.1 x.2.2.1 x.2.2.2 then h.choose else (0, 0, 0, 0)
theorem dateOf_eq {c : Cal} (ok : OkCal c) {n y m d : Int} {j : Nat} (I : IsDate c n y m d j) : dateOf c n = (y, m, d, j) := by
  unfold dateOf
  have h : ∃ x : Int × Int × Int × Nat, IsDate c n x.1 x.2.1 x.2.2.1 x.2.2.2 := ⟨(y, m, d, j), I⟩
  rw [dif_pos h]
  obtain ⟨e1, e2, e3, e4⟩ := h.choose_spec.uniq ok I
  exact Prod.ext e1 (Prod.ext e2 (Prod.ext e3 e4))
/-- does the condition hold on day n -/
noncomputable def cdOn (c : Cal) (n : Int) : Cd → Bool
  | .md ps fe => chosen ps (if fe = true then dim c (dateOf c n).1 (dateOf c n).2.2.2 - (dateOf c n).2.2.1 + 1 else (dateOf c n).2.2.1)
  | .wd ps => chosen ps ((c.first + n) % c.week)
  | .mo ps => chosen ps (dateOf c n).2.1
  | .nth k v fe => decide ((c.first + n) % c.week = v) && decide ((if fe = true then dim c (dateOf c n).1 (dateOf c n).2.2.2 - (dateOf c n).2.2.1 else (dateOf c n).2.2.1 - 1) / c.week = k - 1)
  | .ev s f => decide (n ≥ f) && decide ((n - f) % s = 0)
  | .fr d => decide (n ≥ d)
  | .un d => decide (n ≤ d)
  | .no ds => !decide (n ∈ ds)
/-- the days of NotOn: the first wrong place -/
def badAt (ds : List Int) (i : Nat) : Prop := i < ds.length ∧ (i = 100 ∨ ¬ (0 ≤ ds.getD i 0 ∧ ds.getD i 0 ≤ 100000) ∨ (0 < i ∧ ds.getD i 0 ≤ ds.getD (i - 1) 0))
def TxtL (B : Nat) (x : Str) : Prop := x.length ≤ B
/-- the object of a condition -/
def CdAt (a : Ad) (K : PySem.W.Frag) (H : Hp) (p : Addr) : Cd → Prop
  | .md ps fe => ∃ dx ch x, H p = some (.ins a.c_MonthDays dx [("choice", .ref ch), ("from_end", .bl fe), ("text", .str x)]) ∧ ChAt a.c_Choice K H ch ps ∧ x.length ≤ 70100
  | .wd ps => ∃ dx ch x, H p = some (.ins a.c_Weekdays dx [("choice", .ref ch), ("text", .str x)]) ∧ ChAt a.c_Choice K H ch ps ∧ x.length ≤ 70100
  | .mo ps => ∃ dx ch x, H p = some (.ins a.c_Months dx [("choice", .ref ch), ("text", .str x)]) ∧ ChAt a.c_Choice K H ch ps ∧ x.length ≤ 70100
  | .nth k v fe => ∃ dx x, H p = some (.ins a.c_NthWeekday dx [("nth", .int k), ("weekday", .int v), ("from_end", .bl fe), ("text", .str x)]) ∧ x.length ≤ 70100
  | .ev s f => (∃ dx x, H p = some (.ins a.c_EveryDays dx [("step", .int s), ("first", .int f), ("text", .str x)]) ∧ x.length ≤ 70100) ∧ 1 ≤ s
  | .fr d => ∃ dx x, H p = some (.ins a.c_FromDay dx [("day", .int d), ("text", .str x)]) ∧ x.length ≤ 70100
  | .un d => ∃ dx x, H p = some (.ins a.c_UntilDay dx [("day", .int d), ("text", .str x)]) ∧ x.length ≤ 70100
  | .no ds => ∃ dx dt x, H p = some (.ins a.c_NotOn dx [("days", .ref dt), ("text", .str x)]) ∧ SqT K H dt (ds.map V.int) ∧ x.length ≤ 70100
theorem CdAt.same {a : Ad} {K : PySem.W.Frag} {H H' : Hp} {p : Addr} {cd : Cd} (h : CdAt a K H p cd) (s : Same H H') : CdAt a K H' p cd := by
  cases cd with
  | md ps fe => obtain ⟨dx, ch, x, h1, h2, h3⟩ := h; exact ⟨dx, ch, x, s _ _ h1, h2.same s, h3⟩
  | wd ps => obtain ⟨dx, ch, x, h1, h2, h3⟩ := h; exact ⟨dx, ch, x, s _ _ h1, h2.same s, h3⟩
  | mo ps => obtain ⟨dx, ch, x, h1, h2, h3⟩ := h; exact ⟨dx, ch, x, s _ _ h1, h2.same s, h3⟩
  | nth k v fe => obtain ⟨dx, x, h1, h3⟩ := h; exact ⟨dx, x, s _ _ h1, h3⟩
  | ev k f => obtain ⟨⟨dx, x, h1, h3⟩, h4⟩ := h; exact ⟨⟨dx, x, s _ _ h1, h3⟩, h4⟩
  | fr d => obtain ⟨dx, x, h1, h3⟩ := h; exact ⟨dx, x, s _ _ h1, h3⟩
  | un d => obtain ⟨dx, x, h1, h3⟩ := h; exact ⟨dx, x, s _ _ h1, h3⟩
  | no ds => obtain ⟨dx, dt, x, h1, h2, h3⟩ := h; exact ⟨dx, dt, x, s _ _ h1, s.sqT h2, h3⟩
def spLast : Sp := fun vs H Q _ => ∃ b : Bool, vs = [.bl b] ∧ ∀ x : Str, x.length ≤ 5 → Q (.str x) H
def spBad (K : PySem.W.Frag) : Sp := fun vs H Q _ => ∃ (m : Addr) (ds : List Int), vs = [.ref m] ∧ SqA K H m (ds.map V.int) ∧
  (ds = [] → Q (.int 0) H) ∧ (∀ i, badAt ds i → (∀ j, j < i → ¬ badAt ds j) → ∀ H', Same H H' → Q (.int (i : Nat)) H') ∧ (ds ≠ [] → (∀ i, ¬ badAt ds i) → ∀ H', Same H H' → Q .non H')
section
variable {P : Program} {w : World} {K : PySem.W.Frag} {mg : Str → Option Value} {base : Heap} {a : Ad}
theorem G_last_word (T : Tx K mg a) : FnOk P w K mg base CX0 1 a.f_last_word a.d_last_word ["from_end"] spLast := by
  refine T.F_last_word.ok sc_last_word (fun vs H Q E h => ?_) (fun cdv A outer s H vs Q E hr h => ?_)
  · obtain ⟨b, rfl, _⟩ := h
    rfl
  · obtain ⟨b, rfl, k⟩ := h
    refine ⟨_, (pss_one (ps_ret (pe_ifExp (pt_truth (pv 0) (by intro _; rfl)) pe_str pe_str))), ?_⟩
    refine ⟨_, rfl, b, rfl, ?_⟩
    cases b with
    | true => exact iteT (k _ (by decide))
    | false => exact iteF (k _ (by decide))
theorem G_bad_day (T : Tx K mg a) : FnOk P w K mg base CX0 1 a.f_bad_day a.d_bad_day ["days"] (spBad K) := by
  refine T.F_bad_day.ok sc_bad_day (fun vs H Q E h => ?_) (fun cdv A outer s H vs Q E hr h => ?_)
  · obtain ⟨m, ds, rfl, _⟩ := h
    rfl
  · obtain ⟨m, ds, rfl, hm, k1, k2, k3⟩ := h
    refine ⟨_, (pss_cons (ps_if (pt_not (pt_truth (pv 0) (by intro _; rfl))) (pss_one (ps_ret pe_int)) pss_nil)
      (pss_cons (ps_for PassesOwn.never rfl (pi_enumA (by rfl) T.n_enumerate (pa_cons (pv 0) pa_nil)) (pg_tup rfl (pgs_cons (pg_name (i := 1) sc_bad_day.nd rfl (Or.inl rfl)) (pgs_cons (pg_name (i := 2) sc_bad_day.nd rfl (Or.inl rfl)) pgs_nil))) (pss_cons (ps_if (pt_cmpR op_eq (pv 1) (pe_glob (v := .int 100) rfl T.g_MOST_DAYS.choose_spec ⟨_, rfl⟩) (nomark _)) (pss_one (ps_ret (pv 1))) pss_nil)
      (pss_cons (ps_if (pt_not (pt_chain op_le op_le pe_int (pv 2) (pe_glob (v := .int 100000) rfl T.g_MOST_DAY.choose_spec ⟨_, rfl⟩))) (pss_one (ps_ret (pv 1))) pss_nil)
      (pss_one (ps_if (PW.pt (pw_and (pt_cmpR op_gt (pv 1) pe_int (nomark _)) (pw_and1 (pt_cmpR op_le (pv 2) (pe_ix ix_seq (pv 0) (pe_op op_sub (pv 1) pe_int) (fun _ _ => rfl)) (nomark _))))) (pss_one (ps_ret (pv 1))) pss_nil)))))
      (pss_one (ps_ret pe_non)))), ?_⟩
    have hl : (ds.map V.int).length = ds.length := List.length_map ..
    refine st_guard (q := (ds.map V.int).isEmpty = true) (b := !!(ds.map V.int).isEmpty) (ans_not (ans_tru (val_var (i := 0) rfl) (hm.elim (fun z => Or.inl ⟨_, z, rfl⟩) fun z => Or.inr (Or.inl ⟨_, z, rfl⟩)))) (by simp) (fun z => k1 (by simpa using z)) fun z => ?_
    have ne : ds ≠ [] := fun e => z (by rw [e]; rfl)
    refine st_seq (st_forEA (a := m) (xs := ds.map V.int) (fun R q => ⟨_, rfl, q⟩) hm (fun i σ' H' => ∃ v1 v2, σ' = [some (.ref m), v1, v2] ∧ Same H H' ∧ ∀ j, j < i → ¬ badAt ds j) ⟨none, none, rfl, Same.refl H, fun j z => absurd z (Nat.not_lt_zero _)⟩ (fun i σ' H' ⟨_, _, _, z, _⟩ => z) ?_ ?_)
    · rintro i x U σ' H1 hx ⟨v1, v2, rfl, s1, no⟩ hU
      obtain ⟨d, hd, rfl⟩ := ints_get hx
      have s2 := s1.trans (Same.new (o := .tup [.int (i : Nat), .int d]) hU)
      have il : i < ds.length := (List.getElem?_eq_some_iff.mp hd).1
      have gd : ds.getD i 0 = d := by simp [List.getD, hd]
      refine ⟨U, _, rfl, SqT.of upd_same, rfl, _, _, rfl, _, _, rfl, rfl, ?_⟩
      dsimp only
      refine st_guard (q := i = 100) (a_eq (val_var (i := 1) (v := .int (i : Nat)) rfl) val_c) (by simp; omega) (fun c => ?_) fun c => ?_
      · exact ⟨_, rfl, k2 i ⟨il, Or.inl c⟩ no _ s2⟩
      refine st_guard (q := ¬ (0 ≤ d ∧ d ≤ 100000)) (ans_not (a_val (v_chain (f := fun i j => decide (i ≤ j)) (g := fun i j => decide (i ≤ j)) val_c (val_var (i := 2) (v := .int d) rfl) val_c))) (by simp; omega) (fun c2 => ?_) fun c2 => ?_
      · exact ⟨_, rfl, k2 i ⟨il, Or.inr (Or.inl (by rw [gd]; exact c2))⟩ no _ s2⟩
      refine st_ifp (q := 0 < i ∧ d ≤ ds.getD (i - 1) 0) (b := decide (0 < (i : Int)) && decide (d ≤ ds.getD (i - 1) 0)) (a_and (a_cmp (f := fun i j => decide (j < i)) (val_var (i := 1) (v := .int (i : Nat)) rfl) val_c) fun pos => a_cmp (f := fun i j => decide (i ≤ j)) (val_var (i := 2) (v := .int d) rfl) ?_) (by simp) (fun c3 => ?_) fun c3 => ?_
      · have ip : 0 < i := by simpa using pos
        obtain ⟨e, he⟩ : ∃ e, ds[i - 1]? = some e := ⟨_, List.getElem?_eq_getElem (by omega)⟩
        have ge : ds.getD (i - 1) 0 = e := by simp [List.getD, he]
        rw [ge]
        intro Q' q'
        refine ⟨_, rfl, _, rfl, _, _, rfl, rfl, ?_⟩
        have at' : atI (ds.map V.int) ((i : Int) - 1) = some (.int e) := at_of (j := i - 1) (by omega) (ints_at he)
        rcases hm with hm | hm
        · exact Or.inl ⟨m, _, _, _, rfl, rfl, s2.seq hm, at', q'⟩
        · exact Or.inr (Or.inl ⟨m, _, _, _, rfl, rfl, s2.sqT hm, at', q'⟩)
      · exact ⟨_, rfl, k2 i ⟨il, Or.inr (Or.inr (by rw [gd]; exact c3))⟩ no _ s2⟩
      · refine ⟨_, _, rfl, s2, fun j hj z => ?_⟩
        rcases Nat.lt_or_eq_of_le (Nat.le_of_lt_succ hj) with h | rfl
        · exact no j h z
        · rcases z.2 with z | z | z
          · exact c z
          · rw [gd] at z; exact c2 z
          · rw [gd] at z; exact c3 z
    · rintro σ' H1 ⟨v1, v2, rfl, s1, no⟩
      exact k3 ne (fun i z => no i (by rw [hl]; exact z.1) z) H1 s1
end
end My

namespace My
open PySem L2
theorem ChAt.but {C D : Addr} {K : PySem.W.Frag} {H H' : Hp} {p q dx : Addr} {fs : List (Str × V)} {ps : List Part} (h : ChAt C K H q ps) (hp : H p = some (.ins D dx fs)) (n : q ≠ p) (b : But p H H') : ChAt C K H' q ps := by
  obtain ⟨dx', pt, txt, as, h1, h2, h3, h4⟩ := h
  exact ⟨dx', pt, txt, as, b _ _ h1 n, b.keepT hp h2, ⟨h3.1, fun i q e => let ⟨t, z1, z2⟩ := h3.2 i q e; ⟨t, z1, b _ _ z2 (ne_of z2 hp (by intro z; cases z))⟩⟩, h4⟩
theorem ChAt.ne {C D : Addr} {K : PySem.W.Frag} {H : Hp} {p q dx : Addr} {ps : List Part} (h : ChAt C K H q ps) (hp : H p = some (.ins D dx [])) : q ≠ p := by
  obtain ⟨dx', pt, txt, as, h1, _⟩ := h
  intro z
  rw [z, hp] at h1
  cases h1
def spMdInit (a : Ad) (K : PySem.W.Frag) : Sp := fun vs H Q _ => ∃ (p dx ch : Addr) (ps : List Part) (fe : Bool), vs = [.ref p, .ref ch, .bl fe] ∧ H p = some (.ins a.c_MonthDays dx []) ∧ ChAt a.c_Choice K H ch ps ∧ ∀ H', CdAt a K H' p (.md ps fe) → But p H H' → Q .non H'
def spWdInit (a : Ad) (K : PySem.W.Frag) : Sp := fun vs H Q _ => ∃ (p dx ch : Addr) (ps : List Part), vs = [.ref p, .ref ch] ∧ H p = some (.ins a.c_Weekdays dx []) ∧ ChAt a.c_Choice K H ch ps ∧ ∀ H', CdAt a K H' p (.wd ps) → But p H H' → Q .non H'
def spMoInit (a : Ad) (K : PySem.W.Frag) : Sp := fun vs H Q _ => ∃ (p dx ch : Addr) (ps : List Part), vs = [.ref p, .ref ch] ∧ H p = some (.ins a.c_Months dx []) ∧ ChAt a.c_Choice K H ch ps ∧ ∀ H', CdAt a K H' p (.mo ps) → But p H H' → Q .non H'
def spNthInit (a : Ad) (K : PySem.W.Frag) : Sp := fun vs H Q E => ∃ (p dx : Addr) (n v : Int) (fe : Bool), vs = [.ref p, .int n, .int v, .bl fe] ∧ H p = some (.ins a.c_NthWeekday dx []) ∧ (¬ (1 ≤ n ∧ n ≤ 9) → Out a E H (.rng "nth" n)) ∧ ((1 ≤ n ∧ n ≤ 9) → ¬ (0 ≤ v ∧ v ≤ 9) → Out a E H (.rng "weekday" v)) ∧
  ((1 ≤ n ∧ n ≤ 9) → (0 ≤ v ∧ v ≤ 9) → ∀ H', CdAt a K H' p (.nth n v fe) → But p H H' → Q .non H')
def spEvInit (a : Ad) (K : PySem.W.Frag) : Sp := fun vs H Q E => ∃ (p dx : Addr) (s f : Int), vs = [.ref p, .int s, .int f] ∧ H p = some (.ins a.c_EveryDays dx []) ∧ (¬ (1 ≤ s ∧ s ≤ 10000) → Out a E H (.rng "step" s)) ∧ ((1 ≤ s ∧ s ≤ 10000) → ¬ (0 ≤ f ∧ f ≤ 100000) → Out a E H (.rng "first" f)) ∧
  ((1 ≤ s ∧ s ≤ 10000) → (0 ≤ f ∧ f ≤ 100000) → ∀ H', CdAt a K H' p (.ev s f) → But p H H' → Q .non H')
def spFrInit (a : Ad) (K : PySem.W.Frag) : Sp := fun vs H Q E => ∃ (p dx : Addr) (d : Int), vs = [.ref p, .int d] ∧ H p = some (.ins a.c_FromDay dx []) ∧ (¬ (0 ≤ d ∧ d ≤ 100000) → Out a E H (.rng "day" d)) ∧ ((0 ≤ d ∧ d ≤ 100000) → ∀ H', CdAt a K H' p (.fr d) → But p H H' → Q .non H')
def spUnInit (a : Ad) (K : PySem.W.Frag) : Sp := fun vs H Q E => ∃ (p dx : Addr) (d : Int), vs = [.ref p, .int d] ∧ H p = some (.ins a.c_UntilDay dx []) ∧ (¬ (0 ≤ d ∧ d ≤ 100000) → Out a E H (.rng "day" d)) ∧ ((0 ≤ d ∧ d ≤ 100000) → ∀ H', CdAt a K H' p (.un d) → But p H H' → Q .non H')
def spNoInit (a : Ad) (K : PySem.W.Frag) : Sp := fun vs H Q E => ∃ (p dx m : Addr) (ds : List Int), vs = [.ref p, .ref m] ∧ H p = some (.ins a.c_NotOn dx []) ∧ SqA K H m (ds.map V.int) ∧ (ds = [] → OutD a E H 0) ∧ (∀ i, badAt ds i → (∀ j, j < i → ¬ badAt ds j) → ∀ H1, Same H H1 → OutD a E H1 (i : Nat)) ∧
  (ds ≠ [] → (∀ i, ¬ badAt ds i) → ∀ H', CdAt a K H' p (.no ds) → But p H H' → Q .non H')
theorem len6 {i : Int} (h0 : 0 ≤ i) (h1 : i ≤ 100000) : (toString i : Str).length ≤ 6 := PyProof.Rows.toString_length_le h0 (by decide) (by omega)
theorem fits {x : Str} {n : Nat} (h : x.length ≤ n) (hn : n ≤ 80000) : x.length ≤ sizeLine := Nat.le_trans h (Nat.le_trans hn (by decide))
section
variable {P : Program} {w : World} {K : PySem.W.Frag} {mg : Str → Option Value} {base : Heap} {a : Ad}
theorem G_MonthDays_init (T : Tx K mg a) : FnOk P w K mg base CX0 2 a.f_MonthDays_init a.d_MonthDays_init ["self", "choice", "from_end"] (spMdInit a K) := by
  refine T.F_MonthDays_init.ok sc_MonthDays_init (fun vs H Q E h => ?_) (fun cdv A outer s H vs Q E hr h => ?_)
  · obtain ⟨p, dx, ch, ps, fe, rfl, _⟩ := h
    rfl
  · obtain ⟨p, dx, ch, ps, fe, rfl, hp, hc, k⟩ := h
    refine ⟨_, (pss_cons (ps_fld (pv 0) (pv 1) rfl)
      (pss_cons (ps_fld (pv 0) (pv 2) rfl)
      (pss_one (ps_fld (pv 0) (pe_joined (.cons pe_str (.cons (pe_fmt (pe_call (G_last_word T) (hr.mono (by decide)) rfl T.g_last_word T.F_last_word.kp T.b_last_word .nil pass0 (pa_cons (pv 2) pa_nil))) (.cons (pe_fmt (pe_fld (pv 1) rfl)) .nil)))) rfl)))), ?_⟩
    have nc := hc.ne hp
    refine st_mk (y := .ref ch) (val_var (i := 1) rfl) (val_var (i := 0) rfl) hp T.cl_MonthDays T.no_MonthDays_choice (by show 0 < 1000; decide) fun H1 q1 b1 => ?_
    have hp1 : H1 p = some (.ins a.c_MonthDays dx [("choice", .ref ch)]) := q1.trans (by kernel_rfl)
    refine st_mk (y := .bl fe) (val_var (i := 2) rfl) (val_var (i := 0) rfl) hp1 T.cl_MonthDays T.no_MonthDays_from_end (by show 1 < 1000; decide) fun H2 q2 b2 => ?_
    have hp2 : H2 p = some (.ins a.c_MonthDays dx [("choice", .ref ch), ("from_end", .bl fe)]) := q2.trans (by kernel_rfl)
    have b3 := b1.trans b2
    have hc2 := hc.but hp nc b3
    obtain ⟨dxc, pt, txt, as, c1, c2, c3, ct, c4⟩ := id hc2
    have l0 : (Str.empty ++ ("on " : Str)).length = 3 := rfl
    refine ⟨_, rfl, fits (n := 3) (by rw [l0]; exact Nat.le_refl _) (by decide), _, rfl, fe, rfl, fun y hy => Or.inl ⟨y, rfl, fits hy (by decide), _, rfl, fits (n := 8) (by rw [strLen_append, l0]; omega) (by decide), ?_⟩⟩
    refine ⟨_, rfl, ch, _, dxc, _, _, rfl, c1, T.cl_Choice, T.no_Choice_text, (by kernel_rfl : List.lookup _ _ = some (V.str txt)), Or.inl ⟨txt, rfl, fits ct (by decide), _, rfl, fits (n := 70008) (by rw [strLen_append, strLen_append, l0]; omega) (by decide), ?_⟩⟩
    have fin : ∀ x : Str, x.length ≤ 70100 → ∃ a0 C dx0 fs, V.ref p = .ref a0 ∧ H2 a0 = some (.ins C dx0 fs) ∧ Cls K C ∧ NoAttr K C "text" ∧ fs.length < 1000 ∧ Q .non (upd H2 a0 (.ins C dx0 (putF "text" (.str x) fs))) := fun x hx => ⟨p, _, dx, _, rfl, hp2, T.cl_MonthDays, T.no_MonthDays_text, by show 2 < 1000; decide, k _ ⟨dx, ch, x, upd_same.trans (by kernel_rfl), hc2.but hp2 nc (But.refl p H2).upd, hx⟩ (b3.trans (But.refl p H2).upd)⟩
    exact ⟨_, rfl, fin _ (by rw [strLen_append, strLen_append, l0]; omega)⟩
theorem G_Weekdays_init (T : Tx K mg a) : FnOk P w K mg base CX0 1 a.f_Weekdays_init a.d_Weekdays_init ["self", "choice"] (spWdInit a K) := by
  refine T.F_Weekdays_init.ok sc_Weekdays_init (fun vs H Q E h => ?_) (fun cdv A outer s H vs Q E hr h => ?_)
  · obtain ⟨p, dx, ch, ps, rfl, _⟩ := h
    rfl
  · obtain ⟨p, dx, ch, ps, rfl, hp, hc, k⟩ := h
    refine ⟨_, (pss_cons (ps_fld (pv 0) (pv 1) rfl)
      (pss_one (ps_fld (pv 0) (pe_joined (.cons pe_str (.cons (pe_fmt (pe_fld (pv 1) rfl)) .nil))) rfl))), ?_⟩
    have nc := hc.ne hp
    refine st_mk (y := .ref ch) (val_var (i := 1) rfl) (val_var (i := 0) rfl) hp T.cl_Weekdays T.no_Weekdays_choice (by show 0 < 1000; decide) fun H1 q1 b1 => ?_
    have hp1 : H1 p = some (.ins a.c_Weekdays dx [("choice", .ref ch)]) := q1.trans (by kernel_rfl)
    have hc2 := hc.but hp nc b1
    obtain ⟨dxc, pt, txt, as, c1, c2, c3, ct, c4⟩ := id hc2
    have l0 : (Str.empty ++ ("weekdays " : Str)).length = 9 := rfl
    refine ⟨_, rfl, fits (n := 9) (by rw [l0]; exact Nat.le_refl _) (by decide), ?_⟩
    refine ⟨_, rfl, ch, _, dxc, _, _, rfl, c1, T.cl_Choice, T.no_Choice_text, (by kernel_rfl : List.lookup _ _ = some (V.str txt)), Or.inl ⟨txt, rfl, fits ct (by decide), _, rfl, fits (n := 70009) (by rw [strLen_append, l0]; omega) (by decide), ?_⟩⟩
    have fin : ∀ x : Str, x.length ≤ 70100 → ∃ a0 C dx0 fs, V.ref p = .ref a0 ∧ H1 a0 = some (.ins C dx0 fs) ∧ Cls K C ∧ NoAttr K C "text" ∧ fs.length < 1000 ∧ Q .non (upd H1 a0 (.ins C dx0 (putF "text" (.str x) fs))) := fun x hx => ⟨p, _, dx, _, rfl, hp1, T.cl_Weekdays, T.no_Weekdays_text, by show 1 < 1000; decide, k _ ⟨dx, ch, x, upd_same.trans (by kernel_rfl), hc2.but hp1 nc (But.refl p H1).upd, hx⟩ (b1.trans (But.refl p H1).upd)⟩
    exact ⟨_, rfl, fin _ (by rw [strLen_append, l0]; omega)⟩
theorem G_Months_init (T : Tx K mg a) : FnOk P w K mg base CX0 1 a.f_Months_init a.d_Months_init ["self", "choice"] (spMoInit a K) := by
  refine T.F_Months_init.ok sc_Months_init (fun vs H Q E h => ?_) (fun cdv A outer s H vs Q E hr h => ?_)
  · obtain ⟨p, dx, ch, ps, rfl, _⟩ := h
    rfl
  · obtain ⟨p, dx, ch, ps, rfl, hp, hc, k⟩ := h
    refine ⟨_, (pss_cons (ps_fld (pv 0) (pv 1) rfl)
      (pss_one (ps_fld (pv 0) (pe_joined (.cons pe_str (.cons (pe_fmt (pe_fld (pv 1) rfl)) .nil))) rfl))), ?_⟩
    have nc := hc.ne hp
    refine st_mk (y := .ref ch) (val_var (i := 1) rfl) (val_var (i := 0) rfl) hp T.cl_Months T.no_Months_choice (by show 0 < 1000; decide) fun H1 q1 b1 => ?_
    have hp1 : H1 p = some (.ins a.c_Months dx [("choice", .ref ch)]) := q1.trans (by kernel_rfl)
    have hc2 := hc.but hp nc b1
    obtain ⟨dxc, pt, txt, as, c1, c2, c3, ct, c4⟩ := id hc2
    have l0 : (Str.empty ++ ("months " : Str)).length = 7 := rfl
    refine ⟨_, rfl, fits (n := 7) (by rw [l0]; exact Nat.le_refl _) (by decide), ?_⟩
    refine ⟨_, rfl, ch, _, dxc, _, _, rfl, c1, T.cl_Choice, T.no_Choice_text, (by kernel_rfl : List.lookup _ _ = some (V.str txt)), Or.inl ⟨txt, rfl, fits ct (by decide), _, rfl, fits (n := 70009) (by rw [strLen_append, l0]; omega) (by decide), ?_⟩⟩
    have fin : ∀ x : Str, x.length ≤ 70100 → ∃ a0 C dx0 fs, V.ref p = .ref a0 ∧ H1 a0 = some (.ins C dx0 fs) ∧ Cls K C ∧ NoAttr K C "text" ∧ fs.length < 1000 ∧ Q .non (upd H1 a0 (.ins C dx0 (putF "text" (.str x) fs))) := fun x hx => ⟨p, _, dx, _, rfl, hp1, T.cl_Months, T.no_Months_text, by show 1 < 1000; decide, k _ ⟨dx, ch, x, upd_same.trans (by kernel_rfl), hc2.but hp1 nc (But.refl p H1).upd, hx⟩ (b1.trans (But.refl p H1).upd)⟩
    exact ⟨_, rfl, fin _ (by rw [strLen_append, l0]; omega)⟩
theorem G_NthWeekday_init (T : Tx K mg a) : FnOk P w K mg base (L2.CX P w) 4 a.f_NthWeekday_init a.d_NthWeekday_init ["self", "nth", "weekday", "from_end"] (spNthInit a K) := by
  refine T.F_NthWeekday_init.okX sc_NthWeekday_init (fun vs H Q E h => ?_) (fun cdv A outer s H vs Q E hr h => ?_)
  · obtain ⟨p, dx, n, v, fe, rfl, _⟩ := h
    rfl
  · obtain ⟨p, dx, n, v, fe, rfl, hp, k1, k2, k3⟩ := h
    refine ⟨_, (pss_cons (ps_expr (pe_call (G_in_range T) (hr.mono (by decide)) rfl T.g_in_range T.F_in_range.kp T.b_in_range .nil (passes_call (takes_of rfl rfl rfl rfl) (fun _ _ _ _ h => h)) (pa_cons pe_str (pa_cons (pv 1) (pa_cons pe_int (pa_cons pe_int pa_nil))))))
      (pss_cons (ps_expr (pe_call (G_in_range T) (hr.mono (by decide)) rfl T.g_in_range T.F_in_range.kp T.b_in_range .nil (passes_call (takes_of rfl rfl rfl rfl) (fun _ _ _ _ h => h)) (pa_cons pe_str (pa_cons (pv 2) (pa_cons pe_int (pa_cons pe_int pa_nil))))))
      (pss_cons (ps_fld (pv 0) (pv 1) rfl)
      (pss_cons (ps_fld (pv 0) (pv 2) rfl)
      (pss_cons (ps_fld (pv 0) (pv 3) rfl)
      (pss_one (ps_fld (pv 0) (pe_joined (.cons pe_str (.cons (pe_fmt (pe_call (G_last_word T) (hr.mono (by decide)) rfl T.g_last_word T.F_last_word.kp T.b_last_word .nil pass0 (pa_cons (pv 3) pa_nil))) (.cons (pe_fmt (pv 1)) (.cons pe_str (.cons (pe_fmt (pv 2)) .nil)))))) rfl))))))), ?_⟩
    refine st_do ⟨_, rfl, "nth", n, 1, 9, rfl, fun z1 => ?_, fun z => k1 z⟩
    refine st_do ⟨_, rfl, "weekday", v, 0, 9, rfl, fun z2 => ?_, fun z => k2 z1 z⟩
    have k := k3 z1 z2
    refine st_mk (y := .int n) (val_var (i := 1) rfl) (val_var (i := 0) rfl) hp T.cl_NthWeekday T.no_NthWeekday_nth (by show 0 < 1000; decide) fun H1 q1 b1 => ?_
    have hp1 : H1 p = some (.ins a.c_NthWeekday dx [("nth", .int n)]) := q1.trans (by kernel_rfl)
    refine st_mk (y := .int v) (val_var (i := 2) rfl) (val_var (i := 0) rfl) hp1 T.cl_NthWeekday T.no_NthWeekday_weekday (by show 1 < 1000; decide) fun H2 q2 b2 => ?_
    have hp2 : H2 p = some (.ins a.c_NthWeekday dx [("nth", .int n), ("weekday", .int v)]) := q2.trans (by kernel_rfl)
    refine st_mk (y := .bl fe) (val_var (i := 3) rfl) (val_var (i := 0) rfl) hp2 T.cl_NthWeekday T.no_NthWeekday_from_end (by show 2 < 1000; decide) fun H3 q3 b3 => ?_
    have hp3 : H3 p = some (.ins a.c_NthWeekday dx [("nth", .int n), ("weekday", .int v), ("from_end", .bl fe)]) := q3.trans (by kernel_rfl)
    have b4 := b1.trans (b2.trans b3)
    have l0 : (Str.empty ++ ("nth " : Str)).length = 4 := rfl
    have l1 : ((" of " : Str)).length = 4 := rfl
    have g1 := len4 (i := n) (by omega) (by omega)
    have g2 := len4 (i := v) (by omega) (by omega)
    refine ⟨_, rfl, fits (n := 4) (by rw [l0]; exact Nat.le_refl _) (by decide), _, rfl, fe, rfl, fun y hy => Or.inl ⟨y, rfl, fits hy (by decide), _, rfl, fits (n := 9) (by rw [strLen_append, l0]; omega) (by decide), ?_⟩⟩
    refine ⟨_, rfl, Or.inr ⟨n, rfl, log_lt (by omega) (Int.le_trans (by omega : n ≤ 9) (by decide)), _, rfl, fits (n := 13) (by rw [strLen_append, strLen_append, l0]; omega) (by decide), ?_⟩⟩
    refine ⟨_, rfl, fits (n := 17) (by rw [strLen_append, strLen_append, strLen_append, l0, l1]; omega) (by decide), ?_⟩
    refine ⟨_, rfl, Or.inr ⟨v, rfl, log_lt (by omega) (Int.le_trans (by omega : v ≤ 9) (by decide)), _, rfl, fits (n := 21) (by rw [strLen_append, strLen_append, strLen_append, strLen_append, l0, l1]; omega) (by decide), ?_⟩⟩
    have fin : ∀ x : Str, x.length ≤ 70100 → ∃ a0 C dx0 fs, V.ref p = .ref a0 ∧ H3 a0 = some (.ins C dx0 fs) ∧ Cls K C ∧ NoAttr K C "text" ∧ fs.length < 1000 ∧ Q .non (upd H3 a0 (.ins C dx0 (putF "text" (.str x) fs))) := fun x hx => ⟨p, _, dx, _, rfl, hp3, T.cl_NthWeekday, T.no_NthWeekday_text, by show 3 < 1000; decide, k _ ⟨dx, x, upd_same.trans (by kernel_rfl), hx⟩ (b4.trans (But.refl p H3).upd)⟩
    exact ⟨_, rfl, fin _ (by rw [strLen_append, strLen_append, strLen_append, strLen_append, l0, l1]; omega)⟩
theorem G_EveryDays_init (T : Tx K mg a) : FnOk P w K mg base (L2.CX P w) 4 a.f_EveryDays_init a.d_EveryDays_init ["self", "step", "first"] (spEvInit a K) := by
  refine T.F_EveryDays_init.okX sc_EveryDays_init (fun vs H Q E h => ?_) (fun cdv A outer s H vs Q E hr h => ?_)
  · obtain ⟨p, dx, n, v, rfl, _⟩ := h
    rfl
  · obtain ⟨p, dx, n, v, rfl, hp, k1, k2, k3⟩ := h
    refine ⟨_, (pss_cons (ps_expr (pe_call (G_in_range T) (hr.mono (by decide)) rfl T.g_in_range T.F_in_range.kp T.b_in_range .nil (passes_call (takes_of rfl rfl rfl rfl) (fun _ _ _ _ h => h)) (pa_cons pe_str (pa_cons (pv 1) (pa_cons pe_int (pa_cons pe_int pa_nil))))))
      (pss_cons (ps_expr (pe_call (G_in_range T) (hr.mono (by decide)) rfl T.g_in_range T.F_in_range.kp T.b_in_range .nil (passes_call (takes_of rfl rfl rfl rfl) (fun _ _ _ _ h => h)) (pa_cons pe_str (pa_cons (pv 2) (pa_cons pe_int (pa_cons (pe_glob (v := .int 100000) rfl T.g_MOST_DAY.choose_spec ⟨_, rfl⟩) pa_nil))))))
      (pss_cons (ps_fld (pv 0) (pv 1) rfl)
      (pss_cons (ps_fld (pv 0) (pv 2) rfl)
      (pss_one (ps_fld (pv 0) (pe_joined (.cons pe_str (.cons (pe_fmt (pv 1)) (.cons pe_str (.cons (pe_fmt (pv 2)) .nil))))) rfl)))))), ?_⟩
    refine st_do ⟨_, rfl, "step", n, 1, 10000, rfl, fun z1 => ?_, fun z => k1 z⟩
    refine st_do ⟨_, rfl, "first", v, 0, 100000, rfl, fun z2 => ?_, fun z => k2 z1 z⟩
    have k := k3 z1 z2
    refine st_mk (y := .int n) (val_var (i := 1) rfl) (val_var (i := 0) rfl) hp T.cl_EveryDays T.no_EveryDays_step (by show 0 < 1000; decide) fun H1 q1 b1 => ?_
    have hp1 : H1 p = some (.ins a.c_EveryDays dx [("step", .int n)]) := q1.trans (by kernel_rfl)
    refine st_mk (y := .int v) (val_var (i := 2) rfl) (val_var (i := 0) rfl) hp1 T.cl_EveryDays T.no_EveryDays_first (by show 1 < 1000; decide) fun H2 q2 b2 => ?_
    have hp2 : H2 p = some (.ins a.c_EveryDays dx [("step", .int n), ("first", .int v)]) := q2.trans (by kernel_rfl)
    have b4 := b1.trans b2
    have l0 : (Str.empty ++ ("every " : Str)).length = 6 := rfl
    have l1 : ((" from " : Str)).length = 6 := rfl
    have g1 := len6 (i := n) (by omega) (by omega)
    have g2 := len6 (i := v) (by omega) (by omega)
    refine ⟨_, rfl, fits (n := 6) (by rw [l0]; exact Nat.le_refl _) (by decide), ?_⟩
    refine ⟨_, rfl, Or.inr ⟨n, rfl, log_lt (by omega) (Int.le_trans (by omega : n ≤ 10000) (by decide)), _, rfl, fits (n := 12) (by rw [strLen_append, l0]; omega) (by decide), ?_⟩⟩
    refine ⟨_, rfl, fits (n := 18) (by rw [strLen_append, strLen_append, l0, l1]; omega) (by decide), ?_⟩
    refine ⟨_, rfl, Or.inr ⟨v, rfl, log_lt (by omega) (Int.le_trans (by omega : v ≤ 100000) (by decide)), _, rfl, fits (n := 24) (by rw [strLen_append, strLen_append, strLen_append, l0, l1]; omega) (by decide), ?_⟩⟩
    have fin : ∀ x : Str, x.length ≤ 70100 → ∃ a0 C dx0 fs, V.ref p = .ref a0 ∧ H2 a0 = some (.ins C dx0 fs) ∧ Cls K C ∧ NoAttr K C "text" ∧ fs.length < 1000 ∧ Q .non (upd H2 a0 (.ins C dx0 (putF "text" (.str x) fs))) := fun x hx => ⟨p, _, dx, _, rfl, hp2, T.cl_EveryDays, T.no_EveryDays_text, by show 2 < 1000; decide, k _ ⟨⟨dx, x, upd_same.trans (by kernel_rfl), hx⟩, z1.1⟩ (b4.trans (But.refl p H2).upd)⟩
    exact ⟨_, rfl, fin _ (by rw [strLen_append, strLen_append, strLen_append, l0, l1]; omega)⟩
theorem G_FromDay_init (T : Tx K mg a) : FnOk P w K mg base (L2.CX P w) 4 a.f_FromDay_init a.d_FromDay_init ["self", "day"] (spFrInit a K) := by
  refine T.F_FromDay_init.okX sc_FromDay_init (fun vs H Q E h => ?_) (fun cdv A outer s H vs Q E hr h => ?_)
  · obtain ⟨p, dx, d, rfl, _⟩ := h
    rfl
  · obtain ⟨p, dx, d, rfl, hp, k1, k3⟩ := h
    refine ⟨_, (pss_cons (ps_expr (pe_call (G_in_range T) (hr.mono (by decide)) rfl T.g_in_range T.F_in_range.kp T.b_in_range .nil (passes_call (takes_of rfl rfl rfl rfl) (fun _ _ _ _ h => h)) (pa_cons pe_str (pa_cons (pv 1) (pa_cons pe_int (pa_cons (pe_glob (v := .int 100000) rfl T.g_MOST_DAY.choose_spec ⟨_, rfl⟩) pa_nil))))))
      (pss_cons (ps_fld (pv 0) (pv 1) rfl)
      (pss_one (ps_fld (pv 0) (pe_joined (.cons pe_str (.cons (pe_fmt (pv 1)) .nil))) rfl)))), ?_⟩
    refine st_do ⟨_, rfl, "day", d, 0, 100000, rfl, fun z1 => ?_, fun z => k1 z⟩
    have k := k3 z1
    refine st_mk (y := .int d) (val_var (i := 1) rfl) (val_var (i := 0) rfl) hp T.cl_FromDay T.no_FromDay_day (by show 0 < 1000; decide) fun H1 q1 b1 => ?_
    have hp1 : H1 p = some (.ins a.c_FromDay dx [("day", .int d)]) := q1.trans (by kernel_rfl)
    have l0 : (Str.empty ++ ("since " : Str)).length = 6 := rfl
    have g1 := len6 (i := d) (by omega) (by omega)
    refine ⟨_, rfl, fits (n := 6) (by rw [l0]; exact Nat.le_refl _) (by decide), ?_⟩
    refine ⟨_, rfl, Or.inr ⟨d, rfl, log_lt (by omega) (Int.le_trans (by omega : d ≤ 100000) (by decide)), _, rfl, fits (n := 12) (by rw [strLen_append, l0]; omega) (by decide), ?_⟩⟩
    have fin : ∀ x : Str, x.length ≤ 70100 → ∃ a0 C dx0 fs, V.ref p = .ref a0 ∧ H1 a0 = some (.ins C dx0 fs) ∧ Cls K C ∧ NoAttr K C "text" ∧ fs.length < 1000 ∧ Q .non (upd H1 a0 (.ins C dx0 (putF "text" (.str x) fs))) := fun x hx => ⟨p, _, dx, _, rfl, hp1, T.cl_FromDay, T.no_FromDay_text, by show 1 < 1000; decide, k _ ⟨dx, x, upd_same.trans (by kernel_rfl), hx⟩ (b1.trans (But.refl p H1).upd)⟩
    exact ⟨_, rfl, fin _ (by rw [strLen_append, l0]; omega)⟩
theorem G_UntilDay_init (T : Tx K mg a) : FnOk P w K mg base (L2.CX P w) 4 a.f_UntilDay_init a.d_UntilDay_init ["self", "day"] (spUnInit a K) := by
  refine T.F_UntilDay_init.okX sc_UntilDay_init (fun vs H Q E h => ?_) (fun cdv A outer s H vs Q E hr h => ?_)
  · obtain ⟨p, dx, d, rfl, _⟩ := h
    rfl
  · obtain ⟨p, dx, d, rfl, hp, k1, k3⟩ := h
    refine ⟨_, (pss_cons (ps_expr (pe_call (G_in_range T) (hr.mono (by decide)) rfl T.g_in_range T.F_in_range.kp T.b_in_range .nil (passes_call (takes_of rfl rfl rfl rfl) (fun _ _ _ _ h => h)) (pa_cons pe_str (pa_cons (pv 1) (pa_cons pe_int (pa_cons (pe_glob (v := .int 100000) rfl T.g_MOST_DAY.choose_spec ⟨_, rfl⟩) pa_nil))))))
      (pss_cons (ps_fld (pv 0) (pv 1) rfl)
      (pss_one (ps_fld (pv 0) (pe_joined (.cons pe_str (.cons (pe_fmt (pv 1)) .nil))) rfl)))), ?_⟩
    refine st_do ⟨_, rfl, "day", d, 0, 100000, rfl, fun z1 => ?_, fun z => k1 z⟩
    have k := k3 z1
    refine st_mk (y := .int d) (val_var (i := 1) rfl) (val_var (i := 0) rfl) hp T.cl_UntilDay T.no_UntilDay_day (by show 0 < 1000; decide) fun H1 q1 b1 => ?_
    have hp1 : H1 p = some (.ins a.c_UntilDay dx [("day", .int d)]) := q1.trans (by kernel_rfl)
    have l0 : (Str.empty ++ ("until " : Str)).length = 6 := rfl
    have g1 := len6 (i := d) (by omega) (by omega)
    refine ⟨_, rfl, fits (n := 6) (by rw [l0]; exact Nat.le_refl _) (by decide), ?_⟩
    refine ⟨_, rfl, Or.inr ⟨d, rfl, log_lt (by omega) (Int.le_trans (by omega : d ≤ 100000) (by decide)), _, rfl, fits (n := 12) (by rw [strLen_append, l0]; omega) (by decide), ?_⟩⟩
    have fin : ∀ x : Str, x.length ≤ 70100 → ∃ a0 C dx0 fs, V.ref p = .ref a0 ∧ H1 a0 = some (.ins C dx0 fs) ∧ Cls K C ∧ NoAttr K C "text" ∧ fs.length < 1000 ∧ Q .non (upd H1 a0 (.ins C dx0 (putF "text" (.str x) fs))) := fun x hx => ⟨p, _, dx, _, rfl, hp1, T.cl_UntilDay, T.no_UntilDay_text, by show 1 < 1000; decide, k _ ⟨dx, x, upd_same.trans (by kernel_rfl), hx⟩ (b1.trans (But.refl p H1).upd)⟩
    exact ⟨_, rfl, fin _ (by rw [strLen_append, l0]; omega)⟩
theorem G_NotOn_init (T : Tx K mg a) : FnOk P w K mg base (L2.CX P w) 3 a.f_NotOn_init a.d_NotOn_init ["self", "days"] (spNoInit a K) := by
  refine T.F_NotOn_init.okX sc_NotOn_init (fun vs H Q E h => ?_) (fun cdv A outer s H vs Q E hr h => ?_)
  · obtain ⟨p, dx, m, ds, rfl, _⟩ := h
    rfl
  · obtain ⟨p, dx, m, ds, rfl, hp, hm, k1, k2, k3⟩ := h
    refine ⟨_, (pss_cons (ps_set (i := 2) sc_NotOn_init.nd rfl (Or.inl rfl) (pe_call (G_bad_day T) (hr.mono (by decide)) rfl T.g_bad_day T.F_bad_day.kp T.b_bad_day .nil pass0 (pa_cons (pv 1) pa_nil)))
      (pss_cons (ps_if (pt_cmpR op_notN (pv 2) pe_non (nomark _)) (pss_one (ps_raise rfl (takes_of rfl rfl rfl rfl) (pmk_oex T.ox_BadDays T.i_BadDays T.t_BadDays (G_BadDays_init T) (hr.mono (by decide)) T.b_BadDays_init .nil pass0 rfl T.g_BadDays (pa_cons (pv 2) pa_nil)))) pss_nil)
      (pss_cons (ps_fld (pv 0) (pe_callTy call_tuple_of (by rfl) T.n_tuple (by decide +kernel) (pa_cons (pv 1) pa_nil)) rfl)
      (pss_one (ps_fld (pv 0) (pe_op op_add_str pe_str (pe_join pe_str (pe_lc (own := [("day", 3)]) (g := gName 3) (tt := tYes) rfl sc_NotOn_init.nd (pi_tup (pe_fld (pv 0) rfl)) (blkOk_by (own := [("day", 3)]) (N := ["self", "days", "at", "day"]) (sc := defScope s_NotOn_init) (by decide +kernel)) (fun _ _ _ _ _ => (pg_name (i := 3) sc_NotOn_init.nd rfl (Or.inl rfl))) (fun _ _ _ _ _ => pts_nil) (fun _ _ _ _ _ => (pe_callTy call_str_int (by rfl) T.n_str (by decide +kernel) (pa_cons (pv 3) pa_nil)))))) rfl))))), ?_⟩
    refine st_letX ⟨_, rfl, m, ds, rfl, hm, fun e => ?_, fun i b no H1 s1 => ?_, fun ne ok H1 s1 => ?_⟩
    · refine st_yes (ans_notN (val_var (i := 2) (v := .int 0) rfl) rfl) ?_
      exact ⟨_, rfl, x1_made (k1 e)⟩
    · refine st_yes (ans_notN (val_var (i := 2) (v := .int (i : Nat)) rfl) rfl) ?_
      exact ⟨_, rfl, x1_made (k2 i b no H1 s1)⟩
    · refine st_guard (q := False) (b := false) (ans_notN (val_var (i := 2) (v := .non) rfl) rfl) (by simp) (fun z => z.elim) fun _ => ?_
      have few : ds.length ≤ 100 := by
        refine Nat.le_of_not_lt fun z => ok 100 ⟨z, Or.inl rfl⟩
      have dok : ∀ d ∈ ds, 0 ≤ d ∧ d ≤ 100000 := fun d hd => by
        obtain ⟨j, hj, e⟩ := List.mem_iff_getElem.mp hd
        have g : ds.getD j 0 = d := by simp [List.getD, List.getElem?_eq_getElem hj, e]
        exact Classical.byContradiction fun z => ok j ⟨hj, Or.inr (Or.inl (by rw [g]; exact z))⟩
      have k := k3 ne ok
      have hp1 := s1 _ _ hp
      refine st_mkH (σ := [some (.ref p), some (.ref m), some .non, none]) (PV := fun y H' => ∃ dt, y = .ref dt ∧ SqT K H' dt (ds.map V.int) ∧ Same H1 H') (fun Q q => ?_) (fun H' => val_var (i := 0) rfl) (fun y H' z => z.choose_spec.2.2 _ _ hp1) T.cl_NotOn T.no_NotOn_days (by show 0 < 1000; decide) fun y H2' H2 z q2 b2' => ?_
      case refine_1 =>
        rcases s1.sqA hm with hm | hm
        · exact ⟨_, rfl, m, _, rfl, Or.inl ⟨hm, fun l hl => q _ _ ⟨l, rfl, SqT.of upd_same, Same.new hl⟩⟩⟩
        · exact ⟨_, rfl, m, _, rfl, Or.inr ⟨hm, q _ _ ⟨m, rfl, hm, Same.refl _⟩⟩⟩
      obtain ⟨dt, rfl, hdt, s2⟩ := z
      have hp2 : H2 p = some (.ins a.c_NotOn dx [("days", .ref dt)]) := q2.trans (by kernel_rfl)
      have hdt2 := b2'.keepT (s2 _ _ hp1) hdt
      have b2 : But p H H2 := But.same (s1.trans s2) b2'
      have fin : ∀ (x : Str) (H3 : Hp), x.length ≤ 70100 → Same H2 H3 → ∃ a0 C dx0 fs, V.ref p = .ref a0 ∧ H3 a0 = some (.ins C dx0 fs) ∧ Cls K C ∧ NoAttr K C "text" ∧ fs.length < 1000 ∧ Q .non (upd H3 a0 (.ins C dx0 (putF "text" (.str x) fs))) := fun x H3 hx s3 => by
        have hp3 := s3 _ _ hp2
        have b3 : But p H3 (upd H3 p (.ins a.c_NotOn dx (putF "text" (.str x) [("days", .ref dt)]))) := (But.refl p H3).upd
        exact ⟨p, _, dx, _, rfl, hp3, T.cl_NotOn, T.no_NotOn_text, by show 1 < 1000; decide, k _ ⟨dx, dt, x, upd_same.trans (by kernel_rfl), b3.keepT hp3 (s3.sqT hdt2), hx⟩ ((b2.thenS s3).trans b3)⟩
      refine ⟨⟨_, rfl⟩, ?_⟩
      refine comp_strs (a := dt) (xs := ds.map V.int) 6 (fun R q => ⟨_, rfl, p, _, dx, _, _, rfl, hp2, T.cl_NotOn, T.no_NotOn_days, (by kernel_rfl : List.lookup _ _ = some (V.ref dt)), q⟩) hdt2 (by rw [List.length_map]; omega) (fun x => rfl) (fun i x H' Q' hx s h => ?_) fun D H' ys hD e ly by_ s => ?_
      · obtain ⟨d, hd, rfl⟩ := ints_get hx
        have := dok d (List.mem_of_getElem? hd)
        exact ⟨_, rfl, d, rfl, log_lt this.1 (Int.le_trans this.2 (by decide)), h _ H' (len6 this.1 this.2) (Same.refl _)⟩
      · rw [List.length_map] at ly
        have jl := join_len (sep := (",": Str)) by_
        have l1 : ((",": Str)).length = 1 := rfl
        have l4 : (("not ": Str)).length = 4 := rfl
        have jb : (Txt.join (",": Str) ys).length ≤ 700 := by
          have : ys.length * (6 + (",": Str).length) ≤ 100 * 7 := Nat.mul_le_mul (by omega) (by rw [l1]; exact Nat.le_refl _)
          omega
        exact ⟨_, D, ys, rfl, rfl, Or.inl (SqL.of e), join_ok (n := 100) by_ (by omega) (by decide) (by decide), _, _, rfl, rfl, Nat.le_trans (show _ ≤ 704 by rw [l4]; omega) (by decide), _, rfl, fin _ H' (by rw [strLen_append, l4]; omega) s⟩
end
end My

namespace My
open PySem L2
/-! ### 10. conditions hold or not -/
def spCdH (a : Ad) (K : PySem.W.Frag) (only : Cd → Prop) : Sp := fun vs H Q E => ∃ (p q : Addr) (cd : Cd) (c : Cal) (n : Int), vs = [.ref p, .ref q, .int n] ∧ only cd ∧ CdAt a K H p cd ∧ CalAt a.c_Calendar K H q c ∧ OkCal c ∧ (¬ okF n → Out a E H (.rng "number" n)) ∧ (okF n → ∀ H', Same H H' → Q (.bl (cdOn c n cd)) H')
theorem IsDate.far {c : Cal} (ok : OkCal c) {n y m d : Int} {j : Nat} (I : IsDate c n y m d j) (z : okF n) : okF y := by
  have h := (ok.bef_ge I.y0).2.2
  have l := I.lo
  exact ⟨I.y0, Int.le_trans (Int.le_trans h l) z.2⟩
theorem okSmall {x : Int} (h0 : 0 ≤ x) (h1 : x ≤ 100000) : okF x := ⟨h0, Int.le_trans h1 (by decide)⟩
theorem in_ints {ks : List Int} {k : Int} : inV (.int k) (ks.map V.int) = decide (k ∈ ks) := by
  have e : ∀ b : Bool, (b = true ↔ k ∈ ks) → b = decide (k ∈ ks) := fun b h => by
    cases b with
    | true => exact (decide_eq_true (h.mp rfl)).symm
    | false => exact (decide_eq_false fun z => by have := h.mpr z; cases this).symm
  refine e _ ?_
  unfold inV
  rw [List.any_map, List.any_eq_true]
  constructor
  · rintro ⟨x, hx, h⟩
    have h : ((x : Int) == (k : Int)) = true := h
    rw [← eq_of_beq h]
    exact hx
  · intro h
    exact ⟨k, h, by show ((k : Int) == (k : Int)) = true; simp⟩
theorem v_cmp_and {σ : St} {H : Hp} {ta tb : TE} {b c : Bool} (ha : Val ta σ H (.bl b)) (hb : Val tb σ H (.bl c)) : Val (tAndV ta tb) σ H (.bl (b && c)) := fun Q q => by
  refine ha _ ⟨_, rfl, ?_⟩
  cases b with
  | true => exact iteT (hb _ q)
  | false => exact iteF q
section
variable {P : Program} {w : World} {K : PySem.W.Frag} {mg : Str → Option Value} {base : Heap} {a : Ad}
theorem G_MonthDays_holds (T : Tx K mg a) : FnOk P w K mg base (L2.CX P w) 5 a.f_MonthDays_holds a.d_MonthDays_holds ["self", "calendar", "number"] (spCdH a K (fun cd => ∃ ps fe, cd = .md ps fe)) := by
  refine T.F_MonthDays_holds.okX sc_MonthDays_holds (fun vs H Q E h => ?_) (fun cdv A outer s H vs Q E hr h => ?_)
  · obtain ⟨p, q, cd, c, n, rfl, _⟩ := h
    rfl
  · obtain ⟨p, q, cd, c, n, rfl, ⟨ps, fe, rfl⟩, hp, hc, ok, k1, k⟩ := h
    refine ⟨_, (pss_cons (ps_expr (pe_call (G_in_range T) (hr.mono (by decide)) rfl T.g_in_range T.F_in_range.kp T.b_in_range .nil (passes_call (takes_of rfl rfl rfl rfl) (fun _ _ _ _ h => h)) (pa_cons pe_str (pa_cons (pv 2) (pa_cons pe_int (pa_cons (pe_glob (v := .int (10 ^ 40)) rfl T.g_FAR.choose_spec ⟨_, rfl⟩) pa_nil))))))
      (pss_cons (ps_asg (pe_meth (pv 1) T.cl_Calendar T.m_Calendar_date_of (G_Calendar_date_of T) (hr.mono (by decide)) T.b_Calendar_date_of .nil (passes_call (takes_of rfl rfl rfl rfl) (fun _ _ _ _ h => h)) (pa_cons (pv 2) pa_nil)) (pg_tup rfl (pgs_cons (pg_name (i := 3) sc_MonthDays_holds.nd rfl (Or.inl rfl)) (pgs_cons (pg_name (i := 4) sc_MonthDays_holds.nd rfl (Or.inl rfl)) (pgs_cons (pg_name (i := 5) sc_MonthDays_holds.nd rfl (Or.inl rfl)) pgs_nil)))))
      (pss_cons (ps_if (pt_val (pe_fld (pv 0) rfl)) (pss_one (ps_ret (pe_meth (pe_fld (pv 0) rfl) T.cl_Choice T.m_Choice_holds (G_Choice_holds T) (hr.mono (by decide)) T.b_Choice_holds .nil (passes_call (takes_of rfl rfl rfl rfl) (fun _ _ _ _ h => h)) (pa_cons (pe_op op_add (pe_op op_sub (pe_meth (pv 1) T.cl_Calendar T.m_Calendar_month_length (G_Calendar_month_length T) (hr.mono (by decide)) T.b_Calendar_month_length .nil (passes_call (takes_of rfl rfl rfl rfl) (fun _ _ _ _ h => h)) (pa_cons (pv 3) (pa_cons (pv 4) pa_nil))) (pv 5)) pe_int) pa_nil)))) pss_nil)
      (pss_one (ps_ret (pe_meth (pe_fld (pv 0) rfl) T.cl_Choice T.m_Choice_holds (G_Choice_holds T) (hr.mono (by decide)) T.b_Choice_holds .nil (passes_call (takes_of rfl rfl rfl rfl) (fun _ _ _ _ h => h)) (pa_cons (pv 5) pa_nil))))))), ?_⟩
    obtain ⟨dx, ch, x, h1, hch, hx⟩ := id hp
    obtain ⟨dxq, mt, lt, hq, hmt, hlt⟩ := id hc
    refine st_do ⟨_, rfl, "number", n, 0, 10 ^ 40, rfl, fun z => ?_, fun z => k1 z⟩
    replace k := k z
    refine st_seq ⟨_, rfl, q, dxq, _, rfl, hq, by kernel_rfl, _, rfl, q, c, n, rfl, hc, ok, fun z' => (z' z).elim, fun _ y m d j t H1 I ht s1 => ?_⟩
    refine ⟨t, _, rfl, SqT.of ht, rfl, _, _, rfl, _, _, rfl, _, _, rfl, rfl, ?_⟩
    dsimp only
    have hp1 := s1 _ _ h1
    have hq1 := s1 _ _ hq
    have hc1 := hc.same s1
    have ed := dateOf_eq ok I
    have dd := I.day
    have d1 := ok.dim1 y I.jl
    have yf := I.far ok z
    have mm := I.m
    have jl := I.jl
    have hch1 := hch.same s1
    obtain ⟨dxc, pt, txt, as, c1, _⟩ := id hch1
    refine st_guardX ?_
    refine ⟨_, rfl, p, _, dx, _, _, rfl, hp1, T.cl_MonthDays, T.no_MonthDays_from_end, (by kernel_rfl : List.lookup _ _ = some (V.bl fe)), fe, rfl, ?_⟩
    cases fe with
    | true =>
      refine iteT ?_
      refine ⟨_, rfl, p, _, dx, _, _, rfl, hp1, T.cl_MonthDays, T.no_MonthDays_choice, (by kernel_rfl : List.lookup _ _ = some (V.ref ch)), ch, dxc, _, rfl, c1, by kernel_rfl, ?_⟩
      refine ⟨_, rfl, q, dxq, _, rfl, hq1, by kernel_rfl, _, rfl, _, rfl, q, c, y, m, rfl, hc1, ok, fun z' => (z' yf).elim, fun _ z' => (z' ⟨by omega, by omega⟩).elim, fun _ j' ej jl' => ?_⟩
      obtain rfl : j = j' := by omega
      have of : okF (dim c y j - d + 1) := okSmall (by omega) (by omega)
      refine ⟨_, rfl, _, _, rfl, rfl, _, _, rfl, rfl, ch, ps, _, rfl, hch1, fun z' => (z' of).elim, fun _ => ?_⟩
      have e : cdOn c n (.md ps true) = chosen ps (dim c y j - d + 1) := by
        simp [cdOn, ed]
      rw [e] at k
      exact k H1 s1
    | false =>
      refine iteF ?_
      have of : okF d := okSmall (by omega) (by omega)
      refine ⟨_, rfl, p, _, dx, _, _, rfl, hp1, T.cl_MonthDays, T.no_MonthDays_choice, (by kernel_rfl : List.lookup _ _ = some (V.ref ch)), ch, dxc, _, rfl, c1, by kernel_rfl, _, rfl, ch, ps, _, rfl, hch1, fun z' => (z' of).elim, fun _ => ?_⟩
      have e : cdOn c n (.md ps false) = chosen ps d := by
        simp [cdOn, ed]
      rw [e] at k
      exact k H1 s1
theorem G_Weekdays_holds (T : Tx K mg a) : FnOk P w K mg base (L2.CX P w) 5 a.f_Weekdays_holds a.d_Weekdays_holds ["self", "calendar", "number"] (spCdH a K (fun cd => ∃ ps, cd = .wd ps)) := by
  refine T.F_Weekdays_holds.okX sc_Weekdays_holds (fun vs H Q E h => ?_) (fun cdv A outer s H vs Q E hr h => ?_)
  · obtain ⟨p, q, cd, c, n, rfl, _⟩ := h
    rfl
  · obtain ⟨p, q, cd, c, n, rfl, ⟨ps, rfl⟩, hp, hc, ok, k1, k⟩ := h
    refine ⟨_, (pss_cons (ps_expr (pe_call (G_in_range T) (hr.mono (by decide)) rfl T.g_in_range T.F_in_range.kp T.b_in_range .nil (passes_call (takes_of rfl rfl rfl rfl) (fun _ _ _ _ h => h)) (pa_cons pe_str (pa_cons (pv 2) (pa_cons pe_int (pa_cons (pe_glob (v := .int (10 ^ 40)) rfl T.g_FAR.choose_spec ⟨_, rfl⟩) pa_nil))))))
      (pss_one (ps_ret (pe_meth (pe_fld (pv 0) rfl) T.cl_Choice T.m_Choice_holds (G_Choice_holds T) (hr.mono (by decide)) T.b_Choice_holds .nil (passes_call (takes_of rfl rfl rfl rfl) (fun _ _ _ _ h => h)) (pa_cons (pe_meth (pv 1) T.cl_Calendar T.m_Calendar_weekday_of (G_Calendar_weekday_of T) (hr.mono (by decide)) T.b_Calendar_weekday_of .nil (passes_call (takes_of rfl rfl rfl rfl) (fun _ _ _ _ h => h)) (pa_cons (pv 2) pa_nil)) pa_nil))))), ?_⟩
    obtain ⟨dx, ch, x, h1, hch, hx⟩ := id hp
    obtain ⟨dxq, mt, lt, hq, hmt, hlt⟩ := id hc
    refine st_do ⟨_, rfl, "number", n, 0, 10 ^ 40, rfl, fun z => ?_, fun z => k1 z⟩
    replace k := k z
    obtain ⟨dxc, pt, txt, as, c1, _⟩ := id hch
    have w0 := ok.week
    have of : okF ((c.first + n) % c.week) := okSmall (Int.emod_nonneg _ (by omega)) (by have := Int.emod_lt_of_pos (c.first + n) (show 0 < c.week by omega); omega)
    refine ⟨_, rfl, p, _, dx, _, _, rfl, h1, T.cl_Weekdays, T.no_Weekdays_choice, (by kernel_rfl : List.lookup _ _ = some (V.ref ch)), ch, dxc, _, rfl, c1, by kernel_rfl, ?_⟩
    refine ⟨_, rfl, q, dxq, _, rfl, hq, by kernel_rfl, _, rfl, q, c, n, rfl, hc, ok, fun z' => (z' z).elim, fun _ => ?_⟩
    exact ⟨ch, ps, _, rfl, hch, fun z' => (z' of).elim, fun _ => k H (Same.refl H)⟩
theorem G_Months_holds (T : Tx K mg a) : FnOk P w K mg base (L2.CX P w) 5 a.f_Months_holds a.d_Months_holds ["self", "calendar", "number"] (spCdH a K (fun cd => ∃ ps, cd = .mo ps)) := by
  refine T.F_Months_holds.okX sc_Months_holds (fun vs H Q E h => ?_) (fun cdv A outer s H vs Q E hr h => ?_)
  · obtain ⟨p, q, cd, c, n, rfl, _⟩ := h
    rfl
  · obtain ⟨p, q, cd, c, n, rfl, ⟨ps, rfl⟩, hp, hc, ok, k1, k⟩ := h
    refine ⟨_, (pss_cons (ps_expr (pe_call (G_in_range T) (hr.mono (by decide)) rfl T.g_in_range T.F_in_range.kp T.b_in_range .nil (passes_call (takes_of rfl rfl rfl rfl) (fun _ _ _ _ h => h)) (pa_cons pe_str (pa_cons (pv 2) (pa_cons pe_int (pa_cons (pe_glob (v := .int (10 ^ 40)) rfl T.g_FAR.choose_spec ⟨_, rfl⟩) pa_nil))))))
      (pss_one (ps_ret (pe_meth (pe_fld (pv 0) rfl) T.cl_Choice T.m_Choice_holds (G_Choice_holds T) (hr.mono (by decide)) T.b_Choice_holds .nil (passes_call (takes_of rfl rfl rfl rfl) (fun _ _ _ _ h => h)) (pa_cons (pe_ix ix_tup (pe_meth (pv 1) T.cl_Calendar T.m_Calendar_date_of (G_Calendar_date_of T) (hr.mono (by decide)) T.b_Calendar_date_of .nil (passes_call (takes_of rfl rfl rfl rfl) (fun _ _ _ _ h => h)) (pa_cons (pv 2) pa_nil)) pe_int (fun _ _ => rfl)) pa_nil))))), ?_⟩
    obtain ⟨dx, ch, x, h1, hch, hx⟩ := id hp
    obtain ⟨dxq, mt, lt, hq, hmt, hlt⟩ := id hc
    refine st_do ⟨_, rfl, "number", n, 0, 10 ^ 40, rfl, fun z => ?_, fun z => k1 z⟩
    replace k := k z
    obtain ⟨dxc, pt, txt, as, c1, _⟩ := id hch
    refine ⟨_, rfl, p, _, dx, _, _, rfl, h1, T.cl_Months, T.no_Months_choice, (by kernel_rfl : List.lookup _ _ = some (V.ref ch)), ch, dxc, _, rfl, c1, by kernel_rfl, ?_⟩
    refine ⟨_, rfl, q, dxq, _, rfl, hq, by kernel_rfl, _, rfl, q, c, n, rfl, hc, ok, fun z' => (z' z).elim, fun _ y m d j t H1 I ht s1 => ?_⟩
    have ed := dateOf_eq ok I
    have mm := I.m
    have jl := I.jl
    have ml := ok.months.1
    have of : okF m := okSmall (by omega) (by omega)
    refine ⟨t, _, _, _, rfl, rfl, SqT.of ht, (show atI _ 1 = some (V.int m) from rfl), ch, ps, _, rfl, hch.same s1, fun z' => (z' of).elim, fun _ => ?_⟩
    have e : cdOn c n (.mo ps) = chosen ps m := by
      simp [cdOn, ed]
    rw [e] at k
    exact k H1 s1
theorem G_NthWeekday_holds (T : Tx K mg a) : FnOk P w K mg base (L2.CX P w) 5 a.f_NthWeekday_holds a.d_NthWeekday_holds ["self", "calendar", "number"] (spCdH a K (fun cd => ∃ u v fe, cd = .nth u v fe)) := by
  refine T.F_NthWeekday_holds.okX sc_NthWeekday_holds (fun vs H Q E h => ?_) (fun cdv A outer s H vs Q E hr h => ?_)
  · obtain ⟨p, q, cd, c, n, rfl, _⟩ := h
    rfl
  · obtain ⟨p, q, cd, c, n, rfl, ⟨u, v, fe, rfl⟩, hp, hc, ok, k1, k⟩ := h
    refine ⟨_, (pss_cons (ps_expr (pe_call (G_in_range T) (hr.mono (by decide)) rfl T.g_in_range T.F_in_range.kp T.b_in_range .nil (passes_call (takes_of rfl rfl rfl rfl) (fun _ _ _ _ h => h)) (pa_cons pe_str (pa_cons (pv 2) (pa_cons pe_int (pa_cons (pe_glob (v := .int (10 ^ 40)) rfl T.g_FAR.choose_spec ⟨_, rfl⟩) pa_nil))))))
      (pss_cons (ps_if (pt_cmpR op_ne (pe_meth (pv 1) T.cl_Calendar T.m_Calendar_weekday_of (G_Calendar_weekday_of T) (hr.mono (by decide)) T.b_Calendar_weekday_of .nil (passes_call (takes_of rfl rfl rfl rfl) (fun _ _ _ _ h => h)) (pa_cons (pv 2) pa_nil)) (pe_fld (pv 0) rfl) (nomark _)) (pss_one (ps_ret pe_bl)) pss_nil)
      (pss_cons (ps_asg (pe_meth (pv 1) T.cl_Calendar T.m_Calendar_date_of (G_Calendar_date_of T) (hr.mono (by decide)) T.b_Calendar_date_of .nil (passes_call (takes_of rfl rfl rfl rfl) (fun _ _ _ _ h => h)) (pa_cons (pv 2) pa_nil)) (pg_tup rfl (pgs_cons (pg_name (i := 3) sc_NthWeekday_holds.nd rfl (Or.inl rfl)) (pgs_cons (pg_name (i := 4) sc_NthWeekday_holds.nd rfl (Or.inl rfl)) (pgs_cons (pg_name (i := 5) sc_NthWeekday_holds.nd rfl (Or.inl rfl)) pgs_nil)))))
      (pss_cons (ps_set (i := 6) sc_NthWeekday_holds.nd rfl (Or.inl rfl) (pe_op op_sub (pv 5) pe_int))
      (pss_cons (ps_if (pt_val (pe_fld (pv 0) rfl)) (pss_one (ps_set (i := 6) sc_NthWeekday_holds.nd rfl (Or.inl rfl) (pe_op op_sub (pe_meth (pv 1) T.cl_Calendar T.m_Calendar_month_length (G_Calendar_month_length T) (hr.mono (by decide)) T.b_Calendar_month_length .nil (passes_call (takes_of rfl rfl rfl rfl) (fun _ _ _ _ h => h)) (pa_cons (pv 3) (pa_cons (pv 4) pa_nil))) (pv 5)))) pss_nil)
      (pss_one (ps_ret (pe_cmpR op_eq (pe_op op_fdivW (pv 6) (pe_fld (pv 1) rfl)) (pe_op op_sub (pe_fld (pv 0) rfl) pe_int) (nomark _))))))))), ?_⟩
    obtain ⟨dx, x, h1, hx⟩ := id hp
    obtain ⟨dxq, mt, lt, hq, hmt, hlt⟩ := id hc
    refine st_do ⟨_, rfl, "number", n, 0, 10 ^ 40, rfl, fun z => ?_, fun z => k1 z⟩
    replace k := k z
    refine st_guardX ?_
    refine ⟨_, rfl, q, dxq, _, rfl, hq, by kernel_rfl, _, rfl, q, c, n, rfl, hc, ok, fun z' => (z' z).elim, fun _ => ?_⟩
    refine ⟨_, rfl, p, _, dx, _, _, rfl, h1, T.cl_NthWeekday, T.no_NthWeekday_weekday, (by kernel_rfl : List.lookup _ _ = some (V.int v)), rfl, _, rfl, ?_⟩
    rw [dec_int, Bool.beq_eq_decide_eq]
    by_cases cw : (c.first + n) % c.week = v
    case neg =>
      rw [decide_eq_false cw]
      refine iteT ?_
      have e : cdOn c n (.nth u v fe) = false := by
        simp [cdOn, cw]
      rw [e] at k
      exact k H (Same.refl H)
    rw [decide_eq_true cw]
    refine iteF ?_
    refine st_seq ⟨_, rfl, q, dxq, _, rfl, hq, by kernel_rfl, _, rfl, q, c, n, rfl, hc, ok, fun z' => (z' z).elim, fun _ y m d j t H1 I ht s1 => ?_⟩
    refine ⟨t, _, rfl, SqT.of ht, rfl, _, _, rfl, _, _, rfl, _, _, rfl, rfl, ?_⟩
    dsimp only
    have hp1 := s1 _ _ h1
    have hq1 := s1 _ _ hq
    have hc1 := hc.same s1
    have ed := dateOf_eq ok I
    have dd := I.day
    have d1 := ok.dim1 y I.jl
    have yf := I.far ok z
    have mm := I.m
    have jl := I.jl
    have w0 := ok.week
    refine st_let (v := .int (d - 1)) (v_rI0 (g := fun i j => .int (i - j)) (val_var (i := 5) (v := .int d) rfl) val_c) ?_
    have fin : ∀ {H2 : Hp} {σ : St} (o : Int) {D : Ends}, σ[0]? = some (some (.ref p)) → σ[1]? = some (some (.ref q)) → σ[6]? = some (some (.int o)) → H2 = H1 → (if fe = true then dim c y j - d else d - 1) = o → D.rt = Q →
        tRet (tOp rEq (tOp (rI CDivW fun i j => .int (i / j)) (tVar 6) (tFld K (tVar 1) "week")) (tOp (rI0 fun i j => .int (i - j)) (tFld K (tVar 0) "nth") (tC (.int 1)))) D σ H2 := by
      intro H2 σ o D e0 e1 e6 eh eo eD
      subst eh
      refine v_eq (i := o / c.week) (j := u - 1) (v_rI (g := fun i j => .int (i / j)) (val_var e6) (val_fld (val_var e1) hq1 T.cl_Calendar T.no_Calendar_week (cf_week c mt lt)) (wide_div (b := 40) (by omega) (by omega) (by decide) (by decide))) (v_rI0 (g := fun i j => .int (i - j)) (val_fld (val_var e0) hp1 T.cl_NthWeekday T.no_NthWeekday_nth (by kernel_rfl)) val_c) _ ?_
      have e : cdOn c n (.nth u v fe) = decide (o / c.week = u - 1) := by
        simp only [cdOn, ed, cw, decide_true, Bool.true_and]
        rw [eo]
      rw [e] at k
      rw [eD]
      exact k H2 s1
    refine st_seq ?_
    refine ⟨_, rfl, p, _, dx, _, _, rfl, hp1, T.cl_NthWeekday, T.no_NthWeekday_from_end, (by kernel_rfl : List.lookup _ _ = some (V.bl fe)), fe, rfl, ?_⟩
    cases fe with
    | true =>
      refine iteT ?_
      refine ⟨_, rfl, q, dxq, _, rfl, hq1, by kernel_rfl, _, rfl, _, rfl, q, c, y, m, rfl, hc1, ok, fun z' => (z' yf).elim, fun _ z' => (z' ⟨by omega, by omega⟩).elim, fun _ j' ej jl' => ?_⟩
      obtain rfl : j = j' := by omega
      refine ⟨_, rfl, _, _, rfl, rfl, ?_⟩
      exact fin (dim c y j - d) rfl rfl rfl rfl rfl rfl
    | false =>
      refine iteF ?_
      exact fin (d - 1) rfl rfl rfl rfl rfl rfl
theorem G_EveryDays_holds (T : Tx K mg a) : FnOk P w K mg base (L2.CX P w) 4 a.f_EveryDays_holds a.d_EveryDays_holds ["self", "calendar", "number"] (spCdH a K (fun cd => ∃ u f, cd = .ev u f)) := by
  refine T.F_EveryDays_holds.okX sc_EveryDays_holds (fun vs H Q E h => ?_) (fun cdv A outer s H vs Q E hr h => ?_)
  · obtain ⟨p, q, cd, c, n, rfl, _⟩ := h
    rfl
  · obtain ⟨p, q, cd, c, n, rfl, ⟨u, f, rfl⟩, hp, hc, ok, k1, k⟩ := h
    refine ⟨_, (pss_cons (ps_expr (pe_call (G_in_range T) (hr.mono (by decide)) rfl T.g_in_range T.F_in_range.kp T.b_in_range .nil (passes_call (takes_of rfl rfl rfl rfl) (fun _ _ _ _ h => h)) (pa_cons pe_str (pa_cons (pv 2) (pa_cons pe_int (pa_cons (pe_glob (v := .int (10 ^ 40)) rfl T.g_FAR.choose_spec ⟨_, rfl⟩) pa_nil))))))
      (pss_one (ps_ret (pe_and (pe_cmpR op_ge (pv 2) (pe_fld (pv 0) rfl) (nomark _)) (pe_one (pe_cmpR op_eq (pe_op op_mod (pe_op op_sub (pv 2) (pe_fld (pv 0) rfl)) (pe_fld (pv 0) rfl)) pe_int (nomark _))))))), ?_⟩
    obtain ⟨⟨dx, x, h1, hx⟩, su⟩ := id hp
    obtain ⟨dxq, mt, lt, hq, hmt, hlt⟩ := id hc
    refine st_do ⟨_, rfl, "number", n, 0, 10 ^ 40, rfl, fun z => ?_, fun z => k1 z⟩
    replace k := k z
    have ff : ∀ {f' : Str} {v : V} {σ : St}, σ[0]? = some (some (.ref p)) → NoAttr K a.c_EveryDays f' → List.lookup f' [("step", V.int u), ("first", V.int f), ("text", V.str x)] = some v → Val (tFld K (tVar 0) f') σ H v := fun e n l => val_fld (val_var e) h1 T.cl_EveryDays n l
    have e : cdOn c n (.ev u f) = (decide (n ≥ f) && decide ((n - f) % u = 0)) := rfl
    rw [e] at k
    refine v_cmp_and ?_ ?_ _ (k H (Same.refl H))
    · exact v_rI0 (g := fun i j => .bl (decide (j ≤ i))) (val_var (i := 2) rfl) (ff rfl T.no_EveryDays_first (by kernel_rfl))
    · exact v_eq (v_rI (g := fun i j => .int (i % j)) (v_rI0 (g := fun i j => .int (i - j)) (val_var (i := 2) rfl) (ff rfl T.no_EveryDays_first (by kernel_rfl))) (ff rfl T.no_EveryDays_step (by kernel_rfl)) (by omega)) val_c
theorem G_FromDay_holds (T : Tx K mg a) : FnOk P w K mg base (L2.CX P w) 4 a.f_FromDay_holds a.d_FromDay_holds ["self", "calendar", "number"] (spCdH a K (fun cd => ∃ u, cd = .fr u)) := by
  refine T.F_FromDay_holds.okX sc_FromDay_holds (fun vs H Q E h => ?_) (fun cdv A outer s H vs Q E hr h => ?_)
  · obtain ⟨p, q, cd, c, n, rfl, _⟩ := h
    rfl
  · obtain ⟨p, q, cd, c, n, rfl, ⟨u, rfl⟩, hp, hc, ok, k1, k⟩ := h
    refine ⟨_, (pss_cons (ps_expr (pe_call (G_in_range T) (hr.mono (by decide)) rfl T.g_in_range T.F_in_range.kp T.b_in_range .nil (passes_call (takes_of rfl rfl rfl rfl) (fun _ _ _ _ h => h)) (pa_cons pe_str (pa_cons (pv 2) (pa_cons pe_int (pa_cons (pe_glob (v := .int (10 ^ 40)) rfl T.g_FAR.choose_spec ⟨_, rfl⟩) pa_nil))))))
      (pss_one (ps_ret (pe_cmpR op_ge (pv 2) (pe_fld (pv 0) rfl) (nomark _))))), ?_⟩
    obtain ⟨dx, x, h1, hx⟩ := id hp
    obtain ⟨dxq, mt, lt, hq, hmt, hlt⟩ := id hc
    refine st_do ⟨_, rfl, "number", n, 0, 10 ^ 40, rfl, fun z => ?_, fun z => k1 z⟩
    replace k := k z
    exact v_rI0 (g := fun i j => .bl (decide (j ≤ i))) (val_var (i := 2) rfl) (val_fld (val_var (i := 0) rfl) h1 T.cl_FromDay T.no_FromDay_day (by kernel_rfl)) _ (k H (Same.refl H))
theorem G_UntilDay_holds (T : Tx K mg a) : FnOk P w K mg base (L2.CX P w) 4 a.f_UntilDay_holds a.d_UntilDay_holds ["self", "calendar", "number"] (spCdH a K (fun cd => ∃ u, cd = .un u)) := by
  refine T.F_UntilDay_holds.okX sc_UntilDay_holds (fun vs H Q E h => ?_) (fun cdv A outer s H vs Q E hr h => ?_)
  · obtain ⟨p, q, cd, c, n, rfl, _⟩ := h
    rfl
  · obtain ⟨p, q, cd, c, n, rfl, ⟨u, rfl⟩, hp, hc, ok, k1, k⟩ := h
    refine ⟨_, (pss_cons (ps_expr (pe_call (G_in_range T) (hr.mono (by decide)) rfl T.g_in_range T.F_in_range.kp T.b_in_range .nil (passes_call (takes_of rfl rfl rfl rfl) (fun _ _ _ _ h => h)) (pa_cons pe_str (pa_cons (pv 2) (pa_cons pe_int (pa_cons (pe_glob (v := .int (10 ^ 40)) rfl T.g_FAR.choose_spec ⟨_, rfl⟩) pa_nil))))))
      (pss_one (ps_ret (pe_cmpR op_le (pv 2) (pe_fld (pv 0) rfl) (nomark _))))), ?_⟩
    obtain ⟨dx, x, h1, hx⟩ := id hp
    obtain ⟨dxq, mt, lt, hq, hmt, hlt⟩ := id hc
    refine st_do ⟨_, rfl, "number", n, 0, 10 ^ 40, rfl, fun z => ?_, fun z => k1 z⟩
    replace k := k z
    exact v_rI0 (g := fun i j => .bl (decide (i ≤ j))) (val_var (i := 2) rfl) (val_fld (val_var (i := 0) rfl) h1 T.cl_UntilDay T.no_UntilDay_day (by kernel_rfl)) _ (k H (Same.refl H))
theorem G_NotOn_holds (T : Tx K mg a) : FnOk P w K mg base (L2.CX P w) 4 a.f_NotOn_holds a.d_NotOn_holds ["self", "calendar", "number"] (spCdH a K (fun cd => ∃ ds, cd = .no ds)) := by
  refine T.F_NotOn_holds.okX sc_NotOn_holds (fun vs H Q E h => ?_) (fun cdv A outer s H vs Q E hr h => ?_)
  · obtain ⟨p, q, cd, c, n, rfl, _⟩ := h
    rfl
  · obtain ⟨p, q, cd, c, n, rfl, ⟨ds, rfl⟩, hp, hc, ok, k1, k⟩ := h
    refine ⟨_, (pss_cons (ps_expr (pe_call (G_in_range T) (hr.mono (by decide)) rfl T.g_in_range T.F_in_range.kp T.b_in_range .nil (passes_call (takes_of rfl rfl rfl rfl) (fun _ _ _ _ h => h)) (pa_cons pe_str (pa_cons (pv 2) (pa_cons pe_int (pa_cons (pe_glob (v := .int (10 ^ 40)) rfl T.g_FAR.choose_spec ⟨_, rfl⟩) pa_nil))))))
      (pss_one (ps_ret (pe_cmpR op_notIn_seq (pv 2) (pe_fld (pv 0) rfl) (by rfl))))), ?_⟩
    obtain ⟨dx, dt, x, h1, hdt, hx⟩ := id hp
    obtain ⟨dxq, mt, lt, hq, hmt, hlt⟩ := id hc
    refine st_do ⟨_, rfl, "number", n, 0, 10 ^ 40, rfl, fun z => ?_, fun z => k1 z⟩
    replace k := k z
    refine ⟨_, rfl, _, rfl, p, _, dx, _, _, rfl, h1, T.cl_NotOn, T.no_NotOn_days, (by kernel_rfl : List.lookup _ _ = some (V.ref dt)), dt, _, rfl, Or.inr hdt, rfl, (by simp [flatV]), ?_⟩
    have e : inV (.int n) (ds.map V.int) = decide (n ∈ ds) := in_ints
    rw [if_pos rfl, e]
    exact k H (Same.refl H)
end
end My

namespace L2
open PySem PySem.Spec PyProof.Rows
section
variable {K : PySem.W.Frag} {a : Addr} {xs : List V} {tt : TT} {te : TE} {vs : List Nat} {σ : St} {H1 : Hp} {Q : VK} {i0 : Nat}
/-- the items one by one: their values are known -/
theorem comp_ix {tl : TE} (ys : List V) (hl : ∀ R : V → Hp → Prop, R (.ref a) H1 → tl σ H1 R) (hp : SqT K H1 a xs) (ly : ys.length = xs.length) (hz : xs.length ≤ 1000000) (hw : ∀ x, wipe ((wipe σ vs).set i0 (some x)) vs = wipe σ vs)
    (he : ∀ (i : Nat) x y H (Q' : VK), xs[i]? = some x → ys[i]? = some y → Same H1 H → (∀ H2, Same H H2 → Q' y H2) → te ((wipe σ vs).set i0 (some x)) H Q')
    (hd : ∀ D H', H1 D = none → H' D = some (.lst ys) → Same H1 H' → Q (.ref D) H') : tLc (iTup K tl) (gName i0) tYes te vs σ H1 Q := by
  refine hl _ ⟨a, rfl, ⟨_, hp⟩, fun D hD => ?_⟩
  refine lc_tup (xs := xs) (fun i H' => H' D = some (.lst (ys.take i)) ∧ Same H1 H') ⟨upd_same, Same.new hD⟩ (fun i H' _ p => p.2.sqT hp) ?_ ?_
  · rintro i x H' hx ⟨h1, s1⟩
    refine ⟨hw x, ?_⟩
    have hi := (List.getElem?_eq_some_iff.mp hx).1
    obtain ⟨y, hy⟩ : ∃ y, ys[i]? = some y := ⟨_, List.getElem?_eq_getElem (by omega)⟩
    show te _ H' _
    refine he i x y H' _ hx hy s1 fun H2 s2 => ⟨_, s2 _ _ h1, by rw [List.length_take]; exact Nat.lt_of_le_of_lt (Nat.le_trans (Nat.min_le_left _ _) (Nat.le_trans (Nat.le_of_lt hi) hz)) (by decide), ?_, ?_⟩
    · rw [upd_same, take_snoc hy]
    · intro b o e
      rw [upd_ne (ne_of_none e hD)]
      exact s2 _ _ (s1 _ _ e)
  · rintro H' ⟨h1, s1⟩
    rw [← ly, List.take_length] at h1
    exact hd D H' hD h1 s1
end
end L2
namespace My
open PySem L2
/-! ### 11. rules and schedules -/
structure Rl where
  ps : List Part
  cs : List Cd
def Objs (a : Ad) (K : PySem.W.Frag) (H : Hp) (as : List V) (cs : List Cd) : Prop := as.length = cs.length ∧ ∀ (i : Nat) (cd : Cd), cs[i]? = some cd → ∃ p : Addr, as[i]? = some (V.ref p) ∧ CdAt a K H p cd
theorem Objs.same {a : Ad} {K : PySem.W.Frag} {H H' : Hp} {as : List V} {cs : List Cd} (h : Objs a K H as cs) (s : Same H H') : Objs a K H' as cs := ⟨h.1, fun i cd e => let ⟨p, x, y⟩ := h.2 i cd e; ⟨p, x, y.same s⟩⟩
theorem Objs.at {a : Ad} {K : PySem.W.Frag} {H : Hp} {as : List V} {cs : List Cd} (h : Objs a K H as cs) {i : Nat} {x : V} (hx : as[i]? = some x) : ∃ (cd : Cd) (p : Addr), cs[i]? = some cd ∧ x = V.ref p ∧ CdAt a K H p cd := by
  have hi : i < cs.length := by rw [← h.1]; exact (List.getElem?_eq_some_iff.mp hx).1
  obtain ⟨p, e, hc⟩ := h.2 i _ (List.getElem?_eq_getElem hi)
  rw [hx] at e
  exact ⟨_, p, List.getElem?_eq_getElem hi, Option.some.inj e, hc⟩
def RlAt (a : Ad) (K : PySem.W.Frag) (H : Hp) (p : Addr) (r : Rl) : Prop := ∃ dx ch ct x as, H p = some (.ins a.c_Rule dx [("minutes", .ref ch), ("conditions", .ref ct), ("text", .str x)]) ∧ ChAt a.c_Choice K H ch r.ps ∧ SqT K H ct as ∧ Objs a K H as r.cs ∧ x.length ≤ 700000 ∧ r.cs.length ≤ 8
theorem RlAt.same {a : Ad} {K : PySem.W.Frag} {H H' : Hp} {p : Addr} {r : Rl} (h : RlAt a K H p r) (s : Same H H') : RlAt a K H' p r := by
  obtain ⟨dx, ch, ct, x, as, h1, h2, h3, h4, h5⟩ := h
  exact ⟨dx, ch, ct, x, as, s _ _ h1, h2.same s, s.sqT h3, h4.same s, h5⟩
def RObjs (a : Ad) (K : PySem.W.Frag) (H : Hp) (as : List V) (rs : List Rl) : Prop := as.length = rs.length ∧ ∀ (i : Nat) (r : Rl), rs[i]? = some r → ∃ p : Addr, as[i]? = some (V.ref p) ∧ RlAt a K H p r
theorem RObjs.same {a : Ad} {K : PySem.W.Frag} {H H' : Hp} {as : List V} {rs : List Rl} (h : RObjs a K H as rs) (s : Same H H') : RObjs a K H' as rs := ⟨h.1, fun i cd e => let ⟨p, x, y⟩ := h.2 i cd e; ⟨p, x, y.same s⟩⟩
theorem RObjs.at {a : Ad} {K : PySem.W.Frag} {H : Hp} {as : List V} {rs : List Rl} (h : RObjs a K H as rs) {i : Nat} {x : V} (hx : as[i]? = some x) : ∃ (r : Rl) (p : Addr), rs[i]? = some r ∧ x = V.ref p ∧ RlAt a K H p r := by
  have hi : i < rs.length := by rw [← h.1]; exact (List.getElem?_eq_some_iff.mp hx).1
  obtain ⟨p, e, hc⟩ := h.2 i _ (List.getElem?_eq_getElem hi)
  rw [hx] at e
  exact ⟨_, p, List.getElem?_eq_getElem hi, Option.some.inj e, hc⟩
def ScAt (a : Ad) (K : PySem.W.Frag) (H : Hp) (p : Addr) (rs : List Rl) : Prop := ∃ dx rt x as, H p = some (.ins a.c_Schedule dx [("rules", .ref rt), ("text", .str x)]) ∧ SqT K H rt as ∧ RObjs a K H as rs ∧ 1 ≤ rs.length ∧ rs.length ≤ 6
theorem ScAt.same {a : Ad} {K : PySem.W.Frag} {H H' : Hp} {p : Addr} {rs : List Rl} (h : ScAt a K H p rs) (s : Same H H') : ScAt a K H' p rs := by
  obtain ⟨dx, rt, x, as, h1, h3, h4, h5⟩ := h
  exact ⟨dx, rt, x, as, s _ _ h1, s.sqT h3, h4.same s, h5⟩
noncomputable def rlOn (c : Cal) (m : Int) (r : Rl) : Bool := chosen r.ps (m % c.day) && r.cs.all (cdOn c (m / c.day))
/-- a method of a condition of any class -/
def tCond (a : Ad) (K : PySem.W.Frag) (E : XK) (to : TE) (t : TA) : TE := fun σ H Q =>
  tMeth a.c_MonthDays "holds" (spCdH a K fun cd => ∃ ps fe, cd = .md ps fe) [] E to t σ H Q ∨ tMeth a.c_Weekdays "holds" (spCdH a K fun cd => ∃ ps, cd = .wd ps) [] E to t σ H Q ∨ tMeth a.c_Months "holds" (spCdH a K fun cd => ∃ ps, cd = .mo ps) [] E to t σ H Q ∨
  tMeth a.c_NthWeekday "holds" (spCdH a K fun cd => ∃ u v fe, cd = .nth u v fe) [] E to t σ H Q ∨ tMeth a.c_EveryDays "holds" (spCdH a K fun cd => ∃ u f, cd = .ev u f) [] E to t σ H Q ∨ tMeth a.c_FromDay "holds" (spCdH a K fun cd => ∃ u, cd = .fr u) [] E to t σ H Q ∨
  tMeth a.c_UntilDay "holds" (spCdH a K fun cd => ∃ u, cd = .un u) [] E to t σ H Q ∨ tMeth a.c_NotOn "holds" (spCdH a K fun cd => ∃ ds, cd = .no ds) [] E to t σ H Q
theorem cond_call {a : Ad} {K : PySem.W.Frag} {E : XK} {to : TE} {t : TA} {σ : St} {H : Hp} {Q : VK} {p q : Addr} {cd : Cd} {c : Cal} {n : Int} (hto : Val to σ H (.ref p)) (ht : ∀ R : List V → Hp → Prop, R [.ref q, .int n] H → t σ H R) (hp : CdAt a K H p cd) (hc : CalAt a.c_Calendar K H q c) (ok : OkCal c)
    (no : ¬ okF n → Out a E H (.rng "number" n)) (yes : okF n → ∀ H', Same H H' → Q (.bl (cdOn c n cd)) H') : tCond a K E to t σ H Q := by
  cases cd with
  | md ps fe =>
    obtain ⟨dx, ch, x, h1, _⟩ := id hp
    exact Or.inl (hto _ ⟨p, dx, _, rfl, h1, by kernel_rfl, ht _ ⟨p, q, _, c, n, rfl, ⟨ps, fe, rfl⟩, hp, hc, ok, no, yes⟩⟩)
  | wd ps =>
    obtain ⟨dx, ch, x, h1, _⟩ := id hp
    exact Or.inr (Or.inl (hto _ ⟨p, dx, _, rfl, h1, by kernel_rfl, ht _ ⟨p, q, _, c, n, rfl, ⟨ps, rfl⟩, hp, hc, ok, no, yes⟩⟩))
  | mo ps =>
    obtain ⟨dx, ch, x, h1, _⟩ := id hp
    exact Or.inr (Or.inr (Or.inl (hto _ ⟨p, dx, _, rfl, h1, by kernel_rfl, ht _ ⟨p, q, _, c, n, rfl, ⟨ps, rfl⟩, hp, hc, ok, no, yes⟩⟩)))
  | nth u v fe =>
    obtain ⟨dx, x, h1, _⟩ := id hp
    exact Or.inr (Or.inr (Or.inr (Or.inl (hto _ ⟨p, dx, _, rfl, h1, by kernel_rfl, ht _ ⟨p, q, _, c, n, rfl, ⟨u, v, fe, rfl⟩, hp, hc, ok, no, yes⟩⟩))))
  | ev u f =>
    obtain ⟨⟨dx, x, h1, _⟩, _⟩ := id hp
    exact Or.inr (Or.inr (Or.inr (Or.inr (Or.inl (hto _ ⟨p, dx, _, rfl, h1, by kernel_rfl, ht _ ⟨p, q, _, c, n, rfl, ⟨u, f, rfl⟩, hp, hc, ok, no, yes⟩⟩)))))
  | fr u =>
    obtain ⟨dx, x, h1, _⟩ := id hp
    exact Or.inr (Or.inr (Or.inr (Or.inr (Or.inr (Or.inl (hto _ ⟨p, dx, _, rfl, h1, by kernel_rfl, ht _ ⟨p, q, _, c, n, rfl, ⟨u, rfl⟩, hp, hc, ok, no, yes⟩⟩))))))
  | un u =>
    obtain ⟨dx, x, h1, _⟩ := id hp
    exact Or.inr (Or.inr (Or.inr (Or.inr (Or.inr (Or.inr (Or.inl (hto _ ⟨p, dx, _, rfl, h1, by kernel_rfl, ht _ ⟨p, q, _, c, n, rfl, ⟨u, rfl⟩, hp, hc, ok, no, yes⟩⟩)))))))
  | no ds =>
    obtain ⟨dx, dt, x, h1, _⟩ := id hp
    exact Or.inr (Or.inr (Or.inr (Or.inr (Or.inr (Or.inr (Or.inr (hto _ ⟨p, dx, _, rfl, h1, by kernel_rfl, ht _ ⟨p, q, _, c, n, rfl, ⟨ds, rfl⟩, hp, hc, ok, no, yes⟩⟩)))))))
def spRlInit (a : Ad) (K : PySem.W.Frag) : Sp := fun vs H Q E => ∃ (p dx ch m : Addr) (as : List V) (r : Rl), vs = [.ref p, .ref ch, .ref m] ∧ H p = some (.ins a.c_Rule dx []) ∧ ChAt a.c_Choice K H ch r.ps ∧ SqA K H m as ∧ Objs a K H as r.cs ∧ (8 < r.cs.length → OutM a E H "conditions" r.cs.length) ∧ (r.cs.length ≤ 8 → ∀ H', RlAt a K H' p r → But p H H' → Q .non H')
def spRlH (a : Ad) (K : PySem.W.Frag) : Sp := fun vs H Q E => ∃ (p q : Addr) (r : Rl) (c : Cal) (n : Int), vs = [.ref p, .ref q, .int n] ∧ RlAt a K H p r ∧ CalAt a.c_Calendar K H q c ∧ OkCal c ∧ (¬ okF n → Out a E H (.rng "minute" n)) ∧ (okF n → ∀ H', Same H H' → Q (.bl (rlOn c n r)) H')
/-- every condition shows a text -/
theorem cd_text {K : PySem.W.Frag} {mg : Str → Option Value} {a : Ad} (T : Tx K mg a) {H : Hp} {p : Addr} {cd : Cd} (h : CdAt a K H p cd) : ∃ C dx fs x, H p = some (.ins C dx fs) ∧ Cls K C ∧ NoAttr K C "text" ∧ List.lookup ("text" : Str) fs = some (V.str x) ∧ x.length ≤ 70100 := by
  cases cd with
  | md ps fe => obtain ⟨dx, ch, x, h1, _, hx⟩ := h; exact ⟨_, dx, _, x, h1, T.cl_MonthDays, T.no_MonthDays_text, by kernel_rfl, hx⟩
  | wd ps => obtain ⟨dx, ch, x, h1, _, hx⟩ := h; exact ⟨_, dx, _, x, h1, T.cl_Weekdays, T.no_Weekdays_text, by kernel_rfl, hx⟩
  | mo ps => obtain ⟨dx, ch, x, h1, _, hx⟩ := h; exact ⟨_, dx, _, x, h1, T.cl_Months, T.no_Months_text, by kernel_rfl, hx⟩
  | nth u v fe => obtain ⟨dx, x, h1, hx⟩ := h; exact ⟨_, dx, _, x, h1, T.cl_NthWeekday, T.no_NthWeekday_text, by kernel_rfl, hx⟩
  | ev u f => obtain ⟨⟨dx, x, h1, hx⟩, _⟩ := h; exact ⟨_, dx, _, x, h1, T.cl_EveryDays, T.no_EveryDays_text, by kernel_rfl, hx⟩
  | fr u => obtain ⟨dx, x, h1, hx⟩ := h; exact ⟨_, dx, _, x, h1, T.cl_FromDay, T.no_FromDay_text, by kernel_rfl, hx⟩
  | un u => obtain ⟨dx, x, h1, hx⟩ := h; exact ⟨_, dx, _, x, h1, T.cl_UntilDay, T.no_UntilDay_text, by kernel_rfl, hx⟩
  | no ds => obtain ⟨dx, dt, x, h1, _, hx⟩ := h; exact ⟨_, dx, _, x, h1, T.cl_NotOn, T.no_NotOn_text, by kernel_rfl, hx⟩
theorem CdAt.but {a : Ad} {K : PySem.W.Frag} {H H' : Hp} {p q C dx : Addr} {fs : List (Str × V)} {cd : Cd} (h : CdAt a K H q cd) (hp : H p = some (.ins C dx fs)) (n : q ≠ p) (nc : ∀ ch ps, ChAt a.c_Choice K H ch ps → ch ≠ p) (b : But p H H') : CdAt a K H' q cd := by
  cases cd with
  | md ps fe => obtain ⟨dx, ch, x, h1, h2, h3⟩ := h; exact ⟨dx, ch, x, b _ _ h1 n, h2.but hp (nc ch ps h2) b, h3⟩
  | wd ps => obtain ⟨dx, ch, x, h1, h2, h3⟩ := h; exact ⟨dx, ch, x, b _ _ h1 n, h2.but hp (nc ch ps h2) b, h3⟩
  | mo ps => obtain ⟨dx, ch, x, h1, h2, h3⟩ := h; exact ⟨dx, ch, x, b _ _ h1 n, h2.but hp (nc ch ps h2) b, h3⟩
  | nth k v fe => obtain ⟨dx, x, h1, h3⟩ := h; exact ⟨dx, x, b _ _ h1 n, h3⟩
  | ev k f => obtain ⟨⟨dx, x, h1, h3⟩, h4⟩ := h; exact ⟨⟨dx, x, b _ _ h1 n, h3⟩, h4⟩
  | fr d => obtain ⟨dx, x, h1, h3⟩ := h; exact ⟨dx, x, b _ _ h1 n, h3⟩
  | un d => obtain ⟨dx, x, h1, h3⟩ := h; exact ⟨dx, x, b _ _ h1 n, h3⟩
  | no ds => obtain ⟨dx, dt, x, h1, h2, h3⟩ := h; exact ⟨dx, dt, x, b _ _ h1 n, b.keepT hp h2, h3⟩
section
variable {P : Program} {w : World} {K : PySem.W.Frag} {mg : Str → Option Value} {base : Heap} {a : Ad}
theorem G_Rule_holds (T : Tx K mg a) : FnOk P w K mg base (L2.CX P w) 6 a.f_Rule_holds a.d_Rule_holds ["self", "calendar", "minute"] (spRlH a K) := by
  refine T.F_Rule_holds.okX sc_Rule_holds (fun vs H Q E h => ?_) (fun cdv A outer s H vs Q E hr h => ?_)
  · obtain ⟨p, q, r, c, n, rfl, _⟩ := h
    rfl
  · obtain ⟨p, q, r, c, n, rfl, ⟨dx, ch, ct, x, as, h1, h2, h3, h4, h5, h6⟩, hc, ok, k1, k⟩ := h
    refine ⟨_, (pss_cons (ps_expr (pe_call (G_in_range T) (hr.mono (by decide)) rfl T.g_in_range T.F_in_range.kp T.b_in_range .nil (passes_call (takes_of rfl rfl rfl rfl) (fun _ _ _ _ h => h)) (pa_cons pe_str (pa_cons (pv 2) (pa_cons pe_int (pa_cons (pe_glob (v := .int (10 ^ 40)) rfl T.g_FAR.choose_spec ⟨_, rfl⟩) pa_nil))))))
      (pss_cons (ps_asg (pe_callB call_divmodW (by rfl) T.n_divmod (by decide +kernel) (pa_cons (pv 2) (pa_cons (pe_fld (pv 1) rfl) pa_nil))) (pg_tup rfl (pgs_cons (pg_name (i := 3) sc_Rule_holds.nd rfl (Or.inr rfl)) (pgs_cons (pg_name (i := 4) sc_Rule_holds.nd rfl (Or.inl rfl)) pgs_nil))))
      (pss_cons (ps_if (pt_not (pt_val (pe_meth (pe_fld (pv 0) rfl) T.cl_Choice T.m_Choice_holds (G_Choice_holds T) (hr.mono (by decide)) T.b_Choice_holds .nil (passes_call (takes_of rfl rfl rfl rfl) (fun _ _ _ _ h => h)) (pa_cons (pv 4) pa_nil)))) (pss_one (ps_ret pe_bl)) pss_nil)
      (pss_one (ps_ret (pe_callB (cr_all rfl) (by rfl) T.n_all (by decide +kernel) (pa_cons (pe_lc (own := [("condition", 5)]) (g := gName 5) (tt := tYes) rfl sc_Rule_holds.nd (pi_tup (pe_fld (pv 0) rfl)) (blkOk_by (own := [("condition", 5)]) (N := ["self", "calendar", "minute", "number", "inner", "condition"]) (sc := defScope s_Rule_holds) (by decide +kernel)) (fun _ _ _ _ _ => (pg_name (i := 5) sc_Rule_holds.nd rfl (Or.inl rfl))) (fun _ _ _ _ _ => pts_nil) (fun _ _ _ _ _ => (pe_alt (pe_meth (pv 5) T.cl_MonthDays T.m_MonthDays_holds (G_MonthDays_holds T) (hr.mono (by decide)) T.b_MonthDays_holds .nil passL (pa_cons (pv 1) (pa_cons (pv 3) pa_nil)))
      (pe_alt (pe_meth (pv 5) T.cl_Weekdays T.m_Weekdays_holds (G_Weekdays_holds T) (hr.mono (by decide)) T.b_Weekdays_holds .nil passL (pa_cons (pv 1) (pa_cons (pv 3) pa_nil)))
      (pe_alt (pe_meth (pv 5) T.cl_Months T.m_Months_holds (G_Months_holds T) (hr.mono (by decide)) T.b_Months_holds .nil passL (pa_cons (pv 1) (pa_cons (pv 3) pa_nil)))
      (pe_alt (pe_meth (pv 5) T.cl_NthWeekday T.m_NthWeekday_holds (G_NthWeekday_holds T) (hr.mono (by decide)) T.b_NthWeekday_holds .nil passL (pa_cons (pv 1) (pa_cons (pv 3) pa_nil)))
      (pe_alt (pe_meth (pv 5) T.cl_EveryDays T.m_EveryDays_holds (G_EveryDays_holds T) (hr.mono (by decide)) T.b_EveryDays_holds .nil passL (pa_cons (pv 1) (pa_cons (pv 3) pa_nil)))
      (pe_alt (pe_meth (pv 5) T.cl_FromDay T.m_FromDay_holds (G_FromDay_holds T) (hr.mono (by decide)) T.b_FromDay_holds .nil passL (pa_cons (pv 1) (pa_cons (pv 3) pa_nil)))
      (pe_alt (pe_meth (pv 5) T.cl_UntilDay T.m_UntilDay_holds (G_UntilDay_holds T) (hr.mono (by decide)) T.b_UntilDay_holds .nil passL (pa_cons (pv 1) (pa_cons (pv 3) pa_nil)))
      (pe_meth (pv 5) T.cl_NotOn T.m_NotOn_holds (G_NotOn_holds T) (hr.mono (by decide)) T.b_NotOn_holds .nil passL (pa_cons (pv 1) (pa_cons (pv 3) pa_nil)))))))))))) pa_nil))))))), ?_⟩
    obtain ⟨dxq, mt, lt, hq, hmt, hlt⟩ := id hc
    refine st_do ⟨_, rfl, "minute", n, 0, 10 ^ 40, rfl, fun z => ?_, fun z => k1 z⟩
    replace k := k z
    have d0 := ok.day
    refine st_seq ⟨_, rfl, _, rfl, q, _, dxq, _, _, rfl, hq, T.cl_Calendar, T.no_Calendar_day, cf_day c mt lt, n, c.day, rfl, ⟨by omega, PyProof.noPylong_small (by omega)⟩, fun t ht => ?_⟩
    have s1 := Same.new (o := .tup [.int (n / c.day), .int (n % c.day)]) ht
    refine ⟨t, _, rfl, SqT.of upd_same, rfl, _, _, rfl, _, _, rfl, rfl, ?_⟩
    dsimp only
    generalize upd H t (.tup [.int (n / c.day), .int (n % c.day)]) = H1 at s1
    have m0 := Int.emod_nonneg n (show c.day ≠ 0 by omega)
    have m1 := Int.emod_lt_of_pos n (show 0 < c.day by omega)
    have of1 : okF (n % c.day) := okSmall m0 (by omega)
    have of2 : okF (n / c.day) := ⟨Int.ediv_nonneg z.1 (by omega), Int.le_trans (Int.ediv_le_self _ z.1) z.2⟩
    have hp1 := s1 _ _ h1
    have hch1 := h2.same s1
    obtain ⟨dxc, pt, txt, as', c1, _⟩ := id hch1
    refine st_guardX ?_
    refine ⟨_, rfl, p, _, dx, _, _, rfl, hp1, T.cl_Rule, T.no_Rule_minutes, (by kernel_rfl : List.lookup _ _ = some (V.ref ch)), ch, dxc, _, rfl, c1, by kernel_rfl, _, rfl, ch, r.ps, _, rfl, hch1, fun z' => (z' of1).elim, fun _ => ⟨_, rfl, ?_⟩⟩
    cases e1 : chosen r.ps (n % c.day) with
    | false =>
      refine iteT ?_
      have e : rlOn c n r = false := by unfold rlOn; rw [e1]; rfl
      rw [e] at k
      exact k H1 s1
    | true =>
      refine iteF ?_
      refine st_ret1 ?_
      refine comp_ix (a := ct) (xs := as) (r.cs.map fun cd => V.bl (cdOn c (n / c.day) cd)) (fun R q => ⟨_, rfl, p, _, dx, _, _, rfl, hp1, T.cl_Rule, T.no_Rule_conditions, (by kernel_rfl : List.lookup _ _ = some (V.ref ct)), q⟩) (s1.sqT h3) (by rw [List.length_map, h4.1]) (by rw [h4.1]; omega) (fun x => rfl) (fun i x y H' Q' hx hy s h => ?_) fun D H' hD e s => ?_
      · obtain ⟨cd, p', hcd, rfl, hcp⟩ := ((h4.same s1).same s).at hx
        rw [List.getElem?_map, hcd] at hy
        cases hy
        exact cond_call (a := a) (K := K) (E := E0) (to := tVar 5) (t := tCons (tVar 1) (tCons (tVar 3) tNil)) (val_var (i := 5) rfl) (fun R q => ⟨_, rfl, _, rfl, q⟩) hcp ((hc.same s1).same s) ok (fun z' => (z' of2).elim) fun _ H2 s2 => h H2 s2
      · refine ⟨D, r.cs.map (cdOn c (n / c.day)), rfl, SqL.of (e.trans (by rw [List.map_map]; rfl)), ?_⟩
        have e2 : (r.cs.map (cdOn c (n / c.day))).all id = rlOn c n r := by
          unfold rlOn
          rw [e1, Bool.true_and, List.all_map]
          rfl
        rw [e2]
        exact k H' (s1.trans s)
theorem G_Rule_init (T : Tx K mg a) : FnOk P w K mg base (L2.CX P w) 3 a.f_Rule_init a.d_Rule_init ["self", "minutes", "conditions"] (spRlInit a K) := by
  refine T.F_Rule_init.okX sc_Rule_init (fun vs H Q E h => ?_) (fun cdv A outer s H vs Q E hr h => ?_)
  · obtain ⟨p, dx, ch, m, as, r, rfl, _⟩ := h
    rfl
  · obtain ⟨p, dx, ch, m, as, r, rfl, hp, hch, hm, hcs, k1, k2⟩ := h
    refine ⟨_, (pss_cons (ps_if (pt_cmpR op_gt (pe_callB call_len_seq (by rfl) T.n_len (by decide +kernel) (pa_cons (pv 2) pa_nil)) (pe_glob (v := .int 8) rfl T.g_MOST_CONDITIONS.choose_spec ⟨_, rfl⟩) (nomark _)) (pss_one (ps_raise rfl (takes_of rfl rfl rfl rfl) (pmk_oex T.ox_TooMany T.i_TooMany T.t_TooMany (G_TooMany_init T) (hr.mono (by decide)) T.b_TooMany_init .nil pass0 rfl T.g_TooMany (pa_cons pe_str (pa_cons (pe_callB call_len_seq (by rfl) T.n_len (by decide +kernel) (pa_cons (pv 2) pa_nil)) pa_nil))))) pss_nil)
      (pss_cons (ps_fld (pv 0) (pv 1) rfl)
      (pss_cons (ps_fld (pv 0) (pe_callTy call_tuple_of (by rfl) T.n_tuple (by decide +kernel) (pa_cons (pv 2) pa_nil)) rfl)
      (pss_one (ps_fld (pv 0) (pe_join pe_str (pe_op op_cat (pe_lst (pa_cons (pe_joined (.cons pe_str (.cons (pe_fmt (pe_fld (pv 1) rfl)) .nil))) pa_nil)) (pe_lc (own := [("condition", 3)]) (g := gName 3) (tt := tYes) rfl sc_Rule_init.nd (pi_tup (pe_fld (pv 0) rfl)) (blkOk_by (own := [("condition", 3)]) (N := ["self", "minutes", "conditions", "condition"]) (sc := defScope s_Rule_init) (by decide +kernel)) (fun _ _ _ _ _ => (pg_name (i := 3) sc_Rule_init.nd rfl (Or.inl rfl))) (fun _ _ _ _ _ => pts_nil) (fun _ _ _ _ _ => (pe_fldK K (pv 3) rfl))))) rfl))))), ?_⟩
    have hl := hcs.1
    have nch := hch.ne hp
    refine st_guard (q := 8 < r.cs.length) (a_cmp (f := fun i j => decide (j < i)) (v_cb (v := .int (r.cs.length : Nat)) (val_var (i := 2) rfl) fun Q q => ⟨m, as, rfl, hm, by rw [hl]; exact q⟩) val_c) (by simp; omega) (fun z => ?_) fun z => ?_
    · refine ⟨_, rfl, m, as, rfl, hm, ?_⟩
      rw [hl]
      exact x2_made (k1 z)
    have hz : r.cs.length ≤ 8 := by omega
    have k := k2 hz
    refine st_mk (y := .ref ch) (val_var (i := 1) rfl) (val_var (i := 0) rfl) hp T.cl_Rule T.no_Rule_minutes (by show 0 < 1000; decide) fun H1 q1 b1 => ?_
    have hp1 : H1 p = some (.ins a.c_Rule dx [("minutes", .ref ch)]) := q1.trans (by kernel_rfl)
    have hm1 := b1.keepA hp hm
    refine st_mkH (PV := fun y H' => ∃ ct, y = .ref ct ∧ SqT K H' ct as ∧ Same H1 H') (fun Q q => ?_) (fun H' => val_var (i := 0) rfl) (fun y H' z => z.choose_spec.2.2 _ _ hp1) T.cl_Rule T.no_Rule_conditions (by show 1 < 1000; decide) fun y H2' H2 z q2 b2' => ?_
    case refine_1 =>
      rcases hm1 with hm | hm
      · exact ⟨_, rfl, m, _, rfl, Or.inl ⟨hm, fun l hl => q _ _ ⟨l, rfl, SqT.of upd_same, Same.new hl⟩⟩⟩
      · exact ⟨_, rfl, m, _, rfl, Or.inr ⟨hm, q _ _ ⟨m, rfl, hm, Same.refl _⟩⟩⟩
    obtain ⟨ct, rfl, hct, s2⟩ := z
    have hp2 : H2 p = some (.ins a.c_Rule dx [("minutes", .ref ch), ("conditions", .ref ct)]) := q2.trans (by kernel_rfl)
    have hct2 := b2'.keepT (s2 _ _ hp1) hct
    have b2 : But p H H2 := b1.trans (But.same s2 b2')
    have nc : ∀ ch ps, ChAt a.c_Choice K H ch ps → ch ≠ p := fun ch ps h => h.ne hp
    have hcs2 : Objs a K H2 as r.cs := ⟨hcs.1, fun i cd e => let ⟨p', z1, z2⟩ := hcs.2 i cd e; ⟨p', z1, z2.but hp (fun y => by
      obtain ⟨C, dx', fs, x, w1, _, _, w2, _⟩ := cd_text T z2
      rw [y, hp] at w1
      cases w1
      cases w2) nc b2⟩⟩
    have hch2 := hch.but hp nch b2
    have fin : ∀ (x : Str) (H3 : Hp), x.length ≤ 700000 → Same H2 H3 → ∃ a0 C dx0 fs, V.ref p = .ref a0 ∧ H3 a0 = some (.ins C dx0 fs) ∧ Cls K C ∧ NoAttr K C "text" ∧ fs.length < 1000 ∧ Q .non (upd H3 a0 (.ins C dx0 (putF "text" (.str x) fs))) := fun x H3 hx s3 => by
      have hp3 := s3 _ _ hp2
      have b3 : But p H3 (upd H3 p (.ins a.c_Rule dx (putF "text" (.str x) [("minutes", .ref ch), ("conditions", .ref ct)]))) := (But.refl p H3).upd
      have b4 := (b2.thenS s3).trans b3
      refine ⟨p, _, dx, _, rfl, hp3, T.cl_Rule, T.no_Rule_text, by show 2 < 1000; decide, k _ ⟨dx, ch, ct, x, as, upd_same.trans (by kernel_rfl), hch.but hp nch b4, b3.keepT hp3 (s3.sqT hct2), ?_, hx, hz⟩ b4⟩
      exact ⟨hcs.1, fun i cd e => let ⟨p', z1, z2⟩ := hcs.2 i cd e; ⟨p', z1, z2.but hp (fun y => by
        obtain ⟨C, dx', fs, x, w1, _, _, w2, _⟩ := cd_text T z2
        rw [y, hp] at w1
        cases w1
        cases w2) nc b4⟩⟩
    obtain ⟨dxc, pt, txt, as', c1, c2, c3, cl, c4⟩ := id hch2
    have l0 : (Str.empty ++ ("at " : Str)).length = 3 := rfl
    refine ⟨⟨_, rfl⟩, ?_⟩
    refine ⟨_, rfl, fits (n := 3) (by rw [l0]; exact Nat.le_refl _) (by decide), _, rfl, ch, _, dxc, _, _, rfl, c1, T.cl_Choice, T.no_Choice_text, (by kernel_rfl : List.lookup _ _ = some (V.str txt)), Or.inl ⟨txt, rfl, fits cl (by decide), _, rfl, fits (n := 70003) (by rw [strLen_append, l0]; omega) (by decide), ?_⟩⟩
    have l1 : (Str.empty ++ ("at " : Str) ++ txt).length ≤ 70100 := by rw [strLen_append, l0]; omega
    generalize Str.empty ++ ("at " : Str) ++ txt = x0 at l1
    refine ⟨by show 1 ≤ sizeLine; decide, fun b hb => ?_⟩
    have s3 := Same.new (o := .lst [.str x0]) hb
    have hb3 : upd H2 b (.lst [.str x0]) b = some (.lst [.str x0]) := upd_same
    generalize upd H2 b (.lst [.str x0]) = H3 at s3 hb3
    have hp3 := s3 _ _ hp2
    have hcs3 := hcs2.same s3
    refine comp_strs (a := ct) (xs := as) 70100 (fun R q => ⟨_, rfl, p, _, dx, _, _, rfl, hp3, T.cl_Rule, T.no_Rule_conditions, (by kernel_rfl : List.lookup _ _ = some (V.ref ct)), q⟩) (s3.sqT hct2) (by omega) (fun x => rfl) (fun i x H' Q' hx s h => ?_) fun D H' ys hD e ly by_ s => ?_
    · obtain ⟨cd, p', hcd, rfl, hcp⟩ := (hcs3.same s).at hx
      obtain ⟨C, dx', fs, x, w1, w2, w3, w4, w5⟩ := cd_text T hcp
      exact ⟨_, rfl, p', C, dx', fs, _, rfl, w1, w2, w3, w4, h x H' w5 (Same.refl _)⟩
    · refine ⟨b, D, _, _, rfl, rfl, s _ _ hb3, e, by rw [List.length_map]; exact Nat.le_trans (show 1 + ys.length ≤ 9 by omega) (by decide), fun u hu => ?_⟩
      have all : ∀ y ∈ x0 :: ys, y.length ≤ 70100 := fun y hy => by
        rcases List.mem_cons.mp hy with rfl | hy
        · exact l1
        · exact by_ y hy
      have eu : upd H' u (.lst ([V.str x0] ++ ys.map V.str)) u = some (.lst ((x0 :: ys).map V.str)) := upd_same
      have jl := join_len (sep := (" ": Str)) all
      have lb : ((" ": Str)).length = 1 := rfl
      refine ⟨_, u, x0 :: ys, rfl, rfl, Or.inl (SqL.of eu), join_ok (n := 9) all (by rw [List.length_cons]; omega) (by decide) (by decide), _, rfl, fin _ _ ?_ (s3.trans (s.trans (Same.new hu)))⟩
      have : (x0 :: ys).length * (70100 + (" ": Str).length) ≤ 9 * 70101 := Nat.mul_le_mul (by rw [List.length_cons]; omega) (by rw [lb]; exact Nat.le_refl _)
      omega
end
end My

namespace My
open PySem L2
theorem RlAt.ne {a : Ad} {K : PySem.W.Frag} {H : Hp} {p q C dx : Addr} {r : Rl} (h : RlAt a K H q r) (hp : H p = some (.ins C dx [])) : q ≠ p := by
  obtain ⟨dx', ch, ct, x, as, h1, _⟩ := h
  intro z
  rw [z, hp] at h1
  cases h1
theorem RlAt.but {K : PySem.W.Frag} {mg : Str → Option Value} {a : Ad} (T : Tx K mg a) {H H' : Hp} {p q C dx : Addr} {r : Rl} (h : RlAt a K H q r) (hp : H p = some (.ins C dx [])) (b : But p H H') : RlAt a K H' q r := by
  have n := h.ne hp
  obtain ⟨dx', ch, ct, x, as, h1, h2, h3, h4, h5⟩ := h
  refine ⟨dx', ch, ct, x, as, b _ _ h1 n, h2.but hp (h2.ne hp) b, b.keepT hp h3, ⟨h4.1, fun i cd e => ?_⟩, h5⟩
  obtain ⟨p', z1, z2⟩ := h4.2 i cd e
  refine ⟨p', z1, z2.but hp (fun y => ?_) (fun ch ps h => h.ne hp) b⟩
  obtain ⟨C', dx2, fs, x', w1, _, _, w2, _⟩ := cd_text T z2
  rw [y, hp] at w1
  cases w1
  cases w2
noncomputable def barOf (c : Cal) (m : Int) (r : Rl) : Option Nat := if chosen r.ps (m % c.day) = true then (r.cs.findIdx? fun cd => !cdOn c (m / c.day) cd).map (· + 1) else some 0
def barV : Option Nat → V
  | none => .non
  | some i => .int (i : Nat)
theorem barOf_none {c : Cal} {m : Int} {r : Rl} : barOf c m r = none ↔ rlOn c m r = true := by
  unfold barOf rlOn
  by_cases h : chosen r.ps (m % c.day) = true
  · rw [if_pos h, h, Bool.true_and, Option.map_eq_none_iff, List.findIdx?_eq_none_iff, List.all_eq_true]
    simp
  · rw [if_neg h]
    simp [h]
def spScInit (a : Ad) (K : PySem.W.Frag) : Sp := fun vs H Q _ => ∃ (p dx m : Addr) (as : List V) (rs : List Rl), vs = [.ref p, .ref m] ∧ H p = some (.ins a.c_Schedule dx []) ∧ SqL K H m as ∧ RObjs a K H as rs ∧ 1 ≤ rs.length ∧ rs.length ≤ 6 ∧ ∀ H', ScAt a K H' p rs → But p H H' → Q .non H'
def spScH (a : Ad) (K : PySem.W.Frag) : Sp := fun vs H Q E => ∃ (p q : Addr) (rs : List Rl) (c : Cal) (n : Int), vs = [.ref p, .ref q, .int n] ∧ ScAt a K H p rs ∧ CalAt a.c_Calendar K H q c ∧ OkCal c ∧ (¬ okF n → Out a E H (.rng "minute" n)) ∧ (okF n → ∀ H', Same H H' → Q (.bl (rs.any (rlOn c n))) H')
def spBar (a : Ad) (K : PySem.W.Frag) : Sp := fun vs H Q _ => ∃ (p q : Addr) (r : Rl) (c : Cal) (n : Int), vs = [.ref p, .ref q, .int n] ∧ RlAt a K H p r ∧ CalAt a.c_Calendar K H q c ∧ OkCal c ∧ okF n ∧ ∀ H', Same H H' → Q (barV (barOf c n r)) H'
def spWhy (a : Ad) (K : PySem.W.Frag) : Sp := fun vs H Q E => ∃ (p q : Addr) (rs : List Rl) (c : Cal) (n : Int), vs = [.ref p, .ref q, .int n] ∧ ScAt a K H p rs ∧ CalAt a.c_Calendar K H q c ∧ OkCal c ∧ (¬ okF n → Out a E H (.rng "minute" n)) ∧ (okF n → ∀ H', Same H H' → Q (barV (rs.findIdx? (rlOn c n))) H')
def spNot (a : Ad) (K : PySem.W.Frag) : Sp := fun vs H Q E => ∃ (p q : Addr) (rs : List Rl) (c : Cal) (n : Int), vs = [.ref p, .ref q, .int n] ∧ ScAt a K H p rs ∧ CalAt a.c_Calendar K H q c ∧ OkCal c ∧ (¬ okF n → Out a E H (.rng "minute" n)) ∧
  (okF n → rs.any (rlOn c n) = true → ∀ H', Same H H' → Q .non H') ∧ (okF n → rs.any (rlOn c n) = false → ∀ t H', H' t = some (.tup (rs.map fun r => barV (barOf c n r))) → Same H H' → Q (.ref t) H')
section
variable {P : Program} {w : World} {K : PySem.W.Frag} {mg : Str → Option Value} {base : Heap} {a : Ad}
theorem G_Schedule_init (T : Tx K mg a) : FnOk P w K mg base (L2.CX P w) 3 a.f_Schedule_init a.d_Schedule_init ["self", "rules"] (spScInit a K) := by
  refine T.F_Schedule_init.okX sc_Schedule_init (fun vs H Q E h => ?_) (fun cdv A outer s H vs Q E hr h => ?_)
  · obtain ⟨p, dx, m, as, rs, rfl, _⟩ := h
    rfl
  · obtain ⟨p, dx, m, as, rs, rfl, hp, hm, hrs, l1, l6, k⟩ := h
    refine ⟨_, (pss_cons (ps_if (pt_not (pt_chain op_le op_le pe_int (pe_callB call_len_seq (by rfl) T.n_len (by decide +kernel) (pa_cons (pv 1) pa_nil)) (pe_glob (v := .int 6) rfl T.g_MOST_RULES.choose_spec ⟨_, rfl⟩))) (pss_one (ps_raise rfl (takes_of rfl rfl rfl rfl) (pmk_oex T.ox_TooMany T.i_TooMany T.t_TooMany (G_TooMany_init T) (hr.mono (by decide)) T.b_TooMany_init .nil pass0 rfl T.g_TooMany (pa_cons pe_str (pa_cons (pe_callB call_len_seq (by rfl) T.n_len (by decide +kernel) (pa_cons (pv 1) pa_nil)) pa_nil))))) pss_nil)
      (pss_cons (ps_fld (pv 0) (pe_callTy call_tuple_of (by rfl) T.n_tuple (by decide +kernel) (pa_cons (pv 1) pa_nil)) rfl)
      (pss_one (ps_fld (pv 0) (pe_join pe_str (pe_lc (own := [("rule", 2)]) (g := gName 2) (tt := tYes) rfl sc_Schedule_init.nd (pi_tup (pe_fld (pv 0) rfl)) (blkOk_by (own := [("rule", 2)]) (N := ["self", "rules", "rule"]) (sc := defScope s_Schedule_init) (by decide +kernel)) (fun _ _ _ _ _ => (pg_name (i := 2) sc_Schedule_init.nd rfl (Or.inl rfl))) (fun _ _ _ _ _ => pts_nil) (fun _ _ _ _ _ => (pe_fldK K (pv 2) rfl)))) rfl)))), ?_⟩
    have hl := hrs.1
    refine st_guard (q := False) (ans_not (a_val (v_chain (f := fun i j => decide (i ≤ j)) (g := fun i j => decide (i ≤ j)) val_c (v_cb (v := .int (rs.length : Nat)) (val_var (i := 1) rfl) fun Q q => ⟨m, as, rfl, Or.inl hm, by rw [hl]; exact q⟩) val_c))) (by simp; omega) (fun z => z.elim) fun _ => ?_
    refine st_mkH (PV := fun y H' => ∃ ct, y = .ref ct ∧ SqT K H' ct as ∧ Same H H') (fun Q q => ?_) (fun H' => val_var (i := 0) rfl) (fun y H' z => z.choose_spec.2.2 _ _ hp) T.cl_Schedule T.no_Schedule_rules (by show 0 < 1000; decide) fun y H2' H2 z q2 b2' => ?_
    case refine_1 =>
      exact ⟨_, rfl, m, _, rfl, Or.inl ⟨hm, fun l hl => q _ _ ⟨l, rfl, SqT.of upd_same, Same.new hl⟩⟩⟩
    obtain ⟨ct, rfl, hct, s2⟩ := z
    have hp2 : H2 p = some (.ins a.c_Schedule dx [("rules", .ref ct)]) := q2.trans (by kernel_rfl)
    have hct2 := b2'.keepT (s2 _ _ hp) hct
    have b2 : But p H H2 := But.same s2 b2'
    have hrs2 : RObjs a K H2 as rs := ⟨hrs.1, fun i r e => let ⟨p', z1, z2⟩ := hrs.2 i r e; ⟨p', z1, z2.but T hp b2⟩⟩
    refine ⟨⟨_, rfl⟩, ?_⟩
    refine comp_strs (a := ct) (xs := as) 700000 (fun R q => ⟨_, rfl, p, _, dx, _, _, rfl, hp2, T.cl_Schedule, T.no_Schedule_rules, (by kernel_rfl : List.lookup _ _ = some (V.ref ct)), q⟩) hct2 (by omega) (fun x => rfl) (fun i x H' Q' hx s h => ?_) fun D H' ys hD e ly by_ s => ?_
    · obtain ⟨r, p', hr', rfl, dx', ch, ct', x, as', w1, w2, w3, w4, w5, w6⟩ := (hrs2.same s).at hx
      exact ⟨_, rfl, p', _, dx', _, _, rfl, w1, T.cl_Rule, T.no_Rule_text, (by kernel_rfl : List.lookup _ _ = some (V.str x)), h x H' w5 (Same.refl _)⟩
    · refine ⟨_, D, ys, rfl, rfl, Or.inl (SqL.of e), join_ok (n := 6) by_ (by omega) (by decide) (by decide), _, rfl, ?_⟩
      have hp3 := s _ _ hp2
      generalize Txt.join (" or " : Str) ys = x
      have b3 : But p H' (upd H' p (.ins a.c_Schedule dx (putF "text" (.str x) [("rules", .ref ct)]))) := (But.refl p H').upd
      have b4 := (b2.thenS s).trans b3
      exact ⟨p, _, dx, _, rfl, hp3, T.cl_Schedule, T.no_Schedule_text, by show 1 < 1000; decide, k _ ⟨dx, ct, x, as, upd_same.trans (by kernel_rfl), b3.keepT hp3 (s.sqT hct2), ⟨hrs.1, fun i r e => let ⟨p', z1, z2⟩ := hrs.2 i r e; ⟨p', z1, z2.but T hp b4⟩⟩, l1, l6⟩ b4⟩
theorem G_Schedule_holds (T : Tx K mg a) : FnOk P w K mg base (L2.CX P w) 7 a.f_Schedule_holds a.d_Schedule_holds ["self", "calendar", "minute"] (spScH a K) := by
  refine T.F_Schedule_holds.okX sc_Schedule_holds (fun vs H Q E h => ?_) (fun cdv A outer s H vs Q E hr h => ?_)
  · obtain ⟨p, q, r, c, n, rfl, _⟩ := h
    rfl
  · obtain ⟨p, q, rs, c, n, rfl, ⟨dx, rt, x, as, h1, h3, h4, h5, h6⟩, hc, ok, k1, k⟩ := h
    refine ⟨_, (pss_cons (ps_expr (pe_call (G_in_range T) (hr.mono (by decide)) rfl T.g_in_range T.F_in_range.kp T.b_in_range .nil (passes_call (takes_of rfl rfl rfl rfl) (fun _ _ _ _ h => h)) (pa_cons pe_str (pa_cons (pv 2) (pa_cons pe_int (pa_cons (pe_glob (v := .int (10 ^ 40)) rfl T.g_FAR.choose_spec ⟨_, rfl⟩) pa_nil))))))
      (pss_one (ps_ret (pe_callB (cr_any rfl) (by rfl) T.n_any (by decide +kernel) (pa_cons (pe_lc (own := [("rule", 3)]) (g := gName 3) (tt := tYes) rfl sc_Schedule_holds.nd (pi_tup (pe_fld (pv 0) rfl)) (blkOk_by (own := [("rule", 3)]) (N := ["self", "calendar", "minute", "rule"]) (sc := defScope s_Schedule_holds) (by decide +kernel)) (fun _ _ _ _ _ => (pg_name (i := 3) sc_Schedule_holds.nd rfl (Or.inl rfl))) (fun _ _ _ _ _ => pts_nil) (fun _ _ _ _ _ => (pe_meth (pv 3) T.cl_Rule T.m_Rule_holds (G_Rule_holds T) (hr.mono (by decide)) T.b_Rule_holds .nil passL (pa_cons (pv 1) (pa_cons (pv 2) pa_nil))))) pa_nil))))), ?_⟩
    refine st_do ⟨_, rfl, "minute", n, 0, 10 ^ 40, rfl, fun z => ?_, fun z => k1 z⟩
    replace k := k z
    refine st_ret1 ?_
    refine comp_ix (a := rt) (xs := as) (rs.map fun r => V.bl (rlOn c n r)) (fun R q => ⟨_, rfl, p, _, dx, _, _, rfl, h1, T.cl_Schedule, T.no_Schedule_rules, (by kernel_rfl : List.lookup _ _ = some (V.ref rt)), q⟩) h3 (by rw [List.length_map, h4.1]) (by rw [h4.1]; omega) (fun x => rfl) (fun i x y H' Q' hx hy s h => ?_) fun D H' hD e s => ?_
    · obtain ⟨r, p', hr', rfl, hrp⟩ := (h4.same s).at hx
      rw [List.getElem?_map, hr'] at hy
      cases hy
      obtain ⟨dx', ch, ct, x, as', w1, _⟩ := id hrp
      exact ⟨_, rfl, p', dx', _, rfl, w1, by kernel_rfl, _, rfl, _, rfl, p', q, r, c, n, rfl, hrp, hc.same s, ok, fun z' => (z' z).elim, fun _ H2 s2 => h H2 s2⟩
    · refine ⟨D, rs.map (rlOn c n), rfl, SqL.of (e.trans (by rw [List.map_map]; rfl)), ?_⟩
      have e2 : (rs.map (rlOn c n)).any id = rs.any (rlOn c n) := by
        rw [List.any_map]
        rfl
      rw [e2]
      exact k H' s
theorem G_first_bar (T : Tx K mg a) : FnOk P w K mg base (L2.CX P w) 6 a.f_first_bar a.d_first_bar ["rule", "calendar", "minute"] (spBar a K) := by
  refine T.F_first_bar.okX sc_first_bar (fun vs H Q E h => ?_) (fun cdv A outer s H vs Q E hr h => ?_)
  · obtain ⟨p, q, r, c, n, rfl, _⟩ := h
    rfl
  · obtain ⟨p, q, r, c, n, rfl, ⟨dx, ch, ct, x, as, h1, h2, h3, h4, h5, h6⟩, hc, ok, z, k⟩ := h
    refine ⟨_, (pss_cons (ps_asg (pe_callB call_divmodW (by rfl) T.n_divmod (by decide +kernel) (pa_cons (pv 2) (pa_cons (pe_fld (pv 1) rfl) pa_nil))) (pg_tup rfl (pgs_cons (pg_name (i := 3) sc_first_bar.nd rfl (Or.inl rfl)) (pgs_cons (pg_name (i := 4) sc_first_bar.nd rfl (Or.inl rfl)) pgs_nil))))
      (pss_cons (ps_if (pt_not (pt_val (pe_meth (pe_fld (pv 0) rfl) T.cl_Choice T.m_Choice_holds (G_Choice_holds T) (hr.mono (by decide)) T.b_Choice_holds .nil (passes_call (takes_of rfl rfl rfl rfl) (fun _ _ _ _ h => h)) (pa_cons (pv 4) pa_nil)))) (pss_one (ps_ret pe_int)) pss_nil)
      (pss_cons (ps_for (passes_of rfl) rfl (pi_enumT (by rfl) T.n_enumerate (pa_cons (pe_fld (pv 0) rfl) pa_nil)) (pg_tup rfl (pgs_cons (pg_name (i := 5) sc_first_bar.nd rfl (Or.inl rfl)) (pgs_cons (pg_name (i := 6) sc_first_bar.nd rfl (Or.inl rfl)) pgs_nil))) (pss_one (ps_if (pt_not (pt_val (pe_alt (pe_meth (pv 6) T.cl_MonthDays T.m_MonthDays_holds (G_MonthDays_holds T) (hr.mono (by decide)) T.b_MonthDays_holds .nil (passes_call (takes_of rfl rfl rfl rfl) (fun _ _ _ _ h => h)) (pa_cons (pv 1) (pa_cons (pv 3) pa_nil)))
      (pe_alt (pe_meth (pv 6) T.cl_Weekdays T.m_Weekdays_holds (G_Weekdays_holds T) (hr.mono (by decide)) T.b_Weekdays_holds .nil (passes_call (takes_of rfl rfl rfl rfl) (fun _ _ _ _ h => h)) (pa_cons (pv 1) (pa_cons (pv 3) pa_nil)))
      (pe_alt (pe_meth (pv 6) T.cl_Months T.m_Months_holds (G_Months_holds T) (hr.mono (by decide)) T.b_Months_holds .nil (passes_call (takes_of rfl rfl rfl rfl) (fun _ _ _ _ h => h)) (pa_cons (pv 1) (pa_cons (pv 3) pa_nil)))
      (pe_alt (pe_meth (pv 6) T.cl_NthWeekday T.m_NthWeekday_holds (G_NthWeekday_holds T) (hr.mono (by decide)) T.b_NthWeekday_holds .nil (passes_call (takes_of rfl rfl rfl rfl) (fun _ _ _ _ h => h)) (pa_cons (pv 1) (pa_cons (pv 3) pa_nil)))
      (pe_alt (pe_meth (pv 6) T.cl_EveryDays T.m_EveryDays_holds (G_EveryDays_holds T) (hr.mono (by decide)) T.b_EveryDays_holds .nil (passes_call (takes_of rfl rfl rfl rfl) (fun _ _ _ _ h => h)) (pa_cons (pv 1) (pa_cons (pv 3) pa_nil)))
      (pe_alt (pe_meth (pv 6) T.cl_FromDay T.m_FromDay_holds (G_FromDay_holds T) (hr.mono (by decide)) T.b_FromDay_holds .nil (passes_call (takes_of rfl rfl rfl rfl) (fun _ _ _ _ h => h)) (pa_cons (pv 1) (pa_cons (pv 3) pa_nil)))
      (pe_alt (pe_meth (pv 6) T.cl_UntilDay T.m_UntilDay_holds (G_UntilDay_holds T) (hr.mono (by decide)) T.b_UntilDay_holds .nil (passes_call (takes_of rfl rfl rfl rfl) (fun _ _ _ _ h => h)) (pa_cons (pv 1) (pa_cons (pv 3) pa_nil)))
      (pe_meth (pv 6) T.cl_NotOn T.m_NotOn_holds (G_NotOn_holds T) (hr.mono (by decide)) T.b_NotOn_holds .nil (passes_call (takes_of rfl rfl rfl rfl) (fun _ _ _ _ h => h)) (pa_cons (pv 1) (pa_cons (pv 3) pa_nil)))))))))))) (pss_one (ps_ret (pe_op op_add (pv 5) pe_int))) pss_nil)))
      (pss_one (ps_ret pe_non))))), ?_⟩
    obtain ⟨dxq, mt, lt, hq, hmt, hlt⟩ := id hc
    have d0 := ok.day
    refine st_seq ⟨_, rfl, _, rfl, q, _, dxq, _, _, rfl, hq, T.cl_Calendar, T.no_Calendar_day, cf_day c mt lt, n, c.day, rfl, ⟨by omega, PyProof.noPylong_small (by omega)⟩, fun t ht => ?_⟩
    have s1 := Same.new (o := .tup [.int (n / c.day), .int (n % c.day)]) ht
    refine ⟨t, _, rfl, SqT.of upd_same, rfl, _, _, rfl, _, _, rfl, rfl, ?_⟩
    dsimp only
    generalize upd H t (.tup [.int (n / c.day), .int (n % c.day)]) = H1 at s1
    have m0 := Int.emod_nonneg n (show c.day ≠ 0 by omega)
    have m1 := Int.emod_lt_of_pos n (show 0 < c.day by omega)
    have of1 : okF (n % c.day) := okSmall m0 (by omega)
    have of2 : okF (n / c.day) := ⟨Int.ediv_nonneg z.1 (by omega), Int.le_trans (Int.ediv_le_self _ z.1) z.2⟩
    have hp1 := s1 _ _ h1
    have hch1 := h2.same s1
    have hc1 := hc.same s1
    have h41 := h4.same s1
    obtain ⟨dxc, pt, txt, as', c1, _⟩ := id hch1
    refine st_guardX ?_
    refine ⟨_, rfl, p, _, dx, _, _, rfl, hp1, T.cl_Rule, T.no_Rule_minutes, (by kernel_rfl : List.lookup _ _ = some (V.ref ch)), ch, dxc, _, rfl, c1, by kernel_rfl, _, rfl, ch, r.ps, _, rfl, hch1, fun z' => (z' of1).elim, fun _ => ⟨_, rfl, ?_⟩⟩
    cases e1 : chosen r.ps (n % c.day) with
    | false =>
      refine iteT ?_
      have e : barOf c n r = some 0 := by unfold barOf; rw [e1]; rfl
      rw [e] at k
      exact k H1 s1
    | true =>
      refine iteF ?_
      have hl := h4.1
      refine st_seq (st_forET (a := ct) (xs := as) (fun R q => ⟨_, rfl, p, _, dx, _, _, rfl, hp1, T.cl_Rule, T.no_Rule_conditions, (by kernel_rfl : List.lookup _ _ = some (V.ref ct)), q⟩) (s1.sqT h3) (fun i σ' H' => ∃ v5 v6, σ' = [some (.ref p), some (.ref q), some (.int n), some (.int (n / c.day)), some (.int (n % c.day)), v5, v6] ∧ Same H1 H' ∧ ∀ j cd, j < i → r.cs[j]? = some cd → cdOn c (n / c.day) cd = true) ⟨none, none, rfl, Same.refl _, fun j cd z => absurd z (Nat.not_lt_zero _)⟩ (fun i σ' H' ⟨_, _, _, s, _⟩ => s) ?_ ?_)
      · rintro i x U σ' H2 hx ⟨v5, v6, rfl, s2, yes⟩ hU
        obtain ⟨cd, p', hcd, rfl, hcp⟩ := (h41.same s2).at hx
        have s3 := Same.new (o := .tup [.int (i : Nat), .ref p']) hU
        have s4 := s2.trans s3
        refine ⟨U, _, rfl, SqT.of upd_same, rfl, _, _, rfl, _, _, rfl, rfl, ?_⟩
        dsimp only
        refine (show tCond a K _ (tVar 6) (tCons (tVar 1) (tCons (tVar 3) tNil)) _ _ _ from cond_call (val_var (i := 6) rfl) (fun R q => ⟨_, rfl, _, rfl, q⟩) (hcp.same s3) (hc1.same s4) ok (fun z' => (z' of2).elim) fun _ H4 s5 => ⟨_, rfl, ?_⟩)
        cases e2 : cdOn c (n / c.day) cd with
        | false =>
          refine iteT ?_
          have e : barOf c n r = some (i + 1) := by
            unfold barOf
            rw [if_pos e1]
            have : r.cs.findIdx? (fun cd => !cdOn c (n / c.day) cd) = some i := by
              obtain ⟨hi, ei⟩ := List.getElem?_eq_some_iff.mp hcd
              refine List.findIdx?_eq_some_iff_getElem.mpr ⟨hi, by rw [ei, e2]; rfl, fun j hj => ?_⟩
              rw [yes j _ hj (List.getElem?_eq_getElem (by omega))]
              exact Bool.false_ne_true
            rw [this]
            rfl
          rw [e] at k
          refine ⟨_, rfl, _, _, rfl, rfl, ?_⟩
          exact k H4 (s1.trans (s4.trans s5))
        | true =>
          refine iteF ?_
          refine ⟨_, _, rfl, s4.trans s5, fun j cd' hj e => ?_⟩
          rcases Nat.lt_or_eq_of_le (Nat.le_of_lt_succ hj) with h | rfl
          · exact yes j cd' h e
          · rw [hcd] at e
            cases e
            exact e2
      · rintro σ' H2 ⟨v5, v6, rfl, s2, yes⟩
        have e : barOf c n r = none := by
          rw [barOf_none]
          unfold rlOn
          rw [e1, Bool.true_and, List.all_eq_true]
          intro cd hcd
          obtain ⟨j, hj, ej⟩ := List.mem_iff_getElem.mp hcd
          exact yes j cd (by omega) (by rw [List.getElem?_eq_getElem hj, ej])
        rw [e] at k
        exact k H2 (s1.trans s2)
theorem G_why_due (T : Tx K mg a) : FnOk P w K mg base (L2.CX P w) 7 a.f_why_due a.d_why_due ["schedule", "calendar", "minute"] (spWhy a K) := by
  refine T.F_why_due.okX sc_why_due (fun vs H Q E h => ?_) (fun cdv A outer s H vs Q E hr h => ?_)
  · obtain ⟨p, q, r, c, n, rfl, _⟩ := h
    rfl
  · obtain ⟨p, q, rs, c, n, rfl, ⟨dx, rt, x, as, h1, h3, h4, h5, h6⟩, hc, ok, k1, k⟩ := h
    refine ⟨_, (pss_cons (ps_expr (pe_call (G_in_range T) (hr.mono (by decide)) rfl T.g_in_range T.F_in_range.kp T.b_in_range .nil (passes_call (takes_of rfl rfl rfl rfl) (fun _ _ _ _ h => h)) (pa_cons pe_str (pa_cons (pv 2) (pa_cons pe_int (pa_cons (pe_glob (v := .int (10 ^ 40)) rfl T.g_FAR.choose_spec ⟨_, rfl⟩) pa_nil))))))
      (pss_cons (ps_for (passes_of rfl) rfl (pi_enumT (by rfl) T.n_enumerate (pa_cons (pe_fld (pv 0) rfl) pa_nil)) (pg_tup rfl (pgs_cons (pg_name (i := 3) sc_why_due.nd rfl (Or.inl rfl)) (pgs_cons (pg_name (i := 4) sc_why_due.nd rfl (Or.inl rfl)) pgs_nil))) (pss_one (ps_if (pt_val (pe_meth (pv 4) T.cl_Rule T.m_Rule_holds (G_Rule_holds T) (hr.mono (by decide)) T.b_Rule_holds .nil (passes_call (takes_of rfl rfl rfl rfl) (fun _ _ _ _ h => h)) (pa_cons (pv 1) (pa_cons (pv 2) pa_nil)))) (pss_one (ps_ret (pv 3))) pss_nil)))
      (pss_one (ps_ret pe_non)))), ?_⟩
    refine st_do ⟨_, rfl, "minute", n, 0, 10 ^ 40, rfl, fun z => ?_, fun z => k1 z⟩
    replace k := k z
    have hl := h4.1
    refine st_seq (st_forET (a := rt) (xs := as) (fun R q => ⟨_, rfl, p, _, dx, _, _, rfl, h1, T.cl_Schedule, T.no_Schedule_rules, (by kernel_rfl : List.lookup _ _ = some (V.ref rt)), q⟩) h3 (fun i σ' H' => ∃ v5 v6, σ' = [some (.ref p), some (.ref q), some (.int n), v5, v6] ∧ Same H H' ∧ ∀ j r, j < i → rs[j]? = some r → rlOn c n r = false) ⟨none, none, rfl, Same.refl _, fun j cd z => absurd z (Nat.not_lt_zero _)⟩ (fun i σ' H' ⟨_, _, _, s, _⟩ => s) ?_ ?_)
    · rintro i x U σ' H2 hx ⟨v5, v6, rfl, s2, no⟩ hU
      obtain ⟨r, p', hr', rfl, hrp⟩ := (h4.same s2).at hx
      have s3 := Same.new (o := .tup [.int (i : Nat), .ref p']) hU
      have s4 := s2.trans s3
      have hrp3 := hrp.same s3
      obtain ⟨dx', ch, ct, x, as', w1, _⟩ := id hrp3
      refine ⟨U, _, rfl, SqT.of upd_same, rfl, _, _, rfl, _, _, rfl, rfl, ?_⟩
      dsimp only
      refine ⟨_, rfl, p', dx', _, rfl, w1, by kernel_rfl, _, rfl, _, rfl, p', q, r, c, n, rfl, hrp3, hc.same s4, ok, fun z' => (z' z).elim, fun _ H4 s5 => ⟨_, rfl, ?_⟩⟩
      cases e2 : rlOn c n r with
      | true =>
        refine iteT ?_
        have e : rs.findIdx? (rlOn c n) = some i := by
          obtain ⟨hi, ei⟩ := List.getElem?_eq_some_iff.mp hr'
          refine List.findIdx?_eq_some_iff_getElem.mpr ⟨hi, by rw [ei, e2], fun j hj => ?_⟩
          rw [no j _ hj (List.getElem?_eq_getElem (by omega))]
          exact Bool.false_ne_true
        rw [e] at k
        exact ⟨_, rfl, k H4 (s4.trans s5)⟩
      | false =>
        refine iteF ?_
        refine ⟨_, _, rfl, s4.trans s5, fun j r' hj e => ?_⟩
        rcases Nat.lt_or_eq_of_le (Nat.le_of_lt_succ hj) with h | rfl
        · exact no j r' h e
        · rw [hr'] at e
          cases e
          exact e2
    · rintro σ' H2 ⟨v5, v6, rfl, s2, no⟩
      have e : rs.findIdx? (rlOn c n) = none := by
        rw [List.findIdx?_eq_none_iff]
        intro r hr'
        obtain ⟨j, hj, ej⟩ := List.mem_iff_getElem.mp hr'
        exact no j r (by omega) (by rw [List.getElem?_eq_getElem hj, ej])
      rw [e] at k
      exact k H2 s2
theorem G_why_not (T : Tx K mg a) : FnOk P w K mg base (L2.CX P w) 8 a.f_why_not a.d_why_not ["schedule", "calendar", "minute"] (spNot a K) := by
  refine T.F_why_not.okX sc_why_not (fun vs H Q E h => ?_) (fun cdv A outer s H vs Q E hr h => ?_)
  · obtain ⟨p, q, r, c, n, rfl, _⟩ := h
    rfl
  · obtain ⟨p, q, rs, c, n, rfl, hs, hc, ok, k1, k2, k3⟩ := h
    refine ⟨_, (pss_cons (ps_expr (pe_call (G_in_range T) (hr.mono (by decide)) rfl T.g_in_range T.F_in_range.kp T.b_in_range .nil (passes_call (takes_of rfl rfl rfl rfl) (fun _ _ _ _ h => h)) (pa_cons pe_str (pa_cons (pv 2) (pa_cons pe_int (pa_cons (pe_glob (v := .int (10 ^ 40)) rfl T.g_FAR.choose_spec ⟨_, rfl⟩) pa_nil))))))
      (pss_cons (ps_if (pt_val (pe_meth (pv 0) T.cl_Schedule T.m_Schedule_holds (G_Schedule_holds T) (hr.mono (by decide)) T.b_Schedule_holds .nil (passes_call (takes_of rfl rfl rfl rfl) (fun _ _ _ _ h => h)) (pa_cons (pv 1) (pa_cons (pv 2) pa_nil)))) (pss_one (ps_ret pe_non)) pss_nil)
      (pss_one (ps_ret (pe_callTy call_tuple_of (by rfl) T.n_tuple (by decide +kernel) (pa_cons (pe_lc (own := [("rule", 3)]) (g := gName 3) (tt := tYes) rfl sc_why_not.nd (pi_tup (pe_fld (pv 0) rfl)) (blkOk_by (own := [("rule", 3)]) (N := ["schedule", "calendar", "minute", "rule"]) (sc := defScope s_why_not) (by decide +kernel)) (fun _ _ _ _ _ => (pg_name (i := 3) sc_why_not.nd rfl (Or.inl rfl))) (fun _ _ _ _ _ => pts_nil) (fun _ _ _ _ _ => (pe_call (G_first_bar T) (hr.mono (by decide)) rfl T.g_first_bar T.F_first_bar.kp T.b_first_bar .nil passL (pa_cons (pv 3) (pa_cons (pv 1) (pa_cons (pv 2) pa_nil)))))) pa_nil)))))), ?_⟩
    obtain ⟨dx, rt, x, as, h1, h3, h4, h5, h6⟩ := id hs
    refine st_do ⟨_, rfl, "minute", n, 0, 10 ^ 40, rfl, fun z => ?_, fun z => k1 z⟩
    replace k2 := k2 z
    replace k3 := k3 z
    refine st_guardX ?_
    refine ⟨_, rfl, p, dx, _, rfl, h1, by kernel_rfl, _, rfl, _, rfl, p, q, rs, c, n, rfl, hs, hc, ok, fun z' => (z' z).elim, fun _ H1 s1 => ⟨_, rfl, ?_⟩⟩
    cases e : rs.any (rlOn c n) with
    | true => exact iteT (k2 e H1 s1)
    | false =>
      refine iteF ?_
      refine st_ret1 ?_
      have h41 := h4.same s1
      refine comp_ix (a := rt) (xs := as) (rs.map fun r => barV (barOf c n r)) (fun R q => ⟨_, rfl, p, _, dx, _, _, rfl, s1 _ _ h1, T.cl_Schedule, T.no_Schedule_rules, (by kernel_rfl : List.lookup _ _ = some (V.ref rt)), q⟩) (s1.sqT h3) (by rw [List.length_map, h4.1]) (by rw [h4.1]; omega) (fun x => rfl) (fun i x y H' Q' hx hy s h => ?_) fun D H' hD e' s => ?_
      · obtain ⟨r, p', hr', rfl, hrp⟩ := (h41.same s).at hx
        rw [List.getElem?_map, hr'] at hy
        cases hy
        exact ⟨_, rfl, _, rfl, _, rfl, p', q, r, c, n, rfl, hrp, (hc.same s1).same s, ok, z, fun H2 s2 => h H2 s2⟩
      · exact ⟨D, _, rfl, Or.inl ⟨SqL.of e', fun t ht => k3 e t _ upd_same (s1.trans (s.trans (Same.new ht)))⟩⟩
end
end My

namespace My
open PySem L2
/-! ### 8. the pool of draws: any whole numbers; what is drawn lies in its bounds -/
/-- the pool at l, its cells at cl, at most n draws behind it -/
def PoolAt (H : Hp) (l cl : Addr) (n : Nat) : Prop := ∃ (x b : Int) (ns : List Int), H l = some (.lst [.int x, .int b, .ref cl]) ∧ H cl = some (.lst (ns.map V.int)) ∧ 0 ≤ b ∧ b ≤ n
/-- only the pool may have changed -/
def Fr (l cl : Addr) (H H' : Hp) : Prop := ∀ b o, H b = some o → b ≠ l → b ≠ cl → H' b = some o
theorem Fr.refl (l cl : Addr) (H : Hp) : Fr l cl H H := fun _ _ h _ _ => h
theorem Fr.trans {l cl : Addr} {H H1 H2 : Hp} (a : Fr l cl H H1) (b : Fr l cl H1 H2) : Fr l cl H H2 := fun c o h n m => b c o (a c o h n m) n m
theorem Fr.of {l cl : Addr} {H H' : Hp} (s : Same H H') : Fr l cl H H' := fun c o h _ _ => s c o h
theorem PoolAt.ne {H : Hp} {l cl : Addr} {n : Nat} (h : PoolAt H l cl n) : l ≠ cl := by
  obtain ⟨x, b, ns, h1, h2, _⟩ := h
  intro z
  rw [z, h2] at h1
  injection h1 with h1
  injection h1 with h1
  rcases ns with _ | ⟨x1, _ | ⟨x2, _ | ⟨x3, ns⟩⟩⟩
  · cases h1
  · cases h1
  · cases h1
  · injection h1 with _ h1
    injection h1 with _ h1
    injection h1 with h1 _
    cases h1
theorem PoolAt.same {H H' : Hp} {l cl : Addr} {n : Nat} (h : PoolAt H l cl n) (s : Same H H') : PoolAt H' l cl n := by
  obtain ⟨x, b, ns, h1, h2, h3⟩ := h
  exact ⟨x, b, ns, s _ _ h1, s _ _ h2, h3⟩
theorem PoolAt.mono {H : Hp} {l cl : Addr} {n m : Nat} (h : PoolAt H l cl n) (e : n ≤ m) : PoolAt H l cl m := by
  obtain ⟨x, b, ns, h1, h2, h3, h4⟩ := h
  exact ⟨x, b, ns, h1, h2, h3, by omega⟩
/-- what is no list stays -/
theorem Fr.keep {H H' : Hp} {l cl b : Addr} {n : Nat} {o : HO} (f : Fr l cl H H') (h : PoolAt H l cl n) (hb : H b = some o) (ho : ∀ xs, o ≠ .lst xs) : H' b = some o := by
  obtain ⟨x, y, ns, h1, h2, _⟩ := h
  refine f b o hb (fun z => ?_) fun z => ?_
  · rw [z, h1] at hb
    cases hb
    exact ho _ rfl
  · rw [z, h2] at hb
    cases hb
    exact ho _ rfl
theorem Fr.tup {H H' : Hp} {l cl t : Addr} {n : Nat} {xs : List V} (f : Fr l cl H H') (h : PoolAt H l cl n) (ht : H t = some (.tup xs)) : H' t = some (.tup xs) := f.keep h ht fun _ z => by cases z
theorem Fr.sqT {K : PySem.W.Frag} {H H' : Hp} {l cl t : Addr} {n : Nat} {xs : List V} (f : Fr l cl H H') (h : PoolAt H l cl n) (ht : SqT K H t xs) : SqT K H' t xs := by
  rcases ht with (z | ⟨o, z⟩) | z
  · exact Or.inl (Or.inl (f.keep h z fun _ y => by cases y))
  · exact Or.inl (Or.inr ⟨o, f.keep h z fun _ y => by cases y⟩)
  · exact Or.inr z
theorem CalAt.fr {C : Addr} {K : PySem.W.Frag} {H H' : Hp} {p l cl : Addr} {n : Nat} {c : Cal} (h : CalAt C K H p c) (f : Fr l cl H H') (hp : PoolAt H l cl n) : CalAt C K H' p c := by
  obtain ⟨dx, mt, lt, h1, h2, h3⟩ := h
  exact ⟨dx, mt, lt, f.keep hp h1 fun _ z => (by cases z), f.sqT hp h2, f.sqT hp h3⟩
def spDraw : Sp := fun vs H Q _ => ∃ (l cl : Addr) (m : Int) (n : Nat), vs = [.ref l, .int m] ∧ PoolAt H l cl n ∧ n < 2 ^ 40 ∧ 0 < m ∧ m < 2 ^ 200 ∧ ∀ (d : Int) H', 0 ≤ d → d < m → PoolAt H' l cl (n + 1) → Fr l cl H H' → Q (.int d) H'
theorem cut_ints (ns : List Int) (lo hi : Option Int) : ∃ ms : List Int, cutV (ns.map V.int) lo hi = ms.map V.int ∧ ms.length ≤ ns.length := by
  refine ⟨((ns.drop (HT.sIx ns.length 0 lo)).take (HT.sIx ns.length ns.length hi - HT.sIx ns.length 0 lo)), ?_, ?_⟩
  · unfold cutV
    simp only [List.length_map, List.map_take, List.map_drop]
  · simp only [List.length_take, List.length_drop]
    omega
section
variable {P : Program} {w : World} {K : PySem.W.Frag} {mg : Str → Option Value} {base : Heap} {a : Ad}
theorem G__law_draw (T : Tx K mg a) : FnOk P w K mg base CX0 1 a.f__law_draw a.d__law_draw ["pool", "many"] spDraw := by
  refine T.F__law_draw.ok sc__law_draw (fun vs H Q E h => ?_) (fun cdv A outer s H vs Q E hr h => ?_)
  · obtain ⟨l, cl, m, n, rfl, _⟩ := h
    rfl
  · obtain ⟨l, cl, m, n, rfl, hp, hn, m0, m1, k⟩ := h
    refine ⟨_, (pss_cons (ps_if (PW.pt (pw_and (pt_cmpR op_eq (pe_ix ix_list (pv 0) pe_int (fun _ _ => rfl)) pe_int (nomark _)) (pw_and1 (pt_cmpR op_gt (pe_callB call_len_seq (by rfl) T.n_len (by decide +kernel) (pa_cons (pe_ix ix_list (pv 0) pe_int (fun _ _ => rfl)) pa_nil)) pe_int (nomark _))))) (pss_one (ps_asg (pe_bm0 PySem.F.plainAttrs_list PySem.F.slot_list_pop PySem.F.type_list_pop mt_pop (pe_ix ix_list (pv 0) pe_int (fun _ _ => rfl))) (pg_sub (pv 0) pe_int set_list))) pss_nil)
      (pss_cons (ps_if (pt_cmpR op_eq (pe_ix ix_list (pv 0) pe_int (fun _ _ => rfl)) pe_int (nomark _)) (pss_cons (ps_asg (pe_op op_add (pe_ix ix_list (pv 0) pe_int (fun _ _ => rfl)) pe_int) (pg_sub (pv 0) pe_int set_list))
      (pss_one (ps_ret (pe_op op_mod (pe_callTy call_int1 (by rfl) T.n_int (by decide +kernel) (pa_cons (pe_op op_fdivW (pe_op op_mul (pe_ix ix_list (pv 0) pe_int (fun _ _ => rfl)) (pe_op op_add (pe_ix ix_list (pv 0) pe_int (fun _ _ => rfl)) pe_int)) pe_int) pa_nil)) (pv 1))))) pss_nil)
      (pss_cons (ps_set (i := 2) sc__law_draw.nd rfl (Or.inl rfl) (pe_op op_mod (pe_callTy call_int1 (by rfl) T.n_int (by decide +kernel) (pa_cons (pe_ix ix_list (pv 0) pe_int (fun _ _ => rfl)) pa_nil)) (pv 1)))
      (pss_cons (ps_asg (pe_op op_fdivW (pe_callTy call_int1 (by rfl) T.n_int (by decide +kernel) (pa_cons (pe_ix ix_list (pv 0) pe_int (fun _ _ => rfl)) pa_nil)) (pv 1)) (pg_sub (pv 0) pe_int set_list))
      (pss_one (ps_ret (pv 2))))))), ?_⟩
    have ne := hp.ne
    obtain ⟨x, b, ns, h1, h2, b0, bn⟩ := hp
    have i0 : ∀ {H : Hp} {σ : St} {x b : Int}, H l = some (.lst [.int x, .int b, .ref cl]) → σ[0]? = some (some (.ref l)) → Val (tOp (rIxL K) (tVar 0) (tC (.int 0))) σ H (.int x) := fun h e => v_ixL (val_var e) val_c (SqL.of h) rfl
    have i1 : ∀ {H : Hp} {σ : St} {x b : Int}, H l = some (.lst [.int x, .int b, .ref cl]) → σ[0]? = some (some (.ref l)) → Val (tOp (rIxL K) (tVar 0) (tC (.int 1))) σ H (.int b) := fun h e => v_ixL (val_var e) val_c (SqL.of h) rfl
    have i2 : ∀ {H : Hp} {σ : St} {x b : Int}, H l = some (.lst [.int x, .int b, .ref cl]) → σ[0]? = some (some (.ref l)) → Val (tOp (rIxL K) (tVar 0) (tC (.int 2))) σ H (.ref cl) := fun h e => v_ixL (val_var e) val_c (SqL.of h) rfl
    refine st_shareH (fun H' => ∃ (x : Int) (ns : List Int), H' l = some (.lst [.int x, .int b, .ref cl]) ∧ H' cl = some (.lst (ns.map V.int)) ∧ Fr l cl H H') ?_ fun N hN => ?_
    · rintro H' ⟨x, ns, h1, h2, f⟩
      refine st_guard (q := x = 0) (a_eq (i0 h1 rfl) val_c) (by simp) (fun z => ?_) fun z => ?_
      · refine st_puts (v := .int (b + 1)) (v_rI0 (g := fun i j => .int (i + j)) (i1 h1 rfl) val_c) (val_var (i := 0) rfl) val_c h1 (by rfl) ?_
        have u1 : upd H' l (.lst [.int x, .int (b + 1), .ref cl]) l = some (.lst [.int x, .int (b + 1), .ref cl]) := upd_same
        have u2 : upd H' l (.lst [.int x, .int (b + 1), .ref cl]) cl = some (.lst (ns.map V.int)) := (upd_ne ne.symm).trans h2
        have u3 : Fr l cl H (upd H' l (.lst [.int x, .int (b + 1), .ref cl])) := f.trans fun c o h n1 n2 => by rw [upd_ne n1]; exact h
        refine st_ret (v_rI (g := fun i j => .int (i % j)) (v_cb (v_rI (g := fun i j => .int (i / j)) (v_rI (g := fun i j => .int (i * j)) (i1 u1 rfl) (v_rI0 (g := fun i j => .int (i + j)) (i1 u1 rfl) val_c) (Or.inl (by omega))) val_c (divW (by decide) (by decide))) fun Q q => Or.inl ⟨_, rfl, q⟩) (val_var (i := 1) rfl) m0) ?_
        exact k _ _ (Int.emod_nonneg _ (by omega)) (Int.emod_lt_of_pos _ m0) ⟨x, b + 1, ns, u1, u2, by omega, by omega⟩ u3
      · refine st_let (v := .int (x % m)) (v_rI (g := fun i j => .int (i % j)) (v_cb (i0 h1 rfl) fun Q q => Or.inl ⟨_, rfl, q⟩) (val_var (i := 1) rfl) m0) ?_
        refine st_puts (v := .int (x / m)) (v_rI (g := fun i j => .int (i / j)) (v_cb (i0 h1 rfl) fun Q q => Or.inl ⟨_, rfl, q⟩) (val_var (i := 1) rfl) (wide_div (b := 200) m0 (by omega) (by decide) (by decide))) (val_var (i := 0) rfl) val_c h1 (by rfl) ?_
        refine st_ret (val_var (i := 2) rfl) ?_
        exact k _ _ (Int.emod_nonneg _ (by omega)) (Int.emod_lt_of_pos _ m0) ⟨x / m, b, ns, upd_same, (upd_ne ne.symm).trans h2, b0, by omega⟩ (f.trans fun c o h n1 n2 => by rw [upd_ne n1]; exact h)
    · refine st_ifp (q := x = 0 ∧ 0 < ns.length) (a_and (a_eq (i0 h1 rfl) val_c) fun _ => a_cmp (f := fun i j => decide (j < i)) (v_cb (i2 h1 rfl) fun Q q => ⟨cl, _, rfl, Or.inl (SqL.of h2), q⟩) val_c) (by simp) (fun z => ?_) fun z => hN H ⟨x, ns, h1, h2, Fr.refl _ _ _⟩
      have hl : ns.length - 1 < ns.length := by omega
      have e1 : (ns.map V.int)[(ns.map V.int).length - 1]? = some (.int ns[ns.length - 1]) := by
        rw [List.length_map]
        exact ints_at (List.getElem?_eq_getElem hl)
      refine i2 h1 rfl _ ⟨tyL h2, cl, _, _, rfl, rfl, h2, e1, ?_⟩
      refine ⟨_, rfl, l, _, _, 0, rfl, rfl, (upd_ne ne).trans h1, by rfl, ?_⟩
      refine hN _ ⟨ns[ns.length - 1], ns.dropLast, upd_same, ?_, fun c o h n1 n2 => by rw [upd_ne n1, upd_ne n2]; exact h⟩
      rw [upd_ne ne.symm, upd_same, List.map_dropLast]
end
end My

namespace My
open PySem L2
def spStart (K : PySem.W.Frag) : Sp := fun vs H Q _ => ∃ (s : Addr) (ns : List Int), vs = [.ref s] ∧ SqL K H s (ns.map V.int) ∧ ns.length ≤ 63 ∧ ∀ (l cl : Addr) H', PoolAt H' l cl 0 → H l = none → H cl = none → Same H H' → Q (.ref l) H'
def spFar : Sp := fun vs H Q _ => ∃ (l cl : Addr) (n : Nat), vs = [.ref l] ∧ PoolAt H l cl n ∧ n < 2 ^ 39 ∧ ∀ (d : Int) H', okF d → PoolAt H' l cl (n + 3) → Fr l cl H H' → Q (.int d) H'
section
variable {P : Program} {w : World} {K : PySem.W.Frag} {mg : Str → Option Value} {base : Heap} {a : Ad}
theorem G__law_start (T : Tx K mg a) : FnOk P w K mg base CX0 1 a.f__law_start a.d__law_start ["script"] (spStart K) := by
  refine T.F__law_start.ok sc__law_start (fun vs H Q E h => ?_) (fun cdv A outer s H vs Q E hr h => ?_)
  · obtain ⟨l, m, rfl, _⟩ := h
    rfl
  · obtain ⟨sc, ns, rfl, hS, hn, k⟩ := h
    refine ⟨_, (pss_cons (ps_set (i := 1) sc__law_start.nd rfl (Or.inl rfl) (pe_lst pa_nil))
      (pss_cons (ps_for PassesOwn.never rfl (pi_enum (by rfl) T.n_enumerate (pa_cons (pe_slice sl_list (pv 0) po_none (po_some pe_int)) pa_nil)) (pg_tup rfl (pgs_cons (pg_name (i := 2) sc__law_start.nd rfl (Or.inl rfl)) (pgs_cons (pg_name (i := 3) sc__law_start.nd rfl (Or.inl rfl)) pgs_nil))) (pss_cons (ps_if (pt_cmpR op_lt (pv 3) (pe_op op_pow pe_int pe_int) (nomark _)) (pss_cons (ps_set (i := 4) sc__law_start.nd rfl (Or.inl rfl) (pe_op op_mod (pe_callTy call_int1 (by rfl) T.n_int (by decide +kernel) (pa_cons (pe_op op_add (pe_op op_mul (pv 3) pe_int) (pe_op op_mul (pe_op op_add (pv 2) pe_int) pe_int)) pa_nil)) pe_int))
      (pss_cons (ps_set (i := 5) sc__law_start.nd rfl (Or.inl rfl) (pe_op op_mod (pe_callTy call_int1 (by rfl) T.n_int (by decide +kernel) (pa_cons (pe_op op_add (pe_op op_add (pe_op op_mul (pv 4) (pv 4)) (pe_op op_mul pe_int (pv 4))) pe_int) pa_nil)) pe_int))
      (pss_cons (ps_set (i := 6) sc__law_start.nd rfl (Or.inl rfl) (pe_op op_mod (pe_callTy call_int1 (by rfl) T.n_int (by decide +kernel) (pa_cons (pe_op op_add (pe_op op_add (pe_op op_mul (pv 5) (pv 5)) (pe_op op_mul pe_int (pv 5))) (pv 4)) pa_nil)) pe_int))
      (pss_one (ps_set (i := 3) sc__law_start.nd rfl (Or.inl rfl) (pe_op op_add (pe_op op_mul (pe_op op_add (pe_op op_mul (pv 4) (pe_op op_pow pe_int pe_int)) (pv 5)) (pe_op op_pow pe_int pe_int)) (pv 6))))))) pss_nil)
      (pss_one (ps_expr (pe_bm PySem.F.plainAttrs_list PySem.F.slot_list_append PySem.F.type_list_append mt_append (pv 1) (pa_cons (pe_op op_mod (pe_callTy call_int1 (by rfl) T.n_int (by decide +kernel) (pa_cons (pv 3) pa_nil)) (pe_op op_powW (pe_op op_pow pe_int pe_int) pe_int)) pa_nil))))))
      (pss_one (ps_ret (pe_lst (pa_cons pe_int (pa_cons pe_int (pa_cons (pe_revL (pv 1)) pa_nil)))))))), ?_⟩
    refine st_letX ⟨(by show 0 ≤ sizeLine; decide), fun pl hpl => ?_⟩
    have s1 : Same H (upd H pl (.lst [])) := Same.new hpl
    obtain ⟨cs, ecs, hcs⟩ := cut_ints ns none (some 63)
    have npl : ∀ b o, H b = some o → b ≠ pl := fun b o e z => by rw [z, hpl] at e; cases e
    refine st_seq ?_
    refine ⟨_, rfl, _, rfl, sc, _, rfl, s1.seq hS, fun q hq => ?_⟩
    rw [ecs]
    have s2 : Same H (upd (upd H pl (.lst [])) q (.lst (cs.map V.int))) := s1.trans (Same.new hq)
    have nqp : q ≠ pl := (ne_of_none upd_same hq).symm
    have hpl2 : upd (upd H pl (.lst [])) q (.lst (cs.map V.int)) pl = some (.lst []) := (upd_ne nqp.symm).trans upd_same
    have hq2 : upd (upd H pl (.lst [])) q (.lst (cs.map V.int)) q = some (.lst (cs.map V.int)) := upd_same
    generalize upd (upd H pl (.lst [])) q (.lst (cs.map V.int)) = H2 at s2 hpl2 hq2
    refine ⟨q, cs.map V.int, rfl, SqL.of hq2, ?_⟩
    refine st_forE (xs := cs.map V.int) (fun i σ H' => ∃ (acc : List Int) (v2 v3 v4 v5 v6 : Option V), σ = [some (.ref sc), some (.ref pl), v2, v3, v4, v5, v6] ∧ H' pl = some (.lst (acc.map V.int)) ∧ acc.length = i ∧ But pl H2 H')
      ⟨[], none, none, none, none, none, rfl, hpl2, rfl, But.refl _ _⟩ (fun i σ H' _ ⟨_, _, _, _, _, _, _, _, _, b⟩ => SqL.of (b _ _ hq2 nqp)) ?_ ?_
    · rintro i x t σ H' hx ⟨acc, v2, v3, v4, v5, v6, rfl, h1, h2, bt⟩ ht
      obtain ⟨z, hz, rfl⟩ := ints_get hx
      have hi : i < cs.length := (List.getElem?_eq_some_iff.mp hz).1
      have ntp : t ≠ pl := (ne_of_none h1 ht).symm
      have h1' : upd H' t (.tup [.int (i : Nat), .int z]) pl = some (.lst (acc.map V.int)) := (upd_ne ntp.symm).trans h1
      have bt' : But pl H2 (upd H' t (.tup [.int (i : Nat), .int z])) := bt.thenS (Same.new ht)
      refine ⟨t, _, rfl, SqT.of upd_same, rfl, _, _, rfl, _, _, rfl, rfl, ?_⟩
      generalize upd H' t (.tup [.int (i : Nat), .int z]) = H3 at h1' bt'
      refine st_shareS (fun σ' H' => ∃ (c : Int) (v2 v4 v5 v6 : Option V), σ' = [some (.ref sc), some (.ref pl), v2, some (.int c), v4, v5, v6] ∧ H' = H3) ?_ fun N hN => ?_
      · rintro σ' H4 ⟨c, v2, v4, v5, v6, rfl, rfl⟩
        refine ⟨_, rfl, tyL h1', ?_⟩
        refine (v_rI (σ := [some (.ref sc), some (.ref pl), v2, some (.int c), v4, v5, v6]) (g := fun i j => .int (i % j)) (v_cb (val_var (i := 3) rfl) fun Q q => Or.inl ⟨_, rfl, q⟩) (v_rI (g := fun i j => .int (i ^ j.toNat)) (v_rI (g := fun i j => .int (i ^ j.toNat)) val_c val_c ⟨by decide, by decide, by decide⟩) val_c ⟨by decide, by decide +kernel⟩) (by decide +kernel)) _ ?_
        refine ⟨pl, _, _, rfl, rfl, h1', ?_, acc ++ [c % (10 ^ Int.toNat 64) ^ Int.toNat 6], v2, some (.int c), v4, v5, v6, rfl, ?_, ?_, But.upd bt'⟩
        · rw [List.length_map]
          exact small1000 (by omega)
        · rw [upd_same, List.map_append]
          rfl
        · simp [h2]
      · refine st_ifb (a_cmp (f := fun i j => decide (i < j)) (val_var (i := 3) (v := .int z) rfl) (v_rI (g := fun i j => .int (i ^ j.toNat)) val_c val_c ⟨by decide, by decide, by decide⟩)) (fun _ => ?_) fun _ => hN _ _ ⟨z, _, _, _, _, rfl, rfl⟩
        refine st_letP (fun z => 0 ≤ z ∧ z < 10 ^ 12) (v_rI (g := fun i j => .int (i % j)) (v_cb (v_rI0 (g := fun i j => .int (i + j)) (v_rI (g := fun i j => .int (i * j)) (val_var (i := 3) (v := .int z) rfl) val_c (Or.inr ⟨by decide, by decide⟩)) (v_rI (g := fun i j => .int (i * j)) (v_rI0 (g := fun i j => .int (i + j)) (val_var (i := 2) rfl) val_c) val_c (Or.inr ⟨by decide, by decide⟩))) fun Q q => Or.inl ⟨_, rfl, q⟩) val_c (by decide)) ⟨Int.emod_nonneg _ (by decide), Int.lt_trans (Int.emod_lt_of_pos _ (by decide)) (by decide)⟩ fun one b1 => ?_
        refine st_letP (fun z => 0 ≤ z ∧ z < 10 ^ 12) (v_rI (g := fun i j => .int (i % j)) (v_cb (v_rI0 (g := fun i j => .int (i + j)) (v_rI0 (g := fun i j => .int (i + j)) (v_rI (g := fun i j => .int (i * j)) (val_var (i := 4) rfl) (val_var (i := 4) rfl) (Or.inl ⟨by omega, by omega⟩)) (v_rI (g := fun i j => .int (i * j)) val_c (val_var (i := 4) rfl) (Or.inl ⟨by decide, by decide⟩))) val_c) fun Q q => Or.inl ⟨_, rfl, q⟩) val_c (by decide)) ⟨Int.emod_nonneg _ (by decide), Int.lt_trans (Int.emod_lt_of_pos _ (by decide)) (by decide)⟩ fun two b2 => ?_
        refine st_letP (fun z => 0 ≤ z ∧ z < 10 ^ 12) (v_rI (g := fun i j => .int (i % j)) (v_cb (v_rI0 (g := fun i j => .int (i + j)) (v_rI0 (g := fun i j => .int (i + j)) (v_rI (g := fun i j => .int (i * j)) (val_var (i := 5) rfl) (val_var (i := 5) rfl) (Or.inl ⟨by omega, by omega⟩)) (v_rI (g := fun i j => .int (i * j)) val_c (val_var (i := 5) rfl) (Or.inl ⟨by decide, by decide⟩))) (val_var (i := 4) rfl)) fun Q q => Or.inl ⟨_, rfl, q⟩) val_c (by decide)) ⟨Int.emod_nonneg _ (by decide), Int.lt_trans (Int.emod_lt_of_pos _ (by decide)) (by decide)⟩ fun three b3 => ?_
        exact st_set (v_rI0 (g := fun i j => .int (i + j)) (v_rI (g := fun i j => .int (i * j)) (v_rI0 (g := fun i j => .int (i + j)) (v_rI (g := fun i j => .int (i * j)) (val_var (i := 4) rfl) (v_rI (g := fun i j => .int (i ^ j.toNat)) val_c val_c ⟨by decide, by decide, by decide⟩) (Or.inr ⟨by decide, by decide⟩)) (val_var (i := 5) rfl)) (v_rI (g := fun i j => .int (i ^ j.toNat)) val_c val_c ⟨by decide, by decide, by decide⟩) (Or.inr ⟨by decide, by decide⟩)) (val_var (i := 6) rfl)) (hN _ _ ⟨_, _, _, _, _, rfl, rfl⟩)
    · rintro σ H' ⟨acc, v2, v3, v4, v5, v6, rfl, h1, h2, bt⟩
      have s4 : Same H H' := fun b o e => bt b o (s2 b o e) (npl b o e)
      refine ⟨_, rfl, pl, acc.map V.int, rfl, SqL.of h1, fun cl hcl => ?_⟩
      refine ⟨by show 3 ≤ sizeLine; decide, fun l hl => ?_⟩
      have s5 : Same H' (upd H' cl (.lst (acc.map V.int).reverse)) := Same.new hcl
      have ncl : cl ≠ l := ne_of_none upd_same hl
      refine k l cl _ ⟨0, 0, acc.reverse, upd_same, ?_, by omega, by omega⟩ ((s4.trans s5).free hl) (s4.free hcl) (s4.trans (s5.trans (Same.new hl)))
      rw [upd_ne ncl, upd_same, List.map_reverse]
theorem G__law_far (T : Tx K mg a) : FnOk P w K mg base CX0 2 a.f__law_far a.d__law_far ["pool"] spFar := by
  refine T.F__law_far.ok sc__law_far (fun vs H Q E h => ?_) (fun cdv A outer s H vs Q E hr h => ?_)
  · obtain ⟨l, cl, n, rfl, _⟩ := h
    rfl
  · obtain ⟨l, cl, n, rfl, hp, hn, k⟩ := h
    refine ⟨_, (pss_cons (ps_if (pt_cmpR op_eq (pe_call (G__law_draw T) (hr.mono (by decide)) rfl T.g__law_draw T.F__law_draw.kp T.b__law_draw .nil pass0 (pa_cons (pv 0) (pa_cons pe_int pa_nil))) pe_int (nomark _)) (pss_one (ps_ret (pe_op op_sub (pe_op op_pow pe_int pe_int) (pe_call (G__law_draw T) (hr.mono (by decide)) rfl T.g__law_draw T.F__law_draw.kp T.b__law_draw .nil pass0 (pa_cons (pv 0) (pa_cons pe_int pa_nil)))))) pss_nil)
      (pss_one (ps_ret (pe_call (G__law_draw T) (hr.mono (by decide)) rfl T.g__law_draw T.F__law_draw.kp T.b__law_draw .nil pass0 (pa_cons (pv 0) (pa_cons (pe_op op_add (pe_op op_pow pe_int pe_int) pe_int) pa_nil)))))), ?_⟩
    refine st_guardX ?_
    refine ⟨_, rfl, l, cl, 2, n, rfl, hp, by omega, by decide, by decide, fun sh H1 a0 a1 p1 f1 => ⟨rfl, _, rfl, ?_⟩⟩
    rw [dec_int, Bool.beq_eq_decide_eq]
    by_cases z : sh = 1
    · rw [decide_eq_true z]
      refine iteT ?_
      refine ⟨_, _, rfl, rfl, ⟨by decide, by decide, by decide⟩, ?_⟩
      exact ⟨_, rfl, l, cl, 1000, _, rfl, p1, by omega, by decide, by decide, fun d H2 d0 d1 p2 f2 => ⟨_, _, rfl, rfl, k _ H2 ⟨by show 0 ≤ (10 : Int) ^ 40 - d; omega, by show (10 : Int) ^ 40 - d ≤ 10 ^ 40; omega⟩ (p2.mono (by omega)) (f1.trans f2)⟩⟩
    · rw [decide_eq_false z]
      refine iteF ?_
      refine ⟨_, rfl, _, _, rfl, rfl, ⟨by decide, by decide, by decide⟩, _, _, rfl, rfl, ?_⟩
      exact ⟨l, cl, 10 ^ 40 + 1, _, rfl, p1, by omega, by decide, by decide, fun d H2 d0 d1 p2 f2 => k d H2 ⟨d0, by omega⟩ (p2.mono (by omega)) (f1.trans f2)⟩
end
end My

namespace My
open PySem L2
/-! ### 14. the law's own days -/
def LL (H : Hp) (l cl p : Addr) (xs : List V) : Prop := H p = some (.lst xs) ∧ p ≠ l ∧ p ≠ cl
theorem LL.fr {H H' : Hp} {l cl p : Addr} {xs : List V} (h : LL H l cl p xs) (f : Fr l cl H H') : LL H' l cl p xs := ⟨f _ _ h.1 h.2.1 h.2.2, h.2⟩
theorem LL.same {H H' : Hp} {l cl p : Addr} {xs : List V} (h : LL H l cl p xs) (s : Same H H') : LL H' l cl p xs := ⟨s _ _ h.1, h.2⟩
/-- the days of a calendar below k, one row each -/
def Rows (H : Hp) (c : Cal) (as : List V) (k : Int) : Prop := (as.length : Int) = k ∧ ∀ (n : Nat) y m d j, (n : Int) < k → IsDate c n y m d j → ∃ u : Addr, as[n]? = some (V.ref u) ∧ H u = some (.tup [.int m, .int d, .int (dim c y j)])
theorem Rows.same {H H' : Hp} {c : Cal} {as : List V} {k : Int} (h : Rows H c as k) (s : Same H H') : Rows H' c as k := ⟨h.1, fun n y m d j z I => let ⟨u, e, g⟩ := h.2 n y m d j z I; ⟨u, e, s _ _ g⟩⟩
theorem Rows.more {H : Hp} {c : Cal} (ok : OkCal c) {as bs : List V} {y : Int} {j : Nat} (y0 : 0 ≤ y) (jl : j < c.months.length) (h : Rows H c as (c.bef y + pre c y j)) (hb : (bs.length : Int) = dim c y j) (hB : ∀ (i : Nat), (i : Int) < dim c y j → ∃ u : Addr, bs[i]? = some (V.ref u) ∧ H u = some (.tup [.int ((j : Int) + 1), .int ((i : Int) + 1), .int (dim c y j)])) : Rows H c (as ++ bs) (c.bef y + pre c y (j + 1)) := by
  have ep : pre c y (j + 1) = pre c y j + dim c y j := rfl
  refine ⟨by rw [List.length_append, ep]; have := h.1; omega, fun n y' m' d' j' hn I => ?_⟩
  by_cases c1 : (n : Int) < c.bef y + pre c y j
  · obtain ⟨u, e, g⟩ := h.2 n y' m' d' j' c1 I
    refine ⟨u, ?_, g⟩
    rw [List.getElem?_append_left (by have := h.1; omega)]
    exact e
  · obtain ⟨i, hi⟩ : ∃ i : Nat, (n : Int) = c.bef y + pre c y j + i := ⟨((n : Int) - (c.bef y + pre c y j)).toNat, by omega⟩
    have il : (i : Int) < dim c y j := by omega
    have pj : 0 ≤ pre c y j := by
      rcases Nat.eq_zero_or_pos j with rfl | z
      · exact Int.le_refl _
      · have := ok.pre_lt y (i := 0) (j := j) z (by omega); rw [pre_zero] at this; omega
    have hs : c.bef (y + 1) = c.bef y + pre c y c.months.length := by rw [ok.bef_succ, ok.pre_all]; omega
    have pe : pre c y (j + 1) ≤ pre c y c.months.length := by
      rcases Nat.lt_or_eq_of_le (Nat.succ_le_of_lt jl) with z | z
      · exact Int.le_of_lt (ok.pre_lt y z (Nat.le_refl _))
      · rw [show j + 1 = c.months.length from z]; exact Int.le_refl _
    have I2 : IsDate c n y ((j : Int) + 1) ((n : Int) - c.bef y - pre c y j + 1) j := IsDate.of_month ok y0 (by omega) (by omega) jl (by omega) (by omega)
    obtain ⟨e1, e2, e3, e4⟩ := I.uniq ok I2
    subst e1 e2 e4
    obtain ⟨u, e, g⟩ := hB i il
    refine ⟨u, ?_, ?_⟩
    · rw [List.getElem?_append_right (by have := h.1; omega)]
      rw [show n - as.length = i from by have := h.1; omega]
      exact e
    · rw [g, e3, show (n : Int) - c.bef y' - pre c y' j' + 1 = (i : Int) + 1 by omega]
theorem elemY {te : TE} {σ : St} {H : Hp} {F : V → Hp → Prop} {N : Hp → Prop} (h : te σ H F) : tYes σ H fun b H3 => if b = true then te σ H3 F else N H3 := h
def kM (y : Int) : V → Bool
  | .int d => decide (y % d = 0)
  | _ => false
theorem kM_cnt (ls : List Int) (y : Int) : (((ls.map V.int).filter (kM y)).map fun v => v).length = cnt ls y := by
  unfold cnt
  rw [List.length_map]
  induction ls with
  | nil => rfl
  | cons d r ih =>
    by_cases h : y % d = 0
    · rw [List.map_cons, List.filter_cons_of_pos (by simpa [kM] using h), List.filter_cons_of_pos (by simpa using h), List.length_cons, List.length_cons, ih]
    · rw [List.map_cons, List.filter_cons_of_neg (by simpa [kM] using h), List.filter_cons_of_neg (by simpa using h), ih]
def spDaysOf : Sp := fun vs H Q _ => ∃ (ml ll : Addr) (c : Cal), vs = [.ref ml, .int c.lm, .ref ll] ∧ H ml = some (.lst (c.months.map V.int)) ∧ H ll = some (.lst (c.leaps.map V.int)) ∧ OkCal c ∧
  ∀ rl as H', H' rl = some (.lst as) → H rl = none → Rows H' c as (c.bef c.round) → Same H H' → Q (.ref rl) H'
section
variable {P : Program} {w : World} {K : PySem.W.Frag} {mg : Str → Option Value} {base : Heap} {a : Ad}
theorem G__law_days_of (T : Tx K mg a) : FnOk P w K mg base CX0 1 a.f__law_days_of a.d__law_days_of ["months", "one", "leaps"] spDaysOf := by
  refine T.F__law_days_of.ok sc__law_days_of (fun vs H Q E h => ?_) (fun cdv A outer s H vs Q E hr h => ?_)
  · obtain ⟨ml, ll, c, rfl, _⟩ := h
    rfl
  · obtain ⟨ml, ll, c, rfl, h1, h2, ok, k⟩ := h
    refine ⟨_, (pss_cons (ps_set (i := 3) sc__law_days_of.nd rfl (Or.inl rfl) (pe_lst pa_nil))
      (pss_cons (ps_for PassesOwn.never rfl (pi_range1 rfl T.n_range (pa_cons (pe_ix ix_list (pe_op op_cat (pe_lst (pa_cons pe_int pa_nil)) (pv 2)) (pe_un un_neg pe_int) (fun _ _ => rfl)) pa_nil)) (pg_name (i := 4) sc__law_days_of.nd rfl (Or.inr rfl)) (pss_cons (ps_set (i := 5) sc__law_days_of.nd rfl (Or.inl rfl) (pe_op op_mod (pe_callB call_len_seq (by rfl) T.n_len (by decide +kernel) (pa_cons (pe_lc (own := [("k", 6)]) (g := gName 6) (tt := _) rfl sc__law_days_of.nd (pi_list (pv 2)) (blkOk_by (own := [("k", 6)]) (N := ["months", "one", "leaps", "rows", "year", "odd", "k", "month", "length", "day"]) (sc := defScope s__law_days_of) (by decide +kernel)) (fun _ _ _ _ _ => (pg_name (i := 6) sc__law_days_of.nd rfl (Or.inl rfl))) (fun _ _ _ _ _ => (pts_one (pt_cmpR op_eq (pe_op op_mod (pe_callTy call_int1 (by rfl) T.n_int (by decide +kernel) (pa_cons (pv 4) pa_nil)) (pv 6)) pe_int (nomark _)))) (fun _ _ _ _ _ => (pv 6))) pa_nil)) pe_int))
      (pss_one (ps_for PassesOwn.never rfl (pi_range2 rfl T.n_range (pa_cons pe_int (pa_cons (pe_op op_add (pe_callB call_len_seq (by rfl) T.n_len (by decide +kernel) (pa_cons (pv 0) pa_nil)) pe_int) pa_nil))) (pg_name (i := 7) sc__law_days_of.nd rfl (Or.inr rfl)) (pss_cons (ps_set (i := 8) sc__law_days_of.nd rfl (Or.inr rfl) (pe_op op_add (pe_ix ix_list (pv 0) (pe_op op_sub (pv 7) pe_int) (fun _ _ => rfl)) (pe_callTy call_int1 (by rfl) T.n_int (by decide +kernel) (pa_cons (pe_and (pe_cmpR op_eq (pv 5) pe_int (nomark _)) (pe_one (pe_cmpR op_eq (pv 7) (pv 1) (nomark _)))) pa_nil))))
      (pss_one (ps_set (i := 3) sc__law_days_of.nd rfl (Or.inl rfl) (pe_op op_cat (pv 3) (pe_lc (own := [("day", 9)]) (g := gName 9) (tt := tYes) rfl sc__law_days_of.nd (pi_range1 rfl T.n_range (pa_cons (pv 8) pa_nil)) (blkOk_by (own := [("day", 9)]) (N := ["months", "one", "leaps", "rows", "year", "odd", "k", "month", "length", "day"]) (sc := defScope s__law_days_of) (by decide +kernel)) (fun _ _ _ _ _ => (pg_name (i := 9) sc__law_days_of.nd rfl (Or.inl rfl))) (fun _ _ _ _ _ => pts_nil) (fun _ _ _ _ _ => (pe_tup (pa_cons (pv 7) (pa_cons (pe_op op_add (pv 9) pe_int) (pa_cons (pv 8) pa_nil))))))))))))))
      (pss_one (ps_ret (pv 3))))), ?_⟩
    have r1 := ok.round1
    have B : ∀ y : Int, 0 ≤ y → y ≤ c.round → c.bef y ≤ 781000 := fun y h0 h1 => by
      have a1 := (ok.bef_ge h0).2.1
      have a2 := ok.sum1
      have a3 : y * (c.months.sum + 1) ≤ 1000 * 781 := Int.le_trans (Int.mul_le_mul_of_nonneg_right (by omega : y ≤ 1000) (by omega)) (Int.mul_le_mul_of_nonneg_left (by omega) (by decide))
      omega
    refine st_letX ⟨by show 0 ≤ sizeLine; decide, fun b0 hb0 => ?_⟩
    have s0 := Same.new (o := .lst []) hb0
    have e0 : upd H b0 (.lst []) b0 = some (.lst []) := upd_same
    generalize upd H b0 (.lst []) = H0 at s0 e0
    refine st_seq ⟨by show 1 ≤ sizeLine; decide, fun b1 hb1 => ?_⟩
    have s1 := s0.trans (Same.new (o := .lst [.int 1]) hb1)
    refine ⟨_, rfl, b1, ll, _, _, rfl, rfl, upd_same, s1 _ _ h2, by rw [List.length_map]; exact Nat.le_trans (show 1 + c.leaps.length ≤ 5 by have := ok.leaps.2; omega) (by decide), fun b2 hb2 => ?_⟩
    have el : [V.int 1] ++ c.leaps.map V.int = (1 :: c.leaps).map V.int := rfl
    refine ⟨_, rfl, b2, _, _, .int c.round, rfl, rfl, SqL.of upd_same, (by rw [el]; exact last_at (by simp)), _, rfl, by omega, by omega, ?_⟩
    have s2 := s1.trans (Same.new (o := .lst ([V.int 1] ++ c.leaps.map V.int)) hb2)
    have e2 : upd (upd H0 b1 (.lst [.int 1])) b2 (.lst ([V.int 1] ++ c.leaps.map V.int)) b0 = some (.lst []) := by
      rw [upd_ne (ne_of_none ((upd_ne (ne_of_none e0 hb1)).trans e0) hb2), upd_ne (ne_of_none e0 hb1), e0]
    generalize upd (upd H0 b1 (.lst [.int 1])) b2 (.lst ([V.int 1] ++ c.leaps.map V.int)) = H1 at s2 e2
    refine for_range (fun y σ' H' => ∃ rl as v4 v5 v6 v7 v8 v9, σ' = [some (.ref ml), some (.int c.lm), some (.ref ll), some (.ref rl), v4, v5, v6, v7, v8, v9] ∧ H' rl = some (.lst as) ∧ H rl = none ∧ Rows H' c as (c.bef (y : Nat)) ∧ Same H H')
      ⟨b0, [], none, none, none, none, none, none, rfl, e2, hb0, ⟨ok.bef_zero.symm, fun n y m d j z I => by rw [show ((0 : Nat) : Int) = 0 from rfl, ok.bef_zero] at z; omega⟩, s2⟩ ?_ ?_
    · rintro y σ' H2 hy ⟨rl, as, v4, v5, v6, v7, v8, v9, rfl, g1, g2, g3, g4⟩
      have yr : (y : Int) ≤ c.round := by omega
      have ey : (0 : Int) + (y : Nat) = (y : Int) := Int.zero_add _
      rw [ey]
      refine st_letX ?_
      refine op_l (v_cb1 ?_)
      refine comp_L (a := ll) (xs := c.leaps.map V.int) (kM y) (fun v => v) (fun R q => ⟨_, rfl, q⟩) (SqL.of (g4 _ _ h2)) (by rw [List.length_map]; have := ok.leaps.2; omega) (fun x => rfl) (fun i x H' hx s => ?_) (fun i x H' hx _ s => val_var (i := 6) rfl) fun D H3 hD e s => ?_
      · obtain ⟨z, hz, rfl⟩ := ints_get hx
        exact a_eq (v_rI (g := fun i j => .int (i % j)) (v_cb (val_var (i := 4) (v := .int (y : Nat)) rfl) fun Q q => Or.inl ⟨_, rfl, q⟩) (val_var (i := 6) (v := .int z) rfl) (ok.posl z (List.mem_of_getElem? hz))) val_c
      refine ⟨D, _, rfl, Or.inl (SqL.of e), ?_⟩
      rw [kM_cnt]
      refine ⟨_, _, rfl, rfl, (show (0 : Int) < 2 by decide), ?_⟩
      have g5 := g4.trans s
      have g6 := s _ _ g1
      have g7 := g3.same s
      clear e hD s g1 g3 g4
      show tFor _ _ _ _ [some (.ref ml), some (.int c.lm), some (.ref ll), some (.ref rl), some (.int (y : Nat)), some (.int ((cnt c.leaps y : Int) % 2)), v6, v7, v8, v9] H3
      refine st_forR2 (n := c.months.length) val_c (v_rI0 (g := fun i j => .int (i + j)) (v_cb (v := .int (c.months.length : Nat)) (val_var (i := 0) rfl) fun Q q => ⟨ml, _, rfl, Or.inl (SqL.of (g5 _ _ h1)), by rw [List.length_map]; exact q⟩) val_c) (by omega) (by decide) (by have := ok.months.1; omega)
        (fun j σ' H' => ∃ rl as v6 v7 v8 v9, σ' = [some (.ref ml), some (.int c.lm), some (.ref ll), some (.ref rl), some (.int (y : Nat)), some (.int ((cnt c.leaps y : Int) % 2)), v6, v7, v8, v9] ∧ H' rl = some (.lst as) ∧ H rl = none ∧ Rows H' c as (c.bef (y : Nat) + pre c y j) ∧ Same H H')
        ⟨rl, as, v6, v7, v8, v9, rfl, g6, g2, by rw [pre_zero, Int.add_zero]; exact g7, g5⟩ ?_ ?_
      · rintro j σ' H4 hj ⟨rl, as, v6, v7, v8, v9, rfl, g1, g2, g3, g4⟩
        have d1 := ok.dim1 (y : Int) hj
        obtain ⟨mj, hmj⟩ : ∃ mj, c.months[j]? = some mj := ⟨_, List.getElem?_eq_getElem hj⟩
        have ed : mj + (if (decide ((cnt c.leaps y : Int) % 2 = 1) && decide (1 + (j : Int) = c.lm)) = true then 1 else 0) = dim c y j := by
          unfold dim isL
          have : c.months.getD j 0 = mj := by simp [List.getD, hmj]
          rw [this]
          congr 1
          simp only [Bool.and_eq_true, decide_eq_true_eq]
          by_cases z1 : (cnt c.leaps y : Int) % 2 = 1
          · by_cases z2 : 1 + (j : Int) = c.lm
            · rw [if_pos ⟨z1, z2⟩, if_pos ⟨by omega, z1⟩]
            · rw [if_neg (fun z => z2 z.2), if_neg (fun z => z2 (by omega))]
          · rw [if_neg (fun z => z1 z.1), if_neg (fun z => z1 z.2)]
        refine st_let (v := .int (dim c y j)) ?_ ?_
        · rw [← ed]
          exact v_rI0 (g := fun i j => .int (i + j)) (v_ixL (val_var (i := 0) rfl) (v_rI0 (g := fun i j => .int (i - j)) (val_var (i := 7) (v := .int (1 + (j : Nat))) rfl) val_c) (SqL.of (g4 _ _ h1)) (at_of (j := j) (by omega) (ints_at hmj))) (v_cb (v_cmp_and (v_eq (val_var (i := 5) rfl) val_c) (v_eq (val_var (i := 7) rfl) (val_var (i := 1) rfl))) fun Q q => Or.inr ⟨_, rfl, q⟩)
        · refine ⟨_, rfl, ?_⟩
          refine ⟨_, rfl, _, rfl, by omega, by omega, fun D hD => ?_⟩
          refine lc_range (fun i H' => (∃ bs, H' D = some (.lst bs) ∧ bs.length = i ∧ ∀ i', i' < i → ∃ u : Addr, bs[i']? = some (V.ref u) ∧ H' u = some (.tup [.int ((j : Int) + 1), .int ((i' : Int) + 1), .int (dim c y j)])) ∧ Same H4 H') ⟨⟨[], upd_same, rfl, fun i' z => absurd z (Nat.not_lt_zero _)⟩, Same.new hD⟩ ?_ ?_
          · rintro i H5 hi ⟨⟨bs, f1, f2, f3⟩, f4⟩
            refine ⟨rfl, elemY ?_⟩
            refine ⟨_, rfl, _, rfl, _, _, rfl, rfl, _, rfl, by show 3 ≤ sizeLine; decide, fun u hu => ?_⟩
            have su := Same.new (o := .tup [.int (1 + (j : Int)), .int (0 + (i : Int) + 1), .int (dim c y j)]) hu
            have nu : D ≠ u := ne_of_none f1 hu
            refine ⟨bs, su _ _ f1, by rw [f2]; exact Nat.lt_of_lt_of_le (show i < 100 by omega) (by decide), ⟨⟨bs ++ [.ref u], upd_same, by simp [f2], fun i' hi' => ?_⟩, ?_⟩⟩
            · rcases Nat.lt_or_eq_of_le (Nat.le_of_lt_succ hi') with h | rfl
              · obtain ⟨u', w1, w2⟩ := f3 i' h
                refine ⟨u', by rw [List.getElem?_append_left (by omega)]; exact w1, ?_⟩
                rw [upd_ne (ne_of (su _ _ w2) (su _ _ f1) (by intro z; cases z))]
                exact su _ _ w2
              · refine ⟨u, by rw [List.getElem?_append_right (by omega), f2, Nat.sub_self]; rfl, ?_⟩
                rw [upd_ne nu.symm, upd_same]
                rw [show (1 : Int) + (j : Int) = (j : Int) + 1 by omega, Int.zero_add]
            · intro b o e
              rw [upd_ne (ne_of_none e hD)]
              exact su _ _ (f4 _ _ e)
          · rintro H5 ⟨⟨bs, f1, f2, f3⟩, f4⟩
            have lb : (bs.length : Int) = dim c y j := by omega
            have rw5 := g3.same f4
            have tot : as.length + bs.length ≤ 781000 := by
              have b1 := B (y + 1) (by omega) (by omega)
              have hs : c.bef (y + 1) = c.bef y + pre c y c.months.length := by rw [ok.bef_succ, ok.pre_all]; omega
              have ep : pre c y (j + 1) = pre c y j + dim c y j := rfl
              have pe : pre c y (j + 1) ≤ pre c y c.months.length := by
                rcases Nat.lt_or_eq_of_le (Nat.succ_le_of_lt hj) with z | z
                · exact Int.le_of_lt (ok.pre_lt y z (Nat.le_refl _))
                · rw [show j + 1 = c.months.length from z]; exact Int.le_refl _
              have := g3.1
              omega
            refine ⟨rl, D, as, bs, rfl, rfl, f4 _ _ g1, f1, Nat.le_trans tot (by decide), fun q hq => ?_⟩
            have sq := Same.new (o := .lst (as ++ bs)) hq
            refine ⟨q, as ++ bs, _, _, _, _, rfl, upd_same, (g4.trans f4).free hq, Rows.more ok (by omega) hj (rw5.same sq) lb (fun i hi => ?_), g4.trans (f4.trans sq)⟩
            obtain ⟨u, w1, w2⟩ := f3 i (by omega)
            exact ⟨u, w1, sq _ _ w2⟩
      · rintro σ' H4 ⟨rl, as, v6, v7, v8, v9, rfl, g1, g2, g3, g4⟩
        refine ⟨rl, as, _, _, _, _, _, _, rfl, g1, g2, ?_, g4⟩
        have hs : c.bef ((y + 1 : Nat) : Int) = c.bef y + pre c y c.months.length := by
          rw [show ((y + 1 : Nat) : Int) = (y : Int) + 1 by omega, ok.bef_succ, ok.pre_all]; omega
        rw [hs]
        exact g3
    · rintro σ' H2 ⟨rl, as, v4, v5, v6, v7, v8, v9, rfl, g1, g2, g3, g4⟩
      have er : ((c.round.toNat : Nat) : Int) = c.round := by omega
      rw [er] at g3
      exact ⟨_, rfl, k rl as H2 g1 g2 g3 g4⟩
end
end My

namespace My
open PySem L2
/-! ### 15. the calendar that is drawn -/
theorem Fr.free {l cl b : Addr} {H H' : Hp} {n : Nat} (f : Fr l cl H H') (p : PoolAt H' l cl n) (h : H' b = none) : H b = none ∧ b ≠ l ∧ b ≠ cl := by
  obtain ⟨x, y, ns, h1, h2, _⟩ := p
  have n1 : b ≠ l := fun z => by rw [z, h1] at h; cases h
  have n2 : b ≠ cl := fun z => by rw [z, h2] at h; cases h
  refine ⟨?_, n1, n2⟩
  cases e : H b with
  | none => rfl
  | some o => rw [f b o e n1 n2] at h; cases h
theorem PoolAt.put {H : Hp} {l cl b : Addr} {n : Nat} {o : HO} (p : PoolAt H l cl n) (m1 : b ≠ l) (m2 : b ≠ cl) : PoolAt (upd H b o) l cl n := by
  obtain ⟨x, y, ns, q1, q2, q3⟩ := p
  exact ⟨x, y, ns, (upd_ne m1.symm).trans q1, (upd_ne m2.symm).trans q2, q3⟩
theorem Fr.put {l cl b : Addr} {H0 H : Hp} {o : HO} (f : Fr l cl H0 H) (m0 : H0 b = none) : Fr l cl H0 (upd H b o) := fun c u z n1 n2 => by
  rw [upd_ne (ne_of_none z m0)]
  exact f c u z n1 n2
theorem ini_ok {r : Raw} (h : ini r = none) : OkCal r.cal := by
  unfold ini at h
  by_cases c1 : 1 ≤ r.day ∧ r.day ≤ 1440
  case neg => rw [if_pos c1] at h; cases h
  rw [if_neg (fun z => z c1)] at h
  by_cases c2 : 1 ≤ r.week ∧ r.week ≤ 10
  case neg => rw [if_pos c2] at h; cases h
  rw [if_neg (fun z => z c2)] at h
  by_cases c3 : okMonths r.months
  case neg => rw [if_pos c3] at h; cases h
  rw [if_neg (fun z => z c3)] at h
  by_cases c4 : 1 ≤ r.lm ∧ r.lm ≤ r.months.length
  case neg => rw [if_pos c4] at h; cases h
  rw [if_neg (fun z => z c4)] at h
  by_cases c5 : okLeaps 1 r.leaps ∧ r.leaps.length ≤ 4
  case neg => rw [if_pos c5] at h; cases h
  rw [if_neg (fun z => z c5)] at h
  by_cases c6 : 0 ≤ r.first ∧ r.first ≤ r.week - 1
  case neg => rw [if_pos c6] at h; cases h
  rw [if_neg (fun z => z c6)] at h
  exact ⟨c1, c2, c3, c4, c5, c6, iniH_hour c1.1 h⟩
theorem ini_none {r : Raw} (c1 : 1 ≤ r.day ∧ r.day ≤ 1440) (c2 : 1 ≤ r.week ∧ r.week ≤ 10) (c3 : okMonths r.months) (c4 : 1 ≤ r.lm ∧ r.lm ≤ r.months.length) (c5 : okLeaps 1 r.leaps ∧ r.leaps.length ≤ 4) (c6 : 0 ≤ r.first ∧ r.first ≤ r.week - 1) (c7 : ∀ h, r.hour = some h → 1 ≤ h ∧ h ≤ r.day ∧ r.day % h = 0) : ini r = none := by
  unfold ini
  rw [if_neg (fun z => z c1), if_neg (fun z => z c2), if_neg (fun z => z c3), if_neg (fun z => z c4), if_neg (fun z => z c5), if_neg (fun z => z c6)]
  cases e : r.hour with
  | none => rfl
  | some h =>
    obtain ⟨d1, d2, d3⟩ := c7 h e
    have e1 : iniH r.day (some h) = if ¬ (1 ≤ h ∧ h ≤ r.day) then some (.rng "hour" h) else if ¬ r.day % h = 0 then some (.part "hour") else none := rfl
    rw [e1, if_neg (fun z => z ⟨d1, d2⟩), if_neg (fun z => z d3)]
/-- the law's own calendar: its days, its week, first weekday and minutes a day -/
def W11 (H : Hp) (l cl wt : Addr) (c : Cal) : Prop := ∃ rl as, H wt = some (.tup [.ref rl, .int c.week, .int c.first, .int c.day]) ∧ LL H l cl rl as ∧ Rows H c as (c.bef c.round)
theorem Rows.fr {H H' : Hp} {l cl : Addr} {c : Cal} {as : List V} {k : Int} {n : Nat} (h : Rows H c as k) (f : Fr l cl H H') (p : PoolAt H l cl n) : Rows H' c as k := ⟨h.1, fun n y m d j z I => let ⟨u, e, g⟩ := h.2 n y m d j z I; ⟨u, e, f.tup p g⟩⟩
theorem W11.fr {H H' : Hp} {l cl wt : Addr} {c : Cal} {n : Nat} (h : W11 H l cl wt c) (f : Fr l cl H H') (p : PoolAt H l cl n) : W11 H' l cl wt c := by
  obtain ⟨rl, as, h1, h2, h3⟩ := h
  exact ⟨rl, as, f.tup p h1, h2.fr f, h3.fr f p⟩
theorem W11.same {H H' : Hp} {l cl wt : Addr} {c : Cal} (h : W11 H l cl wt c) (s : Same H H') : W11 H' l cl wt c := by
  obtain ⟨rl, as, h1, h2, h3⟩ := h
  exact ⟨rl, as, s _ _ h1, h2.same s, h3.same s⟩
def spDrawn (a : Ad) (K : PySem.W.Frag) : Sp := fun vs H Q _ => ∃ (l cl : Addr) (n : Nat), vs = [.ref l] ∧ PoolAt H l cl n ∧ n < 2 ^ 38 ∧ ∀ t land wt c H', H' t = some (.tup [.ref land, .ref wt]) → CalAt a.c_Calendar K H' land c → W11 H' l cl wt c → OkCal c → 2 ≤ c.day ∧ c.day ≤ 6 → PoolAt H' l cl (n + 20) → Fr l cl H H' → Q (.ref t) H'
theorem okL (k : Nat) : k < 6 → ∃ ls : List Int, ([[], [2], [3], [2, 4], [2, 6], []] : List (List Int))[k]? = some ls ∧ okLeaps 1 ls ∧ ls.length ≤ 4 := by
  intro h
  have : k = 0 ∨ k = 1 ∨ k = 2 ∨ k = 3 ∨ k = 4 ∨ k = 5 := by omega
  rcases this with rfl | rfl | rfl | rfl | rfl | rfl
  · exact ⟨_, rfl, trivial, by decide⟩
  · exact ⟨_, rfl, ⟨by decide, by decide, by decide, by decide, trivial⟩, by decide⟩
  · exact ⟨_, rfl, ⟨by decide, by decide, by decide, by decide, trivial⟩, by decide⟩
  · exact ⟨_, rfl, ⟨by decide, by decide, by decide, by decide, by decide, by decide, by decide, by decide, trivial⟩, by decide⟩
  · exact ⟨_, rfl, ⟨by decide, by decide, by decide, by decide, by decide, by decide, by decide, by decide, trivial⟩, by decide⟩
  · exact ⟨_, rfl, trivial, by decide⟩
section
variable {P : Program} {w : World} {K : PySem.W.Frag} {mg : Str → Option Value} {base : Heap} {a : Ad}
theorem G__law_drawn (T : Tx K mg a) : FnOk P w K mg base CX0 6 a.f__law_drawn a.d__law_drawn ["pool"] (spDrawn a K) := by
  refine T.F__law_drawn.ok sc__law_drawn (fun vs H Q E h => ?_) (fun cdv A outer s H vs Q E hr h => ?_)
  · obtain ⟨l, cl, n, rfl, _⟩ := h
    rfl
  · obtain ⟨l, cl, n, rfl, hp, hn, k⟩ := h
    refine ⟨_, (pss_cons (ps_setLc (i := 1) (own := [("k", 2)]) (g := gName 2) (tt := tYes) rfl sc__law_drawn.nd rfl rfl (sw_true rfl rfl rfl (by decide +kernel)) (pi_range1 rfl T.n_range (pa_cons (pe_op op_add pe_int (pe_call (G__law_draw T) (hr.mono (by decide)) rfl T.g__law_draw T.F__law_draw.kp T.b__law_draw .nil pass0 (pa_cons (pv 0) (pa_cons pe_int pa_nil)))) pa_nil)) (blkOk_by (own := [("k", 2)]) (N := ["pool", "months", "k", "leaps", "one", "week", "first", "day", "land"]) (sc := defScope s__law_drawn) (by decide +kernel)) (fun _ _ _ _ _ => (pg_name (i := 2) sc__law_drawn.nd rfl (Or.inl rfl))) (fun _ _ _ _ _ => pts_nil) (fun _ _ _ _ _ => (pe_op op_add pe_int (pe_call (G__law_draw T) (hr.mono (by decide)) rfl T.g__law_draw T.F__law_draw.kp T.b__law_draw .nil pass0 (pa_cons (pv 0) (pa_cons pe_int pa_nil))))))
      (pss_cons (ps_set (i := 3) sc__law_drawn.nd rfl (Or.inl rfl) (pe_ix ix_list (pe_lst (pa_cons (pe_lst pa_nil) (pa_cons (pe_lst (pa_cons pe_int pa_nil)) (pa_cons (pe_lst (pa_cons pe_int pa_nil)) (pa_cons (pe_lst (pa_cons pe_int (pa_cons pe_int pa_nil))) (pa_cons (pe_lst (pa_cons pe_int (pa_cons pe_int pa_nil))) (pa_cons (pe_lst pa_nil) pa_nil))))))) (pe_call (G__law_draw T) (hr.mono (by decide)) rfl T.g__law_draw T.F__law_draw.kp T.b__law_draw .nil pass0 (pa_cons (pv 0) (pa_cons pe_int pa_nil))) (fun _ _ => rfl)))
      (pss_cons (ps_set (i := 4) sc__law_drawn.nd rfl (Or.inl rfl) (pe_op op_add pe_int (pe_call (G__law_draw T) (hr.mono (by decide)) rfl T.g__law_draw T.F__law_draw.kp T.b__law_draw .nil pass0 (pa_cons (pv 0) (pa_cons (pe_callB call_len_seq (by rfl) T.n_len (by decide +kernel) (pa_cons (pv 1) pa_nil)) pa_nil)))))
      (pss_cons (ps_if (pt_cmpR op_gt (pe_callB call_len_seq (by rfl) T.n_len (by decide +kernel) (pa_cons (pe_call (G__law_days_of T) (hr.mono (by decide)) rfl T.g__law_days_of T.F__law_days_of.kp T.b__law_days_of .nil pass0 (pa_cons (pv 1) (pa_cons (pv 4) (pa_cons (pv 3) pa_nil)))) pa_nil)) pe_int (nomark _)) (pss_one (ps_set (i := 3) sc__law_drawn.nd rfl (Or.inl rfl) (pe_lst pa_nil))) pss_nil)
      (pss_cons (ps_set (i := 5) sc__law_drawn.nd rfl (Or.inl rfl) (pe_op op_add pe_int (pe_call (G__law_draw T) (hr.mono (by decide)) rfl T.g__law_draw T.F__law_draw.kp T.b__law_draw .nil pass0 (pa_cons (pv 0) (pa_cons pe_int pa_nil)))))
      (pss_cons (ps_set (i := 6) sc__law_drawn.nd rfl (Or.inl rfl) (pe_call (G__law_draw T) (hr.mono (by decide)) rfl T.g__law_draw T.F__law_draw.kp T.b__law_draw .nil pass0 (pa_cons (pv 0) (pa_cons (pv 5) pa_nil))))
      (pss_cons (ps_set (i := 7) sc__law_drawn.nd rfl (Or.inl rfl) (pe_op op_add pe_int (pe_call (G__law_draw T) (hr.mono (by decide)) rfl T.g__law_draw T.F__law_draw.kp T.b__law_draw .nil pass0 (pa_cons (pv 0) (pa_cons pe_int pa_nil)))))
      (pss_cons (ps_set (i := 8) sc__law_drawn.nd rfl (Or.inl rfl) (pe_makeK T.M_Calendar (G_Calendar_init T) (hr.mono (by decide)) rfl T.g_Calendar T.bK_Calendar_init_0.choose_spec passL (pa_cons (pv 7) (pa_cons (pv 5) (pa_cons (pv 1) pa_nil))) (pk_cons (pv 4) (pk_cons (pv 3) (pk_cons (pv 6) pk_nil)))))
      (pss_one (ps_ret (pe_tup (pa_cons (pv 8) (pa_cons (pe_tup (pa_cons (pe_call (G__law_days_of T) (hr.mono (by decide)) rfl T.g__law_days_of T.F__law_days_of.kp T.b__law_days_of .nil pass0 (pa_cons (pv 1) (pa_cons (pv 4) (pa_cons (pv 3) pa_nil)))) (pa_cons (pv 5) (pa_cons (pv 6) (pa_cons (pv 7) pa_nil))))) pa_nil))))))))))))), ?_⟩
    refine st_seq ?_
    refine ⟨_, rfl, l, cl, 3, n, rfl, hp, by omega, by decide, by decide, fun d0 H1 z0 z1 p1 f1 => ⟨_, _, rfl, rfl, _, rfl, by omega, by omega, fun D hD => ?_⟩⟩
    obtain ⟨D0, D1, D2⟩ := f1.free p1 hD
    refine lc_range (fun i H' => (∃ ms : List Int, H' D = some (.lst (ms.map V.int)) ∧ ms.length = i ∧ ∀ x ∈ ms, 1 ≤ x ∧ x ≤ 60) ∧ PoolAt H' l cl (n + 1 + i) ∧ Fr l cl H H') ⟨⟨[], upd_same, rfl, fun x z => nomatch z⟩, p1.put D1 D2, f1.put D0⟩ ?_ ?_
    · rintro i H2 hi ⟨⟨ms, e1, e2, e3⟩, p2, f2⟩
      refine ⟨rfl, elemY ?_⟩
      refine ⟨_, rfl, l, cl, 5, _, rfl, p2, by omega, by decide, by decide, fun d H3 a0 a1 p3 f3 => ⟨_, _, rfl, rfl, ?_⟩⟩
      have e4 := f3 _ _ e1 D1 D2
      refine ⟨_, e4, by rw [List.length_map]; exact small1000 (by omega), ⟨ms ++ [1 + d], by rw [upd_same, List.map_append]; rfl, by simp [e2], fun x hx => ?_⟩, (p3.put D1 D2).mono (by omega), (f2.trans f3).put D0⟩
      rcases List.mem_append.mp hx with hx | hx
      · exact e3 x hx
      · rw [List.mem_singleton.mp hx]; omega
    rintro H2 ⟨⟨ms, e1, e2, e3⟩, p2, f2⟩
    have mz : 1 ≤ ms.length ∧ ms.length ≤ 3 := by omega
    have okm : okMonths ms := ⟨by omega, e3⟩
    dsimp only [gName]
    have p2 := p2.mono (show n + 1 + (1 + d0).toNat ≤ n + 4 by omega)
    refine st_letX ?_
    refine ⟨by show 0 ≤ sizeLine; decide, fun b0 h0 => ?_⟩
    have t0 := Same.new (o := .lst (([] : List Int).map V.int)) h0
    refine ⟨by show 1 ≤ sizeLine; decide, fun b1 h1 => ?_⟩
    have t1 := Same.new (o := .lst ([(2 : Int)].map V.int)) h1
    refine ⟨by show 1 ≤ sizeLine; decide, fun b2 h2 => ?_⟩
    have t2 := Same.new (o := .lst ([(3 : Int)].map V.int)) h2
    refine ⟨by show 2 ≤ sizeLine; decide, fun b3 h3 => ?_⟩
    have t3 := Same.new (o := .lst ([(2 : Int), 4].map V.int)) h3
    refine ⟨by show 2 ≤ sizeLine; decide, fun b4 h4 => ?_⟩
    have t4 := Same.new (o := .lst ([(2 : Int), 6].map V.int)) h4
    refine ⟨by show 0 ≤ sizeLine; decide, fun b5 h5 => ?_⟩
    have t5 := Same.new (o := .lst (([] : List Int).map V.int)) h5
    refine ⟨by show 6 ≤ sizeLine; decide, fun b6 h6 => ?_⟩
    have t6 := Same.new (o := .lst [.ref b0, .ref b1, .ref b2, .ref b3, .ref b4, .ref b5]) h6
    have B6 := t6
    have B5 := t5.trans B6
    have B4 := t4.trans B5
    have B3 := t3.trans B4
    have B2 := t2.trans B3
    have B1 := t1.trans B2
    have A1 := t0
    have A2 := A1.trans t1
    have A3 := A2.trans t2
    have A4 := A3.trans t3
    have A5 := A4.trans t4
    have A6 := A5.trans t5
    have A7 := A6.trans t6
    obtain ⟨_, n0, m0⟩ := (Fr.refl l cl H2).free p2 h0
    obtain ⟨_, n1, m1⟩ := (Fr.of A1 : Fr l cl H2 _).free (p2.same A1) h1
    obtain ⟨_, n2, m2⟩ := (Fr.of A2 : Fr l cl H2 _).free (p2.same A2) h2
    obtain ⟨_, n3, m3⟩ := (Fr.of A3 : Fr l cl H2 _).free (p2.same A3) h3
    obtain ⟨_, n4, m4⟩ := (Fr.of A4 : Fr l cl H2 _).free (p2.same A4) h4
    obtain ⟨_, n5, m5⟩ := (Fr.of A5 : Fr l cl H2 _).free (p2.same A5) h5
    obtain ⟨_, n6, m6⟩ := (Fr.of A6 : Fr l cl H2 _).free (p2.same A6) h6
    refine ⟨_, rfl, l, cl, 6, _, rfl, p2.same A7, by omega, by decide, by decide, fun e H3 g0 g1 p3 f3 => ?_⟩
    obtain ⟨bb, ls, hb, hi, okl⟩ : ∃ bb ls, ([V.ref b0, .ref b1, .ref b2, .ref b3, .ref b4, .ref b5] : List V)[e.toNat]? = some (.ref bb) ∧ LL H3 l cl bb (ls.map V.int) ∧ okLeaps 1 ls ∧ ls.length ≤ 4 := by
      have ce : e = 0 ∨ e = 1 ∨ e = 2 ∨ e = 3 ∨ e = 4 ∨ e = 5 := by omega
      rcases ce with rfl | rfl | rfl | rfl | rfl | rfl
      · exact ⟨b0, [], rfl, ⟨f3 _ _ (B1 _ _ upd_same) n0 m0, n0, m0⟩, trivial, by decide⟩
      · exact ⟨b1, [2], rfl, ⟨f3 _ _ (B2 _ _ upd_same) n1 m1, n1, m1⟩, ⟨by decide, by decide, by decide, by decide, trivial⟩, by decide⟩
      · exact ⟨b2, [3], rfl, ⟨f3 _ _ (B3 _ _ upd_same) n2 m2, n2, m2⟩, ⟨by decide, by decide, by decide, by decide, trivial⟩, by decide⟩
      · exact ⟨b3, [2, 4], rfl, ⟨f3 _ _ (B4 _ _ upd_same) n3 m3, n3, m3⟩, ⟨by decide, by decide, by decide, by decide, by decide, by decide, by decide, by decide, trivial⟩, by decide⟩
      · exact ⟨b4, [2, 6], rfl, ⟨f3 _ _ (B5 _ _ upd_same) n4 m4, n4, m4⟩, ⟨by decide, by decide, by decide, by decide, by decide, by decide, by decide, by decide, trivial⟩, by decide⟩
      · exact ⟨b5, [], rfl, ⟨f3 _ _ (B6 _ _ upd_same) n5 m5, n5, m5⟩, trivial, by decide⟩
    refine ⟨b6, _, _, .ref bb, rfl, rfl, SqL.of (f3 _ _ upd_same n6 m6), at_of (j := e.toNat) (by omega) hb, ?_⟩
    have hm : LL H2 l cl D (ms.map V.int) := ⟨e1, D1, D2⟩
    have f4 := f2.trans ((Fr.of A7).trans f3)
    have hm3 := (hm.same A7).fr f3
    clear e1 A1 A2 A3 A4 A5 A6 A7 B1 B2 B3 B4 B5 B6 t0 t1 t2 t3 t4 t5 t6 hm
    refine st_letX ?_
    refine ⟨_, rfl, _, rfl, D, _, rfl, Or.inl (SqL.of hm3.1), l, cl, ms.length, _, by rw [List.length_map]; rfl, p3, by omega, by omega, Int.lt_of_le_of_lt (by omega : (ms.length : Int) ≤ 3) (by decide), fun d1 H4 g2 g3 p4 f5 => ⟨_, _, rfl, rfl, ?_⟩⟩
    have hm4 := hm3.fr f5
    have hi4 := hi.fr f5
    have f6 := f4.trans f5
    dsimp only
    show tSeq _ _ _ [some (.ref l), some (.ref D), none, some (.ref bb), some (.int (1 + d1)), none, none, none, none] H4
    refine st_shareS (fun σ' H' => ∃ (b : Addr) (ls : List Int), σ' = [some (.ref l), some (.ref D), none, some (.ref b), some (.int (1 + d1)), none, none, none, none] ∧ LL H' l cl b (ls.map V.int) ∧ LL H' l cl D (ms.map V.int) ∧ (okLeaps 1 ls ∧ ls.length ≤ 4) ∧ PoolAt H' l cl (n + 10) ∧ Fr l cl H H') ?_ fun N hN => ?_
    case refine_2 =>
      have okc : OkCal ⟨1, 1, ms, 1 + d1, ls, 0, 1⟩ := ⟨⟨by dsimp only; omega, by dsimp only; omega⟩, ⟨by dsimp only; omega, by dsimp only; omega⟩, okm, ⟨by dsimp only; omega, by dsimp only; omega⟩, okl, ⟨by dsimp only; omega, by dsimp only; omega⟩, ⟨by dsimp only; omega, by dsimp only; omega⟩⟩
      refine ⟨_, rfl, _, rfl, _, rfl, D, bb, ⟨1, 1, ms, 1 + d1, ls, 0, 1⟩, rfl, hm4.1, hi4.1, okc, fun rl as H5 e1 _ e3 s5 => ?_⟩
      refine ⟨rl, _, rfl, Or.inl (SqL.of e1), _, _, rfl, rfl, _, rfl, ?_⟩
      have p5 := p4.same s5
      generalize decide ((24 : Int) < (as.length : Int)) = b
      cases b with
      | true =>
        refine iteT ⟨by show 0 ≤ sizeLine; decide, fun b7 h7 => ?_⟩
        have t7 := Same.new (o := .lst (([] : List Int).map V.int)) h7
        obtain ⟨_, n7, m7⟩ := (Fr.refl l cl H5).free p5 h7
        exact hN _ _ ⟨b7, [], rfl, ⟨upd_same, n7, m7⟩, (hm4.same s5).same t7, ⟨trivial, by decide⟩, (p5.same t7).mono (by omega), f6.trans (Fr.of (s5.trans t7))⟩
      | false => exact iteF (hN _ _ ⟨bb, ls, rfl, hi4.same s5, hm4.same s5, okl, p5.mono (by omega), f6.trans (Fr.of s5)⟩)
    rintro σ' H5 ⟨b, ls', rfl, hl5, hm5, okl5, p5, f7⟩
    refine st_letX ⟨_, rfl, l, cl, 5, _, rfl, p5, by omega, by decide, by decide, fun d2 H6 g4 g5 p6 f8 => ⟨_, _, rfl, rfl, ?_⟩⟩
    refine st_letX ⟨_, rfl, _, rfl, l, cl, 1 + d2, _, rfl, p6, by omega, by omega, Int.lt_of_le_of_lt (by omega : 1 + d2 ≤ 5) (by decide), fun d3 H7 g6 g7 p7 f9 => ?_⟩
    refine st_letX ⟨_, rfl, l, cl, 5, _, rfl, p7, by omega, by decide, by decide, fun d4 H8 g8 g9 p8 f10 => ⟨_, _, rfl, rfl, ?_⟩⟩
    have f11 := f8.trans (f9.trans f10)
    have hl8 := hl5.fr f11
    have hm8 := hm5.fr f11
    have f12 := f7.trans f11
    have okc : ini ⟨2 + d4, 1 + d2, ms, 1 + d1, ls', d3, none⟩ = none := ini_none (by dsimp only; omega) (by dsimp only; omega) okm (by dsimp only; omega) okl5 (by dsimp only; omega) (fun h e => nomatch e)
    refine st_letX ?_
    refine ⟨_, rfl, _, rfl, _, rfl, _, rfl, _, rfl, _, rfl, rfl, rfl, fun x dx hx hdx nx => ?_⟩
    have sx : Same H8 (upd (upd H8 dx (.own x)) x (.ins a.c_Calendar dx [])) := (Same.new hdx).trans (Same.new (by rw [upd_ne nx.symm]; exact hx))
    refine ⟨x, dx, D, b, ⟨2 + d4, 1 + d2, ms, 1 + d1, ls', d3, none⟩, rfl, upd_same, sx.sqA (Or.inl (SqL.of hm8.1)), sx.sqA (Or.inl (SqL.of hl8.1)), fun _ okp H9 hcp bx => ⟨rfl, ?_⟩, fun an e => by rw [okc] at e; cases e⟩
    have s9 := Same.made hx hdx bx
    have hm9 := hm8.same s9
    have hl9 := hl8.same s9
    have p9 := p8.same s9
    refine ⟨_, rfl, _, rfl, _, rfl, _, rfl, D, b, Raw.cal ⟨2 + d4, 1 + d2, ms, 1 + d1, ls', d3, none⟩, rfl, hm9.1, hl9.1, okp, fun rl as H10 e1 e2 e3 s10 => ?_⟩
    refine ⟨_, rfl, _, rfl, _, rfl, by show 4 ≤ sizeLine; decide, fun wt hwt => ?_⟩
    have s11 := Same.new (o := .tup [.ref rl, .int (1 + d2), .int d3, .int (2 + d4)]) hwt
    refine ⟨by show 2 ≤ sizeLine; decide, fun t ht => ?_⟩
    have s12 := Same.new (o := .tup [.ref x, .ref wt]) ht
    have s13 := s11.trans s12
    obtain ⟨_, r1, r2⟩ := (Fr.refl l cl H9).free p9 e2
    exact k t x wt _ _ upd_same (hcp.same (s10.trans s13)) ⟨rl, as, s12 _ _ upd_same, ⟨s13 _ _ e1, r1, r2⟩, e3.same s13⟩ okp ⟨by show 2 ≤ 2 + d4; omega, by show 2 + d4 ≤ 6; omega⟩ ((p9.same (s10.trans s13)).mono (by omega)) (f12.trans (Fr.of (s9.trans (s10.trans s13))))
end
end My

namespace My
open PySem L2
/-! ### 16. the law's own rules, as data -/
def LPs (H : Hp) (l cl p : Addr) (ps : List Part) : Prop := ∃ as, LL H l cl p as ∧ Prs H as ps
theorem LPs.same {H H' : Hp} {l cl p : Addr} {ps : List Part} (h : LPs H l cl p ps) (s : Same H H') : LPs H' l cl p ps := let ⟨as, x, y⟩ := h; ⟨as, x.same s, y.same s⟩
theorem Prs.fr {H H' : Hp} {l cl : Addr} {as : List V} {ps : List Part} {n : Nat} (h : Prs H as ps) (f : Fr l cl H H') (p : PoolAt H l cl n) : Prs H' as ps := ⟨h.1, fun i q e => let ⟨t, x, y⟩ := h.2 i q e; ⟨t, x, f.tup p y⟩⟩
theorem LPs.fr {H H' : Hp} {l cl p : Addr} {ps : List Part} {n : Nat} (h : LPs H l cl p ps) (f : Fr l cl H H') (hp : PoolAt H l cl n) : LPs H' l cl p ps := let ⟨as, x, y⟩ := h; ⟨as, x.fr f, y.fr f hp⟩
def LCd (H : Hp) (l cl t : Addr) : Cd → Prop
  | .md ps fe => ∃ pl, H t = some (.tup [.int 0, .ref pl, .bl fe]) ∧ LPs H l cl pl ps
  | .wd ps => ∃ pl, H t = some (.tup [.int 1, .ref pl, .bl false]) ∧ LPs H l cl pl ps
  | .mo ps => ∃ pl, H t = some (.tup [.int 2, .ref pl, .bl false]) ∧ LPs H l cl pl ps
  | .nth k v fe => H t = some (.tup [.int 3, .int k, .int v, .bl fe])
  | .ev s f => H t = some (.tup [.int 4, .int s, .int f])
  | .fr d => H t = some (.tup [.int 5, .int d])
  | .un d => H t = some (.tup [.int 6, .int d])
  | .no ds => ∃ dl, H t = some (.tup [.int 7, .ref dl]) ∧ LL H l cl dl (ds.map V.int)
theorem LCd.same {H H' : Hp} {l cl t : Addr} {cd : Cd} (h : LCd H l cl t cd) (s : Same H H') : LCd H' l cl t cd := by
  cases cd with
  | md ps fe => obtain ⟨pl, x, y⟩ := h; exact ⟨pl, s _ _ x, y.same s⟩
  | wd ps => obtain ⟨pl, x, y⟩ := h; exact ⟨pl, s _ _ x, y.same s⟩
  | mo ps => obtain ⟨pl, x, y⟩ := h; exact ⟨pl, s _ _ x, y.same s⟩
  | nth k v fe => exact s _ _ h
  | ev k f => exact s _ _ h
  | fr d => exact s _ _ h
  | un d => exact s _ _ h
  | no ds => obtain ⟨pl, x, y⟩ := h; exact ⟨pl, s _ _ x, y.same s⟩
theorem LCd.fr {H H' : Hp} {l cl t : Addr} {cd : Cd} {n : Nat} (h : LCd H l cl t cd) (f : Fr l cl H H') (hp : PoolAt H l cl n) : LCd H' l cl t cd := by
  cases cd with
  | md ps fe => obtain ⟨pl, x, y⟩ := h; exact ⟨pl, f.tup hp x, y.fr f hp⟩
  | wd ps => obtain ⟨pl, x, y⟩ := h; exact ⟨pl, f.tup hp x, y.fr f hp⟩
  | mo ps => obtain ⟨pl, x, y⟩ := h; exact ⟨pl, f.tup hp x, y.fr f hp⟩
  | nth k v fe => exact f.tup hp h
  | ev k f' => exact f.tup hp h
  | fr d => exact f.tup hp h
  | un d => exact f.tup hp h
  | no ds => obtain ⟨pl, x, y⟩ := h; exact ⟨pl, f.tup hp x, y.fr f⟩
def okPs (ps : List Part) : Prop := ps.length ≤ 1500 ∧ ∀ q ∈ ps, okPart q
def okCd : Cd → Prop
  | .md ps _ => okPs ps
  | .wd ps => okPs ps
  | .mo ps => okPs ps
  | .nth k v _ => (1 ≤ k ∧ k ≤ 9) ∧ 0 ≤ v ∧ v ≤ 9
  | .ev s f => (1 ≤ s ∧ s ≤ 10000) ∧ 0 ≤ f ∧ f ≤ 100000
  | .fr d => 0 ≤ d ∧ d ≤ 100000
  | .un d => 0 ≤ d ∧ d ≤ 100000
  | .no ds => ds ≠ [] ∧ ∀ i, ¬ badAt ds i
def spParts : Sp := fun vs H Q _ => ∃ (l cl : Addr) (n : Nat) (top : Int), vs = [.ref l, .int top] ∧ PoolAt H l cl n ∧ n < 2 ^ 38 ∧ (1 ≤ top ∧ top ≤ 1000) ∧ ∀ p ps H', LPs H' l cl p ps → okPs ps → ps.length ≤ 3 → H p = none → PoolAt H' l cl (n + 10) → Fr l cl H H' → Q (.ref p) H'
def spCondition : Sp := fun vs H Q _ => ∃ (l cl : Addr) (n : Nat), vs = [.ref l] ∧ PoolAt H l cl n ∧ n < 2 ^ 37 ∧ ∀ t cd H', LCd H' l cl t cd → okCd cd → PoolAt H' l cl (n + 20) → Fr l cl H H' → Q (.ref t) H'
def spChosen (K : PySem.W.Frag) : Sp := fun vs H Q _ => ∃ (pl : Addr) (as : List V) (ps : List Part) (x : Int), vs = [.ref pl, .int x] ∧ SqL K H pl as ∧ Prs H as ps ∧ (∀ q ∈ ps, okPart q) ∧ Q (.bl (chosen ps x)) H
section
variable {P : Program} {w : World} {K : PySem.W.Frag} {mg : Str → Option Value} {base : Heap} {a : Ad}
theorem G__law_parts (T : Tx K mg a) : FnOk P w K mg base CX0 2 a.f__law_parts a.d__law_parts ["pool", "top"] spParts := by
  refine T.F__law_parts.ok sc__law_parts (fun vs H Q E h => ?_) (fun cdv A outer s H vs Q E hr h => ?_)
  · obtain ⟨l, cl, n, top, rfl, _⟩ := h
    rfl
  · obtain ⟨l, cl, n, top, rfl, hp, hn, ht, k⟩ := h
    refine ⟨_, (pss_cons (ps_set (i := 2) sc__law_parts.nd rfl (Or.inl rfl) (pe_lst pa_nil))
      (pss_cons (ps_for PassesOwn.never rfl (pi_range1 rfl T.n_range (pa_cons (pe_call (G__law_draw T) (hr.mono (by decide)) rfl T.g__law_draw T.F__law_draw.kp T.b__law_draw .nil pass0 (pa_cons (pv 0) (pa_cons pe_int pa_nil))) pa_nil)) (pg_name (i := 3) sc__law_parts.nd rfl (Or.inl rfl)) (pss_cons (ps_set (i := 4) sc__law_parts.nd rfl (Or.inl rfl) (pe_call (G__law_draw T) (hr.mono (by decide)) rfl T.g__law_draw T.F__law_draw.kp T.b__law_draw .nil pass0 (pa_cons (pv 0) (pa_cons (pv 1) pa_nil))))
      (pss_cons (ps_set (i := 5) sc__law_parts.nd rfl (Or.inl rfl) (pe_op op_add (pv 4) (pe_call (G__law_draw T) (hr.mono (by decide)) rfl T.g__law_draw T.F__law_draw.kp T.b__law_draw .nil pass0 (pa_cons (pv 0) (pa_cons (pv 1) pa_nil)))))
      (pss_one (ps_expr (pe_bm PySem.F.plainAttrs_list PySem.F.slot_list_append PySem.F.type_list_append mt_append (pv 2) (pa_cons (pe_tup (pa_cons (pv 4) (pa_cons (pv 5) (pa_cons (pe_op op_add pe_int (pe_call (G__law_draw T) (hr.mono (by decide)) rfl T.g__law_draw T.F__law_draw.kp T.b__law_draw .nil pass0 (pa_cons (pv 0) (pa_cons pe_int pa_nil)))) pa_nil)))) pa_nil)))))))
      (pss_one (ps_ret (pv 2))))), ?_⟩
    refine st_letX ⟨by show 0 ≤ sizeLine; decide, fun p hpl => ?_⟩
    obtain ⟨_, n1, n2⟩ := (Fr.refl l cl H).free hp hpl
    have s1 := Same.new (o := .lst []) hpl
    have e1 : upd H p (.lst []) p = some (.lst []) := upd_same
    have p1 := hp.same s1
    have f1 : Fr l cl H (upd H p (.lst [])) := Fr.of s1
    generalize upd H p (.lst []) = H1 at e1 p1 f1
    refine st_seq ⟨_, rfl, l, cl, 4, n, rfl, p1, by omega, by decide, by decide, fun d H2 z0 z1 p2 f2 => ?_⟩
    refine st_forR1 (ta := tC (.int d)) (n := d.toNat) val_c (by omega) (by omega) (fun i σ' H' => ∃ v3 v4 v5 as ps, σ' = [some (.ref l), some (.int top), some (.ref p), v3, v4, v5] ∧ H' p = some (.lst as) ∧ Prs H' as ps ∧ ps.length = i ∧ (∀ q ∈ ps, okPart q) ∧ PoolAt H' l cl (n + 1 + 3 * i) ∧ Fr l cl H H')
      ⟨none, none, none, [], [], rfl, f2 _ _ e1 n1 n2, ⟨rfl, fun i q e => nomatch e⟩, rfl, (fun q z => nomatch z), p2, f1.trans f2⟩ ?_ ?_
    · rintro i σ' H3 hi ⟨v3, v4, v5, as, ps, rfl, g1, g2, g3, g4, p3, f3⟩
      refine st_letX ⟨_, rfl, _, rfl, l, cl, top, _, rfl, p3, by omega, by omega, Int.lt_of_le_of_lt ht.2 (by decide), fun lo H4 a0 a1 p4 f4 => ?_⟩
      refine st_letX ?_
      refine ⟨_, rfl, _, rfl, _, rfl, l, cl, top, _, rfl, p4, by omega, by omega, Int.lt_of_le_of_lt ht.2 (by decide), fun hi' H5 a2 a3 p5 f5 => ⟨_, _, rfl, rfl, ?_⟩⟩
      have f45 := f4.trans f5
      have g5 := f45 _ _ g1 n1 n2
      refine ⟨_, rfl, tyL g5, ?_⟩
      refine ⟨_, rfl, _, rfl, _, rfl, l, cl, 3, _, rfl, p5, by omega, by decide, by decide, fun st H6 a4 a5 p6 f6 => ⟨_, _, rfl, rfl, by show 3 ≤ sizeLine; decide, fun t ht' => ?_⟩⟩
      have f7 := f45.trans f6
      have g6 := f7 _ _ g1 n1 n2
      have stt := Same.new (o := .tup (part3 (lo, lo + hi', 1 + st))) ht'
      have ntp : p ≠ t := ne_of_none g6 ht'
      have g7 := stt _ _ g6
      have p7 := p6.same stt
      have gP : Prs (upd H6 t (.tup (part3 (lo, lo + hi', 1 + st)))) as ps := (g2.fr f7 p3).same stt
      refine ⟨p, as, _, rfl, rfl, g7, by rw [g2.1, g3]; exact small1000 (by omega), _, _, _, as ++ [.ref t], ps ++ [(lo, lo + hi', 1 + st)], rfl, upd_same, ?_, by simp [g3], ?_, (p7.put n1 n2).mono (by omega), ((f3.trans f7).trans (Fr.of stt)).put hpl⟩
      · refine ⟨by simp [g2.1], fun i' q e => ?_⟩
        by_cases c : i' < ps.length
        · rw [List.getElem?_append_left c] at e
          obtain ⟨u, w1, w2⟩ := gP.2 i' q e
          exact ⟨u, by rw [List.getElem?_append_left (by rw [g2.1]; exact c)]; exact w1, (upd_ne (ne_of w2 g7 (by intro z; cases z))).trans w2⟩
        · have : i' = ps.length := by
            have := (List.getElem?_eq_some_iff.mp e).1
            simp at this
            omega
          subst this
          rw [List.getElem?_append_right (Nat.le_refl _), Nat.sub_self] at e
          cases e
          exact ⟨t, by rw [← g2.1, List.getElem?_append_right (Nat.le_refl _), Nat.sub_self]; rfl, (upd_ne ntp.symm).trans upd_same⟩
      · intro q hq
        rcases List.mem_append.mp hq with hq | hq
        · exact g4 q hq
        · rw [List.mem_singleton.mp hq]
          refine ⟨?_, ?_, ?_, ?_, ?_⟩ <;> dsimp only <;> omega
    · rintro σ' H3 ⟨v3, v4, v5, as, ps, rfl, g1, g2, g3, g4, p3, f3⟩
      exact ⟨_, rfl, k p ps H3 ⟨as, ⟨g1, n1, n2⟩, g2⟩ ⟨by omega, g4⟩ (by omega) hpl (p3.mono (by omega)) f3⟩
theorem G__law_chosen (T : Tx K mg a) : FnOk P w K mg base CX0 1 a.f__law_chosen a.d__law_chosen ["parts", "x"] (spChosen K) := by
  refine T.F__law_chosen.ok sc__law_chosen (fun vs H Q E h => ?_) (fun cdv A outer s H vs Q E hr h => ?_)
  · obtain ⟨pl, as, ps, x, rfl, _⟩ := h
    rfl
  · obtain ⟨pl, as, ps, n, rfl, hl, hps, ok, k⟩ := h
    refine ⟨_, (pss_cons (ps_for PassesOwn.never rfl (pi_list (pv 0)) (pg_name (i := 2) sc__law_chosen.nd rfl (Or.inl rfl)) (pss_one (ps_if (PW.pt (pw_and (pt_chain op_le op_le (pe_ix ix_tup (pv 2) pe_int (fun _ _ => rfl)) (pv 1) (pe_ix ix_tup (pv 2) pe_int (fun _ _ => rfl))) (pw_and1 (pt_cmpR op_eq (pe_op op_mod (pe_callTy call_int1 (by rfl) T.n_int (by decide +kernel) (pa_cons (pe_op op_sub (pv 1) (pe_ix ix_tup (pv 2) pe_int (fun _ _ => rfl))) pa_nil)) (pe_ix ix_tup (pv 2) pe_int (fun _ _ => rfl))) pe_int (nomark _))))) (pss_one (ps_ret pe_bl)) pss_nil)))
      (pss_one (ps_ret (pe_cmpR op_eq (pe_callB call_len_seq (by rfl) T.n_len (by decide +kernel) (pa_cons (pv 0) pa_nil)) pe_int (nomark _))))), ?_⟩
    have hz := hps.1
    refine st_seq (st_forL (a := pl) (xs := as) (fun R q => ⟨_, rfl, q⟩) (fun i σ' H' => ∃ v2, σ' = [some (.ref pl), some (.int n), v2] ∧ H' = H ∧ ∀ j q, j < i → ps[j]? = some q → inPart q n = false) ⟨none, rfl, rfl, fun j q z => absurd z (Nat.not_lt_zero _)⟩ (fun i σ' H' _ ⟨_, _, e, _⟩ => by rw [e]; exact hl) ?_ ?_)
    · rintro i x σ' H' hx ⟨v2, rfl, rfl, no⟩
      obtain ⟨q, t, hq, rfl, ht⟩ := hps.at hx
      have oq := ok q (List.mem_of_getElem? hq)
      have i0 : ∀ {σ : St}, σ[2]? = some (some (.ref t)) → Val (tOp (rIxT K) (tVar 2) (tC (.int 0))) σ H' (.int q.1) := fun e => v_ixT (val_var e) val_c (SqT.of ht) (show atI (part3 q) 0 = some (.int q.1) from rfl)
      have i1 : ∀ {σ : St}, σ[2]? = some (some (.ref t)) → Val (tOp (rIxT K) (tVar 2) (tC (.int 1))) σ H' (.int q.2.1) := fun e => v_ixT (val_var e) val_c (SqT.of ht) (show atI (part3 q) 1 = some (.int q.2.1) from rfl)
      have i2 : ∀ {σ : St}, σ[2]? = some (some (.ref t)) → Val (tOp (rIxT K) (tVar 2) (tC (.int 2))) σ H' (.int q.2.2) := fun e => v_ixT (val_var e) val_c (SqT.of ht) (show atI (part3 q) 2 = some (.int q.2.2) from rfl)
      refine st_ifb (b := (decide (q.1 ≤ n) && decide (n ≤ q.2.1)) && decide ((n - q.1) % q.2.2 = 0)) (a_and (a_val (v_chain (f := fun i j => decide (i ≤ j)) (g := fun i j => decide (i ≤ j)) (i0 rfl) (val_var (i := 1) rfl) (i1 rfl))) fun _ => a_eq (v_rI (g := fun i j => .int (i % j)) (v_cb (v_rI0 (g := fun i j => .int (i - j)) (val_var (i := 1) rfl) (i0 rfl)) fun Q q => Or.inl ⟨_, rfl, q⟩) (i2 rfl) (by have := oq.2.2.2.1; show 0 < q.2.2; omega)) val_c) (fun z3 => ?_) fun z3 => ?_
      · have e : chosen ps n = true := by
          unfold chosen
          have : ps.any (fun q => inPart q n) = true := List.any_eq_true.mpr ⟨q, List.mem_of_getElem? hq, by simp at z3; unfold inPart; simp; omega⟩
          rw [this, Bool.or_true]
        rw [e] at k
        exact k
      · refine ⟨_, rfl, rfl, fun j q' h e => ?_⟩
        rcases Nat.lt_or_eq_of_le (Nat.le_of_lt_succ h) with h | rfl
        · exact no j q' h e
        · rw [hq] at e
          cases e
          unfold inPart
          rw [decide_eq_false_iff_not]
          intro y
          rw [decide_eq_true y.1, decide_eq_true y.2.1, decide_eq_true y.2.2] at z3
          cases z3
    · rintro σ' H' ⟨v2, rfl, rfl, no⟩
      have e : chosen ps n = decide ((ps.length : Int) = 0) := by
        unfold chosen
        have : ps.any (fun q => inPart q n) = false := by
          rw [List.any_eq_false]
          intro q hq
          obtain ⟨j, hj, e⟩ := List.mem_iff_getElem.mp hq
          rw [no j q (by omega) (by rw [List.getElem?_eq_getElem hj, e])]
          exact Bool.false_ne_true
        rw [this, Bool.or_false]
        cases ps with
        | nil => rfl
        | cons _ _ => simp; omega
      rw [e] at k
      dsimp only
      exact st_ret (v_eq (v_cb (v := .int (ps.length : Nat)) (val_var (i := 0) rfl) fun Q q => ⟨pl, as, rfl, Or.inl hl, by rw [hz]; exact q⟩) val_c) k
end
end My

namespace My
open PySem L2
theorem twoDays {x y : Int} (h0 : 0 ≤ x) (h1 : x < y) (h2 : y ≤ 100000) : okCd (.no [x, y]) := by
  refine ⟨by simp, fun i h => ?_⟩
  have hi : i = 0 ∨ i = 1 := by have := h.1; simp at this; omega
  rcases hi with rfl | rfl
  · rcases h.2 with z | z | z
    · cases z
    · exact z ⟨h0, by show x ≤ 100000; omega⟩
    · exact absurd z.1 (Nat.not_lt_zero _)
  · rcases h.2 with z | z | z
    · cases z
    · exact z ⟨by show 0 ≤ y; omega, h2⟩
    · have : y ≤ x := z.2
      omega
/-- the lists inside are of one kind -/
def LPsP (H : Hp) (S : Addr → Prop) (p : Addr) (ps : List Part) : Prop := ∃ as, (H p = some (.lst as) ∧ S p) ∧ Prs H as ps
def LCdP (H : Hp) (S : Addr → Prop) (t : Addr) : Cd → Prop
  | .md ps fe => ∃ pl, H t = some (.tup [.int 0, .ref pl, .bl fe]) ∧ LPsP H S pl ps
  | .wd ps => ∃ pl, H t = some (.tup [.int 1, .ref pl, .bl false]) ∧ LPsP H S pl ps
  | .mo ps => ∃ pl, H t = some (.tup [.int 2, .ref pl, .bl false]) ∧ LPsP H S pl ps
  | .nth k v fe => H t = some (.tup [.int 3, .int k, .int v, .bl fe])
  | .ev s f => H t = some (.tup [.int 4, .int s, .int f])
  | .fr d => H t = some (.tup [.int 5, .int d])
  | .un d => H t = some (.tup [.int 6, .int d])
  | .no ds => ∃ dl, H t = some (.tup [.int 7, .ref dl]) ∧ (H dl = some (.lst (ds.map V.int)) ∧ S dl)
def spCondition2 : Sp := fun vs H Q _ => ∃ (l cl : Addr) (n : Nat), vs = [.ref l] ∧ PoolAt H l cl n ∧ n < 2 ^ 37 ∧ ∀ t cd H', LCdP H' (fun p => H p = none) t cd → okCd cd → PoolAt H' l cl (n + 20) → Fr l cl H H' → Q (.ref t) H'
theorem LPs.toP {H H0 : Hp} {l cl p : Addr} {ps : List Part} (h : LPs H l cl p ps) (f : H0 p = none) : LPsP H (fun p => H0 p = none) p ps := let ⟨as, x, y⟩ := h; ⟨as, ⟨x.1, f⟩, y⟩
section
variable {P : Program} {w : World} {K : PySem.W.Frag} {mg : Str → Option Value} {base : Heap} {a : Ad}
theorem G__law_condition (T : Tx K mg a) : FnOk P w K mg base CX0 3 a.f__law_condition a.d__law_condition ["pool"] spCondition2 := by
  refine T.F__law_condition.ok sc__law_condition (fun vs H Q E h => ?_) (fun cdv A outer s H vs Q E hr h => ?_)
  · obtain ⟨l, cl, n, rfl, _⟩ := h
    rfl
  · obtain ⟨l, cl, n, rfl, hp, hn, k⟩ := h
    refine ⟨_, (pss_cons (ps_set (i := 1) sc__law_condition.nd rfl (Or.inl rfl) (pe_call (G__law_draw T) (hr.mono (by decide)) rfl T.g__law_draw T.F__law_draw.kp T.b__law_draw .nil pass0 (pa_cons (pv 0) (pa_cons pe_int pa_nil))))
      (pss_cons (ps_if (pt_cmpR op_lt (pv 1) pe_int (nomark _)) (pss_cons (ps_set (i := 2) sc__law_condition.nd rfl (Or.inl rfl) (pe_call (G__law_parts T) (hr.mono (by decide)) rfl T.g__law_parts T.F__law_parts.kp T.b__law_parts .nil pass0 (pa_cons (pv 0) (pa_cons (pe_ix ix_list (pe_lst (pa_cons pe_int (pa_cons pe_int (pa_cons pe_int pa_nil)))) (pv 1) (fun _ _ => rfl)) pa_nil))))
      (pss_one (ps_ret (pe_tup (pa_cons (pv 1) (pa_cons (pv 2) (pa_cons (pe_and (pe_cmpR op_eq (pv 1) pe_int (nomark _)) (pe_one (pe_cmpR op_eq (pe_call (G__law_draw T) (hr.mono (by decide)) rfl T.g__law_draw T.F__law_draw.kp T.b__law_draw .nil pass0 (pa_cons (pv 0) (pa_cons pe_int pa_nil))) pe_int (nomark _)))) pa_nil))))))) pss_nil)
      (pss_cons (ps_set (i := 3) sc__law_condition.nd rfl (Or.inl rfl) (pe_call (G__law_draw T) (hr.mono (by decide)) rfl T.g__law_draw T.F__law_draw.kp T.b__law_draw .nil pass0 (pa_cons (pv 0) (pa_cons pe_int pa_nil))))
      (pss_cons (ps_set (i := 4) sc__law_condition.nd rfl (Or.inl rfl) (pe_call (G__law_draw T) (hr.mono (by decide)) rfl T.g__law_draw T.F__law_draw.kp T.b__law_draw .nil pass0 (pa_cons (pv 0) (pa_cons pe_int pa_nil))))
      (pss_cons (ps_set (i := 5) sc__law_condition.nd rfl (Or.inl rfl) (pe_lst (pa_cons (pe_tup (pa_cons pe_int (pa_cons (pe_op op_add pe_int (pv 3)) (pa_cons (pe_op op_fdivW (pv 4) pe_int) (pa_cons (pe_cmpR op_eq (pe_op op_mod (pv 4) pe_int) pe_int (nomark _)) pa_nil))))) (pa_cons (pe_tup (pa_cons pe_int (pa_cons (pe_op op_add pe_int (pv 3)) (pa_cons (pv 4) pa_nil)))) (pa_cons (pe_tup (pa_cons pe_int (pa_cons (pv 4) pa_nil))) (pa_cons (pe_tup (pa_cons pe_int (pa_cons (pv 4) pa_nil))) pa_nil))))))
      (pss_one (ps_ret (pe_ix ix_list (pe_op op_cat (pv 5) (pe_lst (pa_cons (pe_tup (pa_cons pe_int (pa_cons (pe_lst (pa_cons (pv 3) (pa_cons (pe_op op_add (pe_op op_add (pv 3) pe_int) (pv 4)) pa_nil))) pa_nil))) pa_nil))) (pe_op op_sub (pv 1) pe_int) (fun _ _ => rfl))))))))), ?_⟩
    refine st_letX ⟨_, rfl, l, cl, 8, n, rfl, hp, by omega, by decide, by decide, fun kd H1 z0 z1 p1 f1 => ?_⟩
    refine st_guard (q := kd < 3) (a_cmp (f := fun i j => decide (i < j)) (val_var (i := 1) rfl) val_c) (by simp) (fun c => ?_) fun c => ?_
    · refine st_letX ?_
      refine ⟨_, rfl, by show 3 ≤ sizeLine; decide, fun b hb => ?_⟩
      have sb := Same.new (o := .lst [.int 7, .int 6, .int 4]) hb
      have p2 := p1.same sb
      have eb : upd H1 b (.lst [.int 7, .int 6, .int 4]) b = some (.lst [.int 7, .int 6, .int 4]) := upd_same
      have f2 : Fr l cl H (upd H1 b (.lst [.int 7, .int 6, .int 4])) := f1.trans (Fr.of sb)
      generalize upd H1 b (.lst [.int 7, .int 6, .int 4]) = H2 at p2 eb f2
      obtain ⟨top, htop, t1, t2⟩ : ∃ top : Int, atI [V.int 7, .int 6, .int 4] kd = some (.int top) ∧ 1 ≤ top ∧ top ≤ 1000 := by
        have : kd = 0 ∨ kd = 1 ∨ kd = 2 := by omega
        rcases this with rfl | rfl | rfl
        · exact ⟨7, rfl, by decide, by decide⟩
        · exact ⟨6, rfl, by decide, by decide⟩
        · exact ⟨4, rfl, by decide, by decide⟩
      refine ⟨_, rfl, b, _, _, _, rfl, rfl, SqL.of eb, htop, l, cl, _, top, rfl, p2, by omega, ⟨t1, t2⟩, fun pl ps H3 hps okp lp hfr p3 f3 => ?_⟩
      have hpl := (f2.free p2 hfr).1
      have f4 := f2.trans f3
      refine ⟨_, rfl, _, rfl, _, rfl, rfl, _, rfl, ?_⟩
      rw [dec_int, Bool.beq_eq_decide_eq]
      by_cases c0 : kd = 0
      · subst c0
        rw [decide_eq_true rfl]
        refine iteT ?_
        refine ⟨_, rfl, l, cl, 2, _, rfl, p3, by omega, by decide, by decide, fun e H4 e0 e1 p4 f5 => ⟨rfl, ?_⟩⟩
        refine ⟨by show 3 ≤ sizeLine; decide, fun t ht => ?_⟩
        have st := Same.new (o := .tup [.int 0, .ref pl, .bl (decide (V.int e = V.int 1))]) ht
        exact k t (.md ps _) _ ⟨pl, upd_same, ((hps.fr f5 p3).same st).toP hpl⟩ okp ((p4.same st).mono (by omega)) (f4.trans (f5.trans (Fr.of st)))
      · rw [decide_eq_false c0]
        refine iteF ?_
        refine ⟨by show 3 ≤ sizeLine; decide, fun t ht => ?_⟩
        have st := Same.new (o := .tup [.int kd, .ref pl, .bl false]) ht
        have : kd = 1 ∨ kd = 2 := by omega
        rcases this with rfl | rfl
        · exact k t (.wd ps) _ ⟨pl, upd_same, (hps.same st).toP hpl⟩ okp ((p3.same st).mono (by omega)) (f4.trans (Fr.of st))
        · exact k t (.mo ps) _ ⟨pl, upd_same, (hps.same st).toP hpl⟩ okp ((p3.same st).mono (by omega)) (f4.trans (Fr.of st))
    refine st_letX ⟨_, rfl, l, cl, 4, _, rfl, p1, by omega, by decide, by decide, fun x H2 x0 x1 p2 f2 => ?_⟩
    refine st_letX ⟨_, rfl, l, cl, 12, _, rfl, p2, by omega, by decide, by decide, fun y H3 y0 y1 p3 f3 => ?_⟩
    have f4 := f1.trans (f2.trans f3)
    refine st_letX ?_
    refine ⟨_, rfl, _, _, rfl, rfl, _, rfl, _, _, rfl, rfl, divW (by decide) (by decide), _, rfl, _, _, rfl, rfl, (show (0 : Int) < 2 by decide), rfl, by show 4 ≤ sizeLine; decide, fun b1 h1 => ?_⟩
    have t1 := Same.new (o := .tup [.int 3, .int (1 + x), .int (y / 2), .bl (decide (V.int (y % 2) = V.int 1))]) h1
    refine ⟨_, rfl, _, _, rfl, rfl, _, rfl, by show 3 ≤ sizeLine; decide, fun b2 h2 => ?_⟩
    have t2 := Same.new (o := .tup [.int 4, .int (1 + x), .int y]) h2
    refine ⟨_, rfl, by show 2 ≤ sizeLine; decide, fun b3 h3 => ?_⟩
    have t3 := Same.new (o := .tup [.int 5, .int y]) h3
    refine ⟨_, rfl, by show 2 ≤ sizeLine; decide, fun b4 h4 => ?_⟩
    have t4 := Same.new (o := .tup [.int 6, .int y]) h4
    refine ⟨by show 4 ≤ sizeLine; decide, fun b5 h5 => ?_⟩
    have t5 := Same.new (o := .lst [.ref b1, .ref b2, .ref b3, .ref b4]) h5
    refine ⟨_, rfl, ?_⟩
    refine ⟨_, rfl, _, rfl, _, _, rfl, rfl, _, rfl, _, _, rfl, rfl, by show 2 ≤ sizeLine; decide, fun b6 h6 => ?_⟩
    have t6 := Same.new (o := .lst ([x, x + 1 + y].map V.int)) h6
    refine ⟨by show 2 ≤ sizeLine; decide, fun b7 h7 => ?_⟩
    have t7 := Same.new (o := .tup [.int 7, .ref b6]) h7
    refine ⟨by show 1 ≤ sizeLine; decide, fun b8 h8 => ?_⟩
    have t8 := Same.new (o := .lst [.ref b7]) h8
    refine ⟨b5, b8, _, _, rfl, rfl, (t6.trans (t7.trans t8)) _ _ upd_same, upd_same, by show 5 ≤ sizeLine; decide, fun b9 h9 => ?_⟩
    have t9 := Same.new (o := .lst [.ref b1, .ref b2, .ref b3, .ref b4, .ref b7]) h9
    have B9 := t9
    have B8 := t8.trans B9
    have B7 := t7.trans B8
    have B6 := t6.trans B7
    have B5 := t5.trans B6
    have B4 := t4.trans B5
    have B3 := t3.trans B4
    have B2 := t2.trans B3
    have B1 := t1.trans B2
    obtain ⟨m0, m1, m2⟩ := (f4.trans (Fr.of (t1.trans (t2.trans (t3.trans (t4.trans t5)))))).free (p3.same (t1.trans (t2.trans (t3.trans (t4.trans t5))))) h6
    refine ⟨_, rfl, _, _, rfl, rfl, ?_⟩
    have fin : ∀ (t : Addr) cd, LCdP _ (fun p => H p = none) t cd → okCd cd → Q (.ref t) _ := fun t cd h1 h2 => k t cd _ h1 h2 ((p3.same B1).mono (by omega)) (f4.trans (Fr.of B1))
    have ck : kd = 3 ∨ kd = 4 ∨ kd = 5 ∨ kd = 6 ∨ kd = 7 := by omega
    rcases ck with rfl | rfl | rfl | rfl | rfl
    · exact ⟨b9, _, _, .ref b1, rfl, rfl, SqL.of upd_same, rfl, fin b1 (.nth (1 + x) (y / 2) (decide (V.int (y % 2) = V.int 1))) (B2 _ _ upd_same) ⟨by omega, by omega⟩⟩
    · exact ⟨b9, _, _, .ref b2, rfl, rfl, SqL.of upd_same, rfl, fin b2 (.ev (1 + x) y) (B3 _ _ upd_same) ⟨by omega, by omega⟩⟩
    · exact ⟨b9, _, _, .ref b3, rfl, rfl, SqL.of upd_same, rfl, fin b3 (.fr y) (B4 _ _ upd_same) ⟨by omega, by omega⟩⟩
    · exact ⟨b9, _, _, .ref b4, rfl, rfl, SqL.of upd_same, rfl, fin b4 (.un y) (B5 _ _ upd_same) ⟨by omega, by omega⟩⟩
    · exact ⟨b9, _, _, .ref b7, rfl, rfl, SqL.of upd_same, rfl, fin b7 (.no [x, x + 1 + y]) ⟨b6, B8 _ _ upd_same, B7 _ _ upd_same, m0⟩ (twoDays x0 (by omega) (by omega))⟩
end
end My

namespace My
open PySem L2
def spObject (a : Ad) (K : PySem.W.Frag) : Sp := fun vs H Q _ => ∃ (t l cl : Addr) (cd : Cd), vs = [.ref t] ∧ LCd H l cl t cd ∧ okCd cd ∧ ∀ p H', CdAt a K H' p cd → Same H H' → Q (.ref p) H'
theorem newS {H : Hp} {x dx C : Addr} (hx : H x = none) (hdx : H dx = none) (nx : dx ≠ x) : Same H (upd (upd H dx (.own x)) x (.ins C dx [])) := (Same.new hdx).trans (Same.new (by rw [upd_ne nx.symm]; exact hx))
section
variable {P : Program} {w : World} {K : PySem.W.Frag} {mg : Str → Option Value} {base : Heap} {a : Ad}
theorem G__law_object (T : Tx K mg a) : FnOk P w K mg base CX0 6 a.f__law_object a.d__law_object ["c"] (spObject a K) := by
  refine T.F__law_object.ok sc__law_object (fun vs H Q E h => ?_) (fun cdv A outer s H vs Q E hr h => ?_)
  · obtain ⟨t, l, cl, cd, rfl, _⟩ := h
    rfl
  · obtain ⟨t, l, cl, cd, rfl, hcd, ok, k⟩ := h
    refine ⟨_, (pss_cons (ps_if (pt_cmpR op_lt (pe_ix ix_tup (pv 0) pe_int (fun _ _ => rfl)) pe_int (nomark _)) (pss_cons (ps_set (i := 1) sc__law_object.nd rfl (Or.inl rfl) (pe_make T.M_Choice (G_Choice_init T) (hr.mono (by decide)) rfl T.g_Choice T.bP_Choice_init_1.choose_spec.2 T.bP_Choice_init_1.choose_spec.1 passL (pa_cons (pe_ix ix_tup (pv 0) pe_int (fun _ _ => rfl)) pa_nil)))
      (pss_cons (ps_set (i := 2) sc__law_object.nd rfl (Or.inl rfl) (pe_lst (pa_cons (pe_make T.M_MonthDays (G_MonthDays_init T) (hr.mono (by decide)) rfl T.g_MonthDays T.bD_MonthDays_init.choose_spec.2 T.bD_MonthDays_init.choose_spec.1 pass0 (pa_cons (pv 1) pa_nil)) (pa_cons (pe_make T.M_Weekdays (G_Weekdays_init T) (hr.mono (by decide)) rfl T.g_Weekdays T.b_Weekdays_init .nil pass0 (pa_cons (pv 1) pa_nil)) (pa_cons (pe_make T.M_Months (G_Months_init T) (hr.mono (by decide)) rfl T.g_Months T.b_Months_init .nil pass0 (pa_cons (pv 1) pa_nil)) (pa_cons (pe_makeK T.M_MonthDays (G_MonthDays_init T) (hr.mono (by decide)) rfl T.g_MonthDays T.bK_MonthDays_init.choose_spec pass0 (pa_cons (pv 1) pa_nil) (pk_cons pe_bl pk_nil)) pa_nil))))))
      (pss_one (ps_ret (pe_ix ix_list (pv 2) (pe_op op_add (pe_ix ix_tup (pv 0) pe_int (fun _ _ => rfl)) (pe_op op_mul pe_int (pe_callTy call_int1 (by rfl) T.n_int (by decide +kernel) (pa_cons (pe_ix ix_tup (pv 0) pe_int (fun _ _ => rfl)) pa_nil)))) (fun _ _ => rfl)))))) pss_nil)
      (pss_cons (ps_if (pt_cmpR op_eq (pe_ix ix_tup (pv 0) pe_int (fun _ _ => rfl)) pe_int (nomark _)) (pss_one (ps_ret (pe_makeK T.M_NthWeekday (G_NthWeekday_init T) (hr.mono (by decide)) rfl T.g_NthWeekday T.bK_NthWeekday_init.choose_spec passL (pa_cons (pe_ix ix_tup (pv 0) pe_int (fun _ _ => rfl)) (pa_cons (pe_ix ix_tup (pv 0) pe_int (fun _ _ => rfl)) pa_nil)) (pk_cons (pe_ix ix_tup (pv 0) pe_int (fun _ _ => rfl)) pk_nil)))) pss_nil)
      (pss_cons (ps_if (pt_cmpR op_eq (pe_ix ix_tup (pv 0) pe_int (fun _ _ => rfl)) pe_int (nomark _)) (pss_one (ps_ret (pe_make T.M_EveryDays (G_EveryDays_init T) (hr.mono (by decide)) rfl T.g_EveryDays T.bP_EveryDays_init_1.choose_spec.2 T.bP_EveryDays_init_1.choose_spec.1 passL (pa_cons (pe_ix ix_tup (pv 0) pe_int (fun _ _ => rfl)) (pa_cons (pe_ix ix_tup (pv 0) pe_int (fun _ _ => rfl)) pa_nil))))) pss_nil)
      (pss_cons (ps_if (pt_cmpR op_eq (pe_ix ix_tup (pv 0) pe_int (fun _ _ => rfl)) pe_int (nomark _)) (pss_one (ps_ret (pe_make T.M_NotOn (G_NotOn_init T) (hr.mono (by decide)) rfl T.g_NotOn T.b_NotOn_init .nil passL (pa_cons (pe_ix ix_tup (pv 0) pe_int (fun _ _ => rfl)) pa_nil)))) pss_nil)
      (pss_one (ps_ret (pe_ix ix_list (pe_lst (pa_cons (pe_make T.M_FromDay (G_FromDay_init T) (hr.mono (by decide)) rfl T.g_FromDay T.b_FromDay_init .nil passL (pa_cons (pe_ix ix_tup (pv 0) pe_int (fun _ _ => rfl)) pa_nil)) (pa_cons (pe_make T.M_UntilDay (G_UntilDay_init T) (hr.mono (by decide)) rfl T.g_UntilDay T.b_UntilDay_init .nil passL (pa_cons (pe_ix ix_tup (pv 0) pe_int (fun _ _ => rfl)) pa_nil)) pa_nil))) (pe_op op_sub (pe_ix ix_tup (pv 0) pe_int (fun _ _ => rfl)) pe_int) (fun _ _ => rfl)))))))), ?_⟩
    by_cases h3 : (∃ ps fe, cd = .md ps fe) ∨ (∃ ps, cd = .wd ps) ∨ ∃ ps, cd = .mo ps
    · obtain ⟨κ, fe, ps, pl, hk, ht, ⟨as, hl, hps⟩, okp, ec⟩ : ∃ (κ : Int) (fe : Bool) (ps : List Part) (pl : Addr), (κ = 0 ∨ ((κ = 1 ∨ κ = 2) ∧ fe = false)) ∧ H t = some (.tup [.int κ, .ref pl, .bl fe]) ∧ LPs H l cl pl ps ∧ okPs ps ∧ cd = if κ = 0 then .md ps fe else if κ = 1 then .wd ps else .mo ps := by
        rcases h3 with ⟨ps, fe, rfl⟩ | ⟨ps, rfl⟩ | ⟨ps, rfl⟩
        · obtain ⟨pl, x, y⟩ := hcd
          exact ⟨0, fe, ps, pl, Or.inl rfl, x, y, ok, rfl⟩
        · obtain ⟨pl, x, y⟩ := hcd
          exact ⟨1, false, ps, pl, Or.inr ⟨Or.inl rfl, rfl⟩, x, y, ok, rfl⟩
        · obtain ⟨pl, x, y⟩ := hcd
          exact ⟨2, false, ps, pl, Or.inr ⟨Or.inr rfl, rfl⟩, x, y, ok, rfl⟩
      clear hcd ok h3
      have k3 : κ < 3 := by omega
      refine st_guard (q := κ < 3) (a_cmp (f := fun i j => decide (i < j)) (v_ixT (val_var (i := 0) rfl) val_c (SqT.of ht) (show atI _ 0 = some (V.int κ) from rfl)) val_c) (by simp) (fun _ => ?_) fun z => (z k3).elim
      refine st_letX ?_
      refine ⟨_, rfl, t, _, _, .ref pl, rfl, rfl, SqT.of ht, rfl, fun x dx hx hdx nx => ?_⟩
      have sx := newS (C := a.c_Choice) hx hdx nx
      refine ⟨x, dx, pl, as, ps, rfl, upd_same, Or.inl (sx.seq (SqL.of hl.1)), hps.same sx, fun z => by have := okp.1; omega, fun _ i q e z => (z (okp.2 q (List.mem_of_getElem? e))).elim, fun _ _ H1 hch bx => ⟨rfl, ?_⟩⟩
      have s1 := Same.made hx hdx bx
      clear sx bx hx hdx nx hl hps
      refine st_letX ?_
      refine ⟨_, rfl, fun x1 dx1 hx1 hdx1 nx1 => ?_⟩
      have sx1 := newS (C := a.c_MonthDays) hx1 hdx1 nx1
      refine ⟨x1, dx1, x, ps, false, rfl, upd_same, hch.same sx1, fun H2 c1 bx1 => ⟨rfl, ?_⟩⟩
      have t1 := Same.made hx1 hdx1 bx1
      refine ⟨_, rfl, fun x2 dx2 hx2 hdx2 nx2 => ?_⟩
      have sx2 := newS (C := a.c_Weekdays) hx2 hdx2 nx2
      refine ⟨x2, dx2, x, ps, rfl, upd_same, (hch.same t1).same sx2, fun H3 c2 bx2 => ⟨rfl, ?_⟩⟩
      have t2 := Same.made hx2 hdx2 bx2
      refine ⟨_, rfl, fun x3 dx3 hx3 hdx3 nx3 => ?_⟩
      have sx3 := newS (C := a.c_Months) hx3 hdx3 nx3
      refine ⟨x3, dx3, x, ps, rfl, upd_same, ((hch.same t1).same t2).same sx3, fun H4 c3 bx3 => ⟨rfl, ?_⟩⟩
      have t3 := Same.made hx3 hdx3 bx3
      refine ⟨_, rfl, rfl, rfl, fun x4 dx4 hx4 hdx4 nx4 => ?_⟩
      have sx4 := newS (C := a.c_MonthDays) hx4 hdx4 nx4
      refine ⟨x4, dx4, x, ps, true, rfl, upd_same, (((hch.same t1).same t2).same t3).same sx4, fun H5 c4 bx4 => ⟨rfl, ?_⟩⟩
      have t4 := Same.made hx4 hdx4 bx4
      refine ⟨by show 4 ≤ sizeLine; decide, fun b hb => ?_⟩
      have t5 := Same.new (o := .lst [.ref x1, .ref x2, .ref x3, .ref x4]) hb
      have all := s1.trans (t1.trans (t2.trans (t3.trans (t4.trans t5))))
      have ht5 := all _ _ ht
      refine ⟨_, rfl, _, rfl, t, _, _, .int κ, rfl, rfl, SqT.of ht5, rfl, _, rfl, t, _, _, .bl fe, rfl, rfl, SqT.of ht5, rfl, Or.inr ⟨_, rfl, _, _, rfl, rfl, Or.inl ⟨by decide, by decide⟩, _, _, rfl, rfl, ?_⟩⟩
      have d1 := c1.same (t2.trans (t3.trans (t4.trans t5)))
      have d2 := c2.same (t3.trans (t4.trans t5))
      have d3 := c3.same (t4.trans t5)
      have d4 := c4.same t5
      rcases hk with rfl | ⟨rfl | rfl, rfl⟩
      · subst ec
        cases fe with
        | true => exact ⟨b, _, _, .ref x4, rfl, rfl, SqL.of upd_same, rfl, k x4 _ d4 all⟩
        | false => exact ⟨b, _, _, .ref x1, rfl, rfl, SqL.of upd_same, rfl, k x1 _ d1 all⟩
      · subst ec
        exact ⟨b, _, _, .ref x2, rfl, rfl, SqL.of upd_same, rfl, k x2 _ d2 all⟩
      · subst ec
        exact ⟨b, _, _, .ref x3, rfl, rfl, SqL.of upd_same, rfl, k x3 _ d3 all⟩
    · have ix : ∀ {v : Int} {rest : List V} {σ : St}, H t = some (.tup (.int v :: rest)) → σ[0]? = some (some (.ref t)) → Val (tOp (rIxT K) (tVar 0) (tC (.int 0))) σ H (.int v) := fun h e => v_ixT (val_var e) val_c (SqT.of h) (at_of (j := 0) rfl rfl)
      cases cd with
      | md ps fe => exact absurd (Or.inl ⟨_, _, rfl⟩) h3
      | wd ps => exact absurd (Or.inr (Or.inl ⟨_, rfl⟩)) h3
      | mo ps => exact absurd (Or.inr (Or.inr ⟨_, rfl⟩)) h3
      | nth u v fe =>
        have ht : H t = some (.tup [.int 3, .int u, .int v, .bl fe]) := hcd
        refine st_guard (q := False) (a_cmp (f := fun i j => decide (i < j)) (ix ht rfl) val_c) (by simp) (fun z => z.elim) fun _ => ?_
        refine st_guard (q := True) (a_eq (ix ht rfl) val_c) (by simp) (fun _ => ?_) fun z => (z trivial).elim
        refine ⟨_, rfl, t, _, _, .int u, rfl, rfl, SqT.of ht, rfl, _, rfl, t, _, _, .int v, rfl, rfl, SqT.of ht, rfl, _, rfl, t, _, _, .bl fe, rfl, rfl, SqT.of ht, rfl, rfl, rfl, fun x dx hx hdx nx => ?_⟩
        refine ⟨x, dx, u, v, fe, rfl, upd_same, fun z => (z ok.1).elim, fun _ z => (z ok.2).elim, fun _ _ H1 c1 bx => ⟨rfl, k x H1 c1 (Same.made hx hdx bx)⟩⟩
      | ev u f =>
        have ht : H t = some (.tup [.int 4, .int u, .int f]) := hcd
        refine st_guard (q := False) (a_cmp (f := fun i j => decide (i < j)) (ix ht rfl) val_c) (by simp) (fun z => z.elim) fun _ => ?_
        refine st_guard (q := False) (a_eq (ix ht rfl) val_c) (by simp) (fun z => z.elim) fun _ => ?_
        refine st_guard (q := True) (a_eq (ix ht rfl) val_c) (by simp) (fun _ => ?_) fun z => (z trivial).elim
        refine ⟨_, rfl, t, _, _, .int u, rfl, rfl, SqT.of ht, rfl, _, rfl, t, _, _, .int f, rfl, rfl, SqT.of ht, rfl, fun x dx hx hdx nx => ?_⟩
        refine ⟨x, dx, u, f, rfl, upd_same, fun z => (z ok.1).elim, fun _ z => (z ok.2).elim, fun _ _ H1 c1 bx => ⟨rfl, k x H1 c1 (Same.made hx hdx bx)⟩⟩
      | fr d =>
        have ht : H t = some (.tup [.int 5, .int d]) := hcd
        refine st_guard (q := False) (a_cmp (f := fun i j => decide (i < j)) (ix ht rfl) val_c) (by simp) (fun z => z.elim) fun _ => ?_
        refine st_guard (q := False) (a_eq (ix ht rfl) val_c) (by simp) (fun z => z.elim) fun _ => ?_
        refine st_guard (q := False) (a_eq (ix ht rfl) val_c) (by simp) (fun z => z.elim) fun _ => ?_
        refine st_guard (q := False) (a_eq (ix ht rfl) val_c) (by simp) (fun z => z.elim) fun _ => ?_
        refine ⟨_, rfl, t, _, _, .int d, rfl, rfl, SqT.of ht, rfl, fun x dx hx hdx nx => ?_⟩
        refine ⟨x, dx, d, rfl, upd_same, fun z => (z ok).elim, fun _ H1 c1 bx => ⟨rfl, ?_⟩⟩
        have t1 := Same.made hx hdx bx
        have ht1 := t1 _ _ ht
        refine ⟨_, rfl, t, _, _, .int d, rfl, rfl, SqT.of ht1, rfl, fun x2 dx2 hx2 hdx2 nx2 => ?_⟩
        refine ⟨x2, dx2, d, rfl, upd_same, fun z => (z ok).elim, fun _ H2 c2 bx2 => ⟨rfl, ?_⟩⟩
        have t2 := Same.made hx2 hdx2 bx2
        refine ⟨by show 2 ≤ sizeLine; decide, fun b hb => ?_⟩
        have t3 := Same.new (o := .lst [.ref x, .ref x2]) hb
        refine ⟨_, rfl, t, _, _, .int 5, rfl, rfl, SqT.of ((t2.trans t3) _ _ ht1), rfl, _, _, rfl, rfl, ?_⟩
        exact ⟨b, _, _, .ref x, rfl, rfl, SqL.of upd_same, rfl, k x _ (c1.same (t2.trans t3)) (t1.trans (t2.trans t3))⟩
      | un d =>
        have ht : H t = some (.tup [.int 6, .int d]) := hcd
        refine st_guard (q := False) (a_cmp (f := fun i j => decide (i < j)) (ix ht rfl) val_c) (by simp) (fun z => z.elim) fun _ => ?_
        refine st_guard (q := False) (a_eq (ix ht rfl) val_c) (by simp) (fun z => z.elim) fun _ => ?_
        refine st_guard (q := False) (a_eq (ix ht rfl) val_c) (by simp) (fun z => z.elim) fun _ => ?_
        refine st_guard (q := False) (a_eq (ix ht rfl) val_c) (by simp) (fun z => z.elim) fun _ => ?_
        refine ⟨_, rfl, t, _, _, .int d, rfl, rfl, SqT.of ht, rfl, fun x dx hx hdx nx => ?_⟩
        refine ⟨x, dx, d, rfl, upd_same, fun z => (z ok).elim, fun _ H1 c1 bx => ⟨rfl, ?_⟩⟩
        have t1 := Same.made hx hdx bx
        have ht1 := t1 _ _ ht
        refine ⟨_, rfl, t, _, _, .int d, rfl, rfl, SqT.of ht1, rfl, fun x2 dx2 hx2 hdx2 nx2 => ?_⟩
        refine ⟨x2, dx2, d, rfl, upd_same, fun z => (z ok).elim, fun _ H2 c2 bx2 => ⟨rfl, ?_⟩⟩
        have t2 := Same.made hx2 hdx2 bx2
        refine ⟨by show 2 ≤ sizeLine; decide, fun b hb => ?_⟩
        have t3 := Same.new (o := .lst [.ref x, .ref x2]) hb
        refine ⟨_, rfl, t, _, _, .int 6, rfl, rfl, SqT.of ((t2.trans t3) _ _ ht1), rfl, _, _, rfl, rfl, ?_⟩
        exact ⟨b, _, _, .ref x2, rfl, rfl, SqL.of upd_same, rfl, k x2 _ (c2.same t3) (t1.trans (t2.trans t3))⟩
      | no ds =>
        obtain ⟨dl, ht, hdl⟩ := hcd
        refine st_guard (q := False) (a_cmp (f := fun i j => decide (i < j)) (ix ht rfl) val_c) (by simp) (fun z => z.elim) fun _ => ?_
        refine st_guard (q := False) (a_eq (ix ht rfl) val_c) (by simp) (fun z => z.elim) fun _ => ?_
        refine st_guard (q := False) (a_eq (ix ht rfl) val_c) (by simp) (fun z => z.elim) fun _ => ?_
        refine st_guard (q := True) (a_eq (ix ht rfl) val_c) (by simp) (fun _ => ?_) fun z => (z trivial).elim
        refine ⟨_, rfl, t, _, _, .ref dl, rfl, rfl, SqT.of ht, rfl, fun x dx hx hdx nx => ?_⟩
        have sx := newS (C := a.c_NotOn) hx hdx nx
        refine ⟨x, dx, dl, ds, rfl, upd_same, Or.inl (sx.seq (SqL.of hdl.1)), fun z => (ok.1 z).elim, fun i z => (ok.2 i z).elim, fun _ _ H1 c1 bx => ⟨rfl, k x H1 c1 (Same.made hx hdx bx)⟩⟩
end
end My

namespace My
open PySem L2
/-! ### 17. dates come round -/
theorem date_ex {c : Cal} (ok : OkCal c) : ∀ n : Nat, ∃ y m d j, IsDate c n y m d j
  | 0 => ⟨0, 1, 1, 0, IsDate.zero ok⟩
  | n + 1 => by
    obtain ⟨y, m, d, j, I⟩ := date_ex ok n
    obtain ⟨n1, n2, n3⟩ := I.next ok
    have e : ((n + 1 : Nat) : Int) = (n : Int) + 1 := by omega
    rw [e]
    by_cases c1 : d = dim c y j
    · have jl := I.jl
      rcases Nat.lt_or_eq_of_le (Nat.succ_le_of_lt jl) with h | h
      · exact ⟨_, _, _, _, n2 c1 h⟩
      · exact ⟨_, _, _, _, n3 c1 h⟩
    · exact ⟨_, _, _, _, n1 c1⟩
theorem isL_per {c : Cal} (ok : OkCal c) (q y : Int) : isL c.leaps (q * c.round + y) = isL c.leaps y := by
  have e : cnt c.leaps (q * c.round + y) = cnt c.leaps y := by
    unfold cnt
    congr 1
    refine List.filter_congr fun d hd => ?_
    obtain ⟨m, hm⟩ := Int.dvd_of_emod_eq_zero (ok.round1.2.2 d hd).2
    have : (q * c.round + y) % d = y % d := by
      rw [hm, show q * (d * m) + y = y + d * (q * m) from by rw [← Int.mul_assoc, Int.mul_comm q d, Int.mul_assoc, Int.add_comm], Int.add_mul_emod_self_left]
    rw [this]
  unfold isL
  rw [e]
theorem dim_per {c : Cal} (ok : OkCal c) (q y : Int) (j : Nat) : dim c (q * c.round + y) j = dim c y j := by
  unfold dim
  rw [isL_per ok]
theorem pre_per {c : Cal} (ok : OkCal c) (q y : Int) : ∀ j : Nat, pre c (q * c.round + y) j = pre c y j
  | 0 => rfl
  | j + 1 => by
    show pre c (q * c.round + y) j + dim c (q * c.round + y) j = pre c y j + dim c y j
    rw [pre_per ok q y j, dim_per ok]
theorem IsDate.shift {c : Cal} (ok : OkCal c) {i y m d q : Int} {j : Nat} (hq : 0 ≤ q) (I : IsDate c i y m d j) : IsDate c (q * c.bef c.round + i) (q * c.round + y) m d j := by
  obtain ⟨y0, lo, hi, em, jl, mlo, mhi, ed⟩ := I
  have r0 := ok.round1.1
  have p0 := ok.bef_per q y
  have p1 := ok.bef_per q (y + 1)
  rw [← Int.add_assoc] at p1
  refine ⟨Int.add_nonneg (Int.mul_nonneg hq (by omega)) y0, by omega, by omega, em, jl, ?_, ?_, ?_⟩
  · rw [pre_per ok, p0]; omega
  · rw [pre_per ok, p0]; omega
  · rw [pre_per ok, p0]; omega
theorem rows_at {H : Hp} {c : Cal} (ok : OkCal c) {as : List V} {n : Int} (hn : 0 ≤ n) (h : Rows H c as (c.bef c.round)) : ∃ (i : Nat) (u : Addr) (y m d : Int) (j : Nat), n % (as.length : Int) = (i : Int) ∧ as[i]? = some (V.ref u) ∧ H u = some (.tup [.int m, .int d, .int (dim c y j)]) ∧ IsDate c n y m d j ∧ (as.length : Int) ≠ 0 := by
  have r0 := ok.round1.1
  have D1 : 0 < c.bef c.round := by have := ok.bef_lt (y := 0) (z := c.round) (by omega); rw [ok.bef_zero] at this; exact this
  have m0 := Int.emod_nonneg n (show c.bef c.round ≠ 0 by omega)
  have m1 := Int.emod_lt_of_pos n D1
  have hl := h.1
  have ei : ((n % c.bef c.round).toNat : Int) = n % c.bef c.round := by omega
  obtain ⟨y, m, d, j, I⟩ := date_ex ok (n % c.bef c.round).toNat
  rw [ei] at I
  obtain ⟨u, e, g⟩ := h.2 (n % c.bef c.round).toNat y m d j (by omega) (by rw [ei]; exact I)
  have I2 := I.shift ok (q := n / c.bef c.round) (Int.ediv_nonneg hn (by omega))
  have en : n / c.bef c.round * c.bef c.round + n % c.bef c.round = n := by
    rw [Int.mul_comm]
    exact Int.mul_ediv_add_emod n _
  rw [en] at I2
  exact ⟨_, u, _, m, d, j, by rw [hl, ei], e, by rw [dim_per ok]; exact g, I2, by omega⟩
def spOn : Sp := fun vs H Q _ => ∃ (ct wt l cl : Addr) (cd : Cd) (c : Cal) (n : Int), vs = [.ref ct, .ref wt, .int n] ∧ LCd H l cl ct cd ∧ okCd cd ∧ W11 H l cl wt c ∧ OkCal c ∧ okF n ∧ ∀ H', Same H H' → Q (.bl (cdOn c n cd)) H'
section
variable {P : Program} {w : World} {K : PySem.W.Frag} {mg : Str → Option Value} {base : Heap} {a : Ad}
theorem G__law_on (T : Tx K mg a) : FnOk P w K mg base CX0 2 a.f__law_on a.d__law_on ["c", "w", "n"] spOn := by
  refine T.F__law_on.ok sc__law_on (fun vs H Q E h => ?_) (fun cdv A outer s H vs Q E hr h => ?_)
  · obtain ⟨ct, wt, l, cl, cd, c, n, rfl, _⟩ := h
    rfl
  · obtain ⟨ct, wt, l, cl, cd, c, n, rfl, hcd, okc, ⟨rl, as, hw, hrl, hrows⟩, ok, hn, k⟩ := h
    refine ⟨_, (pss_cons (ps_asg (pe_ix ix_list (pe_ix ix_tup (pv 1) pe_int (fun _ _ => rfl)) (pe_op op_mod (pe_callTy call_int1 (by rfl) T.n_int (by decide +kernel) (pa_cons (pv 2) pa_nil)) (pe_callB call_len_seq (by rfl) T.n_len (by decide +kernel) (pa_cons (pe_ix ix_tup (pv 1) pe_int (fun _ _ => rfl)) pa_nil))) (fun _ _ => rfl)) (pg_tup rfl (pgs_cons (pg_name (i := 3) sc__law_on.nd rfl (Or.inl rfl)) (pgs_cons (pg_name (i := 4) sc__law_on.nd rfl (Or.inl rfl)) (pgs_cons (pg_name (i := 5) sc__law_on.nd rfl (Or.inl rfl)) pgs_nil)))))
      (pss_cons (ps_set (i := 6) sc__law_on.nd rfl (Or.inl rfl) (pe_op op_mod (pe_callTy call_int1 (by rfl) T.n_int (by decide +kernel) (pa_cons (pe_op op_add (pe_ix ix_tup (pv 1) pe_int (fun _ _ => rfl)) (pv 2)) pa_nil)) (pe_ix ix_tup (pv 1) pe_int (fun _ _ => rfl))))
      (pss_cons (ps_if (pt_cmpR op_lt (pe_ix ix_tup (pv 0) pe_int (fun _ _ => rfl)) pe_int (nomark _)) (pss_cons (ps_set (i := 7) sc__law_on.nd rfl (Or.inl rfl) (pe_lst (pa_cons (pv 4) (pa_cons (pv 6) (pa_cons (pv 3) (pa_cons (pe_op op_sub (pe_op op_add (pv 5) pe_int) (pv 4)) pa_nil))))))
      (pss_one (ps_ret (pe_call (G__law_chosen T) (hr.mono (by decide)) rfl T.g__law_chosen T.F__law_chosen.kp T.b__law_chosen .nil pass0 (pa_cons (pe_ix ix_tup (pv 0) pe_int (fun _ _ => rfl)) (pa_cons (pe_ix ix_list (pv 7) (pe_op op_add (pe_ix ix_tup (pv 0) pe_int (fun _ _ => rfl)) (pe_op op_mul pe_int (pe_callTy call_int1 (by rfl) T.n_int (by decide +kernel) (pa_cons (pe_ix ix_tup (pv 0) pe_int (fun _ _ => rfl)) pa_nil)))) (fun _ _ => rfl)) pa_nil)))))) pss_nil)
      (pss_cons (ps_if (pt_cmpR op_eq (pe_ix ix_tup (pv 0) pe_int (fun _ _ => rfl)) pe_int (nomark _)) (pss_cons (ps_set (i := 8) sc__law_on.nd rfl (Or.inl rfl) (pe_ix ix_list (pe_lst (pa_cons (pe_op op_sub (pv 4) pe_int) (pa_cons (pe_op op_sub (pv 5) (pv 4)) pa_nil))) (pe_callTy call_int1 (by rfl) T.n_int (by decide +kernel) (pa_cons (pe_ix ix_tup (pv 0) pe_int (fun _ _ => rfl)) pa_nil)) (fun _ _ => rfl)))
      (pss_one (ps_ret (pe_and (pe_cmpR op_eq (pv 6) (pe_ix ix_tup (pv 0) pe_int (fun _ _ => rfl)) (nomark _)) (pe_one (pe_cmpR op_eq (pe_op op_fdivW (pv 8) (pe_ix ix_tup (pv 1) pe_int (fun _ _ => rfl))) (pe_op op_sub (pe_ix ix_tup (pv 0) pe_int (fun _ _ => rfl)) pe_int) (nomark _))))))) pss_nil)
      (pss_cons (ps_if (pt_cmpR op_eq (pe_ix ix_tup (pv 0) pe_int (fun _ _ => rfl)) pe_int (nomark _)) (pss_one (ps_ret (pe_and (pe_cmpR op_ge (pv 2) (pe_ix ix_tup (pv 0) pe_int (fun _ _ => rfl)) (nomark _)) (pe_one (pe_cmpR op_eq (pe_op op_mod (pe_callTy call_int1 (by rfl) T.n_int (by decide +kernel) (pa_cons (pe_op op_sub (pv 2) (pe_ix ix_tup (pv 0) pe_int (fun _ _ => rfl))) pa_nil)) (pe_ix ix_tup (pv 0) pe_int (fun _ _ => rfl))) pe_int (nomark _)))))) pss_nil)
      (pss_cons (ps_if (pt_cmpR op_eq (pe_ix ix_tup (pv 0) pe_int (fun _ _ => rfl)) pe_int (nomark _)) (pss_one (ps_ret (pe_cmpR op_notIn_seq (pv 2) (pe_ix ix_tup (pv 0) pe_int (fun _ _ => rfl)) (by rfl)))) pss_nil)
      (pss_one (ps_ret (pe_ix ix_list (pe_lst (pa_cons (pe_cmpR op_ge (pv 2) (pe_ix ix_tup (pv 0) pe_int (fun _ _ => rfl)) (nomark _)) (pa_cons (pe_cmpR op_le (pv 2) (pe_ix ix_tup (pv 0) pe_int (fun _ _ => rfl)) (nomark _)) pa_nil))) (pe_op op_sub (pe_ix ix_tup (pv 0) pe_int (fun _ _ => rfl)) pe_int) (fun _ _ => rfl)))))))))), ?_⟩
    obtain ⟨i, u, y, m, d, j, e1, e2, e3, I, nz⟩ := rows_at ok hn.1 hrows
    have ed := dateOf_eq ok I
    have dd := I.day
    have d1 := ok.dim1 y I.jl
    have mm := I.m
    have jl := I.jl
    have mz := ok.months.1
    have w0 := ok.week
    have lw : ∀ {σ : St} {i : Int} {v : V}, σ[1]? = some (some (.ref wt)) → atI [.ref rl, .int c.week, .int c.first, .int c.day] i = some v → Val (tOp (rIxT K) (tVar 1) (tC (.int i))) σ H v := fun e h => v_ixT (val_var e) val_c (SqT.of hw) h
    refine st_seq ?_
    refine (v_ixL (v := .ref u) (lw rfl rfl) (v_rI (g := fun i j => .int (i % j)) (v_cb (val_var (i := 2) rfl) fun Q q => Or.inl ⟨_, rfl, q⟩) (v_cb (v := .int (as.length : Nat)) (lw rfl rfl) fun Q q => ⟨rl, as, rfl, Or.inl (SqL.of hrl.1), q⟩) (by omega)) (SqL.of hrl.1) (at_of (j := i) e1 e2)) _ ?_
    refine ⟨u, _, rfl, SqT.of e3, rfl, _, _, rfl, _, _, rfl, _, _, rfl, rfl, ?_⟩
    dsimp only
    have wm0 := Int.emod_nonneg (c.first + n) (show c.week ≠ 0 by omega)
    have wm1 := Int.emod_lt_of_pos (c.first + n) (show 0 < c.week by omega)
    refine st_let (v := .int ((c.first + n) % c.week)) (v_rI (g := fun i j => .int (i % j)) (v_cb (v_rI0 (g := fun i j => .int (i + j)) (lw rfl rfl) (val_var (i := 2) (v := .int n) rfl)) fun Q q => Or.inl ⟨_, rfl, q⟩) (lw rfl rfl) (by show 0 < c.week; omega)) ?_
    have ix0 : ∀ {v : Int} {rest : List V} {σ : St}, H ct = some (.tup (.int v :: rest)) → σ[0]? = some (some (.ref ct)) → Val (tOp (rIxT K) (tVar 0) (tC (.int 0))) σ H (.int v) := fun h e => v_ixT (val_var e) val_c (SqT.of h) (at_of (j := 0) rfl rfl)
    show tSeq _ _ _ [some (.ref ct), some (.ref wt), some (.int n), some (.int m), some (.int d), some (.int (dim c y j)), some (.int ((c.first + n) % c.week)), none, none] H
    by_cases h3 : (∃ ps fe, cd = .md ps fe) ∨ (∃ ps, cd = .wd ps) ∨ ∃ ps, cd = .mo ps
    · obtain ⟨κ, fe, ps, pl, hk, ht, ⟨as', hl, hps⟩, okp, ec⟩ : ∃ (κ : Int) (fe : Bool) (ps : List Part) (pl : Addr), (κ = 0 ∨ ((κ = 1 ∨ κ = 2) ∧ fe = false)) ∧ H ct = some (.tup [.int κ, .ref pl, .bl fe]) ∧ LPs H l cl pl ps ∧ okPs ps ∧ cd = if κ = 0 then .md ps fe else if κ = 1 then .wd ps else .mo ps := by
        rcases h3 with ⟨ps, fe, rfl⟩ | ⟨ps, rfl⟩ | ⟨ps, rfl⟩
        · obtain ⟨pl, x, y⟩ := hcd
          exact ⟨0, fe, ps, pl, Or.inl rfl, x, y, okc, rfl⟩
        · obtain ⟨pl, x, y⟩ := hcd
          exact ⟨1, false, ps, pl, Or.inr ⟨Or.inl rfl, rfl⟩, x, y, okc, rfl⟩
        · obtain ⟨pl, x, y⟩ := hcd
          exact ⟨2, false, ps, pl, Or.inr ⟨Or.inr rfl, rfl⟩, x, y, okc, rfl⟩
      have k3 : κ < 3 := by omega
      refine st_guard (q := κ < 3) (a_cmp (f := fun i j => decide (i < j)) (ix0 ht rfl) val_c) (by simp) (fun _ => ?_) fun z => (z k3).elim
      refine st_letX ?_
      refine ⟨_, rfl, _, rfl, _, rfl, _, rfl, _, _, rfl, rfl, _, rfl, _, _, rfl, rfl, by show 4 ≤ sizeLine; decide, fun b hb => ?_⟩
      have sb := Same.new (o := .lst [.int d, .int ((c.first + n) % c.week), .int m, .int (dim c y j + 1 - d)]) hb
      have ht1 := sb _ _ ht
      have hl1 := sb _ _ hl.1
      have hps1 := hps.same sb
      refine ⟨_, rfl, ct, _, _, .ref pl, rfl, rfl, SqT.of ht1, rfl, _, rfl, _, rfl, ct, _, _, .int κ, rfl, rfl, SqT.of ht1, rfl, _, rfl, ct, _, _, .bl fe, rfl, rfl, SqT.of ht1, rfl, Or.inr ⟨_, rfl, _, _, rfl, rfl, Or.inl ⟨by decide, by decide⟩, _, _, rfl, rfl, ?_⟩⟩
      have fin : ∀ x : Int, chosen ps x = cdOn c n cd → spChosen K ([.ref pl, .int x] ++ []) (upd H b (.lst [.int d, .int ((c.first + n) % c.week), .int m, .int (dim c y j + 1 - d)])) Q E0 := fun x e => ⟨pl, as', ps, x, rfl, SqL.of hl1, hps1, okp.2, by rw [e]; exact k _ sb⟩
      rcases hk with rfl | ⟨rfl | rfl, rfl⟩
      · subst ec
        cases fe with
        | true => exact ⟨b, _, _, .int (dim c y j + 1 - d), rfl, rfl, SqL.of upd_same, rfl, fin _ (by simp only [cdOn, ed, if_true]; congr 1; omega)⟩
        | false => exact ⟨b, _, _, .int d, rfl, rfl, SqL.of upd_same, rfl, fin _ (by simp [cdOn, ed])⟩
      · subst ec
        exact ⟨b, _, _, .int ((c.first + n) % c.week), rfl, rfl, SqL.of upd_same, rfl, fin _ rfl⟩
      · subst ec
        exact ⟨b, _, _, .int m, rfl, rfl, SqL.of upd_same, rfl, fin _ (by simp [cdOn, ed])⟩
    · cases cd with
      | md ps fe => exact absurd (Or.inl ⟨_, _, rfl⟩) h3
      | wd ps => exact absurd (Or.inr (Or.inl ⟨_, rfl⟩)) h3
      | mo ps => exact absurd (Or.inr (Or.inr ⟨_, rfl⟩)) h3
      | nth u' v fe =>
        have ht : H ct = some (.tup [.int 3, .int u', .int v, .bl fe]) := hcd
        refine st_guard (q := False) (a_cmp (f := fun i j => decide (i < j)) (ix0 ht rfl) val_c) (by simp) (fun z => z.elim) fun _ => ?_
        refine st_guard (q := True) (a_eq (ix0 ht rfl) val_c) (by simp) (fun _ => ?_) fun z => (z trivial).elim
        refine st_letX ?_
        refine ⟨_, rfl, _, _, rfl, rfl, _, rfl, _, rfl, _, _, rfl, rfl, by show 2 ≤ sizeLine; decide, fun b hb => ?_⟩
        have sb := Same.new (o := .lst [.int (d - 1), .int (dim c y j - d)]) hb
        have ht1 := sb _ _ ht
        refine ⟨_, rfl, ct, _, _, .bl fe, rfl, rfl, SqT.of ht1, rfl, Or.inr ⟨_, rfl, ?_⟩⟩
        refine ⟨b, _, _, .int (if fe = true then dim c y j - d else d - 1), rfl, rfl, SqL.of upd_same, by cases fe <;> rfl, ?_⟩
        have hw1 := sb _ _ hw
        have ob : 0 ≤ (if fe = true then dim c y j - d else d - 1) ∧ (if fe = true then dim c y j - d else d - 1) ≤ 100 := by
          cases fe with
          | true => rw [if_pos rfl]; omega
          | false => rw [if_neg (by decide)]; omega
        have e : cdOn c n (.nth u' v fe) = (decide ((c.first + n) % c.week = v) && decide ((if fe = true then dim c y j - d else d - 1) / c.week = u' - 1)) := by
          simp only [cdOn, ed]
        rw [e] at k
        generalize (if fe = true then dim c y j - d else d - 1) = o at ob k
        have k := k _ sb
        refine st_ret (v_cmp_and (v_eq (val_var (i := 6) rfl) (v_ixT (val_var (i := 0) rfl) val_c (SqT.of ht1) (show atI _ 2 = some (V.int v) from rfl))) (v_eq (v_rI (g := fun i j => .int (i / j)) (val_var (i := 8) (v := .int o) rfl) (v_ixT (val_var (i := 1) rfl) val_c (SqT.of hw1) (show atI _ 1 = some (V.int c.week) from rfl)) (wide_div (b := 40) (by omega) (by omega) (by decide) (by decide))) (v_rI0 (g := fun i j => .int (i - j)) (v_ixT (val_var (i := 0) rfl) val_c (SqT.of ht1) (show atI _ 1 = some (V.int u') from rfl)) val_c))) k
      | ev u' f =>
        have ht : H ct = some (.tup [.int 4, .int u', .int f]) := hcd
        refine st_guard (q := False) (a_cmp (f := fun i j => decide (i < j)) (ix0 ht rfl) val_c) (by simp) (fun z => z.elim) fun _ => ?_
        refine st_guard (q := False) (a_eq (ix0 ht rfl) val_c) (by simp) (fun z => z.elim) fun _ => ?_
        refine st_guard (q := True) (a_eq (ix0 ht rfl) val_c) (by simp) (fun _ => ?_) fun z => (z trivial).elim
        have k := k H (Same.refl H)
        exact st_ret (v_cmp_and (v_rI0 (g := fun i j => .bl (decide (j ≤ i))) (val_var (i := 2) rfl) (v_ixT (val_var (i := 0) rfl) val_c (SqT.of ht) (show atI _ 2 = some (V.int f) from rfl))) (v_eq (v_rI (g := fun i j => .int (i % j)) (v_cb (v_rI0 (g := fun i j => .int (i - j)) (val_var (i := 2) rfl) (v_ixT (val_var (i := 0) rfl) val_c (SqT.of ht) (show atI _ 2 = some (V.int f) from rfl))) fun Q q => Or.inl ⟨_, rfl, q⟩) (v_ixT (val_var (i := 0) rfl) val_c (SqT.of ht) (show atI _ 1 = some (V.int u') from rfl)) (by have := okc.1; show 0 < u'; omega)) val_c)) k
      | fr u' =>
        have ht : H ct = some (.tup [.int 5, .int u']) := hcd
        refine st_guard (q := False) (a_cmp (f := fun i j => decide (i < j)) (ix0 ht rfl) val_c) (by simp) (fun z => z.elim) fun _ => ?_
        refine st_guard (q := False) (a_eq (ix0 ht rfl) val_c) (by simp) (fun z => z.elim) fun _ => ?_
        refine st_guard (q := False) (a_eq (ix0 ht rfl) val_c) (by simp) (fun z => z.elim) fun _ => ?_
        refine st_guard (q := False) (a_eq (ix0 ht rfl) val_c) (by simp) (fun z => z.elim) fun _ => ?_
        refine ⟨_, rfl, _, rfl, ct, _, _, .int u', rfl, rfl, SqT.of ht, rfl, _, _, rfl, rfl, _, rfl, _, rfl, ct, _, _, .int u', rfl, rfl, SqT.of ht, rfl, _, _, rfl, rfl, by show 2 ≤ sizeLine; decide, fun b hb => ?_⟩
        have sb := Same.new (o := .lst [.bl (decide (n ≥ u')), .bl (decide (n ≤ u'))]) hb
        exact ⟨_, rfl, ct, _, _, .int 5, rfl, rfl, SqT.of (sb _ _ ht), rfl, _, _, rfl, rfl, b, _, _, .bl (decide (n ≥ u')), rfl, rfl, SqL.of upd_same, rfl, k _ sb⟩
      | un u' =>
        have ht : H ct = some (.tup [.int 6, .int u']) := hcd
        refine st_guard (q := False) (a_cmp (f := fun i j => decide (i < j)) (ix0 ht rfl) val_c) (by simp) (fun z => z.elim) fun _ => ?_
        refine st_guard (q := False) (a_eq (ix0 ht rfl) val_c) (by simp) (fun z => z.elim) fun _ => ?_
        refine st_guard (q := False) (a_eq (ix0 ht rfl) val_c) (by simp) (fun z => z.elim) fun _ => ?_
        refine st_guard (q := False) (a_eq (ix0 ht rfl) val_c) (by simp) (fun z => z.elim) fun _ => ?_
        refine ⟨_, rfl, _, rfl, ct, _, _, .int u', rfl, rfl, SqT.of ht, rfl, _, _, rfl, rfl, _, rfl, _, rfl, ct, _, _, .int u', rfl, rfl, SqT.of ht, rfl, _, _, rfl, rfl, by show 2 ≤ sizeLine; decide, fun b hb => ?_⟩
        have sb := Same.new (o := .lst [.bl (decide (n ≥ u')), .bl (decide (n ≤ u'))]) hb
        exact ⟨_, rfl, ct, _, _, .int 6, rfl, rfl, SqT.of (sb _ _ ht), rfl, _, _, rfl, rfl, b, _, _, .bl (decide (n ≤ u')), rfl, rfl, SqL.of upd_same, rfl, k _ sb⟩
      | no ds =>
        obtain ⟨dl, ht, hdl⟩ := hcd
        refine st_guard (q := False) (a_cmp (f := fun i j => decide (i < j)) (ix0 ht rfl) val_c) (by simp) (fun z => z.elim) fun _ => ?_
        refine st_guard (q := False) (a_eq (ix0 ht rfl) val_c) (by simp) (fun z => z.elim) fun _ => ?_
        refine st_guard (q := False) (a_eq (ix0 ht rfl) val_c) (by simp) (fun z => z.elim) fun _ => ?_
        refine st_guard (q := True) (a_eq (ix0 ht rfl) val_c) (by simp) (fun _ => ?_) fun z => (z trivial).elim
        refine ⟨_, rfl, _, rfl, ct, _, _, .ref dl, rfl, rfl, SqT.of ht, rfl, dl, _, rfl, Or.inl (SqL.of hdl.1), rfl, (by simp [flatV]), ?_⟩
        have e : inV (.int n) (ds.map V.int) = decide (n ∈ ds) := in_ints
        rw [if_pos rfl, e]
        exact k H (Same.refl H)
/-- the law's own rules -/
def LCs (H : Hp) (l cl p : Addr) (cs : List Cd) : Prop := ∃ as, LL H l cl p as ∧ as.length = cs.length ∧ ∀ (i : Nat) (cd : Cd), cs[i]? = some cd → ∃ t : Addr, as[i]? = some (V.ref t) ∧ LCd H l cl t cd ∧ okCd cd
def LRl (H : Hp) (l cl t : Addr) (r : Rl) : Prop := ∃ pl ql, H t = some (.tup [.ref pl, .ref ql]) ∧ LPs H l cl pl r.ps ∧ okPs r.ps ∧ LCs H l cl ql r.cs ∧ r.cs.length ≤ 8
theorem LCs.same {H H' : Hp} {l cl p : Addr} {cs : List Cd} (h : LCs H l cl p cs) (s : Same H H') : LCs H' l cl p cs := let ⟨as, x, y, z⟩ := h; ⟨as, x.same s, y, fun i cd e => let ⟨t, w1, w2, w3⟩ := z i cd e; ⟨t, w1, w2.same s, w3⟩⟩
theorem LCs.fr {H H' : Hp} {l cl p : Addr} {cs : List Cd} {n : Nat} (h : LCs H l cl p cs) (f : Fr l cl H H') (hp : PoolAt H l cl n) : LCs H' l cl p cs := let ⟨as, x, y, z⟩ := h; ⟨as, x.fr f, y, fun i cd e => let ⟨t, w1, w2, w3⟩ := z i cd e; ⟨t, w1, w2.fr f hp, w3⟩⟩
theorem LRl.same {H H' : Hp} {l cl t : Addr} {r : Rl} (h : LRl H l cl t r) (s : Same H H') : LRl H' l cl t r := let ⟨pl, ql, x, y, z, u, v⟩ := h; ⟨pl, ql, s _ _ x, y.same s, z, u.same s, v⟩
theorem LRl.fr {H H' : Hp} {l cl t : Addr} {r : Rl} {n : Nat} (h : LRl H l cl t r) (f : Fr l cl H H') (hp : PoolAt H l cl n) : LRl H' l cl t r := let ⟨pl, ql, x, y, z, u, v⟩ := h; ⟨pl, ql, f.tup hp x, y.fr f hp, z, u.fr f hp, v⟩
def spLBar : Sp := fun vs H Q _ => ∃ (rt wt l cl : Addr) (r : Rl) (c : Cal) (n : Int), vs = [.ref rt, .ref wt, .int n] ∧ LRl H l cl rt r ∧ W11 H l cl wt c ∧ OkCal c ∧ okF n ∧ ∀ H', Same H H' → Q (barV (barOf c n r)) H'
theorem G__law_bar (T : Tx K mg a) : FnOk P w K mg base CX0 3 a.f__law_bar a.d__law_bar ["rule", "w", "minute"] spLBar := by
  refine T.F__law_bar.ok sc__law_bar (fun vs H Q E h => ?_) (fun cdv A outer s H vs Q E hr h => ?_)
  · obtain ⟨rt, wt, l, cl, r, c, n, rfl, _⟩ := h
    rfl
  · obtain ⟨rt, wt, l, cl, r, c, n, rfl, ⟨pl, ql, h1, ⟨as, h2, h3⟩, okp, hcs, h8⟩, hW, ok, hn, k⟩ := h
    refine ⟨_, (pss_cons (ps_if (pt_not (pt_val (pe_call (G__law_chosen T) (hr.mono (by decide)) rfl T.g__law_chosen T.F__law_chosen.kp T.b__law_chosen .nil pass0 (pa_cons (pe_ix ix_tup (pv 0) pe_int (fun _ _ => rfl)) (pa_cons (pe_op op_mod (pe_callTy call_int1 (by rfl) T.n_int (by decide +kernel) (pa_cons (pv 2) pa_nil)) (pe_ix ix_tup (pv 1) pe_int (fun _ _ => rfl))) pa_nil))))) (pss_one (ps_ret pe_int)) pss_nil)
      (pss_cons (ps_for PassesOwn.never rfl (pi_range1 rfl T.n_range (pa_cons (pe_callB call_len_seq (by rfl) T.n_len (by decide +kernel) (pa_cons (pe_ix ix_tup (pv 0) pe_int (fun _ _ => rfl)) pa_nil)) pa_nil)) (pg_name (i := 3) sc__law_bar.nd rfl (Or.inl rfl)) (pss_one (ps_if (pt_not (pt_val (pe_call (G__law_on T) (hr.mono (by decide)) rfl T.g__law_on T.F__law_on.kp T.b__law_on .nil pass0 (pa_cons (pe_ix ix_list (pe_ix ix_tup (pv 0) pe_int (fun _ _ => rfl)) (pv 3) (fun _ _ => rfl)) (pa_cons (pv 1) (pa_cons (pe_op op_fdivW (pv 2) (pe_ix ix_tup (pv 1) pe_int (fun _ _ => rfl))) pa_nil)))))) (pss_one (ps_ret (pe_op op_add pe_int (pv 3)))) pss_nil)))
      (pss_one (ps_ret pe_non)))), ?_⟩
    obtain ⟨rl, ds, hw, hrl, hrows⟩ := id hW
    have d0 := ok.day
    refine st_guardX ?_
    refine ⟨_, rfl, rt, _, _, .ref pl, rfl, rfl, SqT.of h1, rfl, _, rfl, Or.inl ⟨_, rfl, ?_⟩⟩
    refine ⟨_, rfl, wt, _, _, .int c.day, rfl, rfl, SqT.of hw, rfl, _, _, rfl, rfl, (show 0 < c.day by omega), pl, as, r.ps, _, rfl, SqL.of h2.1, h3, okp.2, _, rfl, ?_⟩
    cases e1 : chosen r.ps (n % c.day) with
    | false =>
      refine iteT ?_
      have e : barOf c n r = some 0 := by unfold barOf; rw [e1]; rfl
      rw [e] at k
      exact k H (Same.refl H)
    | true =>
      refine iteF ?_
      obtain ⟨cs, g1, g2, g3⟩ := id hcs
      have of2 : okF (n / c.day) := ⟨Int.ediv_nonneg hn.1 (by omega), Int.le_trans (Int.ediv_le_self _ hn.1) hn.2⟩
      refine st_seq (st_forR1 (n := r.cs.length) (v_cb (v := .int (r.cs.length : Nat)) (v_ixT (val_var (i := 0) rfl) val_c (SqT.of h1) (show atI _ 1 = some (V.ref ql) from rfl)) fun Q q => ⟨ql, cs, rfl, Or.inl (SqL.of g1.1), by rw [g2]; exact q⟩) rfl (by omega) (fun i σ' H' => ∃ v3, σ' = [some (.ref rt), some (.ref wt), some (.int n), v3] ∧ Same H H' ∧ ∀ j cd, j < i → r.cs[j]? = some cd → cdOn c (n / c.day) cd = true) ⟨none, rfl, Same.refl H, fun j cd z => absurd z (Nat.not_lt_zero _)⟩ ?_ ?_)
      · rintro i σ' H1 hi ⟨v3, rfl, s1, yes⟩
        obtain ⟨cd, hcd⟩ : ∃ cd, r.cs[i]? = some cd := ⟨_, List.getElem?_eq_getElem hi⟩
        obtain ⟨t, w1, w2, w3⟩ := g3 i cd hcd
        refine (show (_ : Prop) from ?_)
        refine ⟨_, rfl, rt, _, _, .ref ql, rfl, rfl, SqT.of (s1 _ _ h1), rfl, _, rfl, ql, _, _, .ref t, rfl, rfl, SqL.of (s1 _ _ g1.1), at_of (j := i) rfl w1, _, rfl, _, rfl, _, rfl, wt, _, _, .int c.day, rfl, rfl, SqT.of (s1 _ _ hw), rfl, _, _, rfl, rfl, wide_div (b := 40) (by omega) (by omega) (by decide) (by decide), t, wt, l, cl, cd, c, _, rfl, w2.same s1, w3, hW.same s1, ok, of2, fun H2 s2 => ⟨_, rfl, ?_⟩⟩
        cases e2 : cdOn c (n / c.day) cd with
        | false =>
          refine iteT ?_
          have e : barOf c n r = some (i + 1) := by
            unfold barOf
            rw [if_pos e1]
            have : r.cs.findIdx? (fun cd => !cdOn c (n / c.day) cd) = some i := by
              obtain ⟨hi, ei⟩ := List.getElem?_eq_some_iff.mp hcd
              refine List.findIdx?_eq_some_iff_getElem.mpr ⟨hi, by rw [ei, e2]; rfl, fun j hj => ?_⟩
              rw [yes j _ hj (List.getElem?_eq_getElem (by omega))]
              exact Bool.false_ne_true
            rw [this]
            rfl
          rw [e] at k
          refine ⟨_, rfl, _, _, rfl, rfl, ?_⟩
          have e' : barV (some (i + 1)) = V.int (1 + (i : Int)) := by
            show V.int _ = V.int _
            congr 1
            omega
          have k := k H2 (s1.trans s2)
          rw [e'] at k
          exact k
        | true =>
          refine iteF ?_
          refine ⟨_, rfl, s1.trans s2, fun j cd' hj e => ?_⟩
          rcases Nat.lt_or_eq_of_le (Nat.le_of_lt_succ hj) with h | rfl
          · exact yes j cd' h e
          · rw [hcd] at e
            cases e
            exact e2
      · rintro σ' H2 ⟨v3, rfl, s2, yes⟩
        have e : barOf c n r = none := by
          rw [barOf_none]
          unfold rlOn
          rw [e1, Bool.true_and, List.all_eq_true]
          intro cd hcd
          obtain ⟨j, hj, ej⟩ := List.mem_iff_getElem.mp hcd
          exact yes j cd hj (by rw [List.getElem?_eq_getElem hj, ej])
        rw [e] at k
        exact k H2 s2
end
end My

namespace L2
open PySem PySem.Spec PyProof.Rows
section
variable {K : PySem.W.Frag} {a : Addr} {xs : List V} {tt : TT} {te : TE} {vs : List Nat} {σ : St} {H1 : Hp} {Q : VK} {i0 : Nat}
/-- the items of a list one by one: their values are known -/
theorem comp_ixL {tl : TE} (ys : List V) (hl : ∀ R : V → Hp → Prop, R (.ref a) H1 → tl σ H1 R) (hp : SqL K H1 a xs) (ly : ys.length = xs.length) (hz : xs.length ≤ 1000000) (hw : ∀ x, wipe ((wipe σ vs).set i0 (some x)) vs = wipe σ vs)
    (he : ∀ (i : Nat) x y H (Q' : VK), xs[i]? = some x → ys[i]? = some y → Same H1 H → (∀ H2, Same H H2 → Q' y H2) → te ((wipe σ vs).set i0 (some x)) H Q')
    (hd : ∀ D H', H1 D = none → H' D = some (.lst ys) → Same H1 H' → Q (.ref D) H') : tLc (iList K tl) (gName i0) tYes te vs σ H1 Q := by
  refine hl _ ⟨a, rfl, ⟨_, hp⟩, fun D hD => ?_⟩
  refine lc_list (xs := xs) (fun i H' => H' D = some (.lst (ys.take i)) ∧ Same H1 H') ⟨upd_same, Same.new hD⟩ (fun i H' _ p => p.2.seq hp) ?_ ?_
  · rintro i x H' hx ⟨h1, s1⟩
    refine ⟨hw x, ?_⟩
    have hi := (List.getElem?_eq_some_iff.mp hx).1
    obtain ⟨y, hy⟩ : ∃ y, ys[i]? = some y := ⟨_, List.getElem?_eq_getElem (by omega)⟩
    show te _ H' _
    refine he i x y H' _ hx hy s1 fun H2 s2 => ⟨_, s2 _ _ h1, by rw [List.length_take]; exact Nat.lt_of_le_of_lt (Nat.le_trans (Nat.min_le_left _ _) (Nat.le_trans (Nat.le_of_lt hi) hz)) (by decide), ?_, ?_⟩
    · rw [upd_same, take_snoc hy]
    · intro b o e
      rw [upd_ne (ne_of_none e hD)]
      exact s2 _ _ (s1 _ _ e)
  · rintro H' ⟨h1, s1⟩
    rw [← ly, List.take_length] at h1
    exact hd D H' hD h1 s1
end
end L2
namespace My
open PySem L2
def idata (ks : List Int) : List PyData := ks.map .int
theorem ints_all {K : PySem.W.Frag} {H : Hp} : ∀ ks : List Int, DpAll K H (ks.map V.int) (idata ks)
  | [] => .nil
  | k :: r => .cons (.int k) (ints_all r)
theorem idata_eq : ∀ ks : List Int, PyData.eqvAll (idata ks) (idata ks) = true
  | [] => by rw [idata, List.map_nil, PyData.eqvAll]
  | k :: r => by
    have i := idata_eq r
    unfold idata at i ⊢
    rw [List.map_cons, PyData.eqvAll, PyData.eqv, i]
    simp
theorem idata_lay : ∀ ks : List Int, PyData.canLayAll0 (idata ks) = true
  | [] => by simp [idata, PyData.canLayAll0]
  | k :: r => by
    have i := idata_lay r
    unfold idata at i ⊢
    rw [List.map_cons, PyData.canLayAll0, PyData.canLay0, i]
    simp
theorem idata_depth : ∀ ks : List Int, PyData.depthAll (idata ks) ≤ 1
  | [] => by simp [idata, PyData.depthAll]
  | k :: r => by
    have i := idata_depth r
    unfold idata at i ⊢
    simp only [List.map_cons, PyData.depthAll, PyData.depth]
    omega
theorem idata_shaped (ks : List Int) : SeqAt.shaped (.list (idata ks)) = true := by
  have h1 := idata_depth ks
  have h2 : PyData.depth (.list (idata ks)) ≤ 64 := by
    simp only [PyData.depth]
    omega
  show (PyData.canLay0 (.list (idata ks)) && decide (PyData.depth (.list (idata ks)) ≤ 64)) = true
  rw [Bool.and_eq_true]
  exact ⟨by simp only [PyData.canLay0]; exact idata_lay ks, decide_eq_true h2⟩
theorem eq_ints {K : PySem.W.Frag} {H : Hp} {u t : Addr} {ks : List Int} {Q : VK} (hu : H u = some (.lst (ks.map V.int))) (ht : H t = some (.lst (ks.map V.int))) (q : Q (.bl true) H) : rEqD K (.ref u) (.ref t) H Q := by
  refine ⟨.list (idata ks), .list (idata ks), .lst (SqL.of hu) (ints_all ks), .lst (SqL.of ht) (ints_all ks), idata_shaped ks, idata_shaped ks, ?_⟩
  have e : PyData.eqv (.list (idata ks)) (.list (idata ks)) = true := by
    rw [PyData.eqv]
    exact idata_eq ks
  rw [e]
  exact q
theorem sqT_ty {K : PySem.W.Frag} {H : Hp} {t : Addr} {xs : List V} (h : SqT K H t xs) : TyX K H (.ref t) (.type "tuple") := by
  rcases h with (h | ⟨o, h⟩) | ⟨o, its, n, h, hc, _⟩
  · exact .base (.tup h)
  · exact .fTuple h
  · exact .kTuple h hc
def spInt : Sp := fun vs H Q _ => ∃ i : Int, vs = [.int i] ∧ Q (.bl true) H
def spRow (K : PySem.W.Frag) : Sp := fun vs H Q _ => ∃ (t u : Addr) (ks : List Int), vs = [.ref t, .ref u] ∧ SqT K H t (ks.map V.int) ∧ SqA K H u (ks.map V.int) ∧ ks.length ≤ 1000 ∧ ∀ H', Same H H' → Q (.bl true) H'
def LRs (H : Hp) (l cl p : Addr) (rs : List Rl) : Prop := ∃ as, LL H l cl p as ∧ as.length = rs.length ∧ ∀ (i : Nat) (r : Rl), rs[i]? = some r → ∃ t : Addr, as[i]? = some (V.ref t) ∧ LRl H l cl t r
theorem LRs.same {H H' : Hp} {l cl p : Addr} {rs : List Rl} (h : LRs H l cl p rs) (s : Same H H') : LRs H' l cl p rs := let ⟨as, x, y, z⟩ := h; ⟨as, x.same s, y, fun i r e => let ⟨t, w1, w2⟩ := z i r e; ⟨t, w1, w2.same s⟩⟩
theorem LRs.fr {H H' : Hp} {l cl p : Addr} {rs : List Rl} {n : Nat} (h : LRs H l cl p rs) (f : Fr l cl H H') (hp : PoolAt H l cl n) : LRs H' l cl p rs := let ⟨as, x, y, z⟩ := h; ⟨as, x.fr f, y, fun i r e => let ⟨t, w1, w2⟩ := z i r e; ⟨t, w1, w2.fr f hp⟩⟩
def spLWhy (a : Ad) (K : PySem.W.Frag) : Sp := fun vs H Q _ => ∃ (sc land wt rp l cl : Addr) (rs : List Rl) (c : Cal) (n : Int), vs = [.ref sc, .ref land, .ref wt, .ref rp, .int n] ∧ ScAt a K H sc rs ∧ CalAt a.c_Calendar K H land c ∧ W11 H l cl wt c ∧ LRs H l cl rp rs ∧ OkCal c ∧ okF n ∧ ∀ H', Same H H' → Q (.bl true) H'
section
variable {P : Program} {w : World} {K : PySem.W.Frag} {mg : Str → Option Value} {base : Heap} {a : Ad}
theorem int_body {D : Ends} {i : Int} {H : Hp} (k : D.rt (.bl true) H) : tRet (tAndV (tCB (rIsi K) (tCons (tVar 0) (tCons (tC (.ty "int")) tNil))) (tNotV (tCB (rIsi K) (tCons (tVar 0) (tCons (tC (.ty "bool")) tNil))))) D [some (.int i)] H := by
  refine ⟨_, rfl, _, _, _, _, true, rfl, .ty _, .base (.int i), kit_ty (by decide +kernel), _, rfl, iteT ?_⟩
  exact ⟨_, rfl, _, _, _, _, false, rfl, .ty _, .base (.int i), kit_ty (by decide +kernel), _, rfl, k⟩
theorem G__law_int (T : Tx K mg a) : FnOk P w K mg base CX0 1 a.f__law_int a.d__law_int ["one"] spInt := by
  refine T.F__law_int.ok sc__law_int (fun vs H Q E h => ?_) (fun cdv A outer s H vs Q E hr h => ?_)
  · obtain ⟨i, rfl, _⟩ := h
    rfl
  · obtain ⟨i, rfl, k⟩ := h
    refine ⟨_, (pss_one (ps_ret (pe_and (pe_callB call_isi (by rfl) T.n_isinstance (by decide +kernel) (pa_cons (pv 0) (pa_cons (pe_bltn (v := .ty "int") rfl T.n_int (by decide +kernel) rfl) pa_nil))) (pe_one (pe_not (pe_callB call_isi (by rfl) T.n_isinstance (by decide +kernel) (pa_cons (pv 0) (pa_cons (pe_bltn (v := .ty "bool") rfl T.n_bool (by decide +kernel) rfl) pa_nil)))))))), ?_⟩
    exact int_body k
theorem C__law_int (T : Tx K mg a) : FnC P w K mg base 1 a.f__law_int a.d__law_int ["one"] spInt := by
  refine T.F__law_int.okC sc__law_int (fun vs H Q E h => ?_) (fun cdv A outer s H vs Q h => ?_)
  · obtain ⟨i, rfl, _⟩ := h
    rfl
  · obtain ⟨i, rfl, k⟩ := h
    refine ⟨_, (pss_one (ps_ret (pe_and (pe_callB call_isi (by rfl) T.n_isinstance (by decide +kernel) (pa_cons (pv 0) (pa_cons (pe_bltn (v := .ty "int") rfl T.n_int (by decide +kernel) rfl) pa_nil))) (pe_one (pe_not (pe_callB call_isi (by rfl) T.n_isinstance (by decide +kernel) (pa_cons (pv 0) (pa_cons (pe_bltn (v := .ty "bool") rfl T.n_bool (by decide +kernel) rfl) pa_nil)))))))), ?_⟩
    exact int_body k
theorem G__law_row (T : Tx K mg a) : FnOk P w K mg base CX0 2 a.f__law_row a.d__law_row ["told", "due"] (spRow K) := by
  refine T.F__law_row.ok sc__law_row (fun vs H Q E h => ?_) (fun cdv A outer s H vs Q E hr h => ?_)
  · obtain ⟨t, u, ks, rfl, _⟩ := h
    rfl
  · obtain ⟨t, u, ks, rfl, ht, hu, hz, k⟩ := h
    refine ⟨_, (pss_cons (ps_if (PW.pt (pw_or (pt_not (pt_val (pe_callB call_isi (by rfl) T.n_isinstance (by decide +kernel) (pa_cons (pv 0) (pa_cons (pe_bltn (v := .ty "tuple") rfl T.n_tuple (by decide +kernel) rfl) pa_nil))))) (pw_or1 (pt_cmpR op_ne (pe_callB call_len_seq (by rfl) T.n_len (by decide +kernel) (pa_cons (pv 0) pa_nil)) (pe_callB call_len_seq (by rfl) T.n_len (by decide +kernel) (pa_cons (pv 1) pa_nil)) (nomark _))))) (pss_one (ps_ret pe_bl)) pss_nil)
      (pss_one (ps_ret (pe_and (pe_callB (cr_all rfl) (by rfl) T.n_all (by decide +kernel) (pa_cons (pe_lc (own := [("x", 2)]) (g := gName 2) (tt := tYes) rfl sc__law_row.nd (pi_tup (pv 0)) (blkOk_by (own := [("x", 2)]) (N := ["told", "due", "x"]) (sc := defScope s__law_row) (by decide +kernel)) (fun _ _ _ _ _ => (pg_name (i := 2) sc__law_row.nd rfl (Or.inl rfl))) (fun _ _ _ _ _ => pts_nil) (fun _ _ _ _ _ => (pe_call (G__law_int T) (hr.mono (by decide)) rfl T.g__law_int T.F__law_int.kp T.b__law_int .nil pass0 (pa_cons (pv 2) pa_nil)))) pa_nil)) (pe_one (pe_cmpR (op_eqD hr.units) (pe_callTy call_list_of (by rfl) T.n_list (by decide +kernel) (pa_cons (pv 0) pa_nil)) (pe_callTy call_list_of (by rfl) T.n_list (by decide +kernel) (pa_cons (pv 1) pa_nil)) (nomark _))))))), ?_⟩
    have lt : ∀ {σ : St}, σ[0]? = some (some (.ref t)) → Val (tCB (fun xs H Q => ∃ p ys, xs = [.ref p] ∧ (SqL K H p ys ∨ SqT K H p ys) ∧ Q (.int ys.length) H) (tCons (tVar 0) tNil)) σ H (.int (ks.length : Nat)) := fun e => v_cb (val_var e) fun Q q => ⟨t, _, rfl, Or.inr ht, by rw [List.length_map]; exact q⟩
    have lu : ∀ {σ : St}, σ[1]? = some (some (.ref u)) → Val (tCB (fun xs H Q => ∃ p ys, xs = [.ref p] ∧ (SqL K H p ys ∨ SqT K H p ys) ∧ Q (.int ys.length) H) (tCons (tVar 1) tNil)) σ H (.int (ks.length : Nat)) := fun e => v_cb (val_var e) fun Q q => ⟨u, _, rfl, hu, by rw [List.length_map]; exact q⟩
    refine st_guard (q := False) (b := !true || !decide ((ks.length : Int) = ks.length)) (a_or (ans_not (a_val (b := true) fun Q q => ⟨_, rfl, _, _, _, _, true, rfl, .ty _, sqT_ty ht, kit_ty (by decide +kernel), q⟩)) fun _ => a_ne (lt rfl) (lu rfl)) (by simp) (fun z => z.elim) fun _ => ?_
    refine v_cb1 ?_
    refine comp_ix (a := t) (xs := ks.map V.int) (ks.map fun _ => V.bl true) (fun R q => ⟨_, rfl, q⟩) ht (by simp) (by rw [List.length_map]; omega) (fun x => rfl) (fun i x y H' Q' hx hy s h => ?_) fun D H1 hD e s => ?_
    · obtain ⟨z, hz', rfl⟩ := ints_get hx
      rw [List.getElem?_map, hz'] at hy
      cases hy
      exact ⟨_, rfl, z, rfl, h H' (Same.refl _)⟩
    · refine ⟨D, ks.map fun _ => true, rfl, SqL.of (e.trans (by rw [List.map_map]; rfl)), _, rfl, ?_⟩
      have ea : (ks.map fun _ => true).all id = true := by simp
      rw [ea]
      refine iteT ?_
      refine ⟨_, rfl, t, _, rfl, Or.inr (s.sqT ht), fun q1 hq1 => ?_⟩
      have s1 := Same.new (o := .lst (ks.map V.int)) hq1
      refine ⟨_, rfl, u, _, rfl, s1.sqA (s.sqA hu), fun q2 hq2 => ?_⟩
      have s2 := Same.new (o := .lst (ks.map V.int)) hq2
      exact eq_ints (s2 _ _ upd_same) upd_same (k _ (s.trans (s1.trans s2)))
end
end My

namespace My
open PySem L2
/-! ### 18. why due and why not -/
theorem bars_flat {c : Cal} {n : Int} {rs : List Rl} : (rs.map fun r => barV (barOf c n r)).all flatV = true := by
  rw [List.all_eq_true]
  intro x hx
  obtain ⟨r, _, rfl⟩ := List.mem_map.mp hx
  cases barOf c n r <;> rfl
theorem bar_non {c : Cal} {n : Int} {r : Rl} : eqV (barV (barOf c n r)) .non = rlOn c n r := by
  cases e : barOf c n r with
  | none => rw [barOf_none.mp e]; rfl
  | some i =>
    cases e2 : rlOn c n r with
    | true => rw [barOf_none.mpr e2] at e; cases e
    | false => rfl
theorem bars_non {c : Cal} {n : Int} {rs : List Rl} : inV .non (rs.map fun r => barV (barOf c n r)) = rs.any (rlOn c n) := by
  unfold inV
  rw [List.any_map]
  congr 1
  funext r
  exact bar_non
theorem bars_int {c : Cal} {n : Int} : ∀ {rs : List Rl}, rs.any (rlOn c n) = false → ∃ ks : List Int, (rs.map fun r => barV (barOf c n r)) = ks.map V.int ∧ ks.length = rs.length
  | [], _ => ⟨[], rfl, rfl⟩
  | r :: rs, h => by
    rw [List.any_cons, Bool.or_eq_false_iff] at h
    obtain ⟨ks, e, l⟩ := bars_int h.2
    cases e1 : barOf c n r with
    | none =>
      rw [barOf_none.mp e1] at h
      cases h.1
    | some i => exact ⟨(i : Nat) :: ks, by rw [List.map_cons, List.map_cons, e1, e]; rfl, by rw [List.length_cons, List.length_cons, l]⟩
section
variable {P : Program} {w : World} {K : PySem.W.Frag} {mg : Str → Option Value} {base : Heap} {a : Ad}
theorem G__law_why (T : Tx K mg a) : FnOk P w K mg base CX0 9 a.f__law_why a.d__law_why ["whole", "land", "w", "rules", "minute"] (spLWhy a K) := by
  refine T.F__law_why.ok sc__law_why (fun vs H Q E h => ?_) (fun cdv A outer s H vs Q E hr h => ?_)
  · obtain ⟨sc, land, wt, rp, l, cl, rs, c, n, rfl, _⟩ := h
    rfl
  · obtain ⟨sc, land, wt, rp, l, cl, rs, c, n, rfl, hsc, hc, hw, hrs, ok, hn, k⟩ := h
    refine ⟨_, (pss_cons (ps_setLc (i := 5) (own := [("rule", 6)]) (g := gName 6) (tt := tYes) rfl sc__law_why.nd rfl rfl (sw_true rfl rfl rfl (by decide +kernel)) (pi_list (pv 3)) (blkOk_by (own := [("rule", 6)]) (N := ["whole", "land", "w", "rules", "minute", "bars", "rule", "one", "two", "three"]) (sc := defScope s__law_why) (by decide +kernel)) (fun _ _ _ _ _ => (pg_name (i := 6) sc__law_why.nd rfl (Or.inl rfl))) (fun _ _ _ _ _ => pts_nil) (fun _ _ _ _ _ => (pe_call (G__law_bar T) (hr.mono (by decide)) rfl T.g__law_bar T.F__law_bar.kp T.b__law_bar .nil pass0 (pa_cons (pv 6) (pa_cons (pv 2) (pa_cons (pv 4) pa_nil))))))
      (pss_cons (ps_set (i := 7) sc__law_why.nd rfl (Or.inl rfl) (pe_call (G_why_due T) (hr.mono (by decide)) rfl T.g_why_due T.F_why_due.kp T.b_why_due .nil passL (pa_cons (pv 0) (pa_cons (pv 1) (pa_cons (pv 4) pa_nil)))))
      (pss_cons (ps_set (i := 8) sc__law_why.nd rfl (Or.inl rfl) (pe_call (G_why_not T) (hr.mono (by decide)) rfl T.g_why_not T.F_why_not.kp T.b_why_not .nil passL (pa_cons (pv 0) (pa_cons (pv 1) (pa_cons (pv 4) pa_nil)))))
      (pss_cons (ps_set (i := 9) sc__law_why.nd rfl (Or.inl rfl) (pe_meth (pv 0) T.cl_Schedule T.m_Schedule_holds (G_Schedule_holds T) (hr.mono (by decide)) T.b_Schedule_holds .nil passL (pa_cons (pv 1) (pa_cons (pv 4) pa_nil))))
      (pss_cons (ps_if (PW.pt (pw_or (pt_not (pt_val (pe_callB call_isi (by rfl) T.n_isinstance (by decide +kernel) (pa_cons (pv 9) (pa_cons (pe_bltn (v := .ty "bool") rfl T.n_bool (by decide +kernel) rfl) pa_nil))))) (pw_or1 (pt_cmpR op_ne (pv 9) (pe_cmpR op_in_seq pe_non (pv 5) (by rfl)) (nomark _))))) (pss_one (ps_ret pe_bl)) pss_nil)
      (pss_cons (ps_if (pt_cmpR op_in_seq pe_non (pv 5) (by rfl)) (pss_one (ps_ret (pe_and (pe_cmpR op_isN (pv 8) pe_non (nomark _)) (pe_and (pe_call (G__law_int T) (hr.mono (by decide)) rfl T.g__law_int T.F__law_int.kp T.b__law_int .nil pass0 (pa_cons (pv 7) pa_nil)) (pe_one (pe_cmpR op_eq (pv 7) (pe_bm PySem.F.plainAttrs_list PySem.F.slot_list_index PySem.F.type_list_index mt_index (pv 5) (pa_cons pe_non pa_nil)) (nomark _))))))) pss_nil)
      (pss_one (ps_ret (pe_and (pe_cmpR op_isN (pv 7) pe_non (nomark _)) (pe_one (pe_call (G__law_row T) (hr.mono (by decide)) rfl T.g__law_row T.F__law_row.kp T.b__law_row .nil pass0 (pa_cons (pv 8) (pa_cons (pv 5) pa_nil))))))))))))), ?_⟩
    obtain ⟨as, hll, hal, hat⟩ := id hrs
    obtain ⟨dx, rt, xt, asc, g1, g3, g4, g5, g6⟩ := id hsc
    refine st_seq ?_
    refine comp_ixL (a := rp) (xs := as) (rs.map fun r => barV (barOf c n r)) (fun R q => ⟨_, rfl, q⟩) (SqL.of hll.1) (by rw [List.length_map, hal]) (by omega) (fun x => rfl) (fun i x y H' Q' hx hy s h => ?_) fun D H1 hD e s1 => ?_
    · have hi : i < rs.length := by rw [← hal]; exact (List.getElem?_eq_some_iff.mp hx).1
      obtain ⟨r, hr'⟩ : ∃ r, rs[i]? = some r := ⟨_, List.getElem?_eq_getElem hi⟩
      obtain ⟨t, w1, w2⟩ := hat i r hr'
      rw [List.getElem?_map, hr'] at hy
      cases hy
      rw [hx] at w1
      cases w1
      exact ⟨_, rfl, _, rfl, _, rfl, t, wt, l, cl, r, c, n, rfl, w2.same s, hw.same s, ok, hn, fun H2 s2 => h H2 s2⟩
    · refine ⟨_, rfl, _, rfl, _, rfl, sc, land, rs, c, n, rfl, hsc.same s1, hc.same s1, ok, fun z => (z hn).elim, fun _ H2 s2 => ?_⟩
      have e2 := s2 _ _ e
      have s12 := s1.trans s2
      refine ⟨_, rfl, _, rfl, _, rfl, sc, land, rs, c, n, rfl, hsc.same s12, hc.same s12, ok, fun z => (z hn).elim, fun _ ea H3 s3 => ?_, fun _ ea t H3 et s3 => ?_⟩
      · have e3 := s3 _ _ e2
        have s13 := s12.trans s3
        refine ⟨_, rfl, sc, dx, _, rfl, s13 _ _ g1, by kernel_rfl, _, rfl, _, rfl, sc, land, rs, c, n, rfl, hsc.same s13, hc.same s13, ok, fun z => (z hn).elim, fun _ H4 s4 => ?_⟩
        have e4 := s4 _ _ e3
        have s14 := s13.trans s4
        have bn : inV .non (rs.map fun r => barV (barOf c n r)) = true := by rw [bars_non, ea]
        have vin : ∀ {σ : St}, σ[5]? = some (some (.ref D)) → Val (tOp (rIn K false) (tC .non) (tVar 5)) σ H4 (.bl true) := fun es => val_op val_c (val_var es) fun Q q => ⟨D, _, rfl, Or.inl (SqL.of e4), rfl, bars_flat, by rw [if_neg (by decide), bn]; exact q⟩
        dsimp only [gName]
        show tSeq _ _ _ _ H4
        refine st_guard (q := False) (b := !true || !decide (V.bl (rs.any (rlOn c n)) = V.bl true)) (a_or (ans_not (a_val (b := true) fun Q q => ⟨_, rfl, _, _, _, _, true, rfl, .ty _, .base (.bl _), kit_ty (by decide +kernel), q⟩)) fun _ => ans_ne (val_var (i := 9) rfl) (vin rfl) rfl rfl) (by rw [ea]; decide) (fun z => z.elim) fun _ => ?_
        refine st_guard (q := True) (a_val (vin rfl)) (by simp) (fun _ => ?_) fun z => (z trivial).elim
        refine ⟨_, rfl, rfl, _, rfl, iteT ?_⟩
        obtain ⟨i, ei⟩ : ∃ i, rs.findIdx? (rlOn c n) = some i := by
          cases e : rs.findIdx? (rlOn c n) with
          | some i => exact ⟨i, rfl⟩
          | none =>
            rw [List.findIdx?_eq_none_iff] at e
            obtain ⟨r, hr', er⟩ := List.any_eq_true.mp ea
            rw [e r hr'] at er
            cases er
        rw [ei]
        refine ⟨_, rfl, (i : Nat), rfl, _, rfl, iteT ?_⟩
        obtain ⟨hi, h1, h2⟩ := List.findIdx?_eq_some_iff_getElem.mp ei
        refine ⟨_, rfl, _, rfl, Or.inl ⟨rfl, _, SqL.of e4⟩, D, _, .non, i, barV (barOf c n rs[i]), rfl, rfl, SqL.of e4, rfl, bars_flat, by rw [List.getElem?_map, List.getElem?_eq_getElem hi]; rfl, by rw [bar_non, h1], fun m z' hm hz => ?_, rfl, ?_⟩
        · have hm' : m < rs.length := by omega
          rw [List.getElem?_map, List.getElem?_eq_getElem hm'] at hz
          cases hz
          rw [bar_non]
          simpa using h2 m hm
        · rw [decide_eq_true (show barV (some i) = V.int (i : Nat) from rfl)]
          exact k _ s14
      · have e3 := s3 _ _ e2
        have s13 := s12.trans s3
        refine ⟨_, rfl, sc, dx, _, rfl, s13 _ _ g1, by kernel_rfl, _, rfl, _, rfl, sc, land, rs, c, n, rfl, hsc.same s13, hc.same s13, ok, fun z => (z hn).elim, fun _ H4 s4 => ?_⟩
        have e4 := s4 _ _ e3
        have s14 := s13.trans s4
        have bn : inV .non (rs.map fun r => barV (barOf c n r)) = false := by rw [bars_non, ea]
        have vin : ∀ {σ : St}, σ[5]? = some (some (.ref D)) → Val (tOp (rIn K false) (tC .non) (tVar 5)) σ H4 (.bl false) := fun es => val_op val_c (val_var es) fun Q q => ⟨D, _, rfl, Or.inl (SqL.of e4), rfl, bars_flat, by rw [if_neg (by decide), bn]; exact q⟩
        dsimp only [gName]
        show tSeq _ _ _ _ H4
        refine st_guard (q := False) (b := !true || !decide (V.bl (rs.any (rlOn c n)) = V.bl false)) (a_or (ans_not (a_val (b := true) fun Q q => ⟨_, rfl, _, _, _, _, true, rfl, .ty _, .base (.bl _), kit_ty (by decide +kernel), q⟩)) fun _ => ans_ne (val_var (i := 9) rfl) (vin rfl) rfl rfl) (by rw [ea]; decide) (fun z => z.elim) fun _ => ?_
        refine st_guard (q := False) (a_val (vin rfl)) (by simp) (fun z => z.elim) fun _ => ?_
        have ei : rs.findIdx? (rlOn c n) = none := by
          rw [List.findIdx?_eq_none_iff]
          intro r hr'
          cases er : rlOn c n r with
          | false => rfl
          | true =>
            rw [List.any_eq_true.mpr ⟨r, hr', er⟩] at ea
            cases ea
        rw [ei]
        refine ⟨_, rfl, rfl, _, rfl, iteT ?_⟩
        obtain ⟨ks, ek, lk⟩ := bars_int ea
        rw [ek] at e4 et
        exact ⟨_, rfl, _, rfl, t, D, ks, rfl, SqT.of (s4 _ _ et), Or.inl (SqL.of e4), by omega, fun H5 s5 => k _ (s14.trans s5)⟩
end
end My

namespace My
open PySem L2
/-! ### 19. the law asks -/
inductive Oc where
  | rng (s : Str) (v : Int)
  | many (s : Str) (n : Int)
  | ch (i : Int)
  | dy (i : Int)
def OutO (a : Ad) (E : XK) (H : Hp) : Oc → Prop
  | .rng s v => Out a E H (.rng s v)
  | .many s n => OutM a E H s n
  | .ch i => OutC a E H i
  | .dy i => OutD a E H i
def tell : Oc → List V
  | .rng s v => [.str "range", .str s, .int v, .bl true]
  | .many s n => [.str "many", .str s, .int n, .bl true]
  | .ch i => [.str "choice", .int i, .bl true]
  | .dy i => [.str "days", .int i, .bl true]
theorem OutO.same {a : Ad} {E : XK} {H H1 : Hp} (s : Same H H1) : ∀ {o : Oc}, OutO a E H o → OutO a E H1 o
  | .rng _ _, h => fun dd H2 e s2 => h dd H2 e (s.trans s2)
  | .many _ _, h => fun dd H2 e s2 => h dd H2 e (s.trans s2)
  | .ch _, h => fun dd H2 e s2 => h dd H2 e (s.trans s2)
  | .dy _, h => fun dd H2 e s2 => h dd H2 e (s.trans s2)
inductive Kd (a : Ad) (K : PySem.W.Frag) (H : Hp) : Int → V → V → V → Option Oc → Prop
  | c0m {m as ps z1 z2} : SqA K H m as → Prs H as ps → 1500 < ps.length → Kd a K H 0 (.ref m) z1 z2 (some (.many "parts" ps.length))
  | c0c {m as z1 z2} {ps : List Part} {i : Nat} {q : Part} : SqA K H m as → Prs H as ps → ps.length ≤ 1500 → ps[i]? = some q → ¬ okPart q → (∀ (j : Nat) q, j < i → ps[j]? = some q → okPart q) → Kd a K H 0 (.ref m) z1 z2 (some (.ch (i : Nat)))
  | c1e {m z1 z2} : SqA K H m [] → Kd a K H 1 (.ref m) z1 z2 (some (.dy 0))
  | c1b {m ds z1 z2} {i : Nat} : SqA K H m (ds.map V.int) → badAt ds i → (∀ j, j < i → ¬ badAt ds j) → Kd a K H 1 (.ref m) z1 z2 (some (.dy (i : Nat)))
  | c2n {x y z} : ¬ (1 ≤ x ∧ x ≤ 9) → Kd a K H 2 (.int x) (.int y) z (some (.rng "nth" x))
  | c2w {x y z} : (1 ≤ x ∧ x ≤ 9) → ¬ (0 ≤ y ∧ y ≤ 9) → Kd a K H 2 (.int x) (.int y) z (some (.rng "weekday" y))
  | c2y {x y z} : (1 ≤ x ∧ x ≤ 9) → (0 ≤ y ∧ y ≤ 9) → Kd a K H 2 (.int x) (.int y) z none
  | c3n {x y z} : ¬ (1 ≤ x ∧ x ≤ 10000) → Kd a K H 3 (.int x) (.int y) z (some (.rng "step" x))
  | c3w {x y z} : (1 ≤ x ∧ x ≤ 10000) → ¬ (0 ≤ y ∧ y ≤ 100000) → Kd a K H 3 (.int x) (.int y) z (some (.rng "first" y))
  | c3y {x y z} : (1 ≤ x ∧ x ≤ 10000) → (0 ≤ y ∧ y ≤ 100000) → Kd a K H 3 (.int x) (.int y) z none
  | c4n {x y z} : ¬ (0 ≤ x ∧ x ≤ 100000) → Kd a K H 4 (.int x) y z (some (.rng "day" x))
  | c4y {x y z} : (0 ≤ x ∧ x ≤ 100000) → Kd a K H 4 (.int x) y z none
  | c5n {x y z} : ¬ (0 ≤ x ∧ x ≤ 100000) → Kd a K H 5 (.int x) y z (some (.rng "day" x))
  | c5y {x y z} : (0 ≤ x ∧ x ≤ 100000) → Kd a K H 5 (.int x) y z none
  | c6 {p ps n z} : ChAt a.c_Choice K H p ps → ¬ okF n → Kd a K H 6 (.ref p) (.int n) z (some (.rng "number" n))
  | c7l {p ps x y} : ChAt a.c_Choice K H p ps → ¬ okT x → Kd a K H 7 (.ref p) (.int x) (.int y) (some (.rng "low" x))
  | c7h {p ps x y} : ChAt a.c_Choice K H p ps → okT x → ¬ okT y → Kd a K H 7 (.ref p) (.int x) (.int y) (some (.rng "high" y))
  | c8c {p q cd c n} : CdAt a K H p cd → CalAt a.c_Calendar K H q c → OkCal c → ¬ okF n → Kd a K H 8 (.ref p) (.ref q) (.int n) (some (.rng "number" n))
  | c8r {p q r c n} : RlAt a K H p r → CalAt a.c_Calendar K H q c → OkCal c → ¬ okF n → Kd a K H 8 (.ref p) (.ref q) (.int n) (some (.rng "minute" n))
  | c8s {p q rs c n} : ScAt a K H p rs → CalAt a.c_Calendar K H q c → OkCal c → ¬ okF n → Kd a K H 8 (.ref p) (.ref q) (.int n) (some (.rng "minute" n))
  | c9 {p q rs c n} : ScAt a K H p rs → CalAt a.c_Calendar K H q c → OkCal c → ¬ okF n → Kd a K H 9 (.ref p) (.ref q) (.int n) (some (.rng "minute" n))
  | c10 {p q rs c n} : ScAt a K H p rs → CalAt a.c_Calendar K H q c → OkCal c → ¬ okF n → Kd a K H 10 (.ref p) (.ref q) (.int n) (some (.rng "minute" n))
def spCall (a : Ad) (K : PySem.W.Frag) : Sp := fun vs H Q E => ∃ (k : Int) (x y z : V) (o : Option Oc), vs = [.int k, x, y, z] ∧ Kd a K H k x y z o ∧ (o = none → ∀ v H', Same H H' → Q v H') ∧ ∀ oc, o = some oc → ∀ H1, Same H H1 → OutO a E H1 oc
def spAsked (a : Ad) (K : PySem.W.Frag) : Sp := fun vs H Q _ => ∃ (k : Int) (x y z : V) (o : Option Oc), vs = [.int k, x, y, z] ∧ Kd a K H k x y z o ∧ (o = none → ∀ v u H', H' u = some (.tup [.str "told", v]) → Same H H' → Q (.ref u) H') ∧ ∀ oc, o = some oc → ∀ u H', H' u = some (.tup (tell oc)) → Same H H' → Q (.ref u) H'
section
variable {P : Program} {w : World} {K : PySem.W.Frag} {mg : Str → Option Value} {base : Heap} {a : Ad}
theorem kstep {D : Ends} {σ : St} {H : Hp} {t1 t3 : TS} {i j : Int} (e : σ[0]? = some (some (.int i))) (ne : ¬ i = j) (h : t3 D σ H) : tSeq (tIfS (tTest (tOp rEq (tVar 0) (tC (.int j)))) t1 tNext) t3 D σ H :=
  st_guard (q := i = j) (a_eq (val_var e) val_c) (by simp) (fun z => (ne z).elim) fun _ => h
theorem khit {D : Ends} {σ : St} {H : Hp} {t1 t3 : TS} {i : Int} (e : σ[0]? = some (some (.int i))) (h : t1 { D with nx := t3 D } σ H) : tSeq (tIfS (tTest (tOp rEq (tVar 0) (tC (.int i)))) t1 tNext) t3 D σ H :=
  st_guard (q := i = i) (a_eq (val_var e) val_c) (by simp) (fun _ => h) fun z => (z rfl).elim
theorem G__law_call (T : Tx K mg a) : FnOk P w K mg base (L2.CX P w) 9 a.f__law_call a.d__law_call ["kind", "a", "b", "c"] (spCall a K) := by
  refine T.F__law_call.okX sc__law_call (fun vs H Q E h => ?_) (fun cdv A outer s H vs Q E hr h => ?_)
  · obtain ⟨k, x, y, z, o, rfl, _⟩ := h
    rfl
  · obtain ⟨k, x, y, z, o, rfl, h, yes, no⟩ := h
    refine ⟨_, (pss_cons (ps_if (pt_cmpR op_eq (pv 0) pe_int (nomark _)) (pss_one (ps_ret (pe_make T.M_Choice (G_Choice_init T) (hr.mono (by decide)) rfl T.g_Choice T.bP_Choice_init_1.choose_spec.2 T.bP_Choice_init_1.choose_spec.1 (passes_call (takes_of rfl rfl rfl rfl) (fun _ _ _ _ h => h)) (pa_cons (pv 1) pa_nil)))) pss_nil)
      (pss_cons (ps_if (pt_cmpR op_eq (pv 0) pe_int (nomark _)) (pss_one (ps_ret (pe_make T.M_NotOn (G_NotOn_init T) (hr.mono (by decide)) rfl T.g_NotOn T.b_NotOn_init .nil (passes_call (takes_of rfl rfl rfl rfl) (fun _ _ _ _ h => h)) (pa_cons (pv 1) pa_nil)))) pss_nil)
      (pss_cons (ps_if (pt_cmpR op_eq (pv 0) pe_int (nomark _)) (pss_one (ps_ret (pe_make T.M_NthWeekday (G_NthWeekday_init T) (hr.mono (by decide)) rfl T.g_NthWeekday T.bD_NthWeekday_init.choose_spec.2 T.bD_NthWeekday_init.choose_spec.1 (passes_call (takes_of rfl rfl rfl rfl) (fun _ _ _ _ h => h)) (pa_cons (pv 1) (pa_cons (pv 2) pa_nil))))) pss_nil)
      (pss_cons (ps_if (pt_cmpR op_eq (pv 0) pe_int (nomark _)) (pss_one (ps_ret (pe_make T.M_EveryDays (G_EveryDays_init T) (hr.mono (by decide)) rfl T.g_EveryDays T.bP_EveryDays_init_1.choose_spec.2 T.bP_EveryDays_init_1.choose_spec.1 (passes_call (takes_of rfl rfl rfl rfl) (fun _ _ _ _ h => h)) (pa_cons (pv 1) (pa_cons (pv 2) pa_nil))))) pss_nil)
      (pss_cons (ps_if (pt_cmpR op_eq (pv 0) pe_int (nomark _)) (pss_one (ps_ret (pe_make T.M_FromDay (G_FromDay_init T) (hr.mono (by decide)) rfl T.g_FromDay T.b_FromDay_init .nil (passes_call (takes_of rfl rfl rfl rfl) (fun _ _ _ _ h => h)) (pa_cons (pv 1) pa_nil)))) pss_nil)
      (pss_cons (ps_if (pt_cmpR op_eq (pv 0) pe_int (nomark _)) (pss_one (ps_ret (pe_make T.M_UntilDay (G_UntilDay_init T) (hr.mono (by decide)) rfl T.g_UntilDay T.b_UntilDay_init .nil (passes_call (takes_of rfl rfl rfl rfl) (fun _ _ _ _ h => h)) (pa_cons (pv 1) pa_nil)))) pss_nil)
      (pss_cons (ps_if (pt_cmpR op_eq (pv 0) pe_int (nomark _)) (pss_one (ps_ret (pe_meth (pv 1) T.cl_Choice T.m_Choice_holds (G_Choice_holds T) (hr.mono (by decide)) T.b_Choice_holds .nil (passes_call (takes_of rfl rfl rfl rfl) (fun _ _ _ _ h => h)) (pa_cons (pv 2) pa_nil)))) pss_nil)
      (pss_cons (ps_if (pt_cmpR op_eq (pv 0) pe_int (nomark _)) (pss_one (ps_ret (pe_meth (pv 1) T.cl_Choice T.m_Choice_numbers (G_Choice_numbers T) (hr.mono (by decide)) T.b_Choice_numbers .nil (passes_call (takes_of rfl rfl rfl rfl) (fun _ _ _ _ h => h)) (pa_cons (pv 2) (pa_cons (pv 3) pa_nil))))) pss_nil)
      (pss_cons (ps_if (pt_cmpR op_eq (pv 0) pe_int (nomark _)) (pss_one (ps_ret (pe_alt (pe_meth (pv 1) T.cl_MonthDays T.m_MonthDays_holds (G_MonthDays_holds T) (hr.mono (by decide)) T.b_MonthDays_holds .nil (passes_call (takes_of rfl rfl rfl rfl) (fun _ _ _ _ h => h)) (pa_cons (pv 2) (pa_cons (pv 3) pa_nil)))
      (pe_alt (pe_meth (pv 1) T.cl_Weekdays T.m_Weekdays_holds (G_Weekdays_holds T) (hr.mono (by decide)) T.b_Weekdays_holds .nil (passes_call (takes_of rfl rfl rfl rfl) (fun _ _ _ _ h => h)) (pa_cons (pv 2) (pa_cons (pv 3) pa_nil)))
      (pe_alt (pe_meth (pv 1) T.cl_Months T.m_Months_holds (G_Months_holds T) (hr.mono (by decide)) T.b_Months_holds .nil (passes_call (takes_of rfl rfl rfl rfl) (fun _ _ _ _ h => h)) (pa_cons (pv 2) (pa_cons (pv 3) pa_nil)))
      (pe_alt (pe_meth (pv 1) T.cl_NthWeekday T.m_NthWeekday_holds (G_NthWeekday_holds T) (hr.mono (by decide)) T.b_NthWeekday_holds .nil (passes_call (takes_of rfl rfl rfl rfl) (fun _ _ _ _ h => h)) (pa_cons (pv 2) (pa_cons (pv 3) pa_nil)))
      (pe_alt (pe_meth (pv 1) T.cl_EveryDays T.m_EveryDays_holds (G_EveryDays_holds T) (hr.mono (by decide)) T.b_EveryDays_holds .nil (passes_call (takes_of rfl rfl rfl rfl) (fun _ _ _ _ h => h)) (pa_cons (pv 2) (pa_cons (pv 3) pa_nil)))
      (pe_alt (pe_meth (pv 1) T.cl_FromDay T.m_FromDay_holds (G_FromDay_holds T) (hr.mono (by decide)) T.b_FromDay_holds .nil (passes_call (takes_of rfl rfl rfl rfl) (fun _ _ _ _ h => h)) (pa_cons (pv 2) (pa_cons (pv 3) pa_nil)))
      (pe_alt (pe_meth (pv 1) T.cl_UntilDay T.m_UntilDay_holds (G_UntilDay_holds T) (hr.mono (by decide)) T.b_UntilDay_holds .nil (passes_call (takes_of rfl rfl rfl rfl) (fun _ _ _ _ h => h)) (pa_cons (pv 2) (pa_cons (pv 3) pa_nil)))
      (pe_alt (pe_meth (pv 1) T.cl_NotOn T.m_NotOn_holds (G_NotOn_holds T) (hr.mono (by decide)) T.b_NotOn_holds .nil (passes_call (takes_of rfl rfl rfl rfl) (fun _ _ _ _ h => h)) (pa_cons (pv 2) (pa_cons (pv 3) pa_nil)))
      (pe_alt (pe_meth (pv 1) T.cl_Rule T.m_Rule_holds (G_Rule_holds T) (hr.mono (by decide)) T.b_Rule_holds .nil (passes_call (takes_of rfl rfl rfl rfl) (fun _ _ _ _ h => h)) (pa_cons (pv 2) (pa_cons (pv 3) pa_nil)))
      (pe_meth (pv 1) T.cl_Schedule T.m_Schedule_holds (G_Schedule_holds T) (hr.mono (by decide)) T.b_Schedule_holds .nil (passes_call (takes_of rfl rfl rfl rfl) (fun _ _ _ _ h => h)) (pa_cons (pv 2) (pa_cons (pv 3) pa_nil)))))))))))))) pss_nil)
      (pss_cons (ps_if (pt_cmpR op_eq (pv 0) pe_int (nomark _)) (pss_one (ps_ret (pe_call (G_why_due T) (hr.mono (by decide)) rfl T.g_why_due T.F_why_due.kp T.b_why_due .nil (passes_call (takes_of rfl rfl rfl rfl) (fun _ _ _ _ h => h)) (pa_cons (pv 1) (pa_cons (pv 2) (pa_cons (pv 3) pa_nil)))))) pss_nil)
      (pss_one (ps_ret (pe_call (G_why_not T) (hr.mono (by decide)) rfl T.g_why_not T.F_why_not.kp T.b_why_not .nil (passes_call (takes_of rfl rfl rfl rfl) (fun _ _ _ _ h => h)) (pa_cons (pv 1) (pa_cons (pv 2) (pa_cons (pv 3) pa_nil)))))))))))))))), ?_⟩
    cases h with
    | c0m h1 h2 h3 =>
      refine khit rfl ⟨_, rfl, fun p dx hp hdx np => ?_⟩
      have s := newS (C := a.c_Choice) hp hdx np
      exact ⟨p, dx, _, _, _, rfl, upd_same, s.sqA h1, h2.same s, fun _ => no _ rfl _ s, fun z => by omega, fun z => by omega⟩
    | c0c h1 h2 h3 h4 h5 h6 =>
      refine khit rfl ⟨_, rfl, fun p dx hp hdx np => ?_⟩
      have s := newS (C := a.c_Choice) hp hdx np
      refine ⟨p, dx, _, _, _, rfl, upd_same, s.sqA h1, h2.same s, fun z => by omega, fun _ i' q' e1 e2 e3 H1 s1 => ?_, fun _ z => (h5 (z _ (List.mem_of_getElem? h4))).elim⟩
      have ei : i' = _ := Nat.le_antisymm (Nat.le_of_not_lt fun z => h5 (e3 _ _ z h4)) (Nat.le_of_not_lt fun z => e2 (h6 _ _ z e1))
      rw [ei]
      exact no _ rfl _ (s.trans s1)
    | c1e h1 =>
      refine kstep rfl (by decide) (khit rfl ⟨_, rfl, fun p dx hp hdx np => ?_⟩)
      have s := newS (C := a.c_NotOn) hp hdx np
      exact ⟨p, dx, _, [], rfl, upd_same, s.sqA h1, fun _ => no _ rfl _ s, fun i z => absurd z.1 (Nat.not_lt_zero _), fun z => (z rfl).elim⟩
    | c1b h1 h2 h3 =>
      refine kstep rfl (by decide) (khit rfl ⟨_, rfl, fun p dx hp hdx np => ?_⟩)
      have s := newS (C := a.c_NotOn) hp hdx np
      refine ⟨p, dx, _, _, rfl, upd_same, s.sqA h1, fun z => ?_, fun i' z1 z2 H1 s1 => ?_, fun _ z => (z _ h2).elim⟩
      · subst z
        exact absurd h2.1 (Nat.not_lt_zero _)
      · have ei : i' = _ := Nat.le_antisymm (Nat.le_of_not_lt fun z => z2 _ z h2) (Nat.le_of_not_lt fun z => h3 _ z z1)
        rw [ei]
        exact no _ rfl _ (s.trans s1)
    | c2n h1 =>
      refine kstep rfl (by decide) (kstep rfl (by decide) (khit rfl ⟨_, rfl, _, rfl, fun p dx hp hdx np => ?_⟩))
      have s := newS (C := a.c_NthWeekday) hp hdx np
      exact ⟨p, dx, _, _, false, rfl, upd_same, fun _ => no _ rfl _ s, fun z => (h1 z).elim, fun z => (h1 z).elim⟩
    | c2w h1 h2 =>
      refine kstep rfl (by decide) (kstep rfl (by decide) (khit rfl ⟨_, rfl, _, rfl, fun p dx hp hdx np => ?_⟩))
      have s := newS (C := a.c_NthWeekday) hp hdx np
      exact ⟨p, dx, _, _, false, rfl, upd_same, fun z => (z h1).elim, fun _ _ => no _ rfl _ s, fun _ z => (h2 z).elim⟩
    | c2y h1 h2 =>
      refine kstep rfl (by decide) (kstep rfl (by decide) (khit rfl ⟨_, rfl, _, rfl, fun p dx hp hdx np => ?_⟩))
      exact ⟨p, dx, _, _, false, rfl, upd_same, fun z => (z h1).elim, fun _ z => (z h2).elim, fun _ _ H1 c1 bx => ⟨rfl, yes rfl _ _ (Same.made hp hdx bx)⟩⟩
    | c3n h1 =>
      refine kstep rfl (by decide) (kstep rfl (by decide) (kstep rfl (by decide) (khit rfl ⟨_, rfl, _, rfl, fun p dx hp hdx np => ?_⟩)))
      have s := newS (C := a.c_EveryDays) hp hdx np
      exact ⟨p, dx, _, _, rfl, upd_same, fun _ => no _ rfl _ s, fun z => (h1 z).elim, fun z => (h1 z).elim⟩
    | c3w h1 h2 =>
      refine kstep rfl (by decide) (kstep rfl (by decide) (kstep rfl (by decide) (khit rfl ⟨_, rfl, _, rfl, fun p dx hp hdx np => ?_⟩)))
      have s := newS (C := a.c_EveryDays) hp hdx np
      exact ⟨p, dx, _, _, rfl, upd_same, fun z => (z h1).elim, fun _ _ => no _ rfl _ s, fun _ z => (h2 z).elim⟩
    | c3y h1 h2 =>
      refine kstep rfl (by decide) (kstep rfl (by decide) (kstep rfl (by decide) (khit rfl ⟨_, rfl, _, rfl, fun p dx hp hdx np => ?_⟩)))
      exact ⟨p, dx, _, _, rfl, upd_same, fun z => (z h1).elim, fun _ z => (z h2).elim, fun _ _ H1 c1 bx => ⟨rfl, yes rfl _ _ (Same.made hp hdx bx)⟩⟩
    | c4n h1 =>
      refine kstep rfl (by decide) (kstep rfl (by decide) (kstep rfl (by decide) (kstep rfl (by decide) (khit rfl ⟨_, rfl, fun p dx hp hdx np => ?_⟩))))
      have s := newS (C := a.c_FromDay) hp hdx np
      exact ⟨p, dx, _, rfl, upd_same, fun _ => no _ rfl _ s, fun z => (h1 z).elim⟩
    | c4y h1 =>
      refine kstep rfl (by decide) (kstep rfl (by decide) (kstep rfl (by decide) (kstep rfl (by decide) (khit rfl ⟨_, rfl, fun p dx hp hdx np => ?_⟩))))
      exact ⟨p, dx, _, rfl, upd_same, fun z => (z h1).elim, fun _ H1 c1 bx => ⟨rfl, yes rfl _ _ (Same.made hp hdx bx)⟩⟩
    | c5n h1 =>
      refine kstep rfl (by decide) (kstep rfl (by decide) (kstep rfl (by decide) (kstep rfl (by decide) (kstep rfl (by decide) (khit rfl ⟨_, rfl, fun p dx hp hdx np => ?_⟩)))))
      have s := newS (C := a.c_UntilDay) hp hdx np
      exact ⟨p, dx, _, rfl, upd_same, fun _ => no _ rfl _ s, fun z => (h1 z).elim⟩
    | c5y h1 =>
      refine kstep rfl (by decide) (kstep rfl (by decide) (kstep rfl (by decide) (kstep rfl (by decide) (kstep rfl (by decide) (khit rfl ⟨_, rfl, fun p dx hp hdx np => ?_⟩)))))
      exact ⟨p, dx, _, rfl, upd_same, fun z => (z h1).elim, fun _ H1 c1 bx => ⟨rfl, yes rfl _ _ (Same.made hp hdx bx)⟩⟩
    | c6 h1 h2 =>
      obtain ⟨dx, pt, txt, as, g1, _⟩ := id h1
      exact kstep rfl (by decide) (kstep rfl (by decide) (kstep rfl (by decide) (kstep rfl (by decide) (kstep rfl (by decide) (kstep rfl (by decide) (khit rfl ⟨_, rfl, _, dx, _, rfl, g1, by kernel_rfl, _, rfl, _, _, _, rfl, h1, fun _ => no _ rfl _ (Same.refl _), fun z => (h2 z).elim⟩))))))
    | c7l h1 h2 =>
      obtain ⟨dx, pt, txt, as, g1, _⟩ := id h1
      exact kstep rfl (by decide) (kstep rfl (by decide) (kstep rfl (by decide) (kstep rfl (by decide) (kstep rfl (by decide) (kstep rfl (by decide) (kstep rfl (by decide) (khit rfl ⟨_, rfl, _, dx, _, rfl, g1, by kernel_rfl, _, rfl, _, rfl, _, _, _, _, rfl, h1, fun _ => no _ rfl _ (Same.refl _), fun z => (h2 z).elim, fun z => (h2 z).elim⟩)))))))
    | c7h h1 h2 h3 =>
      obtain ⟨dx, pt, txt, as, g1, _⟩ := id h1
      exact kstep rfl (by decide) (kstep rfl (by decide) (kstep rfl (by decide) (kstep rfl (by decide) (kstep rfl (by decide) (kstep rfl (by decide) (kstep rfl (by decide) (khit rfl ⟨_, rfl, _, dx, _, rfl, g1, by kernel_rfl, _, rfl, _, rfl, _, _, _, _, rfl, h1, fun z => (z h2).elim, fun _ _ => no _ rfl _ (Same.refl _), fun _ z => (h3 z).elim⟩)))))))
    | @c8c p q cd c n h1 h2 h3 h4 =>
      refine kstep rfl (by decide) (kstep rfl (by decide) (kstep rfl (by decide) (kstep rfl (by decide) (kstep rfl (by decide) (kstep rfl (by decide) (kstep rfl (by decide) (kstep rfl (by decide) (khit rfl ?_))))))))
      have out : ¬ okF n → Out a E H (.rng "number" n) := fun _ => no _ rfl _ (Same.refl _)
      cases cd with
      | md ps fe =>
        obtain ⟨dx, ch, x, g1, _⟩ := id h1
        exact Or.inl ⟨_, rfl, p, dx, _, rfl, g1, by kernel_rfl, _, rfl, _, rfl, p, q, _, c, n, rfl, ⟨ps, fe, rfl⟩, h1, h2, h3, out, fun z => (h4 z).elim⟩
      | wd ps =>
        obtain ⟨dx, ch, x, g1, _⟩ := id h1
        exact Or.inr (Or.inl ⟨_, rfl, p, dx, _, rfl, g1, by kernel_rfl, _, rfl, _, rfl, p, q, _, c, n, rfl, ⟨ps, rfl⟩, h1, h2, h3, out, fun z => (h4 z).elim⟩)
      | mo ps =>
        obtain ⟨dx, ch, x, g1, _⟩ := id h1
        exact Or.inr (Or.inr (Or.inl ⟨_, rfl, p, dx, _, rfl, g1, by kernel_rfl, _, rfl, _, rfl, p, q, _, c, n, rfl, ⟨ps, rfl⟩, h1, h2, h3, out, fun z => (h4 z).elim⟩))
      | nth u v fe =>
        obtain ⟨dx, x, g1, _⟩ := id h1
        exact Or.inr (Or.inr (Or.inr (Or.inl ⟨_, rfl, p, dx, _, rfl, g1, by kernel_rfl, _, rfl, _, rfl, p, q, _, c, n, rfl, ⟨u, v, fe, rfl⟩, h1, h2, h3, out, fun z => (h4 z).elim⟩)))
      | ev u f =>
        obtain ⟨⟨dx, x, g1, _⟩, _⟩ := id h1
        exact Or.inr (Or.inr (Or.inr (Or.inr (Or.inl ⟨_, rfl, p, dx, _, rfl, g1, by kernel_rfl, _, rfl, _, rfl, p, q, _, c, n, rfl, ⟨u, f, rfl⟩, h1, h2, h3, out, fun z => (h4 z).elim⟩))))
      | fr u =>
        obtain ⟨dx, x, g1, _⟩ := id h1
        exact Or.inr (Or.inr (Or.inr (Or.inr (Or.inr (Or.inl ⟨_, rfl, p, dx, _, rfl, g1, by kernel_rfl, _, rfl, _, rfl, p, q, _, c, n, rfl, ⟨u, rfl⟩, h1, h2, h3, out, fun z => (h4 z).elim⟩)))))
      | un u =>
        obtain ⟨dx, x, g1, _⟩ := id h1
        exact Or.inr (Or.inr (Or.inr (Or.inr (Or.inr (Or.inr (Or.inl ⟨_, rfl, p, dx, _, rfl, g1, by kernel_rfl, _, rfl, _, rfl, p, q, _, c, n, rfl, ⟨u, rfl⟩, h1, h2, h3, out, fun z => (h4 z).elim⟩))))))
      | no ds =>
        obtain ⟨dx, dt, x, g1, _⟩ := id h1
        exact Or.inr (Or.inr (Or.inr (Or.inr (Or.inr (Or.inr (Or.inr (Or.inl ⟨_, rfl, p, dx, _, rfl, g1, by kernel_rfl, _, rfl, _, rfl, p, q, _, c, n, rfl, ⟨ds, rfl⟩, h1, h2, h3, out, fun z => (h4 z).elim⟩)))))))
    | c8r h1 h2 h3 h4 =>
      refine kstep rfl (by decide) (kstep rfl (by decide) (kstep rfl (by decide) (kstep rfl (by decide) (kstep rfl (by decide) (kstep rfl (by decide) (kstep rfl (by decide) (kstep rfl (by decide) (khit rfl ?_))))))))
      obtain ⟨dx, ch, ct, x, as, g1, _⟩ := id h1
      exact Or.inr (Or.inr (Or.inr (Or.inr (Or.inr (Or.inr (Or.inr (Or.inr (Or.inl ⟨_, rfl, _, dx, _, rfl, g1, by kernel_rfl, _, rfl, _, rfl, _, _, _, _, _, rfl, h1, h2, h3, fun _ => no _ rfl _ (Same.refl _), fun z => (h4 z).elim⟩))))))))
    | c8s h1 h2 h3 h4 =>
      refine kstep rfl (by decide) (kstep rfl (by decide) (kstep rfl (by decide) (kstep rfl (by decide) (kstep rfl (by decide) (kstep rfl (by decide) (kstep rfl (by decide) (kstep rfl (by decide) (khit rfl ?_))))))))
      obtain ⟨dx, rt, x, as, g1, _⟩ := id h1
      exact Or.inr (Or.inr (Or.inr (Or.inr (Or.inr (Or.inr (Or.inr (Or.inr (Or.inr ⟨_, rfl, _, dx, _, rfl, g1, by kernel_rfl, _, rfl, _, rfl, _, _, _, _, _, rfl, h1, h2, h3, fun _ => no _ rfl _ (Same.refl _), fun z => (h4 z).elim⟩))))))))
    | c9 h1 h2 h3 h4 =>
      refine kstep rfl (by decide) (kstep rfl (by decide) (kstep rfl (by decide) (kstep rfl (by decide) (kstep rfl (by decide) (kstep rfl (by decide) (kstep rfl (by decide) (kstep rfl (by decide) (kstep rfl (by decide) (khit rfl ?_)))))))))
      exact ⟨_, rfl, _, rfl, _, rfl, _, _, _, _, _, rfl, h1, h2, h3, fun _ => no _ rfl _ (Same.refl _), fun z => (h4 z).elim⟩
    | c10 h1 h2 h3 h4 =>
      refine kstep rfl (by decide) (kstep rfl (by decide) (kstep rfl (by decide) (kstep rfl (by decide) (kstep rfl (by decide) (kstep rfl (by decide) (kstep rfl (by decide) (kstep rfl (by decide) (kstep rfl (by decide) (kstep rfl (by decide) ?_)))))))))
      exact ⟨_, rfl, _, rfl, _, rfl, _, _, _, _, _, rfl, h1, h2, h3, fun _ => no _ rfl _ (Same.refl _), fun z => (h4 z).elim, fun z => (h4 z).elim⟩
theorem G__law_asked (T : Tx K mg a) : FnOk P w K mg base CX0 10 a.f__law_asked a.d__law_asked ["kind", "a", "b", "c"] (spAsked a K) := by
  refine T.F__law_asked.ok sc__law_asked (fun vs H Q E h => ?_) (fun cdv A outer s H vs Q E hr h => ?_)
  · obtain ⟨k, x, y, z, o, rfl, _⟩ := h
    rfl
  · obtain ⟨k, x, y, z, o, rfl, h, yes, no⟩ := h
    refine ⟨_, (pss_one (ps_try_hds rfl rfl
      (fun W pn xe tk _ => (pss_one (ps_ret (pe_tup (pa_cons pe_str (pa_cons (pe_callS (G__law_call T) (hr.mono (by decide)) rfl T.g__law_call T.F__law_call.kp T.b__law_call (fun σ => passAt tk σ) (by exact (pa_cons (pv 0) (pa_cons (pv 1) (pa_cons (pv 2) (pa_cons (pv 3) pa_nil)))))) pa_nil))))))
      (hds_as (i := 4) rfl sc__law_asked.nd rfl rfl ⟨rfl, by decide, Or.inl T.g_OutOfRange⟩ (fun xa oe cls xd pn hz hf => (pss_cons (ps_set (i := 5) sc__law_asked.nd rfl (Or.inl rfl) (pe_or (pe_callB (call_isX hz hf) (by rfl) T.n_isinstance (by decide +kernel) (pa_cons (pv 4) (pa_cons (pe_glob (v := .ref a.c_TooMany) rfl T.g_TooMany rfl) pa_nil))) (pe_or (pe_callB (call_isX hz hf) (by rfl) T.n_isinstance (by decide +kernel) (pa_cons (pv 4) (pa_cons (pe_glob (v := .ref a.c_BadChoice) rfl T.g_BadChoice rfl) pa_nil))) (pe_one (pe_callB (call_isX hz hf) (by rfl) T.n_isinstance (by decide +kernel) (pa_cons (pv 4) (pa_cons (pe_glob (v := .ref a.c_BadDays) rfl T.g_BadDays rfl) pa_nil)))))))
      (pss_cons (ps_set (i := 6) sc__law_asked.nd rfl (Or.inl rfl) (pe_and (pe_callB (call_isX hz hf) (by rfl) T.n_isinstance (by decide +kernel) (pa_cons (pv 4) (pa_cons (pe_glob (v := .ref a.c_DueError) rfl T.g_DueError rfl) pa_nil))) (pe_and (pe_callB (call_isX hz hf) (by rfl) T.n_isinstance (by decide +kernel) (pa_cons (pv 4) (pa_cons (pe_bltn (v := .ty "ValueError") rfl T.n_ValueError (by decide +kernel) rfl) pa_nil))) (pe_one (pe_not (pv 5))))))
      (pss_one (ps_ret (pe_tup (pa_cons pe_str (pa_cons (pe_xf T.xf_OutOfRange T.no_OutOfRange_what hz hf (pv 4)) (pa_cons (pe_xf T.xf_OutOfRange T.no_OutOfRange_value hz hf (pv 4)) (pa_cons (pe_and (pv 6) (pe_one (pe_callC (C__law_int T) (L2H.RoomH.mono ⟨hr.dp, hr.un⟩ (show 1 ≤ 9 from by decide)) rfl T.g__law_int T.F__law_int.kp T.b__law_int (pa_cons (pe_xf T.xf_OutOfRange T.no_OutOfRange_value hz hf (pv 4)) pa_nil)))) pa_nil))))))))))
      (hds_as (i := 4) rfl sc__law_asked.nd rfl rfl ⟨rfl, by decide, Or.inl T.g_TooMany⟩ (fun xa oe cls xd pn hz hf => (pss_cons (ps_set (i := 5) sc__law_asked.nd rfl (Or.inl rfl) (pe_or (pe_callB (call_isX hz hf) (by rfl) T.n_isinstance (by decide +kernel) (pa_cons (pv 4) (pa_cons (pe_glob (v := .ref a.c_BadChoice) rfl T.g_BadChoice rfl) pa_nil))) (pe_or (pe_callB (call_isX hz hf) (by rfl) T.n_isinstance (by decide +kernel) (pa_cons (pv 4) (pa_cons (pe_glob (v := .ref a.c_BadDays) rfl T.g_BadDays rfl) pa_nil))) (pe_one (pe_not (pe_callC (C__law_int T) (L2H.RoomH.mono ⟨hr.dp, hr.un⟩ (show 1 ≤ 9 from by decide)) rfl T.g__law_int T.F__law_int.kp T.b__law_int (pa_cons (pe_xf T.xf_TooMany T.no_TooMany_many hz hf (pv 4)) pa_nil)))))))
      (pss_one (ps_ret (pe_tup (pa_cons pe_str (pa_cons (pe_xf T.xf_TooMany T.no_TooMany_what hz hf (pv 4)) (pa_cons (pe_xf T.xf_TooMany T.no_TooMany_many hz hf (pv 4)) (pa_cons (pe_and (pe_callB (call_isX hz hf) (by rfl) T.n_isinstance (by decide +kernel) (pa_cons (pv 4) (pa_cons (pe_glob (v := .ref a.c_DueError) rfl T.g_DueError rfl) pa_nil))) (pe_one (pe_not (pv 5)))) pa_nil)))))))))
      (hds_as (i := 4) rfl sc__law_asked.nd rfl rfl ⟨rfl, by decide, Or.inl T.g_BadChoice⟩ (fun xa oe cls xd pn hz hf => (pss_cons (ps_set (i := 5) sc__law_asked.nd rfl (Or.inl rfl) (pe_or (pe_callB (call_isX hz hf) (by rfl) T.n_isinstance (by decide +kernel) (pa_cons (pv 4) (pa_cons (pe_glob (v := .ref a.c_BadDays) rfl T.g_BadDays rfl) pa_nil))) (pe_one (pe_not (pe_callB (call_isX hz hf) (by rfl) T.n_isinstance (by decide +kernel) (pa_cons (pv 4) (pa_cons (pe_glob (v := .ref a.c_DueError) rfl T.g_DueError rfl) pa_nil)))))))
      (pss_one (ps_ret (pe_tup (pa_cons pe_str (pa_cons (pe_xf T.xf_BadChoice T.no_BadChoice_at hz hf (pv 4)) (pa_cons (pe_and (pe_callC (C__law_int T) (L2H.RoomH.mono ⟨hr.dp, hr.un⟩ (show 1 ≤ 9 from by decide)) rfl T.g__law_int T.F__law_int.kp T.b__law_int (pa_cons (pe_xf T.xf_BadChoice T.no_BadChoice_at hz hf (pv 4)) pa_nil)) (pe_one (pe_not (pv 5)))) pa_nil))))))))
      (hds_as (i := 4) rfl sc__law_asked.nd rfl rfl ⟨rfl, by decide, Or.inl T.g_BadDays⟩ (fun xa oe cls xd pn hz hf => (pss_one (ps_ret (pe_tup (pa_cons pe_str (pa_cons (pe_xf T.xf_BadDays T.no_BadDays_at hz hf (pv 4)) (pa_cons (pe_and (pe_callC (C__law_int T) (L2H.RoomH.mono ⟨hr.dp, hr.un⟩ (show 1 ≤ 9 from by decide)) rfl T.g__law_int T.F__law_int.kp T.b__law_int (pa_cons (pe_xf T.xf_BadDays T.no_BadDays_at hz hf (pv 4)) pa_nil)) (pe_one (pe_callB (call_isX hz hf) (by rfl) T.n_isinstance (by decide +kernel) (pa_cons (pv 4) (pa_cons (pe_glob (v := .ref a.c_DueError) rfl T.g_DueError rfl) pa_nil))))) pa_nil)))))))
      (hds_only rfl ⟨rfl, by decide, Or.inl T.g_DueError⟩ (fun xa oe cls xd pn hz hf => (pss_one (ps_ret (pe_tup (pa_cons pe_str (pa_cons pe_int pa_nil))))))
      (hds_nil rfl rfl takes0)))))))), ?_⟩
    refine ⟨_, rfl, _, rfl, _, rfl, _, rfl, k, x, y, z, o, rfl, h, fun e v H' s => ⟨by show 2 ≤ sizeLine; decide, fun u hu => yes e v u _ upd_same (s.trans (Same.new hu))⟩, fun oc e H1 s1 => ?_⟩
    have q := no oc e
    cases oc with
    | rng s v =>
      intro dd H2 hd s2
      refine ⟨true, T.exm_OutOfRange_OutOfRange, fun _ a0 _ => ?_, fun q => Bool.noConfusion q⟩
      refine ⟨_, rfl, _, dd, _, _, _, false, rfl, T.xc_OutOfRange, rfl, hd, rfl, .own _, T.kit_OutOfRange_TooMany, _, rfl, iteF ?_⟩
      refine ⟨_, rfl, _, dd, _, _, _, false, rfl, T.xc_OutOfRange, rfl, hd, rfl, .own _, T.kit_OutOfRange_BadChoice, _, rfl, iteF ?_⟩
      refine ⟨_, rfl, _, dd, _, _, _, false, rfl, T.xc_OutOfRange, rfl, hd, rfl, .own _, T.kit_OutOfRange_BadDays, ?_⟩
      refine ⟨_, rfl, _, dd, _, _, _, true, rfl, T.xc_OutOfRange, rfl, hd, rfl, .own _, T.kit_OutOfRange_DueError, _, rfl, iteT ?_⟩
      refine ⟨_, rfl, _, dd, _, _, _, true, rfl, T.xc_OutOfRange, rfl, hd, rfl, .ty _, T.kitV_OutOfRange, _, rfl, iteT ?_⟩
      refine ⟨_, rfl, _, rfl, ?_⟩
      refine ⟨_, rfl, rfl, rfl, dd, _, .str s, rfl, hd, by kernel_rfl, _, rfl, rfl, rfl, dd, _, .int v, rfl, hd, by kernel_rfl, _, rfl, _, rfl, iteT ⟨_, rfl, rfl, rfl, dd, _, .int v, rfl, hd, by kernel_rfl, v, rfl, (by show 4 ≤ sizeLine; decide), fun u hu => ?_⟩⟩
      exact q u _ upd_same ((s1.trans s2).trans (Same.new hu))
    | many s v =>
      intro dd H2 hd s2
      refine ⟨false, T.exm_TooMany_OutOfRange, fun q => Bool.noConfusion q, fun _ => ⟨true, T.exm_TooMany_TooMany, fun _ a0 _ => ?_, fun q => Bool.noConfusion q⟩⟩
      refine ⟨_, rfl, _, dd, _, _, _, false, rfl, T.xc_TooMany, rfl, hd, rfl, .own _, T.kit_TooMany_BadChoice, _, rfl, iteF ?_⟩
      refine ⟨_, rfl, _, dd, _, _, _, false, rfl, T.xc_TooMany, rfl, hd, rfl, .own _, T.kit_TooMany_BadDays, _, rfl, iteF ?_⟩
      refine ⟨_, rfl, rfl, rfl, dd, _, .int v, rfl, hd, by kernel_rfl, v, rfl, _, rfl, ?_⟩
      refine ⟨_, rfl, rfl, rfl, dd, _, .str s, rfl, hd, by kernel_rfl, _, rfl, rfl, rfl, dd, _, .int v, rfl, hd, by kernel_rfl, ?_⟩
      refine ⟨_, rfl, _, dd, _, _, _, true, rfl, T.xc_TooMany, rfl, hd, rfl, .own _, T.kit_TooMany_DueError, _, rfl, iteT ⟨_, rfl, _, rfl, (by show 4 ≤ sizeLine; decide), fun u hu => ?_⟩⟩
      exact q u _ upd_same ((s1.trans s2).trans (Same.new hu))
    | ch i =>
      intro dd H2 hd s2
      refine ⟨false, T.exm_BadChoice_OutOfRange, fun q => Bool.noConfusion q, fun _ => ⟨false, T.exm_BadChoice_TooMany, fun q => Bool.noConfusion q, fun _ => ⟨true, T.exm_BadChoice_BadChoice, fun _ a0 _ => ?_, fun q => Bool.noConfusion q⟩⟩⟩
      refine ⟨_, rfl, _, dd, _, _, _, false, rfl, T.xc_BadChoice, rfl, hd, rfl, .own _, T.kit_BadChoice_BadDays, _, rfl, iteF ?_⟩
      refine ⟨_, rfl, _, dd, _, _, _, true, rfl, T.xc_BadChoice, rfl, hd, rfl, .own _, T.kit_BadChoice_DueError, _, rfl, ?_⟩
      refine ⟨_, rfl, rfl, rfl, dd, _, .int i, rfl, hd, by kernel_rfl, _, rfl, rfl, rfl, dd, _, .int i, rfl, hd, by kernel_rfl, i, rfl, _, rfl, iteT ⟨_, rfl, _, rfl, (by show 3 ≤ sizeLine; decide), fun u hu => ?_⟩⟩
      exact q u _ upd_same ((s1.trans s2).trans (Same.new hu))
    | dy i =>
      intro dd H2 hd s2
      refine ⟨false, T.exm_BadDays_OutOfRange, fun q => Bool.noConfusion q, fun _ => ⟨false, T.exm_BadDays_TooMany, fun q => Bool.noConfusion q, fun _ => ⟨false, T.exm_BadDays_BadChoice, fun q => Bool.noConfusion q, fun _ => ⟨true, T.exm_BadDays_BadDays, fun _ a0 _ => ?_, fun q => Bool.noConfusion q⟩⟩⟩⟩
      refine ⟨_, rfl, rfl, rfl, dd, _, .int i, rfl, hd, by kernel_rfl, _, rfl, rfl, rfl, dd, _, .int i, rfl, hd, by kernel_rfl, i, rfl, _, rfl, iteT ?_⟩
      refine ⟨_, rfl, _, dd, _, _, _, true, rfl, T.xc_BadDays, rfl, hd, rfl, .own _, T.kit_BadDays_DueError, (by show 3 ≤ sizeLine; decide), fun u hu => ?_⟩
      exact q u _ upd_same ((s1.trans s2).trans (Same.new hu))
end
end My

namespace My
open PySem L2
/-! ### 20. wide parts -/
def spSize : Sp := fun vs H Q _ => ∃ (l cl : Addr) (n : Nat) (low top : Int), vs = [.ref l, .int low, .int top] ∧ PoolAt H l cl n ∧ n < 2 ^ 38 ∧ (0 ≤ low ∧ low ≤ top ∧ top ≤ 1000000) ∧ ∀ (d : Int) H', low ≤ d → d ≤ top → PoolAt H' l cl (n + 2) → Fr l cl H H' → Q (.int d) H'
def spWide : Sp := fun vs H Q _ => ∃ (l cl : Addr) (n : Nat), vs = [.ref l] ∧ PoolAt H l cl n ∧ n < 2 ^ 37 ∧ ∀ p ps H', LPs H' l cl p ps → okPs ps → ps.length ≤ 3 → H p = none → PoolAt H' l cl (n + 30) → Fr l cl H H' → Q (.ref p) H'
section
variable {P : Program} {w : World} {K : PySem.W.Frag} {mg : Str → Option Value} {base : Heap} {a : Ad}
theorem G__law_size (T : Tx K mg a) : FnOk P w K mg base CX0 2 a.f__law_size a.d__law_size ["pool", "low", "top"] spSize := by
  refine T.F__law_size.ok sc__law_size (fun vs H Q E h => ?_) (fun cdv A outer s H vs Q E hr h => ?_)
  · obtain ⟨l, cl, n, low, top, rfl, _⟩ := h
    rfl
  · obtain ⟨l, cl, n, low, top, rfl, hp, hn, ⟨b0, b1, b2⟩, k⟩ := h
    refine ⟨_, (pss_cons (ps_set (i := 3) sc__law_size.nd rfl (Or.inl rfl) (pe_call (G__law_draw T) (hr.mono (by decide)) rfl T.g__law_draw T.F__law_draw.kp T.b__law_draw .nil pass0 (pa_cons (pv 0) (pa_cons pe_int pa_nil))))
      (pss_cons (ps_if (pt_cmpR op_eq (pv 3) pe_int (nomark _)) (pss_one (ps_ret (pe_callB (call_min2 rfl) (by rfl) T.n_min (by decide +kernel) (pa_cons (pv 2) (pa_cons (pe_op op_add (pv 1) (pe_call (G__law_draw T) (hr.mono (by decide)) rfl T.g__law_draw T.F__law_draw.kp T.b__law_draw .nil pass0 (pa_cons (pv 0) (pa_cons pe_int pa_nil)))) pa_nil))))) pss_nil)
      (pss_cons (ps_if (pt_cmpR op_eq (pv 3) pe_int (nomark _)) (pss_one (ps_ret (pe_callB (call_max2 rfl) (by rfl) T.n_max (by decide +kernel) (pa_cons (pv 1) (pa_cons (pe_op op_sub (pv 2) (pe_call (G__law_draw T) (hr.mono (by decide)) rfl T.g__law_draw T.F__law_draw.kp T.b__law_draw .nil pass0 (pa_cons (pv 0) (pa_cons pe_int pa_nil)))) pa_nil))))) pss_nil)
      (pss_one (ps_ret (pe_op op_add (pv 1) (pe_call (G__law_draw T) (hr.mono (by decide)) rfl T.g__law_draw T.F__law_draw.kp T.b__law_draw .nil pass0 (pa_cons (pv 0) (pa_cons (pe_op op_sub (pe_op op_add (pv 2) pe_int) (pv 1)) pa_nil))))))))), ?_⟩
    refine st_letX ⟨_, rfl, l, cl, 3, n, rfl, hp, by omega, by decide, by decide, fun d H1 z0 z1 p1 f1 => ?_⟩
    have c : d = 0 ∨ d = 1 ∨ (d ≠ 0 ∧ d ≠ 1) := by omega
    rcases c with rfl | rfl | ⟨c1, c2⟩
    · refine st_guard (q := True) (a_eq (val_var (i := 3) rfl) val_c) (by simp) (fun _ => ?_) fun z => (z trivial).elim
      refine ⟨_, rfl, _, rfl, _, rfl, l, cl, 12, _, rfl, p1, by omega, by decide, by decide, fun e H2 e0 e1 p2 f2 => ⟨_, _, rfl, rfl, _, _, rfl, ?_⟩⟩
      exact k _ H2 (by split <;> omega) (by split <;> omega) p2 (f1.trans f2)
    · refine st_guard (q := False) (a_eq (val_var (i := 3) rfl) val_c) (by simp) (fun z => z.elim) fun _ => ?_
      refine st_guard (q := True) (a_eq (val_var (i := 3) rfl) val_c) (by simp) (fun _ => ?_) fun z => (z trivial).elim
      refine ⟨_, rfl, _, rfl, _, rfl, l, cl, 3, _, rfl, p1, by omega, by decide, by decide, fun e H2 e0 e1 p2 f2 => ⟨_, _, rfl, rfl, _, _, rfl, ?_⟩⟩
      exact k _ H2 (by split <;> omega) (by split <;> omega) p2 (f1.trans f2)
    · refine st_guard (q := False) (a_eq (val_var (i := 3) rfl) val_c) (by simp; omega) (fun z => z.elim) fun _ => ?_
      refine st_guard (q := False) (a_eq (val_var (i := 3) rfl) val_c) (by simp; omega) (fun z => z.elim) fun _ => ?_
      refine ⟨_, rfl, _, rfl, _, rfl, _, _, rfl, rfl, _, rfl, _, _, rfl, rfl, l, cl, top + 1 - low, _, rfl, p1, by omega, by omega, Int.lt_of_le_of_lt (show top + 1 - low ≤ 1000001 by omega) (by decide), fun e H2 e0 e1 p2 f2 => ⟨_, _, rfl, rfl, ?_⟩⟩
      exact k _ H2 (by omega) (by omega) p2 (f1.trans f2)
theorem G__law_wide (T : Tx K mg a) : FnOk P w K mg base CX0 3 a.f__law_wide a.d__law_wide ["pool"] spWide := by
  refine T.F__law_wide.ok sc__law_wide (fun vs H Q E h => ?_) (fun cdv A outer s H vs Q E hr h => ?_)
  · obtain ⟨l, cl, n, rfl, _⟩ := h
    rfl
  · obtain ⟨l, cl, n, rfl, hp, hn, k⟩ := h
    refine ⟨_, (pss_cons (ps_set (i := 1) sc__law_wide.nd rfl (Or.inl rfl) (pe_lst pa_nil))
      (pss_cons (ps_for PassesOwn.never rfl (pi_range1 rfl T.n_range (pa_cons (pe_call (G__law_draw T) (hr.mono (by decide)) rfl T.g__law_draw T.F__law_draw.kp T.b__law_draw .nil pass0 (pa_cons (pv 0) (pa_cons pe_int pa_nil))) pa_nil)) (pg_name (i := 2) sc__law_wide.nd rfl (Or.inl rfl)) (pss_cons (ps_set (i := 3) sc__law_wide.nd rfl (Or.inl rfl) (pe_call (G__law_size T) (hr.mono (by decide)) rfl T.g__law_size T.F__law_size.kp T.b__law_size .nil pass0 (pa_cons (pv 0) (pa_cons pe_int (pa_cons pe_int pa_nil)))))
      (pss_cons (ps_set (i := 4) sc__law_wide.nd rfl (Or.inl rfl) (pe_call (G__law_size T) (hr.mono (by decide)) rfl T.g__law_size T.F__law_size.kp T.b__law_size .nil pass0 (pa_cons (pv 0) (pa_cons (pv 3) (pa_cons pe_int pa_nil)))))
      (pss_one (ps_expr (pe_bm PySem.F.plainAttrs_list PySem.F.slot_list_append PySem.F.type_list_append mt_append (pv 1) (pa_cons (pe_tup (pa_cons (pv 3) (pa_cons (pv 4) (pa_cons (pe_call (G__law_size T) (hr.mono (by decide)) rfl T.g__law_size T.F__law_size.kp T.b__law_size .nil pass0 (pa_cons (pv 0) (pa_cons pe_int (pa_cons pe_int pa_nil)))) pa_nil)))) pa_nil)))))))
      (pss_one (ps_ret (pv 1))))), ?_⟩
    refine st_letX ⟨by show 0 ≤ sizeLine; decide, fun p hpl => ?_⟩
    obtain ⟨_, n1, n2⟩ := (Fr.refl l cl H).free hp hpl
    have s1 := Same.new (o := .lst []) hpl
    have e1 : upd H p (.lst []) p = some (.lst []) := upd_same
    have p1 := hp.same s1
    have f1 : Fr l cl H (upd H p (.lst [])) := Fr.of s1
    generalize upd H p (.lst []) = H1 at e1 p1 f1
    refine st_seq ⟨_, rfl, l, cl, 4, n, rfl, p1, by omega, by decide, by decide, fun d H2 z0 z1 p2 f2 => ?_⟩
    refine st_forR1 (ta := tC (.int d)) (n := d.toNat) val_c (by omega) (by omega) (fun i σ' H' => ∃ v3 v4 v5 as ps, σ' = [some (.ref l), some (.ref p), v3, v4, v5] ∧ H' p = some (.lst as) ∧ Prs H' as ps ∧ ps.length = i ∧ (∀ q ∈ ps, okPart q) ∧ PoolAt H' l cl (n + 1 + 6 * i) ∧ Fr l cl H H')
      ⟨none, none, none, [], [], rfl, f2 _ _ e1 n1 n2, ⟨rfl, fun i q e => nomatch e⟩, rfl, (fun q z => nomatch z), p2, f1.trans f2⟩ ?_ ?_
    · rintro i σ' H3 hi ⟨v3, v4, v5, as, ps, rfl, g1, g2, g3, g4, p3, f3⟩
      refine st_letX ⟨_, rfl, l, cl, _, 0, 9999, rfl, p3, by omega, ⟨by decide, by decide, by decide⟩, fun lo H4 a0 a1 p4 f4 => ?_⟩
      refine st_letX ?_
      refine ⟨_, rfl, _, rfl, l, cl, _, lo, 9999, rfl, p4, by omega, ⟨a0, a1, by decide⟩, fun hi' H5 a2 a3 p5 f5 => ?_⟩
      have f45 := f4.trans f5
      have g5 := f45 _ _ g1 n1 n2
      refine ⟨_, rfl, tyL g5, ?_⟩
      refine ⟨_, rfl, _, rfl, _, rfl, l, cl, _, 1, 9999, rfl, p5, by omega, ⟨by decide, by decide, by decide⟩, fun st H6 a4 a5 p6 f6 => ⟨by show 3 ≤ sizeLine; decide, fun t ht' => ?_⟩⟩
      have f7 := f45.trans f6
      have g6 := f7 _ _ g1 n1 n2
      have stt := Same.new (o := .tup (part3 (lo, hi', st))) ht'
      have ntp : p ≠ t := ne_of_none g6 ht'
      have g7 := stt _ _ g6
      have p7 := p6.same stt
      have gP : Prs (upd H6 t (.tup (part3 (lo, hi', st)))) as ps := (g2.fr f7 p3).same stt
      refine ⟨p, as, _, rfl, rfl, g7, by rw [g2.1, g3]; exact small1000 (by omega), _, _, _, as ++ [.ref t], ps ++ [(lo, hi', st)], rfl, upd_same, ?_, by simp [g3], ?_, (p7.put n1 n2).mono (by omega), ((f3.trans f7).trans (Fr.of stt)).put hpl⟩
      · refine ⟨by simp [g2.1], fun i' q e => ?_⟩
        by_cases c : i' < ps.length
        · rw [List.getElem?_append_left c] at e
          obtain ⟨u, w1, w2⟩ := gP.2 i' q e
          exact ⟨u, by rw [List.getElem?_append_left (by rw [g2.1]; exact c)]; exact w1, (upd_ne (ne_of w2 g7 (by intro z; cases z))).trans w2⟩
        · have : i' = ps.length := by
            have := (List.getElem?_eq_some_iff.mp e).1
            simp at this
            omega
          subst this
          rw [List.getElem?_append_right (Nat.le_refl _), Nat.sub_self] at e
          cases e
          exact ⟨t, by rw [← g2.1, List.getElem?_append_right (Nat.le_refl _), Nat.sub_self]; rfl, (upd_ne ntp.symm).trans upd_same⟩
      · intro q hq
        rcases List.mem_append.mp hq with hq | hq
        · exact g4 q hq
        · rw [List.mem_singleton.mp hq]
          refine ⟨?_, ?_, ?_, ?_, ?_⟩ <;> dsimp only <;> omega
    · rintro σ' H3 ⟨v3, v4, v5, as, ps, rfl, g1, g2, g3, g4, p3, f3⟩
      exact ⟨_, rfl, k p ps H3 ⟨as, ⟨g1, n1, n2⟩, g2⟩ ⟨by omega, g4⟩ (by omega) hpl (p3.mono (by omega)) f3⟩
end
end My

namespace My
open PySem L2
/-! ### 21. what is no list stays -/
def NL (H H' : Hp) : Prop := ∀ b o, H b = some o → (∀ xs, o ≠ .lst xs) → H' b = some o
theorem Fr.nl {l cl : Addr} {n : Nat} {H H' : Hp} (f : Fr l cl H H') (hp : PoolAt H l cl n) : NL H H' := fun _ _ h n => f.keep hp h n
theorem But.nl {p : Addr} {xs : List V} {H H' : Hp} (b : But p H H') (hp : H p = some (.lst xs)) : NL H H' := fun c o h n => b c o h fun z => by
  rw [z, hp] at h
  cases h
  exact n _ rfl
theorem NL.tup {H H' : Hp} (f : NL H H') {t : Addr} {xs : List V} (h : H t = some (.tup xs)) : H' t = some (.tup xs) := f _ _ h fun _ z => by cases z
theorem NL.ins {H H' : Hp} (f : NL H H') {t C dx : Addr} {fs : List (Str × V)} (h : H t = some (.ins C dx fs)) : H' t = some (.ins C dx fs) := f _ _ h fun _ z => by cases z
theorem NL.sqT {K : PySem.W.Frag} {H H' : Hp} (f : NL H H') {t : Addr} {xs : List V} (ht : SqT K H t xs) : SqT K H' t xs := by
  rcases ht with (z | ⟨o, z⟩) | z
  · exact Or.inl (Or.inl (f _ _ z fun _ y => by cases y))
  · exact Or.inl (Or.inr ⟨o, f _ _ z fun _ y => by cases y⟩)
  · exact Or.inr z
theorem Prs.nl {H H' : Hp} (f : NL H H') {as : List V} {ps : List Part} (h : Prs H as ps) : Prs H' as ps := ⟨h.1, fun i q e => let ⟨t, x, y⟩ := h.2 i q e; ⟨t, x, f.tup y⟩⟩
theorem ChAt.nl {C : Addr} {K : PySem.W.Frag} {H H' : Hp} (f : NL H H') {p : Addr} {ps : List Part} (h : ChAt C K H p ps) : ChAt C K H' p ps := by
  obtain ⟨dx, pt, txt, as, h1, h2, h3, h4⟩ := h
  exact ⟨dx, pt, txt, as, f.ins h1, f.sqT h2, h3.nl f, h4⟩
theorem CdAt.nl {a : Ad} {K : PySem.W.Frag} {H H' : Hp} (f : NL H H') {q : Addr} {cd : Cd} (h : CdAt a K H q cd) : CdAt a K H' q cd := by
  cases cd with
  | md ps fe => obtain ⟨dx, ch, x, h1, h2, h3⟩ := h; exact ⟨dx, ch, x, f.ins h1, h2.nl f, h3⟩
  | wd ps => obtain ⟨dx, ch, x, h1, h2, h3⟩ := h; exact ⟨dx, ch, x, f.ins h1, h2.nl f, h3⟩
  | mo ps => obtain ⟨dx, ch, x, h1, h2, h3⟩ := h; exact ⟨dx, ch, x, f.ins h1, h2.nl f, h3⟩
  | nth k v fe => obtain ⟨dx, x, h1, h3⟩ := h; exact ⟨dx, x, f.ins h1, h3⟩
  | ev k g => obtain ⟨⟨dx, x, h1, h3⟩, h4⟩ := h; exact ⟨⟨dx, x, f.ins h1, h3⟩, h4⟩
  | fr d => obtain ⟨dx, x, h1, h3⟩ := h; exact ⟨dx, x, f.ins h1, h3⟩
  | un d => obtain ⟨dx, x, h1, h3⟩ := h; exact ⟨dx, x, f.ins h1, h3⟩
  | no ds => obtain ⟨dx, dt, x, h1, h2, h3⟩ := h; exact ⟨dx, dt, x, f.ins h1, f.sqT h2, h3⟩
theorem RlAt.nl {a : Ad} {K : PySem.W.Frag} {H H' : Hp} (f : NL H H') {p : Addr} {r : Rl} (h : RlAt a K H p r) : RlAt a K H' p r := by
  obtain ⟨dx, ch, ct, x, as, h1, h2, h3, h4, h5⟩ := h
  exact ⟨dx, ch, ct, x, as, f.ins h1, h2.nl f, f.sqT h3, ⟨h4.1, fun i cd e => let ⟨p, x, y⟩ := h4.2 i cd e; ⟨p, x, y.nl f⟩⟩, h5⟩
theorem RObjs.nl {a : Ad} {K : PySem.W.Frag} {H H' : Hp} (f : NL H H') {as : List V} {rs : List Rl} (h : RObjs a K H as rs) : RObjs a K H' as rs := ⟨h.1, fun i r e => let ⟨p, x, y⟩ := h.2 i r e; ⟨p, x, y.nl f⟩⟩
theorem ScAt.nl {a : Ad} {K : PySem.W.Frag} {H H' : Hp} (f : NL H H') {p : Addr} {rs : List Rl} (h : ScAt a K H p rs) : ScAt a K H' p rs := by
  obtain ⟨dx, rt, x, as, h1, h3, h4, h5⟩ := h
  exact ⟨dx, rt, x, as, f.ins h1, f.sqT h3, h4.nl f, h5⟩
theorem CalAt.nl {C : Addr} {K : PySem.W.Frag} {H H' : Hp} (f : NL H H') {p : Addr} {c : Cal} (h : CalAt C K H p c) : CalAt C K H' p c := by
  obtain ⟨dx, mt, lt, h1, h2, h3⟩ := h
  exact ⟨dx, mt, lt, f.ins h1, f.sqT h2, f.sqT h3⟩
/-! ### 22. a choice, its numbers and its answers -/
def pd (q : Part) : PyData := .tuple [.int q.1, .int q.2.1, .int q.2.2]
theorem prs_all {K : PySem.W.Frag} {H : Hp} : ∀ {as : List V} {ps : List Part}, Prs H as ps → DpAll K H as (ps.map pd)
  | [], [], _ => .nil
  | [], q :: ps, h => by cases h.1
  | v :: as, [], h => by cases h.1
  | v :: as, q :: ps, h => by
    obtain ⟨t, e, ht⟩ := h.2 0 q rfl
    cases e
    refine .cons (.tup (SqT.of ht) (.cons (.int _) (.cons (.int _) (.cons (.int _) .nil)))) (prs_all ⟨Nat.succ.inj h.1, fun i q' e => h.2 (i + 1) q' e⟩)
theorem pd_eq : ∀ ps : List Part, PyData.eqvAll (ps.map pd) (ps.map pd) = true
  | [] => by simp [PyData.eqvAll]
  | q :: r => by
    have i := pd_eq r
    simp [PyData.eqvAll, PyData.eqv, i, pd]
theorem pd_lay : ∀ ps : List Part, PyData.canLayAll0 (ps.map pd) = true
  | [] => by simp [PyData.canLayAll0]
  | q :: r => by
    have i := pd_lay r
    simp [PyData.canLayAll0, PyData.canLay0, i, pd]
theorem pd_depth : ∀ ps : List Part, PyData.depthAll (ps.map pd) ≤ 3
  | [] => by simp [PyData.depthAll]
  | q :: r => by
    have i := pd_depth r
    simp only [List.map_cons, PyData.depthAll, PyData.depth, pd]
    omega
theorem pd_shaped (ps : List Part) : SeqAt.shaped (.list (ps.map pd)) = true := by
  have h1 := pd_depth ps
  have h2 : PyData.depth (.list (ps.map pd)) ≤ 64 := by
    simp only [PyData.depth]
    omega
  show (PyData.canLay0 (.list (ps.map pd)) && decide (PyData.depth (.list (ps.map pd)) ≤ 64)) = true
  rw [Bool.and_eq_true]
  exact ⟨by simp only [PyData.canLay0]; exact pd_lay ps, decide_eq_true h2⟩
theorem ne_prs {K : PySem.W.Frag} {H : Hp} {u t : Addr} {as bs : List V} {ps : List Part} {Q : VK} (hu : H u = some (.lst as)) (ht : H t = some (.lst bs)) (h1 : Prs H as ps) (h2 : Prs H bs ps) (q : Q (.bl false) H) : rNeD K (.ref u) (.ref t) H Q := by
  refine ⟨.list (ps.map pd), .list (ps.map pd), .lst (SqL.of hu) (prs_all h1), .lst (SqL.of ht) (prs_all h2), pd_shaped ps, pd_shaped ps, ?_⟩
  have e : PyData.eqv (.list (ps.map pd)) (.list (ps.map pd)) = true := by
    rw [PyData.eqv]
    exact pd_eq ps
  rw [e]
  exact q
theorem ne_nil {K : PySem.W.Frag} {H : Hp} {u t : Addr} {Q : VK} (hu : H u = some (.tup [])) (ht : H t = some (.tup [])) (q : Q (.bl false) H) : rNeD K (.ref u) (.ref t) H Q := by
  refine ⟨.tuple [], .tuple [], .tup (SqT.of hu) .nil, .tup (SqT.of ht) .nil, by decide, by decide, ?_⟩
  have e : PyData.eqv (.tuple []) (.tuple []) = true := by
    rw [PyData.eqv, PyData.eqvAll]
  rw [e]
  exact q
theorem nums_len {ps : List Part} {lo hi : Int} : (numsOf ps lo hi).length ≤ (hi + 1 - lo).toNat := by
  unfold numsOf numsOf.rgI
  exact Nat.le_trans (List.length_filter_le _ _) (by simp)
def spLChoice : Sp := fun vs H Q _ => ∃ (l cl p : Addr) (n : Nat) (ps : List Part), vs = [.ref l, .ref p] ∧ PoolAt H l cl n ∧ n < 2 ^ 36 ∧ LPs H l cl p ps ∧ okPs ps ∧ ps.length ≤ 3 ∧ ∀ H', PoolAt H' l cl (n + 10) → Fr l cl H H' → Q (.bl true) H'
end My

namespace My
open PySem L2
section
variable {P : Program} {w : World} {K : PySem.W.Frag} {mg : Str → Option Value} {base : Heap} {a : Ad}
theorem G__law_choice (T : Tx K mg a) : FnOk P w K mg base CX0 5 a.f__law_choice a.d__law_choice ["pool", "parts"] spLChoice := by
  refine T.F__law_choice.ok sc__law_choice (fun vs H Q E h => ?_) (fun cdv A outer s H vs Q E hr h => ?_)
  · obtain ⟨l, cl, p, n, ps, rfl, _⟩ := h
    rfl
  · obtain ⟨l, cl, p, n, ps, rfl, hp, hn, hps, ok, l3, k⟩ := h
    refine ⟨_, (pss_cons (ps_set (i := 2) sc__law_choice.nd rfl (Or.inl rfl) (pe_callTy call_list_of (by rfl) T.n_list (by decide +kernel) (pa_cons (pv 1) pa_nil)))
      (pss_cons (ps_set (i := 3) sc__law_choice.nd rfl (Or.inl rfl) (pe_make T.M_Choice (G_Choice_init T) (hr.mono (by decide)) rfl T.g_Choice T.bP_Choice_init_1.choose_spec.2 T.bP_Choice_init_1.choose_spec.1 passL (pa_cons (pv 2) pa_nil)))
      (pss_cons (ps_if (PW.pt (pw_or (pt_cmpR (op_neD hr.units) (pv 2) (pv 1) (nomark _)) (pw_or1 (pt_not (pt_val (pe_callB call_isi (by rfl) T.n_isinstance (by decide +kernel) (pa_cons (pe_fld (pv 3) rfl) (pa_cons (pe_bltn (v := .ty "tuple") rfl T.n_tuple (by decide +kernel) rfl) pa_nil)))))))) (pss_one (ps_ret pe_bl)) pss_nil)
      (pss_cons (ps_expr (pe_bm PySem.F.plainAttrs_list PySem.F.slot_list_insert PySem.F.type_list_insert mt_insert (pv 2) (pa_cons pe_int (pa_cons (pe_tup (pa_cons pe_int (pa_cons pe_int (pa_cons pe_int pa_nil)))) pa_nil))))
      (pss_cons (ps_if (pt_cmpR op_ne (pe_callB call_len_seq (by rfl) T.n_len (by decide +kernel) (pa_cons (pe_fld (pv 3) rfl) pa_nil)) (pe_callB call_len_seq (by rfl) T.n_len (by decide +kernel) (pa_cons (pv 1) pa_nil)) (nomark _)) (pss_one (ps_ret pe_bl)) pss_nil)
      (pss_cons (ps_for PassesOwn.never rfl (pi_range1 rfl T.n_range (pa_cons (pe_callB call_len_seq (by rfl) T.n_len (by decide +kernel) (pa_cons (pv 1) pa_nil)) pa_nil)) (pg_name (i := 4) sc__law_choice.nd rfl (Or.inl rfl)) (pss_one (ps_if (pt_not (pt_val (pe_call (G__law_row T) (hr.mono (by decide)) rfl T.g__law_row T.F__law_row.kp T.b__law_row .nil pass0 (pa_cons (pe_ix ix_tup (pe_fld (pv 3) rfl) (pv 4) (fun _ _ => rfl)) (pa_cons (pe_ix ix_list (pv 1) (pv 4) (fun _ _ => rfl)) pa_nil))))) (pss_one (ps_ret pe_bl)) pss_nil)))
      (pss_cons (ps_set (i := 5) sc__law_choice.nd rfl (Or.inl rfl) (pe_call (G__law_size T) (hr.mono (by decide)) rfl T.g__law_size T.F__law_size.kp T.b__law_size .nil pass0 (pa_cons (pv 0) (pa_cons pe_int (pa_cons pe_int pa_nil)))))
      (pss_cons (ps_set (i := 6) sc__law_choice.nd rfl (Or.inl rfl) (pe_callB (call_min2 rfl) (by rfl) T.n_min (by decide +kernel) (pa_cons pe_int (pa_cons (pe_op op_add (pv 5) (pe_call (G__law_draw T) (hr.mono (by decide)) rfl T.g__law_draw T.F__law_draw.kp T.b__law_draw .nil pass0 (pa_cons (pv 0) (pa_cons pe_int pa_nil)))) pa_nil))))
      (pss_cons (ps_setLc (i := 7) (own := [("x", 8)]) (g := gName 8) (tt := _) rfl sc__law_choice.nd rfl rfl (sw_true rfl rfl rfl (by decide +kernel)) (pi_range2 rfl T.n_range (pa_cons (pv 5) (pa_cons (pe_op op_add (pv 6) pe_int) pa_nil))) (blkOk_by (own := [("x", 8)]) (N := ["pool", "parts", "handed", "one", "k", "low", "high", "some", "x", "points", "a", "told"]) (sc := defScope s__law_choice) (by decide +kernel)) (fun _ _ _ _ _ => (pg_name (i := 8) sc__law_choice.nd rfl (Or.inl rfl))) (fun _ _ _ _ _ => (pts_one (pt_val (pe_call (G__law_chosen T) (hr.mono (by decide)) rfl T.g__law_chosen T.F__law_chosen.kp T.b__law_chosen .nil pass0 (pa_cons (pv 1) (pa_cons (pv 8) pa_nil)))))) (fun _ _ _ _ _ => (pv 8)))
      (pss_cons (ps_if (pt_not (pt_val (pe_call (G__law_row T) (hr.mono (by decide)) rfl T.g__law_row T.F__law_row.kp T.b__law_row .nil pass0 (pa_cons (pe_meth (pv 3) T.cl_Choice T.m_Choice_numbers (G_Choice_numbers T) (hr.mono (by decide)) T.b_Choice_numbers .nil passL (pa_cons (pv 5) (pa_cons (pv 6) pa_nil))) (pa_cons (pv 7) pa_nil))))) (pss_one (ps_ret pe_bl)) pss_nil)
      (pss_cons (ps_if (PW.pt (pw_and (pt_cmpR op_lt (pv 5) (pv 6) (nomark _)) (pw_and1 (pt_cmpR (op_neD hr.units) (pe_meth (pv 3) T.cl_Choice T.m_Choice_numbers (G_Choice_numbers T) (hr.mono (by decide)) T.b_Choice_numbers .nil passL (pa_cons (pv 6) (pa_cons (pv 5) pa_nil))) (pe_tup pa_nil) (nomark _))))) (pss_one (ps_ret pe_bl)) pss_nil)
      (pss_cons (ps_set (i := 9) sc__law_choice.nd rfl (Or.inl rfl) (pe_lst (pa_cons (pv 5) (pa_cons (pv 6) (pa_cons (pe_op op_add pe_int (pv 5)) (pa_cons (pe_op op_pow pe_int pe_int) (pa_cons (pe_call (G__law_far T) (hr.mono (by decide)) rfl T.g__law_far T.F__law_far.kp T.b__law_far .nil pass0 (pa_cons (pv 0) pa_nil)) pa_nil)))))))
      (pss_cons (ps_set (i := 9) sc__law_choice.nd rfl (Or.inl rfl) (pe_op op_cat (pv 9) (pe_lc (own := [("a", 10)]) (g := gName 10) (tt := tYes) rfl sc__law_choice.nd (pi_list (pv 1)) (blkOk_by (own := [("a", 10)]) (N := ["pool", "parts", "handed", "one", "k", "low", "high", "some", "x", "points", "a", "told"]) (sc := defScope s__law_choice) (by decide +kernel)) (fun _ _ _ _ _ => (pg_name (i := 10) sc__law_choice.nd rfl (Or.inl rfl))) (fun _ _ _ _ _ => pts_nil) (fun _ _ _ _ _ => (pe_ix (ix_tupK K) (pv 10) pe_int (fun _ _ => rfl))))))
      (pss_cons (ps_for PassesOwn.never rfl (pi_list (pe_op op_cat (pv 9) (pe_lc (own := [("a", 10)]) (g := gName 10) (tt := tYes) rfl sc__law_choice.nd (pi_list (pv 1)) (blkOk_by (own := [("a", 10)]) (N := ["pool", "parts", "handed", "one", "k", "low", "high", "some", "x", "points", "a", "told"]) (sc := defScope s__law_choice) (by decide +kernel)) (fun _ _ _ _ _ => (pg_name (i := 10) sc__law_choice.nd rfl (Or.inl rfl))) (fun _ _ _ _ _ => pts_nil) (fun _ _ _ _ _ => (pe_ix (ix_tupK K) (pv 10) pe_int (fun _ _ => rfl)))))) (pg_name (i := 8) sc__law_choice.nd rfl (Or.inl rfl)) (pss_cons (ps_set (i := 11) sc__law_choice.nd rfl (Or.inl rfl) (pe_meth (pv 3) T.cl_Choice T.m_Choice_holds (G_Choice_holds T) (hr.mono (by decide)) T.b_Choice_holds .nil passL (pa_cons (pv 8) pa_nil)))
      (pss_one (ps_if (PW.pt (pw_or (pt_not (pt_val (pe_callB call_isi (by rfl) T.n_isinstance (by decide +kernel) (pa_cons (pv 11) (pa_cons (pe_bltn (v := .ty "bool") rfl T.n_bool (by decide +kernel) rfl) pa_nil))))) (pw_or1 (pt_cmpR op_ne (pv 11) (pe_call (G__law_chosen T) (hr.mono (by decide)) rfl T.g__law_chosen T.F__law_chosen.kp T.b__law_chosen .nil pass0 (pa_cons (pv 1) (pa_cons (pv 8) pa_nil))) (nomark _))))) (pss_one (ps_ret pe_bl)) pss_nil))))
      (pss_one (ps_ret pe_bl)))))))))))))))), ?_⟩
    obtain ⟨as, hl, hpr⟩ := id hps
    have la := hpr.1
    refine st_letX ⟨_, rfl, p, _, rfl, Or.inl (SqL.of hl.1), fun hh hhh => ?_⟩
    obtain ⟨_, m1, m2⟩ := (Fr.refl l cl H).free hp hhh
    have s1 := Same.new (o := .lst as) hhh
    have e1 : upd H hh (.lst as) hh = some (.lst as) := upd_same
    generalize upd H hh (.lst as) = H1 at s1 e1
    refine st_letX ⟨_, rfl, fun x dx hx hdx nx => ?_⟩
    have sx := newS (C := a.c_Choice) hx hdx nx
    refine ⟨x, dx, hh, as, ps, rfl, upd_same, Or.inl (sx.seq (SqL.of e1)), (hpr.same s1).same sx, fun z => by omega, fun _ i q e z => (z (ok.2 q (List.mem_of_getElem? e))).elim, fun _ _ H2 hch bx => ⟨rfl, ?_⟩⟩
    have s2 := Same.made hx hdx bx
    clear sx bx hx hdx nx
    have e2 := s2 _ _ e1
    have hp2 := hp.same (s1.trans s2)
    have f2 : Fr l cl H H2 := Fr.of (s1.trans s2)
    have hps2 := hps.same (s1.trans s2)
    have hpr2 := hpr.same (s1.trans s2)
    have hl2 := hl.same (s1.trans s2)
    obtain ⟨dx, pt, txt, ac, c1, c2, c3, c4⟩ := id hch
    dsimp only [gName]
    refine st_guard (q := False) (b := false || !true) (a_or (fun Q q => ⟨_, rfl, _, rfl, ne_prs e2 hl2.1 hpr2 hpr2 ⟨_, rfl, q⟩⟩) fun _ => ans_not (a_val (b := true) fun Q q => ⟨_, rfl, x, _, dx, _, _, rfl, c1, T.cl_Choice, T.no_Choice_parts, (by kernel_rfl : List.lookup _ _ = some (V.ref pt)), _, _, _, _, true, rfl, .ty _, sqT_ty c2, kit_ty (by decide +kernel), q⟩)) (by simp) (fun z => z.elim) fun _ => ?_
    refine st_do ⟨_, rfl, tyL e2, by show 3 ≤ sizeLine; decide, fun t ht => ?_⟩
    have s3 := Same.new (o := .tup [.int 1, .int 2, .int 3]) ht
    have e3 := s3 _ _ e2
    refine ⟨hh, as, 0, .ref t, rfl, rfl, e3, by rw [la]; exact small1000 (by omega), by decide, by decide, ?_⟩
    have hp3 := hp2.same s3
    have f3 := f2.trans (Fr.of s3)
    have hl3 := hl2.same s3
    have hpr3 := hpr2.same s3
    have hch3 := hch.same s3
    clear e2 hp2 f2 hps2 hpr2 hl2 c1 c2 c3 c4 hch
    generalize upd H2 t (.tup [.int 1, .int 2, .int 3]) = H3 at e3 hp3 f3 hl3 hpr3 hch3
    generalize as.take (0 : Int).toNat ++ [.ref t] ++ as.drop (0 : Int).toNat = bs
    have b4 : But hh H3 (upd H3 hh (.lst bs)) := (But.refl hh H3).upd
    have nl4 := But.nl b4 e3
    have hp4 : PoolAt (upd H3 hh (.lst bs)) l cl n := hp3.put m1 m2
    have f4 : Fr l cl H (upd H3 hh (.lst bs)) := f3.put hhh
    have nhp : p ≠ hh := fun z => by rw [← z, hl.1] at hhh; cases hhh
    have hl4 : LL (upd H3 hh (.lst bs)) l cl p as := ⟨b4 _ _ hl3.1 nhp, hl3.2⟩
    have hpr4 := hpr3.nl nl4
    have hch4 := hch3.nl nl4
    clear e3 hp3 f3 hl3 hpr3 hch3 b4 nl4 ht s3
    generalize upd H3 hh (.lst bs) = H4 at hp4 f4 hl4 hpr4 hch4
    obtain ⟨dx4, pt, txt, ac, c1, c2, c3, c4⟩ := id hch4
    have lc := c3.1
    have lp : ∀ {σ : St}, σ[1]? = some (some (.ref p)) → Val (tCB (fun xs H Q => ∃ p ys, xs = [.ref p] ∧ (SqL K H p ys ∨ SqT K H p ys) ∧ Q (.int ys.length) H) (tCons (tVar 1) tNil)) σ H4 (.int (ps.length : Nat)) := fun e => v_cb (val_var e) fun Q q => ⟨p, as, rfl, Or.inl (SqL.of hl4.1), by rw [la]; exact q⟩
    refine st_guard (q := False) (b := !decide ((ps.length : Int) = ps.length)) (a_ne (v_cb (x := .ref pt) (fun Q q => ⟨_, rfl, x, _, dx4, _, _, rfl, c1, T.cl_Choice, T.no_Choice_parts, (by kernel_rfl : List.lookup _ _ = some (V.ref pt)), q⟩) fun Q q => ⟨pt, ac, rfl, Or.inr c2, by rw [lc]; exact q⟩) (lp rfl)) (by simp) (fun z => z.elim) fun _ => ?_
    refine st_seq (st_forR1 (n := ps.length) (lp rfl) rfl (by omega) (fun i σ' H' => ∃ v4, σ' = [some (.ref l), some (.ref p), some (.ref hh), some (.ref x), v4, none, none, none, none, none, none, none] ∧ Same H4 H') ⟨none, rfl, Same.refl _⟩ ?_ ?_)
    · rintro i σ' H5 hi ⟨v4, rfl, s5⟩
      obtain ⟨q, hq⟩ : ∃ q, ps[i]? = some q := ⟨_, List.getElem?_eq_getElem hi⟩
      obtain ⟨t1, w1, w2⟩ := c3.2 i q hq
      obtain ⟨t2, w3, w4⟩ := hpr4.2 i q hq
      refine (show (_ : Prop) from ?_)
      refine ⟨_, rfl, x, _, dx4, _, _, rfl, s5 _ _ c1, T.cl_Choice, T.no_Choice_parts, (by kernel_rfl : List.lookup _ _ = some (V.ref pt)), _, rfl, pt, _, _, .ref t1, rfl, rfl, s5.sqT c2, at_of (j := i) rfl w1, _, rfl, _, rfl, p, _, _, .ref t2, rfl, rfl, SqL.of (s5 _ _ hl4.1), at_of (j := i) rfl w3, ?_⟩
      exact ⟨t1, t2, [q.1, q.2.1, q.2.2], rfl, SqT.of (s5 _ _ w2), Or.inr (SqT.of (s5 _ _ w4)), by show 3 ≤ 1000; decide, fun H6 s6 => ⟨_, rfl, iteF ⟨_, rfl, s5.trans s6⟩⟩⟩
    · rintro σ' H5 ⟨v4, rfl, s5⟩
      have hp5 := hp4.same s5
      have f5 := f4.trans (Fr.of s5)
      have hl5 := hl4.same s5
      have hpr5 := hpr4.same s5
      have hch5 := hch4.same s5
      clear lp c1 c2 c3 c4 lc hp4 f4 hl4 hpr4 hch4 s5
      dsimp only
      refine st_letX ⟨_, rfl, l, cl, _, 0, 9999, rfl, hp5, by omega, ⟨by decide, by decide, by decide⟩, fun lo H6 a0 a1 p6 g6 => ?_⟩
      have f6 := f5.trans g6
      have hl6 := hl5.fr g6
      have hpr6 := hpr5.fr g6 hp5
      have hch6 := hch5.nl (g6.nl hp5)
      refine st_letX ?_
      refine ⟨_, rfl, _, rfl, l, cl, 60, _, rfl, p6, by omega, by decide, by decide, fun d H7 d0 d1 p7 g7 => ⟨_, _, rfl, rfl, _, _, rfl, ?_⟩⟩
      have f7 := f6.trans g7
      have hl7 := hl6.fr g7
      have hpr7 := hpr6.fr g7 p6
      have hch7 := hch6.nl (g7.nl p6)
      obtain ⟨hi, ehi⟩ : ∃ hi, hi = if lo + d < 9999 then lo + d else 9999 := ⟨_, rfl⟩
      have bhi : lo ≤ hi ∧ hi ≤ 9999 ∧ hi ≤ lo + 59 := by rw [ehi]; split <;> omega
      rw [← ehi]
      clear ehi
      refine st_seq ?_
      refine ⟨_, rfl, _, rfl, _, _, rfl, rfl, _, _, rfl, ⟨by omega, by omega, by omega, by omega⟩, fun D hD => ?_⟩
      obtain ⟨D0, D1, D2⟩ := f7.free p7 hD
      refine lc_range (fun i H' => H' D = some (.lst ((((List.range i).map fun j => lo + (j : Nat)).filter (chosen ps)).map V.int)) ∧ Same H7 H') ⟨upd_same, Same.new hD⟩ ?_ ?_
      · rintro i H8 hi' ⟨e8, s8⟩
        refine ⟨rfl, ?_⟩
        refine ⟨_, rfl, _, rfl, p, as, ps, lo + i, rfl, SqL.of (s8 _ _ hl7.1), hpr7.same s8, ok.2, ⟨_, rfl, ?_⟩⟩
        have er : ((List.range (i + 1)).map fun j => lo + (j : Nat)).filter (chosen ps) = ((List.range i).map fun j => lo + (j : Nat)).filter (chosen ps) ++ (if chosen ps (lo + i) = true then [lo + (i : Int)] else []) := by
          rw [List.range_succ, List.map_append, List.filter_append]
          congr 1
          by_cases z : chosen ps (lo + i) = true
          · simp [z]
          · simp [z]
        cases ec : chosen ps (lo + i) with
        | true =>
          rw [ec] at er
          refine iteT ?_
          refine ⟨_, rfl, _, e8, ?_, ?_, ?_⟩
          · rw [List.length_map]
            exact small1000 (Nat.le_trans (List.length_filter_le _ _) (by rw [List.length_map, List.length_range]; omega))
          · rw [upd_same, er, List.map_append]
            rfl
          · exact fun b o e => by
              rw [upd_ne (ne_of_none e hD)]
              exact s8 _ _ e
        | false =>
          rw [ec] at er
          refine iteF ?_
          refine ⟨?_, s8⟩
          rw [e8, er]
          simp
      · rintro H8 ⟨e8, s8⟩
        have e8 : H8 D = some (.lst ((numsOf ps lo hi).map V.int)) := e8
        have p8 := p7.same s8
        have f8 := f7.trans (Fr.of s8)
        have hl8 := hl7.same s8
        have hpr8 := hpr7.same s8
        have hch8 := hch7.same s8
        have nl1 := nums_len (ps := ps) (lo := lo) (hi := hi)
        dsimp only [gName]
        refine st_guardX ?_
        obtain ⟨dx8, pt, txt, ac, c1, c2, c3, c4⟩ := id hch8
        refine ⟨_, rfl, x, dx8, _, rfl, c1, by kernel_rfl, _, rfl, _, rfl, x, ps, lo, hi, rfl, hch8, fun z => (z ⟨a0, by omega⟩).elim, fun _ z => (z ⟨by omega, by omega⟩).elim, fun _ _ => ⟨by omega, fun t H9 ht s9 => ?_⟩⟩
        refine ⟨_, rfl, t, D, numsOf ps lo hi, rfl, SqT.of ht, Or.inl (SqL.of (s9 _ _ e8)), by omega, fun H10 s10 => ⟨_, rfl, iteF ?_⟩⟩
        have s11 := s9.trans s10
        have p9 := p8.same s11
        have f9 := f8.trans (Fr.of s11)
        have hl9 := hl8.same s11
        have hpr9 := hpr8.same s11
        have hch9 := hch8.same s11
        have c9 := s11 _ _ c1
        clear e8 p8 f8 hl8 hpr8 hch8 c1 c2 c3 c4 s9 s10 s11 ht nl1 hD p7 f7 hl7 hpr7 hch7 s8
        refine st_shareH (fun H' => Same H10 H') (fun H' s11 => ?_) fun N hN => ?_
        case refine_2 =>
          refine (a_cmp (f := fun i j => decide (i < j)) (val_var (i := 5) (v := .int lo) rfl) (val_var (i := 6) (v := .int hi) rfl)) _ ?_
          by_cases z : lo < hi
          · rw [decide_eq_true z]
            refine iteT ?_
            refine ⟨_, rfl, x, dx8, _, rfl, c9, by kernel_rfl, _, rfl, _, rfl, x, ps, hi, lo, rfl, hch9, fun z => (z ⟨by omega, by omega⟩).elim, fun _ z => (z ⟨by omega, by omega⟩).elim, fun _ _ => ?_⟩
            have e0 : numsOf ps hi lo = [] := List.eq_nil_of_length_eq_zero (by have := nums_len (ps := ps) (lo := hi) (hi := lo); omega)
            rw [e0]
            refine ⟨by decide, fun t H11 ht s11 => ⟨by show 0 ≤ sizeLine; decide, fun u hu => ?_⟩⟩
            have s12 := Same.new (o := .tup []) hu
            exact ne_nil (s12 _ _ ht) upd_same ⟨_, rfl, iteF (hN _ (s11.trans s12))⟩
          · rw [decide_eq_false z]
            exact iteF (iteF (hN _ (Same.refl _)))
        have pA := p9.same s11
        have fA := f9.trans (Fr.of s11)
        have hlA := hl9.same s11
        have hprA := hpr9.same s11
        have hchA := hch9.same s11
        clear p9 f9 hl9 hpr9 hch9 c9 s11
        refine st_letX ?_
        refine ⟨_, rfl, _, rfl, _, rfl, _, _, rfl, rfl, _, _, rfl, rfl, ⟨by decide, by decide, by decide⟩, _, rfl, l, cl, _, rfl, pA, by omega, fun far HB okd pB gB => ⟨by show 5 ≤ sizeLine; decide, fun u hu => ?_⟩⟩
        have fB := fA.trans gB
        have hlB := hlA.fr gB
        have hprB := hprA.fr gB pA
        have hchB := hchA.nl (gB.nl pA)
        obtain ⟨u0, u1, u2⟩ := fB.free pB hu
        have sC := Same.new (o := .lst [.int lo, .int hi, .int (10000 + lo), .int (10 ^ Int.toNat 40), .int far]) hu
        have eC : upd HB u (.lst [.int lo, .int hi, .int (10000 + lo), .int (10 ^ Int.toNat 40), .int far]) u = some (.lst ([lo, hi, 10000 + lo, 10 ^ 40, far].map V.int)) := upd_same
        have pC := pB.same sC
        have fC := fB.trans (Fr.of sC)
        have hlC := hlB.same sC
        have hprC := hprB.same sC
        have hchC := hchB.same sC
        clear pA fA hlA hprA hchA gB pB fB hlB hprB hchB hu
        generalize upd HB u (.lst [.int lo, .int hi, .int (10000 + lo), .int (10 ^ Int.toNat 40), .int far]) = HC at sC eC pC fC hlC hprC hchC
        have part : ∀ {H' : Hp} {Q' : VK} {i : Nat} {x : V} {y : V} {g : Part → Int} {j : Int} {σ : St}, Same HC H' → as[i]? = some x → ((ps.map g).map V.int)[i]? = some y → (∀ q : Part, atI (part3 q) j = some (V.int (g q))) → σ[10]? = some (some x) → (∀ H2, Same H' H2 → Q' y H2) → tOp (rIxT K) (tVar 10) (tC (.int j)) σ H' Q' := fun s hx hy hg hσ h => by
          obtain ⟨q, t, hq, rfl, ht⟩ := hprC.at hx
          rw [List.getElem?_map, List.getElem?_map, hq] at hy
          cases hy
          exact ⟨_, hσ, t, _, _, _, rfl, rfl, SqT.of (s _ _ ht), hg q, h _ (Same.refl _)⟩
        refine st_letX ?_
        refine ⟨_, rfl, ?_⟩
        refine comp_ixL (a := p) (xs := as) ((ps.map fun q => q.1).map V.int) (fun R q => ⟨_, rfl, q⟩) (SqL.of hlC.1) (by rw [List.length_map, List.length_map, la]) (by omega) (fun x => rfl) (fun i x y H' Q' hx hy s h => part (g := fun q => q.1) s hx hy (fun q => rfl) rfl h) fun D2 HD hD2 eD sD => ?_
        refine ⟨u, D2, _, _, rfl, rfl, sD _ _ eC, eD, by simp only [List.length_map, List.length_cons, List.length_nil]; exact Nat.le_trans (show _ ≤ 8 by omega) (by decide), fun u2 hu2 => ?_⟩
        have sE := Same.new (o := .lst ([lo, hi, 10000 + lo, 10 ^ 40, far].map V.int ++ (ps.map fun q => q.1).map V.int)) hu2
        have eE : upd HD u2 (.lst ([lo, hi, 10000 + lo, 10 ^ 40, far].map V.int ++ (ps.map fun q => q.1).map V.int)) u2 = some (.lst (([lo, hi, 10000 + lo, 10 ^ 40, far] ++ ps.map fun q => q.1).map V.int)) := upd_same.trans (by rw [List.map_append])
        have sF := sD.trans sE
        generalize upd HD u2 (.lst ([lo, hi, 10000 + lo, 10 ^ 40, far].map V.int ++ (ps.map fun q => q.1).map V.int)) = HE at sE eE sF
        clear sE eD hD2 sD eC sC
        dsimp only [gName]
        refine st_seq ?_
        refine ⟨_, rfl, ?_⟩
        refine comp_ixL (a := p) (xs := as) ((ps.map fun q => q.2.1).map V.int) (fun R q => ⟨_, rfl, q⟩) (SqL.of (hlC.same sF).1) (by rw [List.length_map, List.length_map, la]) (by omega) (fun x => rfl) (fun i x y H' Q' hx hy s h => part (g := fun q => q.2.1) (sF.trans s) hx hy (fun q => rfl) rfl h) fun D3 HG hD3 eG sG => ?_
        refine ⟨u2, D3, _, _, rfl, rfl, sG _ _ eE, eG, by simp only [List.length_map, List.length_cons, List.length_append, List.length_nil]; exact Nat.le_trans (show _ ≤ 11 by omega) (by decide), fun u3 hu3 => ?_⟩
        have sJ := Same.new (o := .lst (([lo, hi, 10000 + lo, 10 ^ 40, far] ++ ps.map fun q => q.1).map V.int ++ (ps.map fun q => q.2.1).map V.int)) hu3
        have eJ : upd HG u3 (.lst (([lo, hi, 10000 + lo, 10 ^ 40, far] ++ ps.map fun q => q.1).map V.int ++ (ps.map fun q => q.2.1).map V.int)) u3 = some (.lst ((([lo, hi, 10000 + lo, 10 ^ 40, far] ++ ps.map fun q => q.1) ++ ps.map fun q => q.2.1).map V.int)) := upd_same.trans (by rw [List.map_append (l₂ := ps.map fun q => q.2.1)])
        have sK := (sF.trans sG).trans sJ
        generalize upd HG u3 (.lst (([lo, hi, 10000 + lo, 10 ^ 40, far] ++ ps.map fun q => q.1).map V.int ++ (ps.map fun q => q.2.1).map V.int)) = HJ at sJ eJ sK
        have okz : ∀ z ∈ (([lo, hi, 10000 + lo, 10 ^ 40, far] ++ ps.map fun q => q.1) ++ ps.map fun q => q.2.1), okF z := fun z hz => by
          rcases List.mem_append.mp hz with hz | hz
          · rcases List.mem_append.mp hz with hz | hz
            · simp only [List.mem_cons, List.not_mem_nil, or_false] at hz
              rcases hz with rfl | rfl | rfl | rfl | rfl
              · exact okSmall a0 (by omega)
              · exact okSmall (by omega) (by omega)
              · exact okSmall (by omega) (by omega)
              · exact ⟨by decide, Int.le_refl _⟩
              · exact okd
            · obtain ⟨q, hq, rfl⟩ := List.mem_map.mp hz
              obtain ⟨o1, o2, o3, o4, o5⟩ := ok.2 q hq
              exact okSmall (by omega) (by omega)
          · obtain ⟨q, hq, rfl⟩ := List.mem_map.mp hz
            obtain ⟨o1, o2, o3, o4, o5⟩ := ok.2 q hq
            exact okSmall (by omega) (by omega)
        generalize (([lo, hi, 10000 + lo, 10 ^ 40, far] ++ ps.map fun q => q.1) ++ ps.map fun q => q.2.1) = zs at eJ okz
        have pJ := pC.same sK
        have fJ := fC.trans (Fr.of sK)
        have hlJ := hlC.same sK
        have hprJ := hprC.same sK
        have hchJ := hchC.same sK
        obtain ⟨dxj, pt, txt, ac, c1, c2, c3, c4⟩ := id hchJ
        refine st_forL (tl := tC (.ref u3)) (a := u3) (xs := zs.map V.int) (fun R q => q) (fun i σ' H' => ∃ v8 v10 v11, σ' = [some (.ref l), some (.ref p), some (.ref hh), some (.ref x), v4, some (.int lo), some (.int hi), some (.ref D), v8, some (.ref u2), v10, v11] ∧ H' = HJ) ⟨_, _, _, rfl, rfl⟩ (fun i σ' H' _ ⟨_, _, _, _, e⟩ => by rw [e]; exact SqL.of eJ) ?_ ?_
        · rintro i y σ' H' hy ⟨v8, v10, v11, rfl, rfl⟩
          obtain ⟨z, hz, rfl⟩ := ints_get hy
          have oz := okz z (List.mem_of_getElem? hz)
          refine st_letX ?_
          refine ⟨_, rfl, x, dxj, _, rfl, c1, by kernel_rfl, _, rfl, x, ps, z, rfl, hchJ, fun n => (n oz).elim, fun _ => ?_⟩
          dsimp only [gName]
          refine st_ifp (q := False) (b := !true || !decide (V.bl (chosen ps z) = V.bl (chosen ps z))) (a_or (ans_not (a_val (b := true) fun Q q => ⟨_, rfl, _, _, _, _, true, rfl, .ty _, .base (.bl _), kit_ty (by decide +kernel), q⟩)) fun _ => ans_ne (val_var (i := 11) rfl) (fun Q q => ⟨_, rfl, _, rfl, p, as, ps, z, rfl, SqL.of hlJ.1, hprJ, ok.2, q⟩) rfl rfl) (by simp) (fun z => z.elim) fun _ => ⟨_, _, _, rfl, rfl⟩
        · rintro σ' H' ⟨v8, v10, v11, rfl, rfl⟩
          exact k _ (pJ.mono (by omega)) fJ
end
end My

namespace L2
open PySem PySem.Spec PyProof.Rows
section
variable {K : PySem.W.Frag} {tt : TT} {te : TE} {vs : List Nat} {σ : St} {H1 : Hp} {Q : VK} {i0 : Nat}
/-- over a range: the values are known -/
theorem comp_rg {ta : TE} {n : Nat} (ys : List V) (hl : Val ta σ H1 (.int (n : Nat))) (ly : ys.length = n) (hz : n ≤ 1000000) (hw : ∀ x, wipe ((wipe σ vs).set i0 (some x)) vs = wipe σ vs)
    (he : ∀ (i : Nat) y H (Q' : VK), ys[i]? = some y → Same H1 H → (∀ H2, Same H H2 → Q' y H2) → te ((wipe σ vs).set i0 (some (.int (i : Nat)))) H Q')
    (hd : ∀ D H', H1 D = none → H' D = some (.lst ys) → Same H1 H' → Q (.ref D) H') : tLc (iRng1 (tCons ta tNil)) (gName i0) tYes te vs σ H1 Q := by
  refine hl _ ⟨_, rfl, by omega, by omega, fun D hD => ?_⟩
  refine lc_range (lo := 0) (n := n) (fun i H' => H' D = some (.lst (ys.take i)) ∧ Same H1 H') ⟨upd_same, Same.new hD⟩ ?_ ?_
  · rintro i H' hi ⟨h1, s1⟩
    rw [Int.zero_add]
    refine ⟨hw _, ?_⟩
    obtain ⟨y, hy⟩ : ∃ y, ys[i]? = some y := ⟨_, List.getElem?_eq_getElem (by omega)⟩
    show te _ H' _
    refine he i y H' _ hy s1 fun H2 s2 => ⟨_, s2 _ _ h1, by rw [List.length_take]; exact Nat.lt_of_le_of_lt (Nat.le_trans (Nat.min_le_left _ _) (Nat.le_trans (Nat.le_of_lt hi) hz)) (by decide), ?_, ?_⟩
    · rw [upd_same, take_snoc hy]
    · intro b o e
      rw [upd_ne (ne_of_none e hD)]
      exact s2 _ _ (s1 _ _ e)
  · rintro H' ⟨h1, s1⟩
    rw [← ly, List.take_length] at h1
    exact hd D H' hD h1 s1
end
end L2
namespace My
open PySem L2
/-! ### 23. wrong parts and wrong days -/
theorem Prs.app {H : Hp} {as bs : List V} {ps qs : List Part} (h1 : Prs H as ps) (h2 : Prs H bs qs) : Prs H (as ++ bs) (ps ++ qs) := by
  refine ⟨by simp [h1.1, h2.1], fun i q e => ?_⟩
  by_cases c : i < ps.length
  · rw [List.getElem?_append_left c] at e
    rw [List.getElem?_append_left (by rw [h1.1]; exact c)]
    exact h1.2 i q e
  · rw [List.getElem?_append_right (by omega)] at e
    rw [List.getElem?_append_right (by rw [h1.1]; omega), h1.1]
    exact h2.2 _ q e
theorem Prs.tk {H : Hp} {as : List V} {ps : List Part} {n : Nat} (h : Prs H as ps) : Prs H (as.take n) (ps.take n) := by
  refine ⟨by simp [h.1], fun i q e => ?_⟩
  rw [List.getElem?_take] at e ⊢
  split at e
  · rename_i c
    rw [if_pos c]
    exact h.2 i q e
  · cases e
theorem Prs.dr {H : Hp} {as : List V} {ps : List Part} {n : Nat} (h : Prs H as ps) : Prs H (as.drop n) (ps.drop n) := by
  refine ⟨by simp [h.1], fun i q e => ?_⟩
  rw [List.getElem?_drop] at e ⊢
  exact h.2 _ q e
theorem Prs.one {H : Hp} {t : Addr} {q : Part} (h : H t = some (.tup (part3 q))) : Prs H [.ref t] [q] := ⟨rfl, fun i q' e => by
  rcases i with _ | i
  · cases e
    exact ⟨t, rfl, h⟩
  · cases e⟩
theorem Prs.rep {H : Hp} {t : Addr} {q : Part} (h : H t = some (.tup (part3 q))) (n : Nat) : Prs H (List.replicate n [V.ref t]).flatten (List.replicate n q) := by
  induction n with
  | zero => exact ⟨rfl, fun i q' e => by cases e⟩
  | succ n ih =>
    rw [List.replicate_succ, List.replicate_succ, List.flatten_cons]
    exact Prs.app (ps := [q]) (Prs.one h) ih
def bentL (ps : List Part) (i : Nat) (b : Part) : List Part := (ps ++ [(1, 0, 1)]).take i ++ [b] ++ (ps ++ [(1, 0, 1)]).drop i
theorem bent_at {ps : List Part} {i : Nat} {b : Part} (h : i ≤ ps.length) : (bentL ps i b)[i]? = some b ∧ (∀ (j : Nat) q, j < i → (bentL ps i b)[j]? = some q → q ∈ ps) ∧ (bentL ps i b).length = ps.length + 2 := by
  have l1 : ((ps ++ [((1, 0, 1) : Part)]).take i).length = i := by
    rw [List.length_take, List.length_append]
    simp
    omega
  refine ⟨?_, fun j q hj e => ?_, ?_⟩
  · unfold bentL
    rw [List.append_assoc, List.getElem?_append_right (by omega), l1, Nat.sub_self]
    rfl
  · unfold bentL at e
    rw [List.append_assoc, List.getElem?_append_left (by omega), List.getElem?_take, if_pos hj, List.getElem?_append_left (by omega)] at e
    exact List.mem_of_getElem? e
  · unfold bentL
    rw [List.length_append, List.length_append, l1, List.length_drop, List.length_append]
    simp
    omega
def rgL (a b : Int) : List Int := (List.range (b - a).toNat).map fun i => a + (i : Nat)
theorem rgV_L (a b : Int) : rgV a b = (rgL a b).map V.int := by
  unfold rgV rgL
  rw [List.map_map]
  rfl
def dsA (many : Nat) (odd : Int) : List Int := ((List.range many).map fun k : Nat => 2 * (k : Int)) ++ [odd, 50, 49] ++ rgL 60 160
theorem dsA_lt {many j : Nat} {odd : Int} (h : j < many) : (dsA many odd).getD j 0 = 2 * (j : Int) := by
  simp [dsA, List.getD, List.getElem?_append, h]
theorem dsA_at {many : Nat} {odd : Int} : (dsA many odd).getD many 0 = odd := by
  simp [dsA, List.getD, List.getElem?_append]
theorem dsA_len {many : Nat} {odd : Int} : (dsA many odd).length = many + 103 := by
  simp [dsA, rgL]
theorem dsA_bad {many : Nat} {odd : Int} (m8 : many ≤ 8) (h : odd < 0 ∨ 100000 < odd ∨ (0 < many ∧ odd ≤ 2 * many - 2)) : badAt (dsA many odd) many ∧ ∀ j, j < many → ¬ badAt (dsA many odd) j := by
  refine ⟨⟨by rw [dsA_len]; omega, ?_⟩, ?_⟩
  · rw [dsA_at]
    rcases h with h | h | ⟨h1, h2⟩
    · exact Or.inr (Or.inl (by omega))
    · exact Or.inr (Or.inl (by omega))
    · rw [dsA_lt (j := many - 1) (by omega)]
      exact Or.inr (Or.inr ⟨h1, by omega⟩)
  · rintro j hj ⟨_, z | z | ⟨z1, z2⟩⟩
    · omega
    · rw [dsA_lt hj] at z
      omega
    · rw [dsA_lt hj, dsA_lt (j := j - 1) (by omega)] at z2
      omega
def dsB : List Int := (List.range 101).map fun k : Nat => 1000 * (k : Int)
def dsT : List Int := (List.range 100).map fun k : Nat => 1000 * ((k : Int) + 1)
def dsC (n : Nat) : List Int := dsT ++ (List.range n).map fun k : Nat => 99999 + (k : Int)
theorem dsB_at {j : Nat} (h : j < 101) : dsB.getD j 0 = 1000 * (j : Int) := by
  simp [dsB, List.getD, h]
theorem dsT_at {j : Nat} (h : j < 100) : dsT.getD j 0 = 1000 * ((j : Int) + 1) := by
  simp [dsT, List.getD, h]
theorem dsC_at {j n : Nat} (h : j < 100) : (dsC n).getD j 0 = 1000 * ((j : Int) + 1) := by
  have l : dsT.length = 100 := by simp [dsT]
  have := dsT_at h
  unfold dsC
  rw [List.getD, List.getElem?_append_left (by omega)]
  exact this
theorem dsB_bad : badAt dsB 100 ∧ ∀ j, j < 100 → ¬ badAt dsB j := by
  refine ⟨⟨by simp [dsB], Or.inl rfl⟩, ?_⟩
  rintro j hj ⟨_, z | z | ⟨z1, z2⟩⟩
  · omega
  · rw [dsB_at (by omega)] at z
    omega
  · rw [dsB_at (by omega), dsB_at (by omega)] at z2
    omega
theorem dsC_bad {n : Nat} (h : 0 < n) : badAt (dsC n) 100 ∧ ∀ j, j < 100 → ¬ badAt (dsC n) j := by
  refine ⟨⟨by simp [dsC, dsT]; omega, Or.inl rfl⟩, ?_⟩
  rintro j hj ⟨_, z | z | ⟨z1, z2⟩⟩
  · omega
  · rw [dsC_at (by omega)] at z
    omega
  · rw [dsC_at (by omega), dsC_at (by omega)] at z2
    omega
theorem dsT_ok : ∀ i, ¬ badAt dsT i := by
  rintro j ⟨hj, z | z | ⟨z1, z2⟩⟩
  · simp [dsT] at hj
    omega
  · simp [dsT] at hj
    rw [dsT_at (by omega)] at z
    omega
  · simp [dsT] at hj
    rw [dsT_at (by omega), dsT_at (by omega)] at z2
    omega
theorem dsB_tail : cutV (dsB.map V.int) (some 1) none = dsT.map V.int := by kernel_rfl
/-! ### 24. what the law hears is what it waits for -/
def pdT : Oc → PyData
  | .rng s v => .tuple [.str "range", .str s, .int v, .bool true]
  | .many s n => .tuple [.str "many", .str s, .int n, .bool true]
  | .ch i => .tuple [.str "choice", .int i, .bool true]
  | .dy i => .tuple [.str "days", .int i, .bool true]
theorem tell_dp {K : PySem.W.Frag} {H : Hp} {u : Addr} : ∀ {oc : Oc}, H u = some (.tup (tell oc)) → Dp K H (.ref u) (pdT oc)
  | .rng _ _, h => .tup (SqT.of h) (.cons (.str _) (.cons (.str _) (.cons (.int _) (.cons (.bl _) .nil))))
  | .many _ _, h => .tup (SqT.of h) (.cons (.str _) (.cons (.str _) (.cons (.int _) (.cons (.bl _) .nil))))
  | .ch _, h => .tup (SqT.of h) (.cons (.str _) (.cons (.int _) (.cons (.bl _) .nil)))
  | .dy _, h => .tup (SqT.of h) (.cons (.str _) (.cons (.int _) (.cons (.bl _) .nil)))
theorem pdT_eq : ∀ oc, PyData.eqv (pdT oc) (pdT oc) = true
  | .rng _ _ => by simp [pdT, PyData.eqv, PyData.eqvAll]
  | .many _ _ => by simp [pdT, PyData.eqv, PyData.eqvAll]
  | .ch _ => by simp [pdT, PyData.eqv, PyData.eqvAll]
  | .dy _ => by simp [pdT, PyData.eqv, PyData.eqvAll]
theorem ne_tell {K : PySem.W.Frag} {H : Hp} {u t : Addr} {oc : Oc} {Q : VK} (hs : SeqAt.shaped (pdT oc) = true) (hu : H u = some (.tup (tell oc))) (ht : H t = some (.tup (tell oc))) (q : Q (.bl false) H) : rNeD K (.ref u) (.ref t) H Q := by
  refine ⟨pdT oc, pdT oc, tell_dp hu, tell_dp ht, hs, hs, ?_⟩
  rw [pdT_eq oc]
  exact q
theorem Kd.same {a : Ad} {K : PySem.W.Frag} {H H' : Hp} {k : Int} {x y z : V} {o : Option Oc} (s : Same H H') (h : Kd a K H k x y z o) : Kd a K H' k x y z o := by
  cases h with
  | c0m h1 h2 h3 => exact .c0m (s.sqA h1) (h2.same s) h3
  | c0c h1 h2 h3 h4 h5 h6 => exact .c0c (s.sqA h1) (h2.same s) h3 h4 h5 h6
  | c1e h1 => exact .c1e (s.sqA h1)
  | c1b h1 h2 h3 => exact .c1b (s.sqA h1) h2 h3
  | c2n h => exact .c2n h
  | c2w h1 h2 => exact .c2w h1 h2
  | c2y h1 h2 => exact .c2y h1 h2
  | c3n h => exact .c3n h
  | c3w h1 h2 => exact .c3w h1 h2
  | c3y h1 h2 => exact .c3y h1 h2
  | c4n h => exact .c4n h
  | c4y h => exact .c4y h
  | c5n h => exact .c5n h
  | c5y h => exact .c5y h
  | c6 h1 h2 => exact .c6 (h1.same s) h2
  | c7l h1 h2 => exact .c7l (h1.same s) h2
  | c7h h1 h2 h3 => exact .c7h (h1.same s) h2 h3
  | c8c h1 h2 h3 h4 => exact .c8c (h1.same s) (h2.same s) h3 h4
  | c8r h1 h2 h3 h4 => exact .c8r (h1.same s) (h2.same s) h3 h4
  | c8s h1 h2 h3 h4 => exact .c8s (h1.same s) (h2.same s) h3 h4
  | c9 h1 h2 h3 h4 => exact .c9 (h1.same s) (h2.same s) h3 h4
  | c10 h1 h2 h3 h4 => exact .c10 (h1.same s) (h2.same s) h3 h4
theorem Kd.nl {a : Ad} {K : PySem.W.Frag} {H H' : Hp} {k : Int} {x y z : V} {o : Option Oc} (s : NL H H') (k2 : 2 ≤ k) (h : Kd a K H k x y z o) : Kd a K H' k x y z o := by
  cases h with
  | c0m h1 h2 h3 => omega
  | c0c h1 h2 h3 h4 h5 h6 => omega
  | c1e h1 => omega
  | c1b h1 h2 h3 => omega
  | c2n h => exact .c2n h
  | c2w h1 h2 => exact .c2w h1 h2
  | c2y h1 h2 => exact .c2y h1 h2
  | c3n h => exact .c3n h
  | c3w h1 h2 => exact .c3w h1 h2
  | c3y h1 h2 => exact .c3y h1 h2
  | c4n h => exact .c4n h
  | c4y h => exact .c4y h
  | c5n h => exact .c5n h
  | c5y h => exact .c5y h
  | c6 h1 h2 => exact .c6 (h1.nl s) h2
  | c7l h1 h2 => exact .c7l (h1.nl s) h2
  | c7h h1 h2 h3 => exact .c7h (h1.nl s) h2 h3
  | c8c h1 h2 h3 h4 => exact .c8c (h1.nl s) (h2.nl s) h3 h4
  | c8r h1 h2 h3 h4 => exact .c8r (h1.nl s) (h2.nl s) h3 h4
  | c8s h1 h2 h3 h4 => exact .c8s (h1.nl s) (h2.nl s) h3 h4
  | c9 h1 h2 h3 h4 => exact .c9 (h1.nl s) (h2.nl s) h3 h4
  | c10 h1 h2 h3 h4 => exact .c10 (h1.nl s) (h2.nl s) h3 h4
end My

namespace My
open PySem L2
theorem hasNew {H : Hp} {b : Addr} {o : HO} (_ : Same H (upd H b o)) : upd H b o b = some o := upd_same
def ksW : List Part := (List.range 1500).map fun k : Nat => ((k : Int), (k : Int), 1)
theorem ksW_ok : ∀ q ∈ ksW, okPart q := fun q hq => by
  obtain ⟨k, hk, rfl⟩ := List.mem_map.mp hq
  have := List.mem_range.mp hk
  refine ⟨?_, ?_, ?_, ?_, ?_⟩ <;> dsimp only <;> omega
theorem ksW_in {x : Int} : chosen ksW x = decide (0 ≤ x ∧ x < 1500) := by
  have e0 : ksW.isEmpty = false := by simp [ksW]
  unfold chosen
  rw [e0, Bool.false_or]
  by_cases c : 0 ≤ x ∧ x < 1500
  · rw [decide_eq_true c, List.any_eq_true]
    refine ⟨((x.toNat : Int), (x.toNat : Int), 1), List.mem_map.mpr ⟨x.toNat, List.mem_range.mpr (by omega), rfl⟩, ?_⟩
    unfold inPart
    refine decide_eq_true ⟨?_, ?_, ?_⟩ <;> dsimp only <;> omega
  · rw [decide_eq_false c, List.any_eq_false]
    intro q hq
    obtain ⟨k, hk, rfl⟩ := List.mem_map.mp hq
    have := List.mem_range.mp hk
    unfold inPart
    rw [decide_eq_true_eq]
    rintro ⟨h1, h2, _⟩
    dsimp only at h1 h2
    omega
theorem ksW_nums : numsOf ksW 1490 1600 = rgL 1490 1500 := by
  unfold numsOf
  rw [show chosen ksW = fun x => decide (0 ≤ x ∧ x < 1500) from funext fun x => ksW_in]
  decide +kernel
def spLWrong : Sp := fun vs H Q _ => ∃ (l cl p : Addr) (n : Nat) (ps : List Part), vs = [.ref l, .ref p] ∧ PoolAt H l cl n ∧ n < 2 ^ 36 ∧ LPs H l cl p ps ∧ okPs ps ∧ ps.length ≤ 3 ∧ ∀ H', PoolAt H' l cl (n + 20) → Fr l cl H H' → Q (.bl true) H'
section
variable {P : Program} {w : World} {K : PySem.W.Frag} {mg : Str → Option Value} {base : Heap} {a : Ad}
theorem G__law_wrong (T : Tx K mg a) : FnOk P w K mg base CX0 11 a.f__law_wrong a.d__law_wrong ["pool", "parts"] spLWrong := by
  refine T.F__law_wrong.ok sc__law_wrong (fun vs H Q E h => ?_) (fun cdv A outer s H vs Q E hr h => ?_)
  · obtain ⟨l, cl, p, n, ps, rfl, _⟩ := h
    rfl
  · obtain ⟨l, cl, p, n, ps, rfl, hp, hn, hps, ok, l3, k⟩ := h
    refine ⟨_, (pss_cons (ps_set (i := 2) sc__law_wrong.nd rfl (Or.inl rfl) (pe_op op_mul (pe_call (G__law_draw T) (hr.mono (by decide)) rfl T.g__law_draw T.F__law_draw.kp T.b__law_draw .nil pass0 (pa_cons (pv 0) (pa_cons pe_int pa_nil))) (pe_call (G__law_draw T) (hr.mono (by decide)) rfl T.g__law_draw T.F__law_draw.kp T.b__law_draw .nil pass0 (pa_cons (pv 0) (pa_cons (pe_op op_pow pe_int pe_int) pa_nil)))))
      (pss_cons (ps_set (i := 3) sc__law_wrong.nd rfl (Or.inl rfl) (pe_call (G__law_draw T) (hr.mono (by decide)) rfl T.g__law_draw T.F__law_draw.kp T.b__law_draw .nil pass0 (pa_cons (pv 0) (pa_cons (pe_op op_add (pe_callB call_len_seq (by rfl) T.n_len (by decide +kernel) (pa_cons (pv 1) pa_nil)) pe_int) pa_nil))))
      (pss_cons (ps_set (i := 4) sc__law_wrong.nd rfl (Or.inl rfl) (pe_lst (pa_cons (pe_tup (pa_cons (pe_op op_sub (pe_un un_neg pe_int) (pv 2)) (pa_cons pe_int (pa_cons pe_int pa_nil)))) (pa_cons (pe_tup (pa_cons pe_int (pa_cons pe_int (pa_cons pe_int pa_nil)))) (pa_cons (pe_tup (pa_cons pe_int (pa_cons (pe_op op_add pe_int (pv 2)) (pa_cons pe_int pa_nil)))) (pa_cons (pe_tup (pa_cons pe_int (pa_cons pe_int (pa_cons (pe_un un_neg (pv 2)) pa_nil)))) (pa_cons (pe_tup (pa_cons pe_int (pa_cons pe_int (pa_cons (pe_op op_add pe_int (pv 2)) pa_nil)))) pa_nil)))))))
      (pss_cons (ps_set (i := 5) sc__law_wrong.nd rfl (Or.inl rfl) (pe_op op_cat (pv 1) (pe_lst (pa_cons (pe_tup (pa_cons pe_int (pa_cons pe_int (pa_cons pe_int pa_nil)))) pa_nil))))
      (pss_cons (ps_expr (pe_bm PySem.F.plainAttrs_list PySem.F.slot_list_insert PySem.F.type_list_insert mt_insert (pv 5) (pa_cons (pv 3) (pa_cons (pe_ix ix_list (pv 4) (pe_call (G__law_draw T) (hr.mono (by decide)) rfl T.g__law_draw T.F__law_draw.kp T.b__law_draw .nil pass0 (pa_cons (pv 0) (pa_cons pe_int pa_nil))) (fun _ _ => rfl)) pa_nil))))
      (pss_cons (ps_if (pt_cmpR (op_neD hr.units) (pe_call (G__law_asked T) (hr.mono (by decide)) rfl T.g__law_asked T.F__law_asked.kp T.b__law_asked .nil pass0 (pa_cons pe_int (pa_cons (pv 5) (pa_cons pe_int (pa_cons pe_int pa_nil))))) (pe_tup (pa_cons pe_str (pa_cons (pv 3) (pa_cons pe_bl pa_nil)))) (nomark _)) (pss_one (ps_ret pe_bl)) pss_nil)
      (pss_cons (ps_set (i := 6) sc__law_wrong.nd rfl (Or.inl rfl) (pe_call (G__law_draw T) (hr.mono (by decide)) rfl T.g__law_draw T.F__law_draw.kp T.b__law_draw .nil pass0 (pa_cons (pv 0) (pa_cons pe_int pa_nil))))
      (pss_cons (ps_set (i := 7) sc__law_wrong.nd rfl (Or.inl rfl) (pe_ix ix_list (pe_lst (pa_cons (pe_op op_sub (pe_un un_neg pe_int) (pv 2)) (pa_cons (pe_op op_add pe_int (pv 2)) (pa_cons (pe_op op_sub (pe_op op_sub (pe_op op_mul pe_int (pv 6)) pe_int) (pv 2)) pa_nil)))) (pe_call (G__law_draw T) (hr.mono (by decide)) rfl T.g__law_draw T.F__law_draw.kp T.b__law_draw .nil pass0 (pa_cons (pv 0) (pa_cons pe_int pa_nil))) (fun _ _ => rfl)))
      (pss_cons (ps_set (i := 8) sc__law_wrong.nd rfl (Or.inl rfl) (pe_op op_cat (pe_lc (own := [("k", 9)]) (g := gName 9) (tt := tYes) rfl sc__law_wrong.nd (pi_range1 rfl T.n_range (pa_cons (pv 6) pa_nil)) (blkOk_by (own := [("k", 9)]) (N := ["pool", "parts", "d", "at", "bad", "bent", "many", "odd", "days", "k", "more", "some", "one"]) (sc := defScope s__law_wrong) (by decide +kernel)) (fun _ _ _ _ _ => (pg_name (i := 9) sc__law_wrong.nd rfl (Or.inl rfl))) (fun _ _ _ _ _ => pts_nil) (fun _ _ _ _ _ => (pe_op op_mul pe_int (pv 9)))) (pe_lst (pa_cons (pv 7) (pa_cons pe_int (pa_cons pe_int pa_nil))))))
      (pss_cons (ps_if (pt_cmpR (op_neD hr.units) (pe_call (G__law_asked T) (hr.mono (by decide)) rfl T.g__law_asked T.F__law_asked.kp T.b__law_asked .nil pass0 (pa_cons pe_int (pa_cons (pe_op op_cat (pv 8) (pe_listRg rfl rfl T.n_list (prg_2 rfl T.n_range pe_int pe_int))) (pa_cons pe_int (pa_cons pe_int pa_nil))))) (pe_tup (pa_cons pe_str (pa_cons (pv 6) (pa_cons pe_bl pa_nil)))) (nomark _)) (pss_one (ps_ret pe_bl)) pss_nil)
      (pss_cons (ps_setLc (i := 8) (own := [("k", 9)]) (g := gName 9) (tt := tYes) rfl sc__law_wrong.nd rfl rfl (sw_true rfl rfl rfl (by decide +kernel)) (pi_range1 rfl T.n_range (pa_cons pe_int pa_nil)) (blkOk_by (own := [("k", 9)]) (N := ["pool", "parts", "d", "at", "bad", "bent", "many", "odd", "days", "k", "more", "some", "one"]) (sc := defScope s__law_wrong) (by decide +kernel)) (fun _ _ _ _ _ => (pg_name (i := 9) sc__law_wrong.nd rfl (Or.inl rfl))) (fun _ _ _ _ _ => pts_nil) (fun _ _ _ _ _ => (pe_op op_mul pe_int (pv 9))))
      (pss_cons (ps_set (i := 10) sc__law_wrong.nd rfl (Or.inl rfl) (pe_op op_cat (pe_slice sl_list (pv 8) (po_some pe_int) po_none) (pe_lc (own := [("k", 9)]) (g := gName 9) (tt := tYes) rfl sc__law_wrong.nd (pi_range1 rfl T.n_range (pa_cons (pe_op op_add pe_int (pe_op op_mod (pv 2) pe_int)) pa_nil)) (blkOk_by (own := [("k", 9)]) (N := ["pool", "parts", "d", "at", "bad", "bent", "many", "odd", "days", "k", "more", "some", "one"]) (sc := defScope s__law_wrong) (by decide +kernel)) (fun _ _ _ _ _ => (pg_name (i := 9) sc__law_wrong.nd rfl (Or.inl rfl))) (fun _ _ _ _ _ => pts_nil) (fun _ _ _ _ _ => (pe_op op_add (pe_op op_sub pe_int pe_int) (pv 9))))))
      (pss_cons (ps_for PassesOwn.never rfl (pi_list (pe_lst (pa_cons (pe_tup (pa_cons (pe_callTy call_tuple_of (by rfl) T.n_tuple (by decide +kernel) (pa_cons (pv 8) pa_nil)) (pa_cons pe_int pa_nil))) (pa_cons (pe_tup (pa_cons (pe_lst pa_nil) (pa_cons pe_int pa_nil))) (pa_cons (pe_tup (pa_cons (pv 10) (pa_cons pe_int pa_nil))) pa_nil))))) (pg_name (i := 11) sc__law_wrong.nd rfl (Or.inl rfl)) (pss_one (ps_if (pt_cmpR (op_neD hr.units) (pe_call (G__law_asked T) (hr.mono (by decide)) rfl T.g__law_asked T.F__law_asked.kp T.b__law_asked .nil pass0 (pa_cons pe_int (pa_cons (pe_ix ix_tup (pv 11) pe_int (fun _ _ => rfl)) (pa_cons pe_int (pa_cons pe_int pa_nil))))) (pe_tup (pa_cons pe_str (pa_cons (pe_ix ix_tup (pv 11) pe_int (fun _ _ => rfl)) (pa_cons pe_bl pa_nil)))) (nomark _)) (pss_one (ps_ret pe_bl)) pss_nil)))
      (pss_cons (ps_if (pt_not (pt_val (pe_call (G__law_row T) (hr.mono (by decide)) rfl T.g__law_row T.F__law_row.kp T.b__law_row .nil pass0 (pa_cons (pe_fld (pe_make T.M_NotOn (G_NotOn_init T) (hr.mono (by decide)) rfl T.g_NotOn T.b_NotOn_init .nil passL (pa_cons (pe_slice sl_list (pv 8) (po_some pe_int) po_none) pa_nil)) rfl) (pa_cons (pe_slice sl_list (pv 8) (po_some pe_int) po_none) pa_nil))))) (pss_one (ps_ret pe_bl)) pss_nil)
      (pss_cons (ps_if (pt_cmpR op_lt (pe_call (G__law_draw T) (hr.mono (by decide)) rfl T.g__law_draw T.F__law_draw.kp T.b__law_draw .nil pass0 (pa_cons (pv 0) (pa_cons pe_int pa_nil))) pe_int (nomark _)) (pss_one (ps_ret pe_bl)) pss_nil)
      (pss_cons (ps_set (i := 6) sc__law_wrong.nd rfl (Or.inl rfl) (pe_op op_add pe_int (pe_callB call_len_seq (by rfl) T.n_len (by decide +kernel) (pa_cons (pv 5) pa_nil))))
      (pss_cons (ps_if (pt_cmpR (op_neD hr.units) (pe_call (G__law_asked T) (hr.mono (by decide)) rfl T.g__law_asked T.F__law_asked.kp T.b__law_asked .nil pass0 (pa_cons pe_int (pa_cons (pe_op op_cat (pe_op op_rep (pe_lst (pa_cons (pe_tup (pa_cons pe_int (pa_cons pe_int (pa_cons pe_int pa_nil)))) pa_nil)) pe_int) (pv 5)) (pa_cons pe_int (pa_cons pe_int pa_nil))))) (pe_tup (pa_cons pe_str (pa_cons pe_str (pa_cons (pv 6) (pa_cons pe_bl pa_nil))))) (nomark _)) (pss_one (ps_ret pe_bl)) pss_nil)
      (pss_cons (ps_set (i := 12) sc__law_wrong.nd rfl (Or.inl rfl) (pe_make T.M_Choice (G_Choice_init T) (hr.mono (by decide)) rfl T.g_Choice T.bP_Choice_init_1.choose_spec.2 T.bP_Choice_init_1.choose_spec.1 passL (pa_cons (pe_lc (own := [("k", 9)]) (g := gName 9) (tt := tYes) rfl sc__law_wrong.nd (pi_range1 rfl T.n_range (pa_cons pe_int pa_nil)) (blkOk_by (own := [("k", 9)]) (N := ["pool", "parts", "d", "at", "bad", "bent", "many", "odd", "days", "k", "more", "some", "one"]) (sc := defScope s__law_wrong) (by decide +kernel)) (fun _ _ _ _ _ => (pg_name (i := 9) sc__law_wrong.nd rfl (Or.inl rfl))) (fun _ _ _ _ _ => pts_nil) (fun _ _ _ _ _ => (pe_tup (pa_cons (pv 9) (pa_cons (pv 9) (pa_cons pe_int pa_nil)))))) pa_nil)))
      (pss_one (ps_ret (pe_call (G__law_row T) (hr.mono (by decide)) rfl T.g__law_row T.F__law_row.kp T.b__law_row .nil pass0 (pa_cons (pe_meth (pv 12) T.cl_Choice T.m_Choice_numbers (G_Choice_numbers T) (hr.mono (by decide)) T.b_Choice_numbers .nil passL (pa_cons pe_int (pa_cons pe_int pa_nil))) (pa_cons (pe_listRg rfl rfl T.n_list (prg_2 rfl T.n_range pe_int pe_int)) pa_nil))))))))))))))))))))))), ?_⟩
    obtain ⟨as, hl, hpr⟩ := id hps
    have la := hpr.1
    refine st_letX ⟨_, rfl, l, cl, 2, n, rfl, hp, by omega, by decide, by decide, fun d1 H1 a0 a1 p1 f1 => ⟨_, rfl, _, _, rfl, rfl, ⟨by decide, by decide, by decide⟩, l, cl, _, _, rfl, p1, by omega, by decide, by decide, fun d2 H2 b0 b1 p2 g2 => ⟨_, _, rfl, rfl, Or.inl ⟨by omega, by omega⟩, ?_⟩⟩⟩
    have hd : 0 ≤ d1 * d2 ∧ d1 * d2 < 1000000 := by
      have b1 : d2 < 1000000 := b1
      have : d1 = 0 ∨ d1 = 1 := by omega
      rcases this with rfl | rfl
      · rw [Int.zero_mul]; omega
      · rw [Int.one_mul]; omega
    have f2 := f1.trans g2
    have hl2 := hl.fr f2
    have hpr2 := hpr.fr f2 hp
    dsimp only [gName]
    generalize d1 * d2 = d at hd ⊢
    clear a0 a1 p1 f1 b0 b1 g2 d1 d2 H1
    refine st_letX ?_
    refine ⟨_, rfl, _, rfl, p, as, rfl, Or.inl (SqL.of hl2.1), _, _, rfl, rfl, l, cl, _, _, rfl, p2, by omega, by omega, Int.lt_of_le_of_lt (show _ ≤ (10 : Int) by omega) (by decide), fun at_ H3 c0 c1 p3 g3 => ?_⟩
    have f3 := f2.trans g3
    have hl3 := hl2.fr g3
    have hpr3 := hpr2.fr g3 p2
    clear hl2 hpr2 p2 f2 g3 H2
    refine st_letX ?_
    refine ⟨_, rfl, _, rfl, _, _, rfl, rfl, by show 3 ≤ sizeLine; decide, fun t0 h0 => ⟨by show 3 ≤ sizeLine; decide, fun t1 h1 => ?_⟩⟩
    refine ⟨_, rfl, _, _, rfl, rfl, by show 3 ≤ sizeLine; decide, fun t2 h2 => ⟨_, rfl, _, rfl, by show 3 ≤ sizeLine; decide, fun t3 h3 => ?_⟩⟩
    refine ⟨_, rfl, _, _, rfl, rfl, by show 3 ≤ sizeLine; decide, fun t4 h4 => ⟨by show 5 ≤ sizeLine; decide, fun b hb => ?_⟩⟩
    have s0 := Same.new (o := .tup (part3 (-1 - d, 5, 1))) h0
    have s1 := Same.new (o := .tup (part3 (5, 4, 1))) h1
    have s2 := Same.new (o := .tup (part3 (0, 10000 + d, 1))) h2
    have s3 := Same.new (o := .tup (part3 (3, 5, -d))) h3
    have s4 := Same.new (o := .tup (part3 (3, 5, 10000 + d))) h4
    have s5 := Same.new (o := .lst [.ref t0, .ref t1, .ref t2, .ref t3, .ref t4]) hb
    have w0 := (s1.trans (s2.trans (s3.trans (s4.trans s5)))) t0 _ (hasNew s0)
    have w1 := (s2.trans (s3.trans (s4.trans s5))) t1 _ (hasNew s1)
    have w2 := (s3.trans (s4.trans s5)) t2 _ (hasNew s2)
    have w3 := (s4.trans s5) t3 _ (hasNew s3)
    have w4 := s5 t4 _ (hasNew s4)
    have wb := hasNew s5
    have s05 := s0.trans (s1.trans (s2.trans (s3.trans (s4.trans s5))))
    have p4 := p3.same s05
    have f4 := f3.trans (Fr.of s05)
    have hl4 := hl3.same s05
    have hpr4 := hpr3.same s05
    obtain ⟨_, nb1, nb2⟩ := (f3.trans (Fr.of (s0.trans (s1.trans (s2.trans (s3.trans s4)))))).free (p3.same (s0.trans (s1.trans (s2.trans (s3.trans s4))))) hb
    clear s0 s1 s2 s3 s4 s5 s05 p3 f3 hl3 hpr3
    dsimp only [gName]
    generalize upd _ b (.lst [.ref t0, .ref t1, .ref t2, .ref t3, .ref t4]) = H4 at w0 w1 w2 w3 w4 wb p4 f4 hl4 hpr4 ⊢
    clear h0 h1 h2 h3 h4 hb H3
    refine st_letX ?_
    refine ⟨_, rfl, by show 3 ≤ sizeLine; decide, fun t5 h5 => ⟨by show 1 ≤ sizeLine; decide, fun c hc => ?_⟩⟩
    have s6 := Same.new (o := .tup (part3 (1, 0, 1))) h5
    have s7 := Same.new (o := .lst [.ref t5]) hc
    have s67 := s6.trans s7
    refine ⟨p, c, _, _, rfl, rfl, s67 _ _ hl4.1, upd_same, Nat.le_trans (show as.length + 1 ≤ 10 by omega) (by decide), fun u hu => ?_⟩
    have s8 := Same.new (o := .lst (as ++ [.ref t5])) hu
    have wt5 := (s7.trans s8) t5 _ (hasNew s6)
    have s68 := s67.trans s8
    have wu := hasNew s8
    have p5 := p4.same s68
    have f5 := f4.trans (Fr.of s68)
    have hpr5 := hpr4.same s68
    have wb5 := s68 _ _ wb
    obtain ⟨z0, nu1, nu2⟩ := (f4.trans (Fr.of s67)).free (p4.same s67) hu
    replace w0 := s68 _ _ w0
    replace w1 := s68 _ _ w1
    replace w2 := s68 _ _ w2
    replace w3 := s68 _ _ w3
    replace w4 := s68 _ _ w4
    have nbu : b ≠ u := ne_of_none (s67 _ _ wb) hu
    clear s6 s7 s8 s67 s68 wb
    dsimp only [gName]
    generalize upd _ u (.lst (as ++ [.ref t5])) = H5 at w0 w1 w2 w3 w4 wb5 wu wt5 p5 f5 hpr5 ⊢
    clear h5 hc hu hl4 hpr4 p4 f4 H4
    refine st_do ⟨_, rfl, tyL wu, _, rfl, _, rfl, _, rfl, l, cl, 5, _, rfl, p5, by omega, by decide, by decide, fun e H6 e0 e1 p6 g6 => ?_⟩
    have f6 := f5.trans g6
    have hpr6 := (hpr5.app (Prs.one (q := (1, 0, 1)) wt5)).fr g6 p5
    have wu6 := g6 _ _ wu nu1 nu2
    have wb6 := g6 _ _ wb5 nb1 nb2
    obtain ⟨tb, q, hv, htb, hq⟩ : ∃ (tb : Addr) (q : Part), atI [.ref t0, .ref t1, .ref t2, .ref t3, .ref t4] e = some (V.ref tb) ∧ H6 tb = some (.tup (part3 q)) ∧ ¬ okPart q := by
      have ec : e = 0 ∨ e = 1 ∨ e = 2 ∨ e = 3 ∨ e = 4 := by omega
      rcases ec with rfl | rfl | rfl | rfl | rfl
      · exact ⟨t0, (-1 - d, 5, 1), rfl, g6.tup p5 w0, fun z => by have := z.1; dsimp only at this; omega⟩
      · exact ⟨t1, (5, 4, 1), rfl, g6.tup p5 w1, fun z => by have := z.2.1; dsimp only at this; omega⟩
      · exact ⟨t2, (0, 10000 + d, 1), rfl, g6.tup p5 w2, fun z => by have := z.2.2.1; dsimp only at this; omega⟩
      · exact ⟨t3, (3, 5, -d), rfl, g6.tup p5 w3, fun z => by have := z.2.2.2.1; dsimp only at this; omega⟩
      · exact ⟨t4, (3, 5, 10000 + d), rfl, g6.tup p5 w4, fun z => by have := z.2.2.2.2; dsimp only at this; omega⟩
    refine ⟨b, _, e, .ref tb, rfl, rfl, SqL.of wb6, hv, ?_⟩
    refine ⟨u, _, at_, .ref tb, rfl, rfl, wu6, by rw [List.length_append]; exact Nat.lt_of_le_of_lt (show as.length + 1 ≤ 10 by omega) (by decide), c0, by omega, ?_⟩
    obtain ⟨i, rfl⟩ : ∃ i : Nat, at_ = (i : Int) := ⟨at_.toNat, by omega⟩
    have hi : i ≤ ps.length := by omega
    have hpr7 : Prs H6 ((as ++ [V.ref t5]).take i ++ [V.ref tb] ++ (as ++ [V.ref t5]).drop i) (bentL ps i q) := ((hpr6.tk (n := i)).app (Prs.one htb)).app (hpr6.dr (n := i))
    have b7 : L2.But u H6 (upd H6 u (.lst ((as ++ [V.ref t5]).take i ++ [V.ref tb] ++ (as ++ [V.ref t5]).drop i))) := (But.refl u H6).upd
    have nl7 := But.nl b7 wu6
    replace hpr7 := hpr7.nl nl7
    have wu7 : upd H6 u (.lst ((as ++ [V.ref t5]).take i ++ [V.ref tb] ++ (as ++ [V.ref t5]).drop i)) u = _ := upd_same
    have p7 := p6.put (o := .lst ((as ++ [V.ref t5]).take i ++ [V.ref tb] ++ (as ++ [V.ref t5]).drop i)) nu1 nu2
    have f7 := f6.put (o := .lst ((as ++ [V.ref t5]).take i ++ [V.ref tb] ++ (as ++ [V.ref t5]).drop i)) z0
    obtain ⟨bn1, bn2, bn3⟩ := bent_at (b := q) hi
    have bp : ∀ q' ∈ ps, okPart q' := ok.2
    clear b7 nl7 wu6 p6 f6 hpr6 htb hv wb6 w0 w1 w2 w3 w4 wb5 wu wt5 p5 f5 hpr5 g6
    rw [Int.toNat_natCast]
    generalize (as ++ [V.ref t5]).take i ++ [V.ref tb] ++ (as ++ [V.ref t5]).drop i = bl at hpr7 wu7 p7 f7 ⊢
    generalize upd H6 u (.lst bl) = H7 at hpr7 wu7 p7 f7 ⊢
    refine st_guardX ?_
    refine ⟨_, rfl, 0, .ref u, .int 0, .int 0, some (.ch i), rfl, .c0c (Or.inl (SqL.of wu7)) hpr7 (by rw [bn3]; omega) bn1 hq (fun j q' hj e => bp q' (bn2 j q' hj e)), (fun e => nomatch e), fun oc e v H8 hv s8 => ?_⟩
    cases e
    refine ⟨_, rfl, by show 3 ≤ sizeLine; decide, fun t ht => ne_tell (oc := .ch i) (by kernel_rfl) (Same.new ht _ _ hv) upd_same ⟨_, rfl, iteF ?_⟩⟩
    have s9 := s8.trans (Same.new (o := .tup [.str "choice", .int (i : Nat), .bl true]) ht)
    have p9 := p7.same s9
    have f9 := f7.trans (Fr.of s9)
    have hpr9 := hpr7.same s9
    have wu9 := s9 _ _ wu7
    clear p7 f7 hpr7 wu7 s8 hv s9
    generalize upd H8 t _ = H9 at p9 f9 hpr9 wu9 ⊢
    clear ht H8
    refine st_letX ?_
    refine ⟨_, rfl, l, cl, 9, _, rfl, p9, by omega, by decide, by decide, fun many H10 m0 m9 p10 g10 => ?_⟩
    obtain ⟨m, rfl⟩ : ∃ m : Nat, many = (m : Int) := ⟨many.toNat, by omega⟩
    have f10 := f9.trans g10
    have hpr10 := hpr9.fr g10 p9
    have wu10 := g10 _ _ wu9 nu1 nu2
    clear p9 f9 hpr9 wu9 g10
    refine st_letX ?_
    refine ⟨_, rfl, _, rfl, _, _, rfl, rfl, _, rfl, _, _, rfl, rfl, _, rfl, _, _, rfl, rfl, Or.inl ⟨by omega, by omega⟩, _, _, rfl, rfl, _, rfl, _, _, rfl, rfl, by show 3 ≤ sizeLine; decide, fun b2 hb2 => ?_⟩
    have s11 := Same.new (o := .lst [.int (-1 - d), .int (100001 + d), .int (2 * (m : Int) - 2 - d)]) hb2
    have wb2 := hasNew s11
    have p11 := p10.same s11
    obtain ⟨_, nc1, nc2⟩ := f10.free p10 hb2
    have f11 := f10.trans (Fr.of s11)
    have hpr11 := hpr10.same s11
    have wu11 := s11 _ _ wu10
    clear p10 f10 hpr10 wu10 s11
    generalize upd H10 b2 _ = H11 at p11 f11 hpr11 wu11 wb2 ⊢
    clear hb2 H10
    refine ⟨_, rfl, l, cl, 3, _, rfl, p11, by omega, by decide, by decide, fun e H12 e0 e1 p12 g12 => ?_⟩
    have f12 := f11.trans g12
    have hpr12 := hpr11.fr g12 p11
    have wu12 := g12 _ _ wu11 nu1 nu2
    have wb12 := g12 _ _ wb2 nc1 nc2
    clear p11 f11 hpr11 wu11 g12 wb2
    obtain ⟨odd, hv, hodd⟩ : ∃ odd : Int, atI [.int (-1 - d), .int (100001 + d), .int (2 * (m : Int) - 2 - d)] e = some (V.int odd) ∧ (odd < 0 ∨ 100000 < odd ∨ (0 < m ∧ odd ≤ 2 * m - 2)) := by
      have ec : e = 0 ∨ e = 1 ∨ e = 2 := by omega
      rcases ec with rfl | rfl | rfl
      · exact ⟨_, rfl, by omega⟩
      · exact ⟨_, rfl, by omega⟩
      · exact ⟨_, rfl, by omega⟩
    refine ⟨b2, _, e, .int odd, rfl, rfl, SqL.of wb12, hv, ?_⟩
    clear wb12 hv
    dsimp only [gName]
    refine st_letX ?_
    refine comp_rg (n := m) (((List.range m).map fun k : Nat => 2 * (k : Int)).map V.int) (val_var (i := 6) rfl) (by simp) (by omega) (fun x => rfl) (fun j y H' Q' hy s h => ?_) fun D H13 hD eD sD => ?_
    · have hj : j < m := by have := (List.getElem?_eq_some_iff.mp hy).1; simpa using this
      have ey : y = V.int (2 * (j : Int)) := by
        simp [hj] at hy
        exact hy.symm
      rw [ey] at h
      exact ⟨_, rfl, _, _, rfl, rfl, Or.inl ⟨by omega, by omega⟩, h H' (Same.refl _)⟩
    refine ⟨_, rfl, by show 3 ≤ sizeLine; decide, fun c hc => ?_⟩
    have s14 := Same.new (o := .lst [.int odd, .int 50, .int 49]) hc
    refine ⟨D, c, _, _, rfl, rfl, s14 _ _ eD, upd_same, by rw [List.length_map, List.length_map, List.length_range]; exact Nat.le_trans (show m + 3 ≤ 20 by omega) (by decide), fun d0 hd0 => ?_⟩
    have s15 := Same.new (o := .lst (((List.range m).map fun k : Nat => 2 * (k : Int)).map V.int ++ [.int odd, .int 50, .int 49])) hd0
    have w15 := hasNew s15
    have s16 := (sD.trans s14).trans s15
    have p16 := p12.same s16
    have f16 := f12.trans (Fr.of s16)
    have hpr16 := hpr12.same s16
    have wu16 := s16 _ _ wu12
    clear p12 f12 hpr12 wu12 sD s14 s15 s16 eD
    dsimp only [gName]
    generalize upd _ d0 (.lst (((List.range m).map fun k : Nat => 2 * (k : Int)).map V.int ++ [.int odd, .int 50, .int 49])) = H16 at p16 f16 hpr16 wu16 w15 ⊢
    clear hc hd0 hD
    obtain ⟨bd1, bd2⟩ := dsA_bad (by omega : m ≤ 8) hodd
    refine st_guardX ?_
    refine ⟨_, rfl, _, _, rfl, rfl, RgOk.of_le (by decide) (by decide) (by decide) (by decide), fun r hr0 => ?_⟩
    have s17 := Same.new (o := .lst (rgV 60 160)) hr0
    refine ⟨d0, r, _, _, rfl, rfl, s17 _ _ w15, upd_same, by simp only [List.length_append, List.length_map, List.length_range, List.length_cons, List.length_nil, rgV_length]; exact Nat.le_trans (show m + 3 + 100 ≤ 200 by omega) (by decide), fun v hv => ?_⟩
    have s18 := Same.new (o := .lst (((List.range m).map fun k : Nat => 2 * (k : Int)).map V.int ++ [.int odd, .int 50, .int 49] ++ rgV 60 160)) hv
    have e18 : ((List.range m).map fun k : Nat => 2 * (k : Int)).map V.int ++ [.int odd, .int 50, .int 49] ++ rgV 60 160 = (dsA m odd).map V.int := by
      rw [rgV_L]
      unfold dsA
      rw [List.map_append, List.map_append]
      rfl
    have w18 := hasNew s18
    rw [e18] at w18 s18
    rw [e18]
    refine ⟨1, .ref v, .int 0, .int 0, some (.dy m), rfl, .c1b (Or.inl (SqL.of w18)) bd1 bd2, (fun e => nomatch e), fun oc e v' H18 hv' s19 => ?_⟩
    cases e
    refine ⟨_, rfl, by show 3 ≤ sizeLine; decide, fun t ht => ne_tell (oc := .dy m) (by kernel_rfl) (Same.new ht _ _ hv') upd_same ⟨_, rfl, iteF ?_⟩⟩
    have s20 := ((s17.trans s18).trans s19).trans (Same.new (o := .tup [.str "days", .int (m : Nat), .bl true]) ht)
    have p20 := p16.same s20
    have f20 := f16.trans (Fr.of s20)
    have hpr20 := hpr16.same s20
    have wu20 := s20 _ _ wu16
    clear p16 f16 hpr16 wu16 s17 s18 s19 s20 w15 w18 hv'
    generalize upd H18 t _ = H20 at p20 f20 hpr20 wu20 ⊢
    clear ht hv hr0 H18 bd1 bd2 e18
    refine st_seq ?_
    refine comp_rg (n := 101) (dsB.map V.int) val_c (by simp [dsB]) (by decide) (fun x => rfl) (fun j y H' Q' hy s h => ?_) fun D2 H21 hD2 eD2 sD2 => ?_
    · have hj : j < 101 := by have := (List.getElem?_eq_some_iff.mp hy).1; simpa [dsB] using this
      have ey : y = V.int (1000 * (j : Int)) := by
        simp [dsB, hj] at hy
        exact hy.symm
      rw [ey] at h
      exact ⟨_, rfl, _, _, rfl, rfl, Or.inl ⟨by omega, by omega⟩, h H' (Same.refl _)⟩
    have p21 := p20.same sD2
    have f21 := f20.trans (Fr.of sD2)
    have hpr21 := hpr20.same sD2
    have wu21 := sD2 _ _ wu20
    clear p20 f20 hpr20 wu20 sD2 hD2
    dsimp only [gName]
    refine st_letX ?_
    obtain ⟨N, eN⟩ : ∃ N : Nat, 1 + d % 7 = (N : Int) := ⟨(1 + d % 7).toNat, by omega⟩
    have N8 : 0 < N ∧ N ≤ 7 := by omega
    refine ⟨_, rfl, _, rfl, D2, _, rfl, SqL.of eD2, fun q1 hq1 => ?_⟩
    rw [dsB_tail]
    have s22 := Same.new (o := .lst (dsT.map V.int)) hq1
    have w22 := hasNew s22
    refine comp_rg (n := N) (((List.range N).map fun k : Nat => 99999 + (k : Int)).map V.int) (by rw [← eN]; exact v_rI0 (g := fun i j => .int (i + j)) val_c (v_rI (g := fun i j => .int (i % j)) (val_var (i := 2) rfl) val_c (by decide))) (by simp) (by omega) (fun x => rfl) (fun j y H' Q' hy s h => ?_) fun D3 H23 hD3 eD3 sD3 => ?_
    · have hj : j < N := by have := (List.getElem?_eq_some_iff.mp hy).1; simpa using this
      have ey : y = V.int (99999 + (j : Int)) := by
        simp [hj] at hy
        exact hy.symm
      rw [ey] at h
      exact ⟨_, _, rfl, rfl, _, rfl, _, _, rfl, rfl, h H' (Same.refl _)⟩
    refine ⟨q1, D3, _, _, rfl, rfl, sD3 _ _ w22, eD3, by simp only [List.length_map, List.length_range, dsT]; exact Nat.le_trans (show 100 + N ≤ 200 by omega) (by decide), fun m1 hm1 => ?_⟩
    have s24 := Same.new (o := .lst (dsT.map V.int ++ ((List.range N).map fun k : Nat => 99999 + (k : Int)).map V.int)) hm1
    have e24 : dsT.map V.int ++ ((List.range N).map fun k : Nat => 99999 + (k : Int)).map V.int = (dsC N).map V.int := by
      unfold dsC
      rw [List.map_append]
    rw [e24] at s24
    rw [e24]
    have w24 := hasNew s24
    have s25 := (s22.trans sD3).trans s24
    have p25 := p21.same s25
    have f25 := f21.trans (Fr.of s25)
    have hpr25 := hpr21.same s25
    have wu25 := s25 _ _ wu21
    have eD25 := s25 _ _ eD2
    clear p21 f21 hpr21 wu21 eD2 s22 sD3 s24 s25 w22 e24
    dsimp only [gName]
    generalize upd H23 m1 _ = H25 at p25 f25 hpr25 wu25 eD25 w24 ⊢
    clear hq1 hD3 eD3 hm1 eN
    refine st_seq ?_
    refine ⟨_, rfl, D2, _, rfl, Or.inl ⟨SqL.of eD25, fun y1 hy1 => ⟨by show 2 ≤ sizeLine; decide, fun g1 hg1 => ⟨by show 0 ≤ sizeLine; decide, fun y2 hy2 => ⟨by show 2 ≤ sizeLine; decide, fun g2 hg2 => ⟨_, rfl, by show 2 ≤ sizeLine; decide, fun g3 hg3 => ⟨by show 3 ≤ sizeLine; decide, fun L hL => ?_⟩⟩⟩⟩⟩⟩⟩
    have z1 := Same.new (o := .tup (dsB.map V.int)) hy1
    have z2 := Same.new (o := .tup [.ref y1, .int 100]) hg1
    have z3 := Same.new (o := .lst []) hy2
    have z4 := Same.new (o := .tup [.ref y2, .int 0]) hg2
    have z5 := Same.new (o := .tup [.ref m1, .int 100]) hg3
    have z6 := Same.new (o := .lst [.ref g1, .ref g2, .ref g3]) hL
    have v1 := (z2.trans (z3.trans (z4.trans (z5.trans z6)))) y1 _ (hasNew z1)
    have v2 := (z3.trans (z4.trans (z5.trans z6))) g1 _ (hasNew z2)
    have v3 := (z4.trans (z5.trans z6)) y2 _ (hasNew z3)
    have v4 := (z5.trans z6) g2 _ (hasNew z4)
    have v5 := z6 g3 _ (hasNew z5)
    have v6 := hasNew z6
    have z0 := z1.trans (z2.trans (z3.trans (z4.trans (z5.trans z6))))
    have p26 := p25.same z0
    have f26 := f25.trans (Fr.of z0)
    have hpr26 := hpr25.same z0
    have wu26 := z0 _ _ wu25
    have eD26 := z0 _ _ eD25
    have w26 := z0 _ _ w24
    clear p25 f25 hpr25 wu25 eD25 w24 z1 z2 z3 z4 z5 z6 z0
    generalize upd _ L (.lst [.ref g1, .ref g2, .ref g3]) = H26 at p26 f26 hpr26 wu26 eD26 w26 v1 v2 v3 v4 v5 v6 ⊢
    clear hy1 hg1 hy2 hg2 hg3 hL H25
    have three : ∀ (j : Nat) x, [V.ref g1, V.ref g2, V.ref g3][j]? = some x → ∃ (g : Addr) (v : V) (n : Int), x = .ref g ∧ H26 g = some (.tup [v, .int n]) ∧ Kd a K H26 1 v (.int 0) (.int 0) (some (.dy n)) := fun j x hx => by
      rcases j with _ | _ | _ | j
      · cases hx
        exact ⟨g1, _, _, rfl, v2, .c1b (Or.inr (SqT.of v1)) dsB_bad.1 dsB_bad.2⟩
      · cases hx
        exact ⟨g2, _, _, rfl, v4, .c1e (Or.inl (SqL.of v3))⟩
      · cases hx
        exact ⟨g3, _, _, rfl, v5, .c1b (Or.inl (SqL.of w26)) (dsC_bad N8.1).1 (dsC_bad N8.1).2⟩
      · cases hx
    refine st_forL (tl := tC (.ref L)) (a := L) (xs := [.ref g1, .ref g2, .ref g3]) (fun R q => q) (fun j σ' H' => ∃ v9 v11, σ' = [some (.ref l), some (.ref p), some (.int d), some (.int (i : Nat)), some (.ref b), some (.ref u), some (.int (m : Nat)), some (.int odd), some (.ref D2), v9, some (.ref m1), v11, none] ∧ Same H26 H') ⟨_, _, rfl, Same.refl _⟩ (fun j σ' H' _ ⟨_, _, _, s⟩ => SqL.of (s _ _ v6)) ?_ ?_
    · rintro j x σ' H27 hx ⟨v9, v11, rfl, s27⟩
      obtain ⟨g, v, n', rfl, hg, hk⟩ := three j x hx
      refine (show (_ : Prop) from ?_)
      refine ⟨_, rfl, g, _, _, v, rfl, rfl, SqT.of (s27 _ _ hg), rfl, 1, v, .int 0, .int 0, some (.dy n'), rfl, hk.same s27, (fun e => nomatch e), fun oc e v' H28 hv' s28 => ?_⟩
      cases e
      refine ⟨_, rfl, g, _, _, .int n', rfl, rfl, SqT.of (s28 _ _ (s27 _ _ hg)), rfl, by show 3 ≤ sizeLine; decide, fun t ht => ne_tell (oc := .dy n') (by kernel_rfl) (Same.new ht _ _ hv') upd_same ⟨_, rfl, iteF ⟨_, _, rfl, (s27.trans s28).trans (Same.new ht)⟩⟩⟩
    rintro σ' H27 ⟨v9, v11, rfl, s27⟩
    have p27 := p26.same s27
    have f27 := f26.trans (Fr.of s27)
    have hpr27 := hpr26.same s27
    have wu27 := s27 _ _ wu26
    have eD27 := s27 _ _ eD26
    clear p26 f26 hpr26 wu26 eD26 w26 v1 v2 v3 v4 v5 v6 s27 three
    dsimp only
    refine st_guardX ?_
    refine ⟨_, rfl, _, rfl, D2, _, rfl, SqL.of eD27, fun q1 hq1 x dx hx hdx nx => ?_⟩
    rw [dsB_tail] at hx hdx ⊢
    have s28 := Same.new (o := .lst (dsT.map V.int)) hq1
    have w28 := hasNew s28
    have sx := newS (C := a.c_NotOn) hx hdx nx
    refine ⟨x, dx, q1, dsT, rfl, upd_same, Or.inl (sx.seq (SqL.of w28)), (fun e => by cases e), (fun i z => (dsT_ok i z).elim), fun _ _ H29 hcd bx => ⟨rfl, ?_⟩⟩
    have s29 := s28.trans (Same.made hx hdx bx)
    obtain ⟨dx', dt, xt, g1, g2, _⟩ := hcd
    refine ⟨x, _, dx', _, _, rfl, g1, T.cl_NotOn, T.no_NotOn_days, (by kernel_rfl : List.lookup _ _ = some (V.ref dt)), ?_⟩
    have eD29 := s29 _ _ eD27
    refine ⟨_, rfl, _, rfl, D2, _, rfl, SqL.of eD29, fun q2 hq2 => ?_⟩
    rw [dsB_tail]
    have s30 := Same.new (o := .lst (dsT.map V.int)) hq2
    refine ⟨dt, q2, dsT, rfl, s30.sqT g2, Or.inl (SqL.of upd_same), by simp [dsT], fun H31 s31 => ⟨_, rfl, iteF ?_⟩⟩
    have s32 := (s29.trans s30).trans s31
    have p32 := p27.same s32
    have f32 := f27.trans (Fr.of s32)
    have hpr32 := hpr27.same s32
    have wu32 := s32 _ _ wu27
    clear p27 f27 hpr27 wu27 eD27 s28 sx bx s29 eD29 s30 s31 s32 g1 g2 w28 hx hdx hq1 hq2
    refine st_guardX ?_
    refine ⟨_, rfl, l, cl, 8, _, rfl, p32, by omega, by decide, by decide, fun e H33 e0 e8 p33 g33 => ⟨_, _, rfl, rfl, _, rfl, ?_⟩⟩
    have f33 := f32.trans g33
    have hpr33 := hpr32.fr g33 p32
    have wu33 := g33 _ _ wu32 nu1 nu2
    clear p32 f32 hpr32 wu32 g33
    by_cases c7 : e < 7
    · rw [decide_eq_true c7]
      exact iteT (k _ (p33.mono (by omega)) f33)
    rw [decide_eq_false c7]
    refine iteF ?_
    have lb := hpr33.1
    refine st_letX ?_
    refine ⟨_, rfl, u, _, rfl, Or.inl (SqL.of wu33), _, _, rfl, rfl, ?_⟩
    dsimp only [gName]
    refine st_guardX ?_
    refine ⟨by show 3 ≤ sizeLine; decide, fun t6 h6 => ⟨by show 1 ≤ sizeLine; decide, fun c6 hc6 => ?_⟩⟩
    have s34 := Same.new (o := .tup [.int 0, .int 0, .int 1]) h6
    have s35 := Same.new (o := .lst [.ref t6]) hc6
    refine ⟨c6, 1500, [.ref t6], rfl, rfl, hasNew s35, by decide, by decide, by show 1 * 1500 ≤ sizeLine; decide, fun r6 hr6 => ?_⟩
    rw [show (1500 : Int).toNat = 1500 from rfl] at *
    have s36 := Same.new (o := .lst (List.replicate 1500 [V.ref t6]).flatten) hr6
    have pr6 := Prs.rep (q := (0, 0, 1)) ((s35.trans s36) t6 _ (hasNew s34)) 1500
    have s346 := s34.trans (s35.trans s36)
    have lr : (List.replicate 1500 [V.ref t6]).flatten.length = 1500 := by rw [pr6.1, List.length_replicate]
    refine ⟨_, rfl, r6, u, _, _, rfl, rfl, hasNew s36, s346 _ _ wu33, by rw [lr, lb, bn3]; exact Nat.le_trans (show 1500 + (ps.length + 2) ≤ 1600 by omega) (by decide), fun r7 hr7 => ?_⟩
    have s37 := Same.new (o := .lst ((List.replicate 1500 [V.ref t6]).flatten ++ bl)) hr7
    have s38 := s346.trans s37
    have pr7 := (pr6.app (hpr33.same s346)).same s37
    refine ⟨0, .ref r7, .int 0, .int 0, some (.many "parts" ((List.replicate 1500 ((0, 0, 1) : Part) ++ bentL ps i q).length : Nat)), rfl, .c0m (Or.inl (SqL.of (hasNew s37))) pr7 (by rw [List.length_append, List.length_replicate, bn3]; omega), (fun e => nomatch e), fun oc e v H39 hv s39 => ?_⟩
    cases e
    have em : (1500 : Int) + (bl.length : Nat) = ((List.replicate 1500 ((0, 0, 1) : Part) ++ bentL ps i q).length : Nat) := by
      rw [List.length_append, List.length_replicate, lb]
      omega
    rw [em]
    generalize (List.replicate 1500 ((0, 0, 1) : Part) ++ bentL ps i q).length = nm at hv
    refine ⟨_, rfl, by show 4 ≤ sizeLine; decide, fun t ht => ne_tell (oc := .many "parts" nm) (by kernel_rfl) (Same.new ht _ _ hv) upd_same ⟨_, rfl, iteF ?_⟩⟩
    have s40 := (s38.trans s39).trans (Same.new (o := .tup [.str "many", .str "parts", .int (nm : Nat), .bl true]) ht)
    have p40 := p33.same s40
    have f40 := f33.trans (Fr.of s40)
    clear p33 f33 hpr33 wu33 s34 s35 s36 pr6 s346 lr s37 s38 pr7 s39 s40 em hv
    generalize upd H39 t _ = H40 at p40 f40 ⊢
    clear ht h6 hc6 hr6 hr7
    refine st_letX ?_
    refine ⟨_, rfl, by decide, by decide, fun D5 hD5 => ?_⟩
    refine lc_range (lo := 0) (n := 1500) (fun j H' => ∃ xs, H' D5 = some (.lst xs) ∧ Prs H' xs ((List.range j).map fun k : Nat => ((k : Int), (k : Int), 1)) ∧ Same H40 H') ⟨[], upd_same, ⟨rfl, fun i q e => by cases e⟩, Same.new hD5⟩ ?_ ?_
    · rintro j H' hj ⟨xs, e1, pr, sj⟩
      rw [Int.zero_add]
      refine ⟨rfl, ?_⟩
      refine ⟨_, rfl, _, rfl, by show 3 ≤ sizeLine; decide, fun t8 h8 => ?_⟩
      have s41 := Same.new (o := .tup [.int (j : Nat), .int (j : Nat), .int 1]) h8
      have lx : xs.length = j := by rw [pr.1, List.length_map, List.length_range]
      have b42 : L2.But D5 _ (upd (upd H' t8 (.tup [.int (j : Nat), .int (j : Nat), .int 1])) D5 (.lst (xs ++ [.ref t8]))) := (But.refl _ _).upd
      have n42 := But.nl b42 (s41 _ _ e1)
      refine ⟨xs, s41 _ _ e1, by rw [lx]; exact Nat.lt_of_lt_of_le hj (by decide), xs ++ [.ref t8], upd_same, ?_, ?_⟩
      · rw [List.range_succ, List.map_append]
        exact ((pr.same s41).app (Prs.one (q := ((j : Int), (j : Int), 1)) (hasNew s41))).nl n42
      · exact fun b o e => by
          rw [upd_ne (ne_of_none e hD5)]
          exact s41 _ _ (sj _ _ e)
    rintro H41 ⟨xs, e1, pr, sj⟩
    have pr : Prs H41 xs ksW := pr
    refine fun x dx hx hdx nx => ?_
    have sx := newS (C := a.c_Choice) hx hdx nx
    have l15 : ksW.length ≤ 1500 := by simp [ksW]
    refine ⟨x, dx, D5, xs, ksW, rfl, upd_same, Or.inl (sx.seq (SqL.of e1)), pr.same sx, fun z => by omega, fun _ i q e z => (z (ksW_ok q (List.mem_of_getElem? e))).elim, fun _ _ H42 hch bx => ⟨rfl, ?_⟩⟩
    have s42 := sj.trans (Same.made hx hdx bx)
    obtain ⟨dx', pt, txt, ac, c1, _⟩ := id hch
    refine ⟨_, rfl, x, dx', _, rfl, c1, by kernel_rfl, x, ksW, 1490, 1600, rfl, hch, fun z => (z ⟨by decide, by decide⟩).elim, fun _ z => (z ⟨by decide, by decide⟩).elim, fun _ _ => ?_⟩
    rw [ksW_nums]
    refine ⟨by decide, fun t9 H43 ht9 s43 => ?_⟩
    refine ⟨_, _, rfl, rfl, RgOk.of_le (by decide) (by decide) (by decide) (by decide), fun r9 hr9 => ?_⟩
    have s44 := Same.new (o := .lst (rgV 1490 1500)) hr9
    refine ⟨t9, r9, rgL 1490 1500, rfl, SqT.of (s44 _ _ ht9), Or.inl (SqL.of (by rw [← rgV_L]; exact upd_same)), by decide, fun H45 s45 => ?_⟩
    have s46 := ((s42.trans s43).trans s44).trans s45
    exact k _ ((p40.same s46).mono (by omega)) (f40.trans (Fr.of s46))
end
end My

namespace My
open PySem L2
/-! ### 25. rows of asked calls -/
def RowAt (a : Ad) (K : PySem.W.Frag) (H : Hp) (x : V) : Prop := ∃ (t e : Addr) (κ : Int) (v1 v2 v3 : V) (oc : Oc), x = .ref t ∧ H t = some (.tup [.int κ, v1, v2, v3, .ref e]) ∧ H e = some (.tup (tell oc)) ∧ SeqAt.shaped (pdT oc) = true ∧ 2 ≤ κ ∧ Kd a K H κ v1 v2 v3 (some oc)
theorem RowAt.nl {a : Ad} {K : PySem.W.Frag} {H H' : Hp} (s : NL H H') {x : V} (h : RowAt a K H x) : RowAt a K H' x := let ⟨t, e, κ, v1, v2, v3, oc, h1, h2, h3, h4, h5, h6⟩ := h; ⟨t, e, κ, v1, v2, v3, oc, h1, s.tup h2, s.tup h3, h4, h5, h6.nl s h5⟩
theorem nlS {H H' : Hp} (s : Same H H') : NL H H' := fun _ _ h _ => s _ _ h
structure IV (a : Ad) (K : PySem.W.Frag) (H0 : Hp) (l cl rr land rule : Addr) (n : Nat) (c : Cal) (r : Rl) (H : Hp) (B : Nat) : Prop where
  pool : PoolAt H l cl n
  fr : Fr l cl H0 H
  cal : CalAt a.c_Calendar K H land c
  rul : RlAt a K H rule r
  rows : ∃ rs, H rr = some (.lst rs) ∧ rs.length ≤ B ∧ ∀ x ∈ rs, RowAt a K H x
section
variable {a : Ad} {K : PySem.W.Frag} {H0 H1 H2 : Hp} {l cl rr land rule : Addr} {n B : Nat} {c : Cal} {r : Rl}
theorem IV.same (h : IV a K H0 l cl rr land rule n c r H1 B) (s : Same H1 H2) : IV a K H0 l cl rr land rule n c r H2 B := ⟨h.pool.same s, h.fr.trans (Fr.of s), h.cal.same s, h.rul.same s, let ⟨rs, x, y, z⟩ := h.rows; ⟨rs, s _ _ x, y, fun v hv => (z v hv).nl (nlS s)⟩⟩
theorem IV.mono (h : IV a K H0 l cl rr land rule n c r H1 B) {B' : Nat} (e : B ≤ B') : IV a K H0 l cl rr land rule n c r H1 B' := ⟨h.pool, h.fr, h.cal, h.rul, let ⟨rs, x, y, z⟩ := h.rows; ⟨rs, x, Nat.le_trans y e, z⟩⟩
theorem IV.nel (h : IV a K H0 l cl rr land rule n c r H1 B) {b : Addr} (hb : H1 b = none) : b ≠ rr := (let ⟨_, x, _⟩ := h.rows; ne_of_none x hb).symm
theorem IV.ty (h : IV a K H0 l cl rr land rule n c r H1 B) : tyV K "list" (.ref rr) H1 := let ⟨_, x, _⟩ := h.rows; tyL x
theorem IV.row (h : IV a K H0 l cl rr land rule n c r H1 B) (hrr : H0 rr = none) (m1 : rr ≠ l) (m2 : rr ≠ cl) (hB : B ≤ 100) {t0 e0 : Addr} {κ : Int} {v1 v2 v3 : V} {oc : Oc} (hs : SeqAt.shaped (pdT oc) = true) (k2 : 2 ≤ κ) (hk : Kd a K H1 κ v1 v2 v3 (some oc))
    (he : H1 e0 = none) (ht : upd H1 e0 (.tup (tell oc)) t0 = none) : ∃ rs, upd (upd H1 e0 (.tup (tell oc))) t0 (.tup [.int κ, v1, v2, v3, .ref e0]) rr = some (.lst rs) ∧ rs.length < sizeLine ∧
    ∀ H2, H2 = upd (upd (upd H1 e0 (.tup (tell oc))) t0 (.tup [.int κ, v1, v2, v3, .ref e0])) rr (.lst (rs ++ [.ref t0])) → IV a K H0 l cl rr land rule n c r H2 (B + 1) ∧ L2.But rr H1 H2 := by
  have s1 := Same.new (o := .tup (tell oc)) he
  have s2 := Same.new (o := .tup [.int κ, v1, v2, v3, .ref e0]) ht
  have s := s1.trans s2
  have h := h.same s
  obtain ⟨rs, x, y, z⟩ := h.rows
  refine ⟨rs, x, Nat.lt_of_le_of_lt (Nat.le_trans y hB) (by decide), fun H2 e => ?_⟩
  subst e
  have b : L2.But rr _ (upd (upd (upd H1 e0 (.tup (tell oc))) t0 (.tup [.int κ, v1, v2, v3, .ref e0])) rr (.lst (rs ++ [.ref t0]))) := (But.refl _ _).upd
  have nl := But.nl b x
  have row : RowAt a K (upd (upd H1 e0 (.tup (tell oc))) t0 (.tup [.int κ, v1, v2, v3, .ref e0])) (.ref t0) := ⟨t0, e0, κ, v1, v2, v3, oc, rfl, upd_same, s2 _ _ upd_same, hs, k2, hk.same s⟩
  refine ⟨⟨h.pool.put m1 m2, h.fr.put hrr, h.cal.nl nl, h.rul.nl nl, rs ++ [.ref t0], upd_same, by simp; omega, fun v hv => ?_⟩, But.same s b⟩
  rcases List.mem_append.mp hv with hv | hv
  · exact (z v hv).nl nl
  · rw [List.mem_singleton.mp hv]
    exact row.nl nl
end
theorem RObjs.one {a : Ad} {K : PySem.W.Frag} {H : Hp} {p : Addr} {r : Rl} (h : RlAt a K H p r) : RObjs a K H [.ref p] [r] := ⟨rfl, fun i r' e => by
  rcases i with _ | i
  · cases e
    exact ⟨p, rfl, h⟩
  · cases e⟩
theorem no_top : ∀ i, ¬ badAt [100000] i := by
  rintro i ⟨h, z⟩
  rcases i with _ | i
  · simp at z
  · simp at h
theorem two_at {x y z : V} {j : Nat} (h : [x, y][j]? = some z) : z = x ∨ z = y := by
  rcases j with _ | _ | j
  · cases h; exact Or.inl rfl
  · cases h; exact Or.inr rfl
  · cases h
def EndAt (a : Ad) (K : PySem.W.Frag) (H : Hp) (x : V) : Prop := ∃ (t : Addr) (κ : Int) (s : Str) (lo hi : Int), x = .ref t ∧ H t = some (.tup [.int κ, .str s, .int lo, .int hi]) ∧ lo ≤ hi ∧ 2 ≤ κ ∧ (∀ v, SeqAt.shaped (pdT (.rng s v)) = true) ∧
  (∀ H v, ¬ (lo ≤ v ∧ v ≤ hi) → Kd a K H κ (.int v) (.int (-1)) (.int 0) (some (.rng s v))) ∧ ∀ H v, (lo ≤ v ∧ v ≤ hi) → Kd a K H κ (.int v) (.int 0) (.int 0) none
theorem make0 {P : Program} {w : World} {K : PySem.W.Frag} {mg : Str → Option Value} {a : Ad} (T : Tx K mg a) {E : XK} {σ : St} {H : Hp} {Q : VK} (k : ∀ x H', ChAt a.c_Choice K H' x [] → Same H H' → Q (.ref x) H') : tMake a.c_Choice (spChInit a K) [.ref a.e_Choice_init_parts] E tNil σ H Q := by
  refine fun x dx hx hdx nx => ?_
  exact ⟨x, dx, a.e_Choice_init_parts, [], [], rfl, upd_same, Or.inr (T.z_Choice_init_parts _), ⟨rfl, fun i q e => by cases e⟩, (fun z => absurd z (Nat.not_lt_zero _)), (fun _ i q e => by cases e), fun _ _ H' hch bx => ⟨rfl, k x H' hch (Same.made hx hdx bx)⟩⟩
theorem shRng (s : Str) (v : Int) (h : SeqAt.shaped (pdT (.rng s 0)) = true) : SeqAt.shaped (pdT (.rng s v)) = true := h
def spLInt (a : Ad) (K : PySem.W.Frag) : Sp := fun vs H Q _ => ∃ (l cl land rule : Addr) (n : Nat) (c : Cal) (r : Rl), vs = [.ref l, .ref land, .ref rule] ∧ PoolAt H l cl n ∧ n < 2 ^ 36 ∧ CalAt a.c_Calendar K H land c ∧ OkCal c ∧ RlAt a K H rule r ∧ ∀ H', PoolAt H' l cl (n + 10) → Fr l cl H H' → Q (.bl true) H'
section
variable {P : Program} {w : World} {K : PySem.W.Frag} {mg : Str → Option Value} {base : Heap} {a : Ad}
theorem G__law_integers (T : Tx K mg a) : FnOk P w K mg base CX0 11 a.f__law_integers a.d__law_integers ["pool", "land", "rule"] (spLInt a K) := by
  refine T.F__law_integers.ok sc__law_integers (fun vs H Q E h => ?_) (fun cdv A outer s H vs Q E hr h => ?_)
  · obtain ⟨l, cl, land, rule, n, c, r, rfl, _⟩ := h
    rfl
  · obtain ⟨l, cl, land, rule, n, c, r, rfl, hp, hn, hc, ok, hrl, k⟩ := h
    refine ⟨_, (pss_cons (ps_set (i := 3) sc__law_integers.nd rfl (Or.inl rfl) (pe_op op_mul (pe_call (G__law_draw T) (hr.mono (by decide)) rfl T.g__law_draw T.F__law_draw.kp T.b__law_draw .nil pass0 (pa_cons (pv 0) (pa_cons pe_int pa_nil))) (pe_call (G__law_draw T) (hr.mono (by decide)) rfl T.g__law_draw T.F__law_draw.kp T.b__law_draw .nil pass0 (pa_cons (pv 0) (pa_cons (pe_op op_pow pe_int pe_int) pa_nil)))))
      (pss_cons (ps_set (i := 4) sc__law_integers.nd rfl (Or.inl rfl) (pe_lst pa_nil))
      (pss_cons (ps_set (i := 5) sc__law_integers.nd rfl (Or.inl rfl) (pe_lst (pa_cons (pe_tup (pa_cons pe_int (pa_cons pe_str (pa_cons pe_int (pa_cons pe_int pa_nil))))) (pa_cons (pe_tup (pa_cons pe_int (pa_cons pe_str (pa_cons pe_int (pa_cons pe_int pa_nil))))) (pa_cons (pe_tup (pa_cons pe_int (pa_cons pe_str (pa_cons pe_int (pa_cons pe_int pa_nil))))) pa_nil)))))
      (pss_cons (ps_for PassesOwn.never rfl (pi_list (pe_op op_cat (pv 5) (pe_lst (pa_cons (pe_tup (pa_cons pe_int (pa_cons pe_str (pa_cons pe_int (pa_cons pe_int pa_nil))))) pa_nil)))) (pg_name (i := 6) sc__law_integers.nd rfl (Or.inl rfl)) (pss_cons (ps_for PassesOwn.never rfl (pi_list (pe_lst (pa_cons (pe_op op_sub (pe_op op_sub (pe_ix ix_tup (pv 6) pe_int (fun _ _ => rfl)) pe_int) (pv 3)) (pa_cons (pe_op op_add (pe_op op_add (pe_ix ix_tup (pv 6) pe_int (fun _ _ => rfl)) pe_int) (pv 3)) pa_nil)))) (pg_name (i := 7) sc__law_integers.nd rfl (Or.inl rfl)) (pss_one (ps_expr (pe_bm PySem.F.plainAttrs_list PySem.F.slot_list_append PySem.F.type_list_append mt_append (pv 4) (pa_cons (pe_tup (pa_cons (pe_ix ix_tup (pv 6) pe_int (fun _ _ => rfl)) (pa_cons (pv 7) (pa_cons (pe_un un_neg pe_int) (pa_cons pe_int (pa_cons (pe_tup (pa_cons pe_str (pa_cons (pe_ix ix_tup (pv 6) pe_int (fun _ _ => rfl)) (pa_cons (pv 7) (pa_cons pe_bl pa_nil))))) pa_nil)))))) pa_nil)))))
      (pss_one (ps_for PassesOwn.never rfl (pi_list (pe_lst (pa_cons (pe_ix ix_tup (pv 6) pe_int (fun _ _ => rfl)) (pa_cons (pe_ix ix_tup (pv 6) pe_int (fun _ _ => rfl)) pa_nil)))) (pg_name (i := 7) sc__law_integers.nd rfl (Or.inl rfl)) (pss_one (ps_if (pt_cmpR op_ne (pe_ix ix_tup (pe_call (G__law_asked T) (hr.mono (by decide)) rfl T.g__law_asked T.F__law_asked.kp T.b__law_asked .nil pass0 (pa_cons (pe_ix ix_tup (pv 6) pe_int (fun _ _ => rfl)) (pa_cons (pv 7) (pa_cons pe_int (pa_cons pe_int pa_nil))))) pe_int (fun _ _ => rfl)) pe_str (nomark _)) (pss_one (ps_ret pe_bl)) pss_nil))))))
      (pss_cons (ps_for PassesOwn.never rfl (pi_list (pe_lst (pa_cons (pe_op op_sub (pe_un un_neg pe_int) (pv 3)) (pa_cons (pe_op op_add pe_int (pv 3)) pa_nil)))) (pg_name (i := 7) sc__law_integers.nd rfl (Or.inl rfl)) (pss_one (ps_expr (pe_bm PySem.F.plainAttrs_list PySem.F.slot_list_append PySem.F.type_list_append mt_append (pv 4) (pa_cons (pe_tup (pa_cons pe_int (pa_cons pe_int (pa_cons (pv 7) (pa_cons pe_int (pa_cons (pe_tup (pa_cons pe_str (pa_cons pe_str (pa_cons (pv 7) (pa_cons pe_bl pa_nil))))) pa_nil)))))) pa_nil)))))
      (pss_cons (ps_for PassesOwn.never rfl (pi_list (pe_lst (pa_cons (pe_op op_sub (pe_un un_neg pe_int) (pv 3)) (pa_cons (pe_op op_add pe_int (pv 3)) pa_nil)))) (pg_name (i := 7) sc__law_integers.nd rfl (Or.inl rfl)) (pss_one (ps_expr (pe_bm PySem.F.plainAttrs_list PySem.F.slot_list_append PySem.F.type_list_append mt_append (pv 4) (pa_cons (pe_tup (pa_cons pe_int (pa_cons pe_int (pa_cons (pv 7) (pa_cons pe_int (pa_cons (pe_tup (pa_cons pe_str (pa_cons pe_str (pa_cons (pv 7) (pa_cons pe_bl pa_nil))))) pa_nil)))))) pa_nil)))))
      (pss_cons (ps_for PassesOwn.never rfl (pi_list (pe_lst (pa_cons (pe_op op_sub (pe_un un_neg pe_int) (pv 3)) (pa_cons (pe_op op_add pe_int (pv 3)) pa_nil)))) (pg_name (i := 7) sc__law_integers.nd rfl (Or.inl rfl)) (pss_cons (ps_expr (pe_bm PySem.F.plainAttrs_list PySem.F.slot_list_append PySem.F.type_list_append mt_append (pv 4) (pa_cons (pe_tup (pa_cons pe_int (pa_cons (pe_make0 T.M_Choice (G_Choice_init T) (hr.mono (by decide)) rfl T.g_Choice T.bP_Choice_init_0.choose_spec.2 T.bP_Choice_init_0.choose_spec.1 passL) (pa_cons (pv 7) (pa_cons (pe_un un_neg pe_int) (pa_cons (pe_tup (pa_cons pe_str (pa_cons pe_str (pa_cons (pv 7) (pa_cons pe_bl pa_nil))))) pa_nil)))))) pa_nil)))
      (pss_one (ps_expr (pe_bm PySem.F.plainAttrs_list PySem.F.slot_list_append PySem.F.type_list_append mt_append (pv 4) (pa_cons (pe_tup (pa_cons pe_int (pa_cons (pe_make0 T.M_Choice (G_Choice_init T) (hr.mono (by decide)) rfl T.g_Choice T.bP_Choice_init_0.choose_spec.2 T.bP_Choice_init_0.choose_spec.1 passL) (pa_cons pe_int (pa_cons (pv 7) (pa_cons (pe_tup (pa_cons pe_str (pa_cons pe_str (pa_cons (pv 7) (pa_cons pe_bl pa_nil))))) pa_nil)))))) pa_nil))))))
      (pss_cons (ps_for PassesOwn.never rfl (pi_list (pe_lst (pa_cons (pe_op op_sub (pe_un un_neg pe_int) (pv 3)) (pa_cons (pe_op op_add (pe_op op_add (pe_op op_pow pe_int pe_int) pe_int) (pv 3)) pa_nil)))) (pg_name (i := 7) sc__law_integers.nd rfl (Or.inl rfl)) (pss_cons (ps_set (i := 8) sc__law_integers.nd rfl (Or.inl rfl) (pe_make T.M_Schedule (G_Schedule_init T) (hr.mono (by decide)) rfl T.g_Schedule T.b_Schedule_init .nil passL (pa_cons (pe_lst (pa_cons (pv 2) pa_nil)) pa_nil)))
      (pss_cons (ps_expr (pe_bm PySem.F.plainAttrs_list PySem.F.slot_list_append PySem.F.type_list_append mt_append (pv 4) (pa_cons (pe_tup (pa_cons pe_int (pa_cons (pe_make T.M_Choice (G_Choice_init T) (hr.mono (by decide)) rfl T.g_Choice T.bP_Choice_init_1.choose_spec.2 T.bP_Choice_init_1.choose_spec.1 passL (pa_cons (pe_lst (pa_cons (pe_tup (pa_cons pe_int (pa_cons pe_int (pa_cons pe_int pa_nil)))) pa_nil)) pa_nil)) (pa_cons (pv 7) (pa_cons pe_int (pa_cons (pe_tup (pa_cons pe_str (pa_cons pe_str (pa_cons (pv 7) (pa_cons pe_bl pa_nil))))) pa_nil)))))) pa_nil)))
      (pss_cons (ps_for PassesOwn.never rfl (pi_list (pe_lst (pa_cons (pe_make T.M_UntilDay (G_UntilDay_init T) (hr.mono (by decide)) rfl T.g_UntilDay T.b_UntilDay_init .nil passL (pa_cons pe_int pa_nil)) (pa_cons (pe_make T.M_Months (G_Months_init T) (hr.mono (by decide)) rfl T.g_Months T.b_Months_init .nil pass0 (pa_cons (pe_make0 T.M_Choice (G_Choice_init T) (hr.mono (by decide)) rfl T.g_Choice T.bP_Choice_init_0.choose_spec.2 T.bP_Choice_init_0.choose_spec.1 passL) pa_nil)) (pa_cons (pe_make T.M_NthWeekday (G_NthWeekday_init T) (hr.mono (by decide)) rfl T.g_NthWeekday T.bD_NthWeekday_init.choose_spec.2 T.bD_NthWeekday_init.choose_spec.1 passL (pa_cons pe_int (pa_cons pe_int pa_nil))) (pa_cons (pe_make T.M_NotOn (G_NotOn_init T) (hr.mono (by decide)) rfl T.g_NotOn T.b_NotOn_init .nil passL (pa_cons (pe_lst (pa_cons pe_int pa_nil)) pa_nil)) pa_nil)))))) (pg_name (i := 9) sc__law_integers.nd rfl (Or.inl rfl)) (pss_one (ps_expr (pe_bm PySem.F.plainAttrs_list PySem.F.slot_list_append PySem.F.type_list_append mt_append (pv 4) (pa_cons (pe_tup (pa_cons pe_int (pa_cons (pv 9) (pa_cons (pv 1) (pa_cons (pv 7) (pa_cons (pe_tup (pa_cons pe_str (pa_cons pe_str (pa_cons (pv 7) (pa_cons pe_bl pa_nil))))) pa_nil)))))) pa_nil)))))
      (pss_cons (ps_expr (pe_bm PySem.F.plainAttrs_list PySem.F.slot_list_append PySem.F.type_list_append mt_append (pv 4) (pa_cons (pe_tup (pa_cons pe_int (pa_cons (pv 2) (pa_cons (pv 1) (pa_cons (pv 7) (pa_cons (pe_tup (pa_cons pe_str (pa_cons pe_str (pa_cons (pv 7) (pa_cons pe_bl pa_nil))))) pa_nil)))))) pa_nil)))
      (pss_cons (ps_expr (pe_bm PySem.F.plainAttrs_list PySem.F.slot_list_append PySem.F.type_list_append mt_append (pv 4) (pa_cons (pe_tup (pa_cons pe_int (pa_cons (pv 8) (pa_cons (pv 1) (pa_cons (pv 7) (pa_cons (pe_tup (pa_cons pe_str (pa_cons pe_str (pa_cons (pv 7) (pa_cons pe_bl pa_nil))))) pa_nil)))))) pa_nil)))
      (pss_cons (ps_expr (pe_bm PySem.F.plainAttrs_list PySem.F.slot_list_append PySem.F.type_list_append mt_append (pv 4) (pa_cons (pe_tup (pa_cons pe_int (pa_cons (pv 8) (pa_cons (pv 1) (pa_cons (pv 7) (pa_cons (pe_tup (pa_cons pe_str (pa_cons pe_str (pa_cons (pv 7) (pa_cons pe_bl pa_nil))))) pa_nil)))))) pa_nil)))
      (pss_one (ps_expr (pe_bm PySem.F.plainAttrs_list PySem.F.slot_list_append PySem.F.type_list_append mt_append (pv 4) (pa_cons (pe_tup (pa_cons pe_int (pa_cons (pv 8) (pa_cons (pv 1) (pa_cons (pv 7) (pa_cons (pe_tup (pa_cons pe_str (pa_cons pe_str (pa_cons (pv 7) (pa_cons pe_bl pa_nil))))) pa_nil)))))) pa_nil)))))))))))
      (pss_cons (ps_for PassesOwn.never rfl (pi_list (pv 4)) (pg_name (i := 6) sc__law_integers.nd rfl (Or.inl rfl)) (pss_one (ps_if (pt_cmpR (op_neD hr.units) (pe_call (G__law_asked T) (hr.mono (by decide)) rfl T.g__law_asked T.F__law_asked.kp T.b__law_asked .nil pass0 (pa_cons (pe_ix ix_tup (pv 6) pe_int (fun _ _ => rfl)) (pa_cons (pe_ix ix_tup (pv 6) pe_int (fun _ _ => rfl)) (pa_cons (pe_ix ix_tup (pv 6) pe_int (fun _ _ => rfl)) (pa_cons (pe_ix ix_tup (pv 6) pe_int (fun _ _ => rfl)) pa_nil))))) (pe_ix ix_tup (pv 6) pe_int (fun _ _ => rfl)) (nomark _)) (pss_one (ps_ret pe_bl)) pss_nil)))
      (pss_one (ps_ret pe_bl))))))))))), ?_⟩
    refine st_letX ⟨_, rfl, l, cl, 2, n, rfl, hp, by omega, by decide, by decide, fun d1 H1 a0 a1 p1 f1 => ⟨_, rfl, _, _, rfl, rfl, ⟨by decide, by decide, by decide⟩, l, cl, _, _, rfl, p1, by omega, by decide, by decide, fun d2 H2 b0 b1 p2 g2 => ⟨_, _, rfl, rfl, Or.inl ⟨by omega, by omega⟩, ?_⟩⟩⟩
    have hd : 0 ≤ d1 * d2 ∧ d1 * d2 < 1000000 := by
      have b1 : d2 < 1000000 := b1
      have : d1 = 0 ∨ d1 = 1 := by omega
      rcases this with rfl | rfl
      · rw [Int.zero_mul]; omega
      · rw [Int.one_mul]; omega
    have f2 := f1.trans g2
    have hc2 := hc.nl (f2.nl hp)
    have hrl2 := hrl.nl (f2.nl hp)
    dsimp only [gName]
    generalize d1 * d2 = d at hd ⊢
    clear a0 a1 p1 f1 b0 b1 g2 d1 d2 H1
    refine st_letX ?_
    refine ⟨by show 0 ≤ sizeLine; decide, fun rr hrr => ?_⟩
    obtain ⟨h0, m1, m2⟩ := f2.free p2 hrr
    have s3 := Same.new (o := .lst []) hrr
    have iv3 : IV a K H l cl rr land rule (n + 1 + 1) c r (upd H2 rr (.lst [])) 0 := ⟨p2.same s3, f2.trans (Fr.of s3), hc2.same s3, hrl2.same s3, [], upd_same, Nat.le_refl _, fun x hx => by cases hx⟩
    clear s3 p2 f2 hc2 hrl2
    generalize upd H2 rr (.lst []) = H3 at iv3 ⊢
    clear hrr H2
    refine st_letX ?_
    refine ⟨by show 4 ≤ sizeLine; decide, fun t1 h1 => ⟨by show 4 ≤ sizeLine; decide, fun t2 h2 => ⟨by show 4 ≤ sizeLine; decide, fun t3 h3 => ⟨by show 3 ≤ sizeLine; decide, fun ee hee => ?_⟩⟩⟩⟩
    have z1 := Same.new (o := .tup [.int 2, .str "nth", .int 1, .int 9]) h1
    have z2 := Same.new (o := .tup [.int 3, .str "step", .int 1, .int 10000]) h2
    have z3 := Same.new (o := .tup [.int 4, .str "day", .int 0, .int 100000]) h3
    have z4 := Same.new (o := .lst [.ref t1, .ref t2, .ref t3]) hee
    have v1 := (z2.trans (z3.trans z4)) t1 _ (hasNew z1)
    have v2 := (z3.trans z4) t2 _ (hasNew z2)
    have v3 := z4 t3 _ (hasNew z3)
    have v4 := hasNew z4
    have iv4 := iv3.same (z1.trans (z2.trans (z3.trans z4)))
    clear z1 z2 z3 z4 iv3
    generalize upd _ ee (.lst [.ref t1, .ref t2, .ref t3]) = H4 at iv4 v1 v2 v3 v4 ⊢
    clear h1 h2 h3 hee H3
    refine st_seq ?_
    refine ⟨_, rfl, by show 4 ≤ sizeLine; decide, fun t4 h4 => ⟨by show 1 ≤ sizeLine; decide, fun c1 hc1 => ?_⟩⟩
    have z1 := Same.new (o := .tup [.int 5, .str "day", .int 0, .int 100000]) h4
    have z2 := Same.new (o := .lst [.ref t4]) hc1
    refine ⟨ee, c1, _, _, rfl, rfl, (z1.trans z2) _ _ v4, hasNew z2, by show 4 ≤ sizeLine; decide, fun L hL => ?_⟩
    have z3 := Same.new (o := .lst ([.ref t1, .ref t2, .ref t3] ++ [.ref t4])) hL
    have z := z1.trans (z2.trans z3)
    have v5 := (z2.trans z3) t4 _ (hasNew z1)
    have vL := hasNew z3
    replace v1 := z _ _ v1
    replace v2 := z _ _ v2
    replace v3 := z _ _ v3
    have iv5 := iv4.same z
    have nL : L ≠ rr := (let ⟨_, x, _⟩ := (iv4.same (z1.trans z2)).rows; ne_of_none x hL).symm
    clear z1 z2 z3 z iv4 v4
    generalize upd _ L (.lst ([.ref t1, .ref t2, .ref t3] ++ [.ref t4])) = H5 at iv5 v1 v2 v3 v5 vL ⊢
    clear h4 hc1 hL H4
    have four : ∀ (j : Nat) x, [V.ref t1, V.ref t2, V.ref t3, V.ref t4][j]? = some x → EndAt a K H5 x := fun j x hx => by
      rcases j with _ | _ | _ | _ | j
      · cases hx
        exact ⟨t1, _, _, _, _, rfl, v1, by decide, by decide, fun v => by kernel_rfl, fun H v z => .c2n z, fun H v z => .c2y z ⟨by decide, by decide⟩⟩
      · cases hx
        exact ⟨t2, _, _, _, _, rfl, v2, by decide, by decide, fun v => by kernel_rfl, fun H v z => .c3n z, fun H v z => .c3y z ⟨by decide, by decide⟩⟩
      · cases hx
        exact ⟨t3, _, _, _, _, rfl, v3, by decide, by decide, fun v => by kernel_rfl, fun H v z => .c4n z, fun H v z => .c4y z⟩
      · cases hx
        exact ⟨t4, _, _, _, _, rfl, v5, by decide, by decide, fun v => by kernel_rfl, fun H v z => .c5n z, fun H v z => .c5y z⟩
      · cases hx
    refine st_forL (tl := tC (.ref L)) (a := L) (xs := [.ref t1, .ref t2, .ref t3, .ref t4]) (fun R q => q) (fun j σ' H' => ∃ v6 v7, σ' = [some (.ref l), some (.ref land), some (.ref rule), some (.int d), some (.ref rr), some (.ref ee), v6, v7, none, none] ∧ IV a K H l cl rr land rule (n + 1 + 1) c r H' (2 * j) ∧ L2.But rr H5 H') ⟨_, _, rfl, iv5, But.refl _ _⟩ (fun j σ' H' _ ⟨_, _, _, _, b⟩ => SqL.of (b _ _ vL nL)) ?_ ?_
    · rintro j x σ' H6 hx ⟨v6, v7, rfl, iv6, b6⟩
      have hj : j < 4 := (List.getElem?_eq_some_iff.mp hx).1
      obtain ⟨t, κ, s, lo, hi, rfl, ht, lh, k2, sh, bad, good⟩ := four j x hx
      have ntr : t ≠ rr := fun z => by
        obtain ⟨rs, x, _⟩ := iv5.rows
        rw [z, x] at ht
        cases ht
      have ht6 := b6 _ _ ht ntr
      refine (show (_ : Prop) from ?_)
      refine st_seq ?_
      refine ⟨_, rfl, t, _, _, .int lo, rfl, rfl, SqT.of ht6, rfl, _, _, rfl, rfl, _, rfl, _, _, rfl, rfl, _, rfl, t, _, _, .int hi, rfl, rfl, SqT.of ht6, rfl, _, _, rfl, rfl, _, rfl, _, _, rfl, rfl, by show 2 ≤ sizeLine; decide, fun Lb hLb => ?_⟩
      have s7 := Same.new (o := .lst [.int (lo - 1 - d), .int (hi + 1 + d)]) hLb
      have iv7 := iv6.same s7
      have vLb := hasNew s7
      have nLb : Lb ≠ rr := (let ⟨_, x, _⟩ := iv6.rows; ne_of_none x hLb).symm
      have ht7 := s7 _ _ ht6
      have b7 := b6.thenS s7
      clear s7
      generalize upd H6 Lb _ = H7 at iv7 vLb ht7 b7 ⊢
      clear hLb iv6 b6 ht6 H6
      refine st_forL (tl := tC (.ref Lb)) (a := Lb) (xs := [.int (lo - 1 - d), .int (hi + 1 + d)]) (fun R q => q) (fun i σ' H' => ∃ v7, σ' = [some (.ref l), some (.ref land), some (.ref rule), some (.int d), some (.ref rr), some (.ref ee), some (.ref t), v7, none, none] ∧ IV a K H l cl rr land rule (n + 1 + 1) c r H' (2 * j + i) ∧ L2.But rr H7 H') ⟨_, rfl, iv7, But.refl _ _⟩ (fun j σ' H' _ ⟨_, _, _, b⟩ => SqL.of (b _ _ vLb nLb)) ?_ ?_
      · rintro i x σ' H8 hx ⟨v7, rfl, iv8, b8⟩
        have hi2 : i < 2 := (List.getElem?_eq_some_iff.mp hx).1
        obtain ⟨v, rfl, hv⟩ : ∃ v : Int, x = .int v ∧ ¬ (lo ≤ v ∧ v ≤ hi) := by
          rcases two_at hx with rfl | rfl
          · exact ⟨_, rfl, by omega⟩
          · exact ⟨_, rfl, by omega⟩
        have ht8 := b8 _ _ ht7 ntr
        refine (show (_ : Prop) from ?_)
        refine ⟨_, rfl, iv8.ty, _, rfl, t, _, _, .int κ, rfl, rfl, SqT.of ht8, rfl, _, rfl, _, rfl, _, rfl, t, _, _, .str s, rfl, rfl, SqT.of ht8, rfl, _, rfl, by show 4 ≤ sizeLine; decide, fun e0 he0 => ⟨by show 5 ≤ sizeLine; decide, fun t0 ht0 => ?_⟩⟩
        obtain ⟨rs, q1, q2, q3⟩ := iv8.row h0 m1 m2 (by omega) (oc := .rng s v) (sh v) k2 (bad _ v hv) he0 ht0
        refine ⟨rr, rs, .ref t0, rfl, rfl, q1, q2, ?_⟩
        generalize hG : upd _ rr (.lst (rs ++ [V.ref t0])) = H9
        obtain ⟨iv9, b9⟩ := q3 _ hG.symm
        clear hG q1 q2 q3 he0 ht0
        exact ⟨_, rfl, iv9, b8.trans b9⟩
      · rintro σ' H8 ⟨v7, rfl, iv8, b8⟩
        have b9 := b7.trans b8
        have ht8 := b8 _ _ ht7 ntr
        refine ⟨_, rfl, t, _, _, .int lo, rfl, rfl, SqT.of ht8, rfl, _, rfl, t, _, _, .int hi, rfl, rfl, SqT.of ht8, rfl, by show 2 ≤ sizeLine; decide, fun Lc hLc => ?_⟩
        have s9 := Same.new (o := .lst [.int lo, .int hi]) hLc
        have iv9 := iv8.same s9
        have vLc := hasNew s9
        have ht9 := s9 _ _ ht8
        have b10 := b9.thenS s9
        clear s9
        generalize upd H8 Lc _ = H9 at iv9 vLc ht9 b10 ⊢
        refine st_forL (tl := tC (.ref Lc)) (a := Lc) (xs := [.int lo, .int hi]) (fun R q => q) (fun i σ' H' => ∃ v7, σ' = [some (.ref l), some (.ref land), some (.ref rule), some (.int d), some (.ref rr), some (.ref ee), some (.ref t), v7, none, none] ∧ Same H9 H') ⟨_, rfl, Same.refl _⟩ (fun j σ' H' _ ⟨_, _, s⟩ => SqL.of (s _ _ vLc)) ?_ ?_
        · rintro i x σ' H10 hx ⟨v7, rfl, s10⟩
          obtain ⟨v, rfl, hv⟩ : ∃ v : Int, x = .int v ∧ (lo ≤ v ∧ v ≤ hi) := by
            rcases two_at hx with rfl | rfl
            · exact ⟨_, rfl, by omega⟩
            · exact ⟨_, rfl, by omega⟩
          have ht10 := s10 _ _ ht9
          refine (show (_ : Prop) from ?_)
          refine ⟨_, rfl, t, _, _, .int κ, rfl, rfl, SqT.of ht10, rfl, _, rfl, κ, .int v, .int 0, .int 0, none, rfl, good _ v hv, fun _ w u H' hu s' => ?_, fun oc e => nomatch e⟩
          refine ⟨u, _, _, .str "told", rfl, rfl, SqT.of hu, rfl, rfl, _, rfl, ?_⟩
          rw [decide_eq_true (rfl : V.str "told" = V.str "told")]
          exact iteF ⟨_, rfl, s10.trans s'⟩
        · rintro σ' H10 ⟨v7, rfl, s10⟩
          exact ⟨_, _, rfl, (iv9.same s10).mono (by show 2 * j + 2 ≤ 2 * (j + 1); omega), b10.thenS s10⟩
    · rintro σ' H6 ⟨v6, v7, rfl, iv6, b6⟩
      replace iv6 := iv6.mono (B' := 8) (by simp)
      clear four b6 v1 v2 v3 v5 vL iv5 nL
      dsimp only
      refine st_seq ?_
      refine ⟨_, rfl, _, rfl, _, _, rfl, rfl, _, rfl, _, _, rfl, rfl, by show 2 ≤ sizeLine; decide, fun La hLa => ?_⟩
      have s7 := Same.new (o := .lst [.int (-1 - d), .int (10 + d)]) hLa
      have iv7 := iv6.same s7
      have vLa := hasNew s7
      have nLa := iv6.nel hLa
      clear s7
      generalize upd H6 La _ = H7 at iv7 vLa ⊢
      clear hLa iv6
      refine st_forL (tl := tC (.ref La)) (a := La) (xs := [.int (-1 - d), .int (10 + d)]) (fun R q => q) (fun i σ' H' => ∃ v7, σ' = [some (.ref l), some (.ref land), some (.ref rule), some (.int d), some (.ref rr), some (.ref ee), v6, v7, none, none] ∧ IV a K H l cl rr land rule (n + 1 + 1) c r H' (8 + i) ∧ L2.But rr H7 H') ⟨_, rfl, iv7, But.refl _ _⟩ (fun j σ' H' _ ⟨_, _, _, b⟩ => SqL.of (b _ _ vLa nLa)) ?_ ?_
      · rintro i x σ' H8 hx ⟨v7, rfl, iv8, b8⟩
        have hi2 : i < 2 := (List.getElem?_eq_some_iff.mp hx).1
        obtain ⟨v, rfl, hv⟩ : ∃ v : Int, x = .int v ∧ ¬ (0 ≤ v ∧ v ≤ 9) := by
          rcases two_at hx with rfl | rfl
          · exact ⟨_, rfl, by omega⟩
          · exact ⟨_, rfl, by omega⟩
        refine (show (_ : Prop) from ?_)
        refine ⟨_, rfl, iv8.ty, _, rfl, _, rfl, by show 4 ≤ sizeLine; decide, fun e0 he0 => ⟨by show 5 ≤ sizeLine; decide, fun t0 ht0 => ?_⟩⟩
        obtain ⟨rs, q1, q2, q3⟩ := iv8.row h0 m1 m2 (by omega) (oc := .rng "weekday" v) (by kernel_rfl) (by decide) (.c2w (x := 9) ⟨by decide, by decide⟩ hv) he0 ht0
        refine ⟨rr, rs, .ref t0, rfl, rfl, q1, q2, ?_⟩
        generalize hG : upd _ rr (.lst (rs ++ [V.ref t0])) = H9
        obtain ⟨iv9, b9⟩ := q3 _ hG.symm
        clear hG q1 q2 q3 he0 ht0
        exact ⟨_, rfl, iv9, b8.trans b9⟩
      rintro σ' H8 ⟨v7, rfl, iv8, b8⟩
      replace iv8 := iv8.mono (B' := 10) (by simp)
      clear b8 iv7 vLa nLa
      dsimp only
      refine st_seq ?_
      refine ⟨_, rfl, _, rfl, _, _, rfl, rfl, _, rfl, _, _, rfl, rfl, by show 2 ≤ sizeLine; decide, fun La hLa => ?_⟩
      have s9 := Same.new (o := .lst [.int (-1 - d), .int (100001 + d)]) hLa
      have iv9 := iv8.same s9
      have vLa := hasNew s9
      have nLa := iv8.nel hLa
      clear s9
      generalize upd H8 La _ = H9 at iv9 vLa ⊢
      clear hLa iv8
      refine st_forL (tl := tC (.ref La)) (a := La) (xs := [.int (-1 - d), .int (100001 + d)]) (fun R q => q) (fun i σ' H' => ∃ v7, σ' = [some (.ref l), some (.ref land), some (.ref rule), some (.int d), some (.ref rr), some (.ref ee), v6, v7, none, none] ∧ IV a K H l cl rr land rule (n + 1 + 1) c r H' (10 + i) ∧ L2.But rr H9 H') ⟨_, rfl, iv9, But.refl _ _⟩ (fun j σ' H' _ ⟨_, _, _, b⟩ => SqL.of (b _ _ vLa nLa)) ?_ ?_
      · rintro i x σ' H10 hx ⟨v7, rfl, iv10, b10⟩
        have hi2 : i < 2 := (List.getElem?_eq_some_iff.mp hx).1
        obtain ⟨v, rfl, hv⟩ : ∃ v : Int, x = .int v ∧ ¬ (0 ≤ v ∧ v ≤ 100000) := by
          rcases two_at hx with rfl | rfl
          · exact ⟨_, rfl, by omega⟩
          · exact ⟨_, rfl, by omega⟩
        refine (show (_ : Prop) from ?_)
        refine ⟨_, rfl, iv10.ty, _, rfl, _, rfl, by show 4 ≤ sizeLine; decide, fun e0 he0 => ⟨by show 5 ≤ sizeLine; decide, fun t0 ht0 => ?_⟩⟩
        obtain ⟨rs, q1, q2, q3⟩ := iv10.row h0 m1 m2 (by omega) (oc := .rng "first" v) (by kernel_rfl) (by decide) (.c3w (x := 10000) ⟨by decide, by decide⟩ hv) he0 ht0
        refine ⟨rr, rs, .ref t0, rfl, rfl, q1, q2, ?_⟩
        generalize hG : upd _ rr (.lst (rs ++ [V.ref t0])) = H9
        obtain ⟨iv9, b9⟩ := q3 _ hG.symm
        clear hG q1 q2 q3 he0 ht0
        exact ⟨_, rfl, iv9, b10.trans b9⟩
      rintro σ' H10 ⟨v7, rfl, iv10, b10⟩
      replace iv10 := iv10.mono (B' := 12) (by simp)
      clear b10 iv9 vLa nLa
      dsimp only
      refine st_seq ?_
      refine ⟨_, rfl, _, rfl, _, _, rfl, rfl, _, rfl, _, _, rfl, rfl, by show 2 ≤ sizeLine; decide, fun La hLa => ?_⟩
      have s11 := Same.new (o := .lst [.int (-1 - d), .int (10000 + d)]) hLa
      have iv11 := iv10.same s11
      have vLa := hasNew s11
      have nLa := iv10.nel hLa
      clear s11
      generalize upd H10 La _ = H11 at iv11 vLa ⊢
      clear hLa iv10
      refine st_forL (tl := tC (.ref La)) (a := La) (xs := [.int (-1 - d), .int (10000 + d)]) (fun R q => q) (fun i σ' H' => ∃ v7, σ' = [some (.ref l), some (.ref land), some (.ref rule), some (.int d), some (.ref rr), some (.ref ee), v6, v7, none, none] ∧ IV a K H l cl rr land rule (n + 1 + 1) c r H' (12 + 2 * i) ∧ L2.But rr H11 H') ⟨_, rfl, iv11, But.refl _ _⟩ (fun j σ' H' _ ⟨_, _, _, b⟩ => SqL.of (b _ _ vLa nLa)) ?_ ?_
      · rintro i x σ' H12 hx ⟨v7, rfl, iv12, b12⟩
        have hi2 : i < 2 := (List.getElem?_eq_some_iff.mp hx).1
        obtain ⟨v, rfl, hv⟩ : ∃ v : Int, x = .int v ∧ ¬ okT v := by
          rcases two_at hx with rfl | rfl
          · exact ⟨_, rfl, fun z => by have := z.1; omega⟩
          · exact ⟨_, rfl, fun z => by have := z.2; omega⟩
        refine (show (_ : Prop) from ?_)
        refine st_do ?_
        refine ⟨_, rfl, iv12.ty, fun x1 dx1 hx1 hdx1 nx1 => ⟨x1, dx1, a.e_Choice_init_parts, [], [], rfl, upd_same, Or.inr (T.z_Choice_init_parts _), ⟨rfl, fun i q e => by cases e⟩, (fun z => absurd z (Nat.not_lt_zero _)), (fun _ i q e => by cases e), fun _ _ H13 hch bx1 => ⟨rfl, ?_⟩⟩⟩
        have s13 := Same.made hx1 hdx1 bx1
        refine ⟨_, rfl, _, rfl, _, rfl, by show 4 ≤ sizeLine; decide, fun e0 he0 => ⟨by show 5 ≤ sizeLine; decide, fun t0 ht0 => ?_⟩⟩
        obtain ⟨rs, q1, q2, q3⟩ := (iv12.same s13).row h0 m1 m2 (by omega) (oc := .rng "low" v) (by kernel_rfl) (by decide) (.c7l hch hv) he0 ht0
        refine ⟨rr, rs, .ref t0, rfl, rfl, q1, q2, ?_⟩
        generalize hG : upd _ rr (.lst (rs ++ [V.ref t0])) = H14
        obtain ⟨iv14, b14⟩ := q3 _ hG.symm
        clear hG q1 q2 q3 he0 ht0
        replace b14 := b12.trans (But.same s13 b14)
        refine ⟨_, rfl, iv14.ty, fun x1 dx1 hx1 hdx1 nx1 => ⟨x1, dx1, a.e_Choice_init_parts, [], [], rfl, upd_same, Or.inr (T.z_Choice_init_parts _), ⟨rfl, fun i q e => by cases e⟩, (fun z => absurd z (Nat.not_lt_zero _)), (fun _ i q e => by cases e), fun _ _ H15 hch bx1 => ⟨rfl, ?_⟩⟩⟩
        have s15 := Same.made hx1 hdx1 bx1
        refine ⟨_, rfl, _, rfl, by show 4 ≤ sizeLine; decide, fun e0 he0 => ⟨by show 5 ≤ sizeLine; decide, fun t0 ht0 => ?_⟩⟩
        obtain ⟨rs, q1, q2, q3⟩ := (iv14.same s15).row h0 m1 m2 (by omega) (oc := .rng "high" v) (by kernel_rfl) (by decide) (.c7h (x := 3) hch ⟨by decide, by decide⟩ hv) he0 ht0
        refine ⟨rr, rs, .ref t0, rfl, rfl, q1, q2, ?_⟩
        generalize hG : upd _ rr (.lst (rs ++ [V.ref t0])) = H16
        obtain ⟨iv16, b16⟩ := q3 _ hG.symm
        clear hG q1 q2 q3 he0 ht0
        exact ⟨_, rfl, iv16, b14.trans (But.same s15 b16)⟩
      rintro σ' H12 ⟨v7, rfl, iv12, b12⟩
      replace iv12 := iv12.mono (B' := 16) (by simp)
      clear b12 iv11 vLa nLa
      dsimp only
      refine st_seq ?_
      refine ⟨_, rfl, _, rfl, _, _, rfl, rfl, _, _, rfl, rfl, ⟨by decide, by decide, by decide⟩, _, _, rfl, rfl, _, rfl, _, _, rfl, rfl, by show 2 ≤ sizeLine; decide, fun La hLa => ?_⟩
      have s13 := Same.new (o := .lst [.int (-1 - d), .int (10 ^ Int.toNat 40 + 1 + d)]) hLa
      have iv13 := iv12.same s13
      have vLa := hasNew s13
      have nLa := iv12.nel hLa
      clear s13
      generalize upd H12 La _ = H13 at iv13 vLa ⊢
      clear hLa iv12
      refine st_forL (tl := tC (.ref La)) (a := La) (xs := [.int (-1 - d), .int (10 ^ Int.toNat 40 + 1 + d)]) (fun R q => q) (fun i σ' H' => ∃ v7 v8 v9, σ' = [some (.ref l), some (.ref land), some (.ref rule), some (.int d), some (.ref rr), some (.ref ee), v6, v7, v8, v9] ∧ IV a K H l cl rr land rule (n + 1 + 1) c r H' (16 + 9 * i) ∧ L2.But rr H13 H') ⟨_, _, _, rfl, iv13, But.refl _ _⟩ (fun j σ' H' _ ⟨_, _, _, _, _, b⟩ => SqL.of (b _ _ vLa nLa)) ?_ ?_
      · rintro i x σ' H14 hx ⟨v7, v8, v9, rfl, iv14, b14⟩
        have hi2 : i < 2 := (List.getElem?_eq_some_iff.mp hx).1
        obtain ⟨v, rfl, hv⟩ : ∃ v : Int, x = .int v ∧ ¬ okF v := by
          rcases two_at hx with rfl | rfl
          · exact ⟨_, rfl, fun z => by have := z.1; omega⟩
          · exact ⟨_, rfl, fun z => by
              have z2 : (10 : Int) ^ 40 + 1 + d ≤ 10 ^ 40 := z.2
              omega⟩
        refine (show (_ : Prop) from ?_)
        refine st_letX ?_
        refine ⟨_, rfl, by show 1 ≤ sizeLine; decide, fun Lr hLr x1 dx1 hx1 hdx1 nx1 => ?_⟩
        have sl := Same.new (o := .lst [.ref rule]) hLr
        have sx1 := newS (C := a.c_Schedule) hx1 hdx1 nx1
        refine ⟨x1, dx1, Lr, [.ref rule], [r], rfl, upd_same, SqL.of (sx1 _ _ (hasNew sl)), RObjs.one ((iv14.rul.same sl).same sx1), by show 1 ≤ 1; decide, by show 1 ≤ 6; decide, fun H15 hsc bx1 => ⟨rfl, ?_⟩⟩
        have s15 := sl.trans (Same.made hx1 hdx1 bx1)
        have iv15 := iv14.same s15
        have b15 := b14.thenS s15
        clear sl sx1 bx1 s15 hLr hx1 hdx1 iv14 b14
        dsimp only [gName]
        refine st_do ?_
        refine ⟨_, rfl, iv15.ty, by show 3 ≤ sizeLine; decide, fun t6 h6 => ⟨by show 1 ≤ sizeLine; decide, fun L6 hL6 x2 dx2 hx2 hdx2 nx2 => ?_⟩⟩
        have sl := Same.new (o := .tup [.int 1, .int 2, .int 1]) h6
        have sm := Same.new (o := .lst [.ref t6]) hL6
        have sx2 := newS (C := a.c_Choice) hx2 hdx2 nx2
        refine ⟨x2, dx2, L6, [.ref t6], [(1, 2, 1)], rfl, upd_same, Or.inl (SqL.of (sx2 _ _ (hasNew sm))), (Prs.one (q := (1, 2, 1)) (sm _ _ (hasNew sl))).same sx2, (fun z => absurd z (by decide)), (fun _ i q e z => ?_), fun _ _ H16 hch bx2 => ⟨rfl, ?_⟩⟩
        · rcases i with _ | i
          · cases e
            exact absurd (show okPart (1, 2, 1) from ⟨by decide, by decide, by decide, by decide, by decide⟩) z
          · cases e
        have s16 := (sl.trans sm).trans (Same.made hx2 hdx2 bx2)
        have iv16 := iv15.same s16
        have b16 := b15.thenS s16
        have hsc16 := hsc.same s16
        clear sl sm sx2 bx2 s16 h6 hL6 hx2 hdx2 iv15 b15 hsc
        refine ⟨_, rfl, _, rfl, by show 4 ≤ sizeLine; decide, fun e0 he0 => ⟨by show 5 ≤ sizeLine; decide, fun t0 ht0 => ?_⟩⟩
        obtain ⟨rs, q1, q2, q3⟩ := iv16.row h0 m1 m2 (by omega) (oc := .rng "number" v) (by kernel_rfl) (by decide) (.c6 hch hv) he0 ht0
        refine ⟨rr, rs, .ref t0, rfl, rfl, q1, q2, ?_⟩
        generalize hG : upd _ rr (.lst (rs ++ [V.ref t0])) = H17
        obtain ⟨iv17, b17⟩ := q3 _ hG.symm
        clear hG q1 q2 q3 he0 ht0 hch
        have nl17 := But.nl b17 iv16.rows.choose_spec.1
        have hsc17 := hsc16.nl nl17
        replace b17 := b16.trans b17
        clear b16 iv16 hsc16 nl17
        refine st_seq ?_
        refine fun x3 dx3 hx3 hdx3 nx3 => ⟨x3, dx3, 3, rfl, upd_same, (fun z => (z ⟨by decide, by decide⟩).elim), fun _ H18 k1 bx3 => ⟨rfl, fun x4 dx4 hx4 hdx4 nx4 => ?_⟩⟩
        have s18 := Same.made hx3 hdx3 bx3
        refine ⟨x4, dx4, a.e_Choice_init_parts, [], [], rfl, upd_same, Or.inr (T.z_Choice_init_parts _), ⟨rfl, fun i q e => by cases e⟩, (fun z => absurd z (Nat.not_lt_zero _)), (fun _ i q e => by cases e), fun _ _ H19 hch bx4 => ⟨rfl, fun x5 dx5 hx5 hdx5 nx5 => ?_⟩⟩
        have s19 := Same.made hx4 hdx4 bx4
        refine ⟨x5, dx5, x4, [], rfl, upd_same, hch.same (newS (C := a.c_Months) hx5 hdx5 nx5), fun H20 k2 bx5 => ⟨rfl, fun x6 dx6 hx6 hdx6 nx6 => ?_⟩⟩
        have s20 := Same.made hx5 hdx5 bx5
        refine ⟨x6, dx6, 9, 9, false, rfl, upd_same, (fun z => (z ⟨by decide, by decide⟩).elim), (fun _ z => (z ⟨by decide, by decide⟩).elim), fun _ _ H21 k3 bx6 => ⟨rfl, by show 1 ≤ sizeLine; decide, fun L7 hL7 x7 dx7 hx7 hdx7 nx7 => ?_⟩⟩
        have s21 := Same.made hx6 hdx6 bx6
        have s22 := Same.new (o := .lst [.int 100000]) hL7
        refine ⟨x7, dx7, L7, [100000], rfl, upd_same, Or.inl (SqL.of (newS (C := a.c_NotOn) hx7 hdx7 nx7 _ _ (hasNew s22))), (fun e => by cases e), (fun i z => (no_top i z).elim), fun _ _ H23 k4 bx7 => ⟨rfl, by show 4 ≤ sizeLine; decide, fun L8 hL8 => ?_⟩⟩
        have s23 := Same.made hx7 hdx7 bx7
        have s24 := Same.new (o := .lst [.ref x3, .ref x5, .ref x6, .ref x7]) hL8
        have w8 := hasNew s24
        have s234 := s22.trans (s23.trans s24)
        have k1 := k1.same (s19.trans (s20.trans (s21.trans s234)))
        have k2 := k2.same (s21.trans s234)
        have k3 := k3.same s234
        have k4 := k4.same s24
        have sA := s18.trans (s19.trans (s20.trans (s21.trans s234)))
        have n8 := (iv17.same (s18.trans (s19.trans (s20.trans (s21.trans (s22.trans s23)))))).nel hL8
        have iv24 := iv17.same sA
        have b24 := b17.thenS sA
        have hsc24 := hsc17.same sA
        clear s18 s19 s20 s21 s22 s23 s24 s234 sA iv17 b17 hsc17 hch hx3 hdx3 bx3 hx4 hdx4 bx4 hx5 hdx5 bx5 hx6 hdx6 bx6 hx7 hdx7 bx7
        generalize upd H23 L8 _ = H24 at iv24 b24 hsc24 k1 k2 k3 k4 w8 ⊢
        clear hL8
        have four : ∀ (j : Nat) x, [V.ref x3, V.ref x5, V.ref x6, V.ref x7][j]? = some x → ∃ p cd, x = .ref p ∧ CdAt a K H24 p cd := fun j x hx => by
          rcases j with _ | _ | _ | _ | j
          · cases hx
            exact ⟨x3, _, rfl, k1⟩
          · cases hx
            exact ⟨x5, _, rfl, k2⟩
          · cases hx
            exact ⟨x6, _, rfl, k3⟩
          · cases hx
            exact ⟨x7, _, rfl, k4⟩
          · cases hx
        have nlz : ∀ H', L2.But rr H24 H' → NL H24 H' := fun H' b => But.nl b iv24.rows.choose_spec.1
        refine st_forL (tl := tC (.ref L8)) (a := L8) (xs := [.ref x3, .ref x5, .ref x6, .ref x7]) (fun R q => q) (fun j σ' H' => ∃ v9, σ' = [some (.ref l), some (.ref land), some (.ref rule), some (.int d), some (.ref rr), some (.ref ee), v6, some (.int v), some (.ref x1), v9] ∧ IV a K H l cl rr land rule (n + 1 + 1) c r H' (16 + 9 * i + 1 + j) ∧ L2.But rr H24 H') ⟨_, rfl, iv24, But.refl _ _⟩ (fun j σ' H' _ ⟨_, _, _, b⟩ => SqL.of (b _ _ w8 n8)) ?_ ?_
        · rintro j x σ' H25 hx ⟨v9, rfl, iv25, b25⟩
          have hj : j < 4 := (List.getElem?_eq_some_iff.mp hx).1
          obtain ⟨p, cd, rfl, hcd⟩ := four j x hx
          refine (show (_ : Prop) from ?_)
          refine ⟨_, rfl, iv25.ty, _, rfl, _, rfl, _, rfl, _, rfl, by show 4 ≤ sizeLine; decide, fun e0 he0 => ⟨by show 5 ≤ sizeLine; decide, fun t0 ht0 => ?_⟩⟩
          obtain ⟨rs, q1, q2, q3⟩ := iv25.row h0 m1 m2 (by omega) (oc := .rng "number" v) (by kernel_rfl) (by decide) (.c8c (hcd.nl (nlz _ b25)) iv25.cal ok hv) he0 ht0
          refine ⟨rr, rs, .ref t0, rfl, rfl, q1, q2, ?_⟩
          generalize hG : upd _ rr (.lst (rs ++ [V.ref t0])) = H26
          obtain ⟨iv26, b26⟩ := q3 _ hG.symm
          clear hG q1 q2 q3 he0 ht0
          exact ⟨_, rfl, iv26, b25.trans b26⟩
        rintro σ' H25 ⟨v9, rfl, iv25, b25⟩
        have hsc25 := hsc24.nl (nlz _ b25)
        replace iv25 := iv25.mono (B' := 16 + 9 * i + 5) (by simp)
        replace b25 := b24.trans b25
        clear iv24 b24 hsc24 k1 k2 k3 k4 w8 four nlz n8
        dsimp only
        refine st_do ?_
        refine ⟨_, rfl, iv25.ty, _, rfl, _, rfl, _, rfl, _, rfl, by show 4 ≤ sizeLine; decide, fun e0 he0 => ⟨by show 5 ≤ sizeLine; decide, fun t0 ht0 => ?_⟩⟩
        obtain ⟨rs, q1, q2, q3⟩ := iv25.row h0 m1 m2 (by omega) (oc := .rng "minute" v) (by kernel_rfl) (by decide) (.c8r iv25.rul iv25.cal ok hv) he0 ht0
        refine ⟨rr, rs, .ref t0, rfl, rfl, q1, q2, ?_⟩
        generalize hG : upd _ rr (.lst (rs ++ [V.ref t0])) = H26
        obtain ⟨iv26, b26⟩ := q3 _ hG.symm
        clear hG q1 q2 q3 he0 ht0
        have hsc26 := hsc25.nl (But.nl b26 iv25.rows.choose_spec.1)
        replace b26 := b25.trans b26
        refine st_do ?_
        refine ⟨_, rfl, iv26.ty, _, rfl, _, rfl, _, rfl, _, rfl, by show 4 ≤ sizeLine; decide, fun e0 he0 => ⟨by show 5 ≤ sizeLine; decide, fun t0 ht0 => ?_⟩⟩
        obtain ⟨rs, q1, q2, q3⟩ := iv26.row h0 m1 m2 (by omega) (oc := .rng "minute" v) (by kernel_rfl) (by decide) (.c8s hsc26 iv26.cal ok hv) he0 ht0
        refine ⟨rr, rs, .ref t0, rfl, rfl, q1, q2, ?_⟩
        generalize hG : upd _ rr (.lst (rs ++ [V.ref t0])) = H27
        obtain ⟨iv27, b27⟩ := q3 _ hG.symm
        clear hG q1 q2 q3 he0 ht0
        have hsc27 := hsc26.nl (But.nl b27 iv26.rows.choose_spec.1)
        replace b27 := b26.trans b27
        refine st_do ?_
        refine ⟨_, rfl, iv27.ty, _, rfl, _, rfl, _, rfl, _, rfl, by show 4 ≤ sizeLine; decide, fun e0 he0 => ⟨by show 5 ≤ sizeLine; decide, fun t0 ht0 => ?_⟩⟩
        obtain ⟨rs, q1, q2, q3⟩ := iv27.row h0 m1 m2 (by omega) (oc := .rng "minute" v) (by kernel_rfl) (by decide) (.c9 hsc27 iv27.cal ok hv) he0 ht0
        refine ⟨rr, rs, .ref t0, rfl, rfl, q1, q2, ?_⟩
        generalize hG : upd _ rr (.lst (rs ++ [V.ref t0])) = H28
        obtain ⟨iv28, b28⟩ := q3 _ hG.symm
        clear hG q1 q2 q3 he0 ht0
        have hsc28 := hsc27.nl (But.nl b28 iv27.rows.choose_spec.1)
        replace b28 := b27.trans b28
        refine ⟨_, rfl, iv28.ty, _, rfl, _, rfl, _, rfl, _, rfl, by show 4 ≤ sizeLine; decide, fun e0 he0 => ⟨by show 5 ≤ sizeLine; decide, fun t0 ht0 => ?_⟩⟩
        obtain ⟨rs, q1, q2, q3⟩ := iv28.row h0 m1 m2 (by omega) (oc := .rng "minute" v) (by kernel_rfl) (by decide) (.c10 hsc28 iv28.cal ok hv) he0 ht0
        refine ⟨rr, rs, .ref t0, rfl, rfl, q1, q2, ?_⟩
        generalize hG : upd _ rr (.lst (rs ++ [V.ref t0])) = H29
        obtain ⟨iv29, b29⟩ := q3 _ hG.symm
        clear hG q1 q2 q3 he0 ht0
        have hsc29 := hsc28.nl (But.nl b29 iv28.rows.choose_spec.1)
        replace b29 := b28.trans b29
        exact ⟨_, _, _, rfl, iv29.mono (by omega), b29⟩
      rintro σ' H14 ⟨v7, v8, v9, rfl, iv14, b14⟩
      replace iv14 := iv14.mono (B' := 34) (by simp)
      obtain ⟨rs, r1, r2, r3⟩ := iv14.rows
      dsimp only
      refine st_seq ?_
      refine st_forL (a := rr) (xs := rs) (fun R q => ⟨_, rfl, q⟩) (fun j σ' H' => ∃ v6 v7 v8 v9, σ' = [some (.ref l), some (.ref land), some (.ref rule), some (.int d), some (.ref rr), some (.ref ee), v6, v7, v8, v9] ∧ Same H14 H') ⟨_, _, _, _, rfl, Same.refl _⟩ (fun j σ' H' _ ⟨_, _, _, _, _, s⟩ => SqL.of (s _ _ r1)) ?_ ?_
      · rintro j x σ' H15 hx ⟨v6, v7, v8, v9, rfl, s15⟩
        obtain ⟨t, e, κ, u1, u2, u3, oc, rfl, ht, he, hs, k2, hk⟩ := r3 x (List.mem_of_getElem? hx)
        have ht15 := s15 _ _ ht
        refine (show (_ : Prop) from ?_)
        refine ⟨_, rfl, t, _, _, .int κ, rfl, rfl, SqT.of ht15, rfl, _, rfl, t, _, _, u1, rfl, rfl, SqT.of ht15, rfl, _, rfl, t, _, _, u2, rfl, rfl, SqT.of ht15, rfl, _, rfl, t, _, _, u3, rfl, rfl, SqT.of ht15, rfl, κ, u1, u2, u3, some oc, rfl, hk.same s15, (fun e => nomatch e), fun oc' e' u H16 hu s16 => ?_⟩
        cases e'
        exact ⟨_, rfl, t, _, _, .ref e, rfl, rfl, SqT.of (s16 _ _ ht15), rfl, ne_tell hs hu (s16 _ _ (s15 _ _ he)) ⟨_, rfl, iteF ⟨_, _, _, _, rfl, s15.trans s16⟩⟩⟩
      · rintro σ' H15 ⟨v6, v7, v8, v9, rfl, s15⟩
        exact k _ ((iv14.pool.same s15).mono (by omega)) (iv14.fr.trans (Fr.of s15))
end
end My

namespace My
open PySem L2
/-! ### 26. the law's own rules while they grow -/
def LCsP (H : Hp) (S : Addr → Prop) (p : Addr) (cs : List Cd) : Prop := ∃ as, (H p = some (.lst as) ∧ S p) ∧ as.length = cs.length ∧ ∀ (i : Nat) (cd : Cd), cs[i]? = some cd → ∃ t : Addr, as[i]? = some (V.ref t) ∧ LCdP H S t cd ∧ okCd cd
def LRlP (H : Hp) (S : Addr → Prop) (t : Addr) (r : Rl) : Prop := ∃ pl ql, H t = some (.tup [.ref pl, .ref ql]) ∧ LPsP H S pl r.ps ∧ okPs r.ps ∧ r.ps.length ≤ 3 ∧ LCsP H S ql r.cs ∧ r.cs.length ≤ 8
structure Mv (S : Addr → Prop) (H H' : Hp) : Prop where
  nl : NL H H'
  ls : ∀ p xs, S p → H p = some (.lst xs) → H' p = some (.lst xs)
theorem Mv.same {S : Addr → Prop} {H H' : Hp} (s : Same H H') : Mv S H H' := ⟨nlS s, fun p xs _ e => s _ _ e⟩
theorem Mv.fr {S : Addr → Prop} {H H' : Hp} {l cl : Addr} {n : Nat} (f : Fr l cl H H') (hp : PoolAt H l cl n) (h : ∀ p, S p → p ≠ l ∧ p ≠ cl) : Mv S H H' := ⟨f.nl hp, fun p xs z e => f _ _ e (h p z).1 (h p z).2⟩
theorem Mv.but {S : Addr → Prop} {H H' : Hp} {D : Addr} {xs : List V} (b : L2.But D H H') (e : H D = some (.lst xs)) (h : ∀ p, S p → p ≠ D) : Mv S H H' := ⟨But.nl b e, fun p xs z e => b _ _ e (h p z)⟩
theorem LPsP.mv {S : Addr → Prop} {H H' : Hp} (m : Mv S H H') {p : Addr} {ps : List Part} (h : LPsP H S p ps) : LPsP H' S p ps := let ⟨as, x, y⟩ := h; ⟨as, ⟨m.ls _ _ x.2 x.1, x.2⟩, y.nl m.nl⟩
theorem LPsP.imp {S S' : Addr → Prop} {H : Hp} {p : Addr} {ps : List Part} (h : LPsP H S p ps) (i : ∀ p, S p → S' p) : LPsP H S' p ps := let ⟨as, x, y⟩ := h; ⟨as, ⟨x.1, i _ x.2⟩, y⟩
theorem LPsP.to {S : Addr → Prop} {H : Hp} {l cl p : Addr} {ps : List Part} (h : LPsP H S p ps) (i : ∀ p, S p → p ≠ l ∧ p ≠ cl) : LPs H l cl p ps := let ⟨as, x, y⟩ := h; ⟨as, ⟨x.1, i _ x.2⟩, y⟩
theorem LCdP.mv {S : Addr → Prop} {H H' : Hp} (m : Mv S H H') {t : Addr} {cd : Cd} (h : LCdP H S t cd) : LCdP H' S t cd := by
  cases cd with
  | md ps fe => obtain ⟨pl, x, y⟩ := h; exact ⟨pl, m.nl.tup x, y.mv m⟩
  | wd ps => obtain ⟨pl, x, y⟩ := h; exact ⟨pl, m.nl.tup x, y.mv m⟩
  | mo ps => obtain ⟨pl, x, y⟩ := h; exact ⟨pl, m.nl.tup x, y.mv m⟩
  | nth k v fe => exact m.nl.tup h
  | ev k f => exact m.nl.tup h
  | fr d => exact m.nl.tup h
  | un d => exact m.nl.tup h
  | no ds => obtain ⟨pl, x, y⟩ := h; exact ⟨pl, m.nl.tup x, m.ls _ _ y.2 y.1, y.2⟩
theorem LCdP.imp {S S' : Addr → Prop} {H : Hp} {t : Addr} {cd : Cd} (h : LCdP H S t cd) (i : ∀ p, S p → S' p) : LCdP H S' t cd := by
  cases cd with
  | md ps fe => obtain ⟨pl, x, y⟩ := h; exact ⟨pl, x, y.imp i⟩
  | wd ps => obtain ⟨pl, x, y⟩ := h; exact ⟨pl, x, y.imp i⟩
  | mo ps => obtain ⟨pl, x, y⟩ := h; exact ⟨pl, x, y.imp i⟩
  | nth k v fe => exact h
  | ev k f => exact h
  | fr d => exact h
  | un d => exact h
  | no ds => obtain ⟨pl, x, y⟩ := h; exact ⟨pl, x, y.1, i _ y.2⟩
theorem LCdP.to {S : Addr → Prop} {H : Hp} {l cl t : Addr} {cd : Cd} (h : LCdP H S t cd) (i : ∀ p, S p → p ≠ l ∧ p ≠ cl) : LCd H l cl t cd := by
  cases cd with
  | md ps fe => obtain ⟨pl, x, y⟩ := h; exact ⟨pl, x, y.to i⟩
  | wd ps => obtain ⟨pl, x, y⟩ := h; exact ⟨pl, x, y.to i⟩
  | mo ps => obtain ⟨pl, x, y⟩ := h; exact ⟨pl, x, y.to i⟩
  | nth k v fe => exact h
  | ev k f => exact h
  | fr d => exact h
  | un d => exact h
  | no ds => obtain ⟨pl, x, y⟩ := h; exact ⟨pl, x, y.1, i _ y.2⟩
theorem LCsP.mv {S : Addr → Prop} {H H' : Hp} (m : Mv S H H') {p : Addr} {cs : List Cd} (h : LCsP H S p cs) : LCsP H' S p cs := let ⟨as, x, y, z⟩ := h; ⟨as, ⟨m.ls _ _ x.2 x.1, x.2⟩, y, fun i cd e => let ⟨t, u, v, w⟩ := z i cd e; ⟨t, u, v.mv m, w⟩⟩
theorem LCsP.to {S : Addr → Prop} {H : Hp} {l cl p : Addr} {cs : List Cd} (h : LCsP H S p cs) (i : ∀ p, S p → p ≠ l ∧ p ≠ cl) : LCs H l cl p cs := let ⟨as, x, y, z⟩ := h; ⟨as, ⟨x.1, i _ x.2⟩, y, fun j cd e => let ⟨t, u, v, w⟩ := z j cd e; ⟨t, u, v.to i, w⟩⟩
theorem LRlP.mv {S : Addr → Prop} {H H' : Hp} (m : Mv S H H') {t : Addr} {r : Rl} (h : LRlP H S t r) : LRlP H' S t r := let ⟨pl, ql, x, y, z, z3, u, v⟩ := h; ⟨pl, ql, m.nl.tup x, y.mv m, z, z3, u.mv m, v⟩
theorem LRlP.to {S : Addr → Prop} {H : Hp} {l cl t : Addr} {r : Rl} (h : LRlP H S t r) (i : ∀ p, S p → p ≠ l ∧ p ≠ cl) : LRl H l cl t r := let ⟨pl, ql, x, y, z, _, u, v⟩ := h; ⟨pl, ql, x, y.to i, z, u.to i, v⟩
def LRsP (H : Hp) (S : Addr → Prop) (as : List V) (rs : List Rl) : Prop := as.length = rs.length ∧ ∀ (i : Nat) (r : Rl), rs[i]? = some r → ∃ t : Addr, as[i]? = some (V.ref t) ∧ LRlP H S t r
theorem LRsP.mv {S : Addr → Prop} {H H' : Hp} (m : Mv S H H') {as : List V} {rs : List Rl} (h : LRsP H S as rs) : LRsP H' S as rs := ⟨h.1, fun i r e => let ⟨t, x, y⟩ := h.2 i r e; ⟨t, x, y.mv m⟩⟩
theorem LRsP.to {S : Addr → Prop} {H : Hp} {l cl p : Addr} {as : List V} {rs : List Rl} (h : LRsP H S as rs) (i : ∀ p, S p → p ≠ l ∧ p ≠ cl) (e : LL H l cl p as) : LRs H l cl p rs := ⟨as, e, h.1, fun j r e => let ⟨t, x, y⟩ := h.2 j r e; ⟨t, x, y.to i⟩⟩
theorem get_snoc {α : Type} {xs : List α} {y z : α} {i : Nat} (h : (xs ++ [y])[i]? = some z) : xs[i]? = some z ∧ i < xs.length ∨ (i = xs.length ∧ z = y) := by
  by_cases c : i < xs.length
  · rw [List.getElem?_append_left c] at h
    exact Or.inl ⟨h, c⟩
  · have : i = xs.length := by
      have := (List.getElem?_eq_some_iff.mp h).1
      simp at this
      omega
    subst this
    rw [List.getElem?_append_right (Nat.le_refl _), Nat.sub_self] at h
    cases h
    exact Or.inr ⟨rfl, rfl⟩
theorem at_last {α : Type} {xs : List α} {y : α} : (xs ++ [y])[xs.length]? = some y := by
  rw [List.getElem?_append_right (Nat.le_refl _), Nat.sub_self]
  rfl
theorem LRsP.snoc {S : Addr → Prop} {H : Hp} {as : List V} {rs : List Rl} {t : Addr} {r : Rl} (h : LRsP H S as rs) (hr : LRlP H S t r) : LRsP H S (as ++ [.ref t]) (rs ++ [r]) := by
  refine ⟨by simp [h.1], fun i r' e => ?_⟩
  rcases get_snoc e with ⟨e, c⟩ | ⟨rfl, rfl⟩
  · obtain ⟨u, x, y⟩ := h.2 i r' e
    exact ⟨u, by rw [List.getElem?_append_left (by rw [h.1]; exact c)]; exact x, y⟩
  · exact ⟨t, by rw [← h.1]; exact at_last, hr⟩
theorem RObjs.snoc {a : Ad} {K : PySem.W.Frag} {H : Hp} {as : List V} {rs : List Rl} {t : Addr} {r : Rl} (h : RObjs a K H as rs) (hr : RlAt a K H t r) : RObjs a K H (as ++ [.ref t]) (rs ++ [r]) := by
  refine ⟨by simp [h.1], fun i r' e => ?_⟩
  rcases get_snoc e with ⟨e, c⟩ | ⟨rfl, rfl⟩
  · obtain ⟨u, x, y⟩ := h.2 i r' e
    exact ⟨u, by rw [List.getElem?_append_left (by rw [h.1]; exact c)]; exact x, y⟩
  · exact ⟨t, by rw [← h.1]; exact at_last, hr⟩
theorem Objs.snoc {a : Ad} {K : PySem.W.Frag} {H : Hp} {as : List V} {cs : List Cd} {t : Addr} {cd : Cd} (h : Objs a K H as cs) (hr : CdAt a K H t cd) : Objs a K H (as ++ [.ref t]) (cs ++ [cd]) := by
  refine ⟨by simp [h.1], fun i r' e => ?_⟩
  rcases get_snoc e with ⟨e, c⟩ | ⟨rfl, rfl⟩
  · obtain ⟨u, x, y⟩ := h.2 i r' e
    exact ⟨u, by rw [List.getElem?_append_left (by rw [h.1]; exact c)]; exact x, y⟩
  · exact ⟨t, by rw [← h.1]; exact at_last, hr⟩
theorem Objs.nl {a : Ad} {K : PySem.W.Frag} {H H' : Hp} (f : NL H H') {as : List V} {cs : List Cd} (h : Objs a K H as cs) : Objs a K H' as cs := ⟨h.1, fun i r e => let ⟨p, x, y⟩ := h.2 i r e; ⟨p, x, y.nl f⟩⟩
end My
namespace L2
open PySem PySem.Spec PyProof.Rows My
/-- the objects of a list of conditions -/
theorem comp_obj {a : Ad} {K : PySem.W.Frag} {te : TE} {vs : List Nat} {σ : St} {H1 : Hp} {Q : VK} {i0 : Nat} {tl : TE} {p : Addr} {cs : List Cd} {l cl : Addr} (hl : ∀ R : V → Hp → Prop, R (.ref p) H1 → tl σ H1 R) (hc : LCs H1 l cl p cs) (hz : cs.length ≤ 1000) (hw : ∀ x, wipe ((wipe σ vs).set i0 (some x)) vs = wipe σ vs)
    (he : ∀ t cd H (Q' : VK), LCd H l cl t cd → okCd cd → (∀ p H2, CdAt a K H2 p cd → Same H H2 → Q' (.ref p) H2) → te ((wipe σ vs).set i0 (some (.ref t))) H Q')
    (hd : ∀ D bs H', H1 D = none → H' D = some (.lst bs) → Objs a K H' bs cs → Same H1 H' → Q (.ref D) H') : tLc (iList K tl) (gName i0) tYes te vs σ H1 Q := by
  obtain ⟨as, hl1, hlen, hat⟩ := hc
  refine hl _ ⟨p, rfl, ⟨_, SqL.of hl1.1⟩, fun D hD => ?_⟩
  refine lc_list (xs := as) (fun i H' => ∃ bs, H' D = some (.lst bs) ∧ Objs a K H' bs (cs.take i) ∧ Same H1 H') ⟨[], upd_same, ⟨by simp, fun i cd e => by simp at e⟩, Same.new hD⟩ (fun i H' _ ⟨_, _, _, s⟩ => s.seq (SqL.of hl1.1)) ?_ ?_
  · rintro i x H' hx ⟨bs, h1, ob, s1⟩
    refine ⟨hw x, ?_⟩
    have hi : i < cs.length := by rw [← hlen]; exact (List.getElem?_eq_some_iff.mp hx).1
    obtain ⟨cd, hcd⟩ : ∃ cd, cs[i]? = some cd := ⟨_, List.getElem?_eq_getElem hi⟩
    obtain ⟨t, w1, w2, w3⟩ := hat i cd hcd
    rw [hx] at w1
    cases w1
    show te _ H' _
    refine he t cd H' _ (w2.same s1) w3 fun q H2 hq s2 => ⟨bs, s2 _ _ h1, ?_, bs ++ [.ref q], upd_same, ?_, ?_⟩
    · rw [ob.1, List.length_take]
      exact Nat.lt_of_le_of_lt (Nat.le_trans (Nat.min_le_right _ _) hz) (by decide)
    · have b : L2.But D H2 (upd H2 D (.lst (bs ++ [.ref q]))) := (But.refl _ _).upd
      have nl := My.But.nl b (s2 _ _ h1)
      rw [take_snoc hcd]
      exact ((ob.same s2).snoc hq).nl nl
    · intro b o e
      rw [upd_ne (ne_of_none e hD)]
      exact s2 _ _ (s1 _ _ e)
  · rintro H' ⟨bs, h1, ob, s1⟩
    rw [hlen, List.take_length] at ob
    exact hd D bs H' hD h1 ob s1
end L2

namespace My
open PySem L2
/-! ### 27. the law -/
theorem at_zs {zs : List Int} (h : zs.length = 41) {i : Int} (hi : -41 ≤ i ∧ i < 41) : ∃ z, atI (zs.map V.int) i = some (.int z) ∧ z ∈ zs := by
  unfold atI ixN
  rw [List.length_map, h]
  by_cases c : 0 ≤ i
  · rw [if_pos c, if_pos (by omega)]
    refine ⟨zs[i.toNat]'(by omega), ?_, List.getElem_mem _⟩
    show (zs.map V.int)[i.toNat]? = _
    rw [List.getElem?_map, List.getElem?_eq_getElem (by omega)]
    rfl
  · rw [if_neg c, if_pos (by omega)]
    refine ⟨zs[(i + (41 : Nat)).toNat]'(by omega), ?_, List.getElem_mem _⟩
    show (zs.map V.int)[(i + (41 : Nat)).toNat]? = _
    rw [List.getElem?_map, List.getElem?_eq_getElem (by omega)]
    rfl
def spLaw (K : PySem.W.Frag) : Sp := fun vs H Q _ => ∃ (s : Addr) (ns : List Int), vs = [.ref s] ∧ SqL K H s (ns.map V.int) ∧ ns.length ≤ 63 ∧ ∀ H', Q (.bl true) H'
def CdsP (H : Hp) (S : Addr → Prop) (as : List V) (cs : List Cd) : Prop := as.length = cs.length ∧ ∀ (i : Nat) (cd : Cd), cs[i]? = some cd → ∃ t : Addr, as[i]? = some (V.ref t) ∧ LCdP H S t cd ∧ okCd cd
theorem CdsP.mv {S : Addr → Prop} {H H' : Hp} (m : Mv S H H') {as : List V} {cs : List Cd} (h : CdsP H S as cs) : CdsP H' S as cs := ⟨h.1, fun i cd e => let ⟨t, u, v, w⟩ := h.2 i cd e; ⟨t, u, v.mv m, w⟩⟩
theorem CdsP.imp {S S' : Addr → Prop} {H : Hp} {as : List V} {cs : List Cd} (h : CdsP H S as cs) (i : ∀ p, S p → S' p) : CdsP H S' as cs := ⟨h.1, fun j cd e => let ⟨t, u, v, w⟩ := h.2 j cd e; ⟨t, u, v.imp i, w⟩⟩
theorem CdsP.snoc {S : Addr → Prop} {H : Hp} {as : List V} {cs : List Cd} {t : Addr} {cd : Cd} (h : CdsP H S as cs) (hr : LCdP H S t cd) (ok : okCd cd) : CdsP H S (as ++ [.ref t]) (cs ++ [cd]) := by
  refine ⟨by simp [h.1], fun i r' e => ?_⟩
  rcases get_snoc e with ⟨e, c⟩ | ⟨rfl, rfl⟩
  · obtain ⟨u, x, y⟩ := h.2 i r' e
    exact ⟨u, by rw [List.getElem?_append_left (by rw [h.1]; exact c)]; exact x, y⟩
  · exact ⟨t, by rw [← h.1]; exact at_last, hr, ok⟩
theorem PoolAt.out {H : Hp} {l cl p : Addr} {n : Nat} (h : PoolAt H l cl n) (e : H p = none) : p ≠ l ∧ p ≠ cl := by
  obtain ⟨x, b, ns, h1, h2, _⟩ := h
  exact ⟨(ne_of_none h1 e).symm, (ne_of_none h2 e).symm⟩
def S3 (l cl rl : Addr) (p : Addr) : Prop := (p ≠ l ∧ p ≠ cl) ∧ p ≠ rl
structure AL (a : Ad) (K : PySem.W.Frag) (l cl land wt rl x ml u : Addr) (c : Cal) (rs : List Rl) (as bs : List V) (zs : List Int) (H : Hp) : Prop where
  cal : CalAt a.c_Calendar K H land c
  w : W11 H l cl wt c
  el : H rl = some (.lst as)
  lr : LRsP H (S3 l cl rl) as rs
  sc : ScAt a K H x rs
  em : H ml = some (.lst bs)
  ob : RObjs a K H bs rs
  mn : H u = some (.lst (zs.map V.int))
section
variable {a : Ad} {K : PySem.W.Frag} {l cl land wt rl x ml u : Addr} {c : Cal} {rs : List Rl} {as bs : List V} {zs : List Int} {H H' : Hp}
theorem AL.same (h : AL a K l cl land wt rl x ml u c rs as bs zs H) (s : Same H H') : AL a K l cl land wt rl x ml u c rs as bs zs H' := ⟨h.cal.same s, h.w.same s, s _ _ h.el, h.lr.mv (Mv.same s), h.sc.same s, s _ _ h.em, h.ob.same s, s _ _ h.mn⟩
theorem AL.fr (h : AL a K l cl land wt rl x ml u c rs as bs zs H) {n : Nat} (f : Fr l cl H H') (p : PoolAt H l cl n) (r : rl ≠ l ∧ rl ≠ cl) (m : ml ≠ l ∧ ml ≠ cl) (v : u ≠ l ∧ u ≠ cl) : AL a K l cl land wt rl x ml u c rs as bs zs H' := ⟨h.cal.fr f p, h.w.fr f p, f _ _ h.el r.1 r.2, h.lr.mv (Mv.fr f p fun _ z => z.1), h.sc.nl (f.nl p), f _ _ h.em m.1 m.2, h.ob.nl (f.nl p), f _ _ h.mn v.1 v.2⟩
theorem AL.lrs (h : AL a K l cl land wt rl x ml u c rs as bs zs H) (r : rl ≠ l ∧ rl ≠ cl) : LRs H l cl rl rs := h.lr.to (fun _ z => z.1) ⟨h.el, r⟩
end
theorem cut5 {xs : List V} : cutV xs none (some 5) = xs.take 5 := by
  unfold cutV HT.sIx
  simp
  try omega
section
variable {P : Program} {w : World} {K : PySem.W.Frag} {mg : Str → Option Value} {base : Heap} {a : Ad}
theorem G_law (T : Tx K mg a) : FnOk P w K mg base CX0 12 a.f_law a.d_law ["script"] (spLaw K) := by
  refine T.F_law.ok sc_law (fun vs H Q E h => ?_) (fun cdv A outer s H vs Q E hr h => ?_)
  · obtain ⟨s, ns, rfl, _⟩ := h
    rfl
  · obtain ⟨sc, ns, rfl, hsc, hns, k⟩ := h
    refine ⟨_, (pss_cons (ps_set (i := 1) sc_law.nd rfl (Or.inr rfl) (pe_call (G__law_start T) (hr.mono (by decide)) rfl T.g__law_start T.F__law_start.kp T.b__law_start .nil pass0 (pa_cons (pv 0) pa_nil)))
      (pss_cons (ps_asg (pe_call (G__law_drawn T) (hr.mono (by decide)) rfl T.g__law_drawn T.F__law_drawn.kp T.b__law_drawn .nil pass0 (pa_cons (pv 1) pa_nil)) (pg_tup rfl (pgs_cons (pg_name (i := 2) sc_law.nd rfl (Or.inl rfl)) (pgs_cons (pg_name (i := 3) sc_law.nd rfl (Or.inl rfl)) pgs_nil))))
      (pss_cons (ps_set (i := 4) sc_law.nd rfl (Or.inl rfl) (pe_op op_fdivW (pe_call (G__law_draw T) (hr.mono (by decide)) rfl T.g__law_draw T.F__law_draw.kp T.b__law_draw .nil pass0 (pa_cons (pv 1) (pa_cons pe_int pa_nil))) pe_int))
      (pss_cons (ps_set (i := 5) sc_law.nd rfl (Or.inl rfl) (pe_lst pa_nil))
      (pss_cons (ps_for PassesOwn.never rfl (pi_range1 rfl T.n_range (pa_cons (pe_op op_add pe_int (pe_call (G__law_draw T) (hr.mono (by decide)) rfl T.g__law_draw T.F__law_draw.kp T.b__law_draw .nil pass0 (pa_cons (pv 1) (pa_cons (pe_op op_add pe_int (pe_op op_mul pe_int (pv 4))) pa_nil)))) pa_nil)) (pg_name (i := 6) sc_law.nd rfl (Or.inl rfl)) (pss_cons (ps_setLc (i := 7) (own := [("j", 8)]) (g := gName 8) (tt := tYes) rfl sc_law.nd rfl rfl (sw_true rfl rfl rfl (by decide +kernel)) (pi_range1 rfl T.n_range (pa_cons (pe_call (G__law_draw T) (hr.mono (by decide)) rfl T.g__law_draw T.F__law_draw.kp T.b__law_draw .nil pass0 (pa_cons (pv 1) (pa_cons (pe_op op_add pe_int (pe_op op_mul pe_int (pv 4))) pa_nil))) pa_nil)) (blkOk_by (own := [("j", 8)]) (N := ["script", "pool", "land", "w", "big", "rules", "k", "cs", "j", "made", "rule", "c", "whole", "minutes", "minute", "never", "none", "some", "parts"]) (sc := defScope s_law) (by decide +kernel)) (fun _ _ _ _ _ => (pg_name (i := 8) sc_law.nd rfl (Or.inl rfl))) (fun _ _ _ _ _ => pts_nil) (fun _ _ _ _ _ => (pe_call (G__law_condition T) (hr.mono (by decide)) rfl T.g__law_condition T.F__law_condition.kp T.b__law_condition .nil pass0 (pa_cons (pv 1) pa_nil))))
      (pss_one (ps_expr (pe_bm PySem.F.plainAttrs_list PySem.F.slot_list_append PySem.F.type_list_append mt_append (pv 5) (pa_cons (pe_tup (pa_cons (pe_call (G__law_parts T) (hr.mono (by decide)) rfl T.g__law_parts T.F__law_parts.kp T.b__law_parts .nil pass0 (pa_cons (pv 1) (pa_cons (pe_op op_add (pe_ix ix_tup (pv 3) pe_int (fun _ _ => rfl)) pe_int) pa_nil))) (pa_cons (pv 7) pa_nil))) pa_nil))))))
      (pss_cons (ps_set (i := 9) sc_law.nd rfl (Or.inl rfl) (pe_lst pa_nil))
      (pss_cons (ps_for PassesOwn.never rfl (pi_list (pv 5)) (pg_name (i := 10) sc_law.nd rfl (Or.inl rfl)) (pss_one (ps_expr (pe_bm PySem.F.plainAttrs_list PySem.F.slot_list_append PySem.F.type_list_append mt_append (pv 9) (pa_cons (pe_make T.M_Rule (G_Rule_init T) (hr.mono (by decide)) rfl T.g_Rule T.bP_Rule_init_1.choose_spec.2 T.bP_Rule_init_1.choose_spec.1 passL (pa_cons (pe_make T.M_Choice (G_Choice_init T) (hr.mono (by decide)) rfl T.g_Choice T.bP_Choice_init_1.choose_spec.2 T.bP_Choice_init_1.choose_spec.1 passL (pa_cons (pe_ix ix_tup (pv 10) pe_int (fun _ _ => rfl)) pa_nil)) (pa_cons (pe_lc (own := [("c", 11)]) (g := gName 11) (tt := tYes) rfl sc_law.nd (pi_list (pe_ix ix_tup (pv 10) pe_int (fun _ _ => rfl))) (blkOk_by (own := [("c", 11)]) (N := ["script", "pool", "land", "w", "big", "rules", "k", "cs", "j", "made", "rule", "c", "whole", "minutes", "minute", "never", "none", "some", "parts"]) (sc := defScope s_law) (by decide +kernel)) (fun _ _ _ _ _ => (pg_name (i := 11) sc_law.nd rfl (Or.inl rfl))) (fun _ _ _ _ _ => pts_nil) (fun _ _ _ _ _ => (pe_call (G__law_object T) (hr.mono (by decide)) rfl T.g__law_object T.F__law_object.kp T.b__law_object .nil pass0 (pa_cons (pv 11) pa_nil)))) pa_nil))) pa_nil)))))
      (pss_cons (ps_set (i := 12) sc_law.nd rfl (Or.inl rfl) (pe_make T.M_Schedule (G_Schedule_init T) (hr.mono (by decide)) rfl T.g_Schedule T.b_Schedule_init .nil passL (pa_cons (pv 9) pa_nil)))
      (pss_cons (ps_set (i := 13) sc_law.nd rfl (Or.inl rfl) (pe_op op_cat (pe_listRg rfl rfl T.n_list (prg_1 rfl T.n_range pe_int)) (pe_lc (own := [("k", 6)]) (g := gName 6) (tt := tYes) rfl sc_law.nd (pi_range1 rfl T.n_range (pa_cons pe_int pa_nil)) (blkOk_by (own := [("k", 6)]) (N := ["script", "pool", "land", "w", "big", "rules", "k", "cs", "j", "made", "rule", "c", "whole", "minutes", "minute", "never", "none", "some", "parts"]) (sc := defScope s_law) (by decide +kernel)) (fun _ _ _ _ _ => (pg_name (i := 6) sc_law.nd rfl (Or.inl rfl))) (fun _ _ _ _ _ => pts_nil) (fun _ _ _ _ _ => (pe_call (G__law_draw T) (hr.mono (by decide)) rfl T.g__law_draw T.F__law_draw.kp T.b__law_draw .nil pass0 (pa_cons (pv 1) (pa_cons pe_int pa_nil)))))))
      (pss_cons (ps_set (i := 13) sc_law.nd rfl (Or.inl rfl) (pe_op op_cat (pe_op op_cat (pv 13) (pe_lc (own := [("k", 6)]) (g := gName 6) (tt := tYes) rfl sc_law.nd (pi_range1 rfl T.n_range (pa_cons pe_int pa_nil)) (blkOk_by (own := [("k", 6)]) (N := ["script", "pool", "land", "w", "big", "rules", "k", "cs", "j", "made", "rule", "c", "whole", "minutes", "minute", "never", "none", "some", "parts"]) (sc := defScope s_law) (by decide +kernel)) (fun _ _ _ _ _ => (pg_name (i := 6) sc_law.nd rfl (Or.inl rfl))) (fun _ _ _ _ _ => pts_nil) (fun _ _ _ _ _ => (pe_call (G__law_far T) (hr.mono (by decide)) rfl T.g__law_far T.F__law_far.kp T.b__law_far .nil pass0 (pa_cons (pv 1) pa_nil))))) (pe_lst (pa_cons (pe_op op_pow pe_int pe_int) (pa_cons pe_int pa_nil)))))
      (pss_cons (ps_for PassesOwn.never rfl (pi_list (pv 13)) (pg_name (i := 14) sc_law.nd rfl (Or.inl rfl)) (pss_one (ps_if (pt_not (pt_val (pe_call (G__law_why T) (hr.mono (by decide)) rfl T.g__law_why T.F__law_why.kp T.b__law_why .nil pass0 (pa_cons (pv 12) (pa_cons (pv 2) (pa_cons (pv 3) (pa_cons (pv 5) (pa_cons (pv 14) pa_nil)))))))) (pss_one (ps_ret pe_bl)) pss_nil)))
      (pss_cons (ps_if (pt_not (pt_val (pe_call (G__law_why T) (hr.mono (by decide)) rfl T.g__law_why T.F__law_why.kp T.b__law_why .nil pass0 (pa_cons (pe_make T.M_Schedule (G_Schedule_init T) (hr.mono (by decide)) rfl T.g_Schedule T.b_Schedule_init .nil passL (pa_cons (pe_lst (pa_cons (pe_make T.M_Rule (G_Rule_init T) (hr.mono (by decide)) rfl T.g_Rule T.bP_Rule_init_0.choose_spec.2 T.bP_Rule_init_0.choose_spec.1 passL (pa_cons (pe_make0 T.M_Choice (G_Choice_init T) (hr.mono (by decide)) rfl T.g_Choice T.bP_Choice_init_0.choose_spec.2 T.bP_Choice_init_0.choose_spec.1 passL) pa_nil)) pa_nil)) pa_nil)) (pa_cons (pv 2) (pa_cons (pv 3) (pa_cons (pe_lst (pa_cons (pe_tup (pa_cons (pe_lst pa_nil) (pa_cons (pe_lst pa_nil) pa_nil))) pa_nil)) (pa_cons (pe_ix ix_list (pv 13) (pe_un un_neg pe_int) (fun _ _ => rfl)) pa_nil)))))))) (pss_one (ps_ret pe_bl)) pss_nil)
      (pss_cons (ps_set (i := 15) sc_law.nd rfl (Or.inl rfl) (pe_lst (pa_cons (pe_tup (pa_cons pe_int (pa_cons pe_int pa_nil))) (pa_cons (pe_tup (pa_cons pe_int (pa_cons pe_int pa_nil))) pa_nil))))
      (pss_cons (ps_set (i := 16) sc_law.nd rfl (Or.inl rfl) (pe_make T.M_Rule (G_Rule_init T) (hr.mono (by decide)) rfl T.g_Rule T.bP_Rule_init_1.choose_spec.2 T.bP_Rule_init_1.choose_spec.1 passL (pa_cons (pe_make0 T.M_Choice (G_Choice_init T) (hr.mono (by decide)) rfl T.g_Choice T.bP_Choice_init_0.choose_spec.2 T.bP_Choice_init_0.choose_spec.1 passL) (pa_cons (pe_lc (own := [("c", 11)]) (g := gName 11) (tt := tYes) rfl sc_law.nd (pi_list (pv 15)) (blkOk_by (own := [("c", 11)]) (N := ["script", "pool", "land", "w", "big", "rules", "k", "cs", "j", "made", "rule", "c", "whole", "minutes", "minute", "never", "none", "some", "parts"]) (sc := defScope s_law) (by decide +kernel)) (fun _ _ _ _ _ => (pg_name (i := 11) sc_law.nd rfl (Or.inl rfl))) (fun _ _ _ _ _ => pts_nil) (fun _ _ _ _ _ => (pe_call (G__law_object T) (hr.mono (by decide)) rfl T.g__law_object T.F__law_object.kp T.b__law_object .nil pass0 (pa_cons (pv 11) pa_nil)))) pa_nil))))
      (pss_cons (ps_set (i := 17) sc_law.nd rfl (Or.inl rfl) (pe_op op_cat (pe_lst (pa_cons (pe_tup (pa_cons (pe_lst pa_nil) (pa_cons (pv 15) pa_nil))) pa_nil)) (pe_slice sl_list (pv 5) po_none (po_some pe_int))))
      (pss_cons (ps_if (pt_not (pt_val (pe_call (G__law_why T) (hr.mono (by decide)) rfl T.g__law_why T.F__law_why.kp T.b__law_why .nil pass0 (pa_cons (pe_make T.M_Schedule (G_Schedule_init T) (hr.mono (by decide)) rfl T.g_Schedule T.b_Schedule_init .nil passL (pa_cons (pe_op op_cat (pe_lst (pa_cons (pv 16) pa_nil)) (pe_slice sl_list (pv 9) po_none (po_some pe_int))) pa_nil)) (pa_cons (pv 2) (pa_cons (pv 3) (pa_cons (pv 17) (pa_cons (pe_ix ix_list (pv 13) pe_int (fun _ _ => rfl)) pa_nil)))))))) (pss_one (ps_ret pe_bl)) pss_nil)
      (pss_cons (ps_for PassesOwn.never rfl (pi_list (pe_lst (pa_cons (pe_ix ix_tup (pe_ix ix_list (pv 5) pe_int (fun _ _ => rfl)) pe_int (fun _ _ => rfl)) (pa_cons (pe_call (G__law_wide T) (hr.mono (by decide)) rfl T.g__law_wide T.F__law_wide.kp T.b__law_wide .nil pass0 (pa_cons (pv 1) pa_nil)) (pa_cons (pe_lst pa_nil) pa_nil))))) (pg_name (i := 18) sc_law.nd rfl (Or.inl rfl)) (pss_one (ps_if (PW.pt (pw_or (pt_not (pt_val (pe_call (G__law_choice T) (hr.mono (by decide)) rfl T.g__law_choice T.F__law_choice.kp T.b__law_choice .nil pass0 (pa_cons (pv 1) (pa_cons (pv 18) pa_nil))))) (pw_or1 (pt_not (pt_val (pe_call (G__law_wrong T) (hr.mono (by decide)) rfl T.g__law_wrong T.F__law_wrong.kp T.b__law_wrong .nil pass0 (pa_cons (pv 1) (pa_cons (pv 18) pa_nil)))))))) (pss_one (ps_ret pe_bl)) pss_nil)))
      (pss_cons (ps_if (pt_not (pt_val (pe_call (G__law_integers T) (hr.mono (by decide)) rfl T.g__law_integers T.F__law_integers.kp T.b__law_integers .nil pass0 (pa_cons (pv 1) (pa_cons (pv 2) (pa_cons (pe_ix ix_list (pv 9) pe_int (fun _ _ => rfl)) pa_nil)))))) (pss_one (ps_ret pe_bl)) pss_nil)
      (pss_one (ps_ret (pe_call (G__law_why T) (hr.mono (by decide)) rfl T.g__law_why T.F__law_why.kp T.b__law_why .nil pass0 (pa_cons (pv 12) (pa_cons (pv 2) (pa_cons (pv 3) (pa_cons (pv 5) (pa_cons (pe_ix ix_list (pv 13) pe_int (fun _ _ => rfl)) pa_nil)))))))))))))))))))))))))), ?_⟩
    refine st_letX ⟨_, rfl, sc, ns, rfl, hsc, hns, fun l cl H1 p1 _ _ _ => ?_⟩
    refine st_seq ⟨_, rfl, l, cl, 0, rfl, p1, by decide, fun t land wt c H2 ht hc hw ok d26 p2 f2 => ⟨t, _, rfl, SqT.of ht, rfl, _, _, rfl, _, _, rfl, rfl, ?_⟩⟩
    dsimp only
    refine st_letX ?_
    refine ⟨_, rfl, l, cl, 8, _, rfl, p2, by omega, by decide, by decide, fun d H3 d0 d1 p3 f3 => ⟨_, _, rfl, rfl, wide_div (b := 40) (by omega) (by omega) (by decide) (by decide), ?_⟩⟩
    have hb : 0 ≤ d / 7 ∧ d / 7 ≤ 1 := by omega
    have hc3 := hc.fr f3 p2
    have hw3 := hw.fr f3 p2
    dsimp only [gName]
    generalize d / 7 = big at hb ⊢
    clear d0 d1 d f2 f3 p2 hc hw ht
    refine st_letX ?_
    refine ⟨by show 0 ≤ sizeLine; decide, fun rl hrl => ?_⟩
    obtain ⟨_, r1, r2⟩ := (Fr.refl l cl H3).free p3 hrl
    have s4 := Same.new (o := .lst []) hrl
    have e4 := hasNew s4
    have p4 := p3.same s4
    have f4 : Fr l cl H3 (upd H3 rl (.lst [])) := Fr.of s4
    clear s4
    generalize upd H3 rl (.lst []) = H4 at e4 p4 f4 ⊢
    refine st_seq ?_
    refine ⟨_, rfl, _, rfl, _, _, rfl, rfl, Or.inl ⟨by omega, by omega⟩, _, _, rfl, rfl, l, cl, _, _, rfl, p4, by omega, by omega, Int.lt_of_le_of_lt (show _ ≤ (6 : Int) by omega) (by decide), fun e H5 e0 e1 p5 f5 => ⟨_, _, rfl, rfl, ?_⟩⟩
    have e6 : e < 6 := by omega
    obtain ⟨dl, das, hwt, _⟩ := id hw3
    have s3o : ∀ p, S3 l cl rl p → p ≠ l ∧ p ≠ cl := fun p z => z.1
    refine st_forR1 (ta := tC (.int (1 + e))) (n := (1 + e).toNat) val_c (by omega) (by omega) (fun i σ' H' => ∃ v6 v7 v8 as rs, σ' = [some (.ref sc), some (.ref l), some (.ref land), some (.ref wt), some (.int big), some (.ref rl), v6, v7, v8, none, none, none, none, none, none, none, none, none, none] ∧ H' rl = some (.lst as) ∧ LRsP H' (S3 l cl rl) as rs ∧ rs.length = i ∧ PoolAt H' l cl (100 + 300 * i) ∧ Fr l cl H3 H')
      ⟨none, none, none, [], [], rfl, f5 _ _ e4 r1 r2, ⟨rfl, fun i q e => by cases e⟩, rfl, p5.mono (by omega), f4.trans f5⟩ ?_ ?_
    · rintro i σ' H6 hi ⟨v6, v7, v8, as, rs, rfl, er, lr, li, p6, f6⟩
      refine (show (_ : Prop) from ?_)
      refine st_seq ?_
      refine ⟨_, rfl, _, rfl, _, _, rfl, rfl, Or.inl ⟨by omega, by omega⟩, _, _, rfl, rfl, l, cl, _, _, rfl, p6, by omega, by omega, Int.lt_of_le_of_lt (show _ ≤ (9 : Int) by omega) (by decide), fun m H7 m0 m9 p7 f7 => ⟨_, rfl, by omega, by omega, fun D hD => ?_⟩⟩
      obtain ⟨D0, D1, D2⟩ := (Fr.refl l cl H7).free p7 hD
      have er7 := f7 _ _ er r1 r2
      have Dr : D ≠ rl := (ne_of_none er7 hD).symm
      refine lc_range (lo := 0) (n := m.toNat) (fun j H' => ∃ ts cds, H' D = some (.lst ts) ∧ CdsP H' (fun p => S3 l cl rl p ∧ p ≠ D) ts cds ∧ cds.length = j ∧ PoolAt H' l cl (101 + 300 * i + 20 * j) ∧ Fr l cl H7 H') ⟨[], [], upd_same, ⟨rfl, fun i q e => by cases e⟩, rfl, (p7.put D1 D2).mono (by omega), (Fr.refl l cl H7).put hD⟩ ?_ ?_
      · rintro j H8 hj ⟨ts, cds, e8, cp, lj, p8, f8⟩
        refine ⟨rfl, ?_⟩
        refine ⟨_, rfl, l, cl, _, rfl, p8, by omega, fun t cd H9 hcd okc p9 f9 => ⟨ts, f9 _ _ e8 D1 D2, by rw [cp.1, lj]; exact small1000 (by omega), ts ++ [.ref t], cds ++ [cd], upd_same, ?_, by simp [lj], (p9.put D1 D2).mono (by omega), (f8.trans f9).put hD⟩⟩
        have b9 : L2.But D H9 (upd H9 D (.lst (ts ++ [.ref t]))) := (But.refl _ _).upd
        have er8 := f8 _ _ er7 r1 r2
        have hcd' := hcd.imp (S' := fun p => S3 l cl rl p ∧ p ≠ D) fun p z => ⟨⟨p8.out z, (ne_of_none er8 z).symm⟩, (ne_of_none e8 z).symm⟩
        exact ((cp.mv (Mv.fr f9 p8 fun p z => z.1.1)).snoc hcd' okc).mv (Mv.but b9 (f9 _ _ e8 D1 D2) fun p z => z.2)
      rintro H8 ⟨ts, cds, e8, cp, lj, p8, f8⟩
      have er8 := f8 _ _ er7 r1 r2
      have lr8 := (lr.mv (Mv.fr f7 p6 s3o)).mv (Mv.fr f8 p7 s3o)
      have F8 := (f6.trans f7).trans f8
      refine ⟨_, rfl, tyL er8, ?_⟩
      refine ⟨_, rfl, _, rfl, wt, _, _, .int c.day, rfl, rfl, SqT.of (F8.tup p3 hwt), rfl, _, _, rfl, rfl, l, cl, _, _, rfl, p8, by omega, ⟨by omega, by omega⟩, fun pp ps H9 hps okp lp hfr p9 f9 => ?_⟩
      refine ⟨_, rfl, by show 2 ≤ sizeLine; decide, fun t ht => ?_⟩
      have st := Same.new (o := .tup [.ref pp, .ref D]) ht
      have er9 := f9 _ _ er8 r1 r2
      have er10 := st _ _ er9
      have b10 : L2.But rl _ (upd (upd H9 t (.tup [.ref pp, .ref D])) rl (.lst (as ++ [.ref t]))) := (But.refl _ _).upd
      have mv10 : Mv (S3 l cl rl) _ _ := Mv.but b10 er10 fun p z => z.2
      have pS : S3 l cl rl pp := ⟨p8.out hfr, (ne_of_none er8 hfr).symm⟩
      have hpp : LPsP H9 (S3 l cl rl) pp ps := (hps.toP hfr).imp fun p z => ⟨p8.out z, (ne_of_none er8 z).symm⟩
      have row : LRlP (upd H9 t (.tup [.ref pp, .ref D])) (S3 l cl rl) t ⟨ps, cds⟩ := ⟨pp, D, upd_same, hpp.mv (Mv.same st), okp, lp, ⟨ts, ⟨st _ _ (f9 _ _ e8 D1 D2), ⟨D1, D2⟩, Dr⟩, ((cp.imp fun p z => z.1).mv (Mv.fr f9 p8 s3o)).mv (Mv.same st)⟩, by show cds.length ≤ 8; omega⟩
      refine ⟨rl, as, .ref t, rfl, rfl, er10, by rw [lr.1, li]; exact small1000 (by omega), _, _, _, as ++ [.ref t], rs ++ [⟨ps, cds⟩], rfl, upd_same, (((lr8.mv (Mv.fr f9 p8 s3o)).mv (Mv.same st)).snoc row).mv mv10, by simp [li], ((p9.same st).put r1 r2).mono (by omega), ((F8.trans f9).trans (Fr.of st)).put hrl⟩
    rintro σ' H6 ⟨v6, v7, v8, as, rs, rfl, er, lr, li, p6, F6⟩
    clear f4 f5 p4 p5 e4
    have l6 : 1 ≤ rs.length ∧ rs.length ≤ 6 := by omega
    dsimp only
    refine st_letX ?_
    refine ⟨by show 0 ≤ sizeLine; decide, fun ml hml => ?_⟩
    obtain ⟨_, q1, q2⟩ := F6.free p6 hml
    have mr : ml ≠ rl := (ne_of_none er hml).symm
    refine st_seq ?_
    refine st_forL (a := rl) (xs := as) (fun R q => ⟨_, rfl, q⟩) (fun i σ' H' => ∃ v10 v11 bs, σ' = [some (.ref sc), some (.ref l), some (.ref land), some (.ref wt), some (.int big), some (.ref rl), v6, v7, v8, some (.ref ml), v10, v11, none, none, none, none, none, none, none] ∧ H' ml = some (.lst bs) ∧ RObjs a K H' bs (rs.take i) ∧ Same H6 H')
      ⟨_, _, [], rfl, upd_same, ⟨by simp, fun i r e => by simp at e⟩, Same.new hml⟩ (fun i σ' H' _ ⟨_, _, _, _, _, _, s⟩ => SqL.of (s _ _ er)) ?_ ?_
    · rintro i x σ' H7 hx ⟨v10, v11, bs, rfl, e7, ob7, s7⟩
      have hi : i < rs.length := by rw [← lr.1]; exact (List.getElem?_eq_some_iff.mp hx).1
      obtain ⟨r, hr'⟩ : ∃ r, rs[i]? = some r := ⟨_, List.getElem?_eq_getElem hi⟩
      obtain ⟨t, w1, w2⟩ := lr.2 i r hr'
      rw [hx] at w1
      cases w1
      obtain ⟨pl, ql, ht, ⟨pas, ⟨hpl, _⟩, hprs⟩, okp, lp, hcs, l8⟩ := w2.mv (Mv.same s7)
      refine (show (_ : Prop) from ?_)
      refine ⟨_, rfl, tyL e7, _, rfl, t, _, _, .ref pl, rfl, rfl, SqT.of ht, rfl, fun x1 dx1 hx1 hdx1 nx1 => ?_⟩
      have sx := newS (C := a.c_Choice) hx1 hdx1 nx1
      refine ⟨x1, dx1, pl, pas, r.ps, rfl, upd_same, Or.inl (sx.seq (SqL.of hpl)), hprs.same sx, fun z => by omega, fun _ i q e z => (z (okp.2 q (List.mem_of_getElem? e))).elim, fun _ _ H8 hch bx => ⟨rfl, ?_⟩⟩
      have s8 := Same.made hx1 hdx1 bx
      have ht8 := s8 _ _ ht
      have hcs8 := (hcs.mv (Mv.same s8)).to s3o
      refine comp_obj (p := ql) (fun R q => ⟨_, rfl, t, _, _, .ref ql, rfl, rfl, SqT.of ht8, rfl, q⟩) hcs8 (by omega) (fun x => rfl) (fun t' cd H' Q' h1 h2 h => ⟨_, rfl, t', l, cl, cd, rfl, h1, h2, h⟩) fun D bs' H9 hD eD ob s9 => ?_
      refine fun x2 dx2 hx2 hdx2 nx2 => ?_
      have sy := newS (C := a.c_Rule) hx2 hdx2 nx2
      refine ⟨x2, dx2, x1, D, bs', r, rfl, upd_same, (hch.same s9).same sy, Or.inl (sy.seq (SqL.of eD)), ob.same sy, (fun z => by omega), fun _ H10 hrl' bx2 => ⟨rfl, ?_⟩⟩
      have s10 := (s8.trans s9).trans (Same.made hx2 hdx2 bx2)
      have e10 := s10 _ _ e7
      have b11 : L2.But ml H10 (upd H10 ml (.lst (bs ++ [.ref x2]))) := (But.refl _ _).upd
      have nl11 := But.nl b11 e10
      refine ⟨ml, bs, .ref x2, rfl, rfl, e10, by rw [ob7.1, List.length_take]; exact small1000 (by omega), _, _, bs ++ [.ref x2], rfl, upd_same, ?_, fun b o e => by
        rw [upd_ne (ne_of_none e hml)]
        exact s10 _ _ (s7 _ _ e)⟩
      rw [take_snoc hr']
      exact ((ob7.same s10).snoc hrl').nl nl11
    rintro σ' H7 ⟨v10, v11, bs, rfl, e7, ob7, s7⟩
    rw [lr.1, List.take_length] at ob7
    have p7 := p6.same s7
    have F7 := F6.trans (Fr.of s7)
    have er7 := s7 _ _ er
    have lr7 := lr.mv (Mv.same (S := S3 l cl rl) s7)
    clear s7 p6 F6 er lr hml
    dsimp only
    refine st_letX ?_
    refine ⟨_, rfl, fun x dx hx hdx nx => ?_⟩
    have sx := newS (C := a.c_Schedule) hx hdx nx
    refine ⟨x, dx, ml, bs, rs, rfl, upd_same, SqL.of (sx _ _ e7), ob7.same sx, l6.1, l6.2, fun H8 hsc8 bx => ⟨rfl, ?_⟩⟩
    have s8 := Same.made hx hdx bx
    have p8 := p7.same s8
    have F8 := F7.trans (Fr.of s8)
    have er8 := s8 _ _ er7
    have e8 := s8 _ _ e7
    have lr8 := lr7.mv (Mv.same (S := S3 l cl rl) s8)
    have ob8 := ob7.same s8
    clear sx bx hx hdx s8 p7 F7 er7 e7 lr7 ob7
    dsimp only [gName]
    refine st_letX ?_
    refine ⟨_, rfl, RgOk.of_le (by decide) (by decide) (by decide) (by decide), fun g hg => ?_⟩
    have sg := Same.new (o := .lst (rgV 0 24)) hg
    have eg := hasNew sg
    have p9 := p8.same sg
    have F9 := F8.trans (Fr.of sg)
    have l2000 : 100 + 300 * (1 + e).toNat ≤ 2000 := by omega
    replace p9 := p9.mono l2000
    obtain ⟨_, g1, g2⟩ := F8.free p8 hg
    have gr : g ≠ rl := (ne_of_none er8 hg).symm
    have er9 := sg _ _ er8
    have e9 := sg _ _ e8
    have lr9 := lr8.mv (Mv.same (S := S3 l cl rl) sg)
    have ob9 := ob8.same sg
    have hsc9 := hsc8.same sg
    clear sg p8 F8 er8 e8 lr8 ob8 hsc8 hg
    generalize upd H8 g (.lst (rgV 0 24)) = H9 at eg p9 F9 er9 e9 lr9 ob9 hsc9 ⊢
    refine ⟨_, rfl, by decide, by decide, fun D hD => ?_⟩
    obtain ⟨_, D1, D2⟩ := F9.free p9 hD
    refine lc_range (lo := 0) (n := 12) (fun j H' => ∃ zs : List Int, H' D = some (.lst (zs.map V.int)) ∧ zs.length = j ∧ (∀ z ∈ zs, okF z) ∧ PoolAt H' l cl (2000 + j) ∧ Fr l cl H9 H') ⟨[], upd_same, rfl, (fun z hz => by cases hz), p9.put D1 D2, (Fr.refl l cl H9).put hD⟩ ?_ ?_
    · rintro j H' hj ⟨zs, e1, lz, oz, pj, fj⟩
      refine ⟨rfl, ?_⟩
      refine ⟨_, rfl, l, cl, 400, _, rfl, pj, by omega, by decide, by decide, fun d H'' d0 d1 pk fk => ⟨_, fk _ _ e1 D1 D2, by rw [List.length_map, lz]; exact small1000 (by omega), zs ++ [d], by rw [upd_same, List.map_append]; rfl, by simp [lz], fun z hz => ?_, (pk.put D1 D2).mono (by omega), (fj.trans fk).put hD⟩⟩
      rcases List.mem_append.mp hz with hz | hz
      · exact oz z hz
      · rw [List.mem_singleton.mp hz]
        exact okSmall d0 (by omega)
    rintro H10 ⟨zs, e10, lz, oz, p10, f10⟩
    refine ⟨g, D, _, _, rfl, rfl, f10 _ _ eg g1 g2, e10, by rw [rgV_length, List.length_map, lz]; decide, fun u hu => ?_⟩
    have s11 := Same.new (o := .lst (rgV 0 24 ++ zs.map V.int)) hu
    have e11 : rgV 0 24 ++ zs.map V.int = (rgL 0 24 ++ zs).map V.int := by rw [rgV_L, List.map_append]
    rw [e11] at s11 ⊢
    have eu := hasNew s11
    obtain ⟨_, u1, u2⟩ := f10.free p10 hu
    have p11 := p10.same s11
    have f11 := f10.trans (Fr.of s11)
    have o11 : ∀ z ∈ rgL 0 24 ++ zs, okF z := fun z hz => by
      rcases List.mem_append.mp hz with hz | hz
      · obtain ⟨i, hi, rfl⟩ := List.mem_map.mp hz
        have := List.mem_range.mp hi
        have h24 : ((24 : Int) - 0).toNat = 24 := rfl
        exact okSmall (by omega) (by omega)
      · exact oz z hz
    have l36 : (rgL 0 24 ++ zs).length = 36 := by rw [List.length_append, lz]; rfl
    clear e10 lz oz p10 f10 s11 e11
    dsimp only [gName]
    generalize upd H10 u (.lst ((rgL 0 24 ++ zs).map V.int)) = H11 at eu p11 f11 ⊢
    generalize rgL 0 24 ++ zs = zs1 at eu o11 l36
    clear hu hD D1 D2
    refine st_letX ?_
    refine ⟨_, rfl, _, rfl, by decide, by decide, fun D hD => ?_⟩
    obtain ⟨_, D1, D2⟩ := f11.free p11 hD
    refine lc_range (lo := 0) (n := 3) (fun j H' => ∃ zs : List Int, H' D = some (.lst (zs.map V.int)) ∧ zs.length = j ∧ (∀ z ∈ zs, okF z) ∧ PoolAt H' l cl (2012 + 3 * j) ∧ Fr l cl H11 H') ⟨[], upd_same, rfl, (fun z hz => by cases hz), p11.put D1 D2, (Fr.refl l cl H11).put hD⟩ ?_ ?_
    · rintro j H' hj ⟨zs, e1, lz, oz, pj, fj⟩
      refine ⟨rfl, ?_⟩
      refine ⟨_, rfl, l, cl, _, rfl, pj, by omega, fun d H'' od pk fk => ⟨_, fk _ _ e1 D1 D2, by rw [List.length_map, lz]; exact small1000 (by omega), zs ++ [d], by rw [upd_same, List.map_append]; rfl, by simp [lz], fun z hz => ?_, (pk.put D1 D2).mono (by omega), (fj.trans fk).put hD⟩⟩
      rcases List.mem_append.mp hz with hz | hz
      · exact oz z hz
      · rw [List.mem_singleton.mp hz]
        exact od
    rintro H12 ⟨zs2, e12, lz, oz, p12, f12⟩
    refine ⟨u, D, _, _, rfl, rfl, f12 _ _ eu u1 u2, e12, by rw [List.length_map, List.length_map, lz, l36]; decide, fun y1 hy1 => ?_⟩
    have s13 := Same.new (o := .lst (zs1.map V.int ++ zs2.map V.int)) hy1
    refine ⟨_, _, rfl, rfl, ⟨by decide, by decide, by decide⟩, by show 2 ≤ sizeLine; decide, fun y2 hy2 => ?_⟩
    have s14 := Same.new (o := .lst [.int (10 ^ Int.toNat 40), .int 0]) hy2
    refine ⟨y1, y2, _, _, rfl, rfl, s14 _ _ (hasNew s13), hasNew s14, by rw [List.length_append, List.length_map, List.length_map, lz, l36]; decide, fun u3 hu3 => ?_⟩
    have s15 := Same.new (o := .lst (zs1.map V.int ++ zs2.map V.int ++ [.int (10 ^ Int.toNat 40), .int 0])) hu3
    have e15 : zs1.map V.int ++ zs2.map V.int ++ [.int (10 ^ Int.toNat 40), .int 0] = (zs1 ++ zs2 ++ [10 ^ 40, 0]).map V.int := by
      rw [List.map_append, List.map_append]
      rfl
    rw [e15] at s15 ⊢
    have s16 := s13.trans (s14.trans s15)
    have f13 := (f11.trans f12).trans (Fr.of (s13.trans s14))
    obtain ⟨_, v1, v2⟩ := f13.free (p12.same (s13.trans s14)) hu3
    have fZ := (f11.trans f12).trans (Fr.of s16)
    have FZ := F9.trans fZ
    have pZ := p12.same s16
    have al : AL a K l cl land wt rl x ml u3 c rs as bs (zs1 ++ zs2 ++ [10 ^ 40, 0]) _ := ⟨hc3.fr FZ p3, hw3.fr FZ p3, fZ _ _ er9 r1 r2, lr9.mv (Mv.fr fZ p9 s3o), hsc9.nl (fZ.nl p9), fZ _ _ e9 q1 q2, ob9.nl (fZ.nl p9), hasNew s15⟩
    have oz : ∀ z ∈ zs1 ++ zs2 ++ [10 ^ 40, 0], okF z := fun z hz => by
      rcases List.mem_append.mp hz with hz | hz
      · rcases List.mem_append.mp hz with hz | hz
        · exact o11 z hz
        · exact oz z hz
      · simp only [List.mem_cons, List.not_mem_nil, or_false] at hz
        rcases hz with rfl | rfl
        · exact ⟨by decide, Int.le_refl _⟩
        · exact ⟨by decide, by decide⟩
    have l41 : (zs1 ++ zs2 ++ [10 ^ 40, 0]).length = 41 := by rw [List.length_append, List.length_append, l36, lz]; rfl
    clear e12 s13 s14 s15 s16 f13 fZ FZ e15 f11 f12 p11 p12 eu o11 l36 lz F9 p9 er9 e9 lr9 ob9 hsc9 eg hc3 hw3 hwt
    dsimp only [gName]
    generalize upd _ u3 (.lst ((zs1 ++ zs2 ++ [10 ^ 40, 0]).map V.int)) = HF at al pZ ⊢
    generalize zs1 ++ zs2 ++ [10 ^ 40, 0] = zs at al oz l41
    clear hy1 hy2 hu3 hD D1 D2
    have rr : rl ≠ l ∧ rl ≠ cl := ⟨r1, r2⟩
    have mm : ml ≠ l ∧ ml ≠ cl := ⟨q1, q2⟩
    have uu : u3 ≠ l ∧ u3 ≠ cl := ⟨v1, v2⟩
    refine st_seq ?_
    refine st_forL (a := u3) (xs := zs.map V.int) (fun R q => ⟨_, rfl, q⟩) (fun i σ' H' => ∃ v14, σ' = [some (.ref sc), some (.ref l), some (.ref land), some (.ref wt), some (.int big), some (.ref rl), v6, v7, v8, some (.ref ml), v10, v11, some (.ref x), some (.ref u3), v14, none, none, none, none] ∧ Same HF H') ⟨_, rfl, Same.refl _⟩ (fun i σ' H' _ ⟨_, _, s⟩ => SqL.of (s _ _ al.mn)) ?_ ?_
    · rintro i y σ' H' hy ⟨v14, rfl, s⟩
      obtain ⟨z, hz, rfl⟩ := ints_get hy
      have al' := al.same s
      refine (show (_ : Prop) from ?_)
      exact ⟨_, rfl, _, rfl, _, rfl, _, rfl, _, rfl, x, land, wt, rl, l, cl, rs, c, z, rfl, al'.sc, al'.cal, al'.w, al'.lrs rr, ok, oz z (List.mem_of_getElem? hz), fun H'' s' => ⟨_, rfl, iteF ⟨_, rfl, s.trans s'⟩⟩⟩
    rintro σ' HG ⟨v14, rfl, sG⟩
    have alG := al.same sG
    have pG := pZ.same sG
    clear al pZ sG
    dsimp only
    refine st_guardX ?_
    refine fun x1 dx1 hx1 hdx1 nx1 => ⟨x1, dx1, a.e_Choice_init_parts, [], [], rfl, upd_same, Or.inr (T.z_Choice_init_parts _), ⟨rfl, fun i q e => by cases e⟩, (fun z => absurd z (Nat.not_lt_zero _)), (fun _ i q e => by cases e), fun _ _ H1 hch bx1 => ⟨rfl, fun x2 dx2 hx2 hdx2 nx2 => ?_⟩⟩
    refine ⟨x2, dx2, x1, a.e_Rule_init_conditions, [], ⟨[], []⟩, rfl, upd_same, hch.same (newS (C := a.c_Rule) hx2 hdx2 nx2), Or.inr (T.z_Rule_init_conditions _), ⟨rfl, fun i q e => by cases e⟩, (fun z => absurd z (Nat.not_lt_zero _)), fun _ H2 hru bx2 => ⟨rfl, by show 1 ≤ sizeLine; decide, fun Ls hLs x3 dx3 hx3 hdx3 nx3 => ?_⟩⟩
    have sL := Same.new (o := .lst [.ref x2]) hLs
    have sx3 := newS (C := a.c_Schedule) hx3 hdx3 nx3
    refine ⟨x3, dx3, Ls, [.ref x2], [⟨[], []⟩], rfl, upd_same, SqL.of (sx3 _ _ (hasNew sL)), RObjs.one ((hru.same sL).same sx3), by show 1 ≤ 1; decide, by show 1 ≤ 6; decide, fun H3 hs3 bx3 => ⟨rfl, ?_⟩⟩
    have t3 := (((Same.made hx1 hdx1 bx1).trans (Same.made hx2 hdx2 bx2)).trans sL).trans (Same.made hx3 hdx3 bx3)
    clear sL sx3 hx1 hdx1 bx1 hx2 hdx2 bx2 hLs hx3 hdx3 bx3 hch hru
    refine ⟨_, rfl, _, rfl, by show 0 ≤ sizeLine; decide, fun n1 h1 => ⟨by show 0 ≤ sizeLine; decide, fun n2 h2 => ⟨by show 2 ≤ sizeLine; decide, fun tt htt => ⟨by show 1 ≤ sizeLine; decide, fun Lr hLr => ?_⟩⟩⟩⟩
    have z1 := Same.new (o := .lst []) h1
    have z2 := Same.new (o := .lst []) h2
    have z3 := Same.new (o := .tup [.ref n1, .ref n2]) htt
    have z4 := Same.new (o := .lst [.ref tt]) hLr
    have p3' := pG.same t3
    have o1 := p3'.out h1
    have o2 := (p3'.same z1).out h2
    have o4 := (p3'.same (z1.trans (z2.trans z3))).out hLr
    have Z := z1.trans (z2.trans (z3.trans z4))
    have rows : LRs _ l cl Lr [⟨[], []⟩] := ⟨[.ref tt], ⟨hasNew z4, o4⟩, rfl, fun i r e => by
      rcases i with _ | i
      · cases e
        exact ⟨tt, rfl, n1, n2, z4 _ _ (hasNew z3), ⟨[], ⟨(z2.trans (z3.trans z4)) n1 _ (hasNew z1), o1⟩, ⟨rfl, fun i q e => by cases e⟩⟩, ⟨Nat.zero_le _, fun q hq => by cases hq⟩, ⟨[], ⟨(z3.trans z4) n2 _ (hasNew z2), o2⟩, rfl, fun i q e => by cases e⟩, Nat.zero_le _⟩
      · cases e⟩
    have al4 := (alG.same t3).same Z
    obtain ⟨m3, am3, im3⟩ := at_zs l41 (i := -3) (by omega)
    refine ⟨_, rfl, _, rfl, u3, _, _, .int m3, rfl, rfl, SqL.of al4.mn, am3, ?_⟩
    refine ⟨x3, land, wt, Lr, l, cl, [⟨[], []⟩], c, m3, rfl, hs3.same Z, al4.cal, al4.w, rows, ok, oz m3 im3, fun H5 s5 => ⟨_, rfl, iteF ?_⟩⟩
    have alH := al4.same s5
    have pH := (p3'.same Z).same s5
    clear z1 z2 z3 z4 o1 o2 o4 Z rows al4 s5 t3 p3' alG pG hs3 h1 h2 htt hLr
    refine st_letX ?_
    refine ⟨by show 2 ≤ sizeLine; decide, fun y1 h1 => ⟨by show 2 ≤ sizeLine; decide, fun y2 h2 => ⟨by show 2 ≤ sizeLine; decide, fun nv hnv => ?_⟩⟩⟩
    have z1 := Same.new (o := .tup [.int 6, .int 0]) h1
    have z2 := Same.new (o := .tup [.int 5, .int 1]) h2
    have z3 := Same.new (o := .lst [.ref y1, .ref y2]) hnv
    have o3 := (pH.same (z1.trans z2)).out hnv
    have Z := z1.trans (z2.trans z3)
    have hnev : LCs _ l cl nv [.un 0, .fr 1] := ⟨[.ref y1, .ref y2], ⟨hasNew z3, o3⟩, rfl, fun i cd e => by
      rcases i with _ | _ | i
      · cases e
        exact ⟨y1, rfl, (z2.trans z3) y1 _ (hasNew z1), by decide, by decide⟩
      · cases e
        exact ⟨y2, rfl, z3 y2 _ (hasNew z2), by decide, by decide⟩
      · cases e⟩
    have alI := alH.same Z
    have pI := pH.same Z
    clear z1 z2 z3 alH pH Z
    generalize upd _ nv (.lst [.ref y1, .ref y2]) = HI at hnev alI pI ⊢
    clear h1 h2 hnv
    refine st_letX ?_
    refine fun x1 dx1 hx1 hdx1 nx1 => ⟨x1, dx1, a.e_Choice_init_parts, [], [], rfl, upd_same, Or.inr (T.z_Choice_init_parts _), ⟨rfl, fun i q e => by cases e⟩, (fun z => absurd z (Nat.not_lt_zero _)), (fun _ i q e => by cases e), fun _ _ H1 hch bx1 => ⟨rfl, ?_⟩⟩
    have t1 := Same.made hx1 hdx1 bx1
    refine comp_obj (p := nv) (fun R q => ⟨_, rfl, q⟩) (hnev.same t1) (by decide) (fun x => rfl) (fun t' cd H' Q' h1 h2 h => ⟨_, rfl, t', l, cl, cd, rfl, h1, h2, h⟩) fun D bs' H2 hD eD ob2 s2 => ?_
    refine fun x2 dx2 hx2 hdx2 nx2 => ?_
    have sy := newS (C := a.c_Rule) hx2 hdx2 nx2
    refine ⟨x2, dx2, x1, D, bs', ⟨[], [.un 0, .fr 1]⟩, rfl, upd_same, (hch.same s2).same sy, Or.inl (sy.seq (SqL.of eD)), ob2.same sy, (fun z => absurd z (by decide)), fun _ H3 hru bx2 => ⟨rfl, ?_⟩⟩
    have T3 := (t1.trans s2).trans (Same.made hx2 hdx2 bx2)
    have alJ := alI.same T3
    have pJ := pI.same T3
    have hnev := hnev.same T3
    clear hx1 hdx1 bx1 hch t1 sy hx2 hdx2 bx2 T3 alI pI hD eD ob2 s2
    dsimp only [gName]
    refine st_letX ?_
    refine ⟨by show 0 ≤ sizeLine; decide, fun n1 h1 => ⟨_, rfl, by show 2 ≤ sizeLine; decide, fun tt htt => ⟨by show 1 ≤ sizeLine; decide, fun L3 hL3 => ?_⟩⟩⟩
    have z1 := Same.new (o := .lst []) h1
    have z2 := Same.new (o := .tup [.ref n1, .ref nv]) htt
    have z3 := Same.new (o := .lst [.ref tt]) hL3
    have z123 := z1.trans (z2.trans z3)
    refine ⟨_, rfl, _, rfl, rl, _, rfl, SqL.of (z123 _ _ alJ.el), fun q5 hq5 => ?_⟩
    rw [cut5]
    have z4 := Same.new (o := .lst (as.take 5)) hq5
    refine ⟨L3, q5, _, _, rfl, rfl, z4 _ _ (hasNew z3), hasNew z4, by rw [List.length_take]; exact Nat.le_trans (show 1 + min 5 as.length ≤ 6 by omega) (by decide), fun so hso => ?_⟩
    have z5 := Same.new (o := .lst ([.ref tt] ++ as.take 5)) hso
    have Z := z123.trans (z4.trans z5)
    have o1 := pJ.out h1
    have o5 := (pJ.same (z123.trans z4)).out hso
    have alK := alJ.same Z
    have pK := pJ.same Z
    have someR : LRs _ l cl so (⟨[], [.un 0, .fr 1]⟩ :: rs.take 5) := ⟨[.ref tt] ++ as.take 5, ⟨hasNew z5, o5⟩, by simp [alK.lr.1], fun i r e => by
      rcases i with _ | i
      · cases e
        exact ⟨tt, rfl, n1, nv, (z3.trans (z4.trans z5)) tt _ (hasNew z2), ⟨[], ⟨(z2.trans (z3.trans (z4.trans z5))) n1 _ (hasNew z1), o1⟩, ⟨rfl, fun i q e => by cases e⟩⟩, ⟨Nat.zero_le _, fun q hq => by cases hq⟩, hnev.same Z, by show 2 ≤ 8; decide⟩
      · have e : (rs.take 5)[i]? = some r := e
        rw [List.getElem?_take] at e
        split at e
        · rename_i c5
          obtain ⟨t, w1, w2⟩ := alK.lr.2 i r e
          refine ⟨t, ?_, w2.to fun _ z => z.1⟩
          show (as.take 5)[i]? = _
          rw [List.getElem?_take, if_pos c5]
          exact w1
        · cases e⟩
    have hruK := hru.same Z
    clear z1 z2 z3 z4 z5 z123 Z o1 o5 alJ pJ hnev hru
    dsimp only [gName]
    generalize upd _ so (.lst ([.ref tt] ++ as.take 5)) = HK at alK pK someR hruK ⊢
    clear h1 htt hL3 hq5 hso
    refine st_guardX ?_
    refine ⟨_, rfl, by show 1 ≤ sizeLine; decide, fun L4 hL4 => ⟨_, rfl, _, rfl, ml, _, rfl, SqL.of (Same.new hL4 _ _ alK.em), fun q6 hq6 => ?_⟩⟩
    rw [cut5]
    have z1 := Same.new (o := .lst [.ref x2]) hL4
    have z2 := Same.new (o := .lst (bs.take 5)) hq6
    refine ⟨L4, q6, _, _, rfl, rfl, z2 _ _ (hasNew z1), hasNew z2, by rw [List.length_take]; exact Nat.le_trans (show 1 + min 5 bs.length ≤ 6 by omega) (by decide), fun L5 hL5 x3 dx3 hx3 hdx3 nx3 => ?_⟩
    have z3 := Same.new (o := .lst ([.ref x2] ++ bs.take 5)) hL5
    have sx3 := newS (C := a.c_Schedule) hx3 hdx3 nx3
    have Z := z1.trans (z2.trans z3)
    have obK := (alK.ob.same Z).same sx3
    have ru3 := (hruK.same Z).same sx3
    refine ⟨x3, dx3, L5, [.ref x2] ++ bs.take 5, ⟨[], [.un 0, .fr 1]⟩ :: rs.take 5, rfl, upd_same, SqL.of (sx3 _ _ (hasNew z3)), ⟨by simp [obK.1], fun i r e => ?_⟩, by simp, by simp; omega, fun H3 hs3 bx3 => ⟨rfl, ?_⟩⟩
    · rcases i with _ | i
      · cases e
        exact ⟨x2, rfl, ru3⟩
      · have e : (rs.take 5)[i]? = some r := e
        rw [List.getElem?_take] at e
        split at e
        · rename_i c5
          obtain ⟨t, w1, w2⟩ := obK.2 i r e
          refine ⟨t, ?_, w2⟩
          show (bs.take 5)[i]? = _
          rw [List.getElem?_take, if_pos c5]
          exact w1
        · cases e
    have Y := Z.trans (Same.made hx3 hdx3 bx3)
    have alM := alK.same Y
    obtain ⟨m3, am3, im3⟩ := at_zs l41 (i := 30) (by omega)
    refine ⟨_, rfl, _, rfl, _, rfl, _, rfl, u3, _, _, .int m3, rfl, rfl, SqL.of alM.mn, am3, ?_⟩
    refine ⟨x3, land, wt, so, l, cl, _, c, m3, rfl, hs3, alM.cal, alM.w, someR.same Y, ok, oz m3 im3, fun H5 s5 => ⟨_, rfl, iteF ?_⟩⟩
    have alN := alM.same s5
    have pN := (pK.same Y).same s5
    clear z1 z2 z3 sx3 Z obK ru3 Y alM s5 hs3 hL4 hq6 hL5 hx3 hdx3 bx3 alK pK someR hruK
    refine st_seq ?_
    obtain ⟨r0, er0⟩ : ∃ r0, rs[0]? = some r0 := ⟨_, List.getElem?_eq_getElem (by omega)⟩
    obtain ⟨t0, w1, pl0, ql0, w2, hpl0, okp0, lp0, _⟩ := alN.lr.2 0 r0 er0
    obtain ⟨x0, w3, hru0⟩ := alN.ob.2 0 r0 er0
    refine ⟨_, rfl, rl, _, _, .ref t0, rfl, rfl, SqL.of alN.el, at_of (j := 0) rfl w1, t0, _, _, .ref pl0, rfl, rfl, SqT.of w2, rfl, _, rfl, l, cl, _, rfl, pN, by omega, fun wp wps H1 hwp okw lw hfr p1 f1 => ⟨by show 0 ≤ sizeLine; decide, fun n4 h4 => ⟨by show 3 ≤ sizeLine; decide, fun L6 h6 => ?_⟩⟩⟩
    have z1 := Same.new (o := .lst []) h4
    have z2 := Same.new (o := .lst [.ref pl0, .ref wp, .ref n4]) h6
    have Z := z1.trans z2
    have o4 := p1.out h4
    have o6 := (p1.same z1).out h6
    have v6' := hasNew z2
    have three : ∀ (j : Nat) v, [V.ref pl0, V.ref wp, V.ref n4][j]? = some v → ∃ p ps, v = .ref p ∧ LPs _ l cl p ps ∧ okPs ps ∧ ps.length ≤ 3 := fun j v hv => by
      rcases j with _ | _ | _ | j
      · cases hv
        exact ⟨pl0, _, rfl, ((hpl0.to fun _ z => z.1).fr f1 pN).same Z, okp0, lp0⟩
      · cases hv
        exact ⟨wp, _, rfl, hwp.same Z, okw, lw⟩
      · cases hv
        exact ⟨n4, [], rfl, ⟨[], ⟨z2 _ _ (hasNew z1), o4⟩, ⟨rfl, fun i q e => by cases e⟩⟩, ⟨Nat.zero_le _, fun q hq => by cases hq⟩, Nat.zero_le _⟩
      · cases hv
    have alO := (alN.fr f1 pN rr mm uu).same Z
    have pO := p1.same Z
    clear z1 z2 Z o4 p1 f1 alN pN hwp hfr hpl0 hru0
    generalize upd _ L6 (.lst [.ref pl0, .ref wp, .ref n4]) = HO at v6' three alO pO ⊢
    clear h4 h6
    refine st_forL (tl := tC (.ref L6)) (a := L6) (xs := [.ref pl0, .ref wp, .ref n4]) (fun R q => q) (fun j σ' H' => ∃ v18, σ' = [some (.ref sc), some (.ref l), some (.ref land), some (.ref wt), some (.int big), some (.ref rl), v6, v7, v8, some (.ref ml), v10, v11, some (.ref x), some (.ref u3), v14, some (.ref nv), some (.ref x2), some (.ref so), v18] ∧ PoolAt H' l cl (2100 + 40 * j) ∧ Fr l cl HO H') ⟨_, rfl, pO.mono (by omega), Fr.refl _ _ _⟩ (fun j σ' H' _ ⟨_, _, _, f⟩ => SqL.of (f _ _ v6' o6.1 o6.2)) ?_ ?_
    · rintro j v σ' H1 hv ⟨v18, rfl, p1, f1⟩
      have hj : j < 3 := (List.getElem?_eq_some_iff.mp hv).1
      obtain ⟨p, ps, rfl, hps, okp, lp⟩ := three j v hv
      refine (show (_ : Prop) from ?_)
      exact ⟨_, rfl, _, rfl, l, cl, p, _, ps, rfl, p1, by omega, hps.fr f1 pO, okp, lp, fun H2 p2 f2 => ⟨_, rfl, iteF ⟨_, rfl, _, rfl, l, cl, p, _, ps, rfl, p2, by omega, (hps.fr f1 pO).fr f2 p1, okp, lp, fun H3 p3 f3 => ⟨_, rfl, iteF ⟨_, rfl, p3.mono (by omega), (f1.trans f2).trans f3⟩⟩⟩⟩⟩
    rintro σ' H1 ⟨v18, rfl, p1, f1⟩
    have alP := alO.fr f1 pO rr mm uu
    obtain ⟨y0, w4, hru1⟩ := alP.ob.2 0 r0 er0
    dsimp only
    refine st_guardX ?_
    refine ⟨_, rfl, _, rfl, _, rfl, ml, _, _, .ref y0, rfl, rfl, SqL.of alP.em, at_of (j := 0) rfl w4, l, cl, land, y0, _, c, r0, rfl, p1, by show 2100 + 40 * 3 < 2 ^ 36; decide, alP.cal, ok, hru1, fun H2 p2 f2 => ⟨_, rfl, iteF ?_⟩⟩
    have alQ := alP.fr f2 p1 rr mm uu
    obtain ⟨m3, am3, im3⟩ := at_zs l41 (i := 25) (by omega)
    refine ⟨_, rfl, _, rfl, _, rfl, _, rfl, _, rfl, u3, _, _, .int m3, rfl, rfl, SqL.of alQ.mn, am3, ?_⟩
    exact ⟨x, land, wt, rl, l, cl, rs, c, m3, rfl, alQ.sc, alQ.cal, alQ.w, alQ.lrs rr, ok, oz m3 im3, fun H3 _ => k H3⟩
end
end My

namespace My
open PySem L2
def hm_ex_0 (K : PySem.W.Frag) : Bool := decide ((PySem.W.nsIn K mainGlobals "DueError" = some (some (.ref (He.ga K "DueError")))) ∧ (Hm.oexB K (He.ga K "DueError") = true) ∧ (PySem.W.findIn K (.ref (He.ga K "DueError")) "__setattr__" = some (some (.builtin "object.__setattr__"))) ∧ (PySem.W.findIn K (.ref (He.ga K "DueError")) "__getattribute__" = some (some (.builtin "BaseException.__getattribute__"))) ∧ (PySem.W.findIn K (.ref (He.ga K "DueError")) "__getattr__" = some none) ∧ (PySem.W.subIn K (.ref (He.ga K "DueError")) (.type "BaseException") = some true) ∧ (PySem.W.typeIn K (.ref (He.ga K "DueError")) = some (.type "type")) ∧ (PySem.W.keepIn K (.ref (He.ga K "DueError")) = true) ∧ (PySem.W.hasDictIn K (He.ga K "DueError") = true) ∧ (PySem.W.findIn K (.ref (He.ga K "DueError")) "__class__" = some (some (.builtin "object.__class__"))) ∧ (PySem.W.mroIn K (He.ga K "DueError") (.type "object") = some true) ∧ (PySem.W.specialIn K (.builtin "object.__class__") "__get__" = some (some (.builtin "getset_descriptor.__get__"))) ∧ (PySem.W.takesIn K (.builtin "object.__class__") = some true) ∧ (PySem.W.nsIn K mainGlobals "OutOfRange" = some (some (.ref (He.ga K "OutOfRange")))) ∧ (Hm.oexB K (He.ga K "OutOfRange") = true) ∧ (PySem.W.findIn K (.ref (He.ga K "OutOfRange")) "__setattr__" = some (some (.builtin "object.__setattr__"))))
theorem hm_ok_0 {K : PySem.W.Frag} (h : hm_ex_0 K = true) : (PySem.W.nsIn K mainGlobals "DueError" = some (some (.ref (He.ga K "DueError")))) ∧ (Hm.oexB K (He.ga K "DueError") = true) ∧ (PySem.W.findIn K (.ref (He.ga K "DueError")) "__setattr__" = some (some (.builtin "object.__setattr__"))) ∧ (PySem.W.findIn K (.ref (He.ga K "DueError")) "__getattribute__" = some (some (.builtin "BaseException.__getattribute__"))) ∧ (PySem.W.findIn K (.ref (He.ga K "DueError")) "__getattr__" = some none) ∧ (PySem.W.subIn K (.ref (He.ga K "DueError")) (.type "BaseException") = some true) ∧ (PySem.W.typeIn K (.ref (He.ga K "DueError")) = some (.type "type")) ∧ (PySem.W.keepIn K (.ref (He.ga K "DueError")) = true) ∧ (PySem.W.hasDictIn K (He.ga K "DueError") = true) ∧ (PySem.W.findIn K (.ref (He.ga K "DueError")) "__class__" = some (some (.builtin "object.__class__"))) ∧ (PySem.W.mroIn K (He.ga K "DueError") (.type "object") = some true) ∧ (PySem.W.specialIn K (.builtin "object.__class__") "__get__" = some (some (.builtin "getset_descriptor.__get__"))) ∧ (PySem.W.takesIn K (.builtin "object.__class__") = some true) ∧ (PySem.W.nsIn K mainGlobals "OutOfRange" = some (some (.ref (He.ga K "OutOfRange")))) ∧ (Hm.oexB K (He.ga K "OutOfRange") = true) ∧ (PySem.W.findIn K (.ref (He.ga K "OutOfRange")) "__setattr__" = some (some (.builtin "object.__setattr__"))) := of_decide_eq_true h
def hm_ex_1 (K : PySem.W.Frag) : Bool := decide ((PySem.W.findIn K (.ref (He.ga K "OutOfRange")) "__getattribute__" = some (some (.builtin "BaseException.__getattribute__"))) ∧ (PySem.W.findIn K (.ref (He.ga K "OutOfRange")) "__getattr__" = some none) ∧ (PySem.W.subIn K (.ref (He.ga K "OutOfRange")) (.type "BaseException") = some true) ∧ (PySem.W.typeIn K (.ref (He.ga K "OutOfRange")) = some (.type "type")) ∧ (PySem.W.keepIn K (.ref (He.ga K "OutOfRange")) = true) ∧ (PySem.W.hasDictIn K (He.ga K "OutOfRange") = true) ∧ (PySem.W.findIn K (.ref (He.ga K "OutOfRange")) "__class__" = some (some (.builtin "object.__class__"))) ∧ (PySem.W.mroIn K (He.ga K "OutOfRange") (.type "object") = some true) ∧ (PySem.W.findIn K (.ref (He.ga K "OutOfRange")) "what" = some none) ∧ (PySem.W.findIn K (.ref (He.ga K "OutOfRange")) "value" = some none) ∧ (PySem.W.findIn K (.ref (He.ga K "OutOfRange")) "__init__" = some (some (.ref (He.ma K (He.ga K "OutOfRange") "__init__")))) ∧ (PySem.W.typeIn K (.ref (He.ma K (He.ga K "OutOfRange") "__init__")) = some (.type "function")) ∧ (PySem.W.nsIn K mainGlobals "TooMany" = some (some (.ref (He.ga K "TooMany")))) ∧ (Hm.oexB K (He.ga K "TooMany") = true) ∧ (PySem.W.findIn K (.ref (He.ga K "TooMany")) "__setattr__" = some (some (.builtin "object.__setattr__"))) ∧ (PySem.W.findIn K (.ref (He.ga K "TooMany")) "__getattribute__" = some (some (.builtin "BaseException.__getattribute__"))))
theorem hm_ok_1 {K : PySem.W.Frag} (h : hm_ex_1 K = true) : (PySem.W.findIn K (.ref (He.ga K "OutOfRange")) "__getattribute__" = some (some (.builtin "BaseException.__getattribute__"))) ∧ (PySem.W.findIn K (.ref (He.ga K "OutOfRange")) "__getattr__" = some none) ∧ (PySem.W.subIn K (.ref (He.ga K "OutOfRange")) (.type "BaseException") = some true) ∧ (PySem.W.typeIn K (.ref (He.ga K "OutOfRange")) = some (.type "type")) ∧ (PySem.W.keepIn K (.ref (He.ga K "OutOfRange")) = true) ∧ (PySem.W.hasDictIn K (He.ga K "OutOfRange") = true) ∧ (PySem.W.findIn K (.ref (He.ga K "OutOfRange")) "__class__" = some (some (.builtin "object.__class__"))) ∧ (PySem.W.mroIn K (He.ga K "OutOfRange") (.type "object") = some true) ∧ (PySem.W.findIn K (.ref (He.ga K "OutOfRange")) "what" = some none) ∧ (PySem.W.findIn K (.ref (He.ga K "OutOfRange")) "value" = some none) ∧ (PySem.W.findIn K (.ref (He.ga K "OutOfRange")) "__init__" = some (some (.ref (He.ma K (He.ga K "OutOfRange") "__init__")))) ∧ (PySem.W.typeIn K (.ref (He.ma K (He.ga K "OutOfRange") "__init__")) = some (.type "function")) ∧ (PySem.W.nsIn K mainGlobals "TooMany" = some (some (.ref (He.ga K "TooMany")))) ∧ (Hm.oexB K (He.ga K "TooMany") = true) ∧ (PySem.W.findIn K (.ref (He.ga K "TooMany")) "__setattr__" = some (some (.builtin "object.__setattr__"))) ∧ (PySem.W.findIn K (.ref (He.ga K "TooMany")) "__getattribute__" = some (some (.builtin "BaseException.__getattribute__"))) := of_decide_eq_true h
def hm_ex_2 (K : PySem.W.Frag) : Bool := decide ((PySem.W.findIn K (.ref (He.ga K "TooMany")) "__getattr__" = some none) ∧ (PySem.W.subIn K (.ref (He.ga K "TooMany")) (.type "BaseException") = some true) ∧ (PySem.W.typeIn K (.ref (He.ga K "TooMany")) = some (.type "type")) ∧ (PySem.W.keepIn K (.ref (He.ga K "TooMany")) = true) ∧ (PySem.W.hasDictIn K (He.ga K "TooMany") = true) ∧ (PySem.W.findIn K (.ref (He.ga K "TooMany")) "__class__" = some (some (.builtin "object.__class__"))) ∧ (PySem.W.mroIn K (He.ga K "TooMany") (.type "object") = some true) ∧ (PySem.W.findIn K (.ref (He.ga K "TooMany")) "what" = some none) ∧ (PySem.W.findIn K (.ref (He.ga K "TooMany")) "many" = some none) ∧ (PySem.W.findIn K (.ref (He.ga K "TooMany")) "__init__" = some (some (.ref (He.ma K (He.ga K "TooMany") "__init__")))) ∧ (PySem.W.typeIn K (.ref (He.ma K (He.ga K "TooMany") "__init__")) = some (.type "function")) ∧ (PySem.W.nsIn K mainGlobals "BadCalendar" = some (some (.ref (He.ga K "BadCalendar")))) ∧ (Hm.oexB K (He.ga K "BadCalendar") = true) ∧ (PySem.W.findIn K (.ref (He.ga K "BadCalendar")) "__setattr__" = some (some (.builtin "object.__setattr__"))) ∧ (PySem.W.findIn K (.ref (He.ga K "BadCalendar")) "__getattribute__" = some (some (.builtin "BaseException.__getattribute__"))) ∧ (PySem.W.findIn K (.ref (He.ga K "BadCalendar")) "__getattr__" = some none))
theorem hm_ok_2 {K : PySem.W.Frag} (h : hm_ex_2 K = true) : (PySem.W.findIn K (.ref (He.ga K "TooMany")) "__getattr__" = some none) ∧ (PySem.W.subIn K (.ref (He.ga K "TooMany")) (.type "BaseException") = some true) ∧ (PySem.W.typeIn K (.ref (He.ga K "TooMany")) = some (.type "type")) ∧ (PySem.W.keepIn K (.ref (He.ga K "TooMany")) = true) ∧ (PySem.W.hasDictIn K (He.ga K "TooMany") = true) ∧ (PySem.W.findIn K (.ref (He.ga K "TooMany")) "__class__" = some (some (.builtin "object.__class__"))) ∧ (PySem.W.mroIn K (He.ga K "TooMany") (.type "object") = some true) ∧ (PySem.W.findIn K (.ref (He.ga K "TooMany")) "what" = some none) ∧ (PySem.W.findIn K (.ref (He.ga K "TooMany")) "many" = some none) ∧ (PySem.W.findIn K (.ref (He.ga K "TooMany")) "__init__" = some (some (.ref (He.ma K (He.ga K "TooMany") "__init__")))) ∧ (PySem.W.typeIn K (.ref (He.ma K (He.ga K "TooMany") "__init__")) = some (.type "function")) ∧ (PySem.W.nsIn K mainGlobals "BadCalendar" = some (some (.ref (He.ga K "BadCalendar")))) ∧ (Hm.oexB K (He.ga K "BadCalendar") = true) ∧ (PySem.W.findIn K (.ref (He.ga K "BadCalendar")) "__setattr__" = some (some (.builtin "object.__setattr__"))) ∧ (PySem.W.findIn K (.ref (He.ga K "BadCalendar")) "__getattribute__" = some (some (.builtin "BaseException.__getattribute__"))) ∧ (PySem.W.findIn K (.ref (He.ga K "BadCalendar")) "__getattr__" = some none) := of_decide_eq_true h
def hm_ex_3 (K : PySem.W.Frag) : Bool := decide ((PySem.W.subIn K (.ref (He.ga K "BadCalendar")) (.type "BaseException") = some true) ∧ (PySem.W.typeIn K (.ref (He.ga K "BadCalendar")) = some (.type "type")) ∧ (PySem.W.keepIn K (.ref (He.ga K "BadCalendar")) = true) ∧ (PySem.W.hasDictIn K (He.ga K "BadCalendar") = true) ∧ (PySem.W.findIn K (.ref (He.ga K "BadCalendar")) "__class__" = some (some (.builtin "object.__class__"))) ∧ (PySem.W.mroIn K (He.ga K "BadCalendar") (.type "object") = some true) ∧ (PySem.W.findIn K (.ref (He.ga K "BadCalendar")) "part" = some none) ∧ (PySem.W.findIn K (.ref (He.ga K "BadCalendar")) "__init__" = some (some (.ref (He.ma K (He.ga K "BadCalendar") "__init__")))) ∧ (PySem.W.typeIn K (.ref (He.ma K (He.ga K "BadCalendar") "__init__")) = some (.type "function")) ∧ (PySem.W.nsIn K mainGlobals "BadChoice" = some (some (.ref (He.ga K "BadChoice")))) ∧ (Hm.oexB K (He.ga K "BadChoice") = true) ∧ (PySem.W.findIn K (.ref (He.ga K "BadChoice")) "__setattr__" = some (some (.builtin "object.__setattr__"))) ∧ (PySem.W.findIn K (.ref (He.ga K "BadChoice")) "__getattribute__" = some (some (.builtin "BaseException.__getattribute__"))) ∧ (PySem.W.findIn K (.ref (He.ga K "BadChoice")) "__getattr__" = some none) ∧ (PySem.W.subIn K (.ref (He.ga K "BadChoice")) (.type "BaseException") = some true) ∧ (PySem.W.typeIn K (.ref (He.ga K "BadChoice")) = some (.type "type")))
theorem hm_ok_3 {K : PySem.W.Frag} (h : hm_ex_3 K = true) : (PySem.W.subIn K (.ref (He.ga K "BadCalendar")) (.type "BaseException") = some true) ∧ (PySem.W.typeIn K (.ref (He.ga K "BadCalendar")) = some (.type "type")) ∧ (PySem.W.keepIn K (.ref (He.ga K "BadCalendar")) = true) ∧ (PySem.W.hasDictIn K (He.ga K "BadCalendar") = true) ∧ (PySem.W.findIn K (.ref (He.ga K "BadCalendar")) "__class__" = some (some (.builtin "object.__class__"))) ∧ (PySem.W.mroIn K (He.ga K "BadCalendar") (.type "object") = some true) ∧ (PySem.W.findIn K (.ref (He.ga K "BadCalendar")) "part" = some none) ∧ (PySem.W.findIn K (.ref (He.ga K "BadCalendar")) "__init__" = some (some (.ref (He.ma K (He.ga K "BadCalendar") "__init__")))) ∧ (PySem.W.typeIn K (.ref (He.ma K (He.ga K "BadCalendar") "__init__")) = some (.type "function")) ∧ (PySem.W.nsIn K mainGlobals "BadChoice" = some (some (.ref (He.ga K "BadChoice")))) ∧ (Hm.oexB K (He.ga K "BadChoice") = true) ∧ (PySem.W.findIn K (.ref (He.ga K "BadChoice")) "__setattr__" = some (some (.builtin "object.__setattr__"))) ∧ (PySem.W.findIn K (.ref (He.ga K "BadChoice")) "__getattribute__" = some (some (.builtin "BaseException.__getattribute__"))) ∧ (PySem.W.findIn K (.ref (He.ga K "BadChoice")) "__getattr__" = some none) ∧ (PySem.W.subIn K (.ref (He.ga K "BadChoice")) (.type "BaseException") = some true) ∧ (PySem.W.typeIn K (.ref (He.ga K "BadChoice")) = some (.type "type")) := of_decide_eq_true h
def hm_ex_4 (K : PySem.W.Frag) : Bool := decide ((PySem.W.keepIn K (.ref (He.ga K "BadChoice")) = true) ∧ (PySem.W.hasDictIn K (He.ga K "BadChoice") = true) ∧ (PySem.W.findIn K (.ref (He.ga K "BadChoice")) "__class__" = some (some (.builtin "object.__class__"))) ∧ (PySem.W.mroIn K (He.ga K "BadChoice") (.type "object") = some true) ∧ (PySem.W.findIn K (.ref (He.ga K "BadChoice")) "at" = some none) ∧ (PySem.W.findIn K (.ref (He.ga K "BadChoice")) "__init__" = some (some (.ref (He.ma K (He.ga K "BadChoice") "__init__")))) ∧ (PySem.W.typeIn K (.ref (He.ma K (He.ga K "BadChoice") "__init__")) = some (.type "function")) ∧ (PySem.W.nsIn K mainGlobals "BadDays" = some (some (.ref (He.ga K "BadDays")))) ∧ (Hm.oexB K (He.ga K "BadDays") = true) ∧ (PySem.W.findIn K (.ref (He.ga K "BadDays")) "__setattr__" = some (some (.builtin "object.__setattr__"))) ∧ (PySem.W.findIn K (.ref (He.ga K "BadDays")) "__getattribute__" = some (some (.builtin "BaseException.__getattribute__"))) ∧ (PySem.W.findIn K (.ref (He.ga K "BadDays")) "__getattr__" = some none) ∧ (PySem.W.subIn K (.ref (He.ga K "BadDays")) (.type "BaseException") = some true) ∧ (PySem.W.typeIn K (.ref (He.ga K "BadDays")) = some (.type "type")) ∧ (PySem.W.keepIn K (.ref (He.ga K "BadDays")) = true) ∧ (PySem.W.hasDictIn K (He.ga K "BadDays") = true))
theorem hm_ok_4 {K : PySem.W.Frag} (h : hm_ex_4 K = true) : (PySem.W.keepIn K (.ref (He.ga K "BadChoice")) = true) ∧ (PySem.W.hasDictIn K (He.ga K "BadChoice") = true) ∧ (PySem.W.findIn K (.ref (He.ga K "BadChoice")) "__class__" = some (some (.builtin "object.__class__"))) ∧ (PySem.W.mroIn K (He.ga K "BadChoice") (.type "object") = some true) ∧ (PySem.W.findIn K (.ref (He.ga K "BadChoice")) "at" = some none) ∧ (PySem.W.findIn K (.ref (He.ga K "BadChoice")) "__init__" = some (some (.ref (He.ma K (He.ga K "BadChoice") "__init__")))) ∧ (PySem.W.typeIn K (.ref (He.ma K (He.ga K "BadChoice") "__init__")) = some (.type "function")) ∧ (PySem.W.nsIn K mainGlobals "BadDays" = some (some (.ref (He.ga K "BadDays")))) ∧ (Hm.oexB K (He.ga K "BadDays") = true) ∧ (PySem.W.findIn K (.ref (He.ga K "BadDays")) "__setattr__" = some (some (.builtin "object.__setattr__"))) ∧ (PySem.W.findIn K (.ref (He.ga K "BadDays")) "__getattribute__" = some (some (.builtin "BaseException.__getattribute__"))) ∧ (PySem.W.findIn K (.ref (He.ga K "BadDays")) "__getattr__" = some none) ∧ (PySem.W.subIn K (.ref (He.ga K "BadDays")) (.type "BaseException") = some true) ∧ (PySem.W.typeIn K (.ref (He.ga K "BadDays")) = some (.type "type")) ∧ (PySem.W.keepIn K (.ref (He.ga K "BadDays")) = true) ∧ (PySem.W.hasDictIn K (He.ga K "BadDays") = true) := of_decide_eq_true h
def hm_ex_5 (K : PySem.W.Frag) : Bool := decide ((PySem.W.findIn K (.ref (He.ga K "BadDays")) "__class__" = some (some (.builtin "object.__class__"))) ∧ (PySem.W.mroIn K (He.ga K "BadDays") (.type "object") = some true) ∧ (PySem.W.findIn K (.ref (He.ga K "BadDays")) "at" = some none) ∧ (PySem.W.findIn K (.ref (He.ga K "BadDays")) "__init__" = some (some (.ref (He.ma K (He.ga K "BadDays") "__init__")))) ∧ (PySem.W.typeIn K (.ref (He.ma K (He.ga K "BadDays") "__init__")) = some (.type "function")) ∧ (PySem.W.nsIn K mainGlobals "Calendar" = some (some (.ref (He.ga K "Calendar")))) ∧ (PySem.W.plainGet K (He.ga K "Calendar") Str.empty = true) ∧ (PySem.W.hasDictIn K (He.ga K "Calendar") = true) ∧ (PySem.W.plainOver K (He.ga K "Calendar") = true) ∧ (PySem.W.findIn K (.ref (He.ga K "Calendar")) "__setattr__" = some (some (.builtin "object.__setattr__"))) ∧ (PySem.W.keepIn K (.ref (He.ga K "Calendar")) = true) ∧ (PySem.W.findIn K (.ref (He.ga K "Calendar")) "day" = some none) ∧ (PySem.W.findIn K (.ref (He.ga K "Calendar")) "week" = some none) ∧ (PySem.W.findIn K (.ref (He.ga K "Calendar")) "months" = some none) ∧ (PySem.W.findIn K (.ref (He.ga K "Calendar")) "leap_month" = some none) ∧ (PySem.W.findIn K (.ref (He.ga K "Calendar")) "leaps" = some none))
theorem hm_ok_5 {K : PySem.W.Frag} (h : hm_ex_5 K = true) : (PySem.W.findIn K (.ref (He.ga K "BadDays")) "__class__" = some (some (.builtin "object.__class__"))) ∧ (PySem.W.mroIn K (He.ga K "BadDays") (.type "object") = some true) ∧ (PySem.W.findIn K (.ref (He.ga K "BadDays")) "at" = some none) ∧ (PySem.W.findIn K (.ref (He.ga K "BadDays")) "__init__" = some (some (.ref (He.ma K (He.ga K "BadDays") "__init__")))) ∧ (PySem.W.typeIn K (.ref (He.ma K (He.ga K "BadDays") "__init__")) = some (.type "function")) ∧ (PySem.W.nsIn K mainGlobals "Calendar" = some (some (.ref (He.ga K "Calendar")))) ∧ (PySem.W.plainGet K (He.ga K "Calendar") Str.empty = true) ∧ (PySem.W.hasDictIn K (He.ga K "Calendar") = true) ∧ (PySem.W.plainOver K (He.ga K "Calendar") = true) ∧ (PySem.W.findIn K (.ref (He.ga K "Calendar")) "__setattr__" = some (some (.builtin "object.__setattr__"))) ∧ (PySem.W.keepIn K (.ref (He.ga K "Calendar")) = true) ∧ (PySem.W.findIn K (.ref (He.ga K "Calendar")) "day" = some none) ∧ (PySem.W.findIn K (.ref (He.ga K "Calendar")) "week" = some none) ∧ (PySem.W.findIn K (.ref (He.ga K "Calendar")) "months" = some none) ∧ (PySem.W.findIn K (.ref (He.ga K "Calendar")) "leap_month" = some none) ∧ (PySem.W.findIn K (.ref (He.ga K "Calendar")) "leaps" = some none) := of_decide_eq_true h
def hm_ex_6 (K : PySem.W.Frag) : Bool := decide ((PySem.W.findIn K (.ref (He.ga K "Calendar")) "first" = some none) ∧ (PySem.W.findIn K (.ref (He.ga K "Calendar")) "hour" = some none) ∧ (PySem.W.findIn K (.ref (He.ga K "Calendar")) "years_round" = some none) ∧ (PySem.W.findIn K (.ref (He.ga K "Calendar")) "days_round" = some none) ∧ (PySem.W.makesIn K (He.ga K "Calendar") = true) ∧ (PySem.W.findIn K (.ref (He.ga K "Calendar")) "__init__" = some (some (.ref (He.ma K (He.ga K "Calendar") "__init__")))) ∧ (PySem.W.isFn K (.ref (He.ma K (He.ga K "Calendar") "__init__")) = true) ∧ (PySem.W.findIn K (.ref (He.ga K "Calendar")) "month_length" = some (some (.ref (He.ma K (He.ga K "Calendar") "month_length")))) ∧ (PySem.W.isFn K (.ref (He.ma K (He.ga K "Calendar") "month_length")) = true) ∧ (PySem.W.findIn K (.ref (He.ga K "Calendar")) "date_of" = some (some (.ref (He.ma K (He.ga K "Calendar") "date_of")))) ∧ (PySem.W.isFn K (.ref (He.ma K (He.ga K "Calendar") "date_of")) = true) ∧ (PySem.W.findIn K (.ref (He.ga K "Calendar")) "weekday_of" = some (some (.ref (He.ma K (He.ga K "Calendar") "weekday_of")))) ∧ (PySem.W.isFn K (.ref (He.ma K (He.ga K "Calendar") "weekday_of")) = true) ∧ (PySem.W.nsIn K mainGlobals "Choice" = some (some (.ref (He.ga K "Choice")))) ∧ (PySem.W.plainGet K (He.ga K "Choice") Str.empty = true) ∧ (PySem.W.hasDictIn K (He.ga K "Choice") = true))
theorem hm_ok_6 {K : PySem.W.Frag} (h : hm_ex_6 K = true) : (PySem.W.findIn K (.ref (He.ga K "Calendar")) "first" = some none) ∧ (PySem.W.findIn K (.ref (He.ga K "Calendar")) "hour" = some none) ∧ (PySem.W.findIn K (.ref (He.ga K "Calendar")) "years_round" = some none) ∧ (PySem.W.findIn K (.ref (He.ga K "Calendar")) "days_round" = some none) ∧ (PySem.W.makesIn K (He.ga K "Calendar") = true) ∧ (PySem.W.findIn K (.ref (He.ga K "Calendar")) "__init__" = some (some (.ref (He.ma K (He.ga K "Calendar") "__init__")))) ∧ (PySem.W.isFn K (.ref (He.ma K (He.ga K "Calendar") "__init__")) = true) ∧ (PySem.W.findIn K (.ref (He.ga K "Calendar")) "month_length" = some (some (.ref (He.ma K (He.ga K "Calendar") "month_length")))) ∧ (PySem.W.isFn K (.ref (He.ma K (He.ga K "Calendar") "month_length")) = true) ∧ (PySem.W.findIn K (.ref (He.ga K "Calendar")) "date_of" = some (some (.ref (He.ma K (He.ga K "Calendar") "date_of")))) ∧ (PySem.W.isFn K (.ref (He.ma K (He.ga K "Calendar") "date_of")) = true) ∧ (PySem.W.findIn K (.ref (He.ga K "Calendar")) "weekday_of" = some (some (.ref (He.ma K (He.ga K "Calendar") "weekday_of")))) ∧ (PySem.W.isFn K (.ref (He.ma K (He.ga K "Calendar") "weekday_of")) = true) ∧ (PySem.W.nsIn K mainGlobals "Choice" = some (some (.ref (He.ga K "Choice")))) ∧ (PySem.W.plainGet K (He.ga K "Choice") Str.empty = true) ∧ (PySem.W.hasDictIn K (He.ga K "Choice") = true) := of_decide_eq_true h
def hm_ex_7 (K : PySem.W.Frag) : Bool := decide ((PySem.W.plainOver K (He.ga K "Choice") = true) ∧ (PySem.W.findIn K (.ref (He.ga K "Choice")) "__setattr__" = some (some (.builtin "object.__setattr__"))) ∧ (PySem.W.keepIn K (.ref (He.ga K "Choice")) = true) ∧ (PySem.W.findIn K (.ref (He.ga K "Choice")) "parts" = some none) ∧ (PySem.W.findIn K (.ref (He.ga K "Choice")) "text" = some none) ∧ (PySem.W.makesIn K (He.ga K "Choice") = true) ∧ (PySem.W.findIn K (.ref (He.ga K "Choice")) "__init__" = some (some (.ref (He.ma K (He.ga K "Choice") "__init__")))) ∧ (PySem.W.isFn K (.ref (He.ma K (He.ga K "Choice") "__init__")) = true) ∧ (PySem.W.findIn K (.ref (He.ga K "Choice")) "holds" = some (some (.ref (He.ma K (He.ga K "Choice") "holds")))) ∧ (PySem.W.isFn K (.ref (He.ma K (He.ga K "Choice") "holds")) = true) ∧ (PySem.W.findIn K (.ref (He.ga K "Choice")) "numbers" = some (some (.ref (He.ma K (He.ga K "Choice") "numbers")))) ∧ (PySem.W.isFn K (.ref (He.ma K (He.ga K "Choice") "numbers")) = true) ∧ (PySem.W.nsIn K mainGlobals "Condition" = some (some (.ref (He.ga K "Condition")))) ∧ (PySem.W.plainGet K (He.ga K "Condition") Str.empty = true) ∧ (PySem.W.hasDictIn K (He.ga K "Condition") = true) ∧ (PySem.W.plainOver K (He.ga K "Condition") = true))
theorem hm_ok_7 {K : PySem.W.Frag} (h : hm_ex_7 K = true) : (PySem.W.plainOver K (He.ga K "Choice") = true) ∧ (PySem.W.findIn K (.ref (He.ga K "Choice")) "__setattr__" = some (some (.builtin "object.__setattr__"))) ∧ (PySem.W.keepIn K (.ref (He.ga K "Choice")) = true) ∧ (PySem.W.findIn K (.ref (He.ga K "Choice")) "parts" = some none) ∧ (PySem.W.findIn K (.ref (He.ga K "Choice")) "text" = some none) ∧ (PySem.W.makesIn K (He.ga K "Choice") = true) ∧ (PySem.W.findIn K (.ref (He.ga K "Choice")) "__init__" = some (some (.ref (He.ma K (He.ga K "Choice") "__init__")))) ∧ (PySem.W.isFn K (.ref (He.ma K (He.ga K "Choice") "__init__")) = true) ∧ (PySem.W.findIn K (.ref (He.ga K "Choice")) "holds" = some (some (.ref (He.ma K (He.ga K "Choice") "holds")))) ∧ (PySem.W.isFn K (.ref (He.ma K (He.ga K "Choice") "holds")) = true) ∧ (PySem.W.findIn K (.ref (He.ga K "Choice")) "numbers" = some (some (.ref (He.ma K (He.ga K "Choice") "numbers")))) ∧ (PySem.W.isFn K (.ref (He.ma K (He.ga K "Choice") "numbers")) = true) ∧ (PySem.W.nsIn K mainGlobals "Condition" = some (some (.ref (He.ga K "Condition")))) ∧ (PySem.W.plainGet K (He.ga K "Condition") Str.empty = true) ∧ (PySem.W.hasDictIn K (He.ga K "Condition") = true) ∧ (PySem.W.plainOver K (He.ga K "Condition") = true) := of_decide_eq_true h
def hm_ex_8 (K : PySem.W.Frag) : Bool := decide ((PySem.W.findIn K (.ref (He.ga K "Condition")) "__setattr__" = some (some (.builtin "object.__setattr__"))) ∧ (PySem.W.keepIn K (.ref (He.ga K "Condition")) = true) ∧ (PySem.W.nsIn K mainGlobals "MonthDays" = some (some (.ref (He.ga K "MonthDays")))) ∧ (PySem.W.plainGet K (He.ga K "MonthDays") Str.empty = true) ∧ (PySem.W.hasDictIn K (He.ga K "MonthDays") = true) ∧ (PySem.W.plainOver K (He.ga K "MonthDays") = true) ∧ (PySem.W.findIn K (.ref (He.ga K "MonthDays")) "__setattr__" = some (some (.builtin "object.__setattr__"))) ∧ (PySem.W.keepIn K (.ref (He.ga K "MonthDays")) = true) ∧ (PySem.W.findIn K (.ref (He.ga K "MonthDays")) "choice" = some none) ∧ (PySem.W.findIn K (.ref (He.ga K "MonthDays")) "from_end" = some none) ∧ (PySem.W.findIn K (.ref (He.ga K "MonthDays")) "text" = some none) ∧ (PySem.W.makesIn K (He.ga K "MonthDays") = true) ∧ (PySem.W.findIn K (.ref (He.ga K "MonthDays")) "__init__" = some (some (.ref (He.ma K (He.ga K "MonthDays") "__init__")))) ∧ (PySem.W.isFn K (.ref (He.ma K (He.ga K "MonthDays") "__init__")) = true) ∧ (PySem.W.findIn K (.ref (He.ga K "MonthDays")) "holds" = some (some (.ref (He.ma K (He.ga K "MonthDays") "holds")))) ∧ (PySem.W.isFn K (.ref (He.ma K (He.ga K "MonthDays") "holds")) = true))
theorem hm_ok_8 {K : PySem.W.Frag} (h : hm_ex_8 K = true) : (PySem.W.findIn K (.ref (He.ga K "Condition")) "__setattr__" = some (some (.builtin "object.__setattr__"))) ∧ (PySem.W.keepIn K (.ref (He.ga K "Condition")) = true) ∧ (PySem.W.nsIn K mainGlobals "MonthDays" = some (some (.ref (He.ga K "MonthDays")))) ∧ (PySem.W.plainGet K (He.ga K "MonthDays") Str.empty = true) ∧ (PySem.W.hasDictIn K (He.ga K "MonthDays") = true) ∧ (PySem.W.plainOver K (He.ga K "MonthDays") = true) ∧ (PySem.W.findIn K (.ref (He.ga K "MonthDays")) "__setattr__" = some (some (.builtin "object.__setattr__"))) ∧ (PySem.W.keepIn K (.ref (He.ga K "MonthDays")) = true) ∧ (PySem.W.findIn K (.ref (He.ga K "MonthDays")) "choice" = some none) ∧ (PySem.W.findIn K (.ref (He.ga K "MonthDays")) "from_end" = some none) ∧ (PySem.W.findIn K (.ref (He.ga K "MonthDays")) "text" = some none) ∧ (PySem.W.makesIn K (He.ga K "MonthDays") = true) ∧ (PySem.W.findIn K (.ref (He.ga K "MonthDays")) "__init__" = some (some (.ref (He.ma K (He.ga K "MonthDays") "__init__")))) ∧ (PySem.W.isFn K (.ref (He.ma K (He.ga K "MonthDays") "__init__")) = true) ∧ (PySem.W.findIn K (.ref (He.ga K "MonthDays")) "holds" = some (some (.ref (He.ma K (He.ga K "MonthDays") "holds")))) ∧ (PySem.W.isFn K (.ref (He.ma K (He.ga K "MonthDays") "holds")) = true) := of_decide_eq_true h
def hm_ex_9 (K : PySem.W.Frag) : Bool := decide ((PySem.W.nsIn K mainGlobals "Weekdays" = some (some (.ref (He.ga K "Weekdays")))) ∧ (PySem.W.plainGet K (He.ga K "Weekdays") Str.empty = true) ∧ (PySem.W.hasDictIn K (He.ga K "Weekdays") = true) ∧ (PySem.W.plainOver K (He.ga K "Weekdays") = true) ∧ (PySem.W.findIn K (.ref (He.ga K "Weekdays")) "__setattr__" = some (some (.builtin "object.__setattr__"))) ∧ (PySem.W.keepIn K (.ref (He.ga K "Weekdays")) = true) ∧ (PySem.W.findIn K (.ref (He.ga K "Weekdays")) "choice" = some none) ∧ (PySem.W.findIn K (.ref (He.ga K "Weekdays")) "text" = some none) ∧ (PySem.W.makesIn K (He.ga K "Weekdays") = true) ∧ (PySem.W.findIn K (.ref (He.ga K "Weekdays")) "__init__" = some (some (.ref (He.ma K (He.ga K "Weekdays") "__init__")))) ∧ (PySem.W.isFn K (.ref (He.ma K (He.ga K "Weekdays") "__init__")) = true) ∧ (PySem.W.findIn K (.ref (He.ga K "Weekdays")) "holds" = some (some (.ref (He.ma K (He.ga K "Weekdays") "holds")))) ∧ (PySem.W.isFn K (.ref (He.ma K (He.ga K "Weekdays") "holds")) = true) ∧ (PySem.W.nsIn K mainGlobals "Months" = some (some (.ref (He.ga K "Months")))) ∧ (PySem.W.plainGet K (He.ga K "Months") Str.empty = true) ∧ (PySem.W.hasDictIn K (He.ga K "Months") = true))
theorem hm_ok_9 {K : PySem.W.Frag} (h : hm_ex_9 K = true) : (PySem.W.nsIn K mainGlobals "Weekdays" = some (some (.ref (He.ga K "Weekdays")))) ∧ (PySem.W.plainGet K (He.ga K "Weekdays") Str.empty = true) ∧ (PySem.W.hasDictIn K (He.ga K "Weekdays") = true) ∧ (PySem.W.plainOver K (He.ga K "Weekdays") = true) ∧ (PySem.W.findIn K (.ref (He.ga K "Weekdays")) "__setattr__" = some (some (.builtin "object.__setattr__"))) ∧ (PySem.W.keepIn K (.ref (He.ga K "Weekdays")) = true) ∧ (PySem.W.findIn K (.ref (He.ga K "Weekdays")) "choice" = some none) ∧ (PySem.W.findIn K (.ref (He.ga K "Weekdays")) "text" = some none) ∧ (PySem.W.makesIn K (He.ga K "Weekdays") = true) ∧ (PySem.W.findIn K (.ref (He.ga K "Weekdays")) "__init__" = some (some (.ref (He.ma K (He.ga K "Weekdays") "__init__")))) ∧ (PySem.W.isFn K (.ref (He.ma K (He.ga K "Weekdays") "__init__")) = true) ∧ (PySem.W.findIn K (.ref (He.ga K "Weekdays")) "holds" = some (some (.ref (He.ma K (He.ga K "Weekdays") "holds")))) ∧ (PySem.W.isFn K (.ref (He.ma K (He.ga K "Weekdays") "holds")) = true) ∧ (PySem.W.nsIn K mainGlobals "Months" = some (some (.ref (He.ga K "Months")))) ∧ (PySem.W.plainGet K (He.ga K "Months") Str.empty = true) ∧ (PySem.W.hasDictIn K (He.ga K "Months") = true) := of_decide_eq_true h
def hm_ex_10 (K : PySem.W.Frag) : Bool := decide ((PySem.W.plainOver K (He.ga K "Months") = true) ∧ (PySem.W.findIn K (.ref (He.ga K "Months")) "__setattr__" = some (some (.builtin "object.__setattr__"))) ∧ (PySem.W.keepIn K (.ref (He.ga K "Months")) = true) ∧ (PySem.W.findIn K (.ref (He.ga K "Months")) "choice" = some none) ∧ (PySem.W.findIn K (.ref (He.ga K "Months")) "text" = some none) ∧ (PySem.W.makesIn K (He.ga K "Months") = true) ∧ (PySem.W.findIn K (.ref (He.ga K "Months")) "__init__" = some (some (.ref (He.ma K (He.ga K "Months") "__init__")))) ∧ (PySem.W.isFn K (.ref (He.ma K (He.ga K "Months") "__init__")) = true) ∧ (PySem.W.findIn K (.ref (He.ga K "Months")) "holds" = some (some (.ref (He.ma K (He.ga K "Months") "holds")))) ∧ (PySem.W.isFn K (.ref (He.ma K (He.ga K "Months") "holds")) = true) ∧ (PySem.W.nsIn K mainGlobals "NthWeekday" = some (some (.ref (He.ga K "NthWeekday")))) ∧ (PySem.W.plainGet K (He.ga K "NthWeekday") Str.empty = true) ∧ (PySem.W.hasDictIn K (He.ga K "NthWeekday") = true) ∧ (PySem.W.plainOver K (He.ga K "NthWeekday") = true) ∧ (PySem.W.findIn K (.ref (He.ga K "NthWeekday")) "__setattr__" = some (some (.builtin "object.__setattr__"))) ∧ (PySem.W.keepIn K (.ref (He.ga K "NthWeekday")) = true))
theorem hm_ok_10 {K : PySem.W.Frag} (h : hm_ex_10 K = true) : (PySem.W.plainOver K (He.ga K "Months") = true) ∧ (PySem.W.findIn K (.ref (He.ga K "Months")) "__setattr__" = some (some (.builtin "object.__setattr__"))) ∧ (PySem.W.keepIn K (.ref (He.ga K "Months")) = true) ∧ (PySem.W.findIn K (.ref (He.ga K "Months")) "choice" = some none) ∧ (PySem.W.findIn K (.ref (He.ga K "Months")) "text" = some none) ∧ (PySem.W.makesIn K (He.ga K "Months") = true) ∧ (PySem.W.findIn K (.ref (He.ga K "Months")) "__init__" = some (some (.ref (He.ma K (He.ga K "Months") "__init__")))) ∧ (PySem.W.isFn K (.ref (He.ma K (He.ga K "Months") "__init__")) = true) ∧ (PySem.W.findIn K (.ref (He.ga K "Months")) "holds" = some (some (.ref (He.ma K (He.ga K "Months") "holds")))) ∧ (PySem.W.isFn K (.ref (He.ma K (He.ga K "Months") "holds")) = true) ∧ (PySem.W.nsIn K mainGlobals "NthWeekday" = some (some (.ref (He.ga K "NthWeekday")))) ∧ (PySem.W.plainGet K (He.ga K "NthWeekday") Str.empty = true) ∧ (PySem.W.hasDictIn K (He.ga K "NthWeekday") = true) ∧ (PySem.W.plainOver K (He.ga K "NthWeekday") = true) ∧ (PySem.W.findIn K (.ref (He.ga K "NthWeekday")) "__setattr__" = some (some (.builtin "object.__setattr__"))) ∧ (PySem.W.keepIn K (.ref (He.ga K "NthWeekday")) = true) := of_decide_eq_true h
def hm_ex_11 (K : PySem.W.Frag) : Bool := decide ((PySem.W.findIn K (.ref (He.ga K "NthWeekday")) "nth" = some none) ∧ (PySem.W.findIn K (.ref (He.ga K "NthWeekday")) "weekday" = some none) ∧ (PySem.W.findIn K (.ref (He.ga K "NthWeekday")) "from_end" = some none) ∧ (PySem.W.findIn K (.ref (He.ga K "NthWeekday")) "text" = some none) ∧ (PySem.W.makesIn K (He.ga K "NthWeekday") = true) ∧ (PySem.W.findIn K (.ref (He.ga K "NthWeekday")) "__init__" = some (some (.ref (He.ma K (He.ga K "NthWeekday") "__init__")))) ∧ (PySem.W.isFn K (.ref (He.ma K (He.ga K "NthWeekday") "__init__")) = true) ∧ (PySem.W.findIn K (.ref (He.ga K "NthWeekday")) "holds" = some (some (.ref (He.ma K (He.ga K "NthWeekday") "holds")))) ∧ (PySem.W.isFn K (.ref (He.ma K (He.ga K "NthWeekday") "holds")) = true) ∧ (PySem.W.nsIn K mainGlobals "EveryDays" = some (some (.ref (He.ga K "EveryDays")))) ∧ (PySem.W.plainGet K (He.ga K "EveryDays") Str.empty = true) ∧ (PySem.W.hasDictIn K (He.ga K "EveryDays") = true) ∧ (PySem.W.plainOver K (He.ga K "EveryDays") = true) ∧ (PySem.W.findIn K (.ref (He.ga K "EveryDays")) "__setattr__" = some (some (.builtin "object.__setattr__"))) ∧ (PySem.W.keepIn K (.ref (He.ga K "EveryDays")) = true) ∧ (PySem.W.findIn K (.ref (He.ga K "EveryDays")) "step" = some none))
theorem hm_ok_11 {K : PySem.W.Frag} (h : hm_ex_11 K = true) : (PySem.W.findIn K (.ref (He.ga K "NthWeekday")) "nth" = some none) ∧ (PySem.W.findIn K (.ref (He.ga K "NthWeekday")) "weekday" = some none) ∧ (PySem.W.findIn K (.ref (He.ga K "NthWeekday")) "from_end" = some none) ∧ (PySem.W.findIn K (.ref (He.ga K "NthWeekday")) "text" = some none) ∧ (PySem.W.makesIn K (He.ga K "NthWeekday") = true) ∧ (PySem.W.findIn K (.ref (He.ga K "NthWeekday")) "__init__" = some (some (.ref (He.ma K (He.ga K "NthWeekday") "__init__")))) ∧ (PySem.W.isFn K (.ref (He.ma K (He.ga K "NthWeekday") "__init__")) = true) ∧ (PySem.W.findIn K (.ref (He.ga K "NthWeekday")) "holds" = some (some (.ref (He.ma K (He.ga K "NthWeekday") "holds")))) ∧ (PySem.W.isFn K (.ref (He.ma K (He.ga K "NthWeekday") "holds")) = true) ∧ (PySem.W.nsIn K mainGlobals "EveryDays" = some (some (.ref (He.ga K "EveryDays")))) ∧ (PySem.W.plainGet K (He.ga K "EveryDays") Str.empty = true) ∧ (PySem.W.hasDictIn K (He.ga K "EveryDays") = true) ∧ (PySem.W.plainOver K (He.ga K "EveryDays") = true) ∧ (PySem.W.findIn K (.ref (He.ga K "EveryDays")) "__setattr__" = some (some (.builtin "object.__setattr__"))) ∧ (PySem.W.keepIn K (.ref (He.ga K "EveryDays")) = true) ∧ (PySem.W.findIn K (.ref (He.ga K "EveryDays")) "step" = some none) := of_decide_eq_true h
def hm_ex_12 (K : PySem.W.Frag) : Bool := decide ((PySem.W.findIn K (.ref (He.ga K "EveryDays")) "first" = some none) ∧ (PySem.W.findIn K (.ref (He.ga K "EveryDays")) "text" = some none) ∧ (PySem.W.makesIn K (He.ga K "EveryDays") = true) ∧ (PySem.W.findIn K (.ref (He.ga K "EveryDays")) "__init__" = some (some (.ref (He.ma K (He.ga K "EveryDays") "__init__")))) ∧ (PySem.W.isFn K (.ref (He.ma K (He.ga K "EveryDays") "__init__")) = true) ∧ (PySem.W.findIn K (.ref (He.ga K "EveryDays")) "holds" = some (some (.ref (He.ma K (He.ga K "EveryDays") "holds")))) ∧ (PySem.W.isFn K (.ref (He.ma K (He.ga K "EveryDays") "holds")) = true) ∧ (PySem.W.nsIn K mainGlobals "FromDay" = some (some (.ref (He.ga K "FromDay")))) ∧ (PySem.W.plainGet K (He.ga K "FromDay") Str.empty = true) ∧ (PySem.W.hasDictIn K (He.ga K "FromDay") = true) ∧ (PySem.W.plainOver K (He.ga K "FromDay") = true) ∧ (PySem.W.findIn K (.ref (He.ga K "FromDay")) "__setattr__" = some (some (.builtin "object.__setattr__"))) ∧ (PySem.W.keepIn K (.ref (He.ga K "FromDay")) = true) ∧ (PySem.W.findIn K (.ref (He.ga K "FromDay")) "day" = some none) ∧ (PySem.W.findIn K (.ref (He.ga K "FromDay")) "text" = some none) ∧ (PySem.W.makesIn K (He.ga K "FromDay") = true))
theorem hm_ok_12 {K : PySem.W.Frag} (h : hm_ex_12 K = true) : (PySem.W.findIn K (.ref (He.ga K "EveryDays")) "first" = some none) ∧ (PySem.W.findIn K (.ref (He.ga K "EveryDays")) "text" = some none) ∧ (PySem.W.makesIn K (He.ga K "EveryDays") = true) ∧ (PySem.W.findIn K (.ref (He.ga K "EveryDays")) "__init__" = some (some (.ref (He.ma K (He.ga K "EveryDays") "__init__")))) ∧ (PySem.W.isFn K (.ref (He.ma K (He.ga K "EveryDays") "__init__")) = true) ∧ (PySem.W.findIn K (.ref (He.ga K "EveryDays")) "holds" = some (some (.ref (He.ma K (He.ga K "EveryDays") "holds")))) ∧ (PySem.W.isFn K (.ref (He.ma K (He.ga K "EveryDays") "holds")) = true) ∧ (PySem.W.nsIn K mainGlobals "FromDay" = some (some (.ref (He.ga K "FromDay")))) ∧ (PySem.W.plainGet K (He.ga K "FromDay") Str.empty = true) ∧ (PySem.W.hasDictIn K (He.ga K "FromDay") = true) ∧ (PySem.W.plainOver K (He.ga K "FromDay") = true) ∧ (PySem.W.findIn K (.ref (He.ga K "FromDay")) "__setattr__" = some (some (.builtin "object.__setattr__"))) ∧ (PySem.W.keepIn K (.ref (He.ga K "FromDay")) = true) ∧ (PySem.W.findIn K (.ref (He.ga K "FromDay")) "day" = some none) ∧ (PySem.W.findIn K (.ref (He.ga K "FromDay")) "text" = some none) ∧ (PySem.W.makesIn K (He.ga K "FromDay") = true) := of_decide_eq_true h
def hm_ex_13 (K : PySem.W.Frag) : Bool := decide ((PySem.W.findIn K (.ref (He.ga K "FromDay")) "__init__" = some (some (.ref (He.ma K (He.ga K "FromDay") "__init__")))) ∧ (PySem.W.isFn K (.ref (He.ma K (He.ga K "FromDay") "__init__")) = true) ∧ (PySem.W.findIn K (.ref (He.ga K "FromDay")) "holds" = some (some (.ref (He.ma K (He.ga K "FromDay") "holds")))) ∧ (PySem.W.isFn K (.ref (He.ma K (He.ga K "FromDay") "holds")) = true) ∧ (PySem.W.nsIn K mainGlobals "UntilDay" = some (some (.ref (He.ga K "UntilDay")))) ∧ (PySem.W.plainGet K (He.ga K "UntilDay") Str.empty = true) ∧ (PySem.W.hasDictIn K (He.ga K "UntilDay") = true) ∧ (PySem.W.plainOver K (He.ga K "UntilDay") = true) ∧ (PySem.W.findIn K (.ref (He.ga K "UntilDay")) "__setattr__" = some (some (.builtin "object.__setattr__"))) ∧ (PySem.W.keepIn K (.ref (He.ga K "UntilDay")) = true) ∧ (PySem.W.findIn K (.ref (He.ga K "UntilDay")) "day" = some none) ∧ (PySem.W.findIn K (.ref (He.ga K "UntilDay")) "text" = some none) ∧ (PySem.W.makesIn K (He.ga K "UntilDay") = true) ∧ (PySem.W.findIn K (.ref (He.ga K "UntilDay")) "__init__" = some (some (.ref (He.ma K (He.ga K "UntilDay") "__init__")))) ∧ (PySem.W.isFn K (.ref (He.ma K (He.ga K "UntilDay") "__init__")) = true) ∧ (PySem.W.findIn K (.ref (He.ga K "UntilDay")) "holds" = some (some (.ref (He.ma K (He.ga K "UntilDay") "holds")))))
theorem hm_ok_13 {K : PySem.W.Frag} (h : hm_ex_13 K = true) : (PySem.W.findIn K (.ref (He.ga K "FromDay")) "__init__" = some (some (.ref (He.ma K (He.ga K "FromDay") "__init__")))) ∧ (PySem.W.isFn K (.ref (He.ma K (He.ga K "FromDay") "__init__")) = true) ∧ (PySem.W.findIn K (.ref (He.ga K "FromDay")) "holds" = some (some (.ref (He.ma K (He.ga K "FromDay") "holds")))) ∧ (PySem.W.isFn K (.ref (He.ma K (He.ga K "FromDay") "holds")) = true) ∧ (PySem.W.nsIn K mainGlobals "UntilDay" = some (some (.ref (He.ga K "UntilDay")))) ∧ (PySem.W.plainGet K (He.ga K "UntilDay") Str.empty = true) ∧ (PySem.W.hasDictIn K (He.ga K "UntilDay") = true) ∧ (PySem.W.plainOver K (He.ga K "UntilDay") = true) ∧ (PySem.W.findIn K (.ref (He.ga K "UntilDay")) "__setattr__" = some (some (.builtin "object.__setattr__"))) ∧ (PySem.W.keepIn K (.ref (He.ga K "UntilDay")) = true) ∧ (PySem.W.findIn K (.ref (He.ga K "UntilDay")) "day" = some none) ∧ (PySem.W.findIn K (.ref (He.ga K "UntilDay")) "text" = some none) ∧ (PySem.W.makesIn K (He.ga K "UntilDay") = true) ∧ (PySem.W.findIn K (.ref (He.ga K "UntilDay")) "__init__" = some (some (.ref (He.ma K (He.ga K "UntilDay") "__init__")))) ∧ (PySem.W.isFn K (.ref (He.ma K (He.ga K "UntilDay") "__init__")) = true) ∧ (PySem.W.findIn K (.ref (He.ga K "UntilDay")) "holds" = some (some (.ref (He.ma K (He.ga K "UntilDay") "holds")))) := of_decide_eq_true h
def hm_ex_14 (K : PySem.W.Frag) : Bool := decide ((PySem.W.isFn K (.ref (He.ma K (He.ga K "UntilDay") "holds")) = true) ∧ (PySem.W.nsIn K mainGlobals "NotOn" = some (some (.ref (He.ga K "NotOn")))) ∧ (PySem.W.plainGet K (He.ga K "NotOn") Str.empty = true) ∧ (PySem.W.hasDictIn K (He.ga K "NotOn") = true) ∧ (PySem.W.plainOver K (He.ga K "NotOn") = true) ∧ (PySem.W.findIn K (.ref (He.ga K "NotOn")) "__setattr__" = some (some (.builtin "object.__setattr__"))) ∧ (PySem.W.keepIn K (.ref (He.ga K "NotOn")) = true) ∧ (PySem.W.findIn K (.ref (He.ga K "NotOn")) "days" = some none) ∧ (PySem.W.findIn K (.ref (He.ga K "NotOn")) "text" = some none) ∧ (PySem.W.makesIn K (He.ga K "NotOn") = true) ∧ (PySem.W.findIn K (.ref (He.ga K "NotOn")) "__init__" = some (some (.ref (He.ma K (He.ga K "NotOn") "__init__")))) ∧ (PySem.W.isFn K (.ref (He.ma K (He.ga K "NotOn") "__init__")) = true) ∧ (PySem.W.findIn K (.ref (He.ga K "NotOn")) "holds" = some (some (.ref (He.ma K (He.ga K "NotOn") "holds")))) ∧ (PySem.W.isFn K (.ref (He.ma K (He.ga K "NotOn") "holds")) = true) ∧ (PySem.W.nsIn K mainGlobals "Rule" = some (some (.ref (He.ga K "Rule")))) ∧ (PySem.W.plainGet K (He.ga K "Rule") Str.empty = true))
theorem hm_ok_14 {K : PySem.W.Frag} (h : hm_ex_14 K = true) : (PySem.W.isFn K (.ref (He.ma K (He.ga K "UntilDay") "holds")) = true) ∧ (PySem.W.nsIn K mainGlobals "NotOn" = some (some (.ref (He.ga K "NotOn")))) ∧ (PySem.W.plainGet K (He.ga K "NotOn") Str.empty = true) ∧ (PySem.W.hasDictIn K (He.ga K "NotOn") = true) ∧ (PySem.W.plainOver K (He.ga K "NotOn") = true) ∧ (PySem.W.findIn K (.ref (He.ga K "NotOn")) "__setattr__" = some (some (.builtin "object.__setattr__"))) ∧ (PySem.W.keepIn K (.ref (He.ga K "NotOn")) = true) ∧ (PySem.W.findIn K (.ref (He.ga K "NotOn")) "days" = some none) ∧ (PySem.W.findIn K (.ref (He.ga K "NotOn")) "text" = some none) ∧ (PySem.W.makesIn K (He.ga K "NotOn") = true) ∧ (PySem.W.findIn K (.ref (He.ga K "NotOn")) "__init__" = some (some (.ref (He.ma K (He.ga K "NotOn") "__init__")))) ∧ (PySem.W.isFn K (.ref (He.ma K (He.ga K "NotOn") "__init__")) = true) ∧ (PySem.W.findIn K (.ref (He.ga K "NotOn")) "holds" = some (some (.ref (He.ma K (He.ga K "NotOn") "holds")))) ∧ (PySem.W.isFn K (.ref (He.ma K (He.ga K "NotOn") "holds")) = true) ∧ (PySem.W.nsIn K mainGlobals "Rule" = some (some (.ref (He.ga K "Rule")))) ∧ (PySem.W.plainGet K (He.ga K "Rule") Str.empty = true) := of_decide_eq_true h
def hm_ex_15 (K : PySem.W.Frag) : Bool := decide ((PySem.W.hasDictIn K (He.ga K "Rule") = true) ∧ (PySem.W.plainOver K (He.ga K "Rule") = true) ∧ (PySem.W.findIn K (.ref (He.ga K "Rule")) "__setattr__" = some (some (.builtin "object.__setattr__"))) ∧ (PySem.W.keepIn K (.ref (He.ga K "Rule")) = true) ∧ (PySem.W.findIn K (.ref (He.ga K "Rule")) "minutes" = some none) ∧ (PySem.W.findIn K (.ref (He.ga K "Rule")) "conditions" = some none) ∧ (PySem.W.findIn K (.ref (He.ga K "Rule")) "text" = some none) ∧ (PySem.W.makesIn K (He.ga K "Rule") = true) ∧ (PySem.W.findIn K (.ref (He.ga K "Rule")) "__init__" = some (some (.ref (He.ma K (He.ga K "Rule") "__init__")))) ∧ (PySem.W.isFn K (.ref (He.ma K (He.ga K "Rule") "__init__")) = true) ∧ (PySem.W.findIn K (.ref (He.ga K "Rule")) "holds" = some (some (.ref (He.ma K (He.ga K "Rule") "holds")))) ∧ (PySem.W.isFn K (.ref (He.ma K (He.ga K "Rule") "holds")) = true) ∧ (PySem.W.nsIn K mainGlobals "Schedule" = some (some (.ref (He.ga K "Schedule")))) ∧ (PySem.W.plainGet K (He.ga K "Schedule") Str.empty = true) ∧ (PySem.W.hasDictIn K (He.ga K "Schedule") = true) ∧ (PySem.W.plainOver K (He.ga K "Schedule") = true))
theorem hm_ok_15 {K : PySem.W.Frag} (h : hm_ex_15 K = true) : (PySem.W.hasDictIn K (He.ga K "Rule") = true) ∧ (PySem.W.plainOver K (He.ga K "Rule") = true) ∧ (PySem.W.findIn K (.ref (He.ga K "Rule")) "__setattr__" = some (some (.builtin "object.__setattr__"))) ∧ (PySem.W.keepIn K (.ref (He.ga K "Rule")) = true) ∧ (PySem.W.findIn K (.ref (He.ga K "Rule")) "minutes" = some none) ∧ (PySem.W.findIn K (.ref (He.ga K "Rule")) "conditions" = some none) ∧ (PySem.W.findIn K (.ref (He.ga K "Rule")) "text" = some none) ∧ (PySem.W.makesIn K (He.ga K "Rule") = true) ∧ (PySem.W.findIn K (.ref (He.ga K "Rule")) "__init__" = some (some (.ref (He.ma K (He.ga K "Rule") "__init__")))) ∧ (PySem.W.isFn K (.ref (He.ma K (He.ga K "Rule") "__init__")) = true) ∧ (PySem.W.findIn K (.ref (He.ga K "Rule")) "holds" = some (some (.ref (He.ma K (He.ga K "Rule") "holds")))) ∧ (PySem.W.isFn K (.ref (He.ma K (He.ga K "Rule") "holds")) = true) ∧ (PySem.W.nsIn K mainGlobals "Schedule" = some (some (.ref (He.ga K "Schedule")))) ∧ (PySem.W.plainGet K (He.ga K "Schedule") Str.empty = true) ∧ (PySem.W.hasDictIn K (He.ga K "Schedule") = true) ∧ (PySem.W.plainOver K (He.ga K "Schedule") = true) := of_decide_eq_true h
def hm_ex_16 (K : PySem.W.Frag) : Bool := decide ((PySem.W.findIn K (.ref (He.ga K "Schedule")) "__setattr__" = some (some (.builtin "object.__setattr__"))) ∧ (PySem.W.keepIn K (.ref (He.ga K "Schedule")) = true) ∧ (PySem.W.findIn K (.ref (He.ga K "Schedule")) "rules" = some none) ∧ (PySem.W.findIn K (.ref (He.ga K "Schedule")) "text" = some none) ∧ (PySem.W.makesIn K (He.ga K "Schedule") = true) ∧ (PySem.W.findIn K (.ref (He.ga K "Schedule")) "__init__" = some (some (.ref (He.ma K (He.ga K "Schedule") "__init__")))) ∧ (PySem.W.isFn K (.ref (He.ma K (He.ga K "Schedule") "__init__")) = true) ∧ (PySem.W.findIn K (.ref (He.ga K "Schedule")) "holds" = some (some (.ref (He.ma K (He.ga K "Schedule") "holds")))) ∧ (PySem.W.isFn K (.ref (He.ma K (He.ga K "Schedule") "holds")) = true) ∧ (PySem.W.subIn K (.ref (He.ga K "DueError")) (.ref (He.ga K "DueError")) = some true) ∧ (PySem.W.subIn K (.ref (He.ga K "DueError")) (.ref (He.ga K "OutOfRange")) = some false) ∧ (PySem.W.subIn K (.ref (He.ga K "OutOfRange")) (.ref (He.ga K "OutOfRange")) = some true) ∧ (PySem.W.subIn K (.ref (He.ga K "DueError")) (.ref (He.ga K "TooMany")) = some false) ∧ (PySem.W.subIn K (.ref (He.ga K "TooMany")) (.ref (He.ga K "TooMany")) = some true) ∧ (PySem.W.subIn K (.ref (He.ga K "DueError")) (.ref (He.ga K "BadCalendar")) = some false) ∧ (PySem.W.subIn K (.ref (He.ga K "BadCalendar")) (.ref (He.ga K "BadCalendar")) = some true))
theorem hm_ok_16 {K : PySem.W.Frag} (h : hm_ex_16 K = true) : (PySem.W.findIn K (.ref (He.ga K "Schedule")) "__setattr__" = some (some (.builtin "object.__setattr__"))) ∧ (PySem.W.keepIn K (.ref (He.ga K "Schedule")) = true) ∧ (PySem.W.findIn K (.ref (He.ga K "Schedule")) "rules" = some none) ∧ (PySem.W.findIn K (.ref (He.ga K "Schedule")) "text" = some none) ∧ (PySem.W.makesIn K (He.ga K "Schedule") = true) ∧ (PySem.W.findIn K (.ref (He.ga K "Schedule")) "__init__" = some (some (.ref (He.ma K (He.ga K "Schedule") "__init__")))) ∧ (PySem.W.isFn K (.ref (He.ma K (He.ga K "Schedule") "__init__")) = true) ∧ (PySem.W.findIn K (.ref (He.ga K "Schedule")) "holds" = some (some (.ref (He.ma K (He.ga K "Schedule") "holds")))) ∧ (PySem.W.isFn K (.ref (He.ma K (He.ga K "Schedule") "holds")) = true) ∧ (PySem.W.subIn K (.ref (He.ga K "DueError")) (.ref (He.ga K "DueError")) = some true) ∧ (PySem.W.subIn K (.ref (He.ga K "DueError")) (.ref (He.ga K "OutOfRange")) = some false) ∧ (PySem.W.subIn K (.ref (He.ga K "OutOfRange")) (.ref (He.ga K "OutOfRange")) = some true) ∧ (PySem.W.subIn K (.ref (He.ga K "DueError")) (.ref (He.ga K "TooMany")) = some false) ∧ (PySem.W.subIn K (.ref (He.ga K "TooMany")) (.ref (He.ga K "TooMany")) = some true) ∧ (PySem.W.subIn K (.ref (He.ga K "DueError")) (.ref (He.ga K "BadCalendar")) = some false) ∧ (PySem.W.subIn K (.ref (He.ga K "BadCalendar")) (.ref (He.ga K "BadCalendar")) = some true) := of_decide_eq_true h
def hm_ex_17 (K : PySem.W.Frag) : Bool := decide ((PySem.W.subIn K (.ref (He.ga K "DueError")) (.ref (He.ga K "BadChoice")) = some false) ∧ (PySem.W.subIn K (.ref (He.ga K "BadChoice")) (.ref (He.ga K "BadChoice")) = some true) ∧ (PySem.W.subIn K (.ref (He.ga K "DueError")) (.ref (He.ga K "BadDays")) = some false) ∧ (PySem.W.subIn K (.ref (He.ga K "BadDays")) (.ref (He.ga K "BadDays")) = some true) ∧ (PySem.W.subIn K (.ref (He.ga K "DueError")) (.type "ValueError") = some true) ∧ (PySem.W.subIn K (.ref (He.ga K "OutOfRange")) (.ref (He.ga K "DueError")) = some true) ∧ (PySem.W.subIn K (.ref (He.ga K "OutOfRange")) (.ref (He.ga K "TooMany")) = some false) ∧ (PySem.W.subIn K (.ref (He.ga K "OutOfRange")) (.ref (He.ga K "BadCalendar")) = some false) ∧ (PySem.W.subIn K (.ref (He.ga K "OutOfRange")) (.ref (He.ga K "BadChoice")) = some false) ∧ (PySem.W.subIn K (.ref (He.ga K "OutOfRange")) (.ref (He.ga K "BadDays")) = some false) ∧ (PySem.W.subIn K (.ref (He.ga K "OutOfRange")) (.type "ValueError") = some true) ∧ (PySem.W.subIn K (.ref (He.ga K "TooMany")) (.ref (He.ga K "DueError")) = some true) ∧ (PySem.W.subIn K (.ref (He.ga K "TooMany")) (.ref (He.ga K "OutOfRange")) = some false) ∧ (PySem.W.subIn K (.ref (He.ga K "TooMany")) (.ref (He.ga K "BadCalendar")) = some false) ∧ (PySem.W.subIn K (.ref (He.ga K "TooMany")) (.ref (He.ga K "BadChoice")) = some false) ∧ (PySem.W.subIn K (.ref (He.ga K "TooMany")) (.ref (He.ga K "BadDays")) = some false))
theorem hm_ok_17 {K : PySem.W.Frag} (h : hm_ex_17 K = true) : (PySem.W.subIn K (.ref (He.ga K "DueError")) (.ref (He.ga K "BadChoice")) = some false) ∧ (PySem.W.subIn K (.ref (He.ga K "BadChoice")) (.ref (He.ga K "BadChoice")) = some true) ∧ (PySem.W.subIn K (.ref (He.ga K "DueError")) (.ref (He.ga K "BadDays")) = some false) ∧ (PySem.W.subIn K (.ref (He.ga K "BadDays")) (.ref (He.ga K "BadDays")) = some true) ∧ (PySem.W.subIn K (.ref (He.ga K "DueError")) (.type "ValueError") = some true) ∧ (PySem.W.subIn K (.ref (He.ga K "OutOfRange")) (.ref (He.ga K "DueError")) = some true) ∧ (PySem.W.subIn K (.ref (He.ga K "OutOfRange")) (.ref (He.ga K "TooMany")) = some false) ∧ (PySem.W.subIn K (.ref (He.ga K "OutOfRange")) (.ref (He.ga K "BadCalendar")) = some false) ∧ (PySem.W.subIn K (.ref (He.ga K "OutOfRange")) (.ref (He.ga K "BadChoice")) = some false) ∧ (PySem.W.subIn K (.ref (He.ga K "OutOfRange")) (.ref (He.ga K "BadDays")) = some false) ∧ (PySem.W.subIn K (.ref (He.ga K "OutOfRange")) (.type "ValueError") = some true) ∧ (PySem.W.subIn K (.ref (He.ga K "TooMany")) (.ref (He.ga K "DueError")) = some true) ∧ (PySem.W.subIn K (.ref (He.ga K "TooMany")) (.ref (He.ga K "OutOfRange")) = some false) ∧ (PySem.W.subIn K (.ref (He.ga K "TooMany")) (.ref (He.ga K "BadCalendar")) = some false) ∧ (PySem.W.subIn K (.ref (He.ga K "TooMany")) (.ref (He.ga K "BadChoice")) = some false) ∧ (PySem.W.subIn K (.ref (He.ga K "TooMany")) (.ref (He.ga K "BadDays")) = some false) := of_decide_eq_true h
def hm_ex_18 (K : PySem.W.Frag) : Bool := decide ((PySem.W.subIn K (.ref (He.ga K "TooMany")) (.type "ValueError") = some true) ∧ (PySem.W.subIn K (.ref (He.ga K "BadCalendar")) (.ref (He.ga K "DueError")) = some true) ∧ (PySem.W.subIn K (.ref (He.ga K "BadCalendar")) (.ref (He.ga K "OutOfRange")) = some false) ∧ (PySem.W.subIn K (.ref (He.ga K "BadCalendar")) (.ref (He.ga K "TooMany")) = some false) ∧ (PySem.W.subIn K (.ref (He.ga K "BadCalendar")) (.ref (He.ga K "BadChoice")) = some false) ∧ (PySem.W.subIn K (.ref (He.ga K "BadCalendar")) (.ref (He.ga K "BadDays")) = some false) ∧ (PySem.W.subIn K (.ref (He.ga K "BadCalendar")) (.type "ValueError") = some true) ∧ (PySem.W.subIn K (.ref (He.ga K "BadChoice")) (.ref (He.ga K "DueError")) = some true) ∧ (PySem.W.subIn K (.ref (He.ga K "BadChoice")) (.ref (He.ga K "OutOfRange")) = some false) ∧ (PySem.W.subIn K (.ref (He.ga K "BadChoice")) (.ref (He.ga K "TooMany")) = some false) ∧ (PySem.W.subIn K (.ref (He.ga K "BadChoice")) (.ref (He.ga K "BadCalendar")) = some false) ∧ (PySem.W.subIn K (.ref (He.ga K "BadChoice")) (.ref (He.ga K "BadDays")) = some false) ∧ (PySem.W.subIn K (.ref (He.ga K "BadChoice")) (.type "ValueError") = some true) ∧ (PySem.W.subIn K (.ref (He.ga K "BadDays")) (.ref (He.ga K "DueError")) = some true) ∧ (PySem.W.subIn K (.ref (He.ga K "BadDays")) (.ref (He.ga K "OutOfRange")) = some false) ∧ (PySem.W.subIn K (.ref (He.ga K "BadDays")) (.ref (He.ga K "TooMany")) = some false))
theorem hm_ok_18 {K : PySem.W.Frag} (h : hm_ex_18 K = true) : (PySem.W.subIn K (.ref (He.ga K "TooMany")) (.type "ValueError") = some true) ∧ (PySem.W.subIn K (.ref (He.ga K "BadCalendar")) (.ref (He.ga K "DueError")) = some true) ∧ (PySem.W.subIn K (.ref (He.ga K "BadCalendar")) (.ref (He.ga K "OutOfRange")) = some false) ∧ (PySem.W.subIn K (.ref (He.ga K "BadCalendar")) (.ref (He.ga K "TooMany")) = some false) ∧ (PySem.W.subIn K (.ref (He.ga K "BadCalendar")) (.ref (He.ga K "BadChoice")) = some false) ∧ (PySem.W.subIn K (.ref (He.ga K "BadCalendar")) (.ref (He.ga K "BadDays")) = some false) ∧ (PySem.W.subIn K (.ref (He.ga K "BadCalendar")) (.type "ValueError") = some true) ∧ (PySem.W.subIn K (.ref (He.ga K "BadChoice")) (.ref (He.ga K "DueError")) = some true) ∧ (PySem.W.subIn K (.ref (He.ga K "BadChoice")) (.ref (He.ga K "OutOfRange")) = some false) ∧ (PySem.W.subIn K (.ref (He.ga K "BadChoice")) (.ref (He.ga K "TooMany")) = some false) ∧ (PySem.W.subIn K (.ref (He.ga K "BadChoice")) (.ref (He.ga K "BadCalendar")) = some false) ∧ (PySem.W.subIn K (.ref (He.ga K "BadChoice")) (.ref (He.ga K "BadDays")) = some false) ∧ (PySem.W.subIn K (.ref (He.ga K "BadChoice")) (.type "ValueError") = some true) ∧ (PySem.W.subIn K (.ref (He.ga K "BadDays")) (.ref (He.ga K "DueError")) = some true) ∧ (PySem.W.subIn K (.ref (He.ga K "BadDays")) (.ref (He.ga K "OutOfRange")) = some false) ∧ (PySem.W.subIn K (.ref (He.ga K "BadDays")) (.ref (He.ga K "TooMany")) = some false) := of_decide_eq_true h
def hm_ex_19 (K : PySem.W.Frag) : Bool := decide ((PySem.W.subIn K (.ref (He.ga K "BadDays")) (.ref (He.ga K "BadCalendar")) = some false) ∧ (PySem.W.subIn K (.ref (He.ga K "BadDays")) (.ref (He.ga K "BadChoice")) = some false) ∧ (PySem.W.subIn K (.ref (He.ga K "BadDays")) (.type "ValueError") = some true) ∧ (PySem.W.nsIn K mainGlobals "in_range" = some (some (.ref (He.ga K "in_range")))) ∧ (PySem.W.nsIn K mainGlobals "first_bar" = some (some (.ref (He.ga K "first_bar")))) ∧ (PySem.W.nsIn K mainGlobals "why_due" = some (some (.ref (He.ga K "why_due")))) ∧ (PySem.W.nsIn K mainGlobals "why_not" = some (some (.ref (He.ga K "why_not")))) ∧ (PySem.W.nsIn K mainGlobals "right_months" = some (some (.ref (He.ga K "right_months")))) ∧ (PySem.W.nsIn K mainGlobals "right_leaps" = some (some (.ref (He.ga K "right_leaps")))) ∧ (PySem.W.nsIn K mainGlobals "is_long_year" = some (some (.ref (He.ga K "is_long_year")))) ∧ (PySem.W.nsIn K mainGlobals "long_years" = some (some (.ref (He.ga K "long_years")))) ∧ (PySem.W.nsIn K mainGlobals "days_ahead" = some (some (.ref (He.ga K "days_ahead")))) ∧ (PySem.W.nsIn K mainGlobals "days_in_month" = some (some (.ref (He.ga K "days_in_month")))) ∧ (PySem.W.nsIn K mainGlobals "year_of_day" = some (some (.ref (He.ga K "year_of_day")))) ∧ (Hm.tup0B K (Hm.kwAt (fun K => (He.ma K (He.ga K "Calendar") "__init__")) "leaps" K) = true) ∧ (PySem.W.nsIn K mainGlobals "right_part" = some (some (.ref (He.ga K "right_part")))))
theorem hm_ok_19 {K : PySem.W.Frag} (h : hm_ex_19 K = true) : (PySem.W.subIn K (.ref (He.ga K "BadDays")) (.ref (He.ga K "BadCalendar")) = some false) ∧ (PySem.W.subIn K (.ref (He.ga K "BadDays")) (.ref (He.ga K "BadChoice")) = some false) ∧ (PySem.W.subIn K (.ref (He.ga K "BadDays")) (.type "ValueError") = some true) ∧ (PySem.W.nsIn K mainGlobals "in_range" = some (some (.ref (He.ga K "in_range")))) ∧ (PySem.W.nsIn K mainGlobals "first_bar" = some (some (.ref (He.ga K "first_bar")))) ∧ (PySem.W.nsIn K mainGlobals "why_due" = some (some (.ref (He.ga K "why_due")))) ∧ (PySem.W.nsIn K mainGlobals "why_not" = some (some (.ref (He.ga K "why_not")))) ∧ (PySem.W.nsIn K mainGlobals "right_months" = some (some (.ref (He.ga K "right_months")))) ∧ (PySem.W.nsIn K mainGlobals "right_leaps" = some (some (.ref (He.ga K "right_leaps")))) ∧ (PySem.W.nsIn K mainGlobals "is_long_year" = some (some (.ref (He.ga K "is_long_year")))) ∧ (PySem.W.nsIn K mainGlobals "long_years" = some (some (.ref (He.ga K "long_years")))) ∧ (PySem.W.nsIn K mainGlobals "days_ahead" = some (some (.ref (He.ga K "days_ahead")))) ∧ (PySem.W.nsIn K mainGlobals "days_in_month" = some (some (.ref (He.ga K "days_in_month")))) ∧ (PySem.W.nsIn K mainGlobals "year_of_day" = some (some (.ref (He.ga K "year_of_day")))) ∧ (Hm.tup0B K (Hm.kwAt (fun K => (He.ma K (He.ga K "Calendar") "__init__")) "leaps" K) = true) ∧ (PySem.W.nsIn K mainGlobals "right_part" = some (some (.ref (He.ga K "right_part")))) := of_decide_eq_true h
def hm_ex_20 (K : PySem.W.Frag) : Bool := decide ((PySem.W.nsIn K mainGlobals "part_text" = some (some (.ref (He.ga K "part_text")))) ∧ (PySem.W.nsIn K mainGlobals "first_member" = some (some (.ref (He.ga K "first_member")))) ∧ (Hm.tup0B K (Hm.dfAt (fun K => (He.ma K (He.ga K "Choice") "__init__")) 0 K) = true) ∧ (PySem.W.nsIn K mainGlobals "last_word" = some (some (.ref (He.ga K "last_word")))) ∧ (PySem.W.nsIn K mainGlobals "bad_day" = some (some (.ref (He.ga K "bad_day")))) ∧ (Hm.tup0B K (Hm.dfAt (fun K => (He.ma K (He.ga K "Rule") "__init__")) 0 K) = true) ∧ (PySem.W.nsIn K mainGlobals "_law_start" = some (some (.ref (He.ga K "_law_start")))) ∧ (PySem.W.nsIn K mainGlobals "_law_draw" = some (some (.ref (He.ga K "_law_draw")))) ∧ (PySem.W.nsIn K mainGlobals "_law_far" = some (some (.ref (He.ga K "_law_far")))) ∧ (PySem.W.nsIn K mainGlobals "_law_days_of" = some (some (.ref (He.ga K "_law_days_of")))) ∧ (PySem.W.nsIn K mainGlobals "_law_drawn" = some (some (.ref (He.ga K "_law_drawn")))) ∧ (PySem.W.nsIn K mainGlobals "_law_parts" = some (some (.ref (He.ga K "_law_parts")))) ∧ (PySem.W.nsIn K mainGlobals "_law_condition" = some (some (.ref (He.ga K "_law_condition")))) ∧ (PySem.W.nsIn K mainGlobals "_law_object" = some (some (.ref (He.ga K "_law_object")))) ∧ (PySem.W.nsIn K mainGlobals "_law_chosen" = some (some (.ref (He.ga K "_law_chosen")))) ∧ (PySem.W.nsIn K mainGlobals "_law_on" = some (some (.ref (He.ga K "_law_on")))))
theorem hm_ok_20 {K : PySem.W.Frag} (h : hm_ex_20 K = true) : (PySem.W.nsIn K mainGlobals "part_text" = some (some (.ref (He.ga K "part_text")))) ∧ (PySem.W.nsIn K mainGlobals "first_member" = some (some (.ref (He.ga K "first_member")))) ∧ (Hm.tup0B K (Hm.dfAt (fun K => (He.ma K (He.ga K "Choice") "__init__")) 0 K) = true) ∧ (PySem.W.nsIn K mainGlobals "last_word" = some (some (.ref (He.ga K "last_word")))) ∧ (PySem.W.nsIn K mainGlobals "bad_day" = some (some (.ref (He.ga K "bad_day")))) ∧ (Hm.tup0B K (Hm.dfAt (fun K => (He.ma K (He.ga K "Rule") "__init__")) 0 K) = true) ∧ (PySem.W.nsIn K mainGlobals "_law_start" = some (some (.ref (He.ga K "_law_start")))) ∧ (PySem.W.nsIn K mainGlobals "_law_draw" = some (some (.ref (He.ga K "_law_draw")))) ∧ (PySem.W.nsIn K mainGlobals "_law_far" = some (some (.ref (He.ga K "_law_far")))) ∧ (PySem.W.nsIn K mainGlobals "_law_days_of" = some (some (.ref (He.ga K "_law_days_of")))) ∧ (PySem.W.nsIn K mainGlobals "_law_drawn" = some (some (.ref (He.ga K "_law_drawn")))) ∧ (PySem.W.nsIn K mainGlobals "_law_parts" = some (some (.ref (He.ga K "_law_parts")))) ∧ (PySem.W.nsIn K mainGlobals "_law_condition" = some (some (.ref (He.ga K "_law_condition")))) ∧ (PySem.W.nsIn K mainGlobals "_law_object" = some (some (.ref (He.ga K "_law_object")))) ∧ (PySem.W.nsIn K mainGlobals "_law_chosen" = some (some (.ref (He.ga K "_law_chosen")))) ∧ (PySem.W.nsIn K mainGlobals "_law_on" = some (some (.ref (He.ga K "_law_on")))) := of_decide_eq_true h
def hm_ex_21 (K : PySem.W.Frag) : Bool := decide ((PySem.W.nsIn K mainGlobals "_law_bar" = some (some (.ref (He.ga K "_law_bar")))) ∧ (PySem.W.nsIn K mainGlobals "_law_int" = some (some (.ref (He.ga K "_law_int")))) ∧ (PySem.W.nsIn K mainGlobals "_law_row" = some (some (.ref (He.ga K "_law_row")))) ∧ (PySem.W.nsIn K mainGlobals "_law_why" = some (some (.ref (He.ga K "_law_why")))) ∧ (PySem.W.nsIn K mainGlobals "_law_call" = some (some (.ref (He.ga K "_law_call")))) ∧ (PySem.W.nsIn K mainGlobals "_law_asked" = some (some (.ref (He.ga K "_law_asked")))) ∧ (PySem.W.nsIn K mainGlobals "_law_size" = some (some (.ref (He.ga K "_law_size")))) ∧ (PySem.W.nsIn K mainGlobals "_law_wide" = some (some (.ref (He.ga K "_law_wide")))) ∧ (PySem.W.nsIn K mainGlobals "_law_choice" = some (some (.ref (He.ga K "_law_choice")))) ∧ (PySem.W.nsIn K mainGlobals "_law_integers" = some (some (.ref (He.ga K "_law_integers")))) ∧ (PySem.W.nsIn K mainGlobals "_law_wrong" = some (some (.ref (He.ga K "_law_wrong")))) ∧ (PySem.W.nsIn K mainGlobals "law" = some (some (.ref (He.ga K "law")))) ∧ (Hm.gInt K "FAR" (10 ^ 40) = true) ∧ (Hm.gInt K "TOP" 9999 = true) ∧ (Hm.gInt K "MOST_PARTS" 1500 = true) ∧ (Hm.gInt K "MOST_DAY" 100000 = true))
theorem hm_ok_21 {K : PySem.W.Frag} (h : hm_ex_21 K = true) : (PySem.W.nsIn K mainGlobals "_law_bar" = some (some (.ref (He.ga K "_law_bar")))) ∧ (PySem.W.nsIn K mainGlobals "_law_int" = some (some (.ref (He.ga K "_law_int")))) ∧ (PySem.W.nsIn K mainGlobals "_law_row" = some (some (.ref (He.ga K "_law_row")))) ∧ (PySem.W.nsIn K mainGlobals "_law_why" = some (some (.ref (He.ga K "_law_why")))) ∧ (PySem.W.nsIn K mainGlobals "_law_call" = some (some (.ref (He.ga K "_law_call")))) ∧ (PySem.W.nsIn K mainGlobals "_law_asked" = some (some (.ref (He.ga K "_law_asked")))) ∧ (PySem.W.nsIn K mainGlobals "_law_size" = some (some (.ref (He.ga K "_law_size")))) ∧ (PySem.W.nsIn K mainGlobals "_law_wide" = some (some (.ref (He.ga K "_law_wide")))) ∧ (PySem.W.nsIn K mainGlobals "_law_choice" = some (some (.ref (He.ga K "_law_choice")))) ∧ (PySem.W.nsIn K mainGlobals "_law_integers" = some (some (.ref (He.ga K "_law_integers")))) ∧ (PySem.W.nsIn K mainGlobals "_law_wrong" = some (some (.ref (He.ga K "_law_wrong")))) ∧ (PySem.W.nsIn K mainGlobals "law" = some (some (.ref (He.ga K "law")))) ∧ (Hm.gInt K "FAR" (10 ^ 40) = true) ∧ (Hm.gInt K "TOP" 9999 = true) ∧ (Hm.gInt K "MOST_PARTS" 1500 = true) ∧ (Hm.gInt K "MOST_DAY" 100000 = true) := of_decide_eq_true h
def hm_ex_22 (K : PySem.W.Frag) : Bool := decide ((Hm.gInt K "MOST_DAYS" 100 = true) ∧ (Hm.gInt K "MOST_CONDITIONS" 8 = true) ∧ (Hm.gInt K "MOST_RULES" 6 = true) ∧ (PySem.W.nsIn K mainGlobals "ValueError" = some none) ∧ (PySem.W.nsIn K mainGlobals "all" = some none) ∧ (PySem.W.nsIn K mainGlobals "any" = some none) ∧ (PySem.W.nsIn K mainGlobals "bool" = some none) ∧ (PySem.W.nsIn K mainGlobals "divmod" = some none) ∧ (PySem.W.nsIn K mainGlobals "enumerate" = some none) ∧ (PySem.W.nsIn K mainGlobals "int" = some none) ∧ (PySem.W.nsIn K mainGlobals "isinstance" = some none) ∧ (PySem.W.nsIn K mainGlobals "len" = some none) ∧ (PySem.W.nsIn K mainGlobals "list" = some none) ∧ (PySem.W.nsIn K mainGlobals "max" = some none) ∧ (PySem.W.nsIn K mainGlobals "min" = some none) ∧ (PySem.W.nsIn K mainGlobals "range" = some none))
theorem hm_ok_22 {K : PySem.W.Frag} (h : hm_ex_22 K = true) : (Hm.gInt K "MOST_DAYS" 100 = true) ∧ (Hm.gInt K "MOST_CONDITIONS" 8 = true) ∧ (Hm.gInt K "MOST_RULES" 6 = true) ∧ (PySem.W.nsIn K mainGlobals "ValueError" = some none) ∧ (PySem.W.nsIn K mainGlobals "all" = some none) ∧ (PySem.W.nsIn K mainGlobals "any" = some none) ∧ (PySem.W.nsIn K mainGlobals "bool" = some none) ∧ (PySem.W.nsIn K mainGlobals "divmod" = some none) ∧ (PySem.W.nsIn K mainGlobals "enumerate" = some none) ∧ (PySem.W.nsIn K mainGlobals "int" = some none) ∧ (PySem.W.nsIn K mainGlobals "isinstance" = some none) ∧ (PySem.W.nsIn K mainGlobals "len" = some none) ∧ (PySem.W.nsIn K mainGlobals "list" = some none) ∧ (PySem.W.nsIn K mainGlobals "max" = some none) ∧ (PySem.W.nsIn K mainGlobals "min" = some none) ∧ (PySem.W.nsIn K mainGlobals "range" = some none) := of_decide_eq_true h
def hm_ex_23 (K : PySem.W.Frag) : Bool := decide ((PySem.W.nsIn K mainGlobals "set" = some none) ∧ (PySem.W.nsIn K mainGlobals "sorted" = some none) ∧ (PySem.W.nsIn K mainGlobals "str" = some none) ∧ (PySem.W.nsIn K mainGlobals "sum" = some none) ∧ (PySem.W.nsIn K mainGlobals "tuple" = some none))
theorem hm_ok_23 {K : PySem.W.Frag} (h : hm_ex_23 K = true) : (PySem.W.nsIn K mainGlobals "set" = some none) ∧ (PySem.W.nsIn K mainGlobals "sorted" = some none) ∧ (PySem.W.nsIn K mainGlobals "str" = some none) ∧ (PySem.W.nsIn K mainGlobals "sum" = some none) ∧ (PySem.W.nsIn K mainGlobals "tuple" = some none) := of_decide_eq_true h
def hm_ex : List (PySem.W.Frag → Bool) := [hm_ex_0, hm_ex_1, hm_ex_2, hm_ex_3, hm_ex_4, hm_ex_5, hm_ex_6, hm_ex_7, hm_ex_8, hm_ex_9, hm_ex_10, hm_ex_11, hm_ex_12, hm_ex_13, hm_ex_14, hm_ex_15, hm_ex_16, hm_ex_17, hm_ex_18, hm_ex_19, hm_ex_20, hm_ex_21, hm_ex_22, hm_ex_23]
def hm_fn_0 : List (He5.DefA) := [⟨fun K => (He.ma K (He.ga K "OutOfRange") "__init__"), "__init__", "OutOfRange.__init__", defArgs s_OutOfRange_init, defBody s_OutOfRange_init, defScope s_OutOfRange_init, [], []⟩,
  ⟨fun K => (He.ma K (He.ga K "TooMany") "__init__"), "__init__", "TooMany.__init__", defArgs s_TooMany_init, defBody s_TooMany_init, defScope s_TooMany_init, [], []⟩,
  ⟨fun K => (He.ma K (He.ga K "BadCalendar") "__init__"), "__init__", "BadCalendar.__init__", defArgs s_BadCalendar_init, defBody s_BadCalendar_init, defScope s_BadCalendar_init, [], []⟩,
  ⟨fun K => (He.ma K (He.ga K "BadChoice") "__init__"), "__init__", "BadChoice.__init__", defArgs s_BadChoice_init, defBody s_BadChoice_init, defScope s_BadChoice_init, [], []⟩,
  ⟨fun K => (He.ma K (He.ga K "BadDays") "__init__"), "__init__", "BadDays.__init__", defArgs s_BadDays_init, defBody s_BadDays_init, defScope s_BadDays_init, [], []⟩,
  ⟨fun K => (He.ga K "in_range"), "in_range", "in_range", defArgs s_in_range, defBody s_in_range, defScope s_in_range, [], []⟩,
  ⟨fun K => (He.ga K "first_bar"), "first_bar", "first_bar", defArgs s_first_bar, defBody s_first_bar, defScope s_first_bar, [], []⟩,
  ⟨fun K => (He.ga K "why_due"), "why_due", "why_due", defArgs s_why_due, defBody s_why_due, defScope s_why_due, [], []⟩,
  ⟨fun K => (He.ga K "why_not"), "why_not", "why_not", defArgs s_why_not, defBody s_why_not, defScope s_why_not, [], []⟩,
  ⟨fun K => (He.ga K "right_months"), "right_months", "right_months", defArgs s_right_months, defBody s_right_months, defScope s_right_months, [], []⟩,
  ⟨fun K => (He.ga K "right_leaps"), "right_leaps", "right_leaps", defArgs s_right_leaps, defBody s_right_leaps, defScope s_right_leaps, [], []⟩,
  ⟨fun K => (He.ga K "is_long_year"), "is_long_year", "is_long_year", defArgs s_is_long_year, defBody s_is_long_year, defScope s_is_long_year, [], []⟩,
  ⟨fun K => (He.ga K "long_years"), "long_years", "long_years", defArgs s_long_years, defBody s_long_years, defScope s_long_years, [], []⟩,
  ⟨fun K => (He.ga K "days_ahead"), "days_ahead", "days_ahead", defArgs s_days_ahead, defBody s_days_ahead, defScope s_days_ahead, [], []⟩,
  ⟨fun K => (He.ga K "days_in_month"), "days_in_month", "days_in_month", defArgs s_days_in_month, defBody s_days_in_month, defScope s_days_in_month, [], []⟩,
  ⟨fun K => (He.ga K "year_of_day"), "year_of_day", "year_of_day", defArgs s_year_of_day, defBody s_year_of_day, defScope s_year_of_day, [], []⟩,
  ⟨fun K => (He.ma K (He.ga K "Calendar") "__init__"), "__init__", "Calendar.__init__", defArgs s_Calendar_init, defBody s_Calendar_init, defScope s_Calendar_init, [], [("leap_month", .int 1), ("leaps", .adr (fun K => (Hm.kwAt (fun K => (He.ma K (He.ga K "Calendar") "__init__")) "leaps" K))), ("first", .int 0), ("hour", .non)]⟩,
  ⟨fun K => (He.ma K (He.ga K "Calendar") "month_length"), "month_length", "Calendar.month_length", defArgs s_Calendar_month_length, defBody s_Calendar_month_length, defScope s_Calendar_month_length, [], []⟩,
  ⟨fun K => (He.ma K (He.ga K "Calendar") "date_of"), "date_of", "Calendar.date_of", defArgs s_Calendar_date_of, defBody s_Calendar_date_of, defScope s_Calendar_date_of, [], []⟩,
  ⟨fun K => (He.ma K (He.ga K "Calendar") "weekday_of"), "weekday_of", "Calendar.weekday_of", defArgs s_Calendar_weekday_of, defBody s_Calendar_weekday_of, defScope s_Calendar_weekday_of, [], []⟩,
  ⟨fun K => (He.ga K "right_part"), "right_part", "right_part", defArgs s_right_part, defBody s_right_part, defScope s_right_part, [], []⟩,
  ⟨fun K => (He.ga K "part_text"), "part_text", "part_text", defArgs s_part_text, defBody s_part_text, defScope s_part_text, [], []⟩,
  ⟨fun K => (He.ga K "first_member"), "first_member", "first_member", defArgs s_first_member, defBody s_first_member, defScope s_first_member, [], []⟩,
  ⟨fun K => (He.ma K (He.ga K "Choice") "__init__"), "__init__", "Choice.__init__", defArgs s_Choice_init, defBody s_Choice_init, defScope s_Choice_init, [.adr (fun K => (Hm.dfAt (fun K => (He.ma K (He.ga K "Choice") "__init__")) 0 K))], []⟩,
  ⟨fun K => (He.ma K (He.ga K "Choice") "holds"), "holds", "Choice.holds", defArgs s_Choice_holds, defBody s_Choice_holds, defScope s_Choice_holds, [], []⟩,
  ⟨fun K => (He.ma K (He.ga K "Choice") "numbers"), "numbers", "Choice.numbers", defArgs s_Choice_numbers, defBody s_Choice_numbers, defScope s_Choice_numbers, [], []⟩,
  ⟨fun K => (He.ga K "last_word"), "last_word", "last_word", defArgs s_last_word, defBody s_last_word, defScope s_last_word, [], []⟩,
  ⟨fun K => (He.ga K "bad_day"), "bad_day", "bad_day", defArgs s_bad_day, defBody s_bad_day, defScope s_bad_day, [], []⟩,
  ⟨fun K => (He.ma K (He.ga K "MonthDays") "__init__"), "__init__", "MonthDays.__init__", defArgs s_MonthDays_init, defBody s_MonthDays_init, defScope s_MonthDays_init, [], [("from_end", .bl false)]⟩,
  ⟨fun K => (He.ma K (He.ga K "MonthDays") "holds"), "holds", "MonthDays.holds", defArgs s_MonthDays_holds, defBody s_MonthDays_holds, defScope s_MonthDays_holds, [], []⟩]
def hm_fn_1 : List (He5.DefA) := [⟨fun K => (He.ma K (He.ga K "Weekdays") "__init__"), "__init__", "Weekdays.__init__", defArgs s_Weekdays_init, defBody s_Weekdays_init, defScope s_Weekdays_init, [], []⟩,
  ⟨fun K => (He.ma K (He.ga K "Weekdays") "holds"), "holds", "Weekdays.holds", defArgs s_Weekdays_holds, defBody s_Weekdays_holds, defScope s_Weekdays_holds, [], []⟩,
  ⟨fun K => (He.ma K (He.ga K "Months") "__init__"), "__init__", "Months.__init__", defArgs s_Months_init, defBody s_Months_init, defScope s_Months_init, [], []⟩,
  ⟨fun K => (He.ma K (He.ga K "Months") "holds"), "holds", "Months.holds", defArgs s_Months_holds, defBody s_Months_holds, defScope s_Months_holds, [], []⟩,
  ⟨fun K => (He.ma K (He.ga K "NthWeekday") "__init__"), "__init__", "NthWeekday.__init__", defArgs s_NthWeekday_init, defBody s_NthWeekday_init, defScope s_NthWeekday_init, [], [("from_end", .bl false)]⟩,
  ⟨fun K => (He.ma K (He.ga K "NthWeekday") "holds"), "holds", "NthWeekday.holds", defArgs s_NthWeekday_holds, defBody s_NthWeekday_holds, defScope s_NthWeekday_holds, [], []⟩,
  ⟨fun K => (He.ma K (He.ga K "EveryDays") "__init__"), "__init__", "EveryDays.__init__", defArgs s_EveryDays_init, defBody s_EveryDays_init, defScope s_EveryDays_init, [.int 0], []⟩,
  ⟨fun K => (He.ma K (He.ga K "EveryDays") "holds"), "holds", "EveryDays.holds", defArgs s_EveryDays_holds, defBody s_EveryDays_holds, defScope s_EveryDays_holds, [], []⟩,
  ⟨fun K => (He.ma K (He.ga K "FromDay") "__init__"), "__init__", "FromDay.__init__", defArgs s_FromDay_init, defBody s_FromDay_init, defScope s_FromDay_init, [], []⟩,
  ⟨fun K => (He.ma K (He.ga K "FromDay") "holds"), "holds", "FromDay.holds", defArgs s_FromDay_holds, defBody s_FromDay_holds, defScope s_FromDay_holds, [], []⟩,
  ⟨fun K => (He.ma K (He.ga K "UntilDay") "__init__"), "__init__", "UntilDay.__init__", defArgs s_UntilDay_init, defBody s_UntilDay_init, defScope s_UntilDay_init, [], []⟩,
  ⟨fun K => (He.ma K (He.ga K "UntilDay") "holds"), "holds", "UntilDay.holds", defArgs s_UntilDay_holds, defBody s_UntilDay_holds, defScope s_UntilDay_holds, [], []⟩,
  ⟨fun K => (He.ma K (He.ga K "NotOn") "__init__"), "__init__", "NotOn.__init__", defArgs s_NotOn_init, defBody s_NotOn_init, defScope s_NotOn_init, [], []⟩,
  ⟨fun K => (He.ma K (He.ga K "NotOn") "holds"), "holds", "NotOn.holds", defArgs s_NotOn_holds, defBody s_NotOn_holds, defScope s_NotOn_holds, [], []⟩,
  ⟨fun K => (He.ma K (He.ga K "Rule") "__init__"), "__init__", "Rule.__init__", defArgs s_Rule_init, defBody s_Rule_init, defScope s_Rule_init, [.adr (fun K => (Hm.dfAt (fun K => (He.ma K (He.ga K "Rule") "__init__")) 0 K))], []⟩,
  ⟨fun K => (He.ma K (He.ga K "Rule") "holds"), "holds", "Rule.holds", defArgs s_Rule_holds, defBody s_Rule_holds, defScope s_Rule_holds, [], []⟩,
  ⟨fun K => (He.ma K (He.ga K "Schedule") "__init__"), "__init__", "Schedule.__init__", defArgs s_Schedule_init, defBody s_Schedule_init, defScope s_Schedule_init, [], []⟩,
  ⟨fun K => (He.ma K (He.ga K "Schedule") "holds"), "holds", "Schedule.holds", defArgs s_Schedule_holds, defBody s_Schedule_holds, defScope s_Schedule_holds, [], []⟩,
  ⟨fun K => (He.ga K "_law_start"), "_law_start", "_law_start", defArgs s__law_start, defBody s__law_start, defScope s__law_start, [], []⟩,
  ⟨fun K => (He.ga K "_law_draw"), "_law_draw", "_law_draw", defArgs s__law_draw, defBody s__law_draw, defScope s__law_draw, [], []⟩,
  ⟨fun K => (He.ga K "_law_far"), "_law_far", "_law_far", defArgs s__law_far, defBody s__law_far, defScope s__law_far, [], []⟩,
  ⟨fun K => (He.ga K "_law_days_of"), "_law_days_of", "_law_days_of", defArgs s__law_days_of, defBody s__law_days_of, defScope s__law_days_of, [], []⟩,
  ⟨fun K => (He.ga K "_law_drawn"), "_law_drawn", "_law_drawn", defArgs s__law_drawn, defBody s__law_drawn, defScope s__law_drawn, [], []⟩,
  ⟨fun K => (He.ga K "_law_parts"), "_law_parts", "_law_parts", defArgs s__law_parts, defBody s__law_parts, defScope s__law_parts, [], []⟩,
  ⟨fun K => (He.ga K "_law_condition"), "_law_condition", "_law_condition", defArgs s__law_condition, defBody s__law_condition, defScope s__law_condition, [], []⟩,
  ⟨fun K => (He.ga K "_law_object"), "_law_object", "_law_object", defArgs s__law_object, defBody s__law_object, defScope s__law_object, [], []⟩,
  ⟨fun K => (He.ga K "_law_chosen"), "_law_chosen", "_law_chosen", defArgs s__law_chosen, defBody s__law_chosen, defScope s__law_chosen, [], []⟩,
  ⟨fun K => (He.ga K "_law_on"), "_law_on", "_law_on", defArgs s__law_on, defBody s__law_on, defScope s__law_on, [], []⟩,
  ⟨fun K => (He.ga K "_law_bar"), "_law_bar", "_law_bar", defArgs s__law_bar, defBody s__law_bar, defScope s__law_bar, [], []⟩,
  ⟨fun K => (He.ga K "_law_int"), "_law_int", "_law_int", defArgs s__law_int, defBody s__law_int, defScope s__law_int, [], []⟩]
def hm_fn_2 : List (He5.DefA) := [⟨fun K => (He.ga K "_law_row"), "_law_row", "_law_row", defArgs s__law_row, defBody s__law_row, defScope s__law_row, [], []⟩,
  ⟨fun K => (He.ga K "_law_why"), "_law_why", "_law_why", defArgs s__law_why, defBody s__law_why, defScope s__law_why, [], []⟩,
  ⟨fun K => (He.ga K "_law_call"), "_law_call", "_law_call", defArgs s__law_call, defBody s__law_call, defScope s__law_call, [], []⟩,
  ⟨fun K => (He.ga K "_law_asked"), "_law_asked", "_law_asked", defArgs s__law_asked, defBody s__law_asked, defScope s__law_asked, [], []⟩,
  ⟨fun K => (He.ga K "_law_size"), "_law_size", "_law_size", defArgs s__law_size, defBody s__law_size, defScope s__law_size, [], []⟩,
  ⟨fun K => (He.ga K "_law_wide"), "_law_wide", "_law_wide", defArgs s__law_wide, defBody s__law_wide, defScope s__law_wide, [], []⟩,
  ⟨fun K => (He.ga K "_law_choice"), "_law_choice", "_law_choice", defArgs s__law_choice, defBody s__law_choice, defScope s__law_choice, [], []⟩,
  ⟨fun K => (He.ga K "_law_integers"), "_law_integers", "_law_integers", defArgs s__law_integers, defBody s__law_integers, defScope s__law_integers, [], []⟩,
  ⟨fun K => (He.ga K "_law_wrong"), "_law_wrong", "_law_wrong", defArgs s__law_wrong, defBody s__law_wrong, defScope s__law_wrong, [], []⟩,
  ⟨fun K => (He.ga K "law"), "law", "law", defArgs s_law, defBody s_law, defScope s_law, [], []⟩]
def hm_fn : List (He5.DefA) := hm_fn_0 ++ hm_fn_1 ++ hm_fn_2
def hm_names_0 : List (Str) := ["_wall",
  "DueError",
  "OutOfRange",
  "TooMany",
  "BadCalendar",
  "BadChoice",
  "BadDays",
  "in_range",
  "FAR",
  "first_bar",
  "why_due",
  "why_not",
  "right_months",
  "right_leaps",
  "is_long_year",
  "long_years",
  "days_ahead",
  "days_in_month",
  "year_of_day",
  "Calendar",
  "TOP",
  "MOST_PARTS",
  "right_part",
  "part_text",
  "first_member",
  "Choice",
  "MOST_DAY",
  "MOST_DAYS",
  "last_word",
  "bad_day"]
def hm_names_1 : List (Str) := ["Condition",
  "MonthDays",
  "Weekdays",
  "Months",
  "NthWeekday",
  "EveryDays",
  "FromDay",
  "UntilDay",
  "NotOn",
  "MOST_CONDITIONS",
  "MOST_RULES",
  "Rule",
  "Schedule",
  "_law_start",
  "_law_draw",
  "_law_far",
  "_law_days_of",
  "_law_drawn",
  "_law_parts",
  "_law_condition",
  "_law_object",
  "_law_chosen",
  "_law_on",
  "_law_bar",
  "_law_int",
  "_law_row",
  "_law_why",
  "_law_call",
  "_law_asked",
  "_law_size"]
def hm_names_2 : List (Str) := ["_law_wide",
  "_law_choice",
  "_law_integers",
  "_law_wrong"]
def hm_names : List (Str) := hm_names_0 ++ hm_names_1 ++ hm_names_2
theorem hm_def_0 {K : PySem.W.Frag} (c : Hm.SaysM hm_ex hm_fn K) : ∃ fd, FunD K "__init__" "OutOfRange.__init__" (defArgs s_OutOfRange_init) (defBody s_OutOfRange_init) (defScope s_OutOfRange_init) [] [] (He.ma K (He.ga K "OutOfRange") "__init__") fd := c.def_ 0 rfl
theorem hm_def_1 {K : PySem.W.Frag} (c : Hm.SaysM hm_ex hm_fn K) : ∃ fd, FunD K "__init__" "TooMany.__init__" (defArgs s_TooMany_init) (defBody s_TooMany_init) (defScope s_TooMany_init) [] [] (He.ma K (He.ga K "TooMany") "__init__") fd := c.def_ 1 rfl
theorem hm_def_2 {K : PySem.W.Frag} (c : Hm.SaysM hm_ex hm_fn K) : ∃ fd, FunD K "__init__" "BadCalendar.__init__" (defArgs s_BadCalendar_init) (defBody s_BadCalendar_init) (defScope s_BadCalendar_init) [] [] (He.ma K (He.ga K "BadCalendar") "__init__") fd := c.def_ 2 rfl
theorem hm_def_3 {K : PySem.W.Frag} (c : Hm.SaysM hm_ex hm_fn K) : ∃ fd, FunD K "__init__" "BadChoice.__init__" (defArgs s_BadChoice_init) (defBody s_BadChoice_init) (defScope s_BadChoice_init) [] [] (He.ma K (He.ga K "BadChoice") "__init__") fd := c.def_ 3 rfl
theorem hm_def_4 {K : PySem.W.Frag} (c : Hm.SaysM hm_ex hm_fn K) : ∃ fd, FunD K "__init__" "BadDays.__init__" (defArgs s_BadDays_init) (defBody s_BadDays_init) (defScope s_BadDays_init) [] [] (He.ma K (He.ga K "BadDays") "__init__") fd := c.def_ 4 rfl
theorem hm_def_5 {K : PySem.W.Frag} (c : Hm.SaysM hm_ex hm_fn K) : ∃ fd, FunD K "in_range" "in_range" (defArgs s_in_range) (defBody s_in_range) (defScope s_in_range) [] [] (He.ga K "in_range") fd := c.def_ 5 rfl
theorem hm_def_6 {K : PySem.W.Frag} (c : Hm.SaysM hm_ex hm_fn K) : ∃ fd, FunD K "first_bar" "first_bar" (defArgs s_first_bar) (defBody s_first_bar) (defScope s_first_bar) [] [] (He.ga K "first_bar") fd := c.def_ 6 rfl
theorem hm_def_7 {K : PySem.W.Frag} (c : Hm.SaysM hm_ex hm_fn K) : ∃ fd, FunD K "why_due" "why_due" (defArgs s_why_due) (defBody s_why_due) (defScope s_why_due) [] [] (He.ga K "why_due") fd := c.def_ 7 rfl
theorem hm_def_8 {K : PySem.W.Frag} (c : Hm.SaysM hm_ex hm_fn K) : ∃ fd, FunD K "why_not" "why_not" (defArgs s_why_not) (defBody s_why_not) (defScope s_why_not) [] [] (He.ga K "why_not") fd := c.def_ 8 rfl
theorem hm_def_9 {K : PySem.W.Frag} (c : Hm.SaysM hm_ex hm_fn K) : ∃ fd, FunD K "right_months" "right_months" (defArgs s_right_months) (defBody s_right_months) (defScope s_right_months) [] [] (He.ga K "right_months") fd := c.def_ 9 rfl
theorem hm_def_10 {K : PySem.W.Frag} (c : Hm.SaysM hm_ex hm_fn K) : ∃ fd, FunD K "right_leaps" "right_leaps" (defArgs s_right_leaps) (defBody s_right_leaps) (defScope s_right_leaps) [] [] (He.ga K "right_leaps") fd := c.def_ 10 rfl
theorem hm_def_11 {K : PySem.W.Frag} (c : Hm.SaysM hm_ex hm_fn K) : ∃ fd, FunD K "is_long_year" "is_long_year" (defArgs s_is_long_year) (defBody s_is_long_year) (defScope s_is_long_year) [] [] (He.ga K "is_long_year") fd := c.def_ 11 rfl
theorem hm_def_12 {K : PySem.W.Frag} (c : Hm.SaysM hm_ex hm_fn K) : ∃ fd, FunD K "long_years" "long_years" (defArgs s_long_years) (defBody s_long_years) (defScope s_long_years) [] [] (He.ga K "long_years") fd := c.def_ 12 rfl
theorem hm_def_13 {K : PySem.W.Frag} (c : Hm.SaysM hm_ex hm_fn K) : ∃ fd, FunD K "days_ahead" "days_ahead" (defArgs s_days_ahead) (defBody s_days_ahead) (defScope s_days_ahead) [] [] (He.ga K "days_ahead") fd := c.def_ 13 rfl
theorem hm_def_14 {K : PySem.W.Frag} (c : Hm.SaysM hm_ex hm_fn K) : ∃ fd, FunD K "days_in_month" "days_in_month" (defArgs s_days_in_month) (defBody s_days_in_month) (defScope s_days_in_month) [] [] (He.ga K "days_in_month") fd := c.def_ 14 rfl
theorem hm_def_15 {K : PySem.W.Frag} (c : Hm.SaysM hm_ex hm_fn K) : ∃ fd, FunD K "year_of_day" "year_of_day" (defArgs s_year_of_day) (defBody s_year_of_day) (defScope s_year_of_day) [] [] (He.ga K "year_of_day") fd := c.def_ 15 rfl
theorem hm_def_16 {K : PySem.W.Frag} (c : Hm.SaysM hm_ex hm_fn K) : ∃ fd, FunD K "__init__" "Calendar.__init__" (defArgs s_Calendar_init) (defBody s_Calendar_init) (defScope s_Calendar_init) [] [("leap_month", .int 1), ("leaps", .ref (Hm.kwAt (fun K => (He.ma K (He.ga K "Calendar") "__init__")) "leaps" K)), ("first", .int 0), ("hour", .non)] (He.ma K (He.ga K "Calendar") "__init__") fd := c.def_ 16 rfl
theorem hm_def_17 {K : PySem.W.Frag} (c : Hm.SaysM hm_ex hm_fn K) : ∃ fd, FunD K "month_length" "Calendar.month_length" (defArgs s_Calendar_month_length) (defBody s_Calendar_month_length) (defScope s_Calendar_month_length) [] [] (He.ma K (He.ga K "Calendar") "month_length") fd := c.def_ 17 rfl
theorem hm_def_18 {K : PySem.W.Frag} (c : Hm.SaysM hm_ex hm_fn K) : ∃ fd, FunD K "date_of" "Calendar.date_of" (defArgs s_Calendar_date_of) (defBody s_Calendar_date_of) (defScope s_Calendar_date_of) [] [] (He.ma K (He.ga K "Calendar") "date_of") fd := c.def_ 18 rfl
theorem hm_def_19 {K : PySem.W.Frag} (c : Hm.SaysM hm_ex hm_fn K) : ∃ fd, FunD K "weekday_of" "Calendar.weekday_of" (defArgs s_Calendar_weekday_of) (defBody s_Calendar_weekday_of) (defScope s_Calendar_weekday_of) [] [] (He.ma K (He.ga K "Calendar") "weekday_of") fd := c.def_ 19 rfl
theorem hm_def_20 {K : PySem.W.Frag} (c : Hm.SaysM hm_ex hm_fn K) : ∃ fd, FunD K "right_part" "right_part" (defArgs s_right_part) (defBody s_right_part) (defScope s_right_part) [] [] (He.ga K "right_part") fd := c.def_ 20 rfl
theorem hm_def_21 {K : PySem.W.Frag} (c : Hm.SaysM hm_ex hm_fn K) : ∃ fd, FunD K "part_text" "part_text" (defArgs s_part_text) (defBody s_part_text) (defScope s_part_text) [] [] (He.ga K "part_text") fd := c.def_ 21 rfl
theorem hm_def_22 {K : PySem.W.Frag} (c : Hm.SaysM hm_ex hm_fn K) : ∃ fd, FunD K "first_member" "first_member" (defArgs s_first_member) (defBody s_first_member) (defScope s_first_member) [] [] (He.ga K "first_member") fd := c.def_ 22 rfl
theorem hm_def_23 {K : PySem.W.Frag} (c : Hm.SaysM hm_ex hm_fn K) : ∃ fd, FunD K "__init__" "Choice.__init__" (defArgs s_Choice_init) (defBody s_Choice_init) (defScope s_Choice_init) [.ref (Hm.dfAt (fun K => (He.ma K (He.ga K "Choice") "__init__")) 0 K)] [] (He.ma K (He.ga K "Choice") "__init__") fd := c.def_ 23 rfl
theorem hm_def_24 {K : PySem.W.Frag} (c : Hm.SaysM hm_ex hm_fn K) : ∃ fd, FunD K "holds" "Choice.holds" (defArgs s_Choice_holds) (defBody s_Choice_holds) (defScope s_Choice_holds) [] [] (He.ma K (He.ga K "Choice") "holds") fd := c.def_ 24 rfl
theorem hm_def_25 {K : PySem.W.Frag} (c : Hm.SaysM hm_ex hm_fn K) : ∃ fd, FunD K "numbers" "Choice.numbers" (defArgs s_Choice_numbers) (defBody s_Choice_numbers) (defScope s_Choice_numbers) [] [] (He.ma K (He.ga K "Choice") "numbers") fd := c.def_ 25 rfl
theorem hm_def_26 {K : PySem.W.Frag} (c : Hm.SaysM hm_ex hm_fn K) : ∃ fd, FunD K "last_word" "last_word" (defArgs s_last_word) (defBody s_last_word) (defScope s_last_word) [] [] (He.ga K "last_word") fd := c.def_ 26 rfl
theorem hm_def_27 {K : PySem.W.Frag} (c : Hm.SaysM hm_ex hm_fn K) : ∃ fd, FunD K "bad_day" "bad_day" (defArgs s_bad_day) (defBody s_bad_day) (defScope s_bad_day) [] [] (He.ga K "bad_day") fd := c.def_ 27 rfl
theorem hm_def_28 {K : PySem.W.Frag} (c : Hm.SaysM hm_ex hm_fn K) : ∃ fd, FunD K "__init__" "MonthDays.__init__" (defArgs s_MonthDays_init) (defBody s_MonthDays_init) (defScope s_MonthDays_init) [] [("from_end", .bl false)] (He.ma K (He.ga K "MonthDays") "__init__") fd := c.def_ 28 rfl
theorem hm_def_29 {K : PySem.W.Frag} (c : Hm.SaysM hm_ex hm_fn K) : ∃ fd, FunD K "holds" "MonthDays.holds" (defArgs s_MonthDays_holds) (defBody s_MonthDays_holds) (defScope s_MonthDays_holds) [] [] (He.ma K (He.ga K "MonthDays") "holds") fd := c.def_ 29 rfl
theorem hm_def_30 {K : PySem.W.Frag} (c : Hm.SaysM hm_ex hm_fn K) : ∃ fd, FunD K "__init__" "Weekdays.__init__" (defArgs s_Weekdays_init) (defBody s_Weekdays_init) (defScope s_Weekdays_init) [] [] (He.ma K (He.ga K "Weekdays") "__init__") fd := c.def_ 30 rfl
theorem hm_def_31 {K : PySem.W.Frag} (c : Hm.SaysM hm_ex hm_fn K) : ∃ fd, FunD K "holds" "Weekdays.holds" (defArgs s_Weekdays_holds) (defBody s_Weekdays_holds) (defScope s_Weekdays_holds) [] [] (He.ma K (He.ga K "Weekdays") "holds") fd := c.def_ 31 rfl
theorem hm_def_32 {K : PySem.W.Frag} (c : Hm.SaysM hm_ex hm_fn K) : ∃ fd, FunD K "__init__" "Months.__init__" (defArgs s_Months_init) (defBody s_Months_init) (defScope s_Months_init) [] [] (He.ma K (He.ga K "Months") "__init__") fd := c.def_ 32 rfl
theorem hm_def_33 {K : PySem.W.Frag} (c : Hm.SaysM hm_ex hm_fn K) : ∃ fd, FunD K "holds" "Months.holds" (defArgs s_Months_holds) (defBody s_Months_holds) (defScope s_Months_holds) [] [] (He.ma K (He.ga K "Months") "holds") fd := c.def_ 33 rfl
theorem hm_def_34 {K : PySem.W.Frag} (c : Hm.SaysM hm_ex hm_fn K) : ∃ fd, FunD K "__init__" "NthWeekday.__init__" (defArgs s_NthWeekday_init) (defBody s_NthWeekday_init) (defScope s_NthWeekday_init) [] [("from_end", .bl false)] (He.ma K (He.ga K "NthWeekday") "__init__") fd := c.def_ 34 rfl
theorem hm_def_35 {K : PySem.W.Frag} (c : Hm.SaysM hm_ex hm_fn K) : ∃ fd, FunD K "holds" "NthWeekday.holds" (defArgs s_NthWeekday_holds) (defBody s_NthWeekday_holds) (defScope s_NthWeekday_holds) [] [] (He.ma K (He.ga K "NthWeekday") "holds") fd := c.def_ 35 rfl
theorem hm_def_36 {K : PySem.W.Frag} (c : Hm.SaysM hm_ex hm_fn K) : ∃ fd, FunD K "__init__" "EveryDays.__init__" (defArgs s_EveryDays_init) (defBody s_EveryDays_init) (defScope s_EveryDays_init) [.int 0] [] (He.ma K (He.ga K "EveryDays") "__init__") fd := c.def_ 36 rfl
theorem hm_def_37 {K : PySem.W.Frag} (c : Hm.SaysM hm_ex hm_fn K) : ∃ fd, FunD K "holds" "EveryDays.holds" (defArgs s_EveryDays_holds) (defBody s_EveryDays_holds) (defScope s_EveryDays_holds) [] [] (He.ma K (He.ga K "EveryDays") "holds") fd := c.def_ 37 rfl
theorem hm_def_38 {K : PySem.W.Frag} (c : Hm.SaysM hm_ex hm_fn K) : ∃ fd, FunD K "__init__" "FromDay.__init__" (defArgs s_FromDay_init) (defBody s_FromDay_init) (defScope s_FromDay_init) [] [] (He.ma K (He.ga K "FromDay") "__init__") fd := c.def_ 38 rfl
theorem hm_def_39 {K : PySem.W.Frag} (c : Hm.SaysM hm_ex hm_fn K) : ∃ fd, FunD K "holds" "FromDay.holds" (defArgs s_FromDay_holds) (defBody s_FromDay_holds) (defScope s_FromDay_holds) [] [] (He.ma K (He.ga K "FromDay") "holds") fd := c.def_ 39 rfl
theorem hm_def_40 {K : PySem.W.Frag} (c : Hm.SaysM hm_ex hm_fn K) : ∃ fd, FunD K "__init__" "UntilDay.__init__" (defArgs s_UntilDay_init) (defBody s_UntilDay_init) (defScope s_UntilDay_init) [] [] (He.ma K (He.ga K "UntilDay") "__init__") fd := c.def_ 40 rfl
theorem hm_def_41 {K : PySem.W.Frag} (c : Hm.SaysM hm_ex hm_fn K) : ∃ fd, FunD K "holds" "UntilDay.holds" (defArgs s_UntilDay_holds) (defBody s_UntilDay_holds) (defScope s_UntilDay_holds) [] [] (He.ma K (He.ga K "UntilDay") "holds") fd := c.def_ 41 rfl
theorem hm_def_42 {K : PySem.W.Frag} (c : Hm.SaysM hm_ex hm_fn K) : ∃ fd, FunD K "__init__" "NotOn.__init__" (defArgs s_NotOn_init) (defBody s_NotOn_init) (defScope s_NotOn_init) [] [] (He.ma K (He.ga K "NotOn") "__init__") fd := c.def_ 42 rfl
theorem hm_def_43 {K : PySem.W.Frag} (c : Hm.SaysM hm_ex hm_fn K) : ∃ fd, FunD K "holds" "NotOn.holds" (defArgs s_NotOn_holds) (defBody s_NotOn_holds) (defScope s_NotOn_holds) [] [] (He.ma K (He.ga K "NotOn") "holds") fd := c.def_ 43 rfl
theorem hm_def_44 {K : PySem.W.Frag} (c : Hm.SaysM hm_ex hm_fn K) : ∃ fd, FunD K "__init__" "Rule.__init__" (defArgs s_Rule_init) (defBody s_Rule_init) (defScope s_Rule_init) [.ref (Hm.dfAt (fun K => (He.ma K (He.ga K "Rule") "__init__")) 0 K)] [] (He.ma K (He.ga K "Rule") "__init__") fd := c.def_ 44 rfl
theorem hm_def_45 {K : PySem.W.Frag} (c : Hm.SaysM hm_ex hm_fn K) : ∃ fd, FunD K "holds" "Rule.holds" (defArgs s_Rule_holds) (defBody s_Rule_holds) (defScope s_Rule_holds) [] [] (He.ma K (He.ga K "Rule") "holds") fd := c.def_ 45 rfl
theorem hm_def_46 {K : PySem.W.Frag} (c : Hm.SaysM hm_ex hm_fn K) : ∃ fd, FunD K "__init__" "Schedule.__init__" (defArgs s_Schedule_init) (defBody s_Schedule_init) (defScope s_Schedule_init) [] [] (He.ma K (He.ga K "Schedule") "__init__") fd := c.def_ 46 rfl
theorem hm_def_47 {K : PySem.W.Frag} (c : Hm.SaysM hm_ex hm_fn K) : ∃ fd, FunD K "holds" "Schedule.holds" (defArgs s_Schedule_holds) (defBody s_Schedule_holds) (defScope s_Schedule_holds) [] [] (He.ma K (He.ga K "Schedule") "holds") fd := c.def_ 47 rfl
theorem hm_def_48 {K : PySem.W.Frag} (c : Hm.SaysM hm_ex hm_fn K) : ∃ fd, FunD K "_law_start" "_law_start" (defArgs s__law_start) (defBody s__law_start) (defScope s__law_start) [] [] (He.ga K "_law_start") fd := c.def_ 48 rfl
theorem hm_def_49 {K : PySem.W.Frag} (c : Hm.SaysM hm_ex hm_fn K) : ∃ fd, FunD K "_law_draw" "_law_draw" (defArgs s__law_draw) (defBody s__law_draw) (defScope s__law_draw) [] [] (He.ga K "_law_draw") fd := c.def_ 49 rfl
theorem hm_def_50 {K : PySem.W.Frag} (c : Hm.SaysM hm_ex hm_fn K) : ∃ fd, FunD K "_law_far" "_law_far" (defArgs s__law_far) (defBody s__law_far) (defScope s__law_far) [] [] (He.ga K "_law_far") fd := c.def_ 50 rfl
theorem hm_def_51 {K : PySem.W.Frag} (c : Hm.SaysM hm_ex hm_fn K) : ∃ fd, FunD K "_law_days_of" "_law_days_of" (defArgs s__law_days_of) (defBody s__law_days_of) (defScope s__law_days_of) [] [] (He.ga K "_law_days_of") fd := c.def_ 51 rfl
theorem hm_def_52 {K : PySem.W.Frag} (c : Hm.SaysM hm_ex hm_fn K) : ∃ fd, FunD K "_law_drawn" "_law_drawn" (defArgs s__law_drawn) (defBody s__law_drawn) (defScope s__law_drawn) [] [] (He.ga K "_law_drawn") fd := c.def_ 52 rfl
theorem hm_def_53 {K : PySem.W.Frag} (c : Hm.SaysM hm_ex hm_fn K) : ∃ fd, FunD K "_law_parts" "_law_parts" (defArgs s__law_parts) (defBody s__law_parts) (defScope s__law_parts) [] [] (He.ga K "_law_parts") fd := c.def_ 53 rfl
theorem hm_def_54 {K : PySem.W.Frag} (c : Hm.SaysM hm_ex hm_fn K) : ∃ fd, FunD K "_law_condition" "_law_condition" (defArgs s__law_condition) (defBody s__law_condition) (defScope s__law_condition) [] [] (He.ga K "_law_condition") fd := c.def_ 54 rfl
theorem hm_def_55 {K : PySem.W.Frag} (c : Hm.SaysM hm_ex hm_fn K) : ∃ fd, FunD K "_law_object" "_law_object" (defArgs s__law_object) (defBody s__law_object) (defScope s__law_object) [] [] (He.ga K "_law_object") fd := c.def_ 55 rfl
theorem hm_def_56 {K : PySem.W.Frag} (c : Hm.SaysM hm_ex hm_fn K) : ∃ fd, FunD K "_law_chosen" "_law_chosen" (defArgs s__law_chosen) (defBody s__law_chosen) (defScope s__law_chosen) [] [] (He.ga K "_law_chosen") fd := c.def_ 56 rfl
theorem hm_def_57 {K : PySem.W.Frag} (c : Hm.SaysM hm_ex hm_fn K) : ∃ fd, FunD K "_law_on" "_law_on" (defArgs s__law_on) (defBody s__law_on) (defScope s__law_on) [] [] (He.ga K "_law_on") fd := c.def_ 57 rfl
theorem hm_def_58 {K : PySem.W.Frag} (c : Hm.SaysM hm_ex hm_fn K) : ∃ fd, FunD K "_law_bar" "_law_bar" (defArgs s__law_bar) (defBody s__law_bar) (defScope s__law_bar) [] [] (He.ga K "_law_bar") fd := c.def_ 58 rfl
theorem hm_def_59 {K : PySem.W.Frag} (c : Hm.SaysM hm_ex hm_fn K) : ∃ fd, FunD K "_law_int" "_law_int" (defArgs s__law_int) (defBody s__law_int) (defScope s__law_int) [] [] (He.ga K "_law_int") fd := c.def_ 59 rfl
theorem hm_def_60 {K : PySem.W.Frag} (c : Hm.SaysM hm_ex hm_fn K) : ∃ fd, FunD K "_law_row" "_law_row" (defArgs s__law_row) (defBody s__law_row) (defScope s__law_row) [] [] (He.ga K "_law_row") fd := c.def_ 60 rfl
theorem hm_def_61 {K : PySem.W.Frag} (c : Hm.SaysM hm_ex hm_fn K) : ∃ fd, FunD K "_law_why" "_law_why" (defArgs s__law_why) (defBody s__law_why) (defScope s__law_why) [] [] (He.ga K "_law_why") fd := c.def_ 61 rfl
theorem hm_def_62 {K : PySem.W.Frag} (c : Hm.SaysM hm_ex hm_fn K) : ∃ fd, FunD K "_law_call" "_law_call" (defArgs s__law_call) (defBody s__law_call) (defScope s__law_call) [] [] (He.ga K "_law_call") fd := c.def_ 62 rfl
theorem hm_def_63 {K : PySem.W.Frag} (c : Hm.SaysM hm_ex hm_fn K) : ∃ fd, FunD K "_law_asked" "_law_asked" (defArgs s__law_asked) (defBody s__law_asked) (defScope s__law_asked) [] [] (He.ga K "_law_asked") fd := c.def_ 63 rfl
theorem hm_def_64 {K : PySem.W.Frag} (c : Hm.SaysM hm_ex hm_fn K) : ∃ fd, FunD K "_law_size" "_law_size" (defArgs s__law_size) (defBody s__law_size) (defScope s__law_size) [] [] (He.ga K "_law_size") fd := c.def_ 64 rfl
theorem hm_def_65 {K : PySem.W.Frag} (c : Hm.SaysM hm_ex hm_fn K) : ∃ fd, FunD K "_law_wide" "_law_wide" (defArgs s__law_wide) (defBody s__law_wide) (defScope s__law_wide) [] [] (He.ga K "_law_wide") fd := c.def_ 65 rfl
theorem hm_def_66 {K : PySem.W.Frag} (c : Hm.SaysM hm_ex hm_fn K) : ∃ fd, FunD K "_law_choice" "_law_choice" (defArgs s__law_choice) (defBody s__law_choice) (defScope s__law_choice) [] [] (He.ga K "_law_choice") fd := c.def_ 66 rfl
theorem hm_def_67 {K : PySem.W.Frag} (c : Hm.SaysM hm_ex hm_fn K) : ∃ fd, FunD K "_law_integers" "_law_integers" (defArgs s__law_integers) (defBody s__law_integers) (defScope s__law_integers) [] [] (He.ga K "_law_integers") fd := c.def_ 67 rfl
theorem hm_def_68 {K : PySem.W.Frag} (c : Hm.SaysM hm_ex hm_fn K) : ∃ fd, FunD K "_law_wrong" "_law_wrong" (defArgs s__law_wrong) (defBody s__law_wrong) (defScope s__law_wrong) [] [] (He.ga K "_law_wrong") fd := c.def_ 68 rfl
theorem hm_def_69 {K : PySem.W.Frag} (c : Hm.SaysM hm_ex hm_fn K) : ∃ fd, FunD K "law" "law" (defArgs s_law) (defBody s_law) (defScope s_law) [] [] (He.ga K "law") fd := c.def_ 69 rfl
set_option maxHeartbeats 0 in
theorem all_mk {K : PySem.W.Frag} {h : Heap} {mg : Str → Option Value} (X : K.In h) (G : h.Ns mainGlobals mg) (c : Hm.SaysM hm_ex hm_fn K)
    : ∃ a : Ad, mg "law" = some (.ref a.f_law) ∧ (∀ (s : Shared) (u : Value), BindsTo s a.d_law ⟨[u], []⟩ [("script", u)]) ∧ Tx K mg a := by
  obtain ⟨d_OutOfRange_init, F_OutOfRange_init⟩ := hm_def_0 c
  obtain ⟨d_TooMany_init, F_TooMany_init⟩ := hm_def_1 c
  obtain ⟨d_BadCalendar_init, F_BadCalendar_init⟩ := hm_def_2 c
  obtain ⟨d_BadChoice_init, F_BadChoice_init⟩ := hm_def_3 c
  obtain ⟨d_BadDays_init, F_BadDays_init⟩ := hm_def_4 c
  obtain ⟨d_in_range, F_in_range⟩ := hm_def_5 c
  obtain ⟨d_first_bar, F_first_bar⟩ := hm_def_6 c
  obtain ⟨d_why_due, F_why_due⟩ := hm_def_7 c
  obtain ⟨d_why_not, F_why_not⟩ := hm_def_8 c
  obtain ⟨d_right_months, F_right_months⟩ := hm_def_9 c
  obtain ⟨d_right_leaps, F_right_leaps⟩ := hm_def_10 c
  obtain ⟨d_is_long_year, F_is_long_year⟩ := hm_def_11 c
  obtain ⟨d_long_years, F_long_years⟩ := hm_def_12 c
  obtain ⟨d_days_ahead, F_days_ahead⟩ := hm_def_13 c
  obtain ⟨d_days_in_month, F_days_in_month⟩ := hm_def_14 c
  obtain ⟨d_year_of_day, F_year_of_day⟩ := hm_def_15 c
  obtain ⟨d_Calendar_init, F_Calendar_init⟩ := hm_def_16 c
  obtain ⟨d_Calendar_month_length, F_Calendar_month_length⟩ := hm_def_17 c
  obtain ⟨d_Calendar_date_of, F_Calendar_date_of⟩ := hm_def_18 c
  obtain ⟨d_Calendar_weekday_of, F_Calendar_weekday_of⟩ := hm_def_19 c
  obtain ⟨d_right_part, F_right_part⟩ := hm_def_20 c
  obtain ⟨d_part_text, F_part_text⟩ := hm_def_21 c
  obtain ⟨d_first_member, F_first_member⟩ := hm_def_22 c
  obtain ⟨d_Choice_init, F_Choice_init⟩ := hm_def_23 c
  obtain ⟨d_Choice_holds, F_Choice_holds⟩ := hm_def_24 c
  obtain ⟨d_Choice_numbers, F_Choice_numbers⟩ := hm_def_25 c
  obtain ⟨d_last_word, F_last_word⟩ := hm_def_26 c
  obtain ⟨d_bad_day, F_bad_day⟩ := hm_def_27 c
  obtain ⟨d_MonthDays_init, F_MonthDays_init⟩ := hm_def_28 c
  obtain ⟨d_MonthDays_holds, F_MonthDays_holds⟩ := hm_def_29 c
  obtain ⟨d_Weekdays_init, F_Weekdays_init⟩ := hm_def_30 c
  obtain ⟨d_Weekdays_holds, F_Weekdays_holds⟩ := hm_def_31 c
  obtain ⟨d_Months_init, F_Months_init⟩ := hm_def_32 c
  obtain ⟨d_Months_holds, F_Months_holds⟩ := hm_def_33 c
  obtain ⟨d_NthWeekday_init, F_NthWeekday_init⟩ := hm_def_34 c
  obtain ⟨d_NthWeekday_holds, F_NthWeekday_holds⟩ := hm_def_35 c
  obtain ⟨d_EveryDays_init, F_EveryDays_init⟩ := hm_def_36 c
  obtain ⟨d_EveryDays_holds, F_EveryDays_holds⟩ := hm_def_37 c
  obtain ⟨d_FromDay_init, F_FromDay_init⟩ := hm_def_38 c
  obtain ⟨d_FromDay_holds, F_FromDay_holds⟩ := hm_def_39 c
  obtain ⟨d_UntilDay_init, F_UntilDay_init⟩ := hm_def_40 c
  obtain ⟨d_UntilDay_holds, F_UntilDay_holds⟩ := hm_def_41 c
  obtain ⟨d_NotOn_init, F_NotOn_init⟩ := hm_def_42 c
  obtain ⟨d_NotOn_holds, F_NotOn_holds⟩ := hm_def_43 c
  obtain ⟨d_Rule_init, F_Rule_init⟩ := hm_def_44 c
  obtain ⟨d_Rule_holds, F_Rule_holds⟩ := hm_def_45 c
  obtain ⟨d_Schedule_init, F_Schedule_init⟩ := hm_def_46 c
  obtain ⟨d_Schedule_holds, F_Schedule_holds⟩ := hm_def_47 c
  obtain ⟨d__law_start, F__law_start⟩ := hm_def_48 c
  obtain ⟨d__law_draw, F__law_draw⟩ := hm_def_49 c
  obtain ⟨d__law_far, F__law_far⟩ := hm_def_50 c
  obtain ⟨d__law_days_of, F__law_days_of⟩ := hm_def_51 c
  obtain ⟨d__law_drawn, F__law_drawn⟩ := hm_def_52 c
  obtain ⟨d__law_parts, F__law_parts⟩ := hm_def_53 c
  obtain ⟨d__law_condition, F__law_condition⟩ := hm_def_54 c
  obtain ⟨d__law_object, F__law_object⟩ := hm_def_55 c
  obtain ⟨d__law_chosen, F__law_chosen⟩ := hm_def_56 c
  obtain ⟨d__law_on, F__law_on⟩ := hm_def_57 c
  obtain ⟨d__law_bar, F__law_bar⟩ := hm_def_58 c
  obtain ⟨d__law_int, F__law_int⟩ := hm_def_59 c
  obtain ⟨d__law_row, F__law_row⟩ := hm_def_60 c
  obtain ⟨d__law_why, F__law_why⟩ := hm_def_61 c
  obtain ⟨d__law_call, F__law_call⟩ := hm_def_62 c
  obtain ⟨d__law_asked, F__law_asked⟩ := hm_def_63 c
  obtain ⟨d__law_size, F__law_size⟩ := hm_def_64 c
  obtain ⟨d__law_wide, F__law_wide⟩ := hm_def_65 c
  obtain ⟨d__law_choice, F__law_choice⟩ := hm_def_66 c
  obtain ⟨d__law_integers, F__law_integers⟩ := hm_def_67 c
  obtain ⟨d__law_wrong, F__law_wrong⟩ := hm_def_68 c
  obtain ⟨d_law, F_law⟩ := hm_def_69 c
  obtain ⟨q0, q1, q2, q3, q4, q5, q6, q7, q8, q9, q10, q11, q12, q13, q14, q15⟩ := hm_ok_0 (c.fact 0 rfl)
  obtain ⟨q16, q17, q18, q19, q20, q21, q22, q23, q24, q25, q26, q27, q28, q29, q30, q31⟩ := hm_ok_1 (c.fact 1 rfl)
  obtain ⟨q32, q33, q34, q35, q36, q37, q38, q39, q40, q41, q42, q43, q44, q45, q46, q47⟩ := hm_ok_2 (c.fact 2 rfl)
  obtain ⟨q48, q49, q50, q51, q52, q53, q54, q55, q56, q57, q58, q59, q60, q61, q62, q63⟩ := hm_ok_3 (c.fact 3 rfl)
  obtain ⟨q64, q65, q66, q67, q68, q69, q70, q71, q72, q73, q74, q75, q76, q77, q78, q79⟩ := hm_ok_4 (c.fact 4 rfl)
  obtain ⟨q80, q81, q82, q83, q84, q85, q86, q87, q88, q89, q90, q91, q92, q93, q94, q95⟩ := hm_ok_5 (c.fact 5 rfl)
  obtain ⟨q96, q97, q98, q99, q100, q101, q102, q103, q104, q105, q106, q107, q108, q109, q110, q111⟩ := hm_ok_6 (c.fact 6 rfl)
  obtain ⟨q112, q113, q114, q115, q116, q117, q118, q119, q120, q121, q122, q123, q124, q125, q126, q127⟩ := hm_ok_7 (c.fact 7 rfl)
  obtain ⟨q128, q129, q130, q131, q132, q133, q134, q135, q136, q137, q138, q139, q140, q141, q142, q143⟩ := hm_ok_8 (c.fact 8 rfl)
  obtain ⟨q144, q145, q146, q147, q148, q149, q150, q151, q152, q153, q154, q155, q156, q157, q158, q159⟩ := hm_ok_9 (c.fact 9 rfl)
  obtain ⟨q160, q161, q162, q163, q164, q165, q166, q167, q168, q169, q170, q171, q172, q173, q174, q175⟩ := hm_ok_10 (c.fact 10 rfl)
  obtain ⟨q176, q177, q178, q179, q180, q181, q182, q183, q184, q185, q186, q187, q188, q189, q190, q191⟩ := hm_ok_11 (c.fact 11 rfl)
  obtain ⟨q192, q193, q194, q195, q196, q197, q198, q199, q200, q201, q202, q203, q204, q205, q206, q207⟩ := hm_ok_12 (c.fact 12 rfl)
  obtain ⟨q208, q209, q210, q211, q212, q213, q214, q215, q216, q217, q218, q219, q220, q221, q222, q223⟩ := hm_ok_13 (c.fact 13 rfl)
  obtain ⟨q224, q225, q226, q227, q228, q229, q230, q231, q232, q233, q234, q235, q236, q237, q238, q239⟩ := hm_ok_14 (c.fact 14 rfl)
  obtain ⟨q240, q241, q242, q243, q244, q245, q246, q247, q248, q249, q250, q251, q252, q253, q254, q255⟩ := hm_ok_15 (c.fact 15 rfl)
  obtain ⟨q256, q257, q258, q259, q260, q261, q262, q263, q264, q265, q266, q267, q268, q269, q270, q271⟩ := hm_ok_16 (c.fact 16 rfl)
  obtain ⟨q272, q273, q274, q275, q276, q277, q278, q279, q280, q281, q282, q283, q284, q285, q286, q287⟩ := hm_ok_17 (c.fact 17 rfl)
  obtain ⟨q288, q289, q290, q291, q292, q293, q294, q295, q296, q297, q298, q299, q300, q301, q302, q303⟩ := hm_ok_18 (c.fact 18 rfl)
  obtain ⟨q304, q305, q306, q307, q308, q309, q310, q311, q312, q313, q314, q315, q316, q317, q318, q319⟩ := hm_ok_19 (c.fact 19 rfl)
  obtain ⟨q320, q321, q322, q323, q324, q325, q326, q327, q328, q329, q330, q331, q332, q333, q334, q335⟩ := hm_ok_20 (c.fact 20 rfl)
  obtain ⟨q336, q337, q338, q339, q340, q341, q342, q343, q344, q345, q346, q347, q348, q349, q350, q351⟩ := hm_ok_21 (c.fact 21 rfl)
  obtain ⟨q352, q353, q354, q355, q356, q357, q358, q359, q360, q361, q362, q363, q364, q365, q366, q367⟩ := hm_ok_22 (c.fact 22 rfl)
  obtain ⟨q368, q369, q370, q371, q372⟩ := hm_ok_23 (c.fact 23 rfl)
  refine ⟨{ c_DueError := (He.ga K "DueError"), c_OutOfRange := (He.ga K "OutOfRange"), c_TooMany := (He.ga K "TooMany"), c_BadCalendar := (He.ga K "BadCalendar"), c_BadChoice := (He.ga K "BadChoice"), c_BadDays := (He.ga K "BadDays"), c_Calendar := (He.ga K "Calendar"), c_Choice := (He.ga K "Choice"), c_Condition := (He.ga K "Condition"), c_MonthDays := (He.ga K "MonthDays"), c_Weekdays := (He.ga K "Weekdays"), c_Months := (He.ga K "Months"), c_NthWeekday := (He.ga K "NthWeekday"), c_EveryDays := (He.ga K "EveryDays"), c_FromDay := (He.ga K "FromDay"), c_UntilDay := (He.ga K "UntilDay"), c_NotOn := (He.ga K "NotOn"), c_Rule := (He.ga K "Rule"), c_Schedule := (He.ga K "Schedule"), f_OutOfRange_init := (He.ma K (He.ga K "OutOfRange") "__init__"), f_TooMany_init := (He.ma K (He.ga K "TooMany") "__init__"), f_BadCalendar_init := (He.ma K (He.ga K "BadCalendar") "__init__"), f_BadChoice_init := (He.ma K (He.ga K "BadChoice") "__init__"), f_BadDays_init := (He.ma K (He.ga K "BadDays") "__init__"), f_in_range := (He.ga K "in_range"), f_first_bar := (He.ga K "first_bar"), f_why_due := (He.ga K "why_due"), f_why_not := (He.ga K "why_not"), f_right_months := (He.ga K "right_months"), f_right_leaps := (He.ga K "right_leaps"), f_is_long_year := (He.ga K "is_long_year"), f_long_years := (He.ga K "long_years"), f_days_ahead := (He.ga K "days_ahead"), f_days_in_month := (He.ga K "days_in_month"), f_year_of_day := (He.ga K "year_of_day"), f_Calendar_init := (He.ma K (He.ga K "Calendar") "__init__"), f_Calendar_month_length := (He.ma K (He.ga K "Calendar") "month_length"), f_Calendar_date_of := (He.ma K (He.ga K "Calendar") "date_of"), f_Calendar_weekday_of := (He.ma K (He.ga K "Calendar") "weekday_of"), f_right_part := (He.ga K "right_part"), f_part_text := (He.ga K "part_text"), f_first_member := (He.ga K "first_member"), f_Choice_init := (He.ma K (He.ga K "Choice") "__init__"), f_Choice_holds := (He.ma K (He.ga K "Choice") "holds"), f_Choice_numbers := (He.ma K (He.ga K "Choice") "numbers"), f_last_word := (He.ga K "last_word"), f_bad_day := (He.ga K "bad_day"), f_MonthDays_init := (He.ma K (He.ga K "MonthDays") "__init__"), f_MonthDays_holds := (He.ma K (He.ga K "MonthDays") "holds"), f_Weekdays_init := (He.ma K (He.ga K "Weekdays") "__init__"), f_Weekdays_holds := (He.ma K (He.ga K "Weekdays") "holds"), f_Months_init := (He.ma K (He.ga K "Months") "__init__"), f_Months_holds := (He.ma K (He.ga K "Months") "holds"), f_NthWeekday_init := (He.ma K (He.ga K "NthWeekday") "__init__"), f_NthWeekday_holds := (He.ma K (He.ga K "NthWeekday") "holds"), f_EveryDays_init := (He.ma K (He.ga K "EveryDays") "__init__"), f_EveryDays_holds := (He.ma K (He.ga K "EveryDays") "holds"), f_FromDay_init := (He.ma K (He.ga K "FromDay") "__init__"), f_FromDay_holds := (He.ma K (He.ga K "FromDay") "holds"), f_UntilDay_init := (He.ma K (He.ga K "UntilDay") "__init__"), f_UntilDay_holds := (He.ma K (He.ga K "UntilDay") "holds"), f_NotOn_init := (He.ma K (He.ga K "NotOn") "__init__"), f_NotOn_holds := (He.ma K (He.ga K "NotOn") "holds"), f_Rule_init := (He.ma K (He.ga K "Rule") "__init__"), f_Rule_holds := (He.ma K (He.ga K "Rule") "holds"), f_Schedule_init := (He.ma K (He.ga K "Schedule") "__init__"), f_Schedule_holds := (He.ma K (He.ga K "Schedule") "holds"), f__law_start := (He.ga K "_law_start"), f__law_draw := (He.ga K "_law_draw"), f__law_far := (He.ga K "_law_far"), f__law_days_of := (He.ga K "_law_days_of"), f__law_drawn := (He.ga K "_law_drawn"), f__law_parts := (He.ga K "_law_parts"), f__law_condition := (He.ga K "_law_condition"), f__law_object := (He.ga K "_law_object"), f__law_chosen := (He.ga K "_law_chosen"), f__law_on := (He.ga K "_law_on"), f__law_bar := (He.ga K "_law_bar"), f__law_int := (He.ga K "_law_int"), f__law_row := (He.ga K "_law_row"), f__law_why := (He.ga K "_law_why"), f__law_call := (He.ga K "_law_call"), f__law_asked := (He.ga K "_law_asked"), f__law_size := (He.ga K "_law_size"), f__law_wide := (He.ga K "_law_wide"), f__law_choice := (He.ga K "_law_choice"), f__law_integers := (He.ga K "_law_integers"), f__law_wrong := (He.ga K "_law_wrong"), f_law := (He.ga K "law"), e_Calendar_init_leaps := (Hm.kwAt (fun K => (He.ma K (He.ga K "Calendar") "__init__")) "leaps" K), e_Choice_init_parts := (Hm.dfAt (fun K => (He.ma K (He.ga K "Choice") "__init__")) 0 K), e_Rule_init_conditions := (Hm.dfAt (fun K => (He.ma K (He.ga K "Rule") "__init__")) 0 K), d_OutOfRange_init := d_OutOfRange_init, d_TooMany_init := d_TooMany_init, d_BadCalendar_init := d_BadCalendar_init, d_BadChoice_init := d_BadChoice_init, d_BadDays_init := d_BadDays_init, d_in_range := d_in_range, d_first_bar := d_first_bar, d_why_due := d_why_due, d_why_not := d_why_not, d_right_months := d_right_months, d_right_leaps := d_right_leaps, d_is_long_year := d_is_long_year, d_long_years := d_long_years, d_days_ahead := d_days_ahead, d_days_in_month := d_days_in_month, d_year_of_day := d_year_of_day, d_Calendar_init := d_Calendar_init, d_Calendar_month_length := d_Calendar_month_length, d_Calendar_date_of := d_Calendar_date_of, d_Calendar_weekday_of := d_Calendar_weekday_of, d_right_part := d_right_part, d_part_text := d_part_text, d_first_member := d_first_member, d_Choice_init := d_Choice_init, d_Choice_holds := d_Choice_holds, d_Choice_numbers := d_Choice_numbers, d_last_word := d_last_word, d_bad_day := d_bad_day, d_MonthDays_init := d_MonthDays_init, d_MonthDays_holds := d_MonthDays_holds, d_Weekdays_init := d_Weekdays_init, d_Weekdays_holds := d_Weekdays_holds, d_Months_init := d_Months_init, d_Months_holds := d_Months_holds, d_NthWeekday_init := d_NthWeekday_init, d_NthWeekday_holds := d_NthWeekday_holds, d_EveryDays_init := d_EveryDays_init, d_EveryDays_holds := d_EveryDays_holds, d_FromDay_init := d_FromDay_init, d_FromDay_holds := d_FromDay_holds, d_UntilDay_init := d_UntilDay_init, d_UntilDay_holds := d_UntilDay_holds, d_NotOn_init := d_NotOn_init, d_NotOn_holds := d_NotOn_holds, d_Rule_init := d_Rule_init, d_Rule_holds := d_Rule_holds, d_Schedule_init := d_Schedule_init, d_Schedule_holds := d_Schedule_holds, d__law_start := d__law_start, d__law_draw := d__law_draw, d__law_far := d__law_far, d__law_days_of := d__law_days_of, d__law_drawn := d__law_drawn, d__law_parts := d__law_parts, d__law_condition := d__law_condition, d__law_object := d__law_object, d__law_chosen := d__law_chosen, d__law_on := d__law_on, d__law_bar := d__law_bar, d__law_int := d__law_int, d__law_row := d__law_row, d__law_why := d__law_why, d__law_call := d__law_call, d__law_asked := d__law_asked, d__law_size := d__law_size, d__law_wide := d__law_wide, d__law_choice := d__law_choice, d__law_integers := d__law_integers, d__law_wrong := d__law_wrong, d_law := d_law : Ad }, PySem.W.mg_of X G q347, fun s u => (FunD.bindsA (ps := ["script"]) F_law fun _ _ _ _ _ _ us hl => match us, hl with | [_], _ => rfl) s [u] rfl, ?_⟩
  exact {
    g_DueError := PySem.W.mg_of X G q0
    ox_DueError := ⟨Hm.oexB_ok q1, q2, q5, q6, q7⟩
    xc_DueError := ⟨q3, q4, q5, q8, q9, q11, q12, q10⟩
    xf_DueError := ⟨q3, q4, q5, q8⟩
    g_OutOfRange := PySem.W.mg_of X G q13
    ox_OutOfRange := ⟨Hm.oexB_ok q14, q15, q18, q19, q20⟩
    xc_OutOfRange := ⟨q16, q17, q18, q21, q22, q11, q12, q23⟩
    xf_OutOfRange := ⟨q16, q17, q18, q21⟩
    no_OutOfRange_what := q24
    no_OutOfRange_value := q25
    i_OutOfRange := q26
    t_OutOfRange := q27
    g_TooMany := PySem.W.mg_of X G q28
    ox_TooMany := ⟨Hm.oexB_ok q29, q30, q33, q34, q35⟩
    xc_TooMany := ⟨q31, q32, q33, q36, q37, q11, q12, q38⟩
    xf_TooMany := ⟨q31, q32, q33, q36⟩
    no_TooMany_what := q39
    no_TooMany_many := q40
    i_TooMany := q41
    t_TooMany := q42
    g_BadCalendar := PySem.W.mg_of X G q43
    ox_BadCalendar := ⟨Hm.oexB_ok q44, q45, q48, q49, q50⟩
    xc_BadCalendar := ⟨q46, q47, q48, q51, q52, q11, q12, q53⟩
    xf_BadCalendar := ⟨q46, q47, q48, q51⟩
    no_BadCalendar_part := q54
    i_BadCalendar := q55
    t_BadCalendar := q56
    g_BadChoice := PySem.W.mg_of X G q57
    ox_BadChoice := ⟨Hm.oexB_ok q58, q59, q62, q63, q64⟩
    xc_BadChoice := ⟨q60, q61, q62, q65, q66, q11, q12, q67⟩
    xf_BadChoice := ⟨q60, q61, q62, q65⟩
    no_BadChoice_at := q68
    i_BadChoice := q69
    t_BadChoice := q70
    g_BadDays := PySem.W.mg_of X G q71
    ox_BadDays := ⟨Hm.oexB_ok q72, q73, q76, q77, q78⟩
    xc_BadDays := ⟨q74, q75, q76, q79, q80, q11, q12, q81⟩
    xf_BadDays := ⟨q74, q75, q76, q79⟩
    no_BadDays_at := q82
    i_BadDays := q83
    t_BadDays := q84
    g_Calendar := PySem.W.mg_of X G q85
    cl_Calendar := ⟨q86, q87, q88, q89⟩
    no_Calendar_day := q91
    no_Calendar_week := q92
    no_Calendar_months := q93
    no_Calendar_leap_month := q94
    no_Calendar_leaps := q95
    no_Calendar_first := q96
    no_Calendar_hour := q97
    no_Calendar_years_round := q98
    no_Calendar_days_round := q99
    M_Calendar := ⟨q100, q101, q102, q90⟩
    m_Calendar_month_length := ⟨q103, q104, F_Calendar_month_length.kp⟩
    m_Calendar_date_of := ⟨q105, q106, F_Calendar_date_of.kp⟩
    m_Calendar_weekday_of := ⟨q107, q108, F_Calendar_weekday_of.kp⟩
    g_Choice := PySem.W.mg_of X G q109
    cl_Choice := ⟨q110, q111, q112, q113⟩
    no_Choice_parts := q115
    no_Choice_text := q116
    M_Choice := ⟨q117, q118, q119, q114⟩
    m_Choice_holds := ⟨q120, q121, F_Choice_holds.kp⟩
    m_Choice_numbers := ⟨q122, q123, F_Choice_numbers.kp⟩
    g_Condition := PySem.W.mg_of X G q124
    cl_Condition := ⟨q125, q126, q127, q128⟩
    g_MonthDays := PySem.W.mg_of X G q130
    cl_MonthDays := ⟨q131, q132, q133, q134⟩
    no_MonthDays_choice := q136
    no_MonthDays_from_end := q137
    no_MonthDays_text := q138
    M_MonthDays := ⟨q139, q140, q141, q135⟩
    m_MonthDays_holds := ⟨q142, q143, F_MonthDays_holds.kp⟩
    g_Weekdays := PySem.W.mg_of X G q144
    cl_Weekdays := ⟨q145, q146, q147, q148⟩
    no_Weekdays_choice := q150
    no_Weekdays_text := q151
    M_Weekdays := ⟨q152, q153, q154, q149⟩
    m_Weekdays_holds := ⟨q155, q156, F_Weekdays_holds.kp⟩
    g_Months := PySem.W.mg_of X G q157
    cl_Months := ⟨q158, q159, q160, q161⟩
    no_Months_choice := q163
    no_Months_text := q164
    M_Months := ⟨q165, q166, q167, q162⟩
    m_Months_holds := ⟨q168, q169, F_Months_holds.kp⟩
    g_NthWeekday := PySem.W.mg_of X G q170
    cl_NthWeekday := ⟨q171, q172, q173, q174⟩
    no_NthWeekday_nth := q176
    no_NthWeekday_weekday := q177
    no_NthWeekday_from_end := q178
    no_NthWeekday_text := q179
    M_NthWeekday := ⟨q180, q181, q182, q175⟩
    m_NthWeekday_holds := ⟨q183, q184, F_NthWeekday_holds.kp⟩
    g_EveryDays := PySem.W.mg_of X G q185
    cl_EveryDays := ⟨q186, q187, q188, q189⟩
    no_EveryDays_step := q191
    no_EveryDays_first := q192
    no_EveryDays_text := q193
    M_EveryDays := ⟨q194, q195, q196, q190⟩
    m_EveryDays_holds := ⟨q197, q198, F_EveryDays_holds.kp⟩
    g_FromDay := PySem.W.mg_of X G q199
    cl_FromDay := ⟨q200, q201, q202, q203⟩
    no_FromDay_day := q205
    no_FromDay_text := q206
    M_FromDay := ⟨q207, q208, q209, q204⟩
    m_FromDay_holds := ⟨q210, q211, F_FromDay_holds.kp⟩
    g_UntilDay := PySem.W.mg_of X G q212
    cl_UntilDay := ⟨q213, q214, q215, q216⟩
    no_UntilDay_day := q218
    no_UntilDay_text := q219
    M_UntilDay := ⟨q220, q221, q222, q217⟩
    m_UntilDay_holds := ⟨q223, q224, F_UntilDay_holds.kp⟩
    g_NotOn := PySem.W.mg_of X G q225
    cl_NotOn := ⟨q226, q227, q228, q229⟩
    no_NotOn_days := q231
    no_NotOn_text := q232
    M_NotOn := ⟨q233, q234, q235, q230⟩
    m_NotOn_holds := ⟨q236, q237, F_NotOn_holds.kp⟩
    g_Rule := PySem.W.mg_of X G q238
    cl_Rule := ⟨q239, q240, q241, q242⟩
    no_Rule_minutes := q244
    no_Rule_conditions := q245
    no_Rule_text := q246
    M_Rule := ⟨q247, q248, q249, q243⟩
    m_Rule_holds := ⟨q250, q251, F_Rule_holds.kp⟩
    g_Schedule := PySem.W.mg_of X G q252
    cl_Schedule := ⟨q253, q254, q255, q256⟩
    no_Schedule_rules := q258
    no_Schedule_text := q259
    M_Schedule := ⟨q260, q261, q262, q257⟩
    m_Schedule_holds := ⟨q263, q264, F_Schedule_holds.kp⟩
    sub_DueError_DueError := q265
    kit_DueError_DueError := PySem.W.xr_kit q8 q6 q265 q265
    exm_DueError_DueError := PySem.W.exm_ref q5 q8 q6 q265
    sub_DueError_OutOfRange := q266
    kit_DueError_OutOfRange := PySem.W.xr_kit q21 q19 q266 q267
    exm_DueError_OutOfRange := PySem.W.exm_ref q18 q21 q19 q266
    sub_DueError_TooMany := q268
    kit_DueError_TooMany := PySem.W.xr_kit q36 q34 q268 q269
    exm_DueError_TooMany := PySem.W.exm_ref q33 q36 q34 q268
    sub_DueError_BadCalendar := q270
    kit_DueError_BadCalendar := PySem.W.xr_kit q51 q49 q270 q271
    exm_DueError_BadCalendar := PySem.W.exm_ref q48 q51 q49 q270
    sub_DueError_BadChoice := q272
    kit_DueError_BadChoice := PySem.W.xr_kit q65 q63 q272 q273
    exm_DueError_BadChoice := PySem.W.exm_ref q62 q65 q63 q272
    sub_DueError_BadDays := q274
    kit_DueError_BadDays := PySem.W.xr_kit q79 q77 q274 q275
    exm_DueError_BadDays := PySem.W.exm_ref q76 q79 q77 q274
    kitV_DueError := PySem.W.xr_kitV (by decide +kernel) q276
    sub_OutOfRange_DueError := q277
    kit_OutOfRange_DueError := PySem.W.xr_kit q8 q6 q277 q265
    exm_OutOfRange_DueError := PySem.W.exm_ref q5 q8 q6 q277
    sub_OutOfRange_OutOfRange := q267
    kit_OutOfRange_OutOfRange := PySem.W.xr_kit q21 q19 q267 q267
    exm_OutOfRange_OutOfRange := PySem.W.exm_ref q18 q21 q19 q267
    sub_OutOfRange_TooMany := q278
    kit_OutOfRange_TooMany := PySem.W.xr_kit q36 q34 q278 q269
    exm_OutOfRange_TooMany := PySem.W.exm_ref q33 q36 q34 q278
    sub_OutOfRange_BadCalendar := q279
    kit_OutOfRange_BadCalendar := PySem.W.xr_kit q51 q49 q279 q271
    exm_OutOfRange_BadCalendar := PySem.W.exm_ref q48 q51 q49 q279
    sub_OutOfRange_BadChoice := q280
    kit_OutOfRange_BadChoice := PySem.W.xr_kit q65 q63 q280 q273
    exm_OutOfRange_BadChoice := PySem.W.exm_ref q62 q65 q63 q280
    sub_OutOfRange_BadDays := q281
    kit_OutOfRange_BadDays := PySem.W.xr_kit q79 q77 q281 q275
    exm_OutOfRange_BadDays := PySem.W.exm_ref q76 q79 q77 q281
    kitV_OutOfRange := PySem.W.xr_kitV (by decide +kernel) q282
    sub_TooMany_DueError := q283
    kit_TooMany_DueError := PySem.W.xr_kit q8 q6 q283 q265
    exm_TooMany_DueError := PySem.W.exm_ref q5 q8 q6 q283
    sub_TooMany_OutOfRange := q284
    kit_TooMany_OutOfRange := PySem.W.xr_kit q21 q19 q284 q267
    exm_TooMany_OutOfRange := PySem.W.exm_ref q18 q21 q19 q284
    sub_TooMany_TooMany := q269
    kit_TooMany_TooMany := PySem.W.xr_kit q36 q34 q269 q269
    exm_TooMany_TooMany := PySem.W.exm_ref q33 q36 q34 q269
    sub_TooMany_BadCalendar := q285
    kit_TooMany_BadCalendar := PySem.W.xr_kit q51 q49 q285 q271
    exm_TooMany_BadCalendar := PySem.W.exm_ref q48 q51 q49 q285
    sub_TooMany_BadChoice := q286
    kit_TooMany_BadChoice := PySem.W.xr_kit q65 q63 q286 q273
    exm_TooMany_BadChoice := PySem.W.exm_ref q62 q65 q63 q286
    sub_TooMany_BadDays := q287
    kit_TooMany_BadDays := PySem.W.xr_kit q79 q77 q287 q275
    exm_TooMany_BadDays := PySem.W.exm_ref q76 q79 q77 q287
    kitV_TooMany := PySem.W.xr_kitV (by decide +kernel) q288
    sub_BadCalendar_DueError := q289
    kit_BadCalendar_DueError := PySem.W.xr_kit q8 q6 q289 q265
    exm_BadCalendar_DueError := PySem.W.exm_ref q5 q8 q6 q289
    sub_BadCalendar_OutOfRange := q290
    kit_BadCalendar_OutOfRange := PySem.W.xr_kit q21 q19 q290 q267
    exm_BadCalendar_OutOfRange := PySem.W.exm_ref q18 q21 q19 q290
    sub_BadCalendar_TooMany := q291
    kit_BadCalendar_TooMany := PySem.W.xr_kit q36 q34 q291 q269
    exm_BadCalendar_TooMany := PySem.W.exm_ref q33 q36 q34 q291
    sub_BadCalendar_BadCalendar := q271
    kit_BadCalendar_BadCalendar := PySem.W.xr_kit q51 q49 q271 q271
    exm_BadCalendar_BadCalendar := PySem.W.exm_ref q48 q51 q49 q271
    sub_BadCalendar_BadChoice := q292
    kit_BadCalendar_BadChoice := PySem.W.xr_kit q65 q63 q292 q273
    exm_BadCalendar_BadChoice := PySem.W.exm_ref q62 q65 q63 q292
    sub_BadCalendar_BadDays := q293
    kit_BadCalendar_BadDays := PySem.W.xr_kit q79 q77 q293 q275
    exm_BadCalendar_BadDays := PySem.W.exm_ref q76 q79 q77 q293
    kitV_BadCalendar := PySem.W.xr_kitV (by decide +kernel) q294
    sub_BadChoice_DueError := q295
    kit_BadChoice_DueError := PySem.W.xr_kit q8 q6 q295 q265
    exm_BadChoice_DueError := PySem.W.exm_ref q5 q8 q6 q295
    sub_BadChoice_OutOfRange := q296
    kit_BadChoice_OutOfRange := PySem.W.xr_kit q21 q19 q296 q267
    exm_BadChoice_OutOfRange := PySem.W.exm_ref q18 q21 q19 q296
    sub_BadChoice_TooMany := q297
    kit_BadChoice_TooMany := PySem.W.xr_kit q36 q34 q297 q269
    exm_BadChoice_TooMany := PySem.W.exm_ref q33 q36 q34 q297
    sub_BadChoice_BadCalendar := q298
    kit_BadChoice_BadCalendar := PySem.W.xr_kit q51 q49 q298 q271
    exm_BadChoice_BadCalendar := PySem.W.exm_ref q48 q51 q49 q298
    sub_BadChoice_BadChoice := q273
    kit_BadChoice_BadChoice := PySem.W.xr_kit q65 q63 q273 q273
    exm_BadChoice_BadChoice := PySem.W.exm_ref q62 q65 q63 q273
    sub_BadChoice_BadDays := q299
    kit_BadChoice_BadDays := PySem.W.xr_kit q79 q77 q299 q275
    exm_BadChoice_BadDays := PySem.W.exm_ref q76 q79 q77 q299
    kitV_BadChoice := PySem.W.xr_kitV (by decide +kernel) q300
    sub_BadDays_DueError := q301
    kit_BadDays_DueError := PySem.W.xr_kit q8 q6 q301 q265
    exm_BadDays_DueError := PySem.W.exm_ref q5 q8 q6 q301
    sub_BadDays_OutOfRange := q302
    kit_BadDays_OutOfRange := PySem.W.xr_kit q21 q19 q302 q267
    exm_BadDays_OutOfRange := PySem.W.exm_ref q18 q21 q19 q302
    sub_BadDays_TooMany := q303
    kit_BadDays_TooMany := PySem.W.xr_kit q36 q34 q303 q269
    exm_BadDays_TooMany := PySem.W.exm_ref q33 q36 q34 q303
    sub_BadDays_BadCalendar := q304
    kit_BadDays_BadCalendar := PySem.W.xr_kit q51 q49 q304 q271
    exm_BadDays_BadCalendar := PySem.W.exm_ref q48 q51 q49 q304
    sub_BadDays_BadChoice := q305
    kit_BadDays_BadChoice := PySem.W.xr_kit q65 q63 q305 q273
    exm_BadDays_BadChoice := PySem.W.exm_ref q62 q65 q63 q305
    sub_BadDays_BadDays := q275
    kit_BadDays_BadDays := PySem.W.xr_kit q79 q77 q275 q275
    exm_BadDays_BadDays := PySem.W.exm_ref q76 q79 q77 q275
    kitV_BadDays := PySem.W.xr_kitV (by decide +kernel) q306
    F_OutOfRange_init := He5.fun_of F_OutOfRange_init
    b_OutOfRange_init := (He5.fun_of F_OutOfRange_init).binds (ps := ["self", "what", "value"]) fun _ _ _ _ _ _ us hl => match us, hl with | [_, _, _], _ => rfl
    F_TooMany_init := He5.fun_of F_TooMany_init
    b_TooMany_init := (He5.fun_of F_TooMany_init).binds (ps := ["self", "what", "many"]) fun _ _ _ _ _ _ us hl => match us, hl with | [_, _, _], _ => rfl
    F_BadCalendar_init := He5.fun_of F_BadCalendar_init
    b_BadCalendar_init := (He5.fun_of F_BadCalendar_init).binds (ps := ["self", "part"]) fun _ _ _ _ _ _ us hl => match us, hl with | [_, _], _ => rfl
    F_BadChoice_init := He5.fun_of F_BadChoice_init
    b_BadChoice_init := (He5.fun_of F_BadChoice_init).binds (ps := ["self", "at"]) fun _ _ _ _ _ _ us hl => match us, hl with | [_, _], _ => rfl
    F_BadDays_init := He5.fun_of F_BadDays_init
    b_BadDays_init := (He5.fun_of F_BadDays_init).binds (ps := ["self", "at"]) fun _ _ _ _ _ _ us hl => match us, hl with | [_, _], _ => rfl
    g_in_range := PySem.W.mg_of X G q307
    F_in_range := He5.fun_of F_in_range
    b_in_range := (He5.fun_of F_in_range).binds (ps := ["what", "value", "low", "high"]) fun _ _ _ _ _ _ us hl => match us, hl with | [_, _, _, _], _ => rfl
    g_first_bar := PySem.W.mg_of X G q308
    F_first_bar := He5.fun_of F_first_bar
    b_first_bar := (He5.fun_of F_first_bar).binds (ps := ["rule", "calendar", "minute"]) fun _ _ _ _ _ _ us hl => match us, hl with | [_, _, _], _ => rfl
    g_why_due := PySem.W.mg_of X G q309
    F_why_due := He5.fun_of F_why_due
    b_why_due := (He5.fun_of F_why_due).binds (ps := ["schedule", "calendar", "minute"]) fun _ _ _ _ _ _ us hl => match us, hl with | [_, _, _], _ => rfl
    g_why_not := PySem.W.mg_of X G q310
    F_why_not := He5.fun_of F_why_not
    b_why_not := (He5.fun_of F_why_not).binds (ps := ["schedule", "calendar", "minute"]) fun _ _ _ _ _ _ us hl => match us, hl with | [_, _, _], _ => rfl
    g_right_months := PySem.W.mg_of X G q311
    F_right_months := He5.fun_of F_right_months
    b_right_months := (He5.fun_of F_right_months).binds (ps := ["months"]) fun _ _ _ _ _ _ us hl => match us, hl with | [_], _ => rfl
    g_right_leaps := PySem.W.mg_of X G q312
    F_right_leaps := He5.fun_of F_right_leaps
    b_right_leaps := (He5.fun_of F_right_leaps).binds (ps := ["leaps"]) fun _ _ _ _ _ _ us hl => match us, hl with | [_], _ => rfl
    g_is_long_year := PySem.W.mg_of X G q313
    F_is_long_year := He5.fun_of F_is_long_year
    b_is_long_year := (He5.fun_of F_is_long_year).binds (ps := ["leaps", "year"]) fun _ _ _ _ _ _ us hl => match us, hl with | [_, _], _ => rfl
    g_long_years := PySem.W.mg_of X G q314
    F_long_years := He5.fun_of F_long_years
    b_long_years := (He5.fun_of F_long_years).binds (ps := ["leaps", "year"]) fun _ _ _ _ _ _ us hl => match us, hl with | [_, _], _ => rfl
    g_days_ahead := PySem.W.mg_of X G q315
    F_days_ahead := He5.fun_of F_days_ahead
    b_days_ahead := (He5.fun_of F_days_ahead).binds (ps := ["calendar", "year"]) fun _ _ _ _ _ _ us hl => match us, hl with | [_, _], _ => rfl
    g_days_in_month := PySem.W.mg_of X G q316
    F_days_in_month := He5.fun_of F_days_in_month
    b_days_in_month := (He5.fun_of F_days_in_month).binds (ps := ["calendar", "year", "month"]) fun _ _ _ _ _ _ us hl => match us, hl with | [_, _, _], _ => rfl
    g_year_of_day := PySem.W.mg_of X G q317
    F_year_of_day := He5.fun_of F_year_of_day
    b_year_of_day := (He5.fun_of F_year_of_day).binds (ps := ["calendar", "number"]) fun _ _ _ _ _ _ us hl => match us, hl with | [_, _], _ => rfl
    z_Calendar_init_leaps := fun H => Hm.tup0B_ok q318 H
    F_Calendar_init := He5.fun_of F_Calendar_init
    bD_Calendar_init := (F_Calendar_init).binds0 (ps := ["self", "day", "week", "months", "leap_month", "leaps", "first", "hour"]) 4 (by simp) rfl (fun _ _ _ _ _ _ us ks h1 h2 => match us, ks, h1, h2 with | [_, _, _, _], [_, _, _, _], _, _ => ⟨_, _, _, _, _, _, rfl, rfl, ⟨_, _, _, _, _, _, rfl, rfl, ⟨_, _, _, _, _, _, rfl, rfl, ⟨_, _, _, _, _, _, rfl, rfl, rfl⟩⟩⟩⟩)
    bK_Calendar_init := (F_Calendar_init).kbinds0 (ps := ["self", "day", "week", "months", "leap_month", "leaps", "first", "hour"]) 4 ["leap_month", "leaps", "first", "hour"] [] (fun us _ ws => us ++ ws) (by simp) (by simp) (fun r1 _ r3 => r1.append r3) (fun _ _ _ _ _ _ us mv ws h1 h2 h3 => match us, mv, ws, h1, h2, h3 with | [_, _, _, _], [], [_, _, _, _], _, _, _ => rfl)
    bK_Calendar_init_0 := (F_Calendar_init).kbinds0 (ps := ["self", "day", "week", "months", "leap_month", "leaps", "first", "hour"]) 4 ["leap_month", "leaps", "first"] [("hour", .non)] (fun us mv ws => us ++ (ws ++ mv)) (by simp) (by simp) (fun r1 r2 r3 => r1.append (r3.append r2)) (fun _ _ _ _ _ _ us mv ws h1 h2 h3 => match us, mv, ws, h1, h2, h3 with | [_, _, _, _], [_], [_, _, _], _, _, _ => ⟨_, _, _, _, _, _, rfl, rfl, rfl⟩)
    F_Calendar_month_length := He5.fun_of F_Calendar_month_length
    b_Calendar_month_length := (He5.fun_of F_Calendar_month_length).binds (ps := ["self", "year", "month"]) fun _ _ _ _ _ _ us hl => match us, hl with | [_, _, _], _ => rfl
    F_Calendar_date_of := He5.fun_of F_Calendar_date_of
    b_Calendar_date_of := (He5.fun_of F_Calendar_date_of).binds (ps := ["self", "number"]) fun _ _ _ _ _ _ us hl => match us, hl with | [_, _], _ => rfl
    F_Calendar_weekday_of := He5.fun_of F_Calendar_weekday_of
    b_Calendar_weekday_of := (He5.fun_of F_Calendar_weekday_of).binds (ps := ["self", "number"]) fun _ _ _ _ _ _ us hl => match us, hl with | [_, _], _ => rfl
    g_right_part := PySem.W.mg_of X G q319
    F_right_part := He5.fun_of F_right_part
    b_right_part := (He5.fun_of F_right_part).binds (ps := ["part"]) fun _ _ _ _ _ _ us hl => match us, hl with | [_], _ => rfl
    g_part_text := PySem.W.mg_of X G q320
    F_part_text := He5.fun_of F_part_text
    b_part_text := (He5.fun_of F_part_text).binds (ps := ["part"]) fun _ _ _ _ _ _ us hl => match us, hl with | [_], _ => rfl
    g_first_member := PySem.W.mg_of X G q321
    F_first_member := He5.fun_of F_first_member
    b_first_member := (He5.fun_of F_first_member).binds (ps := ["low", "step", "least"]) fun _ _ _ _ _ _ us hl => match us, hl with | [_, _, _], _ => rfl
    z_Choice_init_parts := fun H => Hm.tup0B_ok q322 H
    F_Choice_init := F_Choice_init
    bP_Choice_init_0 := FunD.binds1 (F_Choice_init) (ps := ["self", "parts"]) 1 0 (by simp) rfl (fun _ _ _ _ _ _ _ us its h1 h2 => match us, its, h1, h2 with | [_], [_], _, _ => ⟨_, rfl, rfl⟩)
    bP_Choice_init_1 := FunD.binds1 (F_Choice_init) (ps := ["self", "parts"]) 2 1 (by simp) rfl (fun _ _ _ _ _ _ _ us its h1 h2 => match us, its, h1, h2 with | [_, _], [_], _, _ => ⟨_, rfl, rfl⟩)
    F_Choice_holds := He5.fun_of F_Choice_holds
    b_Choice_holds := (He5.fun_of F_Choice_holds).binds (ps := ["self", "number"]) fun _ _ _ _ _ _ us hl => match us, hl with | [_, _], _ => rfl
    F_Choice_numbers := He5.fun_of F_Choice_numbers
    b_Choice_numbers := (He5.fun_of F_Choice_numbers).binds (ps := ["self", "low", "high"]) fun _ _ _ _ _ _ us hl => match us, hl with | [_, _, _], _ => rfl
    g_last_word := PySem.W.mg_of X G q323
    F_last_word := He5.fun_of F_last_word
    b_last_word := (He5.fun_of F_last_word).binds (ps := ["from_end"]) fun _ _ _ _ _ _ us hl => match us, hl with | [_], _ => rfl
    g_bad_day := PySem.W.mg_of X G q324
    F_bad_day := He5.fun_of F_bad_day
    b_bad_day := (He5.fun_of F_bad_day).binds (ps := ["days"]) fun _ _ _ _ _ _ us hl => match us, hl with | [_], _ => rfl
    F_MonthDays_init := He5.fun_of F_MonthDays_init
    bD_MonthDays_init := (F_MonthDays_init).binds0 (ps := ["self", "choice", "from_end"]) 2 (by simp) rfl (fun _ _ _ _ _ _ us ks h1 h2 => match us, ks, h1, h2 with | [_, _], [_], _, _ => ⟨_, _, _, _, _, _, rfl, rfl, rfl⟩)
    bK_MonthDays_init := (F_MonthDays_init).kbinds0 (ps := ["self", "choice", "from_end"]) 2 ["from_end"] [] (fun us _ ws => us ++ ws) (by simp) (by simp) (fun r1 _ r3 => r1.append r3) (fun _ _ _ _ _ _ us mv ws h1 h2 h3 => match us, mv, ws, h1, h2, h3 with | [_, _], [], [_], _, _, _ => rfl)
    F_MonthDays_holds := He5.fun_of F_MonthDays_holds
    b_MonthDays_holds := (He5.fun_of F_MonthDays_holds).binds (ps := ["self", "calendar", "number"]) fun _ _ _ _ _ _ us hl => match us, hl with | [_, _, _], _ => rfl
    F_Weekdays_init := He5.fun_of F_Weekdays_init
    b_Weekdays_init := (He5.fun_of F_Weekdays_init).binds (ps := ["self", "choice"]) fun _ _ _ _ _ _ us hl => match us, hl with | [_, _], _ => rfl
    F_Weekdays_holds := He5.fun_of F_Weekdays_holds
    b_Weekdays_holds := (He5.fun_of F_Weekdays_holds).binds (ps := ["self", "calendar", "number"]) fun _ _ _ _ _ _ us hl => match us, hl with | [_, _, _], _ => rfl
    F_Months_init := He5.fun_of F_Months_init
    b_Months_init := (He5.fun_of F_Months_init).binds (ps := ["self", "choice"]) fun _ _ _ _ _ _ us hl => match us, hl with | [_, _], _ => rfl
    F_Months_holds := He5.fun_of F_Months_holds
    b_Months_holds := (He5.fun_of F_Months_holds).binds (ps := ["self", "calendar", "number"]) fun _ _ _ _ _ _ us hl => match us, hl with | [_, _, _], _ => rfl
    F_NthWeekday_init := He5.fun_of F_NthWeekday_init
    bD_NthWeekday_init := (F_NthWeekday_init).binds0 (ps := ["self", "nth", "weekday", "from_end"]) 3 (by simp) rfl (fun _ _ _ _ _ _ us ks h1 h2 => match us, ks, h1, h2 with | [_, _, _], [_], _, _ => ⟨_, _, _, _, _, _, rfl, rfl, rfl⟩)
    bK_NthWeekday_init := (F_NthWeekday_init).kbinds0 (ps := ["self", "nth", "weekday", "from_end"]) 3 ["from_end"] [] (fun us _ ws => us ++ ws) (by simp) (by simp) (fun r1 _ r3 => r1.append r3) (fun _ _ _ _ _ _ us mv ws h1 h2 h3 => match us, mv, ws, h1, h2, h3 with | [_, _, _], [], [_], _, _, _ => rfl)
    F_NthWeekday_holds := He5.fun_of F_NthWeekday_holds
    b_NthWeekday_holds := (He5.fun_of F_NthWeekday_holds).binds (ps := ["self", "calendar", "number"]) fun _ _ _ _ _ _ us hl => match us, hl with | [_, _, _], _ => rfl
    F_EveryDays_init := F_EveryDays_init
    bP_EveryDays_init_0 := FunD.binds1 (F_EveryDays_init) (ps := ["self", "step", "first"]) 2 0 (by simp) rfl (fun _ _ _ _ _ _ _ us its h1 h2 => match us, its, h1, h2 with | [_, _], [_], _, _ => ⟨_, rfl, rfl⟩)
    bP_EveryDays_init_1 := FunD.binds1 (F_EveryDays_init) (ps := ["self", "step", "first"]) 3 1 (by simp) rfl (fun _ _ _ _ _ _ _ us its h1 h2 => match us, its, h1, h2 with | [_, _, _], [_], _, _ => ⟨_, rfl, rfl⟩)
    F_EveryDays_holds := He5.fun_of F_EveryDays_holds
    b_EveryDays_holds := (He5.fun_of F_EveryDays_holds).binds (ps := ["self", "calendar", "number"]) fun _ _ _ _ _ _ us hl => match us, hl with | [_, _, _], _ => rfl
    F_FromDay_init := He5.fun_of F_FromDay_init
    b_FromDay_init := (He5.fun_of F_FromDay_init).binds (ps := ["self", "day"]) fun _ _ _ _ _ _ us hl => match us, hl with | [_, _], _ => rfl
    F_FromDay_holds := He5.fun_of F_FromDay_holds
    b_FromDay_holds := (He5.fun_of F_FromDay_holds).binds (ps := ["self", "calendar", "number"]) fun _ _ _ _ _ _ us hl => match us, hl with | [_, _, _], _ => rfl
    F_UntilDay_init := He5.fun_of F_UntilDay_init
    b_UntilDay_init := (He5.fun_of F_UntilDay_init).binds (ps := ["self", "day"]) fun _ _ _ _ _ _ us hl => match us, hl with | [_, _], _ => rfl
    F_UntilDay_holds := He5.fun_of F_UntilDay_holds
    b_UntilDay_holds := (He5.fun_of F_UntilDay_holds).binds (ps := ["self", "calendar", "number"]) fun _ _ _ _ _ _ us hl => match us, hl with | [_, _, _], _ => rfl
    F_NotOn_init := He5.fun_of F_NotOn_init
    b_NotOn_init := (He5.fun_of F_NotOn_init).binds (ps := ["self", "days"]) fun _ _ _ _ _ _ us hl => match us, hl with | [_, _], _ => rfl
    F_NotOn_holds := He5.fun_of F_NotOn_holds
    b_NotOn_holds := (He5.fun_of F_NotOn_holds).binds (ps := ["self", "calendar", "number"]) fun _ _ _ _ _ _ us hl => match us, hl with | [_, _, _], _ => rfl
    z_Rule_init_conditions := fun H => Hm.tup0B_ok q325 H
    F_Rule_init := F_Rule_init
    bP_Rule_init_0 := FunD.binds1 (F_Rule_init) (ps := ["self", "minutes", "conditions"]) 2 0 (by simp) rfl (fun _ _ _ _ _ _ _ us its h1 h2 => match us, its, h1, h2 with | [_, _], [_], _, _ => ⟨_, rfl, rfl⟩)
    bP_Rule_init_1 := FunD.binds1 (F_Rule_init) (ps := ["self", "minutes", "conditions"]) 3 1 (by simp) rfl (fun _ _ _ _ _ _ _ us its h1 h2 => match us, its, h1, h2 with | [_, _, _], [_], _, _ => ⟨_, rfl, rfl⟩)
    F_Rule_holds := He5.fun_of F_Rule_holds
    b_Rule_holds := (He5.fun_of F_Rule_holds).binds (ps := ["self", "calendar", "minute"]) fun _ _ _ _ _ _ us hl => match us, hl with | [_, _, _], _ => rfl
    F_Schedule_init := He5.fun_of F_Schedule_init
    b_Schedule_init := (He5.fun_of F_Schedule_init).binds (ps := ["self", "rules"]) fun _ _ _ _ _ _ us hl => match us, hl with | [_, _], _ => rfl
    F_Schedule_holds := He5.fun_of F_Schedule_holds
    b_Schedule_holds := (He5.fun_of F_Schedule_holds).binds (ps := ["self", "calendar", "minute"]) fun _ _ _ _ _ _ us hl => match us, hl with | [_, _, _], _ => rfl
    g__law_start := PySem.W.mg_of X G q326
    F__law_start := He5.fun_of F__law_start
    b__law_start := (He5.fun_of F__law_start).binds (ps := ["script"]) fun _ _ _ _ _ _ us hl => match us, hl with | [_], _ => rfl
    g__law_draw := PySem.W.mg_of X G q327
    F__law_draw := He5.fun_of F__law_draw
    b__law_draw := (He5.fun_of F__law_draw).binds (ps := ["pool", "many"]) fun _ _ _ _ _ _ us hl => match us, hl with | [_, _], _ => rfl
    g__law_far := PySem.W.mg_of X G q328
    F__law_far := He5.fun_of F__law_far
    b__law_far := (He5.fun_of F__law_far).binds (ps := ["pool"]) fun _ _ _ _ _ _ us hl => match us, hl with | [_], _ => rfl
    g__law_days_of := PySem.W.mg_of X G q329
    F__law_days_of := He5.fun_of F__law_days_of
    b__law_days_of := (He5.fun_of F__law_days_of).binds (ps := ["months", "one", "leaps"]) fun _ _ _ _ _ _ us hl => match us, hl with | [_, _, _], _ => rfl
    g__law_drawn := PySem.W.mg_of X G q330
    F__law_drawn := He5.fun_of F__law_drawn
    b__law_drawn := (He5.fun_of F__law_drawn).binds (ps := ["pool"]) fun _ _ _ _ _ _ us hl => match us, hl with | [_], _ => rfl
    g__law_parts := PySem.W.mg_of X G q331
    F__law_parts := He5.fun_of F__law_parts
    b__law_parts := (He5.fun_of F__law_parts).binds (ps := ["pool", "top"]) fun _ _ _ _ _ _ us hl => match us, hl with | [_, _], _ => rfl
    g__law_condition := PySem.W.mg_of X G q332
    F__law_condition := He5.fun_of F__law_condition
    b__law_condition := (He5.fun_of F__law_condition).binds (ps := ["pool"]) fun _ _ _ _ _ _ us hl => match us, hl with | [_], _ => rfl
    g__law_object := PySem.W.mg_of X G q333
    F__law_object := He5.fun_of F__law_object
    b__law_object := (He5.fun_of F__law_object).binds (ps := ["c"]) fun _ _ _ _ _ _ us hl => match us, hl with | [_], _ => rfl
    g__law_chosen := PySem.W.mg_of X G q334
    F__law_chosen := He5.fun_of F__law_chosen
    b__law_chosen := (He5.fun_of F__law_chosen).binds (ps := ["parts", "x"]) fun _ _ _ _ _ _ us hl => match us, hl with | [_, _], _ => rfl
    g__law_on := PySem.W.mg_of X G q335
    F__law_on := He5.fun_of F__law_on
    b__law_on := (He5.fun_of F__law_on).binds (ps := ["c", "w", "n"]) fun _ _ _ _ _ _ us hl => match us, hl with | [_, _, _], _ => rfl
    g__law_bar := PySem.W.mg_of X G q336
    F__law_bar := He5.fun_of F__law_bar
    b__law_bar := (He5.fun_of F__law_bar).binds (ps := ["rule", "w", "minute"]) fun _ _ _ _ _ _ us hl => match us, hl with | [_, _, _], _ => rfl
    g__law_int := PySem.W.mg_of X G q337
    F__law_int := He5.fun_of F__law_int
    b__law_int := (He5.fun_of F__law_int).binds (ps := ["one"]) fun _ _ _ _ _ _ us hl => match us, hl with | [_], _ => rfl
    g__law_row := PySem.W.mg_of X G q338
    F__law_row := He5.fun_of F__law_row
    b__law_row := (He5.fun_of F__law_row).binds (ps := ["told", "due"]) fun _ _ _ _ _ _ us hl => match us, hl with | [_, _], _ => rfl
    g__law_why := PySem.W.mg_of X G q339
    F__law_why := He5.fun_of F__law_why
    b__law_why := (He5.fun_of F__law_why).binds (ps := ["whole", "land", "w", "rules", "minute"]) fun _ _ _ _ _ _ us hl => match us, hl with | [_, _, _, _, _], _ => rfl
    g__law_call := PySem.W.mg_of X G q340
    F__law_call := He5.fun_of F__law_call
    b__law_call := (He5.fun_of F__law_call).binds (ps := ["kind", "a", "b", "c"]) fun _ _ _ _ _ _ us hl => match us, hl with | [_, _, _, _], _ => rfl
    g__law_asked := PySem.W.mg_of X G q341
    F__law_asked := He5.fun_of F__law_asked
    b__law_asked := (He5.fun_of F__law_asked).binds (ps := ["kind", "a", "b", "c"]) fun _ _ _ _ _ _ us hl => match us, hl with | [_, _, _, _], _ => rfl
    g__law_size := PySem.W.mg_of X G q342
    F__law_size := He5.fun_of F__law_size
    b__law_size := (He5.fun_of F__law_size).binds (ps := ["pool", "low", "top"]) fun _ _ _ _ _ _ us hl => match us, hl with | [_, _, _], _ => rfl
    g__law_wide := PySem.W.mg_of X G q343
    F__law_wide := He5.fun_of F__law_wide
    b__law_wide := (He5.fun_of F__law_wide).binds (ps := ["pool"]) fun _ _ _ _ _ _ us hl => match us, hl with | [_], _ => rfl
    g__law_choice := PySem.W.mg_of X G q344
    F__law_choice := He5.fun_of F__law_choice
    b__law_choice := (He5.fun_of F__law_choice).binds (ps := ["pool", "parts"]) fun _ _ _ _ _ _ us hl => match us, hl with | [_, _], _ => rfl
    g__law_integers := PySem.W.mg_of X G q345
    F__law_integers := He5.fun_of F__law_integers
    b__law_integers := (He5.fun_of F__law_integers).binds (ps := ["pool", "land", "rule"]) fun _ _ _ _ _ _ us hl => match us, hl with | [_, _, _], _ => rfl
    g__law_wrong := PySem.W.mg_of X G q346
    F__law_wrong := He5.fun_of F__law_wrong
    b__law_wrong := (He5.fun_of F__law_wrong).binds (ps := ["pool", "parts"]) fun _ _ _ _ _ _ us hl => match us, hl with | [_, _], _ => rfl
    g_law := PySem.W.mg_of X G q347
    F_law := He5.fun_of F_law
    b_law := (He5.fun_of F_law).binds (ps := ["script"]) fun _ _ _ _ _ _ us hl => match us, hl with | [_], _ => rfl
    g_FAR := Hm.gInt_ok X G q348
    g_TOP := Hm.gInt_ok X G q349
    g_MOST_PARTS := Hm.gInt_ok X G q350
    g_MOST_DAY := Hm.gInt_ok X G q351
    g_MOST_DAYS := Hm.gInt_ok X G q352
    g_MOST_CONDITIONS := Hm.gInt_ok X G q353
    g_MOST_RULES := Hm.gInt_ok X G q354
    n_ValueError := PySem.W.mg_none_of X G q355
    n_all := PySem.W.mg_none_of X G q356
    n_any := PySem.W.mg_none_of X G q357
    n_bool := PySem.W.mg_none_of X G q358
    n_divmod := PySem.W.mg_none_of X G q359
    n_enumerate := PySem.W.mg_none_of X G q360
    n_int := PySem.W.mg_none_of X G q361
    n_isinstance := PySem.W.mg_none_of X G q362
    n_len := PySem.W.mg_none_of X G q363
    n_list := PySem.W.mg_none_of X G q364
    n_max := PySem.W.mg_none_of X G q365
    n_min := PySem.W.mg_none_of X G q366
    n_range := PySem.W.mg_none_of X G q367
    n_set := PySem.W.mg_none_of X G q368
    n_sorted := PySem.W.mg_none_of X G q369
    n_str := PySem.W.mg_none_of X G q370
    n_sum := PySem.W.mg_none_of X G q371
    n_tuple := PySem.W.mg_none_of X G q372
  }
end My
namespace My
open PySem PySem.W PySem.Calls PyProof.Rows
abbrev hmR : PySem.W.OpenRow := PySem.W.OpenLaw.row PySem.Challenge.rw_duejobs_k11_why_due_and_why_not
set_option maxHeartbeats 0 in
theorem hm_run (w : World) : HandSHeadRun.RunEq hmR (PySem.W.view hmR.prog [72]) (Hm.hookM 7 hm_ex hm_fn) (Hm.obM 7 hm_ex hm_fn) 20000 hm_names w := by
  intro os
  kernel_rfl
end My

namespace My
open PySem L2
theorem fin {P : Program} {w : World} {K : PySem.W.Frag} {mg : Str → Option Value} {fa : Addr} (T : ∃ a : Ad, mg "law" = some (.ref a.f_law) ∧ (∀ (s : Shared) (u : Value), BindsTo s a.d_law ⟨[u], []⟩ [("script", u)]) ∧ Tx K mg a) (hfa : mg "law" = some (.ref fa)) :
    ∃ fd : FuncData, (∀ (s : Shared) (u : Value), BindsTo s fd ⟨[u], []⟩ [("script", u)]) ∧ ∀ base : Heap, K.In base → base.Ns mainGlobals mg → FnOk P w K mg base CX0 12 fa fd ["script"] (spLaw K) := by
  obtain ⟨a, h, hb, T⟩ := T
  have e := hfa.symm.trans h
  cases e
  exact ⟨a.d_law, hb, fun base _ _ => G_law T⟩
end My
open PySem PySem.W PySem.Calls PyProof.Rows
set_option maxRecDepth 100000 in
set_option maxHeartbeats 0 in
theorem PySem.Challenge.cw_duejobs_k11_why_due_and_why_not_holds : PySem.Challenge.rw_duejobs_k11_why_due_and_why_not.Holds := by
  w_on; o_law
  refine HandSHeadRun.head_any (r := PySem.W.OpenLaw.row PySem.Challenge.rw_duejobs_k11_why_due_and_why_not) (q := view (PySem.W.OpenLaw.row PySem.Challenge.rw_duejobs_k11_why_due_and_why_not).prog [72]) (H := Hm.hookM 7 My.hm_ex My.hm_fn) (ob := Hm.obM 7 My.hm_ex My.hm_fn) (M := 20000) (loose := My.hm_names) (d := HandSHeadRun.topDef (PySem.W.OpenLaw.row PySem.Challenge.rw_duejobs_k11_why_due_and_why_not).prog 72) (kwd := []) Hm.obM_eq
    (by kernel_rfl) (fun s => by kernel_rfl) My.hm_run (by kernel_rfl) (by kernel_rfl) (by kernel_rfl) (by rfl) (by first | assumption | decide +kernel) (by decide +kernel) ⟨rfl, rfl, rfl, rfl, rfl, by decide +kernel⟩ ?hw ?hc
  case hw => w_witness2
  case hc =>
    refine L2.walk_ofE (l := PySem.Challenge.rw_duejobs_k11_why_due_and_why_not) (n := 63) (k := 12) (x := "script") (CX := L2.CX0) rfl (by decide) (by kernel_rfl) ⟨rfl, by decide, by decide⟩ ?F (fun _ _ _ _ z => z)
    intro w mg fa h Y G hmg0
    obtain ⟨K, KX, c⟩ := Y
    have hmg : mg ("law" : PySem.Str) = some (.ref fa) := by
      have e : (HandSHeadRun.topDef (PySem.W.OpenLaw.row PySem.Challenge.rw_duejobs_k11_why_due_and_why_not).prog 72).name = ("law" : PySem.Str) := by kernel_rfl
      rw [← e]
      exact hmg0
    obtain ⟨fd, hb, hF⟩ := My.fin (P := (PySem.Challenge.rw_duejobs_k11_why_due_and_why_not).prog) (w := w) (My.all_mk KX G c) hmg
    exact ⟨K, fd, My.spLaw K, KX, hb, fun H a ns hl _ hS => ⟨a, ns, rfl, hS, hl, fun _ => rfl⟩, hF⟩

