import PyProof.Rows.All
import Wide.All
import OpenK.AllK
import Wide.FinOn
import HandS.Base
import HandS.Call
import HandS.List
import HandS.Exc
import HandS.ExcInit
import HandS.ExcIs
import HandS.ExcField
import HandS.ExcOwn
import HandS.TupLe
import HandS.IsInst
import KE.KExcIs
import HandS.ForMost
import HandS.ForExc
import HandS.ClsMeth
import HandS.TryMany
import HandS.HotCalls
import PyProof.SumWalkG
import PyProof.TupleIter
import PyProof.WalksMore
import PyProof.Rows.RuleB_pow
import HandS.Steps
import HandS.AnyAll
import HandS.Strs
import HandS.FStr
import HandS.Conv
import HandS.Defaults
import HandS.MakeKwOnly
import HandS.Text
import HandS.Iter
import HandS.Zip0
import PyProof.Draws
import HandS.Wide
import HandS.WideBits
import HandS.Style
import HandS.Evl
import HandS.More
import HandS.Star
import HandS.RaiseMore
import HandS.Property
import HandS.TryOnly
import HandS.Zip
import KE.KStateDown
import HandS.Head0
import HandS.Head1
import HandS.Head2
import HandS.HeadEnd
import HandS.HeadHook1
import HandS.HeadHook2
import HandS.HeadNt
import HandS.TupAny
import HandS.SortRule
import HandS.SortInts
import HandS.Head3
import HandS.Ends
import PySem.Challenge.RW_duejobs_k01_patterns_have_one_form
set_option Elab.async false
set_option linter.all false
set_option maxRecDepth 100000
set_option maxHeartbeats 4000000
namespace L2
open PySem PySem.Spec PyProof.Rows
/-! ### self.f, .. = .. : a field of an exception that is being made, as a target -/
def gOst (K : PySem.W.Frag) (f : Str) (to : TE) : TG := fun y σ H Q => to σ H fun x H2 => ∃ a C : Addr, x = .ref a ∧ OexC K C ∧ PySem.W.findIn K (.ref C) f = some none ∧
  ((H2 a = some (exo a C none) ∧ ∀ dx, H2 dx = none → dx ≠ a → Q σ (upd (upd H2 dx (exd dx [(f, y)])) a (exo a C (some dx)))) ∨
    ∃ (dx : Addr) (fs : List (Str × V)), H2 a = some (exo a C (some dx)) ∧ H2 dx = some (exd dx fs) ∧ fs.length ≤ 900 ∧ Q σ (upd H2 dx (exd dx ((f, y) :: fs))))
theorem pg_ost {X : Cx} {o : Expr} {to : TE} {f : Str} {pos : Pos} (ho : PE X o to)
    (ha : ∀ v, assign (.Attribute o f pos) X.env v = (do
      let ov ← holding [v] (eval o X.env)
      standAt pos.atName
      holding [v, ov] (setAttr ov f v)
      release [v, ov] []) := by intro _; rfl) : PG X (.Attribute o f pos) (gOst X.K f to) := by
  refine ⟨fun pins s σ H v u Q I r h => ?_⟩
  rw [ha]
  refine wpAny_bind (wpAny_holding (thn (ho.run pins s σ H _ I h) fun ov s1 ⟨x, H1, I1, r1, a, C, ex, T, hno, q⟩ => ?_))
  subst ex
  obtain rfl : ov = Value.ref a := r1
  refine wpAny_bind (wpAny_standAt (wpAny_bind (wpAny_holding ?_)))
  rcases q with ⟨ea, q⟩ | ⟨dx, fs, ea, ed, hl, q⟩
  · refine ost_new (s := { s1 with os := s1.os }) T I1 ea hno r fun dx s' n ne J => wpAny_release ⟨σ, _, J, q dx n ne⟩
  · refine ost_old (s := { s1 with os := s1.os }) T I1 ea ed hl hno r fun s' J => wpAny_release ⟨σ, _, J, q⟩
/-! ### t > u of two tuples of whole numbers -/
def rGtT (K : PySem.W.Frag) : R2 := fun x y H Q => ∃ (a b : Addr) (ns ms : List Int), x = .ref a ∧ y = .ref b ∧ SqT K H a (ns.map V.int) ∧ SqT K H b (ms.map V.int) ∧
  Q (.bl (Ob.lexAt (fun j => decide (ns.getD j 0 = ms.getD j 0)) (fun j => decide (ms.getD j 0 < ns.getD j 0)) (decide (ns.length > ms.length)) 0 (min ns.length ms.length))) H
/-- the j-th of whole numbers as the machine has them -/
theorem int_of {us : List Value} {ks : List Int} (h : Vals (ks.map V.int) us) (j : Nat) (hj : j < us.toArray.size) : ∃ t, us.toArray[j] = .int (ks.getD j 0) t := by
  have hu : j < us.length := by simpa using hj
  have hk : j < ks.length := by have := h.length; rw [List.length_map] at this; omega
  obtain ⟨u, e, t, rfl⟩ := h.get (i := j) (x := .int ks[j]) (by rw [List.getElem?_map, List.getElem?_eq_getElem hk]; rfl)
  rw [List.getElem?_eq_getElem hu] at e
  exact ⟨t, by rw [List.getElem_toArray, Option.some.inj e, List.getD_eq_getElem?_getD, List.getElem?_eq_getElem hk]; rfl⟩
theorem op_gtT {X : Cx} (hu : X.A.units < cLine) : OpR X (compareOp .Gt) (rGtT X.K) := by
  rintro pins s σ H _ _ v u Q I rx ry ⟨a, b, ns, ms, rfl, rfl, ha, hb, q⟩
  cases (show v = Value.ref a from rx)
  cases (show u = Value.ref b from ry)
  obtain ⟨us, ru, pu, _⟩ := I.tuple ha
  obtain ⟨ws, rw', pw, _⟩ := I.tuple hb
  have nu : us.toArray.size = ns.length := by have := ru.length; rw [List.length_map] at this; simp [← this]
  have nw : ws.toArray.size = ms.length := by have := rw'.length; rw [List.length_map] at this; simp [← this]
  have G := Ob.RcOp.tuples_gt (A := X.A) (s := s) (e := fun j => decide (ns.getD j 0 = ms.getD j 0)) (r := fun j => decide (ms.getD j 0 < ns.getD j 0)) pu pw hu
    (fun j h1 h2 => by
      obtain ⟨t, e1⟩ := int_of ru j h1
      obtain ⟨t', e2⟩ := int_of rw' j h2
      have z := SeqAt.EqAt.int_int (A := X.A.in1) (s := s) (ns.getD j 0) t (ms.getD j 0) t'
      rw [e1, e2]
      rwa [show (ns.getD j 0 == ms.getD j 0) = decide (ns.getD j 0 = ms.getD j 0) from rfl] at z)
    (fun j h1 h2 _ => by
      obtain ⟨t, e1⟩ := int_of ru j h1
      obtain ⟨t', e2⟩ := int_of rw' j h2
      rw [e1, e2]
      exact Ob.RcOp.gt_int _ _ t t')
  rw [nu, nw] at G
  exact (G X.prog X.w X.xe (EP X pins σ Q) ⟨.bl _, H, I, rfl, q⟩ : wpAny (model X.prog X.w) X.A (compareOp .Gt (.ref a) (.ref b)) (EP X pins σ Q) X.xe s)
end L2

namespace L2
open PySem PySem.Spec PyProof.Rows
/-- isinstance(e, c), e the exception that the suite holds, with its own dict -/
def rIsX (K : PySem.W.Frag) (a : Addr) (cls : Value) (d : Option Addr) : List V → Hp → VK → Prop := fun xs H Q => ∃ (D dd : Addr) (fs : List (Str × V)) (c : V) (cv : Value) (b : Bool), cls = .ref D ∧ ExcC K D ∧ d = some dd ∧ H dd = some (.xd fs) ∧ xs = [.ref a, c] ∧ ClsV c cv ∧ PySem.W.kitOne K (.ref D) cv = some b ∧ Q (.bl b) H
theorem call_isX {X : Cx} {a : Addr} {oe : Obj} {cls : Value} {d : Option Addr} {pn : List (Addr × Obj)} (hz : Zc cls d oe) (hf : ∃ vs, oe.data = .fields vs) : CallR (X.suite a ((a, oe) :: pn)) (.builtin "isinstance") (rIsX X.K a cls d) := by
  rintro pins s σ H _ us Q I r ⟨D, dd, fs, c, cv, b, rfl, C, rfl, ea, rfl, hcv, e, q⟩
  obtain ⟨u1, u2, rfl, r1, r2⟩ := vals2 r
  cases (show u1 = Value.ref a from r1)
  cases hcv.eq r2
  obtain ⟨mA, hns, _⟩ := (show ObjOk X.prog X.w H s.heap dd (.xd fs) from I.hok dd _ ea)
  obtain ⟨od, ho, _⟩ := lookIn_ns hns
  obtain ⟨vs, hv⟩ := hf
  have stands : PySem.W.InstAt s.heap a oe D (some od) := ⟨(I.pin (a, oe) (by simp)).1, hz.1, by rw [PySem.W.notCls, hv], hz.2 ▸ ho⟩
  have known : (PySem.W.clsIn X.K D).isSome = true := by
    obtain ⟨cd, h, _⟩ := PySem.W.any_some C.hd
    rw [h] <;> rfl
  refine PySem.W.kia_one (PySem.W.kitx_exc known C.hg C.hk C.hs C.ha C.hn C.ht C.hm) I.kIn stands e (fun z => nomatch z) fun tk => ?_
  exact ⟨.bl b, H, I.tok tk, rfl, q⟩
end L2
namespace PySem.W
open PySem
theorem xr_kit {K : Frag} {D C : Addr} {b : Bool} (hd : hasDictIn K C = true) (ht : typeIn K (.ref C) = some (.type "type")) (hs : subIn K (.ref D) (.ref C) = some b) (hself : subIn K (.ref C) (.ref C) = some true) : kitOne K (.ref D) (.ref C) = some b := by
  obtain ⟨cd, hc, _⟩ := any_some hd
  unfold kitOne
  by_cases e : D = C
  · subst e
    rw [hself] at hs
    rw [if_pos (by simp)]
    exact hs
  · rw [if_neg (by simpa using e)]
    show (if ((clsIn K C).isSome && typeIn K (.ref C) == some (.type "type")) = true then subIn K (.ref D) (.ref C) else none) = some b
    rw [if_pos (by rw [hc, ht] <;> rfl)]
    exact hs
theorem xr_kitV {K : Frag} {D : Addr} {T : String} {b : Bool} (hm : kitMeta T = true) (hs : subIn K (.ref D) (.type T) = some b) : kitOne K (.ref D) (.type T) = some b := by
  unfold kitOne
  rw [if_neg (by intro z; cases (beq_iff_eq.mp z))]
  show (if kitMeta T = true then subIn K (.ref D) (.type T) else none) = some b
  rw [if_pos hm]
  exact hs
end PySem.W
namespace L2
open PySem PySem.Spec PyProof.Rows
/-! ### o.m(e, ..), the method may raise; what is raised is wished for at the caller's slots -/
def tMethSS (C : Addr) (m : Str) (sp : Sp) (E : St → XK) (ta : TE) (t : TA) : TE := fun σ H Q => ta σ H fun x H1 => ∃ a dx fs, x = .ref a ∧ H1 a = some (.ins C dx fs) ∧ fs.lookup m = none ∧
  t σ H1 fun vs H2 => sp (x :: vs) H2 Q (E σ)
theorem pe_methSS {X : Cx} {CX : CXT} {k : Nat} {f C : Addr} {fd : FuncData} {ps : List Str} {sp : Sp} {E : St → XK} {m : Str} {pos apos : Pos} {e o : Expr} {es : List Expr} {ta : TE} {t : TA} {pl : Sem Bool}
    (he : PE X o ta) (c : Cls X.K C) (hm : Meth X.K C m f) (F : FnOk X.prog X.w X.K X.mg X.base CX k f fd ps sp) (hr : Room k X.A) (hb : Binds X.K fd ps []) (hx : ∀ σ, PassesAt CX X σ (E σ)) (ha : PA X (e :: es) t)
    (hst : starEach (e :: es) X.env = (false, eval e X.env) :: starEach es X.env := by rfl) (hpl : (backTo pos (starEach es X.env)).any (·.1) = false := by rfl)
    (ht : eval (.Call (.Attribute o m apos) (e :: es) [] pos) X.env = (do
      let ov ← eval o X.env
      standAt apos.atName
      let (f, first) ← holding [ov] (getMethod ov m pl)
      callWith pos f first (backTo pos (starEach (e :: es) X.env)) (backToKw pos (keywordEach [] X.env))) := by rfl) :
    PE X (.Call (.Attribute o m apos) (e :: es) [] pos) (tMethSS C m sp E ta t) := by
  constructor
  intro pins s σ H Q I h
  refine PySem.W.methodCall_KW (pl := pl) (thn (he.run pins s σ H _ I h) ?_) ht
  rintro ov s1 ⟨_, H1, I1, rx, r, dx, fs, rfl, er, l, q⟩
  cases (show ov = Value.ref r from rx)
  have args := ha.run pos pins s1 σ H1 _ I1 q
  refine getmeth_ok I1 er c hm l (PySem.W.callWith_K (first := [.ref r]) (h₀ := X.base) I1.ok.mod.kin hm.kp (thn args ?_) hst hpl)
  rintro us s2 ⟨vs, H2, I2, rv, asked⟩
  exact ⟨I2.kIn, run_fnS (us := .ref r :: us) (vs := .ref r :: vs) F hr hb (hx σ) I2 (.cons rfl rv) asked⟩
/-- a promise that nobody asks -/
theorem fn_none {P : Program} {w : World} {K : PySem.W.Frag} {mg : Str → Option Value} {base : Heap} {CX : CXT} {k : Nat} {f : Addr} {fd : FuncData} {ps : List Str} : FnOk P w K mg base CX k f fd ps (fun _ _ _ _ => False) :=
  ⟨fun _ _ _ _ h => h.elim, fun _ _ _ _ _ _ _ _ _ _ _ _ _ h => h.elim⟩
end L2
namespace L2
open PySem PySem.Spec PyProof.Rows
/-! ### within a comprehension's block: the written part named -/
theorem ix_tupK {X : Cx} (K : PySem.W.Frag) (h : X.K = K := by rfl) : IxR X (rIxT K) := by subst h; exact ix_tup
theorem ix_listK {X : Cx} (K : PySem.W.Frag) (h : X.K = K := by rfl) : IxR X (rIxL K) := by subst h; exact ix_list
theorem ix_seqK {X : Cx} (K : PySem.W.Frag) (h : X.K = K := by rfl) : IxR X (rIx K) := by subst h; exact ix_seq
def rLenK (K : PySem.W.Frag) : List V → Hp → VK → Prop := fun xs H Q => ∃ p ys, xs = [.ref p] ∧ (SqL K H p ys ∨ SqT K H p ys) ∧ Q (.int ys.length) H
theorem call_lenK {X : Cx} (K : PySem.W.Frag) (h : X.K = K := by rfl) : CallR X (.builtin "len") (rLenK K) := by subst h; exact call_len_seq
theorem op_inK {X : Cx} (K : PySem.W.Frag) (h : X.K = K := by rfl) : OpR X (compareOp .In) (rIn K false) := by subst h; exact op_in_seq
theorem op_notInK {X : Cx} (K : PySem.W.Frag) (h : X.K = K := by rfl) : OpR X (compareOp .NotIn) (rIn K true) := by subst h; exact op_notIn_seq
theorem pe_fldK {X : Cx} (K : PySem.W.Frag) {o : Expr} {f : Str} {pos : Pos} {ta : TE} (ha : PE X o ta) (hb : attributeBase o f X.env (eval o X.env) = eval o X.env) (h : X.K = K := by rfl) : PE X (.Attribute o f pos) (tFld K ta f) := by subst h; exact pe_fld ha hb
end L2

namespace L2
open PySem PySem.Spec PyProof.Rows
/-! ### sum of a list or of a tuple of whole numbers -/
theorem sum_go (val : Nat → Int) (ks : List Int) (h : ∀ (j : Nat) (x : Int), ks[j]? = some x → val j = x) : ∀ n, n ≤ ks.length → preSum val n = (ks.take n).sum
  | 0, _ => by rw [List.take_zero]; rfl
  | n + 1, hn => by
    have e := List.getElem?_eq_getElem (l := ks) (i := n) (by omega)
    rw [List.take_succ_eq_append_getElem (by omega), List.sum_append]
    show preSum val n + val n = _
    rw [sum_go val ks h n (by omega), h n _ e]
    simp
theorem sum_tup {prog : Program} {w : World} {A : Around} {E : Value → Shared → Prop} {s : Shared} {t : Addr} {us : List Value} {ks : List Int} {Q : Value → Shared → Prop} (hh : A.handled = none) (ht : s.heap.IsTuple t us.toArray) (hv : Vals (ks.map V.int) us)
    (h : ∀ h' tk t', (∀ b o, s.heap.get? b = some o → h'.get? b = some o) → Q (.int ks.sum t') { s with heap := h', toks := tk }) : wpAny (model prog w) A (call (.builtin "sum") [.ref t]) Q E s := by
  have hlen : us.length = ks.length := by rw [← hv.length, List.length_map]
  have lt : t < s.heap.objs.size := by obtain ⟨o, e, _⟩ := ht; exact Heap.lt_size e
  refine call_sum_walkG (wpAny_pyIter_tuple ht ?_)
  have up : ∀ {b : Addr} {o : Obj}, s.heap.get? b = some o → (s.heap.push { cls := .type "tuple_iterator", data := .fields #[.ref t, .int 0 0] }).get? b = some o := fun e => Heap.get?_push_of_some _ e
  refine ⟨s.heap.objs.size, _, _, _, _, _, fun j => (ks[j]?).getD 0, rfl, Walks.tuple (A := A.in1) hh _ t (Nat.ne_of_lt lt) us.toArray, ⟨⟨_, Heap.get?_push_size _ rfl, rfl, rfl⟩, ht.at fun o e => up e⟩, fun b hb => ?_, fun i v hi => ?_, fun h' tk t' hk => ?_⟩
  · show b < (s.heap.push _).objs.size
    rw [Heap.size_push]
    rcases List.mem_cons.mp hb with rfl | hb
    · exact Nat.lt_succ_self _
    · have : b = t := by simpa using hb
      rw [this]; exact Nat.lt_succ_of_lt lt
  · have hi' : us[i]? = some v := by simpa using hi
    have hk : i < ks.length := by rw [← hlen]; exact (List.getElem?_eq_some_iff.mp hi').1
    obtain ⟨u, e, tt, rfl⟩ := hv.get (i := i) (x := .int ks[i]) (by rw [List.getElem?_map, List.getElem?_eq_getElem hk]; rfl)
    rw [hi'] at e
    cases e
    exact ⟨tt, by dsimp only; rw [List.getElem?_eq_getElem hk]; rfl⟩
  · have nm : ∀ b o, s.heap.get? b = some o → b ∉ [s.heap.objs.size] := fun b o e hm => by
      have q : b = s.heap.objs.size := by simpa using hm
      rw [q] at e
      exact Nat.lt_irrefl _ (Heap.lt_size e)
    have z := h h' tk t' fun b o e => hk b o (nm b o e) (up e)
    have e : preSum (fun j => (ks[j]?).getD 0) us.toArray.size = ks.sum := by
      rw [List.size_toArray, hlen, sum_go _ ks (fun j x hj => by simp [hj]) _ (Nat.le_refl _), List.take_length]
    rw [e]
    exact z
def rSumA (K : PySem.W.Frag) : List V → Hp → VK → Prop := fun vs H Q => ∃ (a : Addr) (ns : List Int), vs = [V.ref a] ∧ (SqL K H a (ns.map V.int) ∨ SqT K H a (ns.map V.int)) ∧ Q (.int ns.sum) H
theorem cr_sumA {X : Cx} (hc : X.calm = true) : CallR X (.builtin "sum") (rSumA X.K) := by
  rintro pins s σ H vs us Q I r ⟨a, ns, rfl, hs | hs, q⟩
  · exact cr_sum hc pins s σ H _ us Q I r ⟨a, ns, rfl, hs, q⟩
  · obtain ⟨its, rv, ht, _⟩ := I.tuple hs
    rw [Vals.ref1 r]
    exact sum_tup (I.ok.hd hc) ht rv fun h' tk t' hk => ⟨.int _, H, I.kept hk, ⟨_, rfl⟩, q⟩
/-! ### a walk of a list or of a tuple -/
def PI.two {X : Cx} {tg : Expr} {l : Expr} {t1 t2 : TI} (h1 : PI X tg l t1) (h2 : PI X tg l t2) : PI X tg l (fun σ H R => t1 σ H R ∨ t2 σ H R) :=
  ⟨fun pins s σ H R I h => h.elim (h1.run pins s σ H R I) (h2.run pins s σ H R I)⟩
theorem pi_seq {X : Cx} {tg l : Expr} {tl : TE} (hl : PE X l tl) : PI X tg l (fun σ H R => iList X.K tl σ H R ∨ iTup X.K tl σ H R) := PI.two (pi_list hl) (pi_tup hl)
/-! ### powers of any base -/
def CPowW (i j : Int) : Prop := 0 ≤ j ∧ (Builtin.Int.intBits i : Int) * j ≤ 2 ^ 27
theorem op_powW {X : Cx} : OpR X (binaryOp .Pow) (rI CPowW fun i j => .int (i ^ j.toNat)) := opI fun _ _ _ _ _ _ _ hc q => pow_int hc.1 hc.2 q
/-! ### several except clauses, each with a name or without -/
/-- an exception of the class cls at a has come back to the frame that looks at it; sI: the state without it -/
structure Landed (X : Cx) (pins : List (Addr × Obj)) (σ : St) (H : Hp) (a : Addr) (cls : Value) (d : Option Addr) (B : Heap) (sI s : Shared) : Prop where
  inv : Inv X pins σ H sI
  grd : ∀ b o, sI.heap.get? b = some o → b ∉ frs X.stack → B.get? b = some o
  up : sI.heap.UpToSlots s.heap
  fly : HandSPX.FlyingZ B (X.env :: X.outer) a (Zc cls d) s.heap
  no : H a = none
  os : s.os = sI.os
  gens : AllBare s.gens
section
variable {X : Cx} {pins : List (Addr × Obj)} {σ : St} {H : Hp} {a : Addr} {cls : Value} {d : Option Addr} {B : Heap} {sI s : Shared}
theorem Landed.now (L : Landed X pins σ H a cls d B sI s) : Inv X pins σ H s := L.inv.landed L.grd L.fly.1 L.up L.os L.gens
theorem Landed.apart (L : Landed X pins σ H a cls d B sI s) (hf : X.env.frame = some X.env.locals) : a ≠ X.env.locals ∧ a ∉ X.fs := by
  obtain ⟨oe, vs, he, _, hd⟩ := L.fly.there
  have out : a ∉ frs (X.env :: X.outer) := fun hm => by
    obtain ⟨_, o, e, no⟩ := L.fly.2.2.1.mem hm
    rw [he] at e
    cases e
    exact no _ hd
  refine ⟨fun z => out (List.mem_filterMap.mpr ⟨X.env, List.mem_cons_self, by rw [hf, z]⟩), fun hm => ?_⟩
  obtain ⟨e, he', q⟩ := List.mem_filterMap.mp hm
  exact out (List.mem_filterMap.mpr ⟨e, List.mem_cons_of_mem _ he', q⟩)
/-- in the suite's context -/
theorem Landed.suite (L : Landed X pins σ H a cls d B sI s) (hf : X.env.frame = some X.env.locals) : ∃ oe, Zc cls d oe ∧ (∃ vs, oe.data = .fields vs) ∧ Inv (X.suite a ((a, oe) :: (X.pn ++ pins))) [] σ H s := by
  obtain ⟨oe, vs, he, hz, hd⟩ := L.fly.there
  obtain ⟨n1, n2⟩ := L.apart hf
  exact ⟨oe, hz, ⟨vs, hd⟩, L.now.suite he hd L.no n1 n2⟩
theorem Landed.free (L : Landed X pins σ H a cls d B sI s) {M : Model} {A : Around} {E : Value → Shared → Prop} {Q : Unit → Shared → Prop} (h : ∀ s', Landed X pins σ H a cls d B sI s' → Q () s') : wpAny M A (setFlight (.ref a) none) Q E s :=
  HandSPX.lands_againZ L.fly fun h' f u => h _ ⟨L.inv, L.grd, L.up.trans u, f, L.no, L.os, L.gens⟩
end
/-- what these clauses wish of an exception, and that they do it -/
structure Hds (X : Cx) (hds : List ExceptHandler) (W : Ends → WX) : Prop where
  run : ∀ (pins : List (Addr × Obj)) (σ : St) (H : Hp) (a : Addr) (cls : Value) (d : Option Addr) (B : Heap) (sI s : Shared) (D : Ends), Landed X pins σ H a cls d B sI s → W D cls d σ H →
    wpAny (model X.prog X.w) X.A (handleBy (.ref a) X.env hds) (SP X pins D) X.xe s
section
variable {X : Cx} {x n : Str} {c : Value} {i : Nat} {suite : List Stmt} {b₀ : Stmt} {np pos' : Pos} {ts : Addr → Value → Option Addr → TS} {Wout : WX} {hds : List ExceptHandler} {W : Ends → WX}
theorem hds_nil (hs : X.stack = X.env :: X.outer) (hf : X.env.frame = some X.env.locals) (tk : Takes X Wout) : Hds X [] (fun _ => Wout) := by
  refine ⟨fun pins σ H a cls d B sI s D L w => wpAny_handleBy_nil ?_⟩
  obtain ⟨_, _, _, oe, vs, T, _, _, he, _, hd, h1, _⟩ := id L.fly
  unfold PySem.passOn
  refine wpAny_bind (wpAny_field he hd h1 ?_)
  rw [if_neg (show ¬ ((Value.ref T == Value.none) = true) from by simp)]
  have on : wpAny (model X.prog X.w) X.A (setFlight (.ref a) X.env.frame) (fun _ s4 => wpAny (model X.prog X.w) X.A (throw (.ref a) : Sem Flow) (SP X pins D) X.xe s4) X.xe s := by
    rw [hf]
    refine HandSPX.setFlight_upZ L.fly fun h' held u => wpAny_throw (tk _ _ ?_)
    exact ⟨a, B, sI, pins, σ, H, cls, d, rfl, L.inv, L.grd, L.up.trans u, .inr (.inr (by rw [hs]; exact held)), L.no, L.os, L.gens, w⟩
  first
    | exact wpAny_bind (wpAny_pure (wpAny_bind on))
    | exact wpAny_bind on
/-- the clause's own test, asked in the suite's marks -/
theorem hds_test {pins : List (Addr × Obj)} {σ : St} {H : Hp} {a : Addr} {cls : Value} {d : Option Addr} {B : Heap} {sI s : Shared} {b : Bool} {E : Value → Shared → Prop} {R : Bool → Shared → Prop} (hf : X.env.frame = some X.env.locals) (hc : Names X x c) (L : Landed X pins σ H a cls d B sI s) (hb : PySem.W.exmOne X.K cls c = some b)
    (h : R b s) : wpAny (model X.prog X.w) (X.A.mark (some (.ref a))) (eval (.Name x np) X.env) (fun v s1 => wpAny (model X.prog X.w) (X.A.mark (some (.ref a))) (excMatches (.ref a) v) R E s1) E s := by
  obtain ⟨oe, vs, he, hz, hd⟩ := L.fly.there
  have ty : PySem.W.Looks (model X.prog X.w) s.heap (typeOf (.ref a)) cls := fun A Q E s k q => wpAny_typeOf_ref (k _ _ he) (by rw [hz.1]; exact q)
  have it := (PySem.W.exm_one (M := model X.prog X.w) L.now.kIn ty hb).here (A := X.A.mark (some (.ref a))) (E := E) (Q := R) h
  obtain ⟨n1, n2⟩ := L.apart hf
  have S := L.now.suite he hd L.no n1 n2
  obtain ⟨hg, hdbg, hm | ⟨hm, hv, hnn⟩⟩ := hc
  · exact ld_glob (X := X.suite a ((a, oe) :: (X.pn ++ pins))) S hg hm it hdbg
  · exact ld_blt (X := X.suite a ((a, oe) :: (X.pn ++ pins))) S hg hm hv it hnn hdbg
/-- except x as n: suite; slot i is n's -/
theorem hds_as (hf : X.env.frame = some X.env.locals) (hN : X.N.Nodup) (hi : X.N[i]? = some n) (hln : X.env.kindOf n = some .local) (hc : Names X x c)
    (hsu : ∀ (a : Addr) (oe : Obj) (cls : Value) (d : Option Addr) (pn : List (Addr × Obj)), Zc cls d oe → (∃ vs, oe.data = .fields vs) → PSs (X.suite a ((a, oe) :: pn)) (b₀ :: suite) (ts a cls d)) (r : Hds X hds W) :
    Hds X (.ExceptHandler (some (.Name x np)) (some n) (b₀ :: suite) pos' :: hds) (fun D cls d σ H => ∃ b, PySem.W.exmOne X.K cls c = some b ∧
      (b = true → ∀ a, H a = none → ts a cls d { nx := fun σ' H' => D.nx (σ'.set i none) H', rt := D.rt, bk := fun σ' H' => D.bk (σ'.set i none) H', ct := fun σ' H' => D.ct (σ'.set i none) H' } (σ.set i (some (.ref a))) H) ∧ (b = false → W D cls d σ H)) := by
  refine ⟨fun pins σ H a cls d B sI s D L ⟨b, hb, yes, no⟩ => ?_⟩
  refine wpAny_handleBy_cons (codeAny_handlers_test (hds_test hf hc L hb ?_)) (by intro q; cases q)
  cases b with
  | false => exact r.run pins σ H a cls d B sI s D L (no rfl)
  | true =>
    refine codeAny_handlers_suite_as (L.free fun s1 L1 => ?_)
    obtain ⟨oe, hz, hv, S1⟩ := L1.suite hf
    refine store_ok (X := X.suite a ((a, oe) :: (X.pn ++ pins))) (v := .ref a) S1 hN hi (.inl hln) rfl (fun s2 S2 => ?_) (.inr hln)
    refine wpAny_mono ((hsu a oe cls d (X.pn ++ pins) hz hv).run [] s2 _ H _ S2 (yes rfl a L.no)) (fun f s3 q => ?_) (fun _ _ z => False.elim z)
    have gone : ∀ {σ' : St} {H' : Hp} {Q : Shared → Prop}, Inv (X.suite a ((a, oe) :: (X.pn ++ pins))) [] σ' H' s3 → (∀ s4, Inv X pins (σ'.set i none) H' s4 → Q s4) →
        wpAny (model X.prog X.w) X.A (do bindName X.env n .none; unbindBehindTheSuite X.env n pos') (fun _ s4 => Q s4) X.xe s3 := fun S hq => gone_ok (S.unsuite L.inv.ok) hN hi hln hq
    cases f with
    | next => obtain ⟨_, _, S3, q3⟩ := q; exact gone S3 fun s4 J => ⟨_, _, J, q3⟩
    | brk => obtain ⟨_, _, S3, q3⟩ := q; exact gone S3 fun s4 J => ⟨_, _, J, q3⟩
    | cont => obtain ⟨_, _, S3, q3⟩ := q; exact gone S3 fun s4 J => ⟨_, _, J, q3⟩
    | ret u => obtain ⟨_, _, _, S3, r3, q3⟩ := q; exact gone S3 fun s4 J => ⟨_, _, _, J, r3, q3⟩
/-- except x: suite -/
theorem hds_only (hf : X.env.frame = some X.env.locals) (hc : Names X x c)
    (hsu : ∀ (a : Addr) (oe : Obj) (cls : Value) (d : Option Addr) (pn : List (Addr × Obj)), Zc cls d oe → (∃ vs, oe.data = .fields vs) → PSs (X.suite a ((a, oe) :: pn)) (b₀ :: suite) (ts a cls d)) (r : Hds X hds W) :
    Hds X (.ExceptHandler (some (.Name x np)) none (b₀ :: suite) pos' :: hds) (fun D cls d σ H => ∃ b, PySem.W.exmOne X.K cls c = some b ∧ (b = true → ∀ a, H a = none → ts a cls d D σ H) ∧ (b = false → W D cls d σ H)) := by
  refine ⟨fun pins σ H a cls d B sI s D L ⟨b, hb, yes, no⟩ => ?_⟩
  refine wpAny_handleBy_cons (codeAny_handlers_test (hds_test hf hc L hb ?_)) (by intro q; cases q)
  cases b with
  | false => exact r.run pins σ H a cls d B sI s D L (no rfl)
  | true =>
    refine codeAny_handlers_suite (L.free fun s1 L1 => ?_)
    obtain ⟨oe, hz, hv, S1⟩ := L1.suite hf
    refine wpAny_mono ((hsu a oe cls d (X.pn ++ pins) hz hv).run [] s1 _ H _ S1 (yes rfl a L.no)) (fun f s3 q => ?_) (fun _ _ z => False.elim z)
    cases f with
    | next => obtain ⟨_, _, S3, q3⟩ := q; exact ⟨_, _, S3.unsuite L.inv.ok, q3⟩
    | brk => obtain ⟨_, _, S3, q3⟩ := q; exact ⟨_, _, S3.unsuite L.inv.ok, q3⟩
    | cont => obtain ⟨_, _, S3, q3⟩ := q; exact ⟨_, _, S3.unsuite L.inv.ok, q3⟩
    | ret u => obtain ⟨_, _, _, S3, r3, q3⟩ := q; exact ⟨_, _, _, S3.unsuite L.inv.ok, r3, q3⟩
theorem ps_try_hds {body : List Stmt} {h₀ : ExceptHandler} {pos : Pos} {tb : WX → TS} (hs : X.stack = X.env :: X.outer) (hf : X.env.frame = some X.env.locals)
    (hb : ∀ (W' : WX) (pn : List (Addr × Obj)) (xe : Value → Shared → Prop), Takes (X.tr pn xe) W' → PassesOwn (model X.prog X.w) X.A X.env xe → PSs (X.tr pn xe) body (tb W')) (r : Hds X (h₀ :: hds) W) :
    PS X (.Try body (h₀ :: hds) [] [] pos) (fun D σ H => tb (W D) D σ H) := by
  refine ⟨fun pins s σ H D I h => ?_⟩
  have ok := I.ok
  have hfr : X.A.frames = some (X.env :: X.outer) := by rw [ok.frames, hs]
  refine wpAny_Try_except ?_
  have took := hb (W D) (X.pn ++ pins) (fun e s₁ => wpAny (model X.prog X.w) X.A (noteFrame e X.env) (fun _ s₂ => wpAny (model X.prog X.w) X.A (setFlight e none) (fun _ s₃ =>
    wpAny (model X.prog X.w) X.A (handleBy e X.env (h₀ :: hds)) (SP X pins D) X.xe s₃) X.xe s₂) X.xe s₁) ?_ PassesOwn.looking
  · refine wpAny_mono (took.run [] s σ H D (I.toTry _) h) (fun f s1 q => ?_) (fun _ _ z => z)
    cases f with
    | next => obtain ⟨_, _, J, q⟩ := q; exact wpAny_execs_nil ⟨_, _, J.ofTry ok, q⟩
    | brk => obtain ⟨_, _, J, q⟩ := q; exact ⟨_, _, J.ofTry ok, q⟩
    | cont => obtain ⟨_, _, J, q⟩ := q; exact ⟨_, _, J.ofTry ok, q⟩
    | ret u => obtain ⟨_, _, _, J, r, q⟩ := q; exact ⟨_, _, _, J.ofTry ok, r, q⟩
  · rintro u s' ⟨a, B, sI, pins', σ', H', cls, d, rfl, J', nb, up, sky, na, os, ag, w⟩
    have sky' : Sky B (X.env :: X.outer) a (Zc cls d) X.env.locals s'.heap := by rw [← hs]; exact sky
    exact Sky.land Zc.steady hfr hf sky' fun h3 fl up3 => r.run pins σ' H' a cls d B sI _ D ⟨J'.ofTry ok, nb, up.trans up3, fl, na, os, ag⟩ w
end
/-! ### C.m() where m is a staticmethod of the class at C -/
structure SMet (K : PySem.W.Frag) (C : Addr) (mc : Value) (m : Str) (p g : Addr) : Prop where
  found : PySem.W.findCls K (.ref C) mc m = some (.get (.builtin "staticmethod.__get__") (.ref p) .none (.ref C))
  held : ∃ rest, PySem.W.recIn K p "staticmethod" = some (.ref g :: rest)
def tSMeth (C : Addr) (sp : Sp) (dvs : List V) (E : XK) (ta : TE) : TE := fun σ H Q => ta σ H fun x H1 => x = .ref C ∧ sp dvs H1 Q E
theorem pe_smeth0 {X : Cx} {CX : CXT} {k : Nat} {C p g : Addr} {mc : Value} {fd : FuncData} {ps : List Str} {ds : List Value} {dvs : List V} {sp : Sp} {E : XK} {o : Expr} {m : Str} {pos apos : Pos} {ta : TE} {pl : Sem Bool}
    (ho : PE X o ta) (r : ClX.CRead X.K C mc) (c : SMet X.K C mc m p g) (F : FnOk X.prog X.w X.K X.mg X.base CX k g fd ps sp) (room : Room k X.A) (kp : PySem.W.keepIn X.K (.ref g) = true) (hb : Binds X.K fd ps ds) (hd : Vals dvs ds) (hx : Passes CX X E)
    (form : eval (.Call (.Attribute o m apos) [] [] pos) X.env = (do
      let ov ← eval o X.env
      standAt apos.atName
      let (f, first) ← holding [ov] (getMethod ov m pl)
      callWith pos f first (backTo pos (starEach [] X.env)) (backToKw pos (keywordEach [] X.env))) := by rfl) :
    PE X (.Call (.Attribute o m apos) [] [] pos) (tSMeth C sp dvs E ta) := by
  refine ⟨fun pins s σ H Q I h => PySem.W.methodCall_KW (pl := pl) (thn (ho.run pins s σ H _ I h) fun u s1 ⟨x, H1, I1, rx, ex, q⟩ => ?_) form⟩
  subst ex
  obtain rfl : u = Value.ref C := rx
  obtain ⟨rest, hp⟩ := c.held
  refine PySem.W.method_cls I1.kIn r.ga (PySem.W.cls_bind I1.kIn r.rd c.found (wpAny_call (PySem.W.sm_get (s := { s1 with toks := s1.toks + 1 }) I1.kIn hp (PySem.W.handed_on rfl ?_))))
  exact PySem.W.callWith_K0 I1.kIn kp (run_fn (us := []) F room hb hd hx (I1.tok _) .nil q)
/-! ### a def without loops and calls, called while an exception is handled (its context is of no matter) -/
structure FnC (P : Program) (w : World) (K : PySem.W.Frag) (mg : Str → Option Value) (base : Heap) (k : Nat) (f : Addr) (fd : FuncData) (ps : List Str) (sp : Sp) : Prop where
  arity : ∀ vs H Q E, sp vs H Q E → vs.length = ps.length
  goes : ∀ (A : Around) (outer : List Env) (s : Shared) (H : Hp) (args : Args) (us : List Value) (vs : List V) (Q : VK), L2H.RoomH k A → Env0 P w K mg base A outer s H → BindsTo s fd args (ps.zip us) → Vals vs us → sp vs H Q E0 →
    codeAny (model P w) A (.call (.ref f) args) (CR CX0 outer P w H s Q E0) s
def cxC (P : Program) (w : World) (K : PySem.W.Frag) (mg : Str → Option Value) (base : Heap) (N : List Str) (qual : Str) (scope : Scope) (f : Addr) (cd : Value) (A : Around) (outer : List Env) (s : Shared) (H : Hp) : Cx :=
  { cxOf CX0 P w K mg base N qual scope f cd A outer s H E0 with calm := false, xe := fun _ _ => False }
theorem Fun.okC {P : Program} {w : World} {K : PySem.W.Frag} {mg : Str → Option Value} {base : Heap} {x qual : Str} {st : Stmt} {f : Addr} {fd : FuncData} {N ps : List Str} {k : Nat} {sp : Sp} (F : Fun K x qual st f fd) (S : FnScope N ps (defScope st)) (ar : ∀ vs H Q E, sp vs H Q E → vs.length = ps.length)
    (body : ∀ (cdv : Value) (A : Around) (outer : List Env) (s : Shared) (H : Hp) (vs : List V) (Q : VK), sp vs H Q E0 →
      ∃ t, PSs (cxC P w K mg base N qual (defScope st) f cdv A outer s H) (defBody st) t ∧ t { nx := fun _ H' => Q .non H', rt := Q } (start N vs) H) : FnC P w K mg base (k + 1) f fd ps sp := by
  obtain ⟨oc, od, kV, doc, pm, an, cdv, ct, osl, rfl, lk, hcd⟩ := F.ex
  refine ⟨ar, fun A outer s H args us vs Q room e0 hb rv want => ?_⟩
  have stands := fun b o e => (e0.bs b o e).1
  have KX : K.In s.heap := e0.mod.kin.keeps stands
  have slot : ∀ y ∈ ps.zip us, (defScope st).names.lookup y.1 = some .local ∨ ((defScope st).names.lookup y.1 = some .cell ∧ ((cellsFrom (s.heap.objs.size + 1) (defScope st).names []).lookup y.1).isSome = true) := by
    rintro ⟨n, v⟩ hy
    exact (S.par n (List.of_mem_zip hy).1).imp id fun q => ⟨q, PySem.W.cellsFrom_some _ _ _ (.inl q)⟩
  refine codeAny_call_function room.depth (KX _ _ lk) rfl S.co S.gen rfl (PySem.W.codeRec_of KX hcd) (hb _ _ _ _ (wpAny_newFunctionEnv_cells S.kind slot fun env he s1 x => ?_))
  cases he
  refine ⟨(e0.mod.nolimit.keeps stands).keeps x.toInCall.keep, codeAny_func ?_⟩
  obtain ⟨t, ht, hq⟩ := body cdv A outer s H vs Q want
  have e1 : Env0 P w K mg base { A with handled := none } outer s H := { e0 with frames := e0.frames }
  have I0 := inv_start (CX := CX0) (E := E0) (cd := cdv) S rfl e1 (ar _ _ _ _ want) rv x
  have I : Inv (cxC P w K mg base N qual (defScope st) f cdv A outer s H) [] (start N vs) H s1 :=
    ⟨{ I0.ok with hd := (fun z => nomatch z), frames := Around.frames_deeper e0.frames }, I0.os, I0.bare, I0.base, I0.loc, I0.cell, I0.free, I0.freeC, I0.pin, I0.hok, I0.len⟩
  refine wpAny_mono (ht.run [] s1 _ H _ I hq) (fun fl s' z => ?_) (fun e s' z => False.elim z)
  cases fl with
  | next => obtain ⟨_, H', J, q⟩ := z; exact ⟨.non, H', J.os, J.bare, J.base, J.hok, rfl, q⟩
  | ret u => obtain ⟨v, _, H', J, rr, q⟩ := z; exact ⟨v, H', J.os, J.bare, J.base, J.hok, rr, q⟩
  | brk => exact (let ⟨_, _, _, q⟩ := z; False.elim q)
  | cont => exact (let ⟨_, _, _, q⟩ := z; False.elim q)
theorem pe_callC {X : Cx} {k : Nat} {f : Addr} {fd : FuncData} {ps : List Str} {sp : Sp} {x : Str} {p pos : Pos} {e : Expr} {es : List Expr} {t : TA} (F : FnC X.prog X.w X.K X.mg X.base k f fd ps sp) (room : L2H.RoomH k X.A) (hg : Gl X x) (hm : X.mg x = some (.ref f)) (kp : PySem.W.keepIn X.K (.ref f) = true) (hb : Binds X.K fd ps []) (ha : PA X (e :: es) t)
    (dbg : (x == ("__debug__" : Str)) = false := by decide) (one : starEach (e :: es) X.env = (false, eval e X.env) :: starEach es X.env := by rfl) (plain : (backTo pos (starEach es X.env)).any (·.1) = false := by rfl) :
    PE X (.Call (.Name x p) (e :: es) [] pos) (fun σ H Q => t σ H fun vs H1 => sp vs H1 Q E0) := by
  refine ⟨fun pins s σ H Q I h => wpAny_Call_Name_kw (ld_glob I hg hm (PySem.W.callWith_K (h₀ := X.base) I.ok.mod.kin kp (thn (ha.run pos pins s σ H _ I h) fun us s1 ⟨vs, H1, I1, r, q⟩ => ⟨I1.kIn, ?_⟩) one plain) dbg)⟩
  have b := hb s1 us I1.kIn (by rw [List.append_nil, ← r.length]; exact F.arity _ _ _ _ q)
  rw [List.append_nil] at b
  refine wpAny_call (codeAny_mono (F.goes X.A X.stack s1 H1 ⟨us, []⟩ us vs Q room I1.env0 b r q) fun z s' c => ?_)
  cases z with
  | error e => exact False.elim c
  | ok fl =>
    cases fl with
    | ret u => exact I1.after c
    | next => exact False.elim c
    | brk => exact False.elim c
    | cont => exact False.elim c
end L2

namespace L2
open PySem PySem.Spec PyProof.Rows
/-! ### frames -/
def But (p : Addr) (H H' : Hp) : Prop := ∀ b o, H b = some o → b ≠ p → H' b = some o
theorem But.refl (p : Addr) (H : Hp) : But p H H := fun _ _ h _ => h
theorem But.same {p : Addr} {H H1 H2 : Hp} (a : Same H H1) (b : But p H1 H2) : But p H H2 := fun c o h n => b c o (a c o h) n
theorem But.thenS {p : Addr} {H H1 H2 : Hp} (a : But p H H1) (b : Same H1 H2) : But p H H2 := fun c o h n => b c o (a c o h n)
theorem But.upd {p : Addr} {H H1 : Hp} {o : HO} (a : But p H H1) : But p H (upd H1 p o) := fun c o' h n => by rw [upd_ne n]; exact a c o' h n
theorem But.trans {p : Addr} {H H1 H2 : Hp} (a : But p H H1) (b : But p H1 H2) : But p H H2 := fun c o h n => b c o (a c o h n) n
/-- what was new at H's time may be anything -/
theorem But.new {p : Addr} {H H2 : Hp} (h : H p = none) (b : But p H H2) : Same H H2 := fun c o e => b c o e (ne_of_none e h)
theorem Same.new {H : Hp} {p : Addr} {o : HO} (h : H p = none) : Same H (upd H p o) := fun b u e => by rw [upd_ne (ne_of_none e h)]; exact e
theorem Same.sqT {K : PySem.W.Frag} {H H' : Hp} {p : Addr} {xs : List V} (s : Same H H') (h : SqT K H p xs) : SqT K H' p xs := by
  rcases h with (h | ⟨o, h⟩) | h
  · exact Or.inl (Or.inl (s _ _ h))
  · exact Or.inl (Or.inr ⟨o, s _ _ h⟩)
  · exact Or.inr h
/-- a list or a tuple -/
def SqA (K : PySem.W.Frag) (H : Hp) (p : Addr) (xs : List V) : Prop := SqL K H p xs ∨ SqT K H p xs
theorem Same.sqA {K : PySem.W.Frag} {H H' : Hp} {p : Addr} {xs : List V} (s : Same H H') (h : SqA K H p xs) : SqA K H' p xs := h.imp (fun h => s.seq h) fun h => s.sqT h
/-! ### whole numbers in a list -/
theorem ints_get {ks : List Int} {i : Nat} {x : V} (h : (ks.map V.int)[i]? = some x) : ∃ z, ks[i]? = some z ∧ x = .int z := by
  rw [List.getElem?_map] at h
  cases e : ks[i]? with
  | none => rw [e] at h; cases h
  | some z => rw [e] at h; cases h; exact ⟨z, rfl, rfl⟩
theorem ints_at {ks : List Int} {i : Nat} {z : Int} (h : ks[i]? = some z) : (ks.map V.int)[i]? = some (.int z) := by
  rw [List.getElem?_map, h]; rfl
theorem take_snoc {α : Type} {l : List α} {i : Nat} {x : α} (h : l[i]? = some x) : l.take (i + 1) = l.take i ++ [x] := by
  obtain ⟨h1, rfl⟩ := List.getElem?_eq_some_iff.mp h
  exact List.take_succ_eq_append_getElem h1
/-! ### comprehensions without effects: the items that are kept, their elements -/
section
variable {K : PySem.W.Frag} {a : Addr} {xs : List V} {tt : TT} {te : TE} {vs : List Nat} {σ : St} {H1 : Hp} {Q : VK} {i0 : Nat} {keep : V → Bool} {f : V → V}
theorem comp_step {D : Addr} {H : Hp} {x : V} {i : Nat} {Pv : Hp → Prop} (hx : xs[i]? = some x) (hz : xs.length ≤ 1000000) (h : H D = some (.lst (((xs.take i).filter keep).map f)))
    (ht : Ans tt ((wipe σ vs).set i0 (some x)) H (keep x)) (he : keep x = true → Val te ((wipe σ vs).set i0 (some x)) H (f x))
    (put : ∀ H', H' D = some (.lst (((xs.take (i + 1)).filter keep).map f)) → (∀ b, b ≠ D → H' b = H b) → Pv H') :
    tt ((wipe σ vs).set i0 (some x)) H fun b H3 => if b = true then te ((wipe σ vs).set i0 (some x)) H3 fun y H4 => ∃ acc, H4 D = some (.lst acc) ∧ acc.length < sizeLine ∧ Pv (upd H4 D (.lst (acc ++ [y]))) else Pv H3 := by
  have e : (xs.take (i + 1)).filter keep = (xs.take i).filter keep ++ (if keep x = true then [x] else []) := by
    rw [take_snoc hx, List.filter_append]
    congr 1
    by_cases k : keep x = true <;> simp [k]
  refine ht _ ?_
  by_cases k : keep x = true
  · rw [if_pos k]
    refine he k _ ⟨_, h, ?_, put _ ?_ fun b nb => upd_ne nb⟩
    · have l1 : (((xs.take i).filter keep).map f).length ≤ xs.length := by
        rw [List.length_map]
        exact Nat.le_trans (List.length_filter_le _ _) (by rw [List.length_take]; exact Nat.min_le_right _ _)
      exact Nat.lt_of_le_of_lt (Nat.le_trans l1 hz) (by decide)
    · rw [upd_same, e, if_pos k, List.map_append]
      rfl
  · rw [if_neg k]
    refine put H ?_ fun b _ => rfl
    rw [h, e, if_neg k, List.append_nil]
theorem comp_list (keep : V → Bool) (f : V → V) (hp : SqL K H1 a xs) (hz : xs.length ≤ 1000000) (hw : ∀ x, wipe ((wipe σ vs).set i0 (some x)) vs = wipe σ vs)
    (ht : ∀ (i : Nat) x H, xs[i]? = some x → Same H1 H → Ans tt ((wipe σ vs).set i0 (some x)) H (keep x)) (he : ∀ (i : Nat) x H, xs[i]? = some x → keep x = true → Same H1 H → Val te ((wipe σ vs).set i0 (some x)) H (f x))
    (hd : ∀ D H', H1 D = none → H' D = some (.lst ((xs.filter keep).map f)) → Same H1 H' → Q (.ref D) H') : tLc (fun _ H R => R (Itl K a) H) (gName i0) tt te vs σ H1 Q := by
  refine fun D hD => lc_list (xs := xs) (fun i H' => H' D = some (.lst (((xs.take i).filter keep).map f)) ∧ Same H1 H') ⟨upd_same, Same.new hD⟩ (fun i H' _ p => p.2.seq hp) ?_ ?_
  · rintro i x H' hx ⟨h1, h2⟩
    refine ⟨hw x, comp_step hx hz h1 (ht i x H' hx h2) (fun k => he i x H' hx k h2) fun H2 e1 e2 => ⟨e1, fun b o z => ?_⟩⟩
    rw [e2 b (ne_of_none z hD)]
    exact h2 b o z
  · rintro H' ⟨h1, h2⟩
    rw [List.take_length] at h1
    exact hd D H' hD h1 h2
theorem comp_tup (keep : V → Bool) (f : V → V) (hp : SqT K H1 a xs) (hz : xs.length ≤ 1000000) (hw : ∀ x, wipe ((wipe σ vs).set i0 (some x)) vs = wipe σ vs)
    (ht : ∀ (i : Nat) x H, xs[i]? = some x → Same H1 H → Ans tt ((wipe σ vs).set i0 (some x)) H (keep x)) (he : ∀ (i : Nat) x H, xs[i]? = some x → keep x = true → Same H1 H → Val te ((wipe σ vs).set i0 (some x)) H (f x))
    (hd : ∀ D H', H1 D = none → H' D = some (.lst ((xs.filter keep).map f)) → Same H1 H' → Q (.ref D) H') : tLc (fun _ H R => R (Itt K a) H) (gName i0) tt te vs σ H1 Q := by
  refine fun D hD => lc_tup (xs := xs) (fun i H' => H' D = some (.lst (((xs.take i).filter keep).map f)) ∧ Same H1 H') ⟨upd_same, Same.new hD⟩ (fun i H' _ p => p.2.sqT hp) ?_ ?_
  · rintro i x H' hx ⟨h1, h2⟩
    refine ⟨hw x, comp_step hx hz h1 (ht i x H' hx h2) (fun k => he i x H' hx k h2) fun H2 e1 e2 => ⟨e1, fun b o z => ?_⟩⟩
    rw [e2 b (ne_of_none z hD)]
    exact h2 b o z
  · rintro H' ⟨h1, h2⟩
    rw [List.take_length] at h1
    exact hd D H' hD h1 h2
theorem comp_L {tl : TE} (keep : V → Bool) (f : V → V) (hl : ∀ R : V → Hp → Prop, R (.ref a) H1 → tl σ H1 R) (hp : SqL K H1 a xs) (hz : xs.length ≤ 1000000) (hw : ∀ x, wipe ((wipe σ vs).set i0 (some x)) vs = wipe σ vs)
    (ht : ∀ (i : Nat) x H, xs[i]? = some x → Same H1 H → Ans tt ((wipe σ vs).set i0 (some x)) H (keep x)) (he : ∀ (i : Nat) x H, xs[i]? = some x → keep x = true → Same H1 H → Val te ((wipe σ vs).set i0 (some x)) H (f x))
    (hd : ∀ D H', H1 D = none → H' D = some (.lst ((xs.filter keep).map f)) → Same H1 H' → Q (.ref D) H') : tLc (iList K tl) (gName i0) tt te vs σ H1 Q := hl _ ⟨a, rfl, ⟨_, hp⟩, comp_list keep f hp hz hw ht he hd⟩
/-- the whole numbers from lo on, n of them -/
def rng (lo : Int) (n : Nat) : List V := (List.range n).map fun i => V.int (lo + (i : Nat))
theorem rng_get {lo : Int} {n i : Nat} (h : i < n) : (rng lo n)[i]? = some (.int (lo + i)) := by simp [rng, h]
theorem rng_len {lo : Int} {n : Nat} : (rng lo n).length = n := by simp [rng]
theorem comp_range (keep : V → Bool) (f : V → V) {lo : Int} {n : Nat} (hz : n ≤ 1000000) (hw : ∀ x, wipe ((wipe σ vs).set i0 (some x)) vs = wipe σ vs)
    (ht : ∀ (i : Nat) H, i < n → Same H1 H → Ans tt ((wipe σ vs).set i0 (some (.int (lo + i)))) H (keep (.int (lo + i)))) (he : ∀ (i : Nat) H, i < n → keep (.int (lo + i)) = true → Same H1 H → Val te ((wipe σ vs).set i0 (some (.int (lo + i)))) H (f (.int (lo + i))))
    (hd : ∀ D H', H1 D = none → H' D = some (.lst (((rng lo n).filter keep).map f)) → Same H1 H' → Q (.ref D) H') : tLc (fun _ H R => R (Itr lo n) H) (gName i0) tt te vs σ H1 Q := by
  refine fun D hD => lc_range (fun i H' => H' D = some (.lst ((((rng lo n).take i).filter keep).map f)) ∧ Same H1 H') ⟨upd_same, Same.new hD⟩ ?_ ?_
  · rintro i H' hi ⟨h1, h2⟩
    refine ⟨hw _, comp_step (rng_get hi) (by rw [rng_len]; exact hz) h1 (ht i H' hi h2) (fun k => he i H' hi k h2) fun H2 e1 e2 => ⟨e1, fun b o z => ?_⟩⟩
    rw [e2 b (ne_of_none z hD)]
    exact h2 b o z
  · rintro H' ⟨h1, h2⟩
    have e : (rng lo n).take n = rng lo n := by rw [List.take_of_length_le (by rw [rng_len]; exact Nat.le_refl _)]
    rw [e] at h1
    exact hd D H' hD h1 h2
end
/-! ### values and tests of whole numbers -/
section
variable {σ : St} {H : Hp} {K : PySem.W.Frag} {ta tb tc : TE} {t u : TT} {i j k : Int} {x y v : V} {p : Addr} {xs : List V} {D : Ends} {t1 t2 : TS}
theorem v_rI0 {g : Int → Int → V} (ha : Val ta σ H (.int i)) (hb : Val tb σ H (.int j)) : Val (tOp (rI0 g) ta tb) σ H (g i j) := val_op ha hb fun Q q => ⟨_, _, rfl, rfl, q⟩
theorem v_rI {C : Int → Int → Prop} {g : Int → Int → V} (ha : Val ta σ H (.int i)) (hb : Val tb σ H (.int j)) (hc : C i j) : Val (tOp (rI C g) ta tb) σ H (g i j) := val_op ha hb fun Q q => ⟨_, _, rfl, rfl, hc, q⟩
theorem v_un {g : Int → V} (ha : Val ta σ H (.int i)) : Val (tUn (rU g) ta) σ H (g i) := fun Q q => ha _ ⟨_, rfl, q⟩
theorem v_cb {r : List V → Hp → VK → Prop} (ha : Val ta σ H x) (hr : ∀ Q : VK, Q v H → r [x] H Q) : Val (tCB r (tCons ta tNil)) σ H v := fun Q q => ha _ (hr _ q)
theorem v_ixT (ha : Val ta σ H (.ref p)) (hb : Val tb σ H (.int i)) (hp : SqT K H p xs) (e : atI xs i = some v) : Val (tOp (rIxT K) ta tb) σ H v := val_op ha hb fun Q q => ⟨_, _, _, _, rfl, rfl, hp, e, q⟩
theorem v_ixL (ha : Val ta σ H (.ref p)) (hb : Val tb σ H (.int i)) (hp : SqL K H p xs) (e : atI xs i = some v) : Val (tOp (rIxL K) ta tb) σ H v := val_op ha hb fun Q q => ⟨_, _, _, _, rfl, rfl, hp, e, q⟩
theorem v_chain {f g : Int → Int → Bool} (ha : Val ta σ H (.int i)) (hb : Val tb σ H (.int j)) (hc : Val tc σ H (.int k)) : Val (tChain (rI0 fun i j => .bl (f i j)) (rI0 fun i j => .bl (g i j)) ta tb tc) σ H (.bl (f i j && g j k)) := fun Q q => by
  refine ha _ (hb _ ⟨_, _, rfl, rfl, _, rfl, ?_⟩)
  cases e : f i j with
  | true =>
    rw [if_pos rfl]
    refine hc _ ⟨_, _, rfl, rfl, ?_⟩
    rw [e] at q
    exact q
  | false =>
    rw [if_neg Bool.false_ne_true]
    rw [e] at q
    exact q
theorem a_val {te : TE} {b : Bool} (h : Val te σ H (.bl b)) : Ans (tTest te) σ H b := fun Q q => h _ ⟨_, rfl, q⟩
theorem a_cmp {f : Int → Int → Bool} (ha : Val ta σ H (.int i)) (hb : Val tb σ H (.int j)) : Ans (tTest (tOp (rI0 fun i j => .bl (f i j)) ta tb)) σ H (f i j) := a_val (v_rI0 (g := fun i j => .bl (f i j)) ha hb)
theorem a_eq (ha : Val ta σ H (.int i)) (hb : Val tb σ H (.int j)) : Ans (tTest (tOp rEq ta tb)) σ H (decide (i = j)) := ans_eq ha hb rfl (by rw [dec_int]; exact (Bool.beq_eq_decide_eq i j))
theorem a_ne (ha : Val ta σ H (.int i)) (hb : Val tb σ H (.int j)) : Ans (tTest (tOp rNe ta tb)) σ H (!decide (i = j)) := ans_ne ha hb rfl (by rw [dec_int, Bool.beq_eq_decide_eq])
theorem v_eq (ha : Val ta σ H (.int i)) (hb : Val tb σ H (.int j)) : Val (tOp rEq ta tb) σ H (.bl (decide (i = j))) := val_op ha hb fun Q q => ⟨rfl, by rw [dec_int, Bool.beq_eq_decide_eq]; exact q⟩
theorem a_or {b c : Bool} (ha : Ans t σ H b) (hb : b = false → Ans u σ H c) : Ans (tOr t u) σ H (b || c) := by
  cases b with
  | true => exact ans_or1 ha
  | false => exact ans_or ha (hb rfl)
theorem a_and {b c : Bool} (ha : Ans t σ H b) (hb : b = true → Ans u σ H c) : Ans (tAnd t u) σ H (b && c) := by
  cases b with
  | true => exact ans_and ha (hb rfl)
  | false => exact ans_and0 ha
theorem st_ifb {c : TT} {b : Bool} (h : Ans c σ H b) (y : b = true → t1 D σ H) (n : b = false → t2 D σ H) : tIfS c t1 t2 D σ H := by
  cases b with
  | true => exact st_yes h (y rfl)
  | false => exact st_no h (n rfl)
/-- in an if's condition: what is decided -/
theorem st_ifp {c : TT} {q : Prop} {b : Bool} (h : Ans c σ H b) (e : b = true ↔ q) (y : q → t1 D σ H) (n : ¬ q → t2 D σ H) : tIfS c t1 t2 D σ H :=
  st_ifb h (fun z => y (e.mp z)) fun z => n fun w => by rw [e.mpr w] at z; cases z
theorem st_letX {te : TE} {i : Nat} {t3 : TS} (h : te σ H fun v H1 => t3 D (σ.set i (some v)) H1) : tSeq (tAsg te (gName i)) t3 D σ H := h
/-- a guard: if q: leave -/
theorem st_guard {c : TT} {q : Prop} {b : Bool} {t3 : TS} (h : Ans c σ H b) (e : b = true ↔ q) (y : q → t1 { D with nx := t3 D } σ H) (n : ¬ q → t3 D σ H) : tSeq (tIfS c t1 tNext) t3 D σ H :=
  st_seq (st_ifp h e y n)
/-- x = e, e without effects -/
theorem st_let {te : TE} {i : Nat} {t3 : TS} (h : Val te σ H v) (q : t3 D (σ.set i (some v)) H) : tSeq (tAsg te (gName i)) t3 D σ H := h _ q
end
/-- return f(e), f a built-in word -/
theorem st_ret1 {r : List V → Hp → VK → Prop} {te : TE} {σ : St} {H : Hp} {D : Ends} (h : te σ H fun v H1 => r [v] H1 D.rt) : tRet (tCB r (tCons te tNil)) D σ H := h
theorem v_cb1 {r : List V → Hp → VK → Prop} {te : TE} {σ : St} {H : Hp} {Q : VK} (h : te σ H fun v H1 => r [v] H1 Q) : tCB r (tCons te tNil) σ H Q := h
/-! ### loops -/
section
variable {K : PySem.W.Frag} {a : Addr} {xs : List V} {g : TG} {tb : TS} {D : Ends} {σ : St} {H : Hp} {tl : TE}
theorem st_forT (hl : ∀ R : V → Hp → Prop, R (.ref a) H → tl σ H R) (Pv : Nat → St → Hp → Prop) (h0 : Pv 0 σ H) (hk : ∀ i σ H, i ≤ xs.length → Pv i σ H → SqT K H a xs)
    (hs : ∀ (i : Nat) x σ H, xs[i]? = some x → Pv i σ H → g x σ H fun σ2 H2 => tb { D with nx := Pv (i + 1), ct := Pv (i + 1), bk := D.nx } σ2 H2) (hd : ∀ σ H, Pv xs.length σ H → D.nx σ H) : tFor (iTup K tl) g tb D σ H :=
  hl _ ⟨a, rfl, ⟨_, hk 0 σ H (Nat.zero_le _) h0⟩, for_tup Pv h0 hk hs hd⟩
theorem st_forL (hl : ∀ R : V → Hp → Prop, R (.ref a) H → tl σ H R) (Pv : Nat → St → Hp → Prop) (h0 : Pv 0 σ H) (hk : ∀ i σ H, i ≤ xs.length → Pv i σ H → SqL K H a xs)
    (hs : ∀ (i : Nat) x σ H, xs[i]? = some x → Pv i σ H → g x σ H fun σ2 H2 => tb { D with nx := Pv (i + 1), ct := Pv (i + 1), bk := D.nx } σ2 H2) (hd : ∀ σ H, Pv xs.length σ H → D.nx σ H) : tFor (iList K tl) g tb D σ H :=
  hl _ ⟨a, rfl, ⟨_, hk 0 σ H (Nat.zero_le _) h0⟩, for_list Pv h0 hk hs hd⟩
theorem st_forA (hp : SqA K H a xs) (hl : ∀ R : V → Hp → Prop, R (.ref a) H → tl σ H R) (Pv : Nat → St → Hp → Prop) (h0 : Pv 0 σ H) (hk : ∀ i σ' H', Pv i σ' H' → Same H H')
    (hs : ∀ (i : Nat) x σ H, xs[i]? = some x → Pv i σ H → g x σ H fun σ2 H2 => tb { D with nx := Pv (i + 1), ct := Pv (i + 1), bk := D.nx } σ2 H2) (hd : ∀ σ H, Pv xs.length σ H → D.nx σ H) : tFor (fun σ H R => iList K tl σ H R ∨ iTup K tl σ H R) g tb D σ H := by
  rcases hp with hp | hp
  · exact Or.inl (hl _ ⟨a, rfl, ⟨_, hp⟩, for_list Pv h0 (fun i σ' H' _ z => (hk i σ' H' z).seq hp) hs hd⟩)
  · exact Or.inr (hl _ ⟨a, rfl, ⟨_, hp⟩, for_tup Pv h0 (fun i σ' H' _ z => (hk i σ' H' z).sqT hp) hs hd⟩)
end
section
variable {g : TG} {tb : TS} {D : Ends} {σ : St} {H : Hp} {ta tc : TE} {lo hi : Int} {n : Nat}
theorem st_forR1 (ha : Val ta σ H (.int hi)) (hn : hi = (n : Int)) (bd : n ≤ 1000000) (Pv : Nat → St → Hp → Prop) (h0 : Pv 0 σ H)
    (hs : ∀ i σ H, i < n → Pv i σ H → g (.int (i : Int)) σ H fun σ2 H2 => tb { D with nx := Pv (i + 1), ct := Pv (i + 1), bk := D.nx } σ2 H2) (hd : ∀ σ H, Pv n σ H → D.nx σ H) : tFor (iRng1 (tCons ta tNil)) g tb D σ H := by
  subst hn
  refine ha _ ⟨_, rfl, by omega, by omega, ?_⟩
  have e : ((n : Int)).toNat = n := by omega
  rw [e]
  exact for_range Pv h0 (fun i σ' H' hi p => by rw [Int.zero_add]; exact hs i σ' H' hi p) hd
theorem st_forR2 (ha : Val ta σ H (.int lo)) (hc : Val tc σ H (.int hi)) (hn : hi - lo = (n : Int)) (b1 : -1000000 ≤ lo) (b2 : hi ≤ 1000000) (Pv : Nat → St → Hp → Prop) (h0 : Pv 0 σ H)
    (hs : ∀ i σ H, i < n → Pv i σ H → g (.int (lo + i)) σ H fun σ2 H2 => tb { D with nx := Pv (i + 1), ct := Pv (i + 1), bk := D.nx } σ2 H2) (hd : ∀ σ H, Pv n σ H → D.nx σ H) : tFor (iRng2 (tCons ta (tCons tc tNil))) g tb D σ H := by
  refine ha _ (hc _ ⟨_, _, rfl, ⟨by omega, by omega, by omega, by omega⟩, ?_⟩)
  have e : (hi - lo).toNat = n := by omega
  rw [e]
  exact for_range Pv h0 hs hd
end
/-- for k, x in enumerate(list) -/
theorem st_forE {K : PySem.W.Frag} {a : Addr} {xs : List V} {g : TG} {tb : TS} {D : Ends} {σ : St} {H : Hp} (Pv : Nat → St → Hp → Prop) (h0 : Pv 0 σ H) (hk : ∀ i σ H, i ≤ xs.length → Pv i σ H → SqL K H a xs)
    (hs : ∀ (i : Nat) x T σ H, xs[i]? = some x → Pv i σ H → H T = none → g (.ref T) σ (upd H T (.tup [.int (i : Nat), x])) fun σ2 H2 => tb { D with nx := Pv (i + 1), ct := Pv (i + 1), bk := D.nx } σ2 H2) (hd : ∀ σ H, Pv xs.length σ H → D.nx σ H) : tFor (fun _ H R => R (Ite K a) H) g tb D σ H := by
  refine ⟨fun i m σ H => m = xs.length - i ∧ i ≤ xs.length ∧ Pv i σ H, ⟨_, rfl, Nat.zero_le _, h0⟩, ?_⟩
  rintro i m σ H ⟨rfl, hi, p⟩
  have sq := hk i σ H hi p
  rcases Nat.lt_or_eq_of_le hi with lt | rfl
  · obtain ⟨x, hx⟩ : ∃ x, xs[i]? = some x := ⟨_, List.getElem?_eq_getElem lt⟩
    refine Or.inr ⟨⟨xs, x, sq, hx⟩, Pv (i + 1), fun σ' H' p' => ⟨_, by omega, rfl, lt, p'⟩, ?_⟩
    rintro y H' ⟨T, z, rfl, hT, rfl, hz⟩
    have e := hz xs sq
    rw [hx] at e
    cases e
    exact hs i x T σ H hx p hT
  · exact Or.inl ⟨⟨xs, sq, Nat.le_refl _⟩, hd σ H p⟩
/-- while: the condition without effects -/
theorem st_whileb {tc : TT} {tb : TS} {D : Ends} {σ : St} {H : Hp} (Pv : St → Hp → Prop) (μ : St → Hp → Nat) (h0 : Pv σ H)
    (hc : ∀ σ H, Pv σ H → ∃ b, Ans tc σ H b ∧ (b = true → tb { D with nx := fun σ' H' => Pv σ' H' ∧ μ σ' H' < μ σ H, ct := fun σ' H' => Pv σ' H' ∧ μ σ' H' < μ σ H, bk := D.nx } σ H) ∧ (b = false → D.nx σ H)) : tWhile tc tb D σ H := by
  refine ⟨fun m σ H => m = μ σ H ∧ Pv σ H, ⟨_, rfl, h0⟩, ?_⟩
  rintro m σ H ⟨rfl, p⟩
  obtain ⟨b, hb, y, n⟩ := hc σ H p
  refine hb _ ?_
  cases b with
  | true =>
    rw [if_pos rfl]
    exact ⟨_, fun σ' H' z => ⟨_, z.2, rfl, z.1⟩, y rfl⟩
  | false =>
    rw [if_neg Bool.false_ne_true]
    exact n rfl
/-! an object that is being made -/
theorem But.keepT {K : PySem.W.Frag} {H H' : Hp} {p C dx t : Addr} {fs : List (Str × V)} {xs : List V} (b : But p H H') (hp : H p = some (.ins C dx fs)) (h : SqT K H t xs) : SqT K H' t xs := by
  rcases h with (h | ⟨o, h⟩) | h
  · exact Or.inl (Or.inl (b _ _ h (ne_of h hp (by intro z; cases z))))
  · exact Or.inl (Or.inr ⟨o, b _ _ h (ne_of h hp (by intro z; cases z))⟩)
  · exact Or.inr h
theorem But.keepL {K : PySem.W.Frag} {H H' : Hp} {p C dx t : Addr} {fs : List (Str × V)} {xs : List V} (b : But p H H') (hp : H p = some (.ins C dx fs)) (h : SqL K H t xs) : SqL K H' t xs := by
  rcases h with (h | ⟨o, h⟩) | h
  · exact Or.inl (Or.inl (b _ _ h (ne_of h hp (by intro z; cases z))))
  · exact Or.inl (Or.inr ⟨o, b _ _ h (ne_of h hp (by intro z; cases z))⟩)
  · exact Or.inr h
theorem But.keepA {K : PySem.W.Frag} {H H' : Hp} {p C dx t : Addr} {fs : List (Str × V)} {xs : List V} (b : But p H H') (hp : H p = some (.ins C dx fs)) (h : SqA K H t xs) : SqA K H' t xs := h.imp (fun h => b.keepL hp h) fun h => b.keepT hp h
section
variable {K : PySem.W.Frag} {D : Ends} {σ : St} {H : Hp} {ta tv te : TE} {t3 : TS} {p C dx : Addr} {fs : List (Str × V)} {f : Str} {y : V} {PV : V → Hp → Prop}
theorem st_mk (hv : Val tv σ H y) (ha : Val ta σ H (.ref p)) (hp : H p = some (.ins C dx fs)) (hc : Cls K C) (hn : NoAttr K C f) (hl : fs.length < 1000)
    (q : ∀ H', H' p = some (.ins C dx (putF f y fs)) → But p H H' → t3 D σ H') : tSeq (sFld K ta tv f) t3 D σ H := hv _ (ha _ ⟨p, C, dx, fs, rfl, hp, hc, hn, hl, q _ upd_same (But.refl p H).upd⟩)
theorem st_mkH (hv : ValH tv σ H PV) (ha : ∀ H, Val ta σ H (.ref p)) (hp : ∀ y H1, PV y H1 → H1 p = some (.ins C dx fs)) (hc : Cls K C) (hn : NoAttr K C f) (hl : fs.length < 1000)
    (q : ∀ y H1 H', PV y H1 → H' p = some (.ins C dx (putF f y fs)) → But p H1 H' → t3 D σ H') : tSeq (sFld K ta tv f) t3 D σ H :=
  hv _ fun y H1 pv => ha H1 _ ⟨p, C, dx, fs, rfl, hp y H1 pv, hc, hn, hl, q y H1 _ pv upd_same (But.refl p H1).upd⟩
theorem st_guardX {c : TT} {t1 : TS} (h : c σ H fun b H1 => if b = true then t1 { D with nx := t3 D } σ H1 else t3 D σ H1) : tSeq (tIfS c t1 tNext) t3 D σ H := h
/-- what stands behind t1 is shown once -/
theorem st_share {t1 : TS} (p : Prop) (r : p → t3 D σ H) (h : ∀ N : St → Hp → Prop, (p → N σ H) → t1 { D with nx := N } σ H) : tSeq t1 t3 D σ H := h _ r
theorem st_shareH {t1 : TS} (p : Hp → Prop) (r : ∀ H', p H' → t3 D σ H') (h : ∀ N : St → Hp → Prop, (∀ H', p H' → N σ H') → t1 { D with nx := N } σ H) : tSeq t1 t3 D σ H := h _ r
theorem tyL {p : Addr} {xs : List V} (h : H p = some (.lst xs)) : tyV K "list" (.ref p) H := Or.inl ⟨rfl, _, Or.inl (Or.inl h)⟩
/-- xs[i] = e -/
theorem st_put {tb : TE} {xs : List V} {i : Int} {j : Nat} {v : V} (hv : Val te σ H v) (ha : Val ta σ H (.ref p)) (hb : Val tb σ H (.int i)) (hp : H p = some (.lst xs)) (hi : ixN xs.length i = some j) (q : D.nx σ (upd H p (.lst (xs.set j v)))) : tAsg te (gSub ta tb rSetL) D σ H :=
  hv _ (ha _ (hb _ ⟨p, xs, i, j, rfl, rfl, hp, hi, q⟩))
theorem st_puts {tb : TE} {xs : List V} {i : Int} {j : Nat} {v : V} (hv : Val te σ H v) (ha : Val ta σ H (.ref p)) (hb : Val tb σ H (.int i)) (hp : H p = some (.lst xs)) (hi : ixN xs.length i = some j) (q : t3 D σ (upd H p (.lst (xs.set j v)))) : tSeq (tAsg te (gSub ta tb rSetL)) t3 D σ H :=
  hv _ (ha _ (hb _ ⟨p, xs, i, j, rfl, rfl, hp, hi, q⟩))
theorem st_shareS {t1 : TS} (p : St → Hp → Prop) (r : ∀ σ' H', p σ' H' → t3 D σ' H') (h : ∀ N : St → Hp → Prop, (∀ σ' H', p σ' H' → N σ' H') → t1 { D with nx := N } σ H) : tSeq t1 t3 D σ H := h _ r
/-- x = e, e a whole number of which only a bound is kept -/
theorem st_letP {i : Nat} {z : Int} (P : Int → Prop) (hv : Val te σ H (.int z)) (hz : P z) (q : ∀ z, P z → t3 D (σ.set i (some (.int z))) H) : tSeq (tAsg te (gName i)) t3 D σ H := hv _ (q z hz)
/-- a word that is called for its refusals -/
theorem st_do (h : te σ H fun _ H1 => t3 D σ H1) : tSeq (tDrop te) t3 D σ H := h
end
theorem v_if {σ : St} {H : Hp} {tA : TT} {ta tb : TE} {b : Bool} {v : V} (h : Ans tA σ H b) (y : b = true → Val ta σ H v) (n : b = false → Val tb σ H v) : Val (tIf tA ta tb) σ H v := fun Q q => by
  refine h _ ?_
  cases b with
  | true => exact y rfl _ q
  | false => exact n rfl _ q
/-! calls of own words that change nothing -/
section
variable {σ : St} {H : Hp} {ta tb tc : TE} {x y z v : V} {sp : Sp} {E : XK}
theorem v_call1 (ha : Val ta σ H x) (hs : ∀ Q : VK, Q v H → sp [x] H Q E) : Val (tCall sp [] E (tCons ta tNil)) σ H v := fun Q q => ha _ (hs _ q)
theorem v_call2 (ha : Val ta σ H x) (hb : Val tb σ H y) (hs : ∀ Q : VK, Q v H → sp [x, y] H Q E) : Val (tCall sp [] E (tCons ta (tCons tb tNil))) σ H v := fun Q q => ha _ (hb _ (hs _ q))
theorem v_call3 (ha : Val ta σ H x) (hb : Val tb σ H y) (hc : Val tc σ H z) (hs : ∀ Q : VK, Q v H → sp [x, y, z] H Q E) : Val (tCall sp [] E (tCons ta (tCons tb (tCons tc tNil)))) σ H v := fun Q q => ha _ (hb _ (hc _ (hs _ q)))
end
theorem st_retop {r : R2} {te tb : TE} {σ : St} {H : Hp} {D : Ends} (h : te σ H fun x H1 => tb σ H1 fun y H2 => r x y H2 D.rt) : tRet (tOp r te tb) D σ H := h
theorem op_l {r : R2} {te tb : TE} {σ : St} {H : Hp} {Q : VK} (h : te σ H fun x H1 => tb σ H1 fun y H2 => r x y H2 Q) : tOp r te tb σ H Q := h
end L2

namespace L2
open PySem PySem.Spec PyProof.Rows
section
variable {X : Cx} {a b c d : Expr} {ta tb tc td t1 t2 : TE} {pos : Pos}
/-- an expression with two readings (a method of one of several classes) -/
theorem pe_alt {e : Expr} (h1 : PE X e t1) (h2 : PE X e t2) : PE X e (fun σ H Q => t1 σ H Q ∨ t2 σ H Q) := by
  refine ⟨fun pins s σ H Q I h => ?_⟩
  rcases h with h | h
  · exact h1.run pins s σ H Q I h
  · exact h2.run pins s σ H Q I h
/-- a op1 b op2 c op3 d -/
def tChain3 (r r' r'' : R2) (ta tb tc td : TE) : TE := fun σ H Q => ta σ H fun x H1 => tb σ H1 fun y H2 => r x y H2 fun z H3 => ∃ k, z = .bl k ∧
  (if k = true then tc σ H3 fun u H4 => r' y u H4 fun z' H5 => ∃ k', z' = .bl k' ∧ (if k' = true then td σ H5 fun v H6 => r'' u v H6 Q else Q (.bl false) H5) else Q (.bl false) H3)
theorem pe_chain3 {op op' op'' : CmpOp} {r r' r'' : R2} (ho : OpR X (compareOp op) r) (ho' : OpR X (compareOp op') r') (ho'' : OpR X (compareOp op'') r'') (ha : PE X a ta) (hb : PE X b tb) (hc : PE X c tc) (hd : PE X d td)
    (hm : lastMarks [op, op', op''] [b, c, d] = false := by with_unfolding_all rfl) : PE X (.Compare a [op, op', op''] [b, c, d] pos) (tChain3 r r' r'' ta tb tc td) := by
  refine ⟨fun pins s σ H Q I h => ?_⟩
  refine Compare_chain (thn (ha.run pins s σ H _ I h) fun v s1 ⟨x, H1, I1, r1, q1⟩ => chain_link (thn (hb.run pins s1 σ H1 _ I1 q1) fun u s2 ⟨y, H2, I2, r2, q2⟩ =>
    thn (ho pins s2 σ H2 x y v u _ I2 r1 r2 q2) fun e s3 ⟨z, H3, I3, r3, k, ez, q3⟩ => ?_)) hm
  subst ez
  cases r3
  refine wpAny_truthy_bool ?_
  cases k with
  | false => exact ite_ff ⟨.bl false, H3, I3, rfl, q3⟩
  | true =>
    refine ite_tt (chain_link (thn (hc.run pins s3 σ H3 _ I3 q3) fun w' s4 ⟨z', H4, I4, r4, q4⟩ => thn (ho' pins s4 σ H4 y z' u w' _ I4 r2 r4 q4) fun e5 s5 ⟨z5, H5, I5, r5, k5, ez5, q5⟩ => ?_))
    subst ez5
    cases r5
    refine wpAny_truthy_bool ?_
    cases k5 with
    | false => exact ite_ff ⟨.bl false, H5, I5, rfl, q5⟩
    | true => exact ite_tt (chain_last (thn (hd.run pins s5 σ H5 _ I5 q5) fun w6 s6 ⟨z6, H6, I6, r6, q6⟩ => ho'' pins s6 σ H6 z' z6 w' w6 Q I6 r4 r6 q6))
theorem v_chain3 {f g h : Int → Int → Bool} {σ : St} {H : Hp} {i j k l : Int} (ha : ∀ Q : VK, Q (.int i) H → ta σ H Q) (hb : ∀ Q : VK, Q (.int j) H → tb σ H Q) (hc : ∀ Q : VK, Q (.int k) H → tc σ H Q) (hd : ∀ Q : VK, Q (.int l) H → td σ H Q) (Q : VK) (q : Q (.bl (f i j && g j k && h k l)) H) :
    tChain3 (rI0 fun i j => .bl (f i j)) (rI0 fun i j => .bl (g i j)) (rI0 fun i j => .bl (h i j)) ta tb tc td σ H Q := by
  refine ha _ (hb _ ⟨_, _, rfl, rfl, _, rfl, ?_⟩)
  cases e : f i j with
  | false =>
    rw [if_neg Bool.false_ne_true]
    rw [e] at q
    exact q
  | true =>
    rw [if_pos rfl]
    refine hc _ ⟨_, _, rfl, rfl, _, rfl, ?_⟩
    cases e2 : g j k with
    | false =>
      rw [if_neg Bool.false_ne_true]
      rw [e, e2] at q
      exact q
    | true =>
      rw [if_pos rfl]
      refine hd _ ⟨_, _, rfl, rfl, ?_⟩
      rw [e, e2] at q
      exact q
end
end L2

/-! enumerate over a tuple -/
namespace PySem
open AutoSeq1 (wpAny_loadPart')
theorem xr_enum_new (tp : Addr) (vs : Array Value) (n0 : Nat) (di : Option Addr) (ss : Array (Option Value)) :
    Meets (Builtin.«enumerate.__new__» ⟨[.type "enumerate", .ref tp], []⟩) (fun _ R sh => sh.heap.get? tp = some { cls := .type "tuple", dict := di, data := .seq vs n0, slots := ss } ∧
      R (.ok (.ret (.ref (sh.heap.push { cls := .type "tuple_iterator", data := .fields #[.ref tp, .int 0 0] }).objs.size)))
        { sh with heap := (sh.heap.push { cls := .type "tuple_iterator", data := .fields #[.ref tp, .int 0 0] }).push { cls := .type "enumerate", data := .fields #[.none, .bool false, .ref sh.heap.objs.size, rawInt 0, .none, .none] } }) :=
  .of_wp fun pr wo Ar Rr sh hy => by
    obtain ⟨hp, gg, dd, tt, oo⟩ := sh; obtain ⟨hlt, hy⟩ := hy
    have hsubE := sub_enumerate
    have hTup : Heap.IsTuple (Shared.heap ⟨hp, gg, dd, tt, oo⟩) tp vs := ⟨_, hlt, rfl, n0, rfl⟩
    wp_walk using wpAny_loadPart' hlt
    refine wpAny_stack_any fun st0 => wpAny_pure ?_
    split
    · rename_i cc _ _ _ _ _
      cases (cc == Value.type "enumerate")
      · wp_walk using wpAny_loadPart' hlt, wpAny_pyIter_tuple hTup
        exact ⟨_, rfl, hy⟩
      · wp_walk using wpAny_loadPart' hlt, wpAny_pyIter_tuple hTup
        exact ⟨_, rfl, hy⟩
    · wp_walk using wpAny_loadPart' hlt, wpAny_pyIter_tuple hTup
      exact ⟨_, rfl, hy⟩
theorem xr_call_enum {prog : Program} {w : World} {A : Around} {E : Value → Shared → Prop} {sh : Shared} {tp : Addr} {vs : Array Value} {Q : Value → Shared → Prop} (hT : sh.heap.IsTuple tp vs)
    (k : ∀ g, IsEnum g (sh.heap.objs.size + 1) sh.heap.objs.size 0 .none → g.IsTupleIter sh.heap.objs.size tp 0 → (∀ c u, sh.heap.get? c = some u → g.get? c = some u) → Q (.ref (sh.heap.objs.size + 1)) { sh with heap := g }) :
    wpAny (model prog w) A (call (.type "enumerate") [.ref tp]) Q E sh := by
  obtain ⟨⟨cc, di, da, ss⟩, hlt, ec, n0, ed⟩ := hT
  replace ec : cc = .type "tuple" := ec
  replace ed : da = .seq vs n0 := ed
  subst ec ed
  refine callType_new F.called_enumerate (by decide) (F.typeCall_enumerate_1 _) (F.newCall_enumerate_1 _) (fun ob => F.args_object_init_2 ob _) F.entry_enumerate_new (xr_enum_new tp vs n0 di ss) ⟨hlt, ?_⟩
  have z1 : (sh.heap.push { cls := .type "tuple_iterator", data := .fields #[.ref tp, .int 0 0] }).objs.size = sh.heap.objs.size + 1 := Heap.size_push ..
  show _ ∧ _
  rw [z1]
  have hen : IsEnum ((sh.heap.push { cls := .type "tuple_iterator", data := .fields #[.ref tp, .int 0 0] }).push { cls := .type "enumerate", data := .fields #[.none, .bool false, .ref sh.heap.objs.size, rawInt 0, .none, .none] }) (sh.heap.objs.size + 1) sh.heap.objs.size 0 .none := by
    have z2 := Heap.get?_push_size (sh.heap.push { cls := .type "tuple_iterator", data := .fields #[.ref tp, .int 0 0] }) (o := { cls := .type "enumerate", data := .fields #[.none, .bool false, .ref sh.heap.objs.size, rawInt 0, .none, .none] }) rfl
    rw [z1] at z2; exact z2
  exact ⟨⟨_, hen, rfl⟩, k _ hen ⟨_, Heap.get?_push_of_some _ (Heap.get?_push_size _ rfl), rfl, rfl⟩ fun c u y => Heap.get?_push_of_some _ (Heap.get?_push_of_some _ y)⟩
theorem xr_draws {prog : Program} {w : World} {A : Around} (hn : A.handled = none) (it tp : Addr) (ne : tp ≠ it) (vs : Array Value) : Draws prog w A it [it, tp] vs.size (fun j v => vs[j]? = some v) (fun j g => g.IsTupleIter it tp j ∧ g.IsTuple tp vs) where
  live := fun _ _ st => st.1.imp fun _ z => z.1
  frame := fun _ _ _ st hk => by
    obtain ⟨⟨o1, e1, r1⟩, ⟨o2, e2, r2⟩⟩ := st
    exact ⟨⟨o1, hk it (by simp) o1 e1, r1⟩, ⟨o2, hk tp (by simp) o2 e2, r2⟩⟩
  item := fun j sh Q E lt st hQ => RZ.nextOf_tuple_item st.1 st.2 (x := vs[j]) (by simp [lt]) fun g st2 sb => hQ _ g sh.toks (by simp [lt]) ⟨st2, st.2.extBut sb.extBut ne⟩ sb
  done := fun sh Q E st hE => RZ.nextOf_tuple_end hn st.1 st.2 (by simp) hE
theorem xr_enum_end {prog : Program} {w : World} {A : Around} {E : Value → Shared → Prop} {sh : Shared} {en it tp : Addr} {j : Nat} {k : Int} {vs : Array Value} {old : Value} {Q : Option Value → Shared → Prop} (hn : A.handled = none)
    (z1 : IsEnum sh.heap en it k old) (z2 : sh.heap.IsTupleIter it tp j) (z3 : sh.heap.IsTuple tp vs) (hx : vs[j]? = none) (hQ : ∀ g, Heap.ExtBut it sh.heap g → Q none { sh with heap := g }) : wpAny (model prog w) A (pyNext (.ref en)) Q E sh := by
  have hEn : sh.TypeIs (.ref en) "enumerate" := ⟨_, z1, rfl⟩
  unfold pyNext
  refine wpAny_bind (wpAny_attempt (wpAny_callSpecial?_slot (name := Str.ofString "__next__") hEn F.slot_enumerate_next (wpAny_call_entry F.slot_enumerate_next hEn F.entry_enumerate_next ?_ (F.args_enumerate_next_1 _))))
  show wpAny _ _ (field (.ref en) 2 >>= _) _ _ _
  refine wpAny_bind (wpAny_field z1 rfl (x := .ref it) rfl (wpAny_bind (RZ.nextOf_tuple_end (show A.in1.handled = none from hn) z2 z3 hx fun g c eb ec => ?_)))
  obtain ⟨u, hu, cu⟩ := ec
  exact wpAny_bind (wpAny_isInstance (T := "StopIteration") (b := true) ⟨u, hu, cu⟩ isSubtype_stop (wpAny_pure (hQ _ eb)))
end PySem
namespace L2
open PySem PySem.Spec PyProof.Rows
/-- the tuple at a, each item in a new pair -/
def Itte (K : PySem.W.Frag) (a : Addr) : It :=
  ⟨fun i H => ∃ (ys : List V) (y : V), SqT K H a ys ∧ ys[i]? = some y, fun i H v H' => ∃ T y, v = .ref T ∧ H T = none ∧ H' = upd H T (.tup [.int (i : Nat), y]) ∧ ∀ ys, SqT K H a ys → ys[i]? = some y, fun i H => ∃ ys : List V, SqT K H a ys ∧ ys.length ≤ i⟩
theorem turn_enumT {P : Program} {w : World} {K : PySem.W.Frag} {elts : List Expr} {kk : Nat} {tpos : Pos} (tp en it : Addr) :
    Turn P w K (.Tuple elts kk tpos) (Itte K tp) [en, it] en (fun j g => (∃ old, IsEnum g en it ((j : Nat) : Int) old) ∧ g.IsTupleIter it tp j ∧ en ≠ it) where
  mem := by simp
  obj := fun j g st c hc => by
    obtain ⟨⟨old, z1⟩, ⟨u, z2, _, z3⟩, _⟩ := st
    have e2 : c = en ∨ c = it := by simpa using hc
    rcases e2 with z | z
    · rw [z]; exact ⟨_, z1, fun v q => nomatch q⟩
    · rw [z]; exact ⟨u, z2, fun v q => by rw [z3] at q; cases q⟩
  keep := fun j g g' st k => by
    obtain ⟨⟨old, z1⟩, z2, ne⟩ := st
    exact ⟨⟨old, k en (by simp) _ z1⟩, z2.at fun o q => k it (by simp) o q, ne⟩
  item := by
    intro X eP ew eK hc j pins s σ H E I hf st hg
    subst eP ew eK
    obtain ⟨⟨old, z1⟩, z2, ne⟩ := st
    obtain ⟨ys, y, hq, hy⟩ := hg
    obtain ⟨its, rv, pt, hz⟩ := I.tuple hq
    obtain ⟨u, hu, ru⟩ := rv.get hy
    have hel : en < s.heap.objs.size := Heap.lt_size z1
    have hil : it < s.heap.objs.size := by obtain ⟨_, q, _⟩ := z2; exact Heap.lt_size q
    have hTup : s.heap.IsTuple tp its.toArray := pt
    have tpi : tp ≠ it := fun z => by
      obtain ⟨o1, e1, c1, _⟩ := z2
      obtain ⟨o2, e2, c2, _⟩ := hTup
      rw [z, e1] at e2
      cases e2
      rw [c1] at c2
      exact absurd c2 (fun y => by injection y with y; exact absurd y (by decide))
    have tpe : en ≠ tp := fun z => by
      obtain ⟨o2, e2, c2, _⟩ := hTup
      rw [← z, z1] at e2
      cases e2
      exact absurd c2 (fun y => by injection y with y; exact absurd y (by decide))
    have D : Draws X.prog X.w X.A.in1 it [it, tp] its.toArray.size (fun j v => its.toArray[j]? = some v) (fun j g => g.IsTupleIter it tp j ∧ g.IsTuple tp its.toArray) := xr_draws (A := X.A.in1) (show X.A.in1.handled = none from I.ok.hd hc) it tp tpi its.toArray
    have lt : j < its.toArray.size := by
      rw [List.size_toArray]
      exact (List.getElem?_eq_some_iff.mp hu).1
    refine wpAny_pyNext_enum_itemD D z1 ⟨z2, hTup⟩ lt ne (by simp [ne, tpe]) fun v g tk hv ho z4 hT hsz hk => ?_
    have ev : v = u := by
      have h1 : its.toArray[j]? = some v := hv
      have h2 : its.toArray[j]? = some u := by simpa using hu
      rw [h1] at h2
      exact Option.some.inj h2
    subst ev
    refine ⟨_, rfl, wpAny_letOwnedTupleGo_enum (s := { s with heap := g, toks := tk + 1 }) ho fun g2 z5 sb => ?_⟩
    have hT2 : g2.get? s.heap.objs.size = some { cls := .type "tuple", data := .seq #[.int j tk, v] } := (sb.2 _ (Nat.ne_of_gt hel)).trans hT
    have new : ObjOk X.prog X.w (upd H s.heap.objs.size (.tup [.int (j : Nat), y])) g2 s.heap.objs.size (.tup [.int (j : Nat), y]) :=
      ⟨by show 2 ≤ sizeLine; decide, [.int j tk, v], .cons ⟨_, rfl⟩ (.cons ru .nil), ⟨_, hT2, rfl, _, rfl⟩⟩
    have I1 : Inv X pins σ (upd H s.heap.objs.size (.tup [.int (j : Nat), y])) { s with heap := g2, toks := tk + 1 } :=
      I.turnedNew (ch := [en, it]) (fun c ob hb q => (sb.2 c (fun z => hb (by simp [z]))).trans (hk c ob (fun z => hb (by simp [z])) (fun z => hb (by simp [z])) q)) hf (Nat.le_refl _) new
    refine ⟨.ref s.heap.objs.size, _, I1, rfl, ⟨_, y, rfl, I.hok.fresh (Nat.le_refl _), rfl, fun xs hx => by rw [I.tuple_inj hx hq]; exact hy⟩, ⟨⟨v, ?_⟩, z4.1.at fun o q => (sb.2 it (Ne.symm ne)).trans q, ne⟩, fun c hb => ?_⟩
    · have e1 : ((j + 1 : Nat) : Int) = (j : Int) + 1 := by omega
      rw [e1]; exact z5
    · have hb' : c < s.heap.objs.size := by
        have e2 : c = en ∨ c = it := by simpa using hb
        rcases e2 with z | z
        · rw [z]; exact hel
        · rw [z]; exact hil
      rw [upd_ne (Nat.ne_of_lt hb')]
      exact (hf c hb).1
  done := by
    intro X eP ew eK hc j pins s σ H E I hf st hg
    subst eP ew eK
    obtain ⟨⟨old, z1⟩, z2, ne⟩ := st
    obtain ⟨ys, hq, hy⟩ := hg
    obtain ⟨its, rv, pt, hz⟩ := I.tuple hq
    obtain ⟨f0, f1, f2, f3, f4, f5⟩ := hf it (by simp)
    have hl := rv.length
    have hTup : s.heap.IsTuple tp its.toArray := pt
    exact xr_enum_end (I.ok.hd hc) z1 z2 hTup (by simp; omega) fun g eb => ⟨rfl, I.turned (t' := s.toks) (fun c o hb q => eb c o hb q) f0 f1 f3 f4 f5⟩
  self := fun A j s Q E st h => let ⟨⟨_, z⟩, _⟩ := st; wpAny_pyIter_enum z h
def iEnumT (K : PySem.W.Frag) (ta : TA) : TI := fun σ H R => ta σ H fun vs H1 => ∃ a xs, vs = [.ref a] ∧ SqT K H1 a xs ∧ R (Itte K a) H1
theorem pi_enumT {X : Cx} {e : Expr} {ta : TA} {p pos tpos : Pos} {elts : List Expr} {kk : Nat} (hg : Gl X "enumerate") (hm : X.mg "enumerate" = none) (ha : PA X [e] ta) (hs : starEach [e] X.env = [(false, eval e X.env)] := by rfl) :
    PI X (.Tuple elts kk tpos) (.Call (.Name "enumerate" p) [e] [] pos) (iEnumT X.K ta) := by
  refine ⟨fun pins s σ H R I h => ?_⟩
  refine Call_ (ld_blt I hg hm boot_enumerate (PyProof.Rows.callWith_type1 (thn (ha.run pos pins s σ H _ I h) fun us s1 ⟨vs, H1, I1, r1, q1⟩ => ?_) hs rfl))
  obtain ⟨tp, xs, ex, hq, q⟩ := q1
  subst ex
  cases r1 with
  | cons r rr =>
    cases rr
    cases r
    obtain ⟨its, rv, pt, hz⟩ := I1.tuple hq
    refine xr_call_enum (show s1.heap.IsTuple tp its.toArray from pt) fun g z1 z2 hk => wpAny_pyIter_enum z1 ?_
    have I2 : Inv X pins σ H1 { s1 with heap := g } := I1.kept (t' := s1.toks) hk
    refine ⟨s1.heap.objs.size + 1, [s1.heap.objs.size + 1, s1.heap.objs.size], _, _, H1, rfl, I2, turn_enumT tp (s1.heap.objs.size + 1) s1.heap.objs.size, ⟨⟨.none, z1⟩, z2, Nat.succ_ne_self _⟩, fun c hb => ?_, q⟩
    have e2 : c = s1.heap.objs.size + 1 ∨ c = s1.heap.objs.size := by simpa using hb
    have hle : s1.heap.objs.size ≤ c := by
      rcases e2 with z | z
      · rw [z]; exact Nat.le_add_right _ _
      · rw [z]; exact Nat.le_refl _
    exact I1.fpOk hle (I1.hok.fresh hle)
/-- enumerate of a list or of a tuple -/
theorem pi_enumA {X : Cx} {e : Expr} {ta : TA} {p pos tpos : Pos} {elts : List Expr} {kk : Nat} (hg : Gl X "enumerate") (hm : X.mg "enumerate" = none) (ha : PA X [e] ta) (hs : starEach [e] X.env = [(false, eval e X.env)] := by rfl) :
    PI X (.Tuple elts kk tpos) (.Call (.Name "enumerate" p) [e] [] pos) (fun σ H R => iEnum X.K ta σ H R ∨ iEnumT X.K ta σ H R) := PI.two (pi_enum hg hm ha hs) (pi_enumT hg hm ha hs)
/-- a def with defaults that may raise -/
theorem FunD.okX {P : Program} {w : World} {K : PySem.W.Frag} {mg : Str → Option Value} {base : Heap} {x qual : Str} {params : Arguments} {body : List Stmt} {scope : Scope} {dvs : List V} {kws : List (Str × V)} {f : Addr} {fd : FuncData} {N ps : List Str} {k : Nat} {sp : Sp} (F : FunD K x qual params body scope dvs kws f fd) (S : FnScope N ps scope) (ar : ∀ vs H Q E, sp vs H Q E → vs.length = ps.length)
    (hb : ∀ (cdv : Value) (A : Around) (outer : List Env) (s : Shared) (H : Hp) (vs : List V) (Q : VK) (E : XK), Room k (A.deeper (envOfC qual scope s.heap.objs.size f cdv)) → sp vs H Q E →
      ∃ t, PSs (cxOf (L2.CX P w) P w K mg base N qual scope f cdv A outer s H E) body t ∧ t { nx := fun _ H' => Q .non H', rt := Q } (start N vs) H) : FnOk P w K mg base (L2.CX P w) (k + 1) f fd ps sp := F.ok S ar hb
/-! within a comprehension -/
def rTupK (K : PySem.W.Frag) : List V → Hp → VK → Prop := fun xs H Q => ∃ p ys, xs = [.ref p] ∧ ((SqL K H p ys ∧ ∀ l, H l = none → Q (.ref l) (upd H l (.tup ys))) ∨ (SqT K H p ys ∧ Q (.ref p) H))
theorem call_tupK {X : Cx} (K : PySem.W.Frag) (h : X.K = K := by rfl) : CallR X (.type "tuple") (rTupK K) := by subst h; exact call_tuple_of
def rLstK (K : PySem.W.Frag) : List V → Hp → VK → Prop := fun xs H Q => ∃ p ys, xs = [.ref p] ∧ (SqL K H p ys ∨ SqT K H p ys) ∧ ∀ l, H l = none → Q (.ref l) (upd H l (.lst ys))
theorem call_lstK {X : Cx} (K : PySem.W.Frag) (h : X.K = K := by rfl) : CallR X (.type "list") (rLstK K) := by subst h; exact call_list_of
end L2

/-! x in o, o of an own class with __contains__ -/
namespace L2
open PySem PySem.Spec PyProof.Rows
open PySem.W in
theorem contains_kin {M : Model} {A : Around} {E : Value → Shared → Prop} {s : Shared} {K : Frag} {x C f : Addr} {ox : Obj} {od : Option Obj} {v : Value} {Q : Bool → Shared → Prop} (X : K.In s.heap) (I : InstAt s.heap x ox C od) (hs : findIn K (.ref C) "__contains__" = some (some (.ref f))) (hf : isFn K (.ref f) = true)
    (h : wpAny M A (call (.ref f) [.ref x, v]) (fun r s' => wpAny M A (truthy r) Q E s') E s) : wpAny M A (contains (.ref x) v) Q E s := by
  unfold contains
  refine wpAny_holding (wpAny_bind (wpAny_bind (I.type.here ((looks_findIn X hs).here ?_))))
  rw [if_neg (by simp)]
  exact wpAny_bind (unlessNone_K X I hs hf h)
/-- what x in o asks of the promise: a bool comes back -/
def rInOwn (C : Addr) (sp : Sp) (E : XK) (neg : Bool) : R2 := fun x y H Q => ∃ a dx fs, y = .ref a ∧ H a = some (.ins C dx fs) ∧ sp [.ref a, x] H (fun v H1 => ∃ b, v = .bl b ∧ Q (.bl (if neg then !b else b)) H1) E
section
variable {X : Cx} {CX : CXT} {k : Nat} {C f : Addr} {fd : FuncData} {ps : List Str} {sp : Sp} {E : XK}
theorem contains_own {pins : List (Addr × Obj)} {s : Shared} {σ : St} {H : Hp} {x : V} {v : Value} {a dx : Addr} {fs : List (Str × V)} {R : V → Hp → Prop} {Q : Bool → Shared → Prop} (hm : Meth X.K C "__contains__" f) (F : FnOk X.prog X.w X.K X.mg X.base CX k f fd ps sp) (hr : Room k X.A) (hb : Binds X.K fd ps []) (hx : Passes CX X E) (I : Inv X pins σ H s) (rx : RelV x v)
    (ea : H a = some (.ins C dx fs)) (h : sp [.ref a, x] H R E) (hq : ∀ v H1 s1, Inv X pins σ H1 s1 → R v H1 → ∃ b, v = .bl b ∧ Q b s1) : wpAny (model X.prog X.w) X.A (contains (.ref a) v) Q X.xe s := by
  obtain ⟨mA, O, _, _, _, _⟩ := ins_get I.hok ea
  obtain ⟨od, J, _⟩ := O.look
  refine contains_kin I.kIn J hm.at_ hm.fn ?_
  refine thn (run_fn (us := [.ref a, v]) (vs := [.ref a, x]) F hr hb .nil hx I (.cons rfl (.cons rx .nil)) (Q := R) (by rw [List.append_nil]; exact h)) fun r s1 ⟨y, H1, I1, ry, q⟩ => ?_
  obtain ⟨b, rfl, q2⟩ := hq y H1 s1 I1 q
  obtain rfl : r = .bool b := ry
  exact wpAny_truthy_bool q2
theorem op_inOwn (hm : Meth X.K C "__contains__" f) (F : FnOk X.prog X.w X.K X.mg X.base CX k f fd ps sp) (hr : Room k X.A) (hb : Binds X.K fd ps []) (hx : Passes CX X E) : OpR X (compareOp .In) (rInOwn C sp E false) := by
  rintro pins s σ H x y v u Q I rx ry ⟨a, dx, fs, rfl, ea, h⟩
  obtain rfl : u = Value.ref a := ry
  exact wpAny_bind (contains_own hm F hr hb hx I rx ea h fun v H1 s1 I1 ⟨b, e, q⟩ => ⟨b, e, wpAny_pure ⟨.bl b, H1, I1, rfl, q⟩⟩)
theorem op_notInOwn (hm : Meth X.K C "__contains__" f) (F : FnOk X.prog X.w X.K X.mg X.base CX k f fd ps sp) (hr : Room k X.A) (hb : Binds X.K fd ps []) (hx : Passes CX X E) : OpR X (compareOp .NotIn) (rInOwn C sp E true) := by
  rintro pins s σ H x y v u Q I rx ry ⟨a, dx, fs, rfl, ea, h⟩
  obtain rfl : u = Value.ref a := ry
  exact wpAny_bind (contains_own hm F hr hb hx I rx ea h fun v H1 s1 I1 ⟨b, e, q⟩ => ⟨b, e, wpAny_pure ⟨.bl (!b), H1, I1, rfl, q⟩⟩)
/-- a target with two readings (the item is a tuple, or a list) -/
theorem pg_alt {e : Expr} {g1 g2 : TG} (h1 : PG X e g1) (h2 : PG X e g2) : PG X e (fun v σ H Q => g1 v σ H Q ∨ g2 v σ H Q) := by
  refine ⟨fun pins s σ H v u Q I r h => ?_⟩
  rcases h with h | h
  · exact h1.run pins s σ H v u Q I r h
  · exact h2.run pins s σ H v u Q I r h
/-- C.m(e, ..) where m is a staticmethod of the class at C -/
def tSMethA (C : Addr) (sp : Sp) (dvs : List V) (E : XK) (ta : TE) (t : TA) : TE := fun σ H Q => ta σ H fun x H1 => x = .ref C ∧ t σ H1 fun vs H2 => sp (vs ++ dvs) H2 Q E
theorem pe_smeth {p g : Addr} {mc : Value} {ds : List Value} {dvs : List V} {o e : Expr} {es : List Expr} {m : Str} {pos apos : Pos} {ta : TE} {t : TA} {pl : Sem Bool}
    (ho : PE X o ta) (r : ClX.CRead X.K C mc) (c : SMet X.K C mc m p g) (F : FnOk X.prog X.w X.K X.mg X.base CX k g fd ps sp) (room : Room k X.A) (kp : PySem.W.keepIn X.K (.ref g) = true) (hb : Binds X.K fd ps ds) (hd : Vals dvs ds) (hx : Passes CX X E) (ha : PA X (e :: es) t)
    (hst : starEach (e :: es) X.env = (false, eval e X.env) :: starEach es X.env := by rfl) (hpl : (backTo pos (starEach es X.env)).any (·.1) = false := by rfl)
    (form : eval (.Call (.Attribute o m apos) (e :: es) [] pos) X.env = (do
      let ov ← eval o X.env
      standAt apos.atName
      let (f, first) ← holding [ov] (getMethod ov m pl)
      callWith pos f first (backTo pos (starEach (e :: es) X.env)) (backToKw pos (keywordEach [] X.env))) := by rfl) :
    PE X (.Call (.Attribute o m apos) (e :: es) [] pos) (tSMethA C sp dvs E ta t) := by
  refine ⟨fun pins s σ H Q I h => PySem.W.methodCall_KW (pl := pl) (thn (ho.run pins s σ H _ I h) fun u s1 ⟨x, H1, I1, rx, ex, q⟩ => ?_) form⟩
  subst ex
  obtain rfl : u = Value.ref C := rx
  obtain ⟨rest, hp⟩ := c.held
  refine PySem.W.method_cls I1.kIn r.ga (PySem.W.cls_bind I1.kIn r.rd c.found (wpAny_call (PySem.W.sm_get (s := { s1 with toks := s1.toks + 1 }) I1.kIn hp (PySem.W.handed_on rfl ?_))))
  refine PySem.W.callWith_K (first := []) (h₀ := X.base) I.ok.mod.kin kp (thn (ha.run pos pins _ σ H1 _ (I1.tok (s1.toks + 1)) q) fun us s2 ⟨vs, H2, I2, r2, q2⟩ => ⟨I2.kIn, ?_⟩) hst hpl
  exact run_fn (us := us) (vs := vs) F room hb hd hx I2 r2 q2
theorem pt_chain3 {a b c d : Expr} {ta tb tc td : TE} {pos : Pos} {op op' op'' : CmpOp} {r r' r'' : R2} (ho : OpR X (compareOp op) r) (ho' : OpR X (compareOp op') r') (ho'' : OpR X (compareOp op'') r'') (ha : PE X a ta) (hb : PE X b tb) (hc : PE X c tc) (hd : PE X d td)
    (hm : lastMarks [op, op', op''] [b, c, d] = false := by with_unfolding_all rfl) : PT X (.Compare a [op, op', op''] [b, c, d] pos) (tTest (tChain3 r r' r'' ta tb tc td)) := by
  refine ⟨fun pins s σ H Q I h => ?_⟩
  refine isTrue_chain (thn (ha.run pins s σ H _ I h) fun v s1 ⟨x, H1, I1, r1, q1⟩ => test_link (thn (hb.run pins s1 σ H1 _ I1 q1) fun u s2 ⟨y, H2, I2, r2, q2⟩ =>
    thn (ho pins s2 σ H2 x y v u _ I2 r1 r2 q2) fun e s3 ⟨z, H3, I3, r3, k, ez, q3⟩ => ?_)) hm
  subst ez
  cases r3
  refine wpAny_truthy_bool ?_
  cases k with
  | false =>
    obtain ⟨k', e', q'⟩ := q3
    cases e'
    exact ite_ff ⟨H3, I3, q'⟩
  | true =>
    refine ite_tt (test_link (thn (hc.run pins s3 σ H3 _ I3 q3) fun w' s4 ⟨z', H4, I4, r4, q4⟩ => thn (ho' pins s4 σ H4 y z' u w' _ I4 r2 r4 q4) fun e5 s5 ⟨z5, H5, I5, r5, k5, ez5, q5⟩ => ?_))
    subst ez5
    cases r5
    refine wpAny_truthy_bool ?_
    cases k5 with
    | false =>
      obtain ⟨k', e', q'⟩ := q5
      cases e'
      exact ite_ff ⟨H5, I5, q'⟩
    | true =>
      refine ite_tt (test_last (thn (hd.run pins s5 σ H5 _ I5 q5) fun w6 s6 ⟨z6, H6, I6, r6, q6⟩ => thn (ho'' pins s6 σ H6 z' z6 w' w6 _ I6 r4 r6 q6) fun d' s7 ⟨z7, H7, I7, r7, k7, e7, q7⟩ => ?_))
      subst e7
      cases r7
      exact wpAny_truthy_bool ⟨H7, I7, q7⟩
end
end L2

/-! comprehensions by a relation an item -/
namespace L2
open PySem PySem.Spec PyProof.Rows
/-- the k-th of bs is R of the k-th of js -/
def AllR (R : Nat → V → Prop) (js : List Nat) (bs : List V) : Prop := bs.length = js.length ∧ ∀ (k i : Nat) (v : V), js[k]? = some i → bs[k]? = some v → R i v
theorem AllR.nil {R : Nat → V → Prop} : AllR R [] [] := ⟨rfl, fun k i v h => by simp at h⟩
theorem AllR.mono {R R' : Nat → V → Prop} {js : List Nat} {bs : List V} (h : AllR R js bs) (m : ∀ i v, R i v → R' i v) : AllR R' js bs := ⟨h.1, fun k i v a b => m _ _ (h.2 k i v a b)⟩
theorem AllR.snoc {R : Nat → V → Prop} {js : List Nat} {bs : List V} {i : Nat} {v : V} (h : AllR R js bs) (q : R i v) : AllR R (js ++ [i]) (bs ++ [v]) := by
  refine ⟨by simp [h.1], fun k j u a b => ?_⟩
  by_cases c : k < js.length
  · rw [List.getElem?_append_left c] at a
    rw [List.getElem?_append_left (by rw [h.1]; exact c)] at b
    exact h.2 k j u a b
  · have k1 := (List.getElem?_eq_some_iff.mp a).1
    rw [List.length_append, List.length_singleton] at k1
    obtain rfl : k = js.length := by omega
    rw [List.getElem?_append_right (Nat.le_refl _), Nat.sub_self] at a
    rw [← h.1, List.getElem?_append_right (Nat.le_refl _), Nat.sub_self] at b
    cases a
    cases b
    exact q
/-- all of the first n -/
theorem AllR.all {R : Nat → V → Prop} {n : Nat} {bs : List V} (h : AllR R ((List.range n).filter fun _ => true) bs) : bs.length = n ∧ ∀ (i : Nat) (v : V), bs[i]? = some v → R i v := by
  have e : ((List.range n).filter fun _ => true) = List.range n := List.filter_eq_self.mpr fun _ _ => rfl
  rw [e] at h
  refine ⟨by rw [h.1, List.length_range], fun i v hv => h.2 i i v ?_ hv⟩
  have := (List.getElem?_eq_some_iff.mp hv).1
  rw [h.1, List.length_range] at this
  rw [List.getElem?_range this]
/-- an expression makes a value of this kind, and leaves the list at D alone -/
abbrev Gives (te : TE) (σ : St) (H : Hp) (D : Addr) (R : V → Hp → Prop) : Prop := ∀ Q : VK, (∀ y H', But D H H' → H' D = H D → R y H' → Q y H') → te σ H Q
theorem Gives.val {te : TE} {σ : St} {H : Hp} {D : Addr} {R : V → Hp → Prop} {v : V} (h : Val te σ H v) (r : R v H) : Gives te σ H D R := fun Q q => h _ (q v H (But.refl _ _) rfl r)
/-- a new pair -/
theorem Gives.pair {ta tb : TE} {σ : St} {H : Hp} {D : Addr} {x y : V} {xs : List V} (hD : H D = some (.lst xs)) (ha : Val ta σ H x) (hb : Val tb σ H y) {R : V → Hp → Prop} (r : ∀ t, H t = none → t ≠ D → R (.ref t) (upd H t (.tup [x, y]))) : Gives (tTup (tCons ta (tCons tb tNil))) σ H D R := fun Q q =>
  ha _ (hb _ ⟨by show 2 ≤ sizeLine; decide, fun t ht => by
    have n : t ≠ D := fun z => by rw [z, hD] at ht; cases ht
    exact q _ _ (fun b o e hb => Same.new ht _ _ e) (upd_ne n.symm) (r t ht n)⟩)
/-- one turn of a comprehension: the item's names, its test, its element -/
abbrev Item (g : TG) (tt : TT) (te : TE) (vs : List Nat) (σ : St) (D : Addr) (x : V) (H : Hp) (keep : Bool) (R : V → Hp → Prop) : Prop :=
  ∀ C : St → Hp → Prop, (∀ σ2 H2, But D H H2 → H2 D = H D → wipe σ2 vs = wipe σ vs → Ans tt σ2 H2 keep → (keep = true → Gives te σ2 H2 D R) → C σ2 H2) → g x (wipe σ vs) H C
section
variable {K : PySem.W.Frag} {a b : Addr} {xs ys : List V} {g : TG} {tt : TT} {te : TE} {vs : List Nat} {σ : St} {H1 : Hp} {Q : VK} {Rel : Addr → Nat → V → Hp → Prop} {keep : Nat → Bool}
def Gv (Rel : Addr → Nat → V → Hp → Prop) (keep : Nat → Bool) (H1 : Hp) (D : Addr) (i : Nat) (H : Hp) : Prop := ∃ bs, H D = some (.lst bs) ∧ AllR (fun i v => Rel D i v H) ((List.range i).filter keep) bs ∧ Same H1 H
theorem gv_zero {D : Addr} (hD : H1 D = none) : Gv Rel keep H1 D 0 (upd H1 D (.lst [])) := ⟨[], upd_same, .nil, Same.new hD⟩
theorem gv_step (mono : ∀ D i v H H', Rel D i v H → But D H H' → Rel D i v H') {D : Addr} (hD : H1 D = none) {i : Nat} (hi : i ≤ 1000000) {x : V} {H : Hp} (p : Gv Rel keep H1 D i H)
    (it : ∀ bs, H D = some (.lst bs) → Same H1 H → Item g tt te vs σ D x H (keep i) (Rel D i)) :
    g x (wipe σ vs) H fun σ2 H2 => wipe σ2 vs = wipe σ vs ∧ tt σ2 H2 fun b H3 => if b = true then te σ2 H3 fun y H4 => ∃ acc, H4 D = some (.lst acc) ∧ acc.length < sizeLine ∧ Gv Rel keep H1 D (i + 1) (upd H4 D (.lst (acc ++ [y]))) else Gv Rel keep H1 D (i + 1) H3 := by
  obtain ⟨bs, e, ar, sm⟩ := p
  have lb : bs.length ≤ i := by
    rw [ar.1]
    exact Nat.le_trans (List.length_filter_le _ _) (by rw [List.length_range]; exact Nat.le_refl _)
  have er : (List.range (i + 1)).filter keep = (List.range i).filter keep ++ (if keep i = true then [i] else []) := by
    rw [List.range_succ, List.filter_append]
    congr 1
    simp [List.filter]
    cases keep i <;> rfl
  refine it bs e sm _ fun σ2 H2 b2 e2 w2 an gi => ⟨w2, an _ ?_⟩
  have s2 : ∀ H', But D H2 H' → Same H1 H' := fun H' b' => But.new hD (But.trans (But.same sm b2) b')
  by_cases c : keep i = true
  · rw [if_pos c]
    refine gi c _ fun y H4 b4 e4 r => ⟨bs, by rw [e4, e2, e], by
      have : 1000000 < sizeLine := by decide
      omega, bs ++ [y], upd_same, ?_, ?_⟩
    · have bu : But D H4 (upd H4 D (.lst (bs ++ [y]))) := (But.refl D H4).upd
      rw [er, if_pos c]
      exact (ar.mono fun j v q => mono _ _ _ _ _ q ((b2.trans b4).trans bu)).snoc (mono _ _ _ _ _ r bu)
    · exact s2 _ (b4.trans (But.refl D H4).upd)
  · rw [if_neg c]
    refine ⟨bs, by rw [e2, e], ?_, s2 _ (But.refl _ _)⟩
    rw [er, if_neg c, List.append_nil]
    exact ar.mono fun j v q => mono _ _ _ _ _ q b2
/-- over a list -/
theorem cg_L (keep : Nat → Bool) (Rel : Addr → Nat → V → Hp → Prop) (mono : ∀ D i v H H', Rel D i v H → But D H H' → Rel D i v H') (hp : SqL K H1 a xs) (hz : xs.length ≤ 1000000)
    (it : ∀ D (i : Nat) x H bs, H1 D = none → xs[i]? = some x → H D = some (.lst bs) → Same H1 H → Item g tt te vs σ D x H (keep i) (Rel D i))
    (hd : ∀ D bs H', H1 D = none → H' D = some (.lst bs) → AllR (fun i v => Rel D i v H') ((List.range xs.length).filter keep) bs → Same H1 H' → Q (.ref D) H') : tLc (iList K (tC (.ref a))) g tt te vs σ H1 Q :=
  ⟨a, rfl, ⟨_, hp⟩, fun D hD => lc_list (xs := xs) (Gv Rel keep H1 D) (gv_zero hD) (fun i H _ p => p.choose_spec.2.2.seq hp) (fun i x H hx p => gv_step mono hD (by have := (List.getElem?_eq_some_iff.mp hx).1; omega) p fun bs e s => it D i x H bs hD hx e s) fun H ⟨bs, e, ar, s⟩ => hd D bs H hD e ar s⟩
/-- over a tuple -/
theorem cg_T (keep : Nat → Bool) (Rel : Addr → Nat → V → Hp → Prop) (mono : ∀ D i v H H', Rel D i v H → But D H H' → Rel D i v H') (hp : SqT K H1 a xs) (hz : xs.length ≤ 1000000)
    (it : ∀ D (i : Nat) x H bs, H1 D = none → xs[i]? = some x → H D = some (.lst bs) → Same H1 H → Item g tt te vs σ D x H (keep i) (Rel D i))
    (hd : ∀ D bs H', H1 D = none → H' D = some (.lst bs) → AllR (fun i v => Rel D i v H') ((List.range xs.length).filter keep) bs → Same H1 H' → Q (.ref D) H') : tLc (iTup K (tC (.ref a))) g tt te vs σ H1 Q :=
  ⟨a, rfl, ⟨_, hp⟩, fun D hD => lc_tup (xs := xs) (Gv Rel keep H1 D) (gv_zero hD) (fun i H _ p => p.choose_spec.2.2.sqT hp) (fun i x H hx p => gv_step mono hD (by have := (List.getElem?_eq_some_iff.mp hx).1; omega) p fun bs e s => it D i x H bs hD hx e s) fun H ⟨bs, e, ar, s⟩ => hd D bs H hD e ar s⟩
/-- over either -/
theorem cg_A (keep : Nat → Bool) (Rel : Addr → Nat → V → Hp → Prop) (mono : ∀ D i v H H', Rel D i v H → But D H H' → Rel D i v H') (hp : SqA K H1 a xs) (hz : xs.length ≤ 1000000)
    (it : ∀ D (i : Nat) x H bs, H1 D = none → xs[i]? = some x → H D = some (.lst bs) → Same H1 H → Item g tt te vs σ D x H (keep i) (Rel D i))
    (hd : ∀ D bs H', H1 D = none → H' D = some (.lst bs) → AllR (fun i v => Rel D i v H') ((List.range xs.length).filter keep) bs → Same H1 H' → Q (.ref D) H') : tLc (fun σ H R => iList K (tC (.ref a)) σ H R ∨ iTup K (tC (.ref a)) σ H R) g tt te vs σ H1 Q := by
  rcases hp with hp | hp
  · exact Or.inl (cg_L keep Rel mono hp hz it hd)
  · exact Or.inr (cg_T keep Rel mono hp hz it hd)
/-- over a range -/
theorem cg_R (keep : Nat → Bool) (Rel : Addr → Nat → V → Hp → Prop) (mono : ∀ D i v H H', Rel D i v H → But D H H' → Rel D i v H') {lo : Int} {n : Nat} (hz : n ≤ 1000000)
    (it : ∀ D (i : Nat) H bs, H1 D = none → i < n → H D = some (.lst bs) → Same H1 H → Item g tt te vs σ D (.int (lo + i)) H (keep i) (Rel D i))
    (hd : ∀ D bs H', H1 D = none → H' D = some (.lst bs) → AllR (fun i v => Rel D i v H') ((List.range n).filter keep) bs → Same H1 H' → Q (.ref D) H') : tLc (fun _ H R => R (Itr lo n) H) g tt te vs σ H1 Q :=
  fun D hD => lc_range (Gv Rel keep H1 D) (gv_zero hD) (fun i H hi p => gv_step mono hD (by omega) p fun bs e s => it D i H bs hD hi e s) fun H ⟨bs, e, ar, s⟩ => hd D bs H hD e ar s
/-- over zip of two lists of one length -/
theorem cg_Z (keep : Nat → Bool) (Rel : Addr → Nat → V → Hp → Prop) (mono : ∀ D i v H H', Rel D i v H → But D H H' → Rel D i v H') (hp : SqL K H1 a xs) (hq : SqL K H1 b ys) (hl : xs.length = ys.length) (hz : xs.length ≤ 1000000)
    (it : ∀ D (i : Nat) x y T H bs, H1 D = none → xs[i]? = some x → ys[i]? = some y → H T = some (.tup [x, y]) → H D = some (.lst bs) → Same H1 H → Item g tt te vs σ D (.ref T) H (keep i) (Rel D i))
    (hd : ∀ D bs H', H1 D = none → H' D = some (.lst bs) → AllR (fun i v => Rel D i v H') ((List.range xs.length).filter keep) bs → Same H1 H' → Q (.ref D) H') {ta : TA} (ha : ∀ R : List V → Hp → Prop, R [.ref a, .ref b] H1 → ta σ H1 R) : tLc (iZip K ta) g tt te vs σ H1 Q := by
  refine ha _ ⟨a, b, xs, ys, rfl, hp, hq, fun D hD => ?_⟩
  refine ⟨fun i m H => m = xs.length - i ∧ i ≤ xs.length ∧ Gv Rel keep H1 D i H, ⟨xs.length, rfl, Nat.zero_le _, gv_zero hD⟩, ?_⟩
  rintro i m H ⟨rfl, hi, p⟩
  have qx := p.choose_spec.2.2.seq hp
  have qy := p.choose_spec.2.2.seq hq
  by_cases hlt : i < xs.length
  · have hx : xs[i]? = some xs[i] := List.getElem?_eq_getElem hlt
    have hlt2 : i < ys.length := by omega
    have hy : ys[i]? = some ys[i] := List.getElem?_eq_getElem hlt2
    refine .inr ⟨⟨xs, ys, _, _, qx, qy, hx, hy⟩, Gv Rel keep H1 D (i + 1), fun H' p' => ⟨xs.length - (i + 1), by omega, rfl, hlt, p'⟩, fun v H' y => ?_⟩
    obtain ⟨T, x', y', rfl, hT, rfl, f1, f2⟩ := y
    have hx' := f1 xs qx
    have hy' := f2 ys qy
    obtain ⟨bs, e, ar, s⟩ := p
    have sT := Same.new (o := .tup [x', y']) hT
    exact gv_step mono hD (by omega) ⟨bs, sT _ _ e, ar.mono fun j v q => mono _ _ _ _ _ q (fun b o z _ => sT _ _ z), s.trans sT⟩ fun bs e s => it D i x' y' T _ bs hD hx' hy' upd_same e s
  · have e : i = xs.length := by omega
    subst e
    obtain ⟨bs, e, ar, s⟩ := p
    exact .inl ⟨⟨xs, ys, qx, qy, Or.inl (Nat.le_refl _)⟩, hd D bs H hD e ar s⟩
end
end L2
namespace L2
open PySem PySem.Spec PyProof.Rows
section
variable {K : PySem.W.Frag} {tl : TE} {g : TG} {tt : TT} {te : TE} {vs : List Nat} {σ : St} {H : Hp} {Q : VK}
theorem lcT (h : tl σ H fun v H1 => tLc (iTup K (tC v)) g tt te vs σ H1 Q) : tLc (iTup K tl) g tt te vs σ H Q := h
theorem lcL (h : tl σ H fun v H1 => tLc (iList K (tC v)) g tt te vs σ H1 Q) : tLc (iList K tl) g tt te vs σ H Q := h
theorem lcA {v : V} (hv : Val tl σ H v) (h : tLc (fun σ H R => iList K (tC v) σ H R ∨ iTup K (tC v) σ H R) g tt te vs σ H Q) : tLc (fun σ H R => iList K tl σ H R ∨ iTup K tl σ H R) g tt te vs σ H Q := h.imp (fun h => hv _ h) fun h => hv _ h
end
/-- a slice of a list -/
theorem v_slL {K : PySem.W.Frag} {te : TE} {tl th : TO} {σ : St} {H : Hp} {Q : VK} {l : Addr} {xs : List V} (h : te σ H fun x H1 => tl σ H1 fun lo H2 => th σ H2 fun hi H3 => rSlL K x lo hi H3 Q) : tSl (rSlL K) te tl th σ H Q := h
theorem cut1 {v : V} {ds : List V} : cutV (v :: ds) (some 1) none = ds := by
  unfold cutV
  have e1 : HT.sIx (v :: ds).length 0 (some 1) = 1 := by
    show (if (1 : Int) < 0 then ((1 : Int) + ((v :: ds).length : Nat)).toNat else min ((1 : Int).toNat) (ds.length + 1)) = 1
    rw [if_neg (by decide)]
    show min 1 (ds.length + 1) = 1
    omega
  have e2 : HT.sIx (v :: ds).length (v :: ds).length none = (v :: ds).length := rfl
  rw [e1, e2]
  simp
theorem cut1m {v : V} {ds : List V} : cutV (v :: ds) (some 1) (some (-1)) = ds.dropLast := by
  unfold cutV
  have e1 : HT.sIx (v :: ds).length 0 (some 1) = 1 := by
    show (if (1 : Int) < 0 then ((1 : Int) + ((v :: ds).length : Nat)).toNat else min ((1 : Int).toNat) (ds.length + 1)) = 1
    rw [if_neg (by decide)]
    show min 1 (ds.length + 1) = 1
    omega
  have e2 : HT.sIx (v :: ds).length (v :: ds).length (some (-1)) = ds.length := by
    show (if (-1 : Int) < 0 then ((-1 : Int) + ((v :: ds).length : Nat)).toNat else min ((-1 : Int).toNat) (v :: ds).length) = ds.length
    rw [if_pos (by decide), List.length_cons]
    omega
  rw [e1, e2, List.dropLast_eq_take]
  rfl
end L2
namespace L2
open PySem PySem.Spec PyProof.Rows
section
variable {K : PySem.W.Frag} {te ta tb : TE} {tlo thi : TO} {lo hi : Option Int} {σ : St} {H : Hp} {Q : VK} {l : Addr} {xs : List V} {x y : V}
/-- xs[lo:hi] + [(x, y)] -/
theorem sl_pair (ht : Val te σ H (.ref l)) (hl : SqL K H l xs) (h1 : ∀ H (Q : Option Int → Hp → Prop), Q lo H → tlo σ H Q) (h2 : ∀ H (Q : Option Int → Hp → Prop), Q hi H → thi σ H Q) (hz : xs.length ≤ 1000000)
    (ha : ∀ H', Same H H' → Val ta σ H' x) (hb : ∀ H', Same H H' → Val tb σ H' y)
    (q : ∀ D u H', Same H H' → H' u = some (.tup [x, y]) → H' D = some (.lst (cutV xs lo hi ++ [.ref u])) → H D = none → Q (.ref D) H') :
    tOp rCat (tSl (rSlL K) te tlo thi) (tLst (tCons (tTup (tCons ta (tCons tb tNil))) tNil)) σ H Q := by
  refine ht _ (h1 _ _ (h2 _ _ ⟨l, xs, rfl, hl, fun p hp => ?_⟩))
  have s1 := Same.new (o := .lst (cutV xs lo hi)) hp
  refine ha _ s1 _ (hb _ s1 _ ⟨by show 2 ≤ sizeLine; decide, fun u hu => ?_⟩)
  have s2 := Same.new (o := .tup [x, y]) hu
  refine ⟨by show 1 ≤ sizeLine; decide, fun r hr => ?_⟩
  have s3 := Same.new (o := .lst [V.ref u]) hr
  refine ⟨p, r, _, _, rfl, rfl, s3 _ _ (s2 _ _ upd_same), upd_same, by
    have := cutV_length xs lo hi
    have : 1000001 ≤ sizeLine := by decide
    rw [List.length_singleton]
    omega, fun D hD => ?_⟩
  have s4 := Same.new (o := .lst (cutV xs lo hi ++ [V.ref u])) hD
  refine q D u _ (s1.trans (s2.trans (s3.trans s4))) (s4 _ _ (s3 _ _ upd_same)) upd_same ?_
  cases e : H D with
  | none => rfl
  | some o => exact absurd ((s1.trans (s2.trans s3)) _ _ e) (by rw [hD]; exact fun z => nomatch z)
end
end L2
namespace L2
open PySem PySem.Spec PyProof.Rows
/-! ### pairs as data -/
def pdata (a : Int × Int) : PyData := .tuple [.int a.1, .int a.2]
def prow (L : List (Int × Int)) : List PyData := L.map pdata
theorem pdata_dp {K : PySem.W.Frag} {H : Hp} {t : Addr} {a : Int × Int} (h : H t = some (.tup [.int a.1, .int a.2])) : Dp K H (.ref t) (pdata a) := .tup (SqT.of h) (.cons (.int _) (.cons (.int _) .nil))
theorem pdata_eqv (a b : Int × Int) : PyData.eqv (pdata a) (pdata b) = decide (a = b) := by
  unfold pdata
  rw [PyData.eqv, PyData.eqvAll, PyData.eqvAll, PyData.eqvAll, PyData.eqv, PyData.eqv]
  obtain ⟨a1, a2⟩ := a
  obtain ⟨b1, b2⟩ := b
  simp [Prod.ext_iff]
  by_cases c : a1 = b1 <;> by_cases d : a2 = b2 <;> simp [c, d]
theorem prow_eqv : ∀ L M : List (Int × Int), PyData.eqvAll (prow L) (prow M) = decide (L = M)
  | [], [] => by simp [prow, PyData.eqvAll]
  | [], _ :: _ => by simp [prow, PyData.eqvAll]
  | _ :: _, [] => by simp [prow, PyData.eqvAll]
  | a :: L, b :: M => by
    have i := prow_eqv L M
    unfold prow at i ⊢
    rw [List.map_cons, List.map_cons, PyData.eqvAll, i, pdata_eqv]
    by_cases c : a = b <;> by_cases d : L = M <;> simp [c, d]
theorem prow_lay : ∀ L : List (Int × Int), PyData.canLayAll0 (prow L) = true
  | [] => by simp [prow, PyData.canLayAll0]
  | a :: L => by
    have i := prow_lay L
    unfold prow at i ⊢
    simp only [List.map_cons, PyData.canLayAll0, pdata, PyData.canLay0, i]
    rfl
theorem prow_depth : ∀ L : List (Int × Int), PyData.depthAll (prow L) ≤ 1
  | [] => by simp [prow, PyData.depthAll]
  | a :: L => by
    have i := prow_depth L
    unfold prow at i ⊢
    simp only [List.map_cons, PyData.depthAll, pdata, PyData.depth]
    omega
theorem pdata_shaped (a : Int × Int) : SeqAt.shaped (pdata a) = true := rfl
theorem prow_shapedL (L : List (Int × Int)) : SeqAt.shaped (.list (prow L)) = true := by
  have h1 := prow_depth L
  have h2 : PyData.depth (.list (prow L)) ≤ 64 := by simp only [PyData.depth]; omega
  show (PyData.canLay0 (.list (prow L)) && decide (PyData.depth (.list (prow L)) ≤ 64)) = true
  rw [Bool.and_eq_true]
  exact ⟨by simp only [PyData.canLay0]; exact prow_lay L, decide_eq_true h2⟩
theorem prow_shapedT (L : List (Int × Int)) : SeqAt.shaped (.tuple (prow L)) = true := by
  have h1 := prow_depth L
  have h2 : PyData.depth (.tuple (prow L)) ≤ 64 := by simp only [PyData.depth]; omega
  show (PyData.canLay0 (.tuple (prow L)) && decide (PyData.depth (.tuple (prow L)) ≤ 64)) = true
  rw [Bool.and_eq_true]
  exact ⟨by simp only [PyData.canLay0]; exact prow_lay L, decide_eq_true h2⟩
section
variable {K : PySem.W.Frag} {t u : TT} {ta t1 t2 : TE} {σ : St} {H : Hp} {QT : Bool → Hp → Prop}
theorem t_or_no (h : Ans t σ H false) (k : u σ H QT) : tOr t u σ H QT := h _ k
theorem t_and_yes (h : Ans t σ H true) (k : u σ H QT) : tAnd t u σ H QT := h _ k
theorem t_and_not (h : Ans t σ H false) (k : QT false H) : tAnd t u σ H QT := h _ k
/-- x == (i, j) -/
theorem eq_pair {p : Addr} {x y : Int × Int} (ha : Val ta σ H (.ref p)) (hp : H p = some (.tup [.int x.1, .int x.2])) (h1 : Val t1 σ H (.int y.1)) (h2 : Val t2 σ H (.int y.2)) (q : ∀ H', Same H H' → QT (decide (x = y)) H') :
    tTest (tOp (rEqD K) ta (tTup (tCons t1 (tCons t2 tNil)))) σ H QT := by
  refine ha _ (h1 _ (h2 _ ⟨by show 2 ≤ sizeLine; decide, fun u hu => ?_⟩))
  have s := Same.new (o := .tup [V.int y.1, V.int y.2]) hu
  refine ⟨_, _, pdata_dp (s _ _ hp), pdata_dp (a := y) upd_same, pdata_shaped _, pdata_shaped _, _, rfl, ?_⟩
  rw [pdata_eqv]
  exact q _ s
end
end L2
namespace L2
open PySem PySem.Spec PyProof.Rows
section
variable {K : PySem.W.Frag} {c : TT} {t1 t2 : TS} {D : Ends} {σ : St} {H : Hp}
theorem st_ifX (h : c σ H fun b H1 => if b = true then t1 D σ H1 else t2 D σ H1) : tIfS c t1 t2 D σ H := h
theorem g_name {i : Nat} {x : V} {C : St → Hp → Prop} (h : C (σ.set i (some x)) H) : gName i x σ H C := h
end
end L2
namespace L2
open PySem PySem.Spec PyProof.Rows
section
variable {K : PySem.W.Frag} {a : Addr} {xs : List V} {g : TG} {tb : TS} {D : Ends} {σ : St} {H : Hp} {ta : TA}
/-- for k, x in enumerate(tuple) -/
theorem st_forET0' (Pv : Nat → St → Hp → Prop) (h0 : Pv 0 σ H) (hk : ∀ i σ H, i ≤ xs.length → Pv i σ H → SqT K H a xs)
    (hs : ∀ (i : Nat) x T σ H, xs[i]? = some x → Pv i σ H → H T = none → g (.ref T) σ (upd H T (.tup [.int (i : Nat), x])) fun σ2 H2 => tb { D with nx := Pv (i + 1), ct := Pv (i + 1), bk := D.nx } σ2 H2) (hd : ∀ σ H, Pv xs.length σ H → D.nx σ H) : tFor (fun _ H R => R (Itte K a) H) g tb D σ H := by
  refine ⟨fun i m σ H => m = xs.length - i ∧ i ≤ xs.length ∧ Pv i σ H, ⟨_, rfl, Nat.zero_le _, h0⟩, ?_⟩
  rintro i m σ H ⟨rfl, hi, p⟩
  have sq := hk i σ H hi p
  rcases Nat.lt_or_eq_of_le hi with lt | rfl
  · obtain ⟨x, hx⟩ : ∃ x, xs[i]? = some x := ⟨_, List.getElem?_eq_getElem lt⟩
    refine Or.inr ⟨⟨xs, x, sq, hx⟩, Pv (i + 1), fun σ' H' p' => ⟨_, by omega, rfl, lt, p'⟩, ?_⟩
    rintro y H' ⟨T, z, rfl, hT, rfl, hz⟩
    have e := hz xs sq
    rw [hx] at e
    cases e
    exact hs i x T σ H hx p hT
  · exact Or.inl ⟨⟨xs, sq, Nat.le_refl _⟩, hd σ H p⟩
theorem st_forET' (hl : ∀ R : List V → Hp → Prop, R [.ref a] H → ta σ H R) (hp : SqT K H a xs) (Pv : Nat → St → Hp → Prop) (h0 : Pv 0 σ H) (hk : ∀ i σ' H', Pv i σ' H' → Same H H')
    (hs : ∀ (i : Nat) x T σ H, xs[i]? = some x → Pv i σ H → H T = none → g (.ref T) σ (upd H T (.tup [.int (i : Nat), x])) fun σ2 H2 => tb { D with nx := Pv (i + 1), ct := Pv (i + 1), bk := D.nx } σ2 H2) (hd : ∀ σ H, Pv xs.length σ H → D.nx σ H) : tFor (iEnumT K ta) g tb D σ H :=
  hl _ ⟨a, xs, rfl, hp, st_forET0' Pv h0 (fun i σ' H' _ z => (hk i σ' H' z).sqT hp) hs hd⟩
theorem st_forEA' (hl : ∀ R : List V → Hp → Prop, R [.ref a] H → ta σ H R) (hp : SqA K H a xs) (Pv : Nat → St → Hp → Prop) (h0 : Pv 0 σ H) (hk : ∀ i σ' H', Pv i σ' H' → Same H H')
    (hs : ∀ (i : Nat) x T σ H, xs[i]? = some x → Pv i σ H → H T = none → g (.ref T) σ (upd H T (.tup [.int (i : Nat), x])) fun σ2 H2 => tb { D with nx := Pv (i + 1), ct := Pv (i + 1), bk := D.nx } σ2 H2) (hd : ∀ σ H, Pv xs.length σ H → D.nx σ H) : tFor (fun σ H R => iEnum K ta σ H R ∨ iEnumT K ta σ H R) g tb D σ H := by
  rcases hp with hp | hp
  · exact Or.inl (hl _ ⟨a, xs, rfl, hp, st_forE Pv h0 (fun i σ' H' _ z => (hk i σ' H' z).seq hp) hs hd⟩)
  · exact Or.inr (hl _ ⟨a, xs, rfl, hp, st_forET0' Pv h0 (fun i σ' H' _ z => (hk i σ' H' z).sqT hp) hs hd⟩)
end
/-- a pair, a tuple or a list, is read into two names -/
theorem g_pairA {K : PySem.W.Frag} {i j n : Nat} {t : Addr} {x y : V} {σ : St} {H : Hp} {C : St → Hp → Prop} (hn : n = 2) (h : SqA K H t [x, y]) (c : C ((σ.set i (some x)).set j (some y)) H) : gTup K n (gCons (gName i) (gCons (gName j) gNil)) (.ref t) σ H C ∨ gLst K n (gCons (gName i) (gCons (gName j) gNil)) (.ref t) σ H C := by
  subst hn
  rcases h with h | h
  · exact Or.inr ⟨t, _, rfl, h, rfl, _, _, rfl, _, _, rfl, rfl, c⟩
  · exact Or.inl ⟨t, _, rfl, h, rfl, _, _, rfl, _, _, rfl, rfl, c⟩
section
variable {C : Addr} {sp : Sp} {ta tb : TE} {σ : St} {H : Hp} {R : XK} {x y : V}
theorem mkO1 (ha : Val ta σ H x) (h : [x].length ≤ 1000 ∧ ∀ a, H a = none → sp (.ref a :: ([x] ++ [])) (upd H a (exo a C none)) (fun v H2 => v = .non ∧ ∃ (d : Addr) (fs : List (Str × V)), H2 a = some (exo a C (some d)) ∧ H2 d = some (exd d fs) ∧ H d = none ∧ R (.ref C) (some d) (upd (del H2 a) d (.xd fs))) (fun _ _ _ => False)) : tMkO C sp [] (tCons ta tNil) σ H R := ha _ h
theorem mkO2 (ha : Val ta σ H x) (hb : Val tb σ H y) (h : [x, y].length ≤ 1000 ∧ ∀ a, H a = none → sp (.ref a :: ([x, y] ++ [])) (upd H a (exo a C none)) (fun v H2 => v = .non ∧ ∃ (d : Addr) (fs : List (Str × V)), H2 a = some (exo a C (some d)) ∧ H2 d = some (exd d fs) ∧ H d = none ∧ R (.ref C) (some d) (upd (del H2 a) d (.xd fs))) (fun _ _ _ => False)) : tMkO C sp [] (tCons ta (tCons tb tNil)) σ H R := ha _ (hb _ h)
end
end L2
namespace L2
open PySem PySem.Spec PyProof.Rows
section
variable {C : Addr} {sp : Sp} {dvs : List V} {E : XK} {ta tb tc te : TE} {σ : St} {H : Hp} {Q : VK} {D : Ends} {x y : V}
theorem st_ret0 (h : te σ H D.rt) : tRet te D σ H := h
/-- C(e, e', e''), the first two known -/
theorem mk3 (ha : Val ta σ H x) (hb : Val tb σ H y) (hc : tc σ H fun z H1 => ∀ a dx, H1 a = none → H1 dx = none → dx ≠ a → sp (.ref a :: ([x, y, z] ++ dvs)) (upd (upd H1 dx (.own a)) a (.ins C dx [])) (fun v H2 => v = .non ∧ Q (.ref a) H2) E) :
    tMake C sp dvs E (tCons ta (tCons tb (tCons tc tNil))) σ H Q := ha _ (hb _ hc)
/-- ((x, y),) -/
theorem tup_pair (ha : Val ta σ H x) (hb : Val tb σ H y) (q : ∀ t u H', H' t = some (.tup [.ref u]) → H' u = some (.tup [x, y]) → Same H H' → Q (.ref t) H') : tTup (tCons (tTup (tCons ta (tCons tb tNil))) tNil) σ H Q :=
  ha _ (hb _ ⟨by show 2 ≤ sizeLine; decide, fun u hu => ⟨by show 1 ≤ sizeLine; decide, fun t ht => q t u _ upd_same (Same.new ht _ _ upd_same) ((Same.new hu).trans (Same.new ht))⟩⟩)
theorem tup_nil (q : ∀ t H', H' t = some (.tup []) → Same H H' → Q (.ref t) H') : tTup tNil σ H Q := ⟨by show 0 ≤ sizeLine; decide, fun t ht => q t _ upd_same (Same.new ht)⟩
theorem t_if (c : TT) {b : Bool} (h : Ans c σ H b) (hy : b = true → ta σ H Q) (hn : b = false → tb σ H Q) : tIf c ta tb σ H Q := by
  refine h _ ?_
  cases b with
  | true => exact iteT (hy rfl)
  | false => exact iteF (hn rfl)
end
end L2
namespace L2
open PySem PySem.Spec PyProof.Rows
section
variable {K : PySem.W.Frag} {r : R2} {tb ta te : TE} {g : TG} {b1 : TS} {σ : St} {H : Hp} {Q : VK} {D : Ends} {x y : V}
theorem op_c (h : tb σ H fun y H2 => r x y H2 Q) : tOp r (tC x) tb σ H Q := h
theorem op_v (ha : Val ta σ H x) (h : tb σ H fun y H2 => r x y H2 Q) : tOp r ta tb σ H Q := ha _ h
theorem rng1X (h : te σ H fun v H1 => tFor (iRng1 (tCons (tC v) tNil)) g b1 D σ H1) : tFor (iRng1 (tCons te tNil)) g b1 D σ H := h
/-- l.append((x, y)) -/
theorem app_pair {i : Nat} {pl : Addr} {as : List V} (hi : σ[i]? = some (some (V.ref pl))) (e : H pl = some (.lst as)) (hz : as.length ≤ 1000000) (ha : Val ta σ H x) (hb : Val tb σ H y)
    (q : ∀ u H', H' u = some (.tup [x, y]) → H' pl = some (.lst (as ++ [.ref u])) → But pl H H' → H u = none → D.nx σ H') : tDrop (tBM K "list" rAppend (tVar i) (tCons (tTup (tCons ta (tCons tb tNil))) tNil)) D σ H :=
  ⟨_, hi, tyL e, ha _ (hb _ ⟨by show 2 ≤ sizeLine; decide, fun u hu => by
    have n : u ≠ pl := fun z => by rw [z, e] at hu; cases hu
    exact ⟨pl, as, .ref u, rfl, rfl, Same.new hu _ _ e, by
      have : 1000000 < sizeLine := by decide
      omega, q u _ ((upd_ne n).trans upd_same) upd_same (fun b o z m => by rw [upd_ne m]; exact Same.new hu _ _ z) hu⟩⟩)⟩
/-- l.append(x) -/
theorem app_val {i : Nat} {pl : Addr} {as : List V} (hi : σ[i]? = some (some (V.ref pl))) (e : H pl = some (.lst as)) (hz : as.length ≤ 1000000) (ha : Val ta σ H x)
    (q : ∀ H', H' pl = some (.lst (as ++ [x])) → But pl H H' → D.nx σ H') : tDrop (tBM K "list" rAppend (tVar i) (tCons ta tNil)) D σ H :=
  ⟨_, hi, tyL e, ha _ ⟨pl, as, x, rfl, rfl, e, by
      have : 1000000 < sizeLine := by decide
      omega, q _ upd_same (fun b o z m => by rw [upd_ne m]; exact z)⟩⟩
end
end L2
namespace L2
open PySem PySem.Spec PyProof.Rows
section
variable {K : PySem.W.Frag} {te : TE} {σ : St} {H : Hp} {D : Ends}
/-- l.append(e), e any expression -/
theorem app_te {i : Nat} {pl : Addr} {as : List V} (hi : σ[i]? = some (some (V.ref pl))) (e : H pl = some (.lst as)) (h : te σ H fun v H1 => rAppend (.ref pl) [v] H1 fun _ H2 => D.nx σ H2) : tDrop (tBM K "list" rAppend (tVar i) (tCons te tNil)) D σ H := ⟨_, hi, tyL e, h⟩
theorem app_is {pl : Addr} {as : List V} {v : V} {N : Hp → Prop} (e : H pl = some (.lst as)) (hz : as.length ≤ 1000000) (q : ∀ H', H' pl = some (.lst (as ++ [v])) → But pl H H' → N H') : rAppend (.ref pl) [v] H fun _ H2 => N H2 :=
  ⟨pl, as, v, rfl, rfl, e, by
    have : 1000000 < sizeLine := by decide
    omega, q _ upd_same (fun b o z m => by rw [upd_ne m]; exact z)⟩
end
end L2
namespace L2
open PySem PySem.Spec PyProof.Rows
/-! ### rows of truth values as data -/
def bdata (L : List Bool) : List PyData := L.map .bool
theorem bdata_dp {K : PySem.W.Frag} {H : Hp} : ∀ L : List Bool, DpAll K H (L.map V.bl) (bdata L)
  | [] => .nil
  | b :: r => .cons (.bl b) (bdata_dp r)
theorem bdata_eqv : ∀ L M : List Bool, PyData.eqvAll (bdata L) (bdata M) = decide (L = M)
  | [], [] => by simp [bdata, PyData.eqvAll]
  | [], _ :: _ => by simp [bdata, PyData.eqvAll]
  | _ :: _, [] => by simp [bdata, PyData.eqvAll]
  | a :: L, b :: M => by
    have i := bdata_eqv L M
    unfold bdata at i ⊢
    rw [List.map_cons, List.map_cons, PyData.eqvAll, i, PyData.eqv]
    by_cases d : L = M <;> cases a <;> cases b <;> simp [d]
theorem bdata_lay : ∀ L : List Bool, PyData.canLayAll0 (bdata L) = true
  | [] => by simp [bdata, PyData.canLayAll0]
  | a :: L => by
    have i := bdata_lay L
    unfold bdata at i ⊢
    simp only [List.map_cons, PyData.canLayAll0, PyData.canLay0, i]
    rfl
theorem bdata_depth : ∀ L : List Bool, PyData.depthAll (bdata L) ≤ 1
  | [] => by simp [bdata, PyData.depthAll]
  | a :: L => by
    have i := bdata_depth L
    unfold bdata at i ⊢
    simp only [List.map_cons, PyData.depthAll, PyData.depth]
    omega
theorem bdata_shaped (L : List Bool) : SeqAt.shaped (.list (bdata L)) = true := by
  have h1 := bdata_depth L
  have h2 : PyData.depth (.list (bdata L)) ≤ 64 := by simp only [PyData.depth]; omega
  show (PyData.canLay0 (.list (bdata L)) && decide (PyData.depth (.list (bdata L)) ≤ 64)) = true
  rw [Bool.and_eq_true]
  exact ⟨by simp only [PyData.canLay0]; exact bdata_lay L, decide_eq_true h2⟩
section
variable {ta tb tc : TE} {g : TG} {b1 : TS} {σ : St} {H : Hp} {D : Ends} {hi lo : Int} {n : Nat} {b c : Bool}
theorem a_eqB (ha : Val ta σ H (.bl b)) (hb : Val tb σ H (.bl c)) : Ans (tTest (tOp rEq ta tb)) σ H (decide (b = c)) := ans_eq ha hb rfl (by rw [dec_bl]; cases b <;> cases c <;> rfl)
theorem a_bl (ha : Val ta σ H (.bl b)) : Ans (tB ta) σ H b := fun Q q => ha _ ⟨_, rfl, q⟩
/-- for x in range(hi, lo, -1) -/
theorem st_forDown (ha : Val ta σ H (.int hi)) (hb : Val tb σ H (.int lo)) (hc : Val tc σ H (.int (-1))) (hn : (hi - lo).toNat = n) (b1' : -1000000 ≤ lo) (b2 : lo ≤ 1000000) (b3 : -1000000 ≤ hi) (b4 : hi ≤ 1000000) (Pv : Nat → St → Hp → Prop) (h0 : Pv 0 σ H)
    (hs : ∀ i σ H, i < n → Pv i σ H → g (.int (hi - i)) σ H fun σ2 H2 => b1 { D with nx := Pv (i + 1), ct := Pv (i + 1), bk := D.nx } σ2 H2) (hd : ∀ σ H, Pv n σ H → D.nx σ H) : tFor (iRng3 (tCons ta (tCons tb (tCons tc tNil)))) g b1 D σ H := by
  refine ha _ (hb _ (hc _ ⟨hi, lo, -1, n, rfl, by rw [← hn]; exact RgC.neg (by omega) (by omega) (by omega) (by omega), ?_⟩))
  exact for_rangeC Pv h0 (fun i σ' H' hi' p => by rw [show hi + (i : Nat) * (-1 : Int) = hi - i by omega]; exact hs i σ' H' hi' p) hd
end
end L2
namespace L2
open PySem PySem.Spec PyProof.Rows
section
variable {r : R2} {ta tb : TE} {σ : St} {H : Hp} {QT : Bool → Hp → Prop} {i : Int} {x : V}
theorem t_op (ha : Val ta σ H x) (h : tb σ H fun y H2 => r x y H2 fun z H3 => ∃ k, z = .bl k ∧ QT k H3) : tTest (tOp r ta tb) σ H QT := ha _ h
theorem a_neS (ha : Val ta σ H (.int i)) (hb : Val tb σ H (.int i)) : Ans (tTest (tOp rNe ta tb)) σ H false := by
  have := a_ne ha hb
  rw [decide_eq_true rfl] at this
  exact this
end
end L2
namespace L2
open PySem PySem.Spec PyProof.Rows
section
variable {r : R2} {ta tb te : TE} {σ : St} {H : Hp} {Q : VK} {QA : List V → Hp → Prop} {x y : V}
theorem lst2 (ha : Val ta σ H x) (hb : Val tb σ H y) (q : ∀ p, H p = none → Q (.ref p) (upd H p (.lst [x, y]))) : tLst (tCons ta (tCons tb tNil)) σ H Q := ha _ (hb _ ⟨by show 2 ≤ sizeLine; decide, q⟩)
theorem lst1 (h : te σ H fun x H1 => ∀ p, H1 p = none → Q (.ref p) (upd H1 p (.lst [x]))) (mono : ∀ R R' : V → Hp → Prop, (∀ v H, R v H → R' v H) → te σ H R → te σ H R') : tLst (tCons te tNil) σ H Q := mono _ _ (fun v H1 q => ⟨by show 1 ≤ sizeLine; decide, q⟩) h
theorem lst1' (h : te σ H fun x H1 => [x].length ≤ sizeLine ∧ ∀ p, H1 p = none → Q (.ref p) (upd H1 p (.lst [x]))) : tLst (tCons te tNil) σ H Q := h
theorem op_te (h : ta σ H fun x H1 => tb σ H1 fun y H2 => r x y H2 Q) : tOp r ta tb σ H Q := h
theorem cons1 (h : te σ H fun x H1 => QA [x] H1) : tCons te tNil σ H QA := h
end
end L2
namespace L2
open PySem PySem.Spec PyProof.Rows
section
variable {K : PySem.W.Frag} {tr te : TE} {g : TG} {tt : TT} {vs : List Nat} {σ : St} {H1 : Hp} {Q : VK} {i : Int} {P : V → Prop}
theorem lcR1V (hv : Val tr σ H1 (.int i)) (b1 : -1000000 ≤ i) (b2 : i ≤ 1000000) (h : tLc (fun _ H R => R (Itr 0 i.toNat) H) g tt te vs σ H1 Q) : tLc (iRng1 (tCons tr tNil)) g tt te vs σ H1 Q := hv _ ⟨i, rfl, by omega, by omega, h⟩
/-- values of a kind, one for each of a range -/
theorem comp_vals {i0 n : Nat} (hz : n ≤ 1000000) (hw : ∀ x, wipe ((wipe σ vs).set i0 (some x)) vs = wipe σ vs) (f : Nat → V)
    (he : ∀ (i : Nat) H, i < n → Same H1 H → Val te ((wipe σ vs).set i0 (some (.int (i : Int)))) H (f i))
    (hd : ∀ D H', H1 D = none → H' D = some (.lst ((List.range n).map f)) → Same H1 H' → Q (.ref D) H') : tLc (fun _ H R => R (Itr 0 n) H) (gName i0) tYes te vs σ H1 Q := by
  refine cg_R (fun _ => true) (fun _ i v _ => v = f i) (fun _ _ _ _ _ h _ => h) hz (fun D i H bs hD hi eD s C q => ?_) fun D bs H' hD eD ar s => ?_
  · have e : (0 : Int) + (i : Int) = i := by omega
    rw [e]
    exact g_name (q _ _ (But.refl _ _) rfl (hw _) (fun _ z => z) fun _ => Gives.val (he i H hi s) rfl)
  · obtain ⟨h1, h2⟩ := ar.all
    have eb : bs = (List.range n).map f := by
      refine List.ext_getElem? fun j => ?_
      rw [List.getElem?_map]
      by_cases c : j < n
      · rw [List.getElem?_range c, List.getElem?_eq_getElem (by omega), h2 j _ (List.getElem?_eq_getElem (by omega))]
        rfl
      · rw [List.getElem?_eq_none (by omega), List.getElem?_eq_none (by simp; omega)]
        rfl
    rw [eb] at eD
    exact hd D H' hD eD s
/-- l + m -/
theorem cat_is {l b : Addr} {xs zs : List V} {H : Hp} (e1 : H l = some (.lst xs)) (e2 : H b = some (.lst zs)) (hz : xs.length + zs.length ≤ 1000000) (q : ∀ p, H p = none → Q (.ref p) (upd H p (.lst (xs ++ zs)))) : rCat (.ref l) (.ref b) H Q :=
  ⟨l, b, xs, zs, rfl, rfl, e1, e2, by have : 1000000 ≤ sizeLine := by decide
                                      omega, q⟩
end
end L2
namespace L2
open PySem PySem.Spec PyProof.Rows
section
variable {ta tb tc : TE} {σ : St} {H : Hp} {Q : VK} {x y z : V}
theorem lst3 (ha : Val ta σ H x) (hb : Val tb σ H y) (hc : Val tc σ H z) (q : ∀ p, H p = none → Q (.ref p) (upd H p (.lst [x, y, z]))) : tLst (tCons ta (tCons tb (tCons tc tNil))) σ H Q := ha _ (hb _ (hc _ ⟨by show 3 ≤ sizeLine; decide, q⟩))
theorem tup3 (ha : Val ta σ H x) (hb : Val tb σ H y) (hc : Val tc σ H z) (q : ∀ p, H p = none → Q (.ref p) (upd H p (.tup [x, y, z]))) : tTup (tCons ta (tCons tb (tCons tc tNil))) σ H Q := ha _ (hb _ (hc _ ⟨by show 3 ≤ sizeLine; decide, q⟩))
/-- (x, y, [..]), the list made there -/
theorem tup3L (ha : Val ta σ H x) (hb : Val tb σ H y) (h : tc σ H fun z H1 => ∀ p, H1 p = none → Q (.ref p) (upd H1 p (.tup [x, y, z]))) (mono : ∀ R R' : V → Hp → Prop, (∀ v H, R v H → R' v H) → tc σ H R → tc σ H R') : tTup (tCons ta (tCons tb (tCons tc tNil))) σ H Q := ha _ (hb _ (mono _ _ (fun v H1 q => ⟨by show 3 ≤ sizeLine; decide, q⟩) h))
/-- [(x, y)] -/
theorem lst_pair (ha : Val ta σ H x) (hb : Val tb σ H y) (q : ∀ t u H', H' t = some (.lst [.ref u]) → H' u = some (.tup [x, y]) → H t = none → Same H H' → Q (.ref t) H') : tLst (tCons (tTup (tCons ta (tCons tb tNil))) tNil) σ H Q :=
  ha _ (hb _ ⟨by show 2 ≤ sizeLine; decide, fun u hu => ⟨by show 1 ≤ sizeLine; decide, fun t ht => by
    have s := Same.new (o := .tup [x, y]) hu
    have ht0 : H t = none := by
      cases e : H t with
      | none => rfl
      | some o => exact absurd (s _ _ e) (by rw [ht]; exact fun z => nomatch z)
    exact q t u _ upd_same (Same.new ht _ _ upd_same) ht0 (s.trans (Same.new ht))⟩⟩)
end
end L2
namespace L2
open PySem PySem.Spec PyProof.Rows
section
variable {ta tc : TE} {g : TG} {tb : TS} {D : Ends} {σ : St} {H : Hp} {hi lo : Int} {n : Nat} {t u : TT} {QT : Bool → Hp → Prop}
theorem st_forR2W (ha : Val ta σ H (.int lo)) (hc : Val tc σ H (.int hi)) (hn : hi - lo = (n : Int)) (b1 : -(2 ^ 61) ≤ lo) (b2 : hi ≤ 2 ^ 61) (Pv : Nat → St → Hp → Prop) (h0 : Pv 0 σ H)
    (hs : ∀ i σ H, i < n → Pv i σ H → g (.int (lo + i)) σ H fun σ2 H2 => tb { D with nx := Pv (i + 1), ct := Pv (i + 1), bk := D.nx } σ2 H2) (hd : ∀ σ H, Pv n σ H → D.nx σ H) : tFor (iRng2 (tCons ta (tCons tc tNil))) g tb D σ H := by
  refine ha _ (hc _ ⟨_, _, rfl, ⟨by omega, by omega, by omega, by omega⟩, ?_⟩)
  have e : (hi - lo).toNat = n := by omega
  rw [e]
  exact for_range Pv h0 hs hd
/-- a test that is surely true, whatever it lays -/
abbrev Sure (t : TT) (σ : St) (H : Hp) : Prop := ∀ QT : Bool → Hp → Prop, (∀ H', Same H H' → QT true H') → t σ H QT
theorem or_sure (h : Sure t σ H) (k : ∀ H', Same H H' → u σ H' QT) : tOr (tNot t) u σ H QT := h _ fun H' s => iteF (k H' s)
theorem not_sure (h : Sure t σ H) (k : ∀ H', Same H H' → QT false H') : tNot t σ H QT := h _ fun H' s => k H' s
theorem guard_sure {t1 t3 : TS} (h : Sure t σ H) (k : ∀ H', Same H H' → t3 D σ H') : tSeq (tIfS (tNot t) t1 tNext) t3 D σ H := st_seq (st_ifX (not_sure h fun H' s => iteF (k H' s)))
theorem guard_sure2 {t1 t3 : TS} (h : Sure t σ H) (h2 : ∀ H', Same H H' → Sure u σ H') (k : ∀ H', Same H H' → t3 D σ H') : tSeq (tIfS (tOr (tNot t) (tNot u)) t1 tNext) t3 D σ H := st_seq (st_ifX (or_sure h fun H' s => not_sure (h2 H' s) fun H'' s' => iteF (k H'' (s.trans s'))))
end
end L2

/-! a lean head: one kernel run of the top, and the facts that Tx wants by one Bool over what the names reach -/
namespace Hm
open PySem PySem.Spec PyProof.Rows L2 He
/-- one level: the addresses not seen yet -/
def stepL {β : Type} : List Addr → Nat → List Addr → (Nat → List Addr → β) → β
  | [], seen, acc, k => k seen acc
  | a :: r, seen, acc, k => match Nat.testBit seen a with
    | true => stepL r seen acc k
    | false => HandSHeadRun.frNat a fun a => HandSHeadRun.frNat (Nat.lor seen (Nat.shiftLeft 1 a)) fun s => stepL r s (a :: acc) k
def lvl (g : Addr → Option Obj) : Nat → List Addr → Nat → List Addr → List Addr
  | 0, _, _, all => all
  | n + 1, fr, seen, all => stepL (fr.flatMap fun a => match g a with
    | some o => refsD o
    | none => []) seen [] fun seen nf => lvl g n nf seen (all ++ nf)
/-- what the module's names reach in n steps -/
def asM (g : Addr → Option Obj) (n : Nat) : List Addr := lvl g n [mainGlobals] (Nat.shiftLeft 1 mainGlobals) [mainGlobals] ++ [cStatics]
abbrev AlM : Type := Bool × List He.FnW
def obsM (ex : List (PySem.W.Frag → Bool)) (fn : List He5.DefA) (K : PySem.W.Frag) : AlM := ((ex.all fun f => f K) && fn.all fun d => d.ok K, fn.map fun d => He5.fnA K (d.at_ K))
def valM (fn : List He5.DefA) : AlM := (true, fn.map He5.DefA.val)
def SaysM (ex : List (PySem.W.Frag → Bool)) (fn : List He5.DefA) (K : PySem.W.Frag) : Prop := obsM ex fn K = valM fn
def obsMG (n : Nat) (ex : List (PySem.W.Frag → Bool)) (fn : List He5.DefA) (g : Addr → Option Obj) : AlM := obsM ex fn (frG g (asM g n))
def hookM (n : Nat) (ex : List (PySem.W.Frag → Bool)) (fn : List He5.DefA) : PySem.W.Hook where
  α := AlM
  obs := fun s => obsMG n ex fn s.heap.get?
  val := fun _ => valM fn
  says := fun _ h => ∃ K : PySem.W.Frag, K.In h ∧ SaysM ex fn K
  of := fun _ _ e => ⟨_, frG_in, e⟩
  keeps := fun _ _ _ ⟨K, hK, c⟩ k => ⟨K, PySem.W.Frag.In.keeps hK k, c⟩
def obM (n : Nat) (ex : List (PySem.W.Frag → Bool)) (fn : List He5.DefA) (s : PySem.W.SharedT) : AlM := obsMG n ex fn (HandSHeadRun.getT s)
theorem obM_eq {n : Nat} {ex : List (PySem.W.Frag → Bool)} {fn : List He5.DefA} (s : PySem.W.SharedT) : obM n ex fn s = (hookM n ex fn).obs s.abs := by
  have e : HandSHeadRun.getT s = s.abs.heap.get? := funext (HandSHeadRun.getT_eq s)
  unfold obM
  rw [e] <;> rfl
section
variable {ex : List (PySem.W.Frag → Bool)} {fn : List He5.DefA} {K : PySem.W.Frag}
theorem SaysM.fact (c : SaysM ex fn K) (i : Nat) {f : PySem.W.Frag → Bool} (h : ex[i]? = some f) : f K = true := by
  have c1 := (ba (show ((ex.all fun f => f K) && fn.all fun d => d.ok K) = true from congrArg (fun z : AlM => z.1) c)).1
  exact List.all_eq_true.mp c1 f (List.mem_of_getElem? h)
theorem SaysM.def_ (c : SaysM ex fn K) (i : Nat) {d : He5.DefA} (h : fn[i]? = some d) : ∃ fd, L2.FunD K d.name d.qual d.params d.body d.scope (d.dvs K) (d.kws K) (d.at_ K) fd := by
  have c2 := (ba (show ((ex.all fun f => f K) && fn.all fun d => d.ok K) = true from congrArg (fun z : AlM => z.1) c)).2
  have e : fn.map (fun d => He5.fnA K (d.at_ K)) = fn.map He5.DefA.val := congrArg (fun z : AlM => z.2) c
  have e2 : (fn.map fun d => He5.fnA K (d.at_ K))[i]? = (fn.map He5.DefA.val)[i]? := by rw [e]
  rw [List.getElem?_map, List.getElem?_map, h] at e2
  exact He5.DefA.funD (Option.some.inj e2) (List.all_eq_true.mp c2 d (List.mem_of_getElem? h))
end
/-! an own exception class -/
def oexB (K : PySem.W.Frag) (C : Addr) : Bool := match K.lookup C with
  | some ⟨.type "type", _, .cls cd, sl⟩ => (match cd.mro, sl.toList with
    | .ref C' :: bm, [_, _, _, _, some (.builtin n), _] => C' == C && n == "ValueError.__new__" && !cd.hasDel && cd.hasDict && PySem.HandSPX.refsVE bm
    | _, _ => false)
  | _ => false
theorem oexB_ok {K : PySem.W.Frag} {C : Addr} (q : oexB K C = true) : ∃ nm qn N bs bm sn sub ab col dd k0 k1 k2 k3 k5, K.lookup C = some (PySem.excClassObj nm qn C N bs bm true sn sub ab col dd k0 k1 k2 k3 k5 "ValueError.__new__") ∧ PySem.HandSPX.refsVE bm = true := by
  unfold oexB at q
  split at q
  · rename_i dd cd sl ho
    split at q
    · rename_i C' bm k0 k1 k2 k3 n k5 hm hs
      simp only [Bool.and_eq_true, beq_iff_eq, Bool.not_eq_true'] at q
      obtain ⟨⟨⟨⟨rfl, rfl⟩, hdel⟩, hd⟩, ht⟩ := q
      obtain ⟨nm, bs, mro, ns, qn, hd', sn, sub, ab, col, del⟩ := cd
      dsimp only at hm hdel hd
      subst hm hdel hd
      have hsl : sl = #[k0, k1, k2, k3, some (.builtin "ValueError.__new__"), k5] := by
        obtain ⟨l⟩ := sl
        simp only at hs
        rw [hs]
      subst hsl
      exact ⟨nm, qn, ns, bs, bm, sn, sub, ab, col, dd, k0, k1, k2, k3, k5, ho, ht⟩
    · cases q
  · cases q
/-- the record at p of the type T: its first place -/
def rc1 (K : PySem.W.Frag) (p : Addr) (T : String) : Addr := match PySem.W.recIn K p T with
  | some (.ref f :: _) => f
  | _ => 0
def rcB (K : PySem.W.Frag) (p : Addr) (T : String) : Bool := match PySem.W.recIn K p T with
  | some (.ref _ :: _) => true
  | _ => false
theorem rcB_ok {K : PySem.W.Frag} {p : Addr} {T : String} (h : rcB K p T = true) : ∃ rest, PySem.W.recIn K p T = some (.ref (rc1 K p T) :: rest) := by
  unfold rcB at h
  unfold rc1
  split at h
  · rename_i f r e
    exact ⟨r, by rw [e]⟩
  · cases h
/-- a module's name: an int -/
def gInt (K : PySem.W.Frag) (x : Str) (i : Int) : Bool := (Fa.int x i).ok K
theorem gInt_ok {K : PySem.W.Frag} {h : Heap} {mg : Str → Option Value} (X : K.In h) (G : h.Ns mainGlobals mg) {x : Str} {i : Int} (c : gInt K x i = true) : ∃ t, mg x = some (.int i t) := int_ok X G c
/-- the tuple at a is empty -/
def tup0B (K : PySem.W.Frag) (a : Addr) : Bool := match K.lookup a with
  | some ⟨.type c, _, .seq its _, _⟩ => decide (c = "tuple") && its.isEmpty
  | _ => false
theorem tup0B_ok {K : PySem.W.Frag} {a : Addr} (h : tup0B K a = true) (H : Hp) : SqT K H a [] := by
  unfold tup0B at h
  cases q : K.lookup a with
  | none =>
    rw [q] at h
    cases h
  | some o =>
    obtain ⟨oc, od, dt, osl⟩ := o
    rw [q] at h
    cases oc with
    | type c =>
      cases dt with
      | seq its n =>
        obtain ⟨h1, h2⟩ := ba (show (decide (c = "tuple") && its.isEmpty) = true from h)
        have e : its = #[] := Array.isEmpty_iff.mp h2
        subst e
        exact .inr ⟨_, _, n, q, congrArg Value.type (of_decide_eq_true h1), rfl, by decide, .nil⟩
      | _ => cases h
    | _ => cases dt <;> cases h
/-- the keyword-only default x of the def at f, if it is an object -/
def kwAt (f : PySem.W.Frag → Addr) (x : Str) (K : PySem.W.Frag) : Addr := match K.lookup (f K) with
  | some ⟨_, _, .func fd, _⟩ => (match fd.kwdefaults with
    | .ref D => (match PySem.W.nsIn K D x with
      | some (some (.ref b)) => b
      | _ => 0)
    | _ => 0)
  | _ => 0
/-- the i-th default of the def at f, if it is an object -/
def dfAt (f : PySem.W.Frag → Addr) (i : Nat) (K : PySem.W.Frag) : Addr := match K.lookup (f K) with
  | some ⟨_, _, .func fd, _⟩ => (match fd.defaults with
    | .ref T => (match K.lookup T with
      | some ⟨_, _, .seq its _, _⟩ => (match its.toList[i]? with
        | some (.ref a) => a
        | _ => 0)
      | _ => 0)
    | _ => 0)
  | _ => 0
end Hm
namespace Hm
open PySem PySem.Spec PyProof.Rows L2 He
theorem fc_ok {K : PySem.W.Frag} {C P : Addr} {m : Str} (h : (match PySem.W.findCls K (.ref C) (.type "type") m with
    | some (.get (.builtin g) (.ref p) .none (.ref D)) => decide (g = "staticmethod.__get__") && (decide (p = P) && decide (D = C))
    | _ => false) = true) : PySem.W.findCls K (.ref C) (.type "type") m = some (.get (.builtin "staticmethod.__get__") (.ref P) .none (.ref C)) := by
  split at h
  · rename_i g p D e
    obtain ⟨k1, k⟩ := ba h
    obtain ⟨k2, k3⟩ := ba k
    rw [e, of_decide_eq_true k1, of_decide_eq_true k2, of_decide_eq_true k3]
  · cases h
end Hm

namespace My
/-! ### plain law: rows of stretches -/
abbrev Iv := Int × Int
def inL (L : List Iv) (t : Int) : Bool := L.any fun a => decide (a.1 ≤ t ∧ t < a.2)
def Tidy (L : List Iv) : Prop := (∀ a ∈ L, a.1 < a.2) ∧ L.Pairwise fun a b => a.2 < b.1
theorem inL_iff {L : List Iv} {t : Int} : inL L t = true ↔ ∃ a ∈ L, a.1 ≤ t ∧ t < a.2 := by
  unfold inL
  rw [List.any_eq_true]
  constructor
  · rintro ⟨a, h, e⟩
    exact ⟨a, h, of_decide_eq_true e⟩
  · rintro ⟨a, h, e⟩
    exact ⟨a, h, decide_eq_true e⟩
theorem Tidy.nil : Tidy [] := ⟨(fun a h => nomatch h), .nil⟩
theorem Tidy.cons {a : Iv} {r : List Iv} : Tidy (a :: r) ↔ a.1 < a.2 ∧ (∀ b ∈ r, a.2 < b.1) ∧ Tidy r := by
  unfold Tidy
  rw [List.pairwise_cons]
  constructor
  · rintro ⟨h1, h2, h3⟩
    exact ⟨h1 a (by simp), h2, fun b hb => h1 b (by simp [hb]), h3⟩
  · rintro ⟨h1, h2, h3, h4⟩
    refine ⟨fun b hb => ?_, h2, h4⟩
    rcases List.mem_cons.mp hb with rfl | hb
    · exact h1
    · exact h3 b hb
theorem inL_cons {a : Iv} {r : List Iv} {t : Int} : inL (a :: r) t = true ↔ (a.1 ≤ t ∧ t < a.2) ∨ inL r t = true := by
  rw [inL_iff, inL_iff]
  constructor
  · rintro ⟨b, hb, h⟩
    rcases List.mem_cons.mp hb with rfl | hb
    · exact Or.inl h
    · exact Or.inr ⟨b, hb, h⟩
  · rintro (h | ⟨b, hb, h⟩)
    · exact ⟨a, by simp, h⟩
    · exact ⟨b, by simp [hb], h⟩
theorem bool_ext {a b : Bool} (h : a = true ↔ b = true) : a = b := by
  cases a <;> cases b <;> simp_all
theorem inL_gt {a : Iv} {r : List Iv} {t : Int} (h : ∀ b ∈ r, a.2 < b.1) (hr : inL r t = true) : a.2 < t := by
  obtain ⟨b, hb, h1, h2⟩ := inL_iff.mp hr
  have := h b hb
  omega
theorem tidy_unique : ∀ {L M : List Iv}, Tidy L → Tidy M → (∀ t, inL L t = true ↔ inL M t = true) → L = M
  | [], [], _, _, _ => rfl
  | [], b :: s, _, hM, h => by
    obtain ⟨h1, _⟩ := Tidy.cons.mp hM
    have := (h b.1).mpr (inL_cons.mpr (Or.inl ⟨Int.le_refl _, h1⟩))
    cases this
  | a :: r, [], hL, _, h => by
    obtain ⟨h1, _⟩ := Tidy.cons.mp hL
    have := (h a.1).mp (inL_cons.mpr (Or.inl ⟨Int.le_refl _, h1⟩))
    cases this
  | a :: r, b :: s, hL, hM, h => by
    obtain ⟨a1, a2, a3⟩ := Tidy.cons.mp hL
    obtain ⟨b1, b2, b3⟩ := Tidy.cons.mp hM
    have e1 : a.1 = b.1 := by
      have x := (h a.1).mp (inL_cons.mpr (Or.inl ⟨Int.le_refl _, a1⟩))
      have y := (h b.1).mpr (inL_cons.mpr (Or.inl ⟨Int.le_refl _, b1⟩))
      rcases inL_cons.mp x with x | x
      · rcases inL_cons.mp y with y | y
        · omega
        · have := inL_gt a2 y
          omega
      · have := inL_gt b2 x
        rcases inL_cons.mp y with y | y
        · omega
        · have := inL_gt a2 y
          omega
    have e2 : a.2 = b.2 := by
      have na : ¬ inL (a :: r) a.2 = true := fun z => by
        rcases inL_cons.mp z with z | z
        · omega
        · have := inL_gt a2 z
          omega
      have nb : ¬ inL (b :: s) b.2 = true := fun z => by
        rcases inL_cons.mp z with z | z
        · omega
        · have := inL_gt b2 z
          omega
      rcases Int.lt_trichotomy a.2 b.2 with c | c | c
      · exact absurd ((h a.2).mpr (inL_cons.mpr (Or.inl ⟨by omega, c⟩))) na
      · exact c
      · exact absurd ((h b.2).mp (inL_cons.mpr (Or.inl ⟨by omega, c⟩))) nb
    have e : a = b := Prod.ext e1 e2
    subst e
    rw [tidy_unique a3 b3 fun t => ?_]
    constructor
    · intro z
      have g := inL_gt a2 z
      rcases inL_cons.mp ((h t).mp (inL_cons.mpr (Or.inr z))) with y | y
      · omega
      · exact y
    · intro z
      have g := inL_gt b2 z
      rcases inL_cons.mp ((h t).mpr (inL_cons.mpr (Or.inr z))) with y | y
      · omega
      · exact y
/-! edges -/
def edges (L : List Iv) : List Int := L.flatMap fun a => [a.1, a.2]
theorem edges_cons {a : Iv} {r : List Iv} : edges (a :: r) = a.1 :: a.2 :: edges r := rfl
theorem mem_edges {L : List Iv} {e : Int} : e ∈ edges L ↔ ∃ a ∈ L, e = a.1 ∨ e = a.2 := by
  unfold edges
  simp [List.mem_flatMap]
theorem edges_up : ∀ {L : List Iv}, Tidy L → (edges L).Pairwise (· < ·)
  | [], _ => .nil
  | a :: r, h => by
    obtain ⟨h1, h2, h3⟩ := Tidy.cons.mp h
    rw [edges_cons]
    have hr : ∀ e ∈ edges r, a.2 < e := fun e he => by
      obtain ⟨b, hb, z⟩ := mem_edges.mp he
      have := h2 b hb
      have := h3.1 b hb
      rcases z with rfl | rfl <;> omega
    refine List.pairwise_cons.mpr ⟨fun e he => ?_, List.pairwise_cons.mpr ⟨fun e he => hr e he, edges_up h3⟩⟩
    rcases List.mem_cons.mp he with rfl | he
    · exact h1
    · have := hr e he
      omega
/-- how many edges lie behind t -/
def over (es : List Int) (t : Int) : Nat := es.countP fun e => decide (t < e)
theorem over_cons {e : Int} {es : List Int} {t : Int} : over (e :: es) t = over es t + if t < e then 1 else 0 := by
  unfold over
  rw [List.countP_cons]
  by_cases h : t < e
  · simp [h]
  · simp [h]
theorem over_append {es fs : List Int} {t : Int} : over (es ++ fs) t = over es t + over fs t := by
  unfold over
  rw [List.countP_append]
theorem over_edges : ∀ {L : List Iv} {t : Int}, Tidy L → (inL L t = true ↔ over (edges L) t % 2 = 1)
  | [], t, _ => by simp [inL, edges, over]
  | a :: r, t, h => by
    obtain ⟨h1, h2, h3⟩ := Tidy.cons.mp h
    have ih := over_edges (t := t) h3
    rw [inL_cons, edges_cons, over_cons, over_cons]
    have all : t < a.2 → over (edges r) t % 2 = 0 := fun z => by
      have : ¬ inL r t = true := fun y => by
        have := inL_gt h2 y
        omega
      have : ¬ over (edges r) t % 2 = 1 := fun y => this (ih.mpr y)
      omega
    by_cases c1 : t < a.1
    · rw [if_pos c1, if_pos (by omega)]
      have := all (by omega)
      constructor
      · rintro (y | y)
        · omega
        · have := ih.mp y; omega
      · intro y
        omega
    · by_cases c2 : t < a.2
      · rw [if_neg c1, if_pos c2]
        have := all c2
        constructor
        · intro _
          omega
        · intro _
          exact Or.inl ⟨by omega, c2⟩
      · rw [if_neg c1, if_neg c2]
        constructor
        · rintro (y | y)
          · omega
          · have := ih.mp y; omega
        · intro y
          exact Or.inr (ih.mpr (by omega))
end My

namespace My
/-! ### the least head: equal last edges go -/
def trim : List Int → List Int → List Int × List Int
  | x :: a, y :: b => if x = y then trim a b else (x :: a, y :: b)
  | a, b => (a, b)
def topE (a b : List Int) : Int := max 0 (max (a.headD 0) (b.headD 0))
theorem over_zero {es : List Int} {t : Int} (h : ∀ e ∈ es, e ≤ t) : over es t = 0 := by
  unfold over
  rw [List.countP_eq_zero]
  intro e he
  have := h e he
  simp
  omega
theorem trim_spec : ∀ (ra rb : List Int), ra.Pairwise (· > ·) → rb.Pairwise (· > ·) →
    (∀ t, topE (trim ra rb).1 (trim ra rb).2 ≤ t → over ra t = over rb t) ∧ (0 < topE (trim ra rb).1 (trim ra rb).2 → over ra (topE (trim ra rb).1 (trim ra rb).2 - 1) % 2 ≠ over rb (topE (trim ra rb).1 (trim ra rb).2 - 1) % 2)
  | [], [], _, _ => by simp [trim, topE, over]
  | [], y :: b, _, hb => by
    have hy := List.pairwise_cons.mp hb
    simp only [trim, topE, List.headD_nil, List.headD_cons]
    refine ⟨fun t ht => ?_, fun h => ?_⟩
    · rw [over_zero (es := y :: b) fun e he => ?_]
      · rfl
      · rcases List.mem_cons.mp he with rfl | he
        · omega
        · have := hy.1 e he; omega
    · have e : max 0 (max 0 y) = y := by omega
      rw [e, over_cons, if_pos (by omega), over_zero (es := b) fun e he => by have := hy.1 e he; omega]
      simp [over]
  | x :: a, [], ha, _ => by
    have hx := List.pairwise_cons.mp ha
    simp only [trim, topE, List.headD_nil, List.headD_cons]
    refine ⟨fun t ht => ?_, fun h => ?_⟩
    · rw [over_zero (es := x :: a) fun e he => ?_]
      · rfl
      · rcases List.mem_cons.mp he with rfl | he
        · omega
        · have := hx.1 e he; omega
    · have e : max 0 (max x 0) = x := by omega
      rw [e, over_cons, if_pos (by omega), over_zero (es := a) fun e he => by have := hx.1 e he; omega]
      simp [over]
  | x :: a, y :: b, ha, hb => by
    have hx := List.pairwise_cons.mp ha
    have hy := List.pairwise_cons.mp hb
    by_cases c : x = y
    · obtain ⟨h1, h2⟩ := trim_spec a b hx.2 hy.2
      have e : trim (x :: a) (y :: b) = trim a b := by rw [trim, if_pos c]
      rw [e]
      subst c
      refine ⟨fun t ht => by rw [over_cons, over_cons, h1 t ht], fun h => ?_⟩
      have := h2 h
      rw [over_cons, over_cons]
      omega
    · have e : trim (x :: a) (y :: b) = (x :: a, y :: b) := by rw [trim, if_neg c]
      rw [e]
      simp only [topE, List.headD_cons]
      refine ⟨fun t ht => ?_, fun h => ?_⟩
      · rw [over_zero (es := x :: a) fun e he => ?_, over_zero (es := y :: b) fun e he => ?_]
        · rcases List.mem_cons.mp he with rfl | he
          · omega
          · have := hy.1 e he; omega
        · rcases List.mem_cons.mp he with rfl | he
          · omega
          · have := hx.1 e he; omega
      · rcases Int.lt_or_gt_of_ne c with z | z
        · have e : max 0 (max x y) = y := by omega
          rw [e, over_zero (es := x :: a) fun e he => ?_, over_cons (e := y), if_pos (by omega), over_zero (es := b) fun e he => by have := hy.1 e he; omega]
          · simp
          · rcases List.mem_cons.mp he with rfl | he
            · omega
            · have := hx.1 e he; omega
        · have e : max 0 (max x y) = x := by omega
          rw [e, over_cons (e := x), if_pos (by omega), over_zero (es := a) fun e he => by have := hx.1 e he; omega, over_zero (es := y :: b) fun e he => ?_]
          · simp
          · rcases List.mem_cons.mp he with rfl | he
            · omega
            · have := hy.1 e he; omega
theorem over_reverse {es : List Int} {t : Int} : over es.reverse t = over es t := by
  unfold over
  rw [List.countP_reverse]
/-! ### stretches put in order become tidy -/
def tStep : List Iv → Iv → List Iv
  | [], a => [a]
  | (s, e) :: r, a => if e < a.1 then a :: (s, e) :: r else if e < a.2 then (s, a.2) :: r else (s, e) :: r
/-- told from its end -/
def RTidy (T : List Iv) : Prop := (∀ a ∈ T, a.1 < a.2) ∧ T.Pairwise fun a b => b.2 < a.1
theorem RTidy.rev {T : List Iv} (h : RTidy T) : Tidy T.reverse := ⟨fun a ha => h.1 a (List.mem_reverse.mp ha), List.pairwise_reverse.mpr h.2⟩
theorem inL_reverse {T : List Iv} {t : Int} : inL T.reverse t = inL T t := by
  unfold inL
  rw [List.any_reverse]
theorem inL_append {S T : List Iv} {t : Int} : inL (S ++ T) t = (inL S t || inL T t) := by
  unfold inL
  rw [List.any_append]
theorem tStep_ok {T : List Iv} {a : Iv} (h : RTidy T) (ha : a.1 < a.2) (hs : ∀ b ∈ T, b.1 ≤ a.1) : RTidy (tStep T a) ∧ (∀ t, inL (tStep T a) t = true ↔ inL T t = true ∨ (a.1 ≤ t ∧ t < a.2)) ∧ ∀ b ∈ tStep T a, b.1 ≤ a.1 := by
  rcases T with _ | ⟨⟨s, e⟩, r⟩
  · refine ⟨⟨fun b hb => ?_, List.pairwise_singleton _ _⟩, fun t => ?_, fun b hb => ?_⟩
    · rw [List.mem_singleton.mp hb]; exact ha
    · simp [tStep, inL]
    · rw [List.mem_singleton.mp hb]; exact Int.le_refl _
  · obtain ⟨h1, h2⟩ := h
    have hp := List.pairwise_cons.mp h2
    have se := h1 (s, e) (by simp)
    have ss := hs (s, e) (by simp)
    dsimp only at se ss
    have eT : tStep ((s, e) :: r) a = if e < a.1 then a :: (s, e) :: r else if e < a.2 then (s, a.2) :: r else (s, e) :: r := rfl
    rw [eT]
    by_cases c1 : e < a.1
    · rw [if_pos c1]
      refine ⟨⟨fun b hb => ?_, List.pairwise_cons.mpr ⟨fun b hb => ?_, h2⟩⟩, fun t => ?_, fun b hb => ?_⟩
      · rcases List.mem_cons.mp hb with rfl | hb
        · exact ha
        · exact h1 b hb
      · rcases List.mem_cons.mp hb with rfl | hb
        · exact c1
        · have := hp.1 b hb
          dsimp only at this
          omega
      · rw [inL_cons]
        constructor
        · rintro (z | z)
          · exact Or.inr z
          · exact Or.inl z
        · rintro (z | z)
          · exact Or.inr z
          · exact Or.inl z
      · rcases List.mem_cons.mp hb with rfl | hb
        · exact Int.le_refl _
        · exact hs b hb
    · rw [if_neg c1]
      by_cases c2 : e < a.2
      · rw [if_pos c2]
        refine ⟨⟨fun b hb => ?_, List.pairwise_cons.mpr ⟨fun b hb => hp.1 b hb, hp.2⟩⟩, fun t => ?_, fun b hb => ?_⟩
        · rcases List.mem_cons.mp hb with rfl | hb
          · dsimp only; omega
          · exact h1 b (by simp [hb])
        · rw [inL_cons, inL_cons]
          dsimp only
          constructor
          · rintro (z | z)
            · by_cases y : t < e
              · exact Or.inl (Or.inl ⟨z.1, y⟩)
              · exact Or.inr ⟨by omega, z.2⟩
            · exact Or.inl (Or.inr z)
          · rintro ((z | z) | z)
            · exact Or.inl ⟨z.1, by omega⟩
            · exact Or.inr z
            · exact Or.inl ⟨by omega, z.2⟩
        · rcases List.mem_cons.mp hb with rfl | hb
          · exact ss
          · exact hs b (by simp [hb])
      · rw [if_neg c2]
        refine ⟨⟨h1, h2⟩, fun t => ?_, hs⟩
        constructor
        · exact Or.inl
        · rintro (z | z)
          · exact z
          · exact inL_cons.mpr (Or.inl ⟨by dsimp only; omega, by dsimp only; omega⟩)
theorem tidy_fold : ∀ (xs : List Iv) (T : List Iv), RTidy T → (∀ a ∈ xs, a.1 < a.2) → xs.Pairwise (fun a b => a.1 ≤ b.1) → (∀ b ∈ T, ∀ a ∈ xs, b.1 ≤ a.1) → RTidy (xs.foldl tStep T) ∧ ∀ t, inL (xs.foldl tStep T) t = true ↔ inL T t = true ∨ inL xs t = true
  | [], T, h, _, _, _ => ⟨h, fun t => by simp [inL]⟩
  | a :: r, T, h, ha, hs, hT => by
    have hp := List.pairwise_cons.mp hs
    obtain ⟨h1, h2, h3⟩ := tStep_ok h (ha a (by simp)) fun b hb => hT b hb a (by simp)
    obtain ⟨g1, g2⟩ := tidy_fold r (tStep T a) h1 (fun b hb => ha b (by simp [hb])) hp.2 fun b hb c hc => Int.le_trans (h3 b hb) (hp.1 c hc)
    refine ⟨g1, fun t => ?_⟩
    rw [List.foldl_cons, g2 t, h2 t, inL_cons]
    constructor
    · rintro ((z | z) | z)
      · exact Or.inl z
      · exact Or.inr (Or.inl z)
      · exact Or.inr (Or.inr z)
    · rintro (z | z | z)
      · exact Or.inl (Or.inl z)
      · exact Or.inl (Or.inr z)
      · exact Or.inr z
end My

namespace My
/-! ### runs round and round -/
theorem gcd_per {α : Type} {f : Nat → α} : ∀ (a b : Nat), (∀ i, f (i + a) = f i) → (∀ i, f (i + b) = f i) → ∀ i, f (i + Nat.gcd a b) = f i := by
  intro a b
  induction a, b using Nat.gcd.induction with
  | H0 b =>
    intro _ hb i
    rw [Nat.gcd_zero_left]
    exact hb i
  | H1 a b ha ih =>
    intro h1 h2 i
    rw [Nat.gcd_rec]
    refine ih (fun i => ?_) h1 i
    have mul : ∀ k i, f (i + a * k) = f i := fun k => by
      induction k with
      | zero => intro i; rfl
      | succ k ihk => intro i; rw [Nat.mul_succ, ← Nat.add_assoc, h1, ihk]
    have e := mul (b / a) (i + b % a)
    rw [← e, Nat.add_assoc, Nat.mod_add_div, h2]
structure Cyc (p : Int) (S W : Nat → Int) (m : Nat) : Prop where
  m1 : 1 ≤ m
  p1 : 1 ≤ p
  per : ∀ i, S (i + m) = S i + p
  perW : ∀ i, W (i + m) = W i
  pos : ∀ i, 0 < W i
  gap : ∀ i, S i + W i < S (i + 1)
def InC (S W : Nat → Int) (t : Int) : Prop := ∃ i, S i ≤ t ∧ t < S i + W i
section
variable {p : Int} {S W : Nat → Int} {m : Nat}
theorem Cyc.lt (c : Cyc p S W m) (i : Nat) : S i < S (i + 1) := by have := c.pos i; have := c.gap i; omega
theorem Cyc.mono (c : Cyc p S W m) {i j : Nat} (h : i < j) : S i + W i < S j := by
  obtain ⟨d, rfl⟩ : ∃ d, j = i + 1 + d := ⟨j - (i + 1), by omega⟩
  clear h
  induction d with
  | zero => exact c.gap i
  | succ d ih => have := c.lt (i + 1 + d); rw [← Nat.add_assoc]; omega
theorem Cyc.le (c : Cyc p S W m) {i j : Nat} (h : i ≤ j) : S i ≤ S j := by
  rcases Nat.lt_or_eq_of_le h with h | rfl
  · have := c.mono h; have := c.pos i; omega
  · exact Int.le_refl _
theorem Cyc.lt_iff (c : Cyc p S W m) {i j : Nat} : S i < S j ↔ i < j := by
  constructor
  · intro h
    exact Nat.lt_of_not_le fun z => by have := c.le z; omega
  · intro h
    have := c.mono h; have := c.pos i; omega
theorem Cyc.inj (c : Cyc p S W m) {i j : Nat} (h : S i = S j) : i = j := by
  rcases Nat.lt_trichotomy i j with z | z | z
  · have := c.lt_iff.mpr z; omega
  · exact z
  · have := c.lt_iff.mpr z; omega
/-- what stands right ahead of a start, or behind a run, is out -/
theorem Cyc.out (c : Cyc p S W m) (i : Nat) : ¬ InC S W (S (i + 1) - 1) := by
  rintro ⟨j, h1, h2⟩
  rcases Nat.lt_or_ge i j with z | z
  · have := c.le (show i + 1 ≤ j from z); omega
  · have := c.mono (show j < i + 1 by omega); omega
theorem Cyc.out2 (c : Cyc p S W m) (i : Nat) : ¬ InC S W (S i + W i) := by
  rintro ⟨j, h1, h2⟩
  have g := c.gap i
  have w := c.pos i
  rcases Nat.lt_trichotomy i j with z | rfl | z
  · have := c.mono z; omega
  · omega
  · have := c.mono z; omega
theorem Cyc.start (c : Cyc p S W m) {x : Int} (h1 : InC S W x) (h2 : ¬ InC S W (x - 1)) : ∃ j, x = S j := by
  obtain ⟨j, a, b⟩ := h1
  refine ⟨j, ?_⟩
  rcases Int.lt_or_eq_of_le a with z | z
  · exact absurd ⟨j, by omega, by omega⟩ h2
  · exact z.symm
/-- a shift of the places is a shift of the minutes -/
theorem Cyc.shift (c : Cyc p S W m) {k : Nat} {d : Int} (h1 : ∀ i, S (i + k) = S i + d) (h2 : ∀ i, W (i + k) = W i) {t : Int} (ht : S 0 ≤ t) : InC S W (t + d) ↔ InC S W t := by
  constructor
  · rintro ⟨j, a, b⟩
    have hk : k ≤ j := Nat.le_of_not_lt fun z => by
      have := c.mono z
      have := h1 0
      rw [Nat.zero_add] at this
      omega
    obtain ⟨i, rfl⟩ : ∃ i, j = i + k := ⟨j - k, by omega⟩
    rw [h1] at a b
    rw [h2] at b
    exact ⟨i, by omega, by omega⟩
  · rintro ⟨i, a, b⟩
    exact ⟨i + k, by rw [h1]; omega, by rw [h1, h2]; omega⟩
/-- a shift of the minutes is a shift of the places -/
theorem Cyc.places (c : Cyc p S W m) {q : Int} (hq : 1 ≤ q) (h : ∀ t, S 0 ≤ t → (InC S W (t + q) ↔ InC S W t)) : ∃ k, 1 ≤ k ∧ (∀ i, S (i + k) = S i + q) ∧ ∀ i, W (i + k) = W i := by
  have img : ∀ i, ∃ j, S j = S (i + 1) + q := fun i => by
    have a : InC S W (S (i + 1) + q) := (h _ (c.le (Nat.zero_le _))).mpr ⟨i + 1, Int.le_refl _, by have := c.pos (i + 1); omega⟩
    have b : ¬ InC S W (S (i + 1) + q - 1) := fun z => by
      have e : S (i + 1) + q - 1 = S (i + 1) - 1 + q := by omega
      rw [e] at z
      have : S 0 < S (i + 1) := c.lt_iff.mpr (Nat.succ_pos i)
      exact c.out i ((h _ (by omega)).mp z)
    obtain ⟨j, e⟩ := c.start a b
    exact ⟨j, e.symm⟩
  obtain ⟨j1, e1⟩ := img 0
  rw [Nat.zero_add] at e1
  have j1g : 1 < j1 := c.lt_iff.mp (by omega)
  obtain ⟨k, rfl⟩ : ∃ k, j1 = 1 + k := ⟨j1 - 1, by omega⟩
  have step : ∀ i, S (i + 1 + k) = S (i + 1) + q := fun i => by
    induction i with
    | zero => rw [Nat.zero_add]; exact e1
    | succ i ih =>
      obtain ⟨j, ej⟩ := img (i + 1)
      have g1 : i + 1 + k < j := c.lt_iff.mp (by rw [ih, ej]; have := c.lt (i + 1); omega)
      -- the next start behind S (i+1+k) comes from a start behind S (i+1)
      have a : InC S W (S (i + 1 + k + 1) - q) := by
        have z : InC S W (S (i + 1 + k + 1) - q + q) := by
          rw [Int.sub_add_cancel]
          exact ⟨_, Int.le_refl _, by have := c.pos (i + 1 + k + 1); omega⟩
        have := c.lt (i + 1 + k)
        have := c.le (Nat.zero_le (i + 1))
        exact (h _ (by omega)).mp z
      have b : ¬ InC S W (S (i + 1 + k + 1) - q - 1) := fun z => by
        have := c.lt (i + 1 + k)
        have := c.le (Nat.zero_le (i + 1))
        have y := (h _ (by omega)).mpr z
        rw [show S (i + 1 + k + 1) - q - 1 + q = S (i + 1 + k + 1) - 1 by omega] at y
        exact c.out (i + 1 + k) y
      obtain ⟨i', e'⟩ := c.start a b
      have g2 : i + 1 < i' := c.lt_iff.mp (by have := c.lt (i + 1 + k); omega)
      have g3 := c.le (show i + 1 + 1 ≤ i' from g2)
      have g4 := c.le (show i + 1 + k + 1 ≤ j from g1)
      have : S j = S (i + 1 + k + 1) := by omega
      have := c.inj this
      subst this
      rw [show i + 1 + 1 + k = i + 1 + k + 1 by omega, ej]
  have all : ∀ i, S (i + k) = S i + q := fun i => by
    have a := step (i + m - 1)
    have := c.m1
    rw [show i + m - 1 + 1 = i + m by omega, c.per] at a
    have b := c.per (i + k)
    rw [show i + k + m = i + m + k by omega] at b
    omega
  have k1 : 1 ≤ k := Nat.pos_of_ne_zero fun z => by
    subst z
    have := all 0
    rw [Nat.add_zero] at this
    omega
  refine ⟨k, k1, all, fun i => ?_⟩
  -- the ends
  have s0 := c.le (Nat.zero_le i)
  have w1 := c.pos i
  have w2 := c.pos (i + k)
  have ei := all i
  rcases Int.lt_trichotomy (W (i + k)) (W i) with z | z | z
  · have a : InC S W (S i + W (i + k)) := ⟨i, by omega, by omega⟩
    have b := (h _ (by omega)).mpr a
    rw [show S i + W (i + k) + q = S (i + k) + W (i + k) by omega] at b
    exact absurd b (c.out2 _)
  · exact z
  · have a : InC S W (S i + W i + q) := ⟨i + k, by omega, by omega⟩
    exact absurd ((h _ (by omega)).mp a) (c.out2 _)
end
end My

namespace My
/-! ### the least period, from the steps round -/
def stp (S W : Nat → Int) (i : Nat) : Int × Int := (S (i + 1) - S i, W i)
def stL (S W : Nat → Int) (m : Nat) : List (Int × Int) := (List.range m).map (stp S W)
theorem inv_of_list {st : Nat → Int × Int} {m size : Nat} (m1 : 1 ≤ m) (hm : ∀ i, st (i + m) = st i) (h1 : 1 ≤ size) (hd : size ∣ m) (h : ((List.range m).map st).drop size = ((List.range m).map st).take (m - size)) : ∀ i, st (i + size) = st i := by
  have low : ∀ j, j + size < m → st (j + size) = st j := fun j hj => by
    have e := congrArg (fun l => l[j]?) h
    simp only [List.getElem?_drop, List.getElem?_take, List.getElem?_map] at e
    rw [if_pos (by omega), List.getElem?_range (by omega), List.getElem?_range (by omega)] at e
    have e := Option.some.inj e
    rw [Nat.add_comm]
    exact e
  have red : ∀ j, j < m → st j = st (j % size) := fun j => by
    induction j using Nat.strongRecOn with
    | ind j ih =>
      intro hj
      by_cases c : j < size
      · rw [Nat.mod_eq_of_lt c]
      · have e := ih (j - size) (by omega) (by omega)
        have l := low (j - size) (by omega)
        rw [show j - size + size = j by omega] at l
        rw [l, e, Nat.mod_eq_sub_mod (by omega : size ≤ j)]
  have mul : ∀ k i, st (i + m * k) = st i := fun k => by
    induction k with
    | zero => intro i; rfl
    | succ k ihk => intro i; rw [Nat.mul_succ, ← Nat.add_assoc, hm, ihk]
  have all : ∀ i, st i = st (i % size) := fun i => by
    have e := mul (i / m) (i % m)
    rw [Nat.mod_add_div] at e
    rw [e, red (i % m) (Nat.mod_lt _ (by omega)), Nat.mod_mod_of_dvd _ hd]
  intro i
  rw [all (i + size), all i, Nat.add_mod_right]
theorem list_of_inv {st : Nat → Int × Int} {m size : Nat} (h : ∀ i, st (i + size) = st i) (hs : size ≤ m) : ((List.range m).map st).drop size = ((List.range m).map st).take (m - size) := by
  refine List.ext_getElem? fun j => ?_
  rw [List.getElem?_drop, List.getElem?_take, List.getElem?_map, List.getElem?_map]
  by_cases c : j < m - size
  · rw [if_pos c, List.getElem?_range (by omega), List.getElem?_range (by omega)]
    show some (st (size + j)) = some (st j)
    rw [Nat.add_comm, h]
  · rw [if_neg c, List.getElem?_eq_none (by simp; omega)]
    rfl
/-- the first size that divides the number of runs and leaves the steps as they are -/
def sizeOk (L : List (Int × Int)) (size : Nat) : Bool := decide (L.length % size = 0) && decide (L.drop size = L.take (L.length - size))
section
variable {p : Int} {S W : Nat → Int} {m : Nat}
theorem stp_per (c : Cyc p S W m) (i : Nat) : stp S W (i + m) = stp S W i := by
  have e : S (i + m + 1) - S (i + m) = S (i + 1) - S i := by
    rw [show i + m + 1 = i + 1 + m by omega, c.per, c.per]
    omega
  unfold stp
  rw [c.perW, e]
theorem stL_len : (stL S W m).length = m := by simp [stL]
theorem inv_shift (h : ∀ i, stp S W (i + k) = stp S W i) (i : Nat) : S (i + k) = S i + (S k - S 0) := by
  induction i with
  | zero => rw [Nat.zero_add]; omega
  | succ i ih =>
    have e : S (i + k + 1) - S (i + k) = S (i + 1) - S i := congrArg Prod.fst (h i)
    rw [show i + 1 + k = i + k + 1 by omega]
    omega
theorem shift_inv {d : Int} (h1 : ∀ i, S (i + k) = S i + d) (h2 : ∀ i, W (i + k) = W i) (i : Nat) : stp S W (i + k) = stp S W i := by
  have e : S (i + k + 1) - S (i + k) = S (i + 1) - S i := by
    rw [show i + k + 1 = i + 1 + k by omega, h1, h1]
    omega
  unfold stp
  rw [h2, e]
/-- the period told by the steps -/
theorem Cyc.size_spec (c : Cyc p S W m) {size : Nat} (h1 : 1 ≤ size) (hm : size ≤ m) (ok : size = m ∨ sizeOk (stL S W m) size = true) (first : ∀ k, 1 ≤ k → k < size → sizeOk (stL S W m) k = false) :
    (∀ t, S 0 ≤ t → (InC S W (t + p * size / m) ↔ InC S W t)) ∧ 1 ≤ p * size / m ∧ p * size / m ≤ p ∧ ∀ q, 1 ≤ q → (∀ t, S 0 ≤ t → (InC S W (t + q) ↔ InC S W t)) → p * size / m ≤ q := by
  have m1 := c.m1
  have inv : size ∣ m ∧ ∀ i, stp S W (i + size) = stp S W i := by
    rcases ok with rfl | ok
    · exact ⟨Nat.dvd_refl _, stp_per c⟩
    · unfold sizeOk at ok
      rw [stL_len, Bool.and_eq_true, decide_eq_true_eq, decide_eq_true_eq] at ok
      have hd := Nat.dvd_of_mod_eq_zero ok.1
      exact ⟨hd, inv_of_list m1 (stp_per c) h1 hd ok.2⟩
  obtain ⟨⟨r, er⟩, iv⟩ := inv
  have sh := inv_shift iv
  have rounds : ∀ k : Nat, S (size * k) = S 0 + k * (S size - S 0) := fun k => by
    induction k with
    | zero => simp
    | succ k ih =>
      rw [Nat.mul_succ, sh, ih]
      have : ((k + 1 : Nat) : Int) * (S size - S 0) = k * (S size - S 0) + (S size - S 0) := by
        rw [Int.natCast_add, Int.add_mul]
        simp
      rw [this]
      omega
  have ep : p = r * (S size - S 0) := by
    have a := rounds r
    have b := c.per 0
    rw [Nat.zero_add] at b
    rw [← er] at a
    omega
  have ed : p * size / m = S size - S 0 := by
    have hm0 : (m : Int) ≠ 0 := by omega
    have e : p * size = (S size - S 0) * m := by
      rw [er, Int.natCast_mul, ep]
      rw [Int.mul_comm (r : Int), Int.mul_assoc, Int.mul_comm (r : Int)]
    rw [e]
    exact Int.mul_ediv_cancel _ hm0
  rw [ed]
  have w : ∀ i, W (i + size) = W i := fun i => congrArg Prod.snd (iv i)
  have up : ∀ i j, i ≤ j → S i ≤ S j := fun i j => c.le
  have per0 := c.per 0
  rw [Nat.zero_add] at per0
  refine ⟨fun t ht => c.shift sh w ht, ?_, ?_, fun q hq hper => ?_⟩
  · have := c.lt_iff.mpr (show 0 < size from h1)
    omega
  · have := up _ _ hm
    omega
  · obtain ⟨k, k1, hk, wk⟩ := c.places hq hper
    have ik := shift_inv hk wk
    have ig := gcd_per k m ik (stp_per c)
    have g1 : 1 ≤ Nat.gcd k m := Nat.gcd_pos_of_pos_left _ k1
    have gk : Nat.gcd k m ≤ k := Nat.gcd_le_left _ k1
    have gm : Nat.gcd k m ≤ m := Nat.gcd_le_right _ m1
    have sg : size ≤ Nat.gcd k m := Nat.le_of_not_lt fun z => by
      have f := first _ g1 z
      unfold sizeOk at f
      rw [stL_len, decide_eq_true (Nat.mod_eq_zero_of_dvd (Nat.gcd_dvd_right k m)), Bool.true_and, decide_eq_false_iff_not] at f
      exact f (list_of_inv ig gm)
    have a := hk 0
    rw [Nat.zero_add] at a
    have := up _ _ (Nat.le_trans sg gk)
    omega
end
end My

namespace My
/-! ### the runs of one round -/
abbrev Rn := Int × Int
/-- starts and lengths round a period -/
structure RunsOk (p : Int) (L : List Rn) : Prop where
  ne : 1 ≤ L.length
  pos : ∀ a ∈ L, 0 < a.2
  gap : ∀ i a b, L[i]? = some a → L[i + 1]? = some b → a.1 + a.2 < b.1
  last : ∀ a b, L[0]? = some a → L[L.length - 1]? = some b → b.1 + b.2 < a.1 + p
def rS (p : Int) (L : List Rn) (i : Nat) : Int := (L.getD (i % L.length) (0, 0)).1 + p * (i / L.length : Nat)
def rW (L : List Rn) (i : Nat) : Int := (L.getD (i % L.length) (0, 0)).2
theorem getD_some {α : Type} {L : List α} {i : Nat} {a d : α} (h : L[i]? = some a) : L.getD i d = a := by
  rw [List.getD_eq_getElem?_getD, h]
  rfl
theorem RunsOk.at {p : Int} {L : List Rn} (h : RunsOk p L) (i : Nat) : ∃ a, L[i % L.length]? = some a ∧ a ∈ L ∧ rS p L i = a.1 + p * (i / L.length : Nat) ∧ rW L i = a.2 := by
  have l := h.ne
  have b := Nat.mod_lt i (show 0 < L.length by omega)
  have e := List.getElem?_eq_getElem b
  exact ⟨_, e, List.getElem_mem _, by unfold rS; rw [getD_some e], by unfold rW; rw [getD_some e]⟩
theorem RunsOk.cyc {p : Int} {L : List Rn} (h : RunsOk p L) : Cyc p (rS p L) (rW L) L.length := by
  have l := h.ne
  have l0 : 0 < L.length := by omega
  have up : ∀ (i : Nat) a b, L[0]? = some a → L[i]? = some b → a.1 ≤ b.1 := fun i => by
    induction i with
    | zero => intro a b ha hb; rw [ha] at hb; cases hb; exact Int.le_refl _
    | succ i ih =>
      intro a b ha hb
      have hi : i < L.length := by have := (List.getElem?_eq_some_iff.mp hb).1; omega
      have e := List.getElem?_eq_getElem hi
      have := ih a _ ha e
      have := h.gap i _ _ e hb
      have := h.pos _ (List.getElem_mem hi)
      omega
  have p1 : 1 ≤ p := by
    have e0 := List.getElem?_eq_getElem l0
    have e1 := List.getElem?_eq_getElem (show L.length - 1 < L.length by omega)
    have := h.last _ _ e0 e1
    have := up _ _ _ e0 e1
    have := h.pos _ (List.getElem_mem (show L.length - 1 < L.length by omega))
    omega
  refine ⟨l, p1, fun i => ?_, fun i => ?_, fun i => ?_, fun i => ?_⟩
  · unfold rS
    rw [Nat.add_mod_right, Nat.add_div_right _ l0]
    have : p * ((i / L.length).succ : Nat) = p * (i / L.length : Nat) + p := by
      rw [Nat.succ_eq_add_one, Int.natCast_add, Int.mul_add]
      simp
    rw [this]
    omega
  · unfold rW
    rw [Nat.add_mod_right]
  · obtain ⟨a, _, ha, _, e⟩ := h.at i
    rw [e]
    exact h.pos a ha
  · obtain ⟨a, ha, _, e1, e2⟩ := h.at i
    obtain ⟨b, hb, _, e3, _⟩ := h.at (i + 1)
    rw [e1, e2, e3]
    have b1 := Nat.mod_lt i l0
    by_cases c : i % L.length + 1 < L.length
    · have m : (i + 1) % L.length = i % L.length + 1 := by
        rw [Nat.add_mod]
        by_cases c1 : L.length = 1
        · omega
        · rw [Nat.mod_eq_of_lt (show 1 < L.length by omega), Nat.mod_eq_of_lt c]
      have d : (i + 1) / L.length = i / L.length := by
        have a1 := Nat.div_add_mod i L.length
        have a2 := Nat.div_add_mod (i + 1) L.length
        rw [m] at a2
        have : L.length * ((i + 1) / L.length) = L.length * (i / L.length) := by omega
        exact Nat.eq_of_mul_eq_mul_left l0 this
      rw [m] at hb
      rw [d]
      have := h.gap _ _ _ ha hb
      omega
    · have m0 : i % L.length = L.length - 1 := by omega
      have a1 := Nat.div_add_mod i L.length
      have e : i + 1 = L.length * (i / L.length + 1) := by rw [Nat.mul_add]; omega
      have m : (i + 1) % L.length = 0 := by rw [e]; exact Nat.mul_mod_right _ _
      have d : (i + 1) / L.length = i / L.length + 1 := by rw [e]; exact Nat.mul_div_cancel_left _ l0
      rw [m] at hb
      rw [m0] at ha
      rw [d]
      have := h.last _ _ hb ha
      have e2 : p * ((i / L.length + 1 : Nat) : Int) = p * (i / L.length : Nat) + p := by
        rw [Int.natCast_add, Int.mul_add]
        simp
      rw [e2]
      omega
theorem RunsOk.up {p : Int} {L : List Rn} (h : RunsOk p L) {a b : Rn} {i j : Nat} (hij : i < j) (ha : L[i]? = some a) (hb : L[j]? = some b) : a.1 + a.2 < b.1 := by
  obtain ⟨d, rfl⟩ : ∃ d, j = i + 1 + d := ⟨j - (i + 1), by omega⟩
  clear hij
  induction d generalizing b with
  | zero => exact h.gap _ _ _ ha hb
  | succ d ih =>
    have hi : i + 1 + d < L.length := by have := (List.getElem?_eq_some_iff.mp hb).1; omega
    have e := List.getElem?_eq_getElem hi
    have := ih e
    have := h.gap _ _ _ e hb
    have := h.pos _ (List.getElem_mem hi)
    omega
/-- in a run, read round the period -/
theorem RunsOk.inC {p : Int} {L : List Rn} (h : RunsOk p L) {t : Int} (ht : rS p L 0 ≤ t) : InC (rS p L) (rW L) t ↔ ∃ a ∈ L, (t - a.1) % p < a.2 := by
  have l := h.ne
  have l0 : 0 < L.length := by omega
  have p1 := h.cyc.p1
  have e0 := List.getElem?_eq_getElem l0
  have z0 : rS p L 0 = (L[0]).1 := by
    unfold rS
    rw [Nat.zero_mod, Nat.zero_div, getD_some e0]
    simp
  have short : ∀ a ∈ L, a.2 < p ∧ a.1 + a.2 < (L[0]).1 + p := fun a ha => by
    obtain ⟨i, hi, rfl⟩ := List.mem_iff_getElem.mp ha
    have ei := List.getElem?_eq_getElem hi
    have e1 := List.getElem?_eq_getElem (show L.length - 1 < L.length by omega)
    have g := h.last _ _ e0 e1
    have w := h.pos _ (List.getElem_mem (show L.length - 1 < L.length by omega))
    have a0 : (L[0]).1 ≤ (L[i]).1 := by
      by_cases c : i = 0
      · subst c; exact Int.le_refl _
      · have := h.up (show 0 < i by omega) e0 ei
        have := h.pos _ (List.getElem_mem l0)
        omega
    by_cases c : i = L.length - 1
    · subst c
      omega
    · have := h.up (show i < L.length - 1 by omega) ei e1
      omega
  constructor
  · rintro ⟨i, h1, h2⟩
    obtain ⟨a, _, ha, e1, e2⟩ := h.at i
    rw [e1] at h1 h2
    rw [e2] at h2
    refine ⟨a, ha, ?_⟩
    have := (short a ha).1
    have e : t - a.1 = (t - a.1 - p * (i / L.length : Nat)) + p * (i / L.length : Nat) := by omega
    rw [e, Int.add_mul_emod_self_left, Int.emod_eq_of_lt (by omega) (by omega)]
    omega
  · rintro ⟨a, ha, hm⟩
    obtain ⟨j, hj, ej⟩ := List.mem_iff_getElem.mp ha
    have dm := Int.mul_ediv_add_emod (t - a.1) p
    have r0 := Int.emod_nonneg (t - a.1) (show p ≠ 0 by omega)
    have sh := short a ha
    by_cases c : 0 ≤ (t - a.1) / p
    · obtain ⟨k, hk⟩ := Int.eq_ofNat_of_zero_le c
      refine ⟨j + L.length * k, ?_, ?_⟩
      · unfold rS
        rw [Nat.add_mul_mod_self_left, Nat.add_mul_div_left _ _ l0, Nat.mod_eq_of_lt hj, Nat.div_eq_of_lt hj, getD_some (List.getElem?_eq_getElem hj), ej, Nat.zero_add]
        rw [hk] at dm
        omega
      · unfold rS rW
        rw [Nat.add_mul_mod_self_left, Nat.add_mul_div_left _ _ l0, Nat.mod_eq_of_lt hj, Nat.div_eq_of_lt hj, getD_some (List.getElem?_eq_getElem hj), ej, Nat.zero_add]
        rw [hk] at dm
        omega
    · have : p * ((t - a.1) / p) ≤ p * (-1) := Int.mul_le_mul_of_nonneg_left (by omega) (by omega)
      rw [z0] at ht
      omega
end My

namespace My
/-! ### the runs of a round, from its stretches -/
def rl (a : Iv) : Rn := (a.1, a.2 - a.1)
def runsOf (h p : Int) (R : List Iv) : List Rn :=
  if (R.headD (0, 0)).1 = h ∧ (R.getLastD (0, 0)).2 = h + p then ((R.map rl).drop 1).dropLast ++ [((R.getLastD (0, 0)).1, ((R.getLastD (0, 0)).2 - (R.getLastD (0, 0)).1) + ((R.headD (0, 0)).2 - (R.headD (0, 0)).1))] else R.map rl
theorem runs_mk {p : Int} {L : List Rn} (ne : 1 ≤ L.length) (pos : ∀ a ∈ L, 0 < a.2) (pw : L.Pairwise fun a b => a.1 + a.2 < b.1) (last : ∀ a b, L[0]? = some a → L[L.length - 1]? = some b → b.1 + b.2 < a.1 + p) : RunsOk p L := by
  refine ⟨ne, pos, fun i a b ha hb => ?_, last⟩
  obtain ⟨hi, rfl⟩ := List.getElem?_eq_some_iff.mp ha
  obtain ⟨hj, rfl⟩ := List.getElem?_eq_some_iff.mp hb
  exact List.pairwise_iff_getElem.mp pw i (i + 1) hi hj (by omega)
theorem split_last {α : Type} {L : List α} (h : L ≠ []) : ∃ M z, L = M ++ [z] := ⟨L.dropLast, L.getLast h, (List.dropLast_concat_getLast h).symm⟩
theorem last_snoc {α : Type} {M : List α} {z d : α} : (M ++ [z]).getLastD d = z := by
  rw [List.getLastD_eq_getLast?, List.getLast?_append]
  rfl
structure Tail (h p : Int) (R : List Iv) : Prop where
  p1 : 1 ≤ p
  td : Tidy R
  box : ∀ a ∈ R, h ≤ a.1 ∧ a.2 ≤ h + p
  ne : R ≠ []
  nf : R.headD (0, 0) ≠ (h, h + p)
theorem Tail.spec {h p : Int} {R : List Iv} (T : Tail h p R) : RunsOk p (runsOf h p R) ∧ (∀ t, (∃ a ∈ runsOf h p R, (t - a.1) % p < a.2) ↔ inL R (h + (t - h) % p) = true) ∧ ∀ a ∈ runsOf h p R, h ≤ a.1 ∧ a.1 < h + p := by
  obtain ⟨p1, td, box, ne, nf⟩ := T
  have sub : ∀ t (a : Iv), h ≤ a.1 → a.2 ≤ h + p → a.1 < a.2 → ∀ x : Int, ((t - a.1) % p < x ↔ if a.1 ≤ h + (t - h) % p then h + (t - h) % p - a.1 < x else h + (t - h) % p - a.1 + p < x) := fun t a b1 b2 b3 x => by
    have r0 := Int.emod_nonneg (t - h) (show p ≠ 0 by omega)
    have r1 := Int.emod_lt_of_pos (t - h) (show 0 < p by omega)
    have dm := Int.mul_ediv_add_emod (t - h) p
    by_cases c : a.1 ≤ h + (t - h) % p
    · rw [if_pos c]
      have e : t - a.1 = (h + (t - h) % p - a.1) + p * ((t - h) / p) := by omega
      rw [e, Int.add_mul_emod_self_left, Int.emod_eq_of_lt (by omega) (by omega)]
    · rw [if_neg c]
      have e : t - a.1 = (h + (t - h) % p - a.1 + p) + p * ((t - h) / p - 1) := by
        rw [Int.mul_sub]
        omega
      rw [e, Int.add_mul_emod_self_left, Int.emod_eq_of_lt (by omega) (by omega)]
  by_cases c : (R.headD (0, 0)).1 = h ∧ (R.getLastD (0, 0)).2 = h + p
  · -- the last run goes on into the first one
    obtain ⟨c1, c2⟩ := c
    rcases R with _ | ⟨⟨s0, e0⟩, r⟩
    · exact absurd rfl ne
    replace c1 : s0 = h := c1
    have rne : r ≠ [] := fun z => by
      subst z
      have c2 : e0 = h + p := c2
      exact nf (Prod.ext c1 c2)
    obtain ⟨M, ⟨s1, e1⟩, rfl⟩ := split_last rne
    replace c2 : e1 = h + p := by
      have : ((s0, e0) :: (M ++ [(s1, e1)])).getLastD (0, 0) = (s1, e1) := last_snoc (M := (s0, e0) :: M)
      rw [this] at c2
      exact c2
    subst c1
    subst c2
    have er : runsOf s0 p ((s0, e0) :: (M ++ [(s1, s0 + p)])) = M.map rl ++ [(s1, (s0 + p - s1) + (e0 - s0))] := by
      unfold runsOf
      have e : ((s0, e0) :: (M ++ [(s1, s0 + p)])).getLastD (0, 0) = (s1, s0 + p) := last_snoc (M := (s0, e0) :: M)
      rw [e, if_pos ⟨rfl, rfl⟩]
      simp
    rw [er]
    obtain ⟨a1, a2, a3⟩ := Tidy.cons.mp td
    dsimp only at a1 a2
    have pw := List.pairwise_append.mp a3.2
    have z1 := a3.1 (s1, s0 + p) (by simp)
    have zb := a2 (s1, s0 + p) (by simp)
    dsimp only at z1 zb
    refine ⟨runs_mk (by simp) ?_ ?_ ?_, fun t => ?_, ?_⟩
    · intro a ha
      rcases List.mem_append.mp ha with ha | ha
      · obtain ⟨b, hb, rfl⟩ := List.mem_map.mp ha
        have := a3.1 b (by simp [hb])
        show 0 < b.2 - b.1
        omega
      · rw [List.mem_singleton.mp ha]
        dsimp only
        omega
    · refine List.pairwise_append.mpr ⟨?_, List.pairwise_singleton _ _, fun a ha b hb => ?_⟩
      · refine List.pairwise_map.mpr (pw.1.imp fun {a b} z => ?_)
        show a.1 + (a.2 - a.1) < b.1
        omega
      · obtain ⟨x, hx, rfl⟩ := List.mem_map.mp ha
        rw [List.mem_singleton.mp hb]
        have := pw.2.2 x hx (s1, s0 + p) (by simp)
        dsimp only at this
        show x.1 + (x.2 - x.1) < s1
        omega
    · intro a b ha hb
      have hb2 : b = (s1, (s0 + p - s1) + (e0 - s0)) := by
        have : (M.map rl ++ [(s1, (s0 + p - s1) + (e0 - s0))]).length - 1 = (M.map rl).length := by simp
        rw [this, List.getElem?_append_right (Nat.le_refl _), Nat.sub_self] at hb
        cases hb
        rfl
      subst hb2
      have : e0 < a.1 := by
        have ha := List.mem_of_getElem? ha
        rcases List.mem_append.mp ha with ha | ha
        · obtain ⟨x, hx, rfl⟩ := List.mem_map.mp ha
          exact a2 x (by simp [hx])
        · rw [List.mem_singleton.mp ha]
          exact zb
      dsimp only
      omega
    · have r0 := Int.emod_nonneg (t - s0) (show p ≠ 0 by omega)
      have r1 := Int.emod_lt_of_pos (t - s0) (show 0 < p by omega)
      have hz := sub t (s1, s0 + p) (by dsimp only; omega) (Int.le_refl _) z1
      dsimp only at hz
      constructor
      · rintro ⟨a, ha, hm⟩
        rcases List.mem_append.mp ha with ha | ha
        · obtain ⟨x, hx, rfl⟩ := List.mem_map.mp ha
          have bx := box x (by simp [hx])
          have lx := a3.1 x (by simp [hx])
          have := (sub t x bx.1 bx.2 lx (x.2 - x.1)).mp hm
          split at this
          · exact inL_iff.mpr ⟨x, by simp [hx], by omega, by omega⟩
          · omega
        · rw [List.mem_singleton.mp ha] at hm
          have := (hz _).mp hm
          split at this
          · exact inL_iff.mpr ⟨(s1, s0 + p), by simp, by dsimp only; omega, by dsimp only; omega⟩
          · exact inL_iff.mpr ⟨(s0, e0), by simp, by dsimp only; omega, by dsimp only; omega⟩
      · intro hu
        obtain ⟨x, hx, u1, u2⟩ := inL_iff.mp hu
        rcases List.mem_cons.mp hx with rfl | hx
        · refine ⟨_, List.mem_append_right _ (List.mem_singleton.mpr rfl), (hz _).mpr ?_⟩
          dsimp only at u1 u2
          rw [if_neg (by omega)]
          omega
        · rcases List.mem_append.mp hx with hx | hx
          · have bx := box x (by simp [hx])
            have lx := a3.1 x (by simp [hx])
            refine ⟨rl x, List.mem_append_left _ (List.mem_map.mpr ⟨x, hx, rfl⟩), (sub t x bx.1 bx.2 lx _).mpr ?_⟩
            rw [if_pos u1]
            show _ < x.2 - x.1
            omega
          · rw [List.mem_singleton.mp hx] at u1 u2
            refine ⟨_, List.mem_append_right _ (List.mem_singleton.mpr rfl), (hz _).mpr ?_⟩
            dsimp only at u1 u2
            rw [if_pos u1]
            omega
    · intro a ha
      rcases List.mem_append.mp ha with ha | ha
      · obtain ⟨x, hx, rfl⟩ := List.mem_map.mp ha
        have bx := box x (by simp [hx])
        have lx := a3.1 x (by simp [hx])
        exact ⟨bx.1, by show x.1 < _; omega⟩
      · rw [List.mem_singleton.mp ha]
        exact ⟨by dsimp only; omega, z1⟩
  · have er : runsOf h p R = R.map rl := by
      unfold runsOf
      rw [if_neg c]
    rw [er]
    have ln : 1 ≤ R.length := by
      rcases R with _ | ⟨x, r⟩
      · exact absurd rfl ne
      · simp
    refine ⟨runs_mk (by simpa using ln) ?_ ?_ ?_, fun t => ?_, ?_⟩
    · intro a ha
      obtain ⟨b, hb, rfl⟩ := List.mem_map.mp ha
      have := td.1 b hb
      show 0 < b.2 - b.1
      omega
    · refine List.pairwise_map.mpr (td.2.imp fun {a b} z => ?_)
      show a.1 + (a.2 - a.1) < b.1
      omega
    · intro a b ha hb
      rw [List.getElem?_map] at ha hb
      obtain ⟨x, hx, rfl⟩ := Option.map_eq_some_iff.mp ha
      obtain ⟨y, hy, rfl⟩ := Option.map_eq_some_iff.mp hb
      have e1 : R.headD (0, 0) = x := by
        rcases R with _ | ⟨x', r⟩
        · cases hx
        · cases hx; rfl
      have e2 : R.getLastD (0, 0) = y := by
        rw [List.length_map] at hy
        rw [List.getLastD_eq_getLast?, List.getLast?_eq_getElem?, hy]
        rfl
      rw [e1, e2] at c
      have bx := box x (List.mem_of_getElem? hx)
      have by' := box y (List.mem_of_getElem? hy)
      show y.1 + (y.2 - y.1) < x.1 + p
      by_cases z : x.1 = h
      · have : y.2 ≠ h + p := fun w => c ⟨z, w⟩
        omega
      · omega
    · constructor
      · rintro ⟨a, ha, hm⟩
        obtain ⟨x, hx, rfl⟩ := List.mem_map.mp ha
        have bx := box x hx
        have lx := td.1 x hx
        have r0 := Int.emod_nonneg (t - h) (show p ≠ 0 by omega)
        have := (sub t x bx.1 bx.2 lx (x.2 - x.1)).mp hm
        split at this
        · exact inL_iff.mpr ⟨x, hx, by omega, by omega⟩
        · omega
      · intro hu
        obtain ⟨x, hx, u1, u2⟩ := inL_iff.mp hu
        have bx := box x hx
        have lx := td.1 x hx
        refine ⟨rl x, List.mem_map.mpr ⟨x, hx, rfl⟩, (sub t x bx.1 bx.2 lx _).mpr ?_⟩
        rw [if_pos u1]
        show _ < x.2 - x.1
        omega
    · intro a ha
      obtain ⟨x, hx, rfl⟩ := List.mem_map.mp ha
      have bx := box x hx
      have lx := td.1 x hx
      exact ⟨bx.1, by show x.1 < _; omega⟩
end My

namespace My
/-! ### the least period of a set of minutes that comes round -/
def stepsOf (p : Int) (L : List Rn) : List (Int × Int) := List.zipWith (fun a b => (b.1 - a.1, a.2)) L (L.drop 1 ++ [((L.headD (0, 0)).1 + p, 0)])
theorem RunsOk.steps {p : Int} {L : List Rn} (h : RunsOk p L) : stepsOf p L = stL (rS p L) (rW L) L.length := by
  have l := h.ne
  have e0 := List.getElem?_eq_getElem (show 0 < L.length by omega)
  have hd : L.headD (0, 0) = L[0] := by
    rcases L with _ | ⟨a, r⟩
    · simp at l
    · rfl
  refine List.ext_getElem? fun i => ?_
  unfold stepsOf stL
  rw [List.getElem?_zipWith, List.getElem?_map]
  by_cases c : i < L.length
  · rw [List.getElem?_eq_getElem c, List.getElem?_range c]
    have w : rW L i = (L[i]).2 := by
      unfold rW
      rw [Nat.mod_eq_of_lt c, getD_some (List.getElem?_eq_getElem c)]
    have s : rS p L i = (L[i]).1 := by
      unfold rS
      rw [Nat.mod_eq_of_lt c, Nat.div_eq_of_lt c, getD_some (List.getElem?_eq_getElem c)]
      simp
    by_cases c2 : i + 1 < L.length
    · rw [List.getElem?_append_left (by rw [List.length_drop]; omega), List.getElem?_drop, Nat.add_comm 1 i, List.getElem?_eq_getElem c2]
      have s2 : rS p L (i + 1) = (L[i + 1]).1 := by
        unfold rS
        rw [Nat.mod_eq_of_lt c2, Nat.div_eq_of_lt c2, getD_some (List.getElem?_eq_getElem c2)]
        simp
      show some ((L[i + 1]).1 - (L[i]).1, (L[i]).2) = some (rS p L (i + 1) - rS p L i, rW L i)
      rw [w, s, s2]
    · have e : i + 1 = L.length := by omega
      rw [List.getElem?_append_right (by rw [List.length_drop]; omega), List.length_drop, show i - (L.length - 1) = 0 by omega]
      have s2 : rS p L (i + 1) = (L[0]).1 + p := by
        unfold rS
        rw [e, Nat.mod_self, Nat.div_self (by omega), getD_some e0]
        simp
      show some ((L.headD (0, 0)).1 + p - (L[i]).1, (L[i]).2) = some (rS p L (i + 1) - rS p L i, rW L i)
      rw [w, s, s2, hd]
  · rw [List.getElem?_eq_none (by omega), List.getElem?_eq_none (by simp; omega), List.getElem?_eq_none (l := List.range L.length) (by simp; omega)]
    rfl
/-- P comes round from h on -/
def Ev (h p : Int) (P : Int → Prop) : Prop := ∀ t, h ≤ t → (P (t + p) ↔ P t)
theorem Ev.mul {h p : Int} {P : Int → Prop} (e : Ev h p P) (hp : 0 ≤ p) (k : Nat) {t : Int} (ht : h ≤ t) : P (t + p * k) ↔ P t := by
  induction k with
  | zero => simp
  | succ k ih =>
    have : t + p * ((k + 1 : Nat) : Int) = t + p * (k : Nat) + p := by
      rw [Int.natCast_add, Int.mul_add]
      simp
      omega
    rw [this, e _ (by have := Int.mul_nonneg hp (Int.natCast_nonneg k); omega), ih]
theorem far_up {p t x : Int} (hp : 1 ≤ p) : ∃ k : Nat, x ≤ t + p * k := by
  refine ⟨(x - t).toNat, ?_⟩
  by_cases c : x ≤ t
  · have := Int.mul_nonneg (show 0 ≤ p by omega) (Int.natCast_nonneg (x - t).toNat)
    omega
  · have e : (((x - t).toNat : Nat) : Int) = x - t := by omega
    rw [e]
    have : 1 * (x - t) ≤ p * (x - t) := Int.mul_le_mul_of_nonneg_right hp (by omega)
    omega
/-- a period from anywhere on is a period from h on -/
theorem Ev.back {h p q h' : Int} {P : Int → Prop} (e : Ev h p P) (hp : 1 ≤ p) (hq : 0 ≤ q) (e' : Ev h' q P) : Ev h q P := fun t ht => by
  obtain ⟨k, hk⟩ := far_up (t := t) (x := h') hp
  have a := e.mul (by omega) k ht
  have b := e.mul (by omega) k (t := t + q) (by omega)
  have c := e' _ hk
  rw [show t + p * k + q = t + q + p * k by omega] at c
  rw [← b, c, a]
/-- the tail read round -/
def rnd (h p : Int) (R : List Iv) (t : Int) : Prop := inL R (h + (t - h) % p) = true
theorem rnd_ev {h p : Int} {R : List Iv} : Ev h p (rnd h p R) := fun t _ => by
  unfold rnd
  rw [show t + p - h = (t - h) + p by omega, Int.add_emod_right]
theorem Tail.least {h p : Int} {R : List Iv} (T : Tail h p R) {size : Nat} (h1 : 1 ≤ size) (hm : size ≤ (runsOf h p R).length) (ok : size = (runsOf h p R).length ∨ sizeOk (stepsOf p (runsOf h p R)) size = true)
    (first : ∀ k, 1 ≤ k → k < size → sizeOk (stepsOf p (runsOf h p R)) k = false) :
    Ev h (p * size / (runsOf h p R).length) (rnd h p R) ∧ 1 ≤ p * size / (runsOf h p R).length ∧ p * size / (runsOf h p R).length ≤ p ∧ ∀ q h', 1 ≤ q → Ev h' q (rnd h p R) → p * size / (runsOf h p R).length ≤ q := by
  obtain ⟨ro, rd, bx⟩ := T.spec
  have p1 := T.p1
  rw [ro.steps] at ok first
  obtain ⟨s1, s2, s3, s4⟩ := ro.cyc.size_spec h1 hm ok first
  have S0 : h ≤ rS p (runsOf h p R) 0 ∧ rS p (runsOf h p R) 0 < h + p := by
    have l := ro.ne
    have e0 := List.getElem?_eq_getElem (show 0 < (runsOf h p R).length by omega)
    have : rS p (runsOf h p R) 0 = ((runsOf h p R)[0]).1 := by
      unfold rS
      rw [Nat.zero_mod, Nat.zero_div, getD_some e0]
      simp
    rw [this]
    exact bx _ (List.getElem_mem _)
  have same : ∀ t, rS p (runsOf h p R) 0 ≤ t → (InC (rS p (runsOf h p R)) (rW (runsOf h p R)) t ↔ rnd h p R t) := fun t ht => by
    rw [ro.inC ht, rd t]
    rfl
  refine ⟨fun t ht => ?_, s2, s3, fun q h' hq e => ?_⟩
  · have a := s1 (t + p) (by omega)
    rw [same _ (by omega), same _ (by omega)] at a
    have b := rnd_ev (h := h) (p := p) (R := R) t ht
    have c := rnd_ev (h := h) (p := p) (R := R) (t + p * size / (runsOf h p R).length) (by omega)
    rw [show t + p + p * size / (runsOf h p R).length = t + p * size / (runsOf h p R).length + p by omega] at a
    rw [← c, a, b]
  · refine s4 q hq fun t ht => ?_
    rw [same t ht, same _ (by omega)]
    exact (rnd_ev (h := h) (p := p) (R := R)).back p1 (by omega) e t (by omega)
end My

namespace My
/-! ### the one form of a set of minutes -/
structure Canon (P : Int → Prop) (h p : Int) (L : List Iv) : Prop where
  h0 : 0 ≤ h
  p1 : 1 ≤ p
  ev : Ev h p P
  least : ∀ q h', 1 ≤ q → Ev h' q P → p ≤ q
  lh : 0 < h → ¬ (P (h - 1 + p) ↔ P (h - 1))
  td : Tidy L
  inl : ∀ t, inL L t = true ↔ P t ∧ 0 ≤ t ∧ t < h + p
theorem Canon.unique {P : Int → Prop} {h p h' p' : Int} {L L' : List Iv} (a : Canon P h p L) (b : Canon P h' p' L') : h = h' ∧ p = p' ∧ L = L' := by
  have e1 : p = p' := Int.le_antisymm (a.least _ _ b.p1 b.ev) (b.least _ _ a.p1 a.ev)
  subst e1
  have e2 : h = h' := by
    have a0 := a.h0
    have b0 := b.h0
    rcases Int.lt_trichotomy h h' with z | z | z
    · exact absurd (a.ev (h' - 1) (by omega)) (b.lh (by omega))
    · exact z
    · exact absurd (b.ev (h - 1) (by omega)) (a.lh (by omega))
  subst e2
  exact ⟨rfl, rfl, tidy_unique a.td b.td fun t => by rw [a.inl, b.inl]⟩
/-- a cut of a row -/
def Cut (L : List Iv) (a b : Int) (R : List Iv) : Prop := Tidy R ∧ ∀ t, inL R t = true ↔ inL L t = true ∧ a ≤ t ∧ t < b
theorem Cut.box {L R : List Iv} {a b : Int} (c : Cut L a b R) : ∀ x ∈ R, a ≤ x.1 ∧ x.2 ≤ b := fun x hx => by
  have w := c.1.1 x hx
  have u := (c.2 x.1).mp (inL_iff.mpr ⟨x, hx, Int.le_refl _, w⟩)
  have v := (c.2 (x.2 - 1)).mp (inL_iff.mpr ⟨x, hx, by omega, by omega⟩)
  omega
/-- carried on by its period -/
def ext (h p : Int) (X : Int → Prop) (t : Int) : Prop := X (if t < h + p then t else h + (t - h) % p)
theorem ext_low {h p : Int} {X : Int → Prop} {t : Int} (ht : t < h + p) : ext h p X t ↔ X t := by
  unfold ext
  rw [if_pos ht]
theorem ext_tail {h p : Int} {X : Int → Prop} {t : Int} (ht : h ≤ t) : ext h p X t ↔ X (h + (t - h) % p) := by
  unfold ext
  by_cases c : t < h + p
  · rw [if_pos c, Int.emod_eq_of_lt (by omega) (by omega), show h + (t - h) = t by omega]
  · rw [if_neg c]
theorem shift_tidy {L : List Iv} {d : Int} (h : Tidy L) : Tidy (L.map fun a => (a.1 - d, a.2 - d)) := by
  refine ⟨fun a ha => ?_, List.pairwise_map.mpr (h.2.imp fun {a b} z => ?_)⟩
  · obtain ⟨b, hb, rfl⟩ := List.mem_map.mp ha
    have := h.1 b hb
    dsimp only
    omega
  · dsimp only
    omega
theorem shift_in {L : List Iv} {d t : Int} : inL (L.map fun a => (a.1 - d, a.2 - d)) t = true ↔ inL L (t + d) = true := by
  rw [inL_iff, inL_iff]
  constructor
  · rintro ⟨a, ha, h1, h2⟩
    obtain ⟨b, hb, rfl⟩ := List.mem_map.mp ha
    dsimp only at h1 h2
    exact ⟨b, hb, by omega, by omega⟩
  · rintro ⟨b, hb, h1, h2⟩
    exact ⟨_, List.mem_map.mpr ⟨b, hb, rfl⟩, by dsimp only; omega, by dsimp only; omega⟩
theorem shift_edges {L : List Iv} {d : Int} : edges (L.map fun a => (a.1 - d, a.2 - d)) = (edges L).map fun e => e - d := by
  induction L with
  | nil => rfl
  | cons a r ih =>
    rw [List.map_cons, edges_cons, edges_cons, ih]
    rfl
/-- the head that the edges tell -/
theorem head_spec {P : Int → Prop} {h p : Int} {A B : List Iv} (h0 : 0 ≤ h) (p1 : 1 ≤ p) (ev : Ev h p P) (ta : Tidy A) (tb : Tidy B) (ia : ∀ t, inL A t = true ↔ P t ∧ 0 ≤ t ∧ t < h) (ib : ∀ t, inL B t = true ↔ P (t + p) ∧ 0 ≤ t ∧ t < h) :
    0 ≤ topE (trim (edges A).reverse (edges B).reverse).1 (trim (edges A).reverse (edges B).reverse).2 ∧ topE (trim (edges A).reverse (edges B).reverse).1 (trim (edges A).reverse (edges B).reverse).2 ≤ h ∧
    Ev (topE (trim (edges A).reverse (edges B).reverse).1 (trim (edges A).reverse (edges B).reverse).2) p P ∧
    (0 < topE (trim (edges A).reverse (edges B).reverse).1 (trim (edges A).reverse (edges B).reverse).2 → ¬ (P (topE (trim (edges A).reverse (edges B).reverse).1 (trim (edges A).reverse (edges B).reverse).2 - 1 + p) ↔ P (topE (trim (edges A).reverse (edges B).reverse).1 (trim (edges A).reverse (edges B).reverse).2 - 1))) := by
  have sp := trim_spec (edges A).reverse (edges B).reverse (List.pairwise_reverse.mpr (edges_up ta)) (List.pairwise_reverse.mpr (edges_up tb))
  have m0 : 0 ≤ topE (trim (edges A).reverse (edges B).reverse).1 (trim (edges A).reverse (edges B).reverse).2 := by unfold topE; omega
  generalize topE (trim (edges A).reverse (edges B).reverse).1 (trim (edges A).reverse (edges B).reverse).2 = m at sp m0 ⊢
  obtain ⟨s1, s2⟩ := sp
  rw [over_reverse, over_reverse] at s2
  have pa := fun t => over_edges (t := t) ta
  have pb := fun t => over_edges (t := t) tb
  have mh : m ≤ h := Int.not_lt.mp fun z => by
    have d := s2 (by omega)
    have na : ¬ over (edges A) (m - 1) % 2 = 1 := fun y => by have := (ia _).mp ((pa _).mpr y); omega
    have nb : ¬ over (edges B) (m - 1) % 2 = 1 := fun y => by have := (ib _).mp ((pb _).mpr y); omega
    omega
  refine ⟨m0, mh, fun t ht => ?_, fun hm => ?_⟩
  · by_cases c : t < h
    · have e := s1 t ht
      rw [over_reverse, over_reverse] at e
      have a := ia t
      have b := ib t
      rw [pa t, e, ← pb t, b] at a
      constructor
      · intro z
        exact (a.mp ⟨z, by omega, c⟩).1
      · intro z
        exact (a.mpr ⟨z, by omega, c⟩).1
    · exact ev t (by omega)
  · intro iff
    have d := s2 hm
    have a := ia (m - 1)
    have b := ib (m - 1)
    rw [pa] at a
    rw [pb] at b
    have ab : over (edges A) (m - 1) % 2 = 1 ↔ over (edges B) (m - 1) % 2 = 1 := by
      rw [a, b, iff]
    omega
/-- what least_period tells of the tail -/
inductive LeastP (h p : Int) (R : List Iv) : Int → Prop
  | one : R = [] ∨ R.headD (0, 0) = (h, h + p) → LeastP h p R 1
  | steps {size : Nat} : R ≠ [] → R.headD (0, 0) ≠ (h, h + p) → 1 ≤ size → size ≤ (runsOf h p R).length → (size = (runsOf h p R).length ∨ sizeOk (stepsOf p (runsOf h p R)) size = true) → (∀ k, 1 ≤ k → k < size → sizeOk (stepsOf p (runsOf h p R)) k = false) →
      LeastP h p R (p * size / (runsOf h p R).length)
theorem LeastP.spec {h p q : Int} {R : List Iv} (p1 : 1 ≤ p) (td : Tidy R) (box : ∀ a ∈ R, h ≤ a.1 ∧ a.2 ≤ h + p) (l : LeastP h p R q) : Ev h q (rnd h p R) ∧ 1 ≤ q ∧ q ≤ p ∧ ∀ q' h', 1 ≤ q' → Ev h' q' (rnd h p R) → q ≤ q' := by
  cases l with
  | one e =>
    have u := fun t => Int.emod_nonneg (t - h) (show p ≠ 0 by omega)
    have v := fun t => Int.emod_lt_of_pos (t - h) (show 0 < p by omega)
    refine ⟨fun t _ => ?_, Int.le_refl _, p1, fun q' _ hq _ => hq⟩
    rcases e with rfl | e
    · simp [rnd, inL]
    · have all : ∀ t, rnd h p R t := fun t => by
        rcases R with _ | ⟨a, r⟩
        · have : (0 : Int) = h := congrArg Prod.fst e
          have : (0 : Int) = h + p := congrArg Prod.snd e
          omega
        · have e : a = (h, h + p) := e
          have := u t
          have := v t
          exact inL_cons.mpr (Or.inl ⟨by rw [e]; dsimp only; omega, by rw [e]; dsimp only; omega⟩)
      exact ⟨fun _ => all _, fun _ => all _⟩
  | steps ne nf h1 hm ok first => exact (Tail.mk p1 td box ne nf).least h1 hm ok first
/-- the whole form -/
theorem form_canon {h p q : Int} {U R W N Th L : List Iv} (h0 : 0 ≤ h) (p1 : 1 ≤ p) (tu : Tidy U) (bu : ∀ a ∈ U, 0 ≤ a.1 ∧ a.2 ≤ h + p) (cr : Cut U h (h + p) R) (lp : LeastP h p R q) (cw : Cut U 0 (h + q) W) (cn : Cut W 0 h N) (ct : Cut W q (h + q) Th)
    (cl : ∀ m, m = topE (trim (edges N).reverse ((edges Th).map fun e => e - q).reverse).1 (trim (edges N).reverse ((edges Th).map fun e => e - q).reverse).2 → Cut W 0 (m + q) L) :
    Canon (ext h p fun t => inL U t = true) (topE (trim (edges N).reverse ((edges Th).map fun e => e - q).reverse).1 (trim (edges N).reverse ((edges Th).map fun e => e - q).reverse).2) q L := by
  obtain ⟨ev, q1, qp, le⟩ := lp.spec p1 cr.1 cr.box
  have same : ∀ t, h ≤ t → (ext h p (fun t => inL U t = true) t ↔ rnd h p R t) := fun t ht => by
    rw [ext_tail ht]
    unfold rnd
    have u := Int.emod_nonneg (t - h) (show p ≠ 0 by omega)
    have v := Int.emod_lt_of_pos (t - h) (show 0 < p by omega)
    rw [cr.2]
    exact ⟨fun z => ⟨z, by omega, by omega⟩, fun z => z.1⟩
  have evP : Ev h q (ext h p fun t => inL U t = true) := fun t ht => by
    rw [same t ht, same _ (by omega)]
    exact ev t ht
  have low : ∀ t, t < h + q → (ext h p (fun t => inL U t = true) t ↔ inL U t = true) := fun t ht => ext_low (by omega)
  have hs := head_spec (A := N) (B := Th.map fun a => (a.1 - q, a.2 - q)) h0 q1 evP cn.1 (shift_tidy ct.1) (fun t => by
      rw [cn.2, cw.2]
      constructor
      · rintro ⟨⟨a, b, c⟩, d, e⟩
        exact ⟨(low t (by omega)).mpr a, d, e⟩
      · rintro ⟨a, b, c⟩
        exact ⟨⟨(low t (by omega)).mp a, b, by omega⟩, b, c⟩) (fun t => by
      rw [shift_in, ct.2, cw.2]
      constructor
      · rintro ⟨⟨a, b, c⟩, d, e⟩
        exact ⟨(low _ (by omega)).mpr a, by omega, by omega⟩
      · rintro ⟨a, b, c⟩
        exact ⟨⟨(low _ (by omega)).mp a, by omega, by omega⟩, by omega, by omega⟩)
  rw [shift_edges] at hs
  obtain ⟨m0, mh, em, lh⟩ := hs
  have cl := cl _ rfl
  refine ⟨m0, q1, em, fun q' h' hq e => ?_, lh, cl.1, fun t => ?_⟩
  · refine le q' (max h h') hq fun t ht => ?_
    rw [← same t (by omega), ← same (t + q') (by omega)]
    exact e t (by omega)
  · rw [cl.2, cw.2]
    constructor
    · rintro ⟨⟨a, b, c⟩, d, e⟩
      exact ⟨(low t (by omega)).mpr a, d, e⟩
    · rintro ⟨a, b, c⟩
      exact ⟨⟨(low t (by omega)).mp a, b, by omega⟩, b, c⟩
end My

namespace My
/-! ### the form of minutes that are taken by as times as long -/
def scaleL (b top : Int) (L : List Iv) : List Iv := L.map fun a => (a.1 * b, min (a.2 * b) top)
theorem div_range {t b x y : Int} (hb : 1 ≤ b) : (x ≤ t / b ∧ t / b < y) ↔ (x * b ≤ t ∧ t < y * b) := by
  constructor
  · rintro ⟨h1, h2⟩
    exact ⟨(Int.le_ediv_iff_mul_le (by omega)).mp h1, (Int.ediv_lt_iff_lt_mul (by omega)).mp h2⟩
  · rintro ⟨h1, h2⟩
    exact ⟨(Int.le_ediv_iff_mul_le (by omega)).mpr h1, (Int.ediv_lt_iff_lt_mul (by omega)).mpr h2⟩
theorem div_pred {u b : Int} (hb : 1 ≤ b) (h : u % b ≠ 0) : (u - 1) / b = u / b := by
  have s1 := Int.mul_ediv_add_emod u b
  have r0 := Int.emod_nonneg u (show b ≠ 0 by omega)
  have r1 := Int.emod_lt_of_pos u (show 0 < b by omega)
  have e : u / b * b = b * (u / b) := Int.mul_comm _ _
  have := (div_range (t := u - 1) (x := u / b) (y := u / b + 1) hb).mpr ⟨by omega, by rw [Int.add_mul]; omega⟩
  omega
theorem Canon.const {P : Int → Prop} {h : Int} {L : List Iv} (c : Canon P h 1 L) {x : Int} (hx : h ≤ x) : P x ↔ P h := by
  have e := c.ev.mul (by decide) (x - h).toNat (t := h) (Int.le_refl _)
  rw [show h + 1 * (((x - h).toNat : Nat) : Int) = x by omega] at e
  exact e
theorem Canon.box {P : Int → Prop} {h p : Int} {L : List Iv} (c : Canon P h p L) : ∀ a ∈ L, 0 ≤ a.1 ∧ a.2 ≤ h + p := fun a ha => by
  have w := c.td.1 a ha
  have u := (c.inl a.1).mp (inL_iff.mpr ⟨a, ha, Int.le_refl _, w⟩)
  have v := (c.inl (a.2 - 1)).mp (inL_iff.mpr ⟨a, ha, by omega, by omega⟩)
  omega
theorem Canon.scale {P : Int → Prop} {h p b : Int} {L : List Iv} (c : Canon P h p L) (hb : 1 ≤ b) : Canon (fun t => P (t / b)) (h * b) (if p > 1 then p * b else 1) (scaleL b (h * b + if p > 1 then p * b else 1) L) := by
  have h0 := c.h0
  have p1 := c.p1
  have hm := Int.mul_nonneg h0 (show 0 ≤ b by omega)
  have top : ∀ t, 0 ≤ t → t < h * b + (if p > 1 then p * b else 1) → t / b < h + p := fun t t0 ht => by
    by_cases z : p > 1
    · rw [if_pos z] at ht
      exact (Int.ediv_lt_iff_lt_mul (by omega)).mpr (by rw [Int.add_mul]; exact ht)
    · rw [if_neg z] at ht
      have : t / b ≤ h := by
        have : t / b < h + 1 := (Int.ediv_lt_iff_lt_mul (by omega)).mpr (by rw [Int.add_mul]; omega)
        omega
      omega
  refine ⟨hm, ?_, fun t ht => ?_, fun q h' hq e => ?_, fun hp => ?_, ⟨fun a ha => ?_, List.pairwise_map.mpr ?_⟩, fun t => ?_⟩
  · by_cases z : p > 1
    · rw [if_pos z]
      have : 1 * 1 ≤ p * b := Int.mul_le_mul p1 hb (by decide) (by omega)
      omega
    · rw [if_neg z]
      exact Int.le_refl _
  · have g : h ≤ t / b := (Int.le_ediv_iff_mul_le (by omega)).mpr ht
    by_cases z : p > 1
    · rw [if_pos z]
      show P ((t + p * b) / b) ↔ P (t / b)
      rw [Int.add_mul_ediv_right _ _ (show b ≠ 0 by omega)]
      exact c.ev _ g
    · rw [if_neg z]
      have e1 : p = 1 := by omega
      subst e1
      have g2 : h ≤ (t + 1) / b := (Int.le_ediv_iff_mul_le (by omega)).mpr (by omega)
      show P ((t + 1) / b) ↔ P (t / b)
      rw [c.const g, c.const g2]
  · by_cases z : p > 1
    case neg => rw [if_neg z]; exact hq
    rw [if_pos z]
    -- the set turns somewhere far out
    have far : ∃ x, 0 ≤ x ∧ h' ≤ x ∧ ¬ (P (x + 1) ↔ P x) := Classical.byContradiction fun no => by
      have : Ev (max 0 h') 1 P := fun t ht => Classical.byContradiction fun y => no ⟨t, by omega, by omega, y⟩
      have := c.least 1 _ (Int.le_refl _) this
      omega
    obtain ⟨x, x0, x1, turn⟩ := far
    have xb : x ≤ x * b := by
      have : x * 1 ≤ x * b := Int.mul_le_mul_of_nonneg_left hb x0
      omega
    have t1 : ((x + 1) * b - 1) / b = x := by
      have := (div_range (t := (x + 1) * b - 1) (x := x) (y := x + 1) hb).mpr ⟨by rw [Int.add_mul]; omega, by omega⟩
      omega
    have t2 : ((x + 1) * b) / b = x + 1 := Int.mul_ediv_cancel _ (by omega)
    have e1 := e ((x + 1) * b - 1) (by rw [Int.add_mul]; omega)
    have e2 := e ((x + 1) * b) (by rw [Int.add_mul]; omega)
    dsimp only at e1 e2
    rw [t1] at e1
    rw [t2] at e2
    have dv : b ∣ q := by
      have ne : ((x + 1) * b - 1 + q) / b ≠ ((x + 1) * b + q) / b := fun y => turn (by rw [← e2, ← e1, y])
      have z0 : ((x + 1) * b + q) % b = 0 := Classical.byContradiction fun y => ne (by
        have := div_pred hb y
        rw [← this]
        congr 1
        omega)
      have := Int.dvd_of_emod_eq_zero z0
      exact (Int.dvd_add_right ⟨x + 1, Int.mul_comm _ _⟩).mp this
    obtain ⟨q1, rfl⟩ := dv
    have q1p : 1 ≤ q1 := by
      have : 0 < q1 := Int.pos_of_mul_pos_right (a := b) (by omega) (by omega) |> fun f => f
      omega
    have : p ≤ q1 := c.least q1 (max 0 h') q1p fun y hy => by
      have yb : y ≤ y * b := by
        have : y * 1 ≤ y * b := Int.mul_le_mul_of_nonneg_left hb (by omega)
        omega
      have w := e (y * b) (by omega)
      dsimp only at w
      rw [show y * b + b * q1 = (y + q1) * b by rw [Int.add_mul, Int.mul_comm b q1], Int.mul_ediv_cancel _ (by omega), Int.mul_ediv_cancel _ (by omega)] at w
      exact w
    rw [Int.mul_comm]
    exact Int.mul_le_mul_of_nonneg_left this (by omega)
  · have hp1 : 0 < h := by
      by_cases z : h = 0
      · subst z
        simp at hp
      · omega
    have t1 : (h * b - 1) / b = h - 1 := by
      have := (div_range (t := h * b - 1) (x := h - 1) (y := h) hb).mpr ⟨by rw [Int.sub_mul]; omega, by omega⟩
      omega
    have lh := c.lh hp1
    show ¬ (P ((h * b - 1 + if p > 1 then p * b else 1) / b) ↔ P ((h * b - 1) / b))
    rw [t1]
    by_cases z : p > 1
    · rw [if_pos z, Int.add_mul_ediv_right _ _ (show b ≠ 0 by omega), t1]
      exact lh
    · rw [if_neg z, show h * b - 1 + 1 = h * b by omega, Int.mul_ediv_cancel _ (by omega)]
      have e1 : p = 1 := by omega
      rw [e1, show h - 1 + 1 = h by omega] at lh
      exact lh
  · obtain ⟨x, hx, rfl⟩ := List.mem_map.mp ha
    have w := c.td.1 x hx
    have bx := c.box x hx
    have a1 : x.1 * b < x.2 * b := Int.mul_lt_mul_of_pos_right w (by omega)
    have a2 : x.1 * b ≤ (h + p - 1) * b := Int.mul_le_mul_of_nonneg_right (by omega) (by omega)
    dsimp only
    by_cases z : p > 1
    · rw [if_pos z]
      rw [Int.sub_mul, Int.add_mul] at a2
      omega
    · rw [if_neg z]
      have e1 : p = 1 := by omega
      rw [e1, show h + 1 - 1 = h by omega] at a2
      omega
  · refine c.td.2.imp fun {x y} g => ?_
    have : x.2 * b < y.1 * b := Int.mul_lt_mul_of_pos_right g (by omega)
    dsimp only
    omega
  · rw [inL_iff]
    constructor
    · rintro ⟨a, ha, u1, u2⟩
      obtain ⟨x, hx, rfl⟩ := List.mem_map.mp ha
      dsimp only at u1 u2
      have bx := c.box x hx
      have x0 := Int.mul_nonneg bx.1 (show 0 ≤ b by omega)
      have d := (div_range (t := t) (x := x.1) (y := x.2) hb).mpr ⟨u1, by omega⟩
      exact ⟨((c.inl _).mp (inL_iff.mpr ⟨x, hx, d.1, d.2⟩)).1, by omega, by omega⟩
    · rintro ⟨pt, t0, tt⟩
      have d0 : 0 ≤ t / b := Int.ediv_nonneg t0 (by omega)
      obtain ⟨x, hx, v1, v2⟩ := inL_iff.mp ((c.inl (t / b)).mpr ⟨pt, d0, top t t0 tt⟩)
      have d := (div_range (t := t) (x := x.1) (y := x.2) hb).mp ⟨v1, v2⟩
      exact ⟨_, List.mem_map.mpr ⟨x, hx, rfl⟩, d.1, by dsimp only; omega⟩
end My

namespace My
/-! ### the form that the law reads off its row of minutes -/
def bt (bits : List Bool) (t : Int) : Prop := bits.getD t.toNat false = true
def turnOk (tail : List Bool) (p : Nat) : Prop := tail.length % p = 0 ∧ tail = tail.drop p ++ tail.take p
def tf (tail : List Bool) (i : Nat) : Bool := tail.getD (i % tail.length) false
theorem tf_per {tail : List Bool} (i : Nat) : tf tail (i + tail.length) = tf tail i := by
  unfold tf
  rw [Nat.add_mod_right]
theorem tf_mod {tail : List Bool} (i : Nat) : tf tail (i % tail.length) = tf tail i := by
  unfold tf
  rw [Nat.mod_mod]
theorem turn_per {tail : List Bool} {p : Nat} (l : 1 ≤ tail.length) (hp : p ≤ tail.length) (h : tail = tail.drop p ++ tail.take p) (i : Nat) : tf tail (i + p) = tf tail i := by
  have low : ∀ i, i < tail.length → tf tail (i + p) = tf tail i := fun i hi => by
    have e : tail[i]? = (tail.drop p ++ tail.take p)[i]? := congrArg (fun l => l[i]?) h
    unfold tf
    rw [Nat.mod_eq_of_lt hi, List.getD_eq_getElem?_getD, List.getD_eq_getElem?_getD, e]
    by_cases c : i + p < tail.length
    · rw [Nat.mod_eq_of_lt c, List.getElem?_append_left (by rw [List.length_drop]; omega), List.getElem?_drop, Nat.add_comm]
    · have m : (i + p) % tail.length = i + p - tail.length := by
        rw [Nat.mod_eq_sub_mod (by omega)]
        by_cases z : i + p - tail.length < tail.length
        · exact Nat.mod_eq_of_lt z
        · omega
      rw [m, List.getElem?_append_right (by rw [List.length_drop]; omega), List.length_drop, List.getElem?_take, if_pos (by omega)]
      congr 2
      omega
  have a := low (i % tail.length) (Nat.mod_lt _ (by omega))
  rw [tf_mod] at a
  rw [← a]
  unfold tf
  rw [Nat.mod_add_mod]
theorem per_turn {tail : List Bool} {p : Nat} (l : 1 ≤ tail.length) (hp : p ≤ tail.length) (h : ∀ i, tf tail (i + p) = tf tail i) : tail = tail.drop p ++ tail.take p := by
  refine List.ext_getElem? fun i => ?_
  by_cases c : i < tail.length
  · have e := h i
    unfold tf at e
    rw [Nat.mod_eq_of_lt c] at e
    have gi := List.getElem?_eq_getElem c
    rw [getD_some gi] at e
    rw [gi]
    by_cases c2 : i + p < tail.length
    · rw [Nat.mod_eq_of_lt c2] at e
      have g2 := List.getElem?_eq_getElem c2
      rw [getD_some g2] at e
      rw [List.getElem?_append_left (by rw [List.length_drop]; omega), List.getElem?_drop, Nat.add_comm p i, g2, e]
    · have m : (i + p) % tail.length = i + p - tail.length := by
        rw [Nat.mod_eq_sub_mod (by omega)]
        exact Nat.mod_eq_of_lt (by omega)
      rw [m] at e
      have g2 := List.getElem?_eq_getElem (show i + p - tail.length < tail.length by omega)
      rw [getD_some g2] at e
      rw [List.getElem?_append_right (by rw [List.length_drop]; omega), List.length_drop, List.getElem?_take, if_pos (by omega), show i - (tail.length - p) = i + p - tail.length by omega, g2, e]
  · rw [List.getElem?_eq_none (by omega), List.getElem?_eq_none (by simp; omega)]
theorem law_canon {bits : List Bool} {head : Nat} {least start : Nat} {L : List Iv} (ln : head < bits.length) (l1 : 1 ≤ least) (l2 : least ≤ bits.length - head) (ok : turnOk (bits.drop head) least) (first : ∀ k, 1 ≤ k → k < least → ¬ turnOk (bits.drop head) k)
    (sh : start ≤ head) (same : ∀ t, start ≤ t → t < head → bits.getD t false = bits.getD (t + least) false) (diff : 0 < start → bits.getD (start - 1) false ≠ bits.getD (start - 1 + least) false)
    (td : Tidy L) (inl : ∀ t, inL L t = true ↔ bt bits t ∧ 0 ≤ t ∧ t < (start : Int) + least) :
    Canon (ext head ((bits.length - head : Nat) : Int) (bt bits)) start least L := by
  have tl : (bits.drop head).length = bits.length - head := List.length_drop
  have tl1 : 1 ≤ (bits.drop head).length := by omega
  -- the tail, place by place
  have at_ : ∀ i : Nat, ext head ((bits.length - head : Nat) : Int) (bt bits) ((head : Int) + i) ↔ tf (bits.drop head) i = true := fun i => by
    rw [ext_tail (by omega)]
    unfold bt tf
    rw [tl, List.getD_eq_getElem?_getD, List.getD_eq_getElem?_getD, List.getElem?_drop]
    have e : ((head : Int) + ((head : Int) + i - head) % ((bits.length - head : Nat) : Int)).toNat = head + i % (bits.length - head) := by
      rw [show (head : Int) + i - head = (i : Int) by omega, ← Int.natCast_emod]
      omega
    rw [e]
  have evL : Ev head ((bits.length - head : Nat) : Int) (ext head ((bits.length - head : Nat) : Int) (bt bits)) := fun t ht => by
    obtain ⟨i, rfl⟩ : ∃ i : Nat, t = (head : Int) + i := ⟨(t - head).toNat, by omega⟩
    have a := at_ (i + (bits.length - head))
    rw [show (head : Int) + ((i + (bits.length - head) : Nat) : Int) = (head : Int) + i + ((bits.length - head : Nat) : Int) by omega] at a
    rw [a, at_ i, ← tl, tf_per]
  have per : ∀ (q : Nat), (∀ i, tf (bits.drop head) (i + q) = tf (bits.drop head) i) → Ev head q (ext head ((bits.length - head : Nat) : Int) (bt bits)) := fun q hq t ht => by
    obtain ⟨i, rfl⟩ : ∃ i : Nat, t = (head : Int) + i := ⟨(t - head).toNat, by omega⟩
    have a := at_ (i + q)
    rw [show (head : Int) + ((i + q : Nat) : Int) = (head : Int) + i + q by omega] at a
    rw [a, at_ i, hq]
  have lowP : ∀ t : Int, t < bits.length → (ext head ((bits.length - head : Nat) : Int) (bt bits) t ↔ bt bits t) := fun t ht => ext_low (by omega)
  have evH := per least fun i => turn_per tl1 (by omega) ok.2 i
  refine ⟨by omega, by omega, fun t ht => ?_, fun q h' hq e => ?_, fun hs => ?_, td, fun t => ?_⟩
  · by_cases c : (head : Int) ≤ t
    · exact evH t c
    · obtain ⟨i, rfl⟩ : ∃ i : Nat, t = (i : Int) := ⟨t.toNat, by omega⟩
      rw [lowP _ (by omega), lowP _ (by omega)]
      unfold bt
      have e : ((i : Int) + least).toNat = i + least := by omega
      rw [e, Int.toNat_natCast, same i (by omega) (by omega)]
  · have eb := evL.back (by omega) (by omega) e
    have hf : ∀ i, tf (bits.drop head) (i + q.toNat) = tf (bits.drop head) i := fun i => by
      have a := eb ((head : Int) + i) (by omega)
      rw [show (head : Int) + i + q = (head : Int) + ((i + q.toNat : Nat) : Int) by omega, at_, at_] at a
      exact bool_ext a
    have hg := gcd_per q.toNat (bits.drop head).length hf tf_per
    have g1 : 1 ≤ Nat.gcd q.toNat (bits.drop head).length := Nat.gcd_pos_of_pos_right _ (by omega)
    have gl : Nat.gcd q.toNat (bits.drop head).length ≤ (bits.drop head).length := Nat.gcd_le_right _ (by omega)
    have gq : Nat.gcd q.toNat (bits.drop head).length ≤ q.toNat := Nat.gcd_le_left _ (by omega)
    have : least ≤ Nat.gcd q.toNat (bits.drop head).length := Nat.le_of_not_lt fun z => first _ g1 z ⟨Nat.mod_eq_zero_of_dvd (Nat.gcd_dvd_right _ _), per_turn tl1 gl hg⟩
    omega
  · have d := diff (by omega)
    rw [lowP _ (by omega), lowP _ (by omega)]
    unfold bt
    have e1 : ((start : Int) - 1).toNat = start - 1 := by omega
    have e2 : ((start : Int) - 1 + least).toNat = start - 1 + least := by omega
    rw [e1, e2]
    intro z
    exact d (bool_ext z).symm
  · rw [inl]
    constructor
    · rintro ⟨a, b, c⟩
      exact ⟨(lowP t (by omega)).mpr a, b, c⟩
    · rintro ⟨a, b, c⟩
      exact ⟨(lowP t (by omega)).mp a, b, c⟩
end My

namespace My
theorem Ev.congr {h p : Int} {P Q : Int → Prop} (hp : 0 ≤ p) (h0 : 0 ≤ h) (e : ∀ t, 0 ≤ t → (P t ↔ Q t)) (a : Ev h p P) : Ev h p Q := fun t ht => by
  rw [← e t (by omega), ← e (t + p) (by omega)]
  exact a t ht
theorem Canon.congr {P Q : Int → Prop} {h p : Int} {L : List Iv} (c : Canon P h p L) (e : ∀ t, 0 ≤ t → (P t ↔ Q t)) : Canon Q h p L := by
  have h0 := c.h0
  have p1 := c.p1
  refine ⟨h0, p1, c.ev.congr (by omega) h0 e, fun q h' hq a => ?_, fun hh => ?_, c.td, fun t => ?_⟩
  · refine c.least q (max 0 h') hq (Ev.congr (P := Q) (by omega) (by omega) (fun t ht => (e t ht).symm) fun t ht => a t (by omega))
  · rw [← e _ (by omega), ← e _ (by omega)]
    exact c.lh hh
  · rw [c.inl]
    constructor
    · rintro ⟨a, b, d⟩
      exact ⟨(e t b).mp a, b, d⟩
    · rintro ⟨a, b, d⟩
      exact ⟨(e t b).mpr a, b, d⟩
/-- minutes by as times as long, carried on -/
theorem ext_scale {h p b : Int} {X Y : Int → Prop} (hb : 1 ≤ b) (h0 : 0 ≤ h) (p1 : 1 ≤ p) (e : ∀ t, 0 ≤ t → (X t ↔ Y (t / b))) {t : Int} (ht : 0 ≤ t) : ext (h * b) (p * b) X t ↔ ext h p Y (t / b) := by
  have hm := Int.mul_nonneg h0 (show 0 ≤ b by omega)
  by_cases c : t < h * b + p * b
  · have c2 : t / b < h + p := (Int.ediv_lt_iff_lt_mul (by omega)).mpr (by rw [Int.add_mul]; exact c)
    rw [ext_low c, ext_low c2, e t ht]
  · have c1 : h * b ≤ t := by
      have := Int.mul_nonneg (show 0 ≤ p by omega) (show 0 ≤ b by omega)
      omega
    have c2 : h ≤ t / b := (Int.le_ediv_iff_mul_le (by omega)).mpr c1
    rw [ext_tail c1, ext_tail c2]
    have pb : 0 < p * b := Int.mul_pos (by omega) (by omega)
    have r0 := Int.emod_nonneg (t - h * b) (show p * b ≠ 0 by omega)
    rw [e _ (by omega)]
    have key : (h * b + (t - h * b) % (p * b)) / b = h + (t / b - h) % p := by
      have d1 := Int.mul_ediv_add_emod t b
      have m0 := Int.emod_nonneg t (show b ≠ 0 by omega)
      have m1 := Int.emod_lt_of_pos t (show 0 < b by omega)
      have d2 := Int.mul_ediv_add_emod (t / b - h) p
      have n0 := Int.emod_nonneg (t / b - h) (show p ≠ 0 by omega)
      have n1 := Int.emod_lt_of_pos (t / b - h) (show 0 < p by omega)
      have e1 : t - h * b = ((t / b - h) % p * b + t % b) + p * b * ((t / b - h) / p) := by
        have x1 : b * (t / b) = t / b * b := Int.mul_comm _ _
        have x2 : (t / b - h) * b = t / b * b - h * b := Int.sub_mul _ _ _
        have x3 : (p * ((t / b - h) / p) + (t / b - h) % p) * b = p * ((t / b - h) / p) * b + (t / b - h) % p * b := Int.add_mul _ _ _
        have x4 : p * ((t / b - h) / p) * b = p * b * ((t / b - h) / p) := by rw [Int.mul_assoc, Int.mul_comm ((t / b - h) / p) b, ← Int.mul_assoc]
        rw [d2] at x3
        omega
      have u0 := Int.mul_nonneg n0 (show 0 ≤ b by omega)
      have u1 : (t / b - h) % p * b ≤ (p - 1) * b := Int.mul_le_mul_of_nonneg_right (by omega) (by omega)
      have u2 : (p - 1) * b = p * b - 1 * b := Int.sub_mul _ _ _
      rw [e1, Int.add_mul_emod_self_left, Int.emod_eq_of_lt (by omega) (by omega)]
      have := (div_range (t := h * b + ((t / b - h) % p * b + t % b)) (x := h + (t / b - h) % p) (y := h + (t / b - h) % p + 1) hb).mpr ⟨by rw [Int.add_mul]; omega, by rw [Int.add_mul, Int.add_mul]; omega⟩
      omega
    rw [key]
end My

namespace My
/-! ### cutting out a part -/
def below (L : List Iv) (m : Int) : Nat := L.countP fun a => decide (a.1 < m)
theorem below_cons {a : Iv} {r : List Iv} {m : Int} : below (a :: r) m = below r m + if a.1 < m then 1 else 0 := by
  unfold below
  rw [List.countP_cons]
  simp
theorem below_le {L : List Iv} {m : Int} : below L m ≤ L.length := List.countP_le_length
theorem below_spec : ∀ {L : List Iv} {m : Int} {i : Nat} {a : Iv}, Tidy L → L[i]? = some a → (i < below L m ↔ a.1 < m)
  | [], _, _, _, _, h => by simp at h
  | b :: r, m, i, a, td, h => by
    obtain ⟨t1, t2, t3⟩ := Tidy.cons.mp td
    rw [below_cons]
    cases i with
    | zero =>
      simp at h
      subst h
      by_cases c : b.1 < m
      · simp [c]
      · have : below r m = 0 := by
          unfold below
          refine List.countP_eq_zero.mpr fun x hx => ?_
          have := t2 x hx
          simp
          omega
        simp [c, this]
    | succ j =>
      rw [List.getElem?_cons_succ] at h
      have ih := below_spec (m := m) t3 h
      have := t2 a (List.mem_of_getElem? h)
      by_cases c : b.1 < m
      · rw [if_pos c]
        omega
      · rw [if_neg c]
        omega
def firstC (L : List Iv) (s : Int) : Nat := if 0 < below L s ∧ s < (L.getD (below L s - 1) (0, 0)).2 then below L s - 1 else below L s
def cutC (L : List Iv) (s e : Int) : List Iv := (L.drop (firstC L s)).take (below L e - firstC L s)
def clamp (s e : Int) (a : Iv) : Iv := (max a.1 s, min a.2 e)
theorem cutC_get {L : List Iv} {s e : Int} {i : Nat} {a : Iv} : (cutC L s e)[i]? = some a ↔ i < below L e - firstC L s ∧ L[firstC L s + i]? = some a := by
  unfold cutC
  rw [List.getElem?_take]
  by_cases c : i < below L e - firstC L s
  · rw [if_pos c, List.getElem?_drop]
    exact ⟨fun h => ⟨c, h⟩, fun h => h.2⟩
  · rw [if_neg c]
    exact ⟨fun h => (nomatch h), fun h => absurd h.1 c⟩
theorem cut_len {L : List Iv} {s e : Int} : (cutC L s e).length = below L e - firstC L s := by
  unfold cutC
  rw [List.length_take, List.length_drop]
  have := below_le (L := L) (m := e)
  omega
theorem tidy_lt {L : List Iv} (h : Tidy L) {i j : Nat} {a b : Iv} (hij : i < j) (ha : L[i]? = some a) (hb : L[j]? = some b) : a.2 < b.1 := by
  obtain ⟨hi, rfl⟩ := List.getElem?_eq_some_iff.mp ha
  obtain ⟨hj, rfl⟩ := List.getElem?_eq_some_iff.mp hb
  exact List.pairwise_iff_getElem.mp h.2 i j hi hj hij
theorem cut_in {L : List Iv} {s e : Int} (td : Tidy L) (lt : s < e) {i : Nat} {a : Iv} (h : (cutC L s e)[i]? = some a) : a.1 < e ∧ s < a.2 ∧ (0 < i → s ≤ a.1) ∧ (i + 1 < (cutC L s e).length → a.2 ≤ e) ∧ a.1 < a.2 := by
  obtain ⟨h1, h2⟩ := cutC_get.mp h
  have ma := td.1 a (List.mem_of_getElem? h2)
  have b1 := below_spec (m := e) td h2
  have b2 := below_spec (m := s) td h2
  have hf : below L s ≤ firstC L s + 1 := by unfold firstC; split <;> omega
  refine ⟨by omega, ?_, fun z => by omega, fun z => ?_, ma⟩
  · by_cases c : firstC L s + i < below L s
    · have e1 : firstC L s = below L s - 1 ∧ i = 0 := by unfold firstC at c ⊢; split at c <;> split <;> omega
      have e2 : 0 < below L s ∧ s < (L.getD (below L s - 1) (0, 0)).2 := by
        by_cases z : 0 < below L s ∧ s < (L.getD (below L s - 1) (0, 0)).2
        · exact z
        · unfold firstC at c
          rw [if_neg z] at c
          omega
      have e3 : firstC L s + i = below L s - 1 := by omega
      rw [e3] at h2
      have := e2.2
      rw [List.getD_eq_getElem?_getD, h2] at this
      exact this
    · omega
  · rw [cut_len] at z
    have hb := below_le (L := L) (m := e)
    obtain ⟨b, hb⟩ : ∃ b, L[firstC L s + i + 1]? = some b := ⟨_, List.getElem?_eq_getElem (by omega)⟩
    have b3 := (below_spec (m := e) td hb).mp (by omega)
    have := tidy_lt td (show firstC L s + i < firstC L s + i + 1 by omega) h2 hb
    omega
theorem cut_ok {L : List Iv} {s e : Int} (td : Tidy L) (lt : s < e) : Cut L s e ((cutC L s e).map (clamp s e)) := by
  refine ⟨⟨fun a ha => ?_, ?_⟩, fun t => ?_⟩
  · obtain ⟨b, hb, rfl⟩ := List.mem_map.mp ha
    obtain ⟨i, hi⟩ := List.mem_iff_getElem?.mp hb
    obtain ⟨h1, h2, _, _, h5⟩ := cut_in td lt hi
    unfold clamp
    dsimp only
    omega
  · rw [List.pairwise_map]
    refine List.Pairwise.imp (R := fun (a b : Iv) => a.2 < b.1) (fun {a b} z => ?_) ?_
    · unfold clamp
      dsimp only
      omega
    · unfold cutC
      exact (td.2.sublist (List.drop_sublist _ _)).sublist (List.take_sublist _ _)
  · rw [inL_iff, inL_iff]
    constructor
    · rintro ⟨a, ha, z1, z2⟩
      obtain ⟨b, hb, rfl⟩ := List.mem_map.mp ha
      have hb' : b ∈ L := List.mem_of_mem_drop (List.mem_of_mem_take hb)
      unfold clamp at z1 z2
      dsimp only at z1 z2
      exact ⟨⟨b, hb', by omega, by omega⟩, by omega, by omega⟩
    · rintro ⟨⟨a, ha, z1, z2⟩, z3, z4⟩
      obtain ⟨j, hj⟩ := List.mem_iff_getElem?.mp ha
      have b1 := (below_spec (m := e) td hj).mpr (by omega)
      have hf : firstC L s ≤ j := by
        have b2 := below_spec (m := s) td hj
        unfold firstC
        by_cases c : j < below L s
        · have e1 : j = below L s - 1 := by
            by_cases c2 : j = below L s - 1
            · exact c2
            · have hl := below_le (L := L) (m := s)
              obtain ⟨b, hb⟩ : ∃ b, L[below L s - 1]? = some b := ⟨_, List.getElem?_eq_getElem (by omega)⟩
              have b3 := (below_spec (m := s) td hb).mp (by omega)
              have := tidy_lt td (show j < below L s - 1 by omega) hj hb
              omega
          rw [if_pos ⟨by omega, by rw [← e1, List.getD_eq_getElem?_getD, hj]; show s < a.2; omega⟩]
          omega
        · split <;> omega
      refine ⟨clamp s e a, List.mem_map.mpr ⟨a, List.mem_of_getElem? (i := j - firstC L s) (cutC_get.mpr ⟨by omega, by rw [show firstC L s + (j - firstC L s) = j by omega]; exact hj⟩), rfl⟩, ?_, ?_⟩
      · unfold clamp; dsimp only; omega
      · unfold clamp; dsimp only; omega
theorem cut_none {L : List Iv} {s e : Int} (h : e ≤ s) : Cut L s e [] := ⟨.nil, fun t => ⟨fun z => (nomatch z), fun ⟨_, _, _⟩ => by omega⟩⟩
/-- the two ends set: what the program does -/
theorem cut_ends {L : List Iv} {s e : Int} (td : Tidy L) (lt : s < e) {a z : Iv} {C M : List Iv} (h : cutC L s e = a :: C) (h2 : (max a.1 s, a.2) :: C = M ++ [z]) : M ++ [(z.1, min z.2 e)] = (cutC L s e).map (clamp s e) := by
  refine List.ext_getElem? fun i => ?_
  have lM : M.length = C.length := by have := congrArg List.length h2; simp at this; omega
  have key : ∀ (j : Nat) (b : Iv), (cutC L s e)[j]? = some b → ((max a.1 s, a.2) :: C)[j]? = some (max b.1 s, b.2) := fun j b hb => by
    have q := cut_in td lt hb
    rw [h] at hb
    cases j with
    | zero => simp at hb; subst hb; rfl
    | succ j =>
      rw [List.getElem?_cons_succ] at hb ⊢
      have := q.2.2.1 (by omega)
      rw [hb, show max b.1 s = b.1 by omega]
  rw [List.getElem?_map]
  by_cases c : i < C.length + 1
  · obtain ⟨b, hb⟩ : ∃ b, (cutC L s e)[i]? = some b := ⟨_, List.getElem?_eq_getElem (by rw [h, List.length_cons]; exact c)⟩
    have k := key i b hb
    rw [h2] at k
    have q := cut_in td lt hb
    rw [hb]
    by_cases c2 : i < M.length
    · rw [List.getElem?_append_left c2] at k ⊢
      rw [k]
      have := q.2.2.2.1 (by rw [h, List.length_cons]; omega)
      show some (max b.1 s, b.2) = some (max b.1 s, min b.2 e)
      rw [show min b.2 e = b.2 by omega]
    · rw [List.getElem?_append_right (by omega)] at k ⊢
      rw [show i - M.length = 0 by omega] at k ⊢
      simp at k
      subst k
      rfl
  · rw [List.getElem?_eq_none (by simp; omega), List.getElem?_eq_none (by rw [h, List.length_cons]; omega)]
    rfl
end My

namespace My
/-! ### the sums of a row -/
def tot (S : List Iv) : Int := (S.map fun a => a.2 - a.1).sum
def sumsOf (S : List Iv) : List Int := (List.range (S.length + 1)).map fun i => tot (S.take i)
def nearOf (S : List Iv) (m : Int) : Int := match below S m with
  | 0 => 0
  | b + 1 => tot (S.take b) + min m (S.getD b (0, 0)).2 - (S.getD b (0, 0)).1
theorem tot_append {S U : List Iv} : tot (S ++ U) = tot S + tot U := by
  unfold tot
  rw [List.map_append, List.sum_append]
theorem tot_one {a : Iv} : tot [a] = a.2 - a.1 := by simp [tot]
theorem tot_nil : tot [] = 0 := rfl
theorem sums_get {S : List Iv} {i : Nat} (h : i ≤ S.length) : (sumsOf S)[i]? = some (tot (S.take i)) := by
  unfold sumsOf
  rw [List.getElem?_map, List.getElem?_range (by omega)]
  rfl
theorem sums_len {S : List Iv} : (sumsOf S).length = S.length + 1 := by simp [sumsOf]
theorem sums_snoc {S : List Iv} {i : Nat} {a : Iv} (h : S[i]? = some a) : sumsOf (S.take (i + 1)) = sumsOf (S.take i) ++ [tot (S.take i) + (a.2 - a.1)] := by
  have hi := (List.getElem?_eq_some_iff.mp h).1
  have e : S.take (i + 1) = S.take i ++ [a] := by
    rw [List.take_add_one, h]
    rfl
  unfold sumsOf
  have l1 : (S.take (i + 1)).length = i + 1 := by rw [List.length_take]; omega
  have l0 : (S.take i).length = i := by rw [List.length_take]; omega
  rw [l1, l0, List.range_succ, List.map_append]
  congr 1
  · refine List.map_congr_left fun j hj => ?_
    have := List.mem_range.mp hj
    rw [List.take_take, List.take_take, Nat.min_eq_left (by omega), Nat.min_eq_left (by omega)]
  · rw [List.map_singleton, List.take_take, Nat.min_self, e, tot_append, tot_one]
theorem tot_nonneg : ∀ {S : List Iv}, (∀ a ∈ S, a.1 < a.2) → 0 ≤ tot S
  | [], _ => Int.le_refl _
  | a :: r, h => by
    have := tot_nonneg (S := r) fun b hb => h b (List.mem_cons_of_mem _ hb)
    have := h a List.mem_cons_self
    rw [show tot (a :: r) = (a.2 - a.1) + tot r by simp [tot]]
    omega
theorem tot_pos {S : List Iv} (h : ∀ a ∈ S, a.1 < a.2) (ne : S ≠ []) : 0 < tot S := by
  rcases S with _ | ⟨a, r⟩
  · exact absurd rfl ne
  · have := tot_nonneg (S := r) fun b hb => h b (List.mem_cons_of_mem _ hb)
    have := h a List.mem_cons_self
    rw [show tot (a :: r) = (a.2 - a.1) + tot r by simp [tot]]
    omega
theorem tot_zero {S : List Iv} (h : Tidy S) : tot S = 0 ↔ S = [] := by
  constructor
  · intro e
    by_cases c : S = []
    · exact c
    · have := tot_pos h.1 c
      omega
  · rintro rfl
    rfl
theorem near_fin {S : List Iv} {h : Int} (td : Tidy S) : tot S = nearOf S h ↔ S = [] ∨ (S.getLastD (0, 0)).2 ≤ h := by
  unfold nearOf
  by_cases c : S = []
  · subst c
    simp [tot, below]
  obtain ⟨M, z, e⟩ := split_last c
  have hz : S[M.length]? = some z := by rw [e, List.getElem?_append_right (Nat.le_refl _), Nat.sub_self]; rfl
  have hl : S.getLastD (0, 0) = z := by rw [e, last_snoc]
  have ln : S.length = M.length + 1 := by rw [e]; simp
  have mz := td.1 z (List.mem_of_getElem? hz)
  have hb := below_spec (m := h) td hz
  have ble := below_le (L := S) (m := h)
  rw [hl]
  have tS : tot S = tot M + (z.2 - z.1) := by rw [e, tot_append, tot_one]
  have tk : ∀ k, k ≤ M.length → S.take k = M.take k := fun k hk => by rw [e, List.take_append_of_le_length hk]
  have pM : ∀ k, tot M = tot (M.take k) + tot (M.drop k) := fun k => by rw [← tot_append, List.take_append_drop]
  have pos : ∀ k, 0 ≤ tot (M.drop k) := fun k => tot_nonneg fun a ha => td.1 a (by rw [e]; exact List.mem_append_left _ (List.mem_of_mem_drop ha))
  cases hbk : below S h with
  | zero =>
    have h0 : 0 < tot S := tot_pos td.1 c
    show tot S = 0 ↔ _
    have : ¬ z.1 < h := by
      intro q
      have := hb.mpr q
      omega
    constructor
    · intro q; omega
    · rintro (q | q)
      · exact absurd q c
      · omega
  | succ b =>
    show tot S = tot (S.take b) + min h (S.getD b (0, 0)).2 - (S.getD b (0, 0)).1 ↔ _
    have hbl : b < S.length := by omega
    obtain ⟨y, hy⟩ : ∃ y, S[b]? = some y := ⟨_, List.getElem?_eq_getElem hbl⟩
    have my := td.1 y (List.mem_of_getElem? hy)
    have hg : S.getD b (0, 0) = y := by rw [List.getD_eq_getElem?_getD, hy]; rfl
    rw [hg]
    have yb := (below_spec (m := h) td hy).mp (by omega)
    by_cases cb : b = M.length
    · subst cb
      rw [hz] at hy
      cases hy
      rw [tk _ (Nat.le_refl _), List.take_length, tS]
      constructor
      · intro q
        right
        omega
      · rintro (q | q)
        · exact absurd q c
        · omega
    · have b1 : b < M.length := by omega
      have hyM : M[b]? = some y := by rw [e, List.getElem?_append_left b1] at hy; exact hy
      have e2 : M.take (b + 1) = M.take b ++ [y] := by rw [List.take_add_one, hyM]; rfl
      have p1 := pM (b + 1)
      have p2 := pos (b + 1)
      rw [e2, tot_append, tot_one] at p1
      rw [tk _ (by omega)]
      have nz : ¬ z.1 < h := by
        intro q
        have := hb.mpr q
        omega
      constructor
      · intro q
        omega
      · rintro (q | q)
        · exact absurd q c
        · omega
end My

namespace My
/-- the runs of the first n bits -/
def runStep (bits : List Bool) (L : List Iv) (t : Nat) : List Iv :=
  if bits.getD t false = true then (if L ≠ [] ∧ (L.getLastD (0, 0)).2 = (t : Int) then L.dropLast ++ [((L.getLastD (0, 0)).1, (t : Int) + 1)] else L ++ [((t : Int), (t : Int) + 1)]) else L
theorem runStep_ok {bits : List Bool} {L : List Iv} {t : Nat} (td : Tidy L) (le : ∀ a ∈ L, a.2 ≤ t) (inl : ∀ u, inL L u = true ↔ bt bits u ∧ 0 ≤ u ∧ u < (t : Int)) :
    Tidy (runStep bits L t) ∧ (∀ a ∈ runStep bits L t, a.2 ≤ (t : Int) + 1) ∧ ∀ u, inL (runStep bits L t) u = true ↔ bt bits u ∧ 0 ≤ u ∧ u < (t : Int) + 1 := by
  have bit : ∀ u : Int, u = t → (bt bits u ↔ bits.getD t false = true) := fun u e => by unfold bt; rw [e]; rfl
  unfold runStep
  by_cases c : bits.getD t false = true
  · rw [if_pos c]
    by_cases c2 : L ≠ [] ∧ (L.getLastD (0, 0)).2 = (t : Int)
    · rw [if_pos c2]
      obtain ⟨M, z, e⟩ := split_last c2.1
      subst e
      rw [last_snoc] at c2 ⊢
      rw [List.dropLast_concat]
      obtain ⟨t1, t2⟩ := td
      rw [List.pairwise_append] at t2
      have z1 := t1 z (by simp)
      refine ⟨⟨fun a ha => ?_, ?_⟩, fun a ha => ?_, fun u => ?_⟩
      · rcases List.mem_append.mp ha with h | h
        · exact t1 a (by simp [h])
        · obtain rfl := List.mem_singleton.mp h
          dsimp only
          omega
      · rw [List.pairwise_append]
        refine ⟨t2.1, by simp, fun a ha b hb => ?_⟩
        obtain rfl := List.mem_singleton.mp hb
        exact t2.2.2 a ha z (by simp)
      · rcases List.mem_append.mp ha with h | h
        · have := le a (by simp [h])
          omega
        · obtain rfl := List.mem_singleton.mp h
          exact Int.le_refl _
      · have i := inl u
        rw [inL_append] at i ⊢
        rw [Bool.or_eq_true] at i ⊢
        have e1 : inL [z] u = true ↔ z.1 ≤ u ∧ u < z.2 := by rw [inL_iff]; simp
        have e2 : inL [(z.1, (t : Int) + 1)] u = true ↔ z.1 ≤ u ∧ u < (t : Int) + 1 := by rw [inL_iff]; simp
        rw [e1] at i
        rw [e2]
        by_cases cu : u = t
        · have := bit u cu
          constructor
          · intro _
            exact ⟨this.mpr c, by omega, by omega⟩
          · intro _
            exact Or.inr ⟨by omega, by omega⟩
        · constructor
          · rintro (h | h)
            · have := i.mp (Or.inl h)
              exact ⟨this.1, this.2.1, by omega⟩
            · have := i.mp (Or.inr ⟨h.1, by omega⟩)
              exact ⟨this.1, this.2.1, by omega⟩
          · rintro ⟨h1, h2, h3⟩
            rcases i.mpr ⟨h1, h2, by omega⟩ with h | h
            · exact Or.inl h
            · exact Or.inr ⟨h.1, by omega⟩
    · rw [if_neg c2]
      have lt : ∀ a ∈ L, a.2 < (t : Int) := fun a ha => by
        by_cases hn : L = []
        · subst hn
          nomatch ha
        · obtain ⟨M, z, e⟩ := split_last hn
          have hz : z.2 ≠ (t : Int) := fun q => c2 ⟨hn, by rw [e, last_snoc]; exact q⟩
          have hz2 := le z (by rw [e]; simp)
          rw [e] at ha td
          rcases List.mem_append.mp ha with h | h
          · have := (List.pairwise_append.mp td.2).2.2 a h z (by simp)
            have := td.1 z (by simp)
            omega
          · obtain rfl := List.mem_singleton.mp h
            omega
      refine ⟨⟨fun a ha => ?_, ?_⟩, fun a ha => ?_, fun u => ?_⟩
      · rcases List.mem_append.mp ha with h | h
        · exact td.1 a h
        · obtain rfl := List.mem_singleton.mp h
          dsimp only
          omega
      · rw [List.pairwise_append]
        refine ⟨td.2, by simp, fun a ha b hb => ?_⟩
        obtain rfl := List.mem_singleton.mp hb
        exact lt a ha
      · rcases List.mem_append.mp ha with h | h
        · have := le a h
          omega
        · obtain rfl := List.mem_singleton.mp h
          exact Int.le_refl _
      · have i := inl u
        rw [inL_append, Bool.or_eq_true]
        have e2 : inL [((t : Int), (t : Int) + 1)] u = true ↔ (t : Int) ≤ u ∧ u < (t : Int) + 1 := by rw [inL_iff]; simp
        rw [e2, i]
        constructor
        · rintro (h | h)
          · exact ⟨h.1, h.2.1, by omega⟩
          · exact ⟨(bit u (by omega)).mpr c, by omega, by omega⟩
        · rintro ⟨h1, h2, h3⟩
          by_cases cu : u = t
          · exact Or.inr ⟨by omega, by omega⟩
          · exact Or.inl ⟨h1, h2, by omega⟩
  · rw [if_neg c]
    refine ⟨td, fun a ha => by have := le a ha; omega, fun u => ?_⟩
    rw [inl u]
    constructor
    · rintro ⟨h1, h2, h3⟩
      exact ⟨h1, h2, by omega⟩
    · rintro ⟨h1, h2, h3⟩
      refine ⟨h1, h2, ?_⟩
      by_cases cu : u = t
      · exact absurd ((bit u cu).mp h1) c
      · omega
theorem runStep_len {bits : List Bool} {L : List Iv} {t : Nat} : (runStep bits L t).length ≤ L.length + 1 := by
  unfold runStep
  split
  · split
    · rw [List.length_append, List.length_dropLast, List.length_singleton]
      omega
    · simp
  · omega
end My

namespace My
def onceStep (L : List Iv) (t : Int) : List Iv :=
  if L ≠ [] ∧ t ≤ (L.getLastD (0, 0)).2 then L.dropLast ++ [((L.getLastD (0, 0)).1, max (L.getLastD (0, 0)).2 (t + 1))] else L ++ [(t, t + 1)]
theorem onceStep_ok {L : List Iv} {t : Int} {S : List Int} (td : Tidy L) (le : ∀ a ∈ L, a.2 ≤ t + 1) (inl : ∀ u, inL L u = true ↔ u ∈ S) :
    Tidy (onceStep L t) ∧ (∀ a ∈ onceStep L t, a.2 ≤ t + 1) ∧ ∀ u, inL (onceStep L t) u = true ↔ u ∈ S ++ [t] := by
  unfold onceStep
  have mem : ∀ u, u ∈ S ++ [t] ↔ u ∈ S ∨ u = t := fun u => by simp
  by_cases c2 : L ≠ [] ∧ t ≤ (L.getLastD (0, 0)).2
  · rw [if_pos c2]
    obtain ⟨M, z, e⟩ := split_last c2.1
    subst e
    rw [last_snoc] at c2 ⊢
    rw [List.dropLast_concat]
    obtain ⟨t1, t2⟩ := td
    rw [List.pairwise_append] at t2
    have z1 := t1 z (by simp)
    have z2 := le z (by simp)
    have mx : max z.2 (t + 1) = t + 1 := by omega
    rw [mx]
    refine ⟨⟨fun a ha => ?_, ?_⟩, fun a ha => ?_, fun u => ?_⟩
    · rcases List.mem_append.mp ha with h | h
      · exact t1 a (by simp [h])
      · obtain rfl := List.mem_singleton.mp h
        dsimp only
        omega
    · rw [List.pairwise_append]
      refine ⟨t2.1, by simp, fun a ha b hb => ?_⟩
      obtain rfl := List.mem_singleton.mp hb
      exact t2.2.2 a ha z (by simp)
    · rcases List.mem_append.mp ha with h | h
      · exact le a (by simp [h])
      · obtain rfl := List.mem_singleton.mp h
        exact Int.le_refl _
    · have i := inl u
      rw [inL_append] at i ⊢
      rw [Bool.or_eq_true] at i ⊢
      have e1 : inL [z] u = true ↔ z.1 ≤ u ∧ u < z.2 := by rw [inL_iff]; simp
      have e2 : inL [(z.1, t + 1)] u = true ↔ z.1 ≤ u ∧ u < t + 1 := by rw [inL_iff]; simp
      rw [e1] at i
      rw [e2, mem]
      constructor
      · rintro (h | h)
        · exact Or.inl (i.mp (Or.inl h))
        · by_cases cu : u = t
          · exact Or.inr cu
          · exact Or.inl (i.mp (Or.inr ⟨h.1, by omega⟩))
      · rintro (h | h)
        · rcases i.mpr h with h | h
          · exact Or.inl h
          · exact Or.inr ⟨h.1, by omega⟩
        · exact Or.inr ⟨by omega, by omega⟩
  · rw [if_neg c2]
    have lt : ∀ a ∈ L, a.2 < t := fun a ha => by
      by_cases hn : L = []
      · subst hn
        nomatch ha
      · obtain ⟨M, z, e⟩ := split_last hn
        have hz : z.2 < t := by
          by_cases q : t ≤ z.2
          · exact absurd ⟨hn, by rw [e, last_snoc]; exact q⟩ c2
          · omega
        rw [e] at ha td
        rcases List.mem_append.mp ha with h | h
        · have := (List.pairwise_append.mp td.2).2.2 a h z (by simp)
          have := td.1 z (by simp)
          omega
        · obtain rfl := List.mem_singleton.mp h
          exact hz
    refine ⟨⟨fun a ha => ?_, ?_⟩, fun a ha => ?_, fun u => ?_⟩
    · rcases List.mem_append.mp ha with h | h
      · exact td.1 a h
      · obtain rfl := List.mem_singleton.mp h
        dsimp only
        omega
    · rw [List.pairwise_append]
      refine ⟨td.2, by simp, fun a ha b hb => ?_⟩
      obtain rfl := List.mem_singleton.mp hb
      exact lt a ha
    · rcases List.mem_append.mp ha with h | h
      · have := lt a h
        omega
      · obtain rfl := List.mem_singleton.mp h
        exact Int.le_refl _
    · have i := inl u
      rw [inL_append, Bool.or_eq_true, mem]
      have e2 : inL [(t, t + 1)] u = true ↔ t ≤ u ∧ u < t + 1 := by rw [inL_iff]; simp
      rw [e2, i]
      constructor
      · rintro (h | h)
        · exact Or.inl h
        · exact Or.inr (by omega)
      · rintro (h | h)
        · exact Or.inl h
        · exact Or.inr ⟨by omega, by omega⟩
theorem onceStep_len {L : List Iv} {t : Int} : (onceStep L t).length ≤ L.length + 1 := by
  unfold onceStep
  split
  · rw [List.length_append, List.length_dropLast, List.length_singleton]
    omega
  · simp
end My

namespace My
def placeOf (h p m : Int) : Int := if m < h + p then m else h + (m - h) % p
theorem place_range {h p m : Int} (h0 : 0 ≤ h) (p1 : 1 ≤ p) (hm : 0 ≤ m) : 0 ≤ placeOf h p m ∧ placeOf h p m < h + p := by
  have r0 := Int.emod_nonneg (m - h) (show p ≠ 0 by omega)
  have r1 := Int.emod_lt_of_pos (m - h) (show 0 < p by omega)
  unfold placeOf
  split <;> omega
theorem ev_down {h p : Int} {P : Int → Prop} (e : Ev h p P) (p1 : 1 ≤ p) {m : Int} (hm : h ≤ m) : P (h + (m - h) % p) ↔ P m := by
  have r0 := Int.emod_nonneg (m - h) (show p ≠ 0 by omega)
  have dm := Int.mul_ediv_add_emod (m - h) p
  have q0 : 0 ≤ (m - h) / p := Int.ediv_nonneg (by omega) (by omega)
  have := e.mul (by omega) ((m - h) / p).toNat (t := h + (m - h) % p) (by omega)
  rw [show ((((m - h) / p).toNat : Nat) : Int) = (m - h) / p by omega, show h + (m - h) % p + p * ((m - h) / p) = m by omega] at this
  exact this.symm
theorem canon_in {P : Int → Prop} {h p : Int} {S : List Iv} (c : Canon P h p S) {m : Int} (hm : 0 ≤ m) : inL S (placeOf h p m) = true ↔ P m := by
  have pr := place_range c.h0 c.p1 hm
  rw [c.inl]
  have e : P (placeOf h p m) ↔ P m := by
    unfold placeOf
    split
    · exact Iff.rfl
    · exact ev_down c.ev c.p1 (by have := c.p1; omega)
  exact ⟨fun z => e.mp z.1, fun z => ⟨e.mpr z, pr⟩⟩
theorem canon_in' {P : Int → Prop} {h p : Int} {S : List Iv} (c : Canon P h p S) {m : Int} : (decide (0 ≤ m) && inL S (placeOf h p m)) = true ↔ 0 ≤ m ∧ P m := by
  rw [Bool.and_eq_true, decide_eq_true_eq]
  exact ⟨fun z => ⟨z.1, (canon_in c z.1).mp z.2⟩, fun z => ⟨z.1, (canon_in c z.1).mpr z.2⟩⟩
theorem canon_none {P : Int → Prop} (h : ∀ t, 0 ≤ t → ¬ P t) : Canon P 0 1 [] where
  h0 := by omega
  p1 := by omega
  ev := fun t ht => ⟨fun z => absurd z (h _ (by omega)), fun z => absurd z (h _ ht)⟩
  least := fun q h' hq _ => hq
  lh := fun z => by omega
  td := .nil
  inl := fun t => ⟨fun z => (nomatch z), fun z => absurd z.1 (h t z.2.1)⟩
theorem canon_all {P : Int → Prop} (h : ∀ t, 0 ≤ t → P t) : Canon P 0 1 [(0, 1)] where
  h0 := by omega
  p1 := by omega
  ev := fun t ht => ⟨fun z => h _ ht, fun z => h _ (by omega)⟩
  least := fun q h' hq _ => hq
  lh := fun z => by omega
  td := Tidy.cons.mpr ⟨by decide, (fun b hb => nomatch hb), .nil⟩
  inl := fun t => by
    rw [inL_iff]
    constructor
    · rintro ⟨a, ha, a1, a2⟩
      obtain rfl := List.mem_singleton.mp ha
      exact ⟨h t a1, a1, a2⟩
    · rintro ⟨_, a1, a2⟩
      exact ⟨(0, 1), by simp, a1, a2⟩
theorem never_canon {h p : Int} (h0 : 0 ≤ h) (p1 : 1 ≤ p) : Canon (ext h p fun t => inL [] t = true) 0 1 [] := canon_none fun t _ z => (nomatch (show inL [] _ = true from z))
theorem always_canon : Canon (ext 0 1 fun t => inL [(0, 1)] t = true) 0 1 [(0, 1)] := canon_all fun t ht => by
  unfold ext
  show inL [(0, 1)] _ = true
  rw [inL_iff]
  refine ⟨(0, 1), by simp, ?_⟩
  split <;> constructor <;> omega
theorem span_canon {s e : Int} (h0 : 0 ≤ s) (h1 : s < e) : Canon (ext e 1 fun t => inL [(s, e)] t = true) e 1 [(s, e)] := by
  have P : ∀ t, ext e 1 (fun t => inL [(s, e)] t = true) t ↔ s ≤ t ∧ t < e := fun t => by
    unfold ext
    show inL [(s, e)] _ = true ↔ _
    rw [inL_iff]
    simp
    split <;> omega
  refine { h0 := by omega, p1 := by omega, ev := fun t ht => ?_, least := fun q h' hq _ => hq, lh := fun z => ?_, td := Tidy.cons.mpr ⟨h1, (fun b hb => nomatch hb), .nil⟩, inl := fun t => ?_ }
  · rw [P, P]; omega
  · rw [P, P]; omega
  · rw [P, inL_iff]
    simp
    omega
theorem every_P {f p : Int} (h0 : 0 ≤ f) (p1 : 1 ≤ p) (t : Int) : ext f p (fun t => inL [(f, f + 1)] t = true) t ↔ f ≤ t ∧ (t - f) % p = 0 := by
  have r0 := Int.emod_nonneg (t - f) (show p ≠ 0 by omega)
  unfold ext
  show inL [(f, f + 1)] _ = true ↔ _
  rw [inL_iff]
  simp
  split
  · rename_i c
    constructor
    · intro z
      have : t = f := by omega
      rw [this, Int.sub_self]
      exact ⟨by omega, by simp⟩
    · rintro ⟨z1, z2⟩
      rw [Int.emod_eq_of_lt (by omega) (by omega)] at z2
      omega
  · rename_i c
    constructor
    · intro z
      exact ⟨by omega, by omega⟩
    · rintro ⟨z1, z2⟩
      omega
theorem every_canon {f p : Int} (h0 : 0 ≤ f) (p1 : 1 ≤ p) : Canon (ext f p fun t => inL [(f, f + 1)] t = true) (max 0 (f - p + 1)) p [(f, f + 1)] := by
  have P := every_P h0 p1
  refine { h0 := by omega, p1 := p1, ev := fun t ht => ?_, least := fun q h' hq ev => ?_, lh := fun z => ?_, td := Tidy.cons.mpr ⟨by dsimp only; omega, (fun b hb => nomatch hb), .nil⟩, inl := fun t => ?_ }
  · rw [P, P]
    by_cases c : f ≤ t
    · rw [show t + p - f = t - f + p by omega, Int.add_emod_right]
      constructor
      · rintro ⟨_, z⟩; exact ⟨c, z⟩
      · rintro ⟨_, z⟩; exact ⟨by omega, z⟩
    · rw [Int.emod_eq_of_lt (a := t + p - f) (by omega) (by omega)]
      constructor
      · rintro ⟨_, z⟩; omega
      · rintro ⟨z, _⟩; omega
  · obtain ⟨k, hk⟩ := far_up (p := p) (t := f) (x := h') p1
    have k0 : 0 ≤ p * (k : Int) := Int.mul_nonneg (by omega) (by omega)
    have a1 : ext f p (fun t => inL [(f, f + 1)] t = true) (f + p * k) := (P _).mpr ⟨by omega, by rw [show f + p * (k : Int) - f = p * k by omega]; exact Int.mul_emod_right p k⟩
    have a2 := (P _).mp ((ev _ hk).mpr a1)
    rw [show f + p * (k : Int) + q - f = q + p * k by omega, Int.add_mul_emod_self_left] at a2
    by_cases c : q < p
    · rw [Int.emod_eq_of_lt (by omega) c] at a2
      omega
    · omega
  · rw [P, P]
    have e : max 0 (f - p + 1) - 1 = f - p := by omega
    rw [e, show f - p + p = f by omega, Int.sub_self]
    intro w
    have := (w.mp ⟨by omega, by simp⟩).1
    omega
  · rw [P, inL_iff]
    simp
    constructor
    · intro z
      have : t = f := by omega
      rw [this, Int.sub_self]
      exact ⟨⟨by omega, by simp⟩, by omega, by omega⟩
    · rintro ⟨⟨z1, z2⟩, z3, z4⟩
      rw [Int.emod_eq_of_lt (by omega) (by omega)] at z2
      omega
def OnceOf (ks : List Int) (h : Int) (L : List Iv) : Prop := Tidy L ∧ (∀ u, inL L u = true ↔ u ∈ ks) ∧ h = (if L = [] then 0 else (L.getLastD (0, 0)).2)
theorem once_h {ks : List Int} {h : Int} {L : List Iv} (o : OnceOf ks h L) (k0 : ∀ k ∈ ks, 0 ≤ k) : 0 ≤ h ∧ (∀ k ∈ ks, k < h) ∧ (0 < h → h - 1 ∈ ks) := by
  obtain ⟨td, inl, eh⟩ := o
  by_cases c : L = []
  · subst c
    rw [if_pos rfl] at eh
    refine ⟨by omega, fun k hk => (nomatch (inl k).mpr hk), fun z => by omega⟩
  · rw [if_neg c] at eh
    obtain ⟨M, z, e⟩ := split_last c
    rw [e, last_snoc] at eh
    have mz : z ∈ L := by rw [e]; simp
    have z1 := td.1 z mz
    have hz : h - 1 ∈ ks := (inl _).mp (inL_iff.mpr ⟨z, mz, by omega, by omega⟩)
    have := k0 _ hz
    refine ⟨by omega, fun k hk => ?_, fun _ => hz⟩
    obtain ⟨a, ha, a1, a2⟩ := inL_iff.mp ((inl k).mpr hk)
    rw [e] at ha td
    rcases List.mem_append.mp ha with w | w
    · have := (List.pairwise_append.mp td.2).2.2 a w z (by simp)
      omega
    · obtain rfl := List.mem_singleton.mp w
      omega
theorem once_P {ks : List Int} (k0 : ∀ k ∈ ks, 0 ≤ k ∧ k < 10 ^ 12) (t : Int) : ext (10 ^ 12) 1 (fun t => inL (ks.map fun k => (k, k + 1)) t = true) t ↔ t ∈ ks := by
  have inl : ∀ u, inL (ks.map fun k => (k, k + 1)) u = true ↔ u ∈ ks := fun u => by
    rw [inL_iff]
    constructor
    · rintro ⟨a, ha, a1, a2⟩
      obtain ⟨k, hk, rfl⟩ := List.mem_map.mp ha
      dsimp only at a1 a2
      rw [show u = k by omega]
      exact hk
    · intro hu
      exact ⟨(u, u + 1), List.mem_map.mpr ⟨u, hu, rfl⟩, by dsimp only; omega, by dsimp only; omega⟩
  unfold ext
  show inL (ks.map fun k => (k, k + 1)) _ = true ↔ _
  rw [inl]
  split
  · exact Iff.rfl
  · rename_i c
    constructor
    · intro z
      have := k0 _ z
      omega
    · intro z
      have := k0 _ z
      omega
theorem once_canon {ks : List Int} {h : Int} {L : List Iv} (o : OnceOf ks h L) (k0 : ∀ k ∈ ks, 0 ≤ k ∧ k < 10 ^ 12) : Canon (ext (10 ^ 12) 1 fun t => inL (ks.map fun k => (k, k + 1)) t = true) h 1 L := by
  obtain ⟨h0, h1, h2⟩ := once_h o fun k hk => (k0 k hk).1
  have P := once_P k0
  refine { h0 := h0, p1 := by omega, ev := fun t ht => ?_, least := fun q h' hq _ => hq, lh := fun z => ?_, td := o.1, inl := fun t => ?_ }
  · rw [P, P]
    constructor
    · intro z; have := h1 _ z; omega
    · intro z; have := h1 _ z; omega
  · rw [P, P, show h - 1 + 1 = h by omega]
    intro w
    have := h1 _ (w.mpr (h2 z))
    omega
  · rw [P, o.2.1 t]
    constructor
    · intro z
      have := h1 _ z
      exact ⟨z, (k0 t z).1, by omega⟩
    · exact fun z => z.1
end My

namespace My
def keepE (n : Int) (i : Nat) : Bool := decide ((i : Int) ≠ n)
def evensN (N : Nat) (n : Int) : List Iv := ((List.range N).filter (keepE n)).map fun (i : Nat) => (2 * (i : Int), 2 * (i : Int) + 1)
theorem evensN_in {N : Nat} {n u : Int} : inL (evensN N n) u = true ↔ u % 2 = 0 ∧ 0 ≤ u ∧ u < 2 * (N : Int) ∧ u / 2 ≠ n := by
  rw [inL_iff]
  unfold evensN
  constructor
  · rintro ⟨a, ha, a1, a2⟩
    obtain ⟨i, hi, rfl⟩ := List.mem_map.mp ha
    obtain ⟨h1, h2⟩ := List.mem_filter.mp hi
    have h1 := List.mem_range.mp h1
    have h2 : (i : Int) ≠ n := of_decide_eq_true h2
    dsimp only at a1 a2
    omega
  · rintro ⟨h1, h2, h3, h4⟩
    have k : (((u / 2).toNat : Nat) : Int) ≠ n := by omega
    refine ⟨(2 * ((u / 2).toNat : Int), 2 * ((u / 2).toNat : Int) + 1), List.mem_map.mpr ⟨(u / 2).toNat, List.mem_filter.mpr ⟨List.mem_range.mpr (by omega), decide_eq_true k⟩, rfl⟩, ?_, ?_⟩
    · dsimp only
      omega
    · dsimp only
      omega
theorem evensN_len {N : Nat} {n : Int} : (evensN N n).length ≤ N := by
  unfold evensN
  rw [List.length_map]
  have := List.length_filter_le (keepE n) (List.range N)
  rw [List.length_range] at this
  exact this
theorem evensN_ok {N : Nat} {n : Int} : ∀ a ∈ evensN N n, 0 ≤ a.1 ∧ a.1 < a.2 ∧ a.2 ≤ 2 * (N : Int) := fun a ha => by
  unfold evensN at ha
  obtain ⟨i, hi, rfl⟩ := List.mem_map.mp ha
  have h1 := List.mem_range.mp (List.mem_filter.mp hi).1
  dsimp only
  omega
theorem evensN_tidy {N : Nat} {n : Int} : Tidy (evensN N n) := by
  refine ⟨fun a ha => (evensN_ok a ha).2.1, ?_⟩
  unfold evensN
  rw [List.pairwise_map]
  refine List.Pairwise.filter _ ?_
  refine List.pairwise_lt_range.imp ?_
  intro i j h
  dsimp only
  omega
def evens (n : Int) : List Iv := evensN 5000 n
theorem evens_in {n u : Int} : inL (evens n) u = true ↔ u % 2 = 0 ∧ 0 ≤ u ∧ u < 10000 ∧ u / 2 ≠ n := by
  unfold evens
  rw [evensN_in]
  omega
theorem evens_len {n : Int} : (evens n).length ≤ 5000 := evensN_len
theorem evens_ok {n : Int} : ∀ a ∈ evens n, 0 ≤ a.1 ∧ a.1 < a.2 ∧ a.2 ≤ 0 + 10000 := fun a ha => by
  have := evensN_ok a ha
  omega
theorem evens_tidy {n : Int} : Tidy (evens n) := evensN_tidy
theorem evens_P {n t : Int} (ht : 0 ≤ t) : ext 0 10000 (fun t => inL (evens n).reverse t = true) t ↔ t % 2 = 0 ∧ t % 10000 / 2 ≠ n := by
  have e : ∀ u, ((inL (evens n).reverse u = true) ↔ u % 2 = 0 ∧ 0 ≤ u ∧ u < 10000 ∧ u / 2 ≠ n) := fun u => by rw [inL_reverse, evens_in]
  unfold ext
  dsimp only
  rw [e]
  split <;> omega
theorem evens_canon {n : Int} (n0 : 0 ≤ n) (n1 : n < 5000) : Canon (ext 0 10000 fun t => inL (evens n).reverse t = true) 0 10000 (evens n) where
  h0 := by omega
  p1 := by omega
  ev := fun t ht => by
    rw [evens_P (by omega), evens_P ht]
    omega
  least := fun q h' hq e => by
    have ev0 : Ev 0 10000 (ext 0 10000 fun t => inL (evens n).reverse t = true) := fun t ht => by
      rw [evens_P (by omega), evens_P ht]
      omega
    have e0 := ev0.back (by omega) (by omega) e
    refine Classical.byContradiction fun lt => ?_
    rcases (show q % 2 = 0 ∨ q % 2 = 1 by omega) with z | z
    · have := e0 (2 * n) (by omega)
      rw [evens_P (by omega), evens_P (by omega)] at this
      omega
    · by_cases c : n = 0
      · have := e0 2 (by omega)
        rw [evens_P (by omega), evens_P (by omega)] at this
        omega
      · have := e0 0 (by omega)
        rw [evens_P (by omega), evens_P (by omega)] at this
        omega
  lh := fun z => by omega
  td := evens_tidy
  inl := fun t => by
    rw [evens_in]
    constructor
    · intro h
      rw [evens_P h.2.1]
      omega
    · intro h
      rw [evens_P h.2.1] at h
      omega
theorem all_evens {n : Int} (n1 : 5000 ≤ n) : Canon (ext 0 10000 fun t => inL (evens n).reverse t = true) 0 2 [(0, 1)] := by
  have c := every_canon (f := 0) (p := 2) (by omega) (by omega)
  rw [show max (0 : Int) (0 - 2 + 1) = 0 by decide] at c
  refine c.congr fun t ht => ?_
  rw [every_P (by omega) (by omega), evens_P ht]
  omega
theorem inL_rep {n : Nat} {a : Iv} {t : Int} (h : 1 ≤ n) : inL (List.replicate n a) t = inL [a] t := bool_ext (by
  rw [inL_iff, inL_iff]
  constructor
  · rintro ⟨b, hb, z⟩
    exact ⟨b, by rw [(List.mem_replicate.mp hb).2]; simp, z⟩
  · rintro ⟨b, hb, z⟩
    exact ⟨b, List.mem_replicate.mpr ⟨by omega, List.mem_singleton.mp hb⟩, z⟩)
theorem once_rep {n : Nat} {k : Int} (h : 1 ≤ n) : OnceOf (List.replicate n k) (k + 1) [(k, k + 1)] := by
  refine ⟨Tidy.cons.mpr ⟨by show k < k + 1; omega, (fun b hb => nomatch hb), .nil⟩, fun u => ?_, ?_⟩
  · rw [inL_iff, List.mem_replicate]
    constructor
    · rintro ⟨b, hb, z1, z2⟩
      obtain rfl := List.mem_singleton.mp hb
      dsimp only at z1 z2
      omega
    · rintro ⟨_, rfl⟩
      exact ⟨_, List.mem_singleton.mpr rfl, by dsimp only; omega, by dsimp only; omega⟩
  · rw [if_neg (by simp)]
    rfl
end My

namespace My
open PySem L2
def top (i : Nat) : Stmt := PySem.Challenge.pw_duejobs_k01_patterns_have_one_form.main.body.getD i (.Pass ⟨0, 0, 0, 0⟩)
abbrev s__wall : Stmt := top 1
abbrev s_tidy : Stmt := top 3
abbrev s_starts_below : Stmt := top 4
abbrev s_clip : Stmt := top 5
abbrev s_rest : Stmt := top 6
abbrev s_joined : Stmt := top 7
abbrev s_common : Stmt := top 8
abbrev s_without : Stmt := top 9
abbrev s_odd : Stmt := top 10
abbrev s_moved : Stmt := top 11
abbrev s_round_steps : Stmt := top 13
abbrev s_least_period : Stmt := top 14
abbrev s_least_head : Stmt := top 15
abbrev s_Form_init : Stmt := inClass (top 16) 0
abbrev s_OutOfRange_init : Stmt := inClass (top 19) 0
abbrev s_TooMany_init : Stmt := inClass (top 20) 0
abbrev s_BadStretch_init : Stmt := inClass (top 21) 0
abbrev s_in_range : Stmt := top 25
abbrev s_spread : Stmt := top 27
abbrev s_stretches_below : Stmt := top 28
abbrev s_common_window : Stmt := top 29
abbrev s_both_spread : Stmt := top 30
abbrev s_Pattern_init : Stmt := inClass (top 34) 0
abbrev s_Pattern_never : Stmt := inClass (top 34) 1
abbrev s_Pattern_always : Stmt := inClass (top 34) 2
abbrev s_Pattern_once : Stmt := inClass (top 34) 3
abbrev s_Pattern_every : Stmt := inClass (top 34) 4
abbrev s_Pattern_span : Stmt := inClass (top 34) 5
abbrev s_Pattern_eq : Stmt := inClass (top 34) 6
abbrev s_Pattern_or : Stmt := inClass (top 34) 7
abbrev s_Pattern_and : Stmt := inClass (top 34) 8
abbrev s_Pattern_sub : Stmt := inClass (top 34) 9
abbrev s_Pattern_xor : Stmt := inClass (top 34) 10
abbrev s_Pattern_invert : Stmt := inClass (top 34) 11
abbrev s_Pattern_contains : Stmt := inClass (top 34) 12
abbrev s_Pattern_finite : Stmt := inClass (top 34) 13
abbrev s_Pattern_empty : Stmt := inClass (top 34) 14
abbrev s_Pattern_number_in : Stmt := inClass (top 34) 15
abbrev s_Pattern_minute_at : Stmt := inClass (top 34) 16
abbrev s_Pattern_first_from : Stmt := inClass (top 34) 17
abbrev s_Pattern_last_before : Stmt := inClass (top 34) 18
abbrev s_Pattern_each_minute : Stmt := inClass (top 34) 19
abbrev s_Pattern_run_end : Stmt := inClass (top 34) 20
abbrev s_Pattern_near : Stmt := inClass (top 34) 21
abbrev s_Pattern_below : Stmt := inClass (top 34) 22
abbrev s_Pattern_nth : Stmt := inClass (top 34) 23
abbrev s_built_pattern : Stmt := top 35
abbrev s__law_start : Stmt := top 37
abbrev s__law_draw : Stmt := top 38
abbrev s__law_far : Stmt := top 39
abbrev s__law_near : Stmt := top 40
abbrev s__law_drawn : Stmt := top 41
abbrev s__law_pick_factor : Stmt := top 42
abbrev s__law_row_of : Stmt := top 43
abbrev s__law_form : Stmt := top 44
abbrev s__law_scaled : Stmt := top 45
abbrev s__law_is_in : Stmt := top 46
abbrev s__law_int : Stmt := top 47
abbrev s__law_has : Stmt := top 48
abbrev s__law_once : Stmt := top 49
abbrev s__law_made : Stmt := top 50
abbrev s__law_asked : Stmt := top 51
abbrev s__law_bent : Stmt := top 52
abbrev s__law_refused : Stmt := top 53
abbrev s__law_minutes : Stmt := top 54
abbrev s__law_others : Stmt := top 55
abbrev s__law_large : Stmt := top 56
abbrev s_law : Stmt := top 57
theorem sc_tidy : FnScope ["pairs", "told", "start", "end"] ["pairs"] (defScope s_tidy) := ⟨rfl, rfl, rfl, by decide +kernel, rfl, by decide +kernel, by decide +kernel⟩
theorem sc_starts_below : FnScope ["pairs", "minute", "low", "high", "middle"] ["pairs", "minute"] (defScope s_starts_below) := ⟨rfl, rfl, rfl, by decide +kernel, rfl, by decide +kernel, by decide +kernel⟩
theorem sc_clip : FnScope ["pairs", "start", "end", "first", "cut"] ["pairs", "start", "end"] (defScope s_clip) := ⟨rfl, rfl, rfl, by decide +kernel, rfl, by decide +kernel, by decide +kernel⟩
theorem sc_round_steps : FnScope ["head", "period", "tail", "runs", "start", "end", "following", "run", "then"] ["head", "period", "tail"] (defScope s_round_steps) := ⟨rfl, rfl, rfl, by decide +kernel, rfl, by decide +kernel, by decide +kernel⟩
theorem sc_least_period : FnScope ["head", "period", "pairs", "tail", "steps", "many", "size"] ["head", "period", "pairs"] (defScope s_least_period) := ⟨rfl, rfl, rfl, by decide +kernel, rfl, by decide +kernel, by decide +kernel⟩
theorem sc_least_head : FnScope ["head", "period", "pairs", "now", "pair", "edge", "then"] ["head", "period", "pairs"] (defScope s_least_head) := ⟨rfl, rfl, rfl, by decide +kernel, rfl, by decide +kernel, by decide +kernel⟩
theorem sc_Form_init : FnScope ["self", "head", "period", "pairs", "whole"] ["self", "head", "period", "pairs"] (defScope s_Form_init) := ⟨rfl, rfl, rfl, by decide +kernel, rfl, by decide +kernel, by decide +kernel⟩
theorem sc_OutOfRange_init : FnScope ["self", "what", "value"] ["self", "what", "value"] (defScope s_OutOfRange_init) := ⟨rfl, rfl, rfl, by decide +kernel, rfl, by decide +kernel, by decide +kernel⟩
theorem sc_TooMany_init : FnScope ["self", "what", "many"] ["self", "what", "many"] (defScope s_TooMany_init) := ⟨rfl, rfl, rfl, by decide +kernel, rfl, by decide +kernel, by decide +kernel⟩
theorem sc_BadStretch_init : FnScope ["self", "at"] ["self", "at"] (defScope s_BadStretch_init) := ⟨rfl, rfl, rfl, by decide +kernel, rfl, by decide +kernel, by decide +kernel⟩
theorem sc_in_range : FnScope ["what", "value", "low", "high"] ["what", "value", "low", "high"] (defScope s_in_range) := ⟨rfl, rfl, rfl, by decide +kernel, rfl, by decide +kernel, by decide +kernel⟩
theorem sc_Pattern_init : FnScope ["self", "head", "period", "stretches", "at", "start", "end", "form", "sums"] ["self", "head", "period", "stretches"] (defScope s_Pattern_init) := ⟨rfl, rfl, rfl, by decide +kernel, rfl, by decide +kernel, by decide +kernel⟩
theorem sc_Pattern_never : FnScope [] [] (defScope s_Pattern_never) := ⟨rfl, rfl, rfl, by decide +kernel, rfl, by decide +kernel, by decide +kernel⟩
theorem sc_Pattern_always : FnScope [] [] (defScope s_Pattern_always) := ⟨rfl, rfl, rfl, by decide +kernel, rfl, by decide +kernel, by decide +kernel⟩
theorem sc_Pattern_once : FnScope ["minutes", "at", "minute"] ["minutes"] (defScope s_Pattern_once) := ⟨rfl, rfl, rfl, by decide +kernel, rfl, by decide +kernel, by decide +kernel⟩
theorem sc_Pattern_every : FnScope ["period", "first"] ["period", "first"] (defScope s_Pattern_every) := ⟨rfl, rfl, rfl, by decide +kernel, rfl, by decide +kernel, by decide +kernel⟩
theorem sc_Pattern_span : FnScope ["start", "end"] ["start", "end"] (defScope s_Pattern_span) := ⟨rfl, rfl, rfl, by decide +kernel, rfl, by decide +kernel, by decide +kernel⟩
theorem sc_Pattern_contains : FnScope ["self", "minute"] ["self", "minute"] (defScope s_Pattern_contains) := ⟨rfl, rfl, rfl, by decide +kernel, rfl, by decide +kernel, by decide +kernel⟩
theorem sc_Pattern_finite : FnScope ["self"] ["self"] (defScope s_Pattern_finite) := ⟨rfl, rfl, rfl, by decide +kernel, rfl, by decide +kernel, by decide +kernel⟩
theorem sc_Pattern_empty : FnScope ["self"] ["self"] (defScope s_Pattern_empty) := ⟨rfl, rfl, rfl, by decide +kernel, rfl, by decide +kernel, by decide +kernel⟩
theorem sc_Pattern_run_end : FnScope ["self", "minute", "edge", "place", "at"] ["self", "minute"] (defScope s_Pattern_run_end) := ⟨rfl, rfl, rfl, by decide +kernel, rfl, by decide +kernel, by decide +kernel⟩
theorem sc_Pattern_near : FnScope ["self", "minute", "at", "start", "end"] ["self", "minute"] (defScope s_Pattern_near) := ⟨rfl, rfl, rfl, by decide +kernel, rfl, by decide +kernel, by decide +kernel⟩
theorem sc__law_start : FnScope ["script", "cells", "k", "cell", "one", "two", "three"] ["script"] (defScope s__law_start) := ⟨rfl, rfl, rfl, by decide +kernel, rfl, by decide +kernel, by decide +kernel⟩
theorem sc__law_draw : FnScope ["pool", "many", "one"] ["pool", "many"] (defScope s__law_draw) := ⟨rfl, rfl, rfl, by decide +kernel, rfl, by decide +kernel, by decide +kernel⟩
theorem sc__law_far : FnScope ["pool", "shape"] ["pool"] (defScope s__law_far) := ⟨rfl, rfl, rfl, by decide +kernel, rfl, by decide +kernel, by decide +kernel⟩
theorem sc__law_near : FnScope ["pool", "low", "many", "one"] ["pool", "low", "many"] (defScope s__law_near) := ⟨rfl, rfl, rfl, by decide +kernel, rfl, by decide +kernel, by decide +kernel⟩
theorem sc__law_drawn : FnScope ["pool", "head", "period", "size", "pairs", "k", "start", "end"] ["pool"] (defScope s__law_drawn) := ⟨rfl, rfl, rfl, by decide +kernel, rfl, by decide +kernel, by decide +kernel⟩
theorem sc__law_pick_factor : FnScope ["pool", "most", "shape"] ["pool", "most"] (defScope s__law_pick_factor) := ⟨rfl, rfl, rfl, by decide +kernel, rfl, by decide +kernel, by decide +kernel⟩
theorem sc__law_row_of : FnScope ["size", "pairs", "bits", "t", "a"] ["size", "pairs"] (defScope s__law_row_of) := ⟨rfl, rfl, rfl, by decide +kernel, rfl, by decide +kernel, by decide +kernel⟩
theorem sc__law_form : FnScope ["head", "bits", "tail", "least", "p", "start", "t", "runs"] ["head", "bits"] (defScope s__law_form) := ⟨rfl, rfl, rfl, by decide +kernel, rfl, by decide +kernel, by decide +kernel⟩
theorem sc__law_scaled : FnScope ["form", "by", "head", "period", "runs", "top", "a"] ["form", "by"] (defScope s__law_scaled) := ⟨rfl, rfl, rfl, by decide +kernel, rfl, by decide +kernel, by decide +kernel⟩
theorem sc__law_is_in : FnScope ["head", "bits", "by", "minute", "unit"] ["head", "bits", "by", "minute"] (defScope s__law_is_in) := ⟨rfl, rfl, rfl, by decide +kernel, rfl, by decide +kernel, by decide +kernel⟩
theorem sc__law_int : FnScope ["one"] ["one"] (defScope s__law_int) := ⟨rfl, rfl, rfl, by decide +kernel, rfl, by decide +kernel, by decide +kernel⟩
theorem sc__law_has : FnScope ["told", "form", "head", "period", "runs", "pair"] ["told", "form"] (defScope s__law_has) := ⟨rfl, rfl, rfl, by decide +kernel, rfl, by decide +kernel, by decide +kernel⟩
theorem sc__law_once : FnScope ["minutes", "runs", "t"] ["minutes"] (defScope s__law_once) := ⟨rfl, rfl, rfl, by decide +kernel, rfl, by decide +kernel, by decide +kernel⟩
theorem sc__law_made : FnScope ["kind", "one", "two", "three"] ["kind", "one", "two", "three"] (defScope s__law_made) := ⟨rfl, rfl, rfl, by decide +kernel, rfl, by decide +kernel, by decide +kernel⟩
theorem sc__law_asked : FnScope ["kind", "one", "two", "three", "e", "fine", "other"] ["kind", "one", "two", "three"] (defScope s__law_asked) := ⟨rfl, rfl, rfl, by decide +kernel, rfl, by decide +kernel, by decide +kernel⟩
theorem sc__law_bent : FnScope ["pool", "head", "period", "pairs", "kind", "one", "much", "pair", "at", "bent"] ["pool", "head", "period", "pairs"] (defScope s__law_bent) := ⟨rfl, rfl, rfl, by decide +kernel, rfl, by decide +kernel, by decide +kernel⟩
theorem sc__law_refused : FnScope ["pool", "head", "period", "pairs", "d", "top", "at", "bent", "wrong", "k", "place", "one", "rows", "row"] ["pool", "head", "period", "pairs"] (defScope s__law_refused) := ⟨rfl, rfl, rfl, by decide +kernel, rfl, by decide +kernel, by decide +kernel⟩
theorem sc__law_minutes : FnScope ["pool", "told", "head", "bits", "by", "asked", "t", "k", "beyond"] ["pool", "told", "head", "bits", "by"] (defScope s__law_minutes) := ⟨rfl, rfl, rfl, by decide +kernel, rfl, by decide +kernel, by decide +kernel⟩
theorem sc__law_others : FnScope ["pool", "base", "minutes", "k", "handed", "told", "due", "t", "period", "first", "head", "end", "start"] ["pool"] (defScope s__law_others) := ⟨rfl, rfl, rfl, by decide +kernel, rfl, by decide +kernel, by decide +kernel⟩
theorem sc__law_large : FnScope ["pool", "head", "period", "least", "at", "many", "evens", "k", "told"] ["pool", "head", "period"] (defScope s__law_large) := ⟨rfl, rfl, rfl, by decide +kernel, rfl, by decide +kernel, by decide +kernel⟩
theorem sc_law : FnScope ["script", "pool", "head", "period", "pairs", "by", "bits", "form", "row", "a", "handed", "told", "start", "length", "others", "due", "second"] ["script"] (defScope s_law) := ⟨rfl, rfl, rfl, by decide +kernel, rfl, by decide +kernel, by decide +kernel⟩
structure Ad where
  (c_Form c_DueError c_OutOfRange c_TooMany c_BadStretch c_Pattern f_tidy f_starts_below f_clip f_round_steps f_least_period f_least_head f_Form_init f_OutOfRange_init f_TooMany_init f_BadStretch_init f_in_range f_Pattern_init f_Pattern_never f_Pattern_always f_Pattern_once f_Pattern_every f_Pattern_span f_Pattern_contains f_Pattern_finite f_Pattern_empty f_Pattern_run_end f_Pattern_near f__law_start f__law_draw f__law_far f__law_near f__law_drawn f__law_pick_factor f__law_row_of f__law_form f__law_scaled f__law_is_in f__law_int f__law_has f__law_once f__law_made f__law_asked f__law_bent f__law_refused f__law_minutes f__law_others f__law_large f_law : Addr)
  (p_Pattern_never p_Pattern_always p_Pattern_once p_Pattern_every p_Pattern_span p_Pattern_finite p_Pattern_empty : Addr)
  (d_tidy d_starts_below d_clip d_round_steps d_least_period d_least_head d_Form_init d_OutOfRange_init d_TooMany_init d_BadStretch_init d_in_range d_Pattern_init d_Pattern_never d_Pattern_always d_Pattern_once d_Pattern_every d_Pattern_span d_Pattern_contains d_Pattern_finite d_Pattern_empty d_Pattern_run_end d_Pattern_near d__law_start d__law_draw d__law_far d__law_near d__law_drawn d__law_pick_factor d__law_row_of d__law_form d__law_scaled d__law_is_in d__law_int d__law_has d__law_once d__law_made d__law_asked d__law_bent d__law_refused d__law_minutes d__law_others d__law_large d_law : FuncData)
structure Tx (K : PySem.W.Frag) (mg : Str → Option Value) (a : Ad) : Prop where
  g_Form : mg "Form" = some (.ref a.c_Form)
  cl_Form : Cls K a.c_Form
  no_Form_period : NoAttr K a.c_Form "period"
  no_Form_head : NoAttr K a.c_Form "head"
  no_Form_stretches : NoAttr K a.c_Form "stretches"
  M_Form : Mk K a.c_Form a.f_Form_init
  g_DueError : mg "DueError" = some (.ref a.c_DueError)
  ox_DueError : OexC K a.c_DueError
  xc_DueError : ExcC K a.c_DueError
  xf_DueError : XfC K a.c_DueError
  sub_DueError_DueError : PySem.W.subIn K (.ref a.c_DueError) (.ref a.c_DueError) = some true
  exm_DueError_DueError : PySem.W.exmOne K (.ref a.c_DueError) (.ref a.c_DueError) = some true
  kit_DueError_DueError : PySem.W.kitOne K (.ref a.c_DueError) (.ref a.c_DueError) = some true
  sub_DueError_OutOfRange : PySem.W.subIn K (.ref a.c_DueError) (.ref a.c_OutOfRange) = some false
  exm_DueError_OutOfRange : PySem.W.exmOne K (.ref a.c_DueError) (.ref a.c_OutOfRange) = some false
  kit_DueError_OutOfRange : PySem.W.kitOne K (.ref a.c_DueError) (.ref a.c_OutOfRange) = some false
  sub_DueError_TooMany : PySem.W.subIn K (.ref a.c_DueError) (.ref a.c_TooMany) = some false
  exm_DueError_TooMany : PySem.W.exmOne K (.ref a.c_DueError) (.ref a.c_TooMany) = some false
  kit_DueError_TooMany : PySem.W.kitOne K (.ref a.c_DueError) (.ref a.c_TooMany) = some false
  sub_DueError_BadStretch : PySem.W.subIn K (.ref a.c_DueError) (.ref a.c_BadStretch) = some false
  exm_DueError_BadStretch : PySem.W.exmOne K (.ref a.c_DueError) (.ref a.c_BadStretch) = some false
  kit_DueError_BadStretch : PySem.W.kitOne K (.ref a.c_DueError) (.ref a.c_BadStretch) = some false
  kitV_DueError : PySem.W.kitOne K (.ref a.c_DueError) (.type "ValueError") = some true
  g_OutOfRange : mg "OutOfRange" = some (.ref a.c_OutOfRange)
  ox_OutOfRange : OexC K a.c_OutOfRange
  xc_OutOfRange : ExcC K a.c_OutOfRange
  xf_OutOfRange : XfC K a.c_OutOfRange
  no_OutOfRange_what : PySem.W.findIn K (.ref a.c_OutOfRange) "what" = some none
  no_OutOfRange_value : PySem.W.findIn K (.ref a.c_OutOfRange) "value" = some none
  i_OutOfRange : PySem.W.findIn K (.ref a.c_OutOfRange) "__init__" = some (some (.ref a.f_OutOfRange_init))
  t_OutOfRange : PySem.W.typeIn K (.ref a.f_OutOfRange_init) = some (.type "function")
  sub_OutOfRange_DueError : PySem.W.subIn K (.ref a.c_OutOfRange) (.ref a.c_DueError) = some true
  exm_OutOfRange_DueError : PySem.W.exmOne K (.ref a.c_OutOfRange) (.ref a.c_DueError) = some true
  kit_OutOfRange_DueError : PySem.W.kitOne K (.ref a.c_OutOfRange) (.ref a.c_DueError) = some true
  sub_OutOfRange_OutOfRange : PySem.W.subIn K (.ref a.c_OutOfRange) (.ref a.c_OutOfRange) = some true
  exm_OutOfRange_OutOfRange : PySem.W.exmOne K (.ref a.c_OutOfRange) (.ref a.c_OutOfRange) = some true
  kit_OutOfRange_OutOfRange : PySem.W.kitOne K (.ref a.c_OutOfRange) (.ref a.c_OutOfRange) = some true
  sub_OutOfRange_TooMany : PySem.W.subIn K (.ref a.c_OutOfRange) (.ref a.c_TooMany) = some false
  exm_OutOfRange_TooMany : PySem.W.exmOne K (.ref a.c_OutOfRange) (.ref a.c_TooMany) = some false
  kit_OutOfRange_TooMany : PySem.W.kitOne K (.ref a.c_OutOfRange) (.ref a.c_TooMany) = some false
  sub_OutOfRange_BadStretch : PySem.W.subIn K (.ref a.c_OutOfRange) (.ref a.c_BadStretch) = some false
  exm_OutOfRange_BadStretch : PySem.W.exmOne K (.ref a.c_OutOfRange) (.ref a.c_BadStretch) = some false
  kit_OutOfRange_BadStretch : PySem.W.kitOne K (.ref a.c_OutOfRange) (.ref a.c_BadStretch) = some false
  kitV_OutOfRange : PySem.W.kitOne K (.ref a.c_OutOfRange) (.type "ValueError") = some true
  g_TooMany : mg "TooMany" = some (.ref a.c_TooMany)
  ox_TooMany : OexC K a.c_TooMany
  xc_TooMany : ExcC K a.c_TooMany
  xf_TooMany : XfC K a.c_TooMany
  no_TooMany_what : PySem.W.findIn K (.ref a.c_TooMany) "what" = some none
  no_TooMany_many : PySem.W.findIn K (.ref a.c_TooMany) "many" = some none
  i_TooMany : PySem.W.findIn K (.ref a.c_TooMany) "__init__" = some (some (.ref a.f_TooMany_init))
  t_TooMany : PySem.W.typeIn K (.ref a.f_TooMany_init) = some (.type "function")
  sub_TooMany_DueError : PySem.W.subIn K (.ref a.c_TooMany) (.ref a.c_DueError) = some true
  exm_TooMany_DueError : PySem.W.exmOne K (.ref a.c_TooMany) (.ref a.c_DueError) = some true
  kit_TooMany_DueError : PySem.W.kitOne K (.ref a.c_TooMany) (.ref a.c_DueError) = some true
  sub_TooMany_OutOfRange : PySem.W.subIn K (.ref a.c_TooMany) (.ref a.c_OutOfRange) = some false
  exm_TooMany_OutOfRange : PySem.W.exmOne K (.ref a.c_TooMany) (.ref a.c_OutOfRange) = some false
  kit_TooMany_OutOfRange : PySem.W.kitOne K (.ref a.c_TooMany) (.ref a.c_OutOfRange) = some false
  sub_TooMany_TooMany : PySem.W.subIn K (.ref a.c_TooMany) (.ref a.c_TooMany) = some true
  exm_TooMany_TooMany : PySem.W.exmOne K (.ref a.c_TooMany) (.ref a.c_TooMany) = some true
  kit_TooMany_TooMany : PySem.W.kitOne K (.ref a.c_TooMany) (.ref a.c_TooMany) = some true
  sub_TooMany_BadStretch : PySem.W.subIn K (.ref a.c_TooMany) (.ref a.c_BadStretch) = some false
  exm_TooMany_BadStretch : PySem.W.exmOne K (.ref a.c_TooMany) (.ref a.c_BadStretch) = some false
  kit_TooMany_BadStretch : PySem.W.kitOne K (.ref a.c_TooMany) (.ref a.c_BadStretch) = some false
  kitV_TooMany : PySem.W.kitOne K (.ref a.c_TooMany) (.type "ValueError") = some true
  g_BadStretch : mg "BadStretch" = some (.ref a.c_BadStretch)
  ox_BadStretch : OexC K a.c_BadStretch
  xc_BadStretch : ExcC K a.c_BadStretch
  xf_BadStretch : XfC K a.c_BadStretch
  no_BadStretch_at : PySem.W.findIn K (.ref a.c_BadStretch) "at" = some none
  i_BadStretch : PySem.W.findIn K (.ref a.c_BadStretch) "__init__" = some (some (.ref a.f_BadStretch_init))
  t_BadStretch : PySem.W.typeIn K (.ref a.f_BadStretch_init) = some (.type "function")
  sub_BadStretch_DueError : PySem.W.subIn K (.ref a.c_BadStretch) (.ref a.c_DueError) = some true
  exm_BadStretch_DueError : PySem.W.exmOne K (.ref a.c_BadStretch) (.ref a.c_DueError) = some true
  kit_BadStretch_DueError : PySem.W.kitOne K (.ref a.c_BadStretch) (.ref a.c_DueError) = some true
  sub_BadStretch_OutOfRange : PySem.W.subIn K (.ref a.c_BadStretch) (.ref a.c_OutOfRange) = some false
  exm_BadStretch_OutOfRange : PySem.W.exmOne K (.ref a.c_BadStretch) (.ref a.c_OutOfRange) = some false
  kit_BadStretch_OutOfRange : PySem.W.kitOne K (.ref a.c_BadStretch) (.ref a.c_OutOfRange) = some false
  sub_BadStretch_TooMany : PySem.W.subIn K (.ref a.c_BadStretch) (.ref a.c_TooMany) = some false
  exm_BadStretch_TooMany : PySem.W.exmOne K (.ref a.c_BadStretch) (.ref a.c_TooMany) = some false
  kit_BadStretch_TooMany : PySem.W.kitOne K (.ref a.c_BadStretch) (.ref a.c_TooMany) = some false
  sub_BadStretch_BadStretch : PySem.W.subIn K (.ref a.c_BadStretch) (.ref a.c_BadStretch) = some true
  exm_BadStretch_BadStretch : PySem.W.exmOne K (.ref a.c_BadStretch) (.ref a.c_BadStretch) = some true
  kit_BadStretch_BadStretch : PySem.W.kitOne K (.ref a.c_BadStretch) (.ref a.c_BadStretch) = some true
  kitV_BadStretch : PySem.W.kitOne K (.ref a.c_BadStretch) (.type "ValueError") = some true
  g_Pattern : mg "Pattern" = some (.ref a.c_Pattern)
  cl_Pattern : Cls K a.c_Pattern
  kit_Pattern : PySem.W.kitOne K (.ref a.c_Pattern) (.ref a.c_Pattern) = some true
  ia_Pattern : PySem.W.findIn K (.ref a.c_Pattern) "__class__" = some (some (.builtin "object.__class__"))
  im_Pattern : PySem.W.mroIn K a.c_Pattern (.type "object") = some true
  in_Pattern : PySem.W.specialIn K (.builtin "object.__class__") "__get__" = some (some (.builtin "getset_descriptor.__get__"))
  it_Pattern : PySem.W.takesIn K (.builtin "object.__class__") = some true
  no_Pattern_head : NoAttr K a.c_Pattern "head"
  no_Pattern_period : NoAttr K a.c_Pattern "period"
  no_Pattern_stretches : NoAttr K a.c_Pattern "stretches"
  no_Pattern__sums : NoAttr K a.c_Pattern "_sums"
  no_Pattern__front : NoAttr K a.c_Pattern "_front"
  M_Pattern : Mk K a.c_Pattern a.f_Pattern_init
  cr_Pattern : ClX.CRead K a.c_Pattern (.type "type")
  sm_Pattern_never : SMet K a.c_Pattern (.type "type") "never" a.p_Pattern_never a.f_Pattern_never
  sm_Pattern_always : SMet K a.c_Pattern (.type "type") "always" a.p_Pattern_always a.f_Pattern_always
  sm_Pattern_once : SMet K a.c_Pattern (.type "type") "once" a.p_Pattern_once a.f_Pattern_once
  sm_Pattern_every : SMet K a.c_Pattern (.type "type") "every" a.p_Pattern_every a.f_Pattern_every
  sm_Pattern_span : SMet K a.c_Pattern (.type "type") "span" a.p_Pattern_span a.f_Pattern_span
  m_Pattern_contains : Meth K a.c_Pattern "__contains__" a.f_Pattern_contains
  pr_Pattern_finite : PropOf K a.c_Pattern "finite" a.p_Pattern_finite a.f_Pattern_finite
  pr_Pattern_empty : PropOf K a.c_Pattern "empty" a.p_Pattern_empty a.f_Pattern_empty
  m_Pattern_run_end : Meth K a.c_Pattern "_run_end" a.f_Pattern_run_end
  m_Pattern_near : Meth K a.c_Pattern "_near" a.f_Pattern_near
  F_tidy : Fun K "tidy" "tidy" s_tidy a.f_tidy a.d_tidy
  b_tidy : Binds K a.d_tidy ["pairs"] []
  g_tidy : mg "tidy" = some (.ref a.f_tidy)
  F_starts_below : Fun K "starts_below" "starts_below" s_starts_below a.f_starts_below a.d_starts_below
  b_starts_below : Binds K a.d_starts_below ["pairs", "minute"] []
  g_starts_below : mg "starts_below" = some (.ref a.f_starts_below)
  F_clip : Fun K "clip" "clip" s_clip a.f_clip a.d_clip
  b_clip : Binds K a.d_clip ["pairs", "start", "end"] []
  g_clip : mg "clip" = some (.ref a.f_clip)
  F_round_steps : Fun K "round_steps" "round_steps" s_round_steps a.f_round_steps a.d_round_steps
  b_round_steps : Binds K a.d_round_steps ["head", "period", "tail"] []
  g_round_steps : mg "round_steps" = some (.ref a.f_round_steps)
  F_least_period : Fun K "least_period" "least_period" s_least_period a.f_least_period a.d_least_period
  b_least_period : Binds K a.d_least_period ["head", "period", "pairs"] []
  g_least_period : mg "least_period" = some (.ref a.f_least_period)
  F_least_head : Fun K "least_head" "least_head" s_least_head a.f_least_head a.d_least_head
  b_least_head : Binds K a.d_least_head ["head", "period", "pairs"] []
  g_least_head : mg "least_head" = some (.ref a.f_least_head)
  F_Form_init : Fun K "__init__" "Form.__init__" s_Form_init a.f_Form_init a.d_Form_init
  b_Form_init : Binds K a.d_Form_init ["self", "head", "period", "pairs"] []
  F_OutOfRange_init : Fun K "__init__" "OutOfRange.__init__" s_OutOfRange_init a.f_OutOfRange_init a.d_OutOfRange_init
  b_OutOfRange_init : Binds K a.d_OutOfRange_init ["self", "what", "value"] []
  F_TooMany_init : Fun K "__init__" "TooMany.__init__" s_TooMany_init a.f_TooMany_init a.d_TooMany_init
  b_TooMany_init : Binds K a.d_TooMany_init ["self", "what", "many"] []
  F_BadStretch_init : Fun K "__init__" "BadStretch.__init__" s_BadStretch_init a.f_BadStretch_init a.d_BadStretch_init
  b_BadStretch_init : Binds K a.d_BadStretch_init ["self", "at"] []
  F_in_range : Fun K "in_range" "in_range" s_in_range a.f_in_range a.d_in_range
  b_in_range : Binds K a.d_in_range ["what", "value", "low", "high"] []
  g_in_range : mg "in_range" = some (.ref a.f_in_range)
  F_Pattern_init : Fun K "__init__" "Pattern.__init__" s_Pattern_init a.f_Pattern_init a.d_Pattern_init
  b_Pattern_init : Binds K a.d_Pattern_init ["self", "head", "period", "stretches"] []
  F_Pattern_never : Fun K "never" "Pattern.never" s_Pattern_never a.f_Pattern_never a.d_Pattern_never
  b_Pattern_never : Binds K a.d_Pattern_never [] []
  F_Pattern_always : Fun K "always" "Pattern.always" s_Pattern_always a.f_Pattern_always a.d_Pattern_always
  b_Pattern_always : Binds K a.d_Pattern_always [] []
  F_Pattern_once : Fun K "once" "Pattern.once" s_Pattern_once a.f_Pattern_once a.d_Pattern_once
  b_Pattern_once : Binds K a.d_Pattern_once ["minutes"] []
  F_Pattern_every : FunD K "every" "Pattern.every" (defArgs s_Pattern_every) (defBody s_Pattern_every) (defScope s_Pattern_every) [.int 0] [] a.f_Pattern_every a.d_Pattern_every
  bP_Pattern_every_0 : ∃ ds, Vals [.int 0] ds ∧ Binds K a.d_Pattern_every ["period", "first"] ds
  bP_Pattern_every_1 : ∃ ds, Vals [] ds ∧ Binds K a.d_Pattern_every ["period", "first"] ds
  F_Pattern_span : Fun K "span" "Pattern.span" s_Pattern_span a.f_Pattern_span a.d_Pattern_span
  b_Pattern_span : Binds K a.d_Pattern_span ["start", "end"] []
  F_Pattern_contains : Fun K "__contains__" "Pattern.__contains__" s_Pattern_contains a.f_Pattern_contains a.d_Pattern_contains
  b_Pattern_contains : Binds K a.d_Pattern_contains ["self", "minute"] []
  F_Pattern_finite : Fun K "finite" "Pattern.finite" s_Pattern_finite a.f_Pattern_finite a.d_Pattern_finite
  b_Pattern_finite : Binds K a.d_Pattern_finite ["self"] []
  F_Pattern_empty : Fun K "empty" "Pattern.empty" s_Pattern_empty a.f_Pattern_empty a.d_Pattern_empty
  b_Pattern_empty : Binds K a.d_Pattern_empty ["self"] []
  F_Pattern_run_end : Fun K "_run_end" "Pattern._run_end" s_Pattern_run_end a.f_Pattern_run_end a.d_Pattern_run_end
  b_Pattern_run_end : Binds K a.d_Pattern_run_end ["self", "minute"] []
  F_Pattern_near : Fun K "_near" "Pattern._near" s_Pattern_near a.f_Pattern_near a.d_Pattern_near
  b_Pattern_near : Binds K a.d_Pattern_near ["self", "minute"] []
  F__law_start : Fun K "_law_start" "_law_start" s__law_start a.f__law_start a.d__law_start
  b__law_start : Binds K a.d__law_start ["script"] []
  g__law_start : mg "_law_start" = some (.ref a.f__law_start)
  F__law_draw : Fun K "_law_draw" "_law_draw" s__law_draw a.f__law_draw a.d__law_draw
  b__law_draw : Binds K a.d__law_draw ["pool", "many"] []
  g__law_draw : mg "_law_draw" = some (.ref a.f__law_draw)
  F__law_far : Fun K "_law_far" "_law_far" s__law_far a.f__law_far a.d__law_far
  b__law_far : Binds K a.d__law_far ["pool"] []
  g__law_far : mg "_law_far" = some (.ref a.f__law_far)
  F__law_near : Fun K "_law_near" "_law_near" s__law_near a.f__law_near a.d__law_near
  b__law_near : Binds K a.d__law_near ["pool", "low", "many"] []
  g__law_near : mg "_law_near" = some (.ref a.f__law_near)
  F__law_drawn : Fun K "_law_drawn" "_law_drawn" s__law_drawn a.f__law_drawn a.d__law_drawn
  b__law_drawn : Binds K a.d__law_drawn ["pool"] []
  g__law_drawn : mg "_law_drawn" = some (.ref a.f__law_drawn)
  F__law_pick_factor : Fun K "_law_pick_factor" "_law_pick_factor" s__law_pick_factor a.f__law_pick_factor a.d__law_pick_factor
  b__law_pick_factor : Binds K a.d__law_pick_factor ["pool", "most"] []
  g__law_pick_factor : mg "_law_pick_factor" = some (.ref a.f__law_pick_factor)
  F__law_row_of : Fun K "_law_row_of" "_law_row_of" s__law_row_of a.f__law_row_of a.d__law_row_of
  b__law_row_of : Binds K a.d__law_row_of ["size", "pairs"] []
  g__law_row_of : mg "_law_row_of" = some (.ref a.f__law_row_of)
  F__law_form : Fun K "_law_form" "_law_form" s__law_form a.f__law_form a.d__law_form
  b__law_form : Binds K a.d__law_form ["head", "bits"] []
  g__law_form : mg "_law_form" = some (.ref a.f__law_form)
  F__law_scaled : Fun K "_law_scaled" "_law_scaled" s__law_scaled a.f__law_scaled a.d__law_scaled
  b__law_scaled : Binds K a.d__law_scaled ["form", "by"] []
  g__law_scaled : mg "_law_scaled" = some (.ref a.f__law_scaled)
  F__law_is_in : Fun K "_law_is_in" "_law_is_in" s__law_is_in a.f__law_is_in a.d__law_is_in
  b__law_is_in : Binds K a.d__law_is_in ["head", "bits", "by", "minute"] []
  g__law_is_in : mg "_law_is_in" = some (.ref a.f__law_is_in)
  F__law_int : Fun K "_law_int" "_law_int" s__law_int a.f__law_int a.d__law_int
  b__law_int : Binds K a.d__law_int ["one"] []
  g__law_int : mg "_law_int" = some (.ref a.f__law_int)
  F__law_has : Fun K "_law_has" "_law_has" s__law_has a.f__law_has a.d__law_has
  b__law_has : Binds K a.d__law_has ["told", "form"] []
  g__law_has : mg "_law_has" = some (.ref a.f__law_has)
  F__law_once : Fun K "_law_once" "_law_once" s__law_once a.f__law_once a.d__law_once
  b__law_once : Binds K a.d__law_once ["minutes"] []
  g__law_once : mg "_law_once" = some (.ref a.f__law_once)
  F__law_made : Fun K "_law_made" "_law_made" s__law_made a.f__law_made a.d__law_made
  b__law_made : Binds K a.d__law_made ["kind", "one", "two", "three"] []
  g__law_made : mg "_law_made" = some (.ref a.f__law_made)
  F__law_asked : Fun K "_law_asked" "_law_asked" s__law_asked a.f__law_asked a.d__law_asked
  b__law_asked : Binds K a.d__law_asked ["kind", "one", "two", "three"] []
  g__law_asked : mg "_law_asked" = some (.ref a.f__law_asked)
  F__law_bent : Fun K "_law_bent" "_law_bent" s__law_bent a.f__law_bent a.d__law_bent
  b__law_bent : Binds K a.d__law_bent ["pool", "head", "period", "pairs"] []
  g__law_bent : mg "_law_bent" = some (.ref a.f__law_bent)
  F__law_refused : Fun K "_law_refused" "_law_refused" s__law_refused a.f__law_refused a.d__law_refused
  b__law_refused : Binds K a.d__law_refused ["pool", "head", "period", "pairs"] []
  g__law_refused : mg "_law_refused" = some (.ref a.f__law_refused)
  F__law_minutes : Fun K "_law_minutes" "_law_minutes" s__law_minutes a.f__law_minutes a.d__law_minutes
  b__law_minutes : Binds K a.d__law_minutes ["pool", "told", "head", "bits", "by"] []
  g__law_minutes : mg "_law_minutes" = some (.ref a.f__law_minutes)
  F__law_others : Fun K "_law_others" "_law_others" s__law_others a.f__law_others a.d__law_others
  b__law_others : Binds K a.d__law_others ["pool"] []
  g__law_others : mg "_law_others" = some (.ref a.f__law_others)
  F__law_large : Fun K "_law_large" "_law_large" s__law_large a.f__law_large a.d__law_large
  b__law_large : Binds K a.d__law_large ["pool", "head", "period"] []
  g__law_large : mg "_law_large" = some (.ref a.f__law_large)
  F_law : Fun K "law" "law" s_law a.f_law a.d_law
  b_law : Binds K a.d_law ["script"] []
  g_law : mg "law" = some (.ref a.f_law)
  g_MOST_STRETCHES : ∃ t, mg "MOST_STRETCHES" = some (.int 5000 t)
  g_FAR : ∃ t, mg "FAR" = some (.int (10 ^ 40) t)
  g_LONG : ∃ t, mg "LONG" = some (.int (10 ^ 12) t)
  n_ValueError : mg "ValueError" = none
  n_any : mg "any" = none
  n_bool : mg "bool" = none
  n_enumerate : mg "enumerate" = none
  n_int : mg "int" = none
  n_isinstance : mg "isinstance" = none
  n_len : mg "len" = none
  n_list : mg "list" = none
  n_max : mg "max" = none
  n_min : mg "min" = none
  n_property : mg "property" = none
  n_range : mg "range" = none
  n_sorted : mg "sorted" = none
  n_staticmethod : mg "staticmethod" = none
  n_tuple : mg "tuple" = none
  n_zip : mg "zip" = none
end My

namespace My
open PySem L2
/-! ### 1. errors -/
/-- an own error's __init__ with two fields -/
def spX2 (C : Addr) (f g : Str) : Sp := fun vs H Q _ => ∃ (x : Addr) (v w : V), vs = [.ref x, v, w] ∧ H x = some (exo x C none) ∧
  ∀ d H', H d = none → d ≠ x → H' x = some (exo x C (some d)) → H' d = some (exd d [(g, w), (f, v)]) → But x H H' → Q .non H'
section
variable {P : Program} {w : World} {K : PySem.W.Frag} {mg : Str → Option Value} {base : Heap} {a : Ad}
theorem x2_read {K : PySem.W.Frag} {C : Addr} {f g : Str} (ox : OexC K C) (nf : PySem.W.findIn K (.ref C) f = some none) (ng : PySem.W.findIn K (.ref C) g = some none) {x : Addr} {v w : V} {H : Hp} {D : Ends} (hx : H x = some (exo x C none))
    (h : ∀ d H', H d = none → d ≠ x → H' x = some (exo x C (some d)) → H' d = some (exd d [(g, w), (f, v)]) → But x H H' → D.nx [some (.ref x), some v, some w] H') :
    tAsg (tTup (tCons (tVar 1) (tCons (tVar 2) tNil))) (gTup K 2 (gCons (gOst K f (tVar 0)) (gCons (gOst K g (tVar 0)) gNil))) D [some (.ref x), some v, some w] H := by
  refine ⟨_, rfl, _, rfl, (by show 2 ≤ sizeLine; decide), fun p hp => ?_⟩
  have npx : p ≠ x := (ne_of_none hx hp).symm
  refine ⟨p, [v, w], rfl, SqT.of upd_same, rfl, _, _, rfl, _, rfl, x, C, rfl, ox, nf, Or.inl ⟨(upd_ne npx.symm).trans hx, fun d hd hdx => ?_⟩⟩
  have ndp : d ≠ p := fun z => by rw [z, upd_same] at hd; cases hd
  have hd0 : H d = none := by rw [← hd, upd_ne ndp]
  refine ⟨_, _, rfl, _, rfl, x, C, rfl, ox, ng, Or.inr ⟨d, _, upd_same, (upd_ne hdx).trans upd_same, (by show 1 ≤ 900; decide), rfl, ?_⟩⟩
  refine h d _ hd0 hdx ((upd_ne hdx.symm).trans upd_same) upd_same fun b o e hb => ?_
  rw [upd_ne (ne_of_none e hd0), upd_ne hb, upd_ne (ne_of_none e hd0), upd_ne (ne_of_none e hp)]
  exact e
theorem G_OutOfRange_init (T : Tx K mg a) : FnOk P w K mg base CX0 1 a.f_OutOfRange_init a.d_OutOfRange_init ["self", "what", "value"] (spX2 a.c_OutOfRange "what" "value") := by
  refine T.F_OutOfRange_init.ok sc_OutOfRange_init (fun vs H Q E h => ?_) (fun cdv A outer s H vs Q E hr h => ?_)
  · obtain ⟨x, v, w, rfl, _⟩ := h
    rfl
  · obtain ⟨x, v, w, rfl, hx, k⟩ := h
    refine ⟨_, (pss_one (ps_asg (pe_tup (pa_cons (pv 1) (pa_cons (pv 2) pa_nil))) (pg_tup rfl (pgs_cons (pg_ost (pv 0)) (pgs_cons (pg_ost (pv 0)) pgs_nil))))), ?_⟩
    exact x2_read T.ox_OutOfRange T.no_OutOfRange_what T.no_OutOfRange_value hx k
/-- an own error's __init__ with one field -/
def spX1 (C : Addr) (f : Str) : Sp := fun vs H Q _ => ∃ (x : Addr) (v : V), vs = [.ref x, v] ∧ H x = some (exo x C none) ∧
  ∀ d H', H d = none → d ≠ x → H' x = some (exo x C (some d)) → H' d = some (exd d [(f, v)]) → But x H H' → Q .non H'
theorem G_BadStretch_init (T : Tx K mg a) : FnOk P w K mg base CX0 1 a.f_BadStretch_init a.d_BadStretch_init ["self", "at"] (spX1 a.c_BadStretch "at") := by
  refine T.F_BadStretch_init.ok sc_BadStretch_init (fun vs H Q E h => ?_) (fun cdv A outer s H vs Q E hr h => ?_)
  · obtain ⟨x, v, rfl, _⟩ := h
    rfl
  · obtain ⟨x, v, rfl, hx, k⟩ := h
    refine ⟨_, (pss_one (ps_ost (pv 0) (pv 1))), ?_⟩
    refine ⟨_, rfl, _, rfl, x, a.c_BadStretch, rfl, T.ox_BadStretch, T.no_BadStretch_at, Or.inl ⟨hx, fun d hd hdx => ?_⟩⟩
    refine k d _ hd hdx upd_same ((upd_ne hdx).trans upd_same) fun b o e hb => ?_
    rw [upd_ne hb, upd_ne (ne_of_none e hd)]
    exact e
theorem x1_made {C : Addr} {f : Str} {v : V} {H : Hp} {Q : XK} (h : ∀ d H', H' d = some (.xd [(f, v)]) → Same H H' → Q (.ref C) (some d) H') :
    [v].length ≤ 1000 ∧ ∀ x, H x = none → spX1 C f (.ref x :: ([v] ++ [])) (upd H x (exo x C none))
      (fun v H2 => v = .non ∧ ∃ (d : Addr) (fs : List (Str × V)), H2 x = some (exo x C (some d)) ∧ H2 d = some (exd d fs) ∧ H d = none ∧ Q (.ref C) (some d) (upd (del H2 x) d (.xd fs))) (fun _ _ _ => False) := by
  refine ⟨by show 1 ≤ 1000; decide, fun x hx => ⟨x, v, rfl, upd_same, fun d H' hd hdx e1 e2 bt => ⟨rfl, d, _, e1, e2, ?_, ?_⟩⟩⟩
  · rw [← hd, upd_ne hdx]
  · refine h d _ upd_same fun b o e => ?_
    have hbx : b ≠ x := ne_of_none e hx
    have hbd : b ≠ d := fun z => by rw [z] at e; rw [upd_ne hdx, e] at hd; cases hd
    rw [upd_ne hbd, del_ne hbx]
    exact bt b o (by rw [upd_ne hbx]; exact e) hbx
/-- C(v, w) is made: what its raising asks -/
theorem x2_made {C : Addr} {f g : Str} {v w : V} {H : Hp} {Q : XK} (h : ∀ d H', H' d = some (.xd [(g, w), (f, v)]) → Same H H' → Q (.ref C) (some d) H') :
    [v, w].length ≤ 1000 ∧ ∀ x, H x = none → spX2 C f g (.ref x :: ([v, w] ++ [])) (upd H x (exo x C none))
      (fun v H2 => v = .non ∧ ∃ (d : Addr) (fs : List (Str × V)), H2 x = some (exo x C (some d)) ∧ H2 d = some (exd d fs) ∧ H d = none ∧ Q (.ref C) (some d) (upd (del H2 x) d (.xd fs))) (fun _ _ _ => False) := by
  refine ⟨by show 2 ≤ 1000; decide, fun x hx => ⟨x, v, w, rfl, upd_same, fun d H' hd hdx e1 e2 bt => ⟨rfl, d, _, e1, e2, ?_, ?_⟩⟩⟩
  · rw [← hd, upd_ne hdx]
  · refine h d _ upd_same fun b o e => ?_
    have hbx : b ≠ x := ne_of_none e hx
    have hbd : b ≠ d := fun z => by rw [z] at e; rw [upd_ne hdx, e] at hd; cases hd
    rw [upd_ne hbd, del_ne hbx]
    exact bt b o (by rw [upd_ne hbx]; exact e) hbx
/-! ### 2. checks -/
def spRange (a : Ad) : Sp := fun vs H Q E => ∃ (s : Str) (v lo hi : Int), vs = [.str s, .int v, .int lo, .int hi] ∧
  ((lo ≤ v ∧ v ≤ hi) → Q .non H) ∧ (¬ (lo ≤ v ∧ v ≤ hi) → ∀ d H', H' d = some (.xd [("value", .int v), ("what", .str s)]) → Same H H' → E (.ref a.c_OutOfRange) (some d) H')
theorem G_in_range (T : Tx K mg a) : FnOk P w K mg base (L2.CX P w) 3 a.f_in_range a.d_in_range ["what", "value", "low", "high"] (spRange a) := by
  refine T.F_in_range.okX sc_in_range (fun vs H Q E h => ?_) (fun cdv A outer s H vs Q E hr h => ?_)
  · obtain ⟨s, v, lo, hi, rfl, _⟩ := h
    rfl
  · obtain ⟨s, v, lo, hi, rfl, k1, k2⟩ := h
    refine ⟨_, (pss_one (ps_if (pt_not (pt_chain op_le op_le (pv 2) (pv 1) (pv 3))) (pss_one (ps_raise rfl (takes_of rfl rfl rfl rfl) (pmk_oex T.ox_OutOfRange T.i_OutOfRange T.t_OutOfRange (G_OutOfRange_init T) (hr.mono (by decide)) T.b_OutOfRange_init .nil pass0 rfl T.g_OutOfRange (pa_cons (pv 0) (pa_cons (pv 1) pa_nil))))) pss_nil)), ?_⟩
    refine ⟨_, rfl, _, rfl, _, _, rfl, rfl, _, rfl, ?_⟩
    by_cases c1 : lo ≤ v
    · rw [decide_eq_true c1]
      refine ⟨_, rfl, _, _, rfl, rfl, _, rfl, ?_⟩
      by_cases c2 : v ≤ hi
      · rw [decide_eq_true c2]
        exact k1 ⟨c1, c2⟩
      · rw [decide_eq_false c2]
        refine ⟨_, rfl, _, rfl, ?_⟩
        exact x2_made (k2 fun z => c2 z.2)
    · rw [decide_eq_false c1]
      refine ⟨_, rfl, ?_⟩
      refine ⟨_, rfl, _, rfl, ?_⟩
      exact x2_made (k2 fun z => c1 z.1)
theorem G_TooMany_init (T : Tx K mg a) : FnOk P w K mg base CX0 1 a.f_TooMany_init a.d_TooMany_init ["self", "what", "many"] (spX2 a.c_TooMany "what" "many") := by
  refine T.F_TooMany_init.ok sc_TooMany_init (fun vs H Q E h => ?_) (fun cdv A outer s H vs Q E hr h => ?_)
  · obtain ⟨x, v, w, rfl, _⟩ := h
    rfl
  · obtain ⟨x, v, w, rfl, hx, k⟩ := h
    refine ⟨_, (pss_one (ps_asg (pe_tup (pa_cons (pv 1) (pa_cons (pv 2) pa_nil))) (pg_tup rfl (pgs_cons (pg_ost (pv 0)) (pgs_cons (pg_ost (pv 0)) pgs_nil))))), ?_⟩
    exact x2_read T.ox_TooMany T.no_TooMany_what T.no_TooMany_many hx k
def Out (a : Ad) (E : XK) (H : Hp) (s : Str) (v : Int) : Prop := ∀ dd H2, H2 dd = some (.xd [("value", .int v), ("what", .str s)]) → Same H H2 → E (.ref a.c_OutOfRange) (some dd) H2
def OutM (a : Ad) (E : XK) (H : Hp) (s : Str) (n : Int) : Prop := ∀ dd H2, H2 dd = some (.xd [("many", .int n), ("what", .str s)]) → Same H H2 → E (.ref a.c_TooMany) (some dd) H2
def OutB (a : Ad) (E : XK) (H : Hp) (i : Int) : Prop := ∀ dd H2, H2 dd = some (.xd [("at", .int i)]) → Same H H2 → E (.ref a.c_BadStretch) (some dd) H2
end
end My

namespace My
open PySem L2
/-! ### 3. rows of stretches -/
/-- a row of pairs: tuples of two whole numbers -/
def Rw (H : Hp) (as : List V) (L : List Iv) : Prop := as.length = L.length ∧ ∀ (i : Nat) (a : Iv), L[i]? = some a → ∃ t : Addr, as[i]? = some (V.ref t) ∧ H t = some (.tup [.int a.1, .int a.2])
theorem Rw.same {H H' : Hp} {as : List V} {L : List Iv} (h : Rw H as L) (s : Same H H') : Rw H' as L := ⟨h.1, fun i a e => let ⟨t, x, y⟩ := h.2 i a e; ⟨t, x, s _ _ y⟩⟩
theorem below_of {L : List Iv} {m : Int} : ∀ {k : Nat}, k ≤ L.length → (∀ (i : Nat) a, i < k → L[i]? = some a → a.1 < m) → (∀ (i : Nat) a, k ≤ i → L[i]? = some a → m ≤ a.1) → below L m = k := by
  intro k hk lo hi
  unfold below
  rw [← List.take_append_drop k L, List.countP_append]
  have e1 : (L.take k).countP (fun a => decide (a.1 < m)) = k := by
    have : (L.take k).countP (fun a => decide (a.1 < m)) = (L.take k).length := List.countP_eq_length.mpr fun a ha => by
      obtain ⟨i, hi', e⟩ := List.mem_iff_getElem?.mp ha |> fun ⟨i, e⟩ => (⟨i, (List.getElem?_eq_some_iff.mp e).1, e⟩ : ∃ i, i < (L.take k).length ∧ (L.take k)[i]? = some a)
      rw [List.length_take] at hi'
      rw [List.getElem?_take, if_pos (by omega)] at e
      exact decide_eq_true (lo i a (by omega) e)
    rw [this, List.length_take]
    omega
  have e2 : (L.drop k).countP (fun a => decide (a.1 < m)) = 0 := List.countP_eq_zero.mpr fun a ha => by
    obtain ⟨i, e⟩ := List.mem_iff_getElem?.mp ha
    rw [List.getElem?_drop] at e
    have := hi (k + i) a (by omega) e
    simp
    omega
  omega
end My

namespace My
open PySem L2
theorem tidy_up {L : List Iv} (h : Tidy L) {i j : Nat} {a b : Iv} (hij : i < j) (ha : L[i]? = some a) (hb : L[j]? = some b) : a.2 < b.1 := by
  obtain ⟨hi, rfl⟩ := List.getElem?_eq_some_iff.mp ha
  obtain ⟨hj, rfl⟩ := List.getElem?_eq_some_iff.mp hb
  exact List.pairwise_iff_getElem.mp h.2 i j hi hj hij
def spBelow (K : PySem.W.Frag) : Sp := fun vs H Q _ => ∃ (t : Addr) (as : List V) (L : List Iv) (m : Int), vs = [.ref t, .int m] ∧ SqT K H t as ∧ Rw H as L ∧ Tidy L ∧ L.length ≤ 1000000 ∧ Q (.int (below L m : Nat)) H
section
variable {P : Program} {w : World} {K : PySem.W.Frag} {mg : Str → Option Value} {base : Heap} {a : Ad}
theorem G_starts_below (T : Tx K mg a) : FnOk P w K mg base CX0 1 a.f_starts_below a.d_starts_below ["pairs", "minute"] (spBelow K) := by
  refine T.F_starts_below.ok sc_starts_below (fun vs H Q E h => ?_) (fun cdv A outer s H vs Q E hr h => ?_)
  · obtain ⟨t, as, L, m, rfl, _⟩ := h
    rfl
  · obtain ⟨t, as, L, m, rfl, ht, hrw, td, hz, k⟩ := h
    refine ⟨_, (pss_cons (ps_set (i := 2) sc_starts_below.nd rfl (Or.inl rfl) pe_int)
      (pss_cons (ps_set (i := 3) sc_starts_below.nd rfl (Or.inl rfl) (pe_callB call_len_seq (by rfl) T.n_len (by decide +kernel) (pa_cons (pv 0) pa_nil)))
      (pss_cons (ps_while PassesOwn.never (pt_cmpR op_lt (pv 2) (pv 3) (nomark _)) (pss_cons (ps_set (i := 4) sc_starts_below.nd rfl (Or.inl rfl) (pe_op op_fdivW (pe_op op_add (pv 2) (pv 3)) pe_int))
      (pss_one (ps_if (pt_cmpR op_lt (pe_ix ix_tup (pe_ix ix_tup (pv 0) (pv 4) (fun _ _ => rfl)) pe_int (fun _ _ => rfl)) (pv 1) (nomark _)) (pss_one (ps_set (i := 2) sc_starts_below.nd rfl (Or.inl rfl) (pe_op op_add (pv 4) pe_int))) (pss_one (ps_set (i := 3) sc_starts_below.nd rfl (Or.inl rfl) (pv 4)))))))
      (pss_one (ps_ret (pv 2)))))), ?_⟩
    have la := hrw.1
    refine st_let val_c ?_
    refine st_let (v := .int (L.length : Nat)) (v_cb (val_var (i := 0) rfl) fun Q q => ⟨t, as, rfl, Or.inr ht, by rw [la]; exact q⟩) ?_
    refine st_seq ?_
    refine st_whileb (fun σ H' => ∃ (lo hi : Nat) (v4 : Option V), σ = [some (.ref t), some (.int m), some (.int (lo : Nat)), some (.int (hi : Nat)), v4] ∧ H' = H ∧ lo ≤ hi ∧ hi ≤ L.length ∧ (∀ (i : Nat) a, i < lo → L[i]? = some a → a.1 < m) ∧ ∀ (i : Nat) a, hi ≤ i → L[i]? = some a → m ≤ a.1)
      (fun σ _ => match σ with | [_, _, some (.int lo), some (.int hi), _] => (hi - lo).toNat | _ => 0) ⟨0, L.length, none, rfl, rfl, Nat.zero_le _, Nat.le_refl _, fun i a z => absurd z (Nat.not_lt_zero _), fun i a z e => by have := (List.getElem?_eq_some_iff.mp e).1; omega⟩ ?_
    rintro σ H' ⟨lo, hi, v4, rfl, rfl, h1, h2, low, high⟩
    refine ⟨_, a_cmp (f := fun i j => decide (i < j)) (val_var (i := 2) rfl) (val_var (i := 3) rfl), fun c => ?_, fun c => ?_⟩
    · have c : (lo : Int) < hi := of_decide_eq_true c
      have c' : lo < hi := by omega
      have hm : (lo + hi) / 2 < L.length := by omega
      obtain ⟨x, hx⟩ : ∃ x, L[(lo + hi) / 2]? = some x := ⟨_, List.getElem?_eq_getElem hm⟩
      obtain ⟨u, w1, w2⟩ := hrw.2 _ x hx
      refine st_let (v := .int (((lo + hi) / 2 : Nat) : Int)) ?_ ?_
      · have e : (((lo + hi) / 2 : Nat) : Int) = ((lo : Int) + hi) / 2 := by omega
        rw [e]
        exact v_rI (g := fun i j => .int (i / j)) (v_rI0 (g := fun i j => .int (i + j)) (val_var (i := 2) rfl) (val_var (i := 3) rfl)) val_c (wide_div (b := 40) (by omega) (by omega) (by decide) (by decide))
      refine st_ifp (q := x.1 < m) (a_cmp (f := fun i j => decide (i < j)) (v_ixT (v_ixT (p := t) (val_var (i := 0) rfl) (val_var (i := 4) (v := .int (((lo + hi) / 2 : Nat) : Int)) rfl) ht (at_of (j := (lo + hi) / 2) rfl w1)) val_c (SqT.of w2) (show atI [V.int x.1, .int x.2] 0 = some (V.int x.1) from rfl)) (val_var (i := 1) rfl)) (by simp) (fun z => ?_) fun z => ?_
      · refine ⟨_, rfl, _, _, rfl, rfl, ?_⟩
        refine ⟨⟨(lo + hi) / 2 + 1, hi, _, rfl, rfl, by omega, h2, fun i b hi' e => ?_, high⟩, by show ((hi : Int) - ((((lo + hi) / 2 : Nat) : Int) + 1)).toNat < ((hi : Int) - lo).toNat; omega⟩
        by_cases y : i = (lo + hi) / 2
        · subst y
          rw [hx] at e
          cases e
          exact z
        · have := tidy_up td (show i < (lo + hi) / 2 by omega) e hx
          have := td.1 b (List.mem_of_getElem? e)
          omega
      · refine ⟨_, rfl, ?_⟩
        refine ⟨⟨lo, (lo + hi) / 2, _, rfl, rfl, by omega, by omega, low, fun i b hi' e => ?_⟩, by show ((((lo + hi) / 2 : Nat) : Int) - lo).toNat < ((hi : Int) - lo).toNat; omega⟩
        by_cases y : i = (lo + hi) / 2
        · subst y
          rw [hx] at e
          cases e
          omega
        · have := tidy_up td (show (lo + hi) / 2 < i by omega) hx e
          have := td.1 x (List.mem_of_getElem? hx)
          omega
    · have c : ¬ (lo : Int) < hi := of_decide_eq_false c
      have e : below L m = lo := below_of (by omega) low (fun i a z => high i a (by omega))
      refine ⟨_, rfl, ?_⟩
      rw [← e]
      exact k
end
end My

namespace L2
open PySem PySem.Spec PyProof.Rows
section
variable {K : PySem.W.Frag} {a : Addr} {xs : List V} {g : TG} {tt : TT} {te : TE} {vs : List Nat} {σ : St} {H1 : Hp} {Q : VK}
/-- a comprehension over a list or a tuple, any target -/
theorem comp_gA {tl : TE} (Pv : Addr → Nat → Hp → Prop) (hl : ∀ R : V → Hp → Prop, R (.ref a) H1 → tl σ H1 R) (hp : SqA K H1 a xs) (h0 : ∀ D, H1 D = none → Pv D 0 (upd H1 D (.lst []))) (hk : ∀ D i H, Pv D i H → Same H1 H)
    (hs : ∀ D (i : Nat) x H, H1 D = none → xs[i]? = some x → Pv D i H → g x (wipe σ vs) H fun σ2 H2 => wipe σ2 vs = wipe σ vs ∧ tt σ2 H2 fun b H3 => if b = true then te σ2 H3 fun y H4 => ∃ acc, H4 D = some (.lst acc) ∧ acc.length < sizeLine ∧ Pv D (i + 1) (upd H4 D (.lst (acc ++ [y]))) else Pv D (i + 1) H3)
    (hd : ∀ D H, H1 D = none → Pv D xs.length H → Q (.ref D) H) : tLc (fun σ H R => iList K tl σ H R ∨ iTup K tl σ H R) g tt te vs σ H1 Q := by
  rcases hp with hp | hp
  · exact Or.inl (hl _ ⟨a, rfl, ⟨_, hp⟩, fun D hD => lc_list (xs := xs) (Pv D) (h0 D hD) (fun i H _ p => (hk D i H p).seq hp) (fun i x H hx p => hs D i x H hD hx p) fun H p => hd D H hD p⟩)
  · exact Or.inr (hl _ ⟨a, rfl, ⟨_, hp⟩, fun D hD => lc_tup (xs := xs) (Pv D) (h0 D hD) (fun i H _ p => (hk D i H p).sqT hp) (fun i x H hx p => hs D i x H hD hx p) fun H p => hd D H hD p⟩)
end
end L2
namespace My
open PySem L2
/-- a row of pairs as handed: each a tuple or a list -/
def RwA (K : PySem.W.Frag) (H : Hp) (as : List V) (L : List Iv) : Prop := as.length = L.length ∧ ∀ (i : Nat) (a : Iv), L[i]? = some a → ∃ t : Addr, as[i]? = some (V.ref t) ∧ SqA K H t [.int a.1, .int a.2]
theorem RwA.same {K : PySem.W.Frag} {H H' : Hp} {as : List V} {L : List Iv} (h : RwA K H as L) (s : Same H H') : RwA K H' as L := ⟨h.1, fun i a e => let ⟨t, x, y⟩ := h.2 i a e; ⟨t, x, s.sqA y⟩⟩
theorem Rw.toA {K : PySem.W.Frag} {H : Hp} {as : List V} {L : List Iv} (h : Rw H as L) : RwA K H as L := ⟨h.1, fun i a e => let ⟨t, x, y⟩ := h.2 i a e; ⟨t, x, Or.inr (SqT.of y)⟩⟩
end My

namespace L2
open PySem PySem.Spec PyProof.Rows
/-- a for over what an expression makes -/
theorem st_forX {K : PySem.W.Frag} {te : TE} {g : TG} {tb : TS} {D : Ends} {σ : St} {H : Hp} (h : te σ H fun v H1 => tFor (iList K (tC v)) g tb D σ H1) : tFor (iList K te) g tb D σ H := h
end L2
namespace My
open PySem L2
/-- a pair read off the heap -/
def kP (H : Hp) (x : V) : Int × Int := match x with
  | .ref t => match H t with
    | some (.tup [.int i, .int j]) => (i, j)
    | _ => (0, 0)
  | _ => (0, 0)
theorem kP_of {H : Hp} {t : Addr} {a : Iv} (h : H t = some (.tup [.int a.1, .int a.2])) : kP H (.ref t) = a := by
  show (match H t with
    | some (.tup [.int i, .int j]) => (i, j)
    | _ => ((0, 0) : Int × Int)) = a
  rw [h]
theorem rw_map {H : Hp} {as : List V} {L : List Iv} (h : Rw H as L) : as.map (kP H) = L := by
  refine List.ext_getElem? fun i => ?_
  rw [List.getElem?_map]
  by_cases c : i < L.length
  · obtain ⟨t, x, y⟩ := h.2 i _ (List.getElem?_eq_getElem c)
    rw [x, List.getElem?_eq_getElem c]
    show some (kP H (.ref t)) = _
    rw [kP_of y]
  · rw [List.getElem?_eq_none (by rw [h.1]; omega), List.getElem?_eq_none (by omega)]
    rfl
theorem rw_of {H : Hp} : ∀ {as : List V}, (∀ x ∈ as, ∃ t : Addr, x = V.ref t ∧ H t = some (.tup [.int (kP H x).1, .int (kP H x).2])) → Rw H as (as.map (kP H)) := fun {as} h => ⟨by simp, fun i a e => by
  rw [List.getElem?_map] at e
  obtain ⟨x, hx, rfl⟩ := Option.map_eq_some_iff.mp e
  obtain ⟨t, rfl, ht⟩ := h x (List.mem_of_getElem? hx)
  exact ⟨t, hx, ht⟩⟩
theorem Rw.items {H : Hp} {as : List V} {L : List Iv} (h : Rw H as L) : ∀ x ∈ as, ∃ t : Addr, x = V.ref t ∧ H t = some (.tup [.int (kP H x).1, .int (kP H x).2]) := fun x hx => by
  obtain ⟨i, hi⟩ := List.mem_iff_getElem?.mp hx
  have c : i < L.length := by rw [← h.1]; exact (List.getElem?_eq_some_iff.mp hi).1
  obtain ⟨t, y, z⟩ := h.2 i _ (List.getElem?_eq_getElem c)
  rw [hi] at y
  cases y
  exact ⟨t, rfl, by rw [kP_of z]; exact z⟩
theorem Rw.snoc {H : Hp} {as : List V} {L : List Iv} {t : Addr} {a : Iv} (h : Rw H as L) (ht : H t = some (.tup [.int a.1, .int a.2])) : Rw H (as ++ [.ref t]) (L ++ [a]) := by
  refine ⟨by simp [h.1], fun i b e => ?_⟩
  by_cases c : i < L.length
  · rw [List.getElem?_append_left c] at e
    obtain ⟨u, x, y⟩ := h.2 i b e
    exact ⟨u, by rw [List.getElem?_append_left (by rw [h.1]; exact c)]; exact x, y⟩
  · have : i = L.length := by
      have := (List.getElem?_eq_some_iff.mp e).1
      simp at this
      omega
    subst this
    rw [List.getElem?_append_right (Nat.le_refl _), Nat.sub_self] at e
    cases e
    exact ⟨t, by rw [← h.1, List.getElem?_append_right (Nat.le_refl _), Nat.sub_self]; rfl, ht⟩
/-- the last pair of a row -/
theorem Rw.last {H : Hp} {as : List V} {R : List Iv} {z : Iv} (h : Rw H as (R ++ [z])) : ∃ bs u, as = bs ++ [.ref u] ∧ Rw H bs R ∧ H u = some (.tup [.int z.1, .int z.2]) := by
  have l := h.1
  rw [List.length_append, List.length_singleton] at l
  obtain ⟨u, x, y⟩ := h.2 R.length z (by rw [List.getElem?_append_right (Nat.le_refl _), Nat.sub_self]; rfl)
  refine ⟨as.take R.length, u, List.ext_getElem? fun i => ?_, ⟨by rw [List.length_take]; omega, fun i b e => ?_⟩, y⟩
  · by_cases c : i < R.length
    · rw [List.getElem?_append_left (by rw [List.length_take]; omega), List.getElem?_take, if_pos c]
    · rw [List.getElem?_append_right (by rw [List.length_take]; omega)]
      have e : (as.take R.length).length = R.length := by rw [List.length_take]; omega
      rw [e]
      by_cases c2 : i = R.length
      · rw [c2, x, Nat.sub_self]
        rfl
      · rw [List.getElem?_eq_none (by omega), List.getElem?_eq_none (by simp; omega)]
  · have c := (List.getElem?_eq_some_iff.mp e).1
    obtain ⟨v, x', y'⟩ := h.2 i b (by rw [List.getElem?_append_left c]; exact e)
    exact ⟨v, by rw [List.getElem?_take, if_pos c]; exact x', y'⟩
/-- put in order of the starts -/
def Srted (M : List Iv) : Prop := M.Pairwise fun a b => a.1 ≤ b.1
theorem srted_of {ys : List V} {k : V → Int × Int} (h : SrtO.Srtd (ltP k) ys) : Srted (ys.map k) := by
  refine List.pairwise_map.mpr (List.Pairwise.imp (fun {x y} z => ?_) h)
  have := SrtO.lexB_no.mp z
  omega
theorem atI_last {bs : List V} {v : V} : atI (bs ++ [v]) (-1) = some v := by
  have e : ixN (bs ++ [v]).length (-1) = some bs.length := by
    unfold ixN
    rw [if_neg (by decide), if_pos (by rw [List.length_append, List.length_singleton]; omega), List.length_append, List.length_singleton]
    exact congrArg some (by omega)
  unfold atI
  rw [e]
  show (bs ++ [v])[bs.length]? = some v
  rw [List.getElem?_append_right (Nat.le_refl _), Nat.sub_self]
  rfl
theorem ixN_last {bs : List V} {v : V} : ixN (bs ++ [v]).length (-1) = some bs.length := by
  unfold ixN
  rw [if_neg (by decide), if_pos (by rw [List.length_append, List.length_singleton]; omega), List.length_append, List.length_singleton]
  exact congrArg some (by omega)
theorem set_last {bs : List V} {v w : V} : (bs ++ [v]).set bs.length w = bs ++ [w] := by simp
theorem tStep_len (T : List Iv) (a : Iv) : (tStep T a).length ≤ T.length + 1 := by
  rcases T with _ | ⟨⟨s, e⟩, r⟩
  · simp [tStep]
  · show (if e < a.1 then a :: (s, e) :: r else if e < a.2 then (s, a.2) :: r else (s, e) :: r : List Iv).length ≤ _
    split
    · simp
    · split <;> simp
/-- a row stays where its list is no pair -/
theorem Rw.upd {H : Hp} {as xs ys : List V} {L : List Iv} {D : Addr} (h : Rw H as L) (e : H D = some (.lst xs)) : Rw (upd H D (.lst ys)) as L := ⟨h.1, fun i a z => let ⟨t, x, y⟩ := h.2 i a z; ⟨t, x, (upd_ne (ne_of y e (by intro z; cases z))).trans y⟩⟩
def spTidy (K : PySem.W.Frag) : Sp := fun vs H Q _ => ∃ (m : Addr) (as : List V) (L : List Iv), vs = [.ref m] ∧ SqA K H m as ∧ RwA K H as L ∧ L.length ≤ 100000 ∧ ∀ (t : Addr) (bs : List V) (M : List Iv) H', H' t = some (.tup bs) → Rw H' bs M → Tidy M → (∀ u, inL M u = true ↔ inL L u = true) → M.length ≤ L.length → Same H H' → Q (.ref t) H'
section
variable {P : Program} {w : World} {K : PySem.W.Frag} {mg : Str → Option Value} {base : Heap} {a : Ad}
theorem G_tidy (T : Tx K mg a) : FnOk P w K mg base CX0 1 a.f_tidy a.d_tidy ["pairs"] (spTidy K) := by
  refine T.F_tidy.ok sc_tidy (fun vs H Q E h => ?_) (fun cdv A outer s H vs Q E hr h => ?_)
  · obtain ⟨m, as, L, rfl, _⟩ := h
    rfl
  · obtain ⟨m, as, L, rfl, hm, hrw, hz, k⟩ := h
    refine ⟨_, (pss_cons (ps_set (i := 1) sc_tidy.nd rfl (Or.inl rfl) (pe_lst pa_nil))
      (pss_cons (ps_for PassesOwn.never rfl (pi_list (pe_callB cr_sortedPO (by rfl) T.n_sorted (by decide +kernel) (pa_cons (pe_lc (own := [("start", 2), ("end", 3)]) (g := fun v σ H Q => gTup K 2 (gCons (gName 2) (gCons (gName 3) gNil)) v σ H Q ∨ gLst K 2 (gCons (gName 2) (gCons (gName 3) gNil)) v σ H Q) (tt := _) rfl sc_tidy.nd (pi_seq (pv 0)) (blkOk_by (own := [("start", 2), ("end", 3)]) (N := ["pairs", "told", "start", "end"]) (sc := defScope s_tidy) (by decide +kernel)) (fun _ _ _ _ _ => (pg_alt (pg_tup rfl (pgs_cons (pg_name (i := 2) sc_tidy.nd rfl (Or.inl rfl)) (pgs_cons (pg_name (i := 3) sc_tidy.nd rfl (Or.inl rfl)) pgs_nil))) (pg_lst rfl (pgs_cons (pg_name (i := 2) sc_tidy.nd rfl (Or.inl rfl)) (pgs_cons (pg_name (i := 3) sc_tidy.nd rfl (Or.inl rfl)) pgs_nil))))) (fun _ _ _ _ _ => (pts_one (pt_cmpR op_lt (pv 2) (pv 3) (nomark _)))) (fun _ _ _ _ _ => (pe_tup (pa_cons (pv 2) (pa_cons (pv 3) pa_nil))))) pa_nil))) (pg_alt (pg_tup rfl (pgs_cons (pg_name (i := 2) sc_tidy.nd rfl (Or.inl rfl)) (pgs_cons (pg_name (i := 3) sc_tidy.nd rfl (Or.inl rfl)) pgs_nil))) (pg_lst rfl (pgs_cons (pg_name (i := 2) sc_tidy.nd rfl (Or.inl rfl)) (pgs_cons (pg_name (i := 3) sc_tidy.nd rfl (Or.inl rfl)) pgs_nil)))) (pss_one (ps_if (PW.pt (pw_or (pt_not (pt_truth (pv 1) (by intro _; rfl))) (pw_or1 (pt_cmpR op_lt (pe_ix ix_tup (pe_ix ix_list (pv 1) (pe_un un_neg pe_int) (fun _ _ => rfl)) pe_int (fun _ _ => rfl)) (pv 2) (nomark _))))) (pss_one (ps_expr (pe_bm PySem.F.plainAttrs_list PySem.F.slot_list_append PySem.F.type_list_append mt_append (pv 1) (pa_cons (pe_tup (pa_cons (pv 2) (pa_cons (pv 3) pa_nil))) pa_nil)))) (pss_one (ps_if (pt_cmpR op_lt (pe_ix ix_tup (pe_ix ix_list (pv 1) (pe_un un_neg pe_int) (fun _ _ => rfl)) pe_int (fun _ _ => rfl)) (pv 3) (nomark _)) (pss_one (ps_asg (pe_tup (pa_cons (pe_ix ix_tup (pe_ix ix_list (pv 1) (pe_un un_neg pe_int) (fun _ _ => rfl)) pe_int (fun _ _ => rfl)) (pa_cons (pv 3) pa_nil))) (pg_sub (pv 1) (pe_un un_neg pe_int) set_list))) pss_nil)))))
      (pss_one (ps_ret (pe_callTy call_tuple_of (by rfl) T.n_tuple (by decide +kernel) (pa_cons (pv 1) pa_nil)))))), ?_⟩
    have la := hrw.1
    refine st_letX ⟨by show 0 ≤ sizeLine; decide, fun tl htl => ?_⟩
    have s1 := Same.new (o := .lst []) htl
    have e1 : upd H tl (.lst []) tl = some (.lst []) := upd_same
    generalize upd H tl (.lst []) = H1 at s1 e1
    refine st_seq (st_forX (v_cb1 ?_))
    refine comp_gA (a := m) (xs := as) (fun D i H' => ∃ bs, H' D = some (.lst bs) ∧ Rw H' bs ((L.take i).filter fun a => decide (a.1 < a.2)) ∧ Same H1 H') (fun R q => ⟨_, rfl, q⟩) (s1.sqA hm) (fun D hD => ⟨[], upd_same, ⟨by simp, fun i q e => by simp at e⟩, Same.new hD⟩) (fun D i H' ⟨_, _, _, s⟩ => s) (fun D i x H' hD hx ⟨bs, e2, rw2, s2⟩ => ?_) fun D H2 hD ⟨bs, e2, rw2, s2⟩ => ?_
    · have hi : i < L.length := by rw [← la]; exact (List.getElem?_eq_some_iff.mp hx).1
      obtain ⟨t, w1, w2⟩ := (hrw.same (s1.trans s2)).2 i _ (List.getElem?_eq_getElem hi)
      rw [hx] at w1
      cases w1
      have et : L.take (i + 1) = L.take i ++ [L[i]] := take_snoc (List.getElem?_eq_getElem hi)
      have lb : bs.length ≤ i := by
        rw [rw2.1]
        exact Nat.le_trans (List.length_filter_le _ _) (by rw [List.length_take]; omega)
      have put : ∀ (u : Addr), H' u = none → L[i].1 < L[i].2 → Rw (upd (upd H' u (.tup [.int L[i].1, .int L[i].2])) D (.lst (bs ++ [.ref u]))) (bs ++ [.ref u]) ((L.take (i + 1)).filter fun a => decide (a.1 < a.2)) ∧ Same H1 (upd (upd H' u (.tup [.int L[i].1, .int L[i].2])) D (.lst (bs ++ [.ref u]))) := fun u hu c => by
        have su := Same.new (o := .tup [.int L[i].1, .int L[i].2]) hu
        have r := (rw2.same su).snoc (a := L[i]) (t := u) upd_same
        rw [et, List.filter_append, show [L[i]].filter (fun a => decide (a.1 < a.2)) = [L[i]] by simp [c]]
        refine ⟨⟨r.1, fun j a e => ?_⟩, fun b o e => by
          rw [upd_ne (ne_of_none e hD)]
          exact su _ _ (s2 _ _ e)⟩
        obtain ⟨v, x, y⟩ := r.2 j a e
        exact ⟨v, x, (upd_ne (ne_of y (su _ _ e2) (by intro z; cases z))).trans y⟩
      have skip : ¬ L[i].1 < L[i].2 → Rw H' bs ((L.take (i + 1)).filter fun a => decide (a.1 < a.2)) := fun c => by
        rw [et, List.filter_append, show [L[i]].filter (fun a => decide (a.1 < a.2)) = [] by simp [c], List.append_nil]
        exact rw2
      rcases w2 with w2 | w2
      · refine Or.inr ⟨t, _, rfl, w2, rfl, _, _, rfl, _, _, rfl, rfl, rfl, ?_⟩
        refine ⟨_, rfl, _, rfl, _, _, rfl, rfl, _, rfl, ?_⟩
        by_cases c : L[i].1 < L[i].2
        · rw [decide_eq_true c]
          exact iteT ⟨_, rfl, _, rfl, by show 2 ≤ sizeLine; decide, fun u hu => ⟨bs, Same.new hu _ _ e2, Nat.lt_of_le_of_lt lb (Nat.lt_of_lt_of_le hi (Nat.le_trans hz (by decide))), bs ++ [.ref u], upd_same, put u hu c⟩⟩
        · rw [decide_eq_false c]
          exact iteF ⟨bs, e2, skip c, s2⟩
      · refine Or.inl ⟨t, _, rfl, w2, rfl, _, _, rfl, _, _, rfl, rfl, rfl, ?_⟩
        refine ⟨_, rfl, _, rfl, _, _, rfl, rfl, _, rfl, ?_⟩
        by_cases c : L[i].1 < L[i].2
        · rw [decide_eq_true c]
          exact iteT ⟨_, rfl, _, rfl, by show 2 ≤ sizeLine; decide, fun u hu => ⟨bs, Same.new hu _ _ e2, Nat.lt_of_le_of_lt lb (Nat.lt_of_lt_of_le hi (Nat.le_trans hz (by decide))), bs ++ [.ref u], upd_same, put u hu c⟩⟩
        · rw [decide_eq_false c]
          exact iteF ⟨bs, e2, skip c, s2⟩
    · rw [la, List.take_length] at rw2
      refine ⟨D, bs, kP H2, rfl, SqL.of e2, rw2.items, fun ys p srt stb hp => ?_⟩
      have srt1 : Srted (ys.map (kP H2)) := srted_of srt
      have rwy : Rw H2 ys (ys.map (kP H2)) := rw_of fun x hx => rw2.items x (stb.perm.mem_iff.mp hx)
      have eb : bs.map (kP H2) = L.filter fun a => decide (a.1 < a.2) := rw_map rw2
      have mm : ∀ c, c ∈ ys.map (kP H2) ↔ c ∈ L ∧ c.1 < c.2 := fun c => by
        rw [(stb.perm.map (kP H2)).mem_iff, eb]
        simp
      have ml : (ys.map (kP H2)).length ≤ L.length := by
        rw [(stb.perm.map (kP H2)).length_eq, eb]
        exact List.length_filter_le _ _
      have s3 := Same.new (o := .lst ys) hp
      have ntl : tl ≠ p := fun z => by rw [← z] at hp; rw [s2 _ _ e1] at hp; cases hp
      have rwy3 := rwy.same s3
      have etl := s3 _ _ (s2 _ _ e1)
      have s03 : Same H (upd H2 p (.lst ys)) := s1.trans (s2.trans s3)
      have ep : upd H2 p (.lst ys) p = some (.lst ys) := upd_same
      generalize upd H2 p (.lst ys) = H3 at rwy3 etl s03 ep ⊢
      clear rw2 s2 rwy hp s3
      generalize ys.map (kP H2) = M at srt1 mm ml rwy3
      have ly := rwy3.1
      refine st_forL (a := p) (xs := ys) (tl := tC (.ref p)) (fun R q => q) (fun i σ H' => ∃ v2 v3 cs, σ = [some (.ref m), some (.ref tl), v2, v3] ∧ H' tl = some (.lst cs) ∧ Rw H' cs ((M.take i).foldl tStep []).reverse ∧ cs.length ≤ i ∧ Rw H' ys M ∧ H' p = some (.lst ys) ∧ Same H H') ⟨none, none, [], rfl, etl, ⟨by simp, fun i q e => by simp at e⟩, Nat.le_refl _, rwy3, ep, s03⟩ (fun i σ H' _ ⟨_, _, _, _, _, _, _, _, q, _⟩ => SqL.of q) ?_ ?_
      · rintro i x σ H' hx ⟨v2, v3, cs, rfl, q1, q2, q3, q4, q5, q6⟩
        have hi : i < M.length := by rw [← ly]; exact (List.getElem?_eq_some_iff.mp hx).1
        have hM := List.getElem?_eq_getElem hi
        obtain ⟨t, w1, w2⟩ := q4.2 i _ hM
        rw [hx] at w1
        cases w1
        have ef : (M.take (i + 1)).foldl tStep [] = tStep ((M.take i).foldl tStep []) M[i] := by
          rw [take_snoc hM, List.foldl_append]
          rfl
        refine Or.inl ⟨t, _, rfl, SqT.of w2, rfl, _, _, rfl, _, _, rfl, rfl, ?_⟩
        have app : ∀ (u : Addr), H' u = none → tStep ((M.take i).foldl tStep []) M[i] = M[i] :: (M.take i).foldl tStep [] → ∃ v2 v3 cs', [some (V.ref m), some (.ref tl), some (.int M[i].1), some (.int M[i].2)] = [some (V.ref m), some (.ref tl), v2, v3] ∧ upd (upd H' u (.tup [.int M[i].1, .int M[i].2])) tl (.lst (cs ++ [.ref u])) tl = some (.lst cs') ∧ Rw (upd (upd H' u (.tup [.int M[i].1, .int M[i].2])) tl (.lst (cs ++ [.ref u]))) cs' ((M.take (i + 1)).foldl tStep []).reverse ∧ cs'.length ≤ i + 1 ∧ Rw (upd (upd H' u (.tup [.int M[i].1, .int M[i].2])) tl (.lst (cs ++ [.ref u]))) ys M ∧ upd (upd H' u (.tup [.int M[i].1, .int M[i].2])) tl (.lst (cs ++ [.ref u])) p = some (.lst ys) ∧ Same H (upd (upd H' u (.tup [.int M[i].1, .int M[i].2])) tl (.lst (cs ++ [.ref u]))) := fun u hu es => by
          have su := Same.new (o := .tup [.int M[i].1, .int M[i].2]) hu
          refine ⟨_, _, _, rfl, upd_same, ?_, by simp; omega, (q4.same su).upd (su _ _ q1), (upd_ne ntl.symm).trans (su _ _ q5), fun b o e => ?_⟩
          · rw [ef, es, List.reverse_cons]
            exact ((q2.same su).snoc (a := M[i]) upd_same).upd (su _ _ q1)
          · rw [upd_ne (ne_of_none e htl)]
            exact su _ _ (q6 _ _ e)
        rcases hT : (M.take i).foldl tStep [] with _ | ⟨z, r⟩
        · rw [hT] at q2 app
          obtain rfl : cs = [] := List.length_eq_zero_iff.mp q2.1
          refine st_ifb (b := true) (a_or (b := true) (c := true) (ans_not (b := false) (ans_tru (val_var (i := 1) rfl) (Or.inl ⟨[], SqL.of q1, rfl⟩))) (fun z => nomatch z)) (fun _ => ?_) fun z => nomatch z
          refine ⟨_, rfl, tyL q1, _, rfl, _, rfl, by show 2 ≤ sizeLine; decide, fun u hu => ⟨tl, [], .ref u, rfl, rfl, Same.new hu _ _ q1, (by show 0 < sizeLine; decide), app u hu rfl⟩⟩
        · rw [hT, List.reverse_cons] at q2
          rw [hT] at app
          obtain ⟨cs0, u0, rfl, q21, q22⟩ := q2.last
          have rd : ∀ {σ : St}, σ[1]? = some (some (V.ref tl)) → Val (tOp (rIxL K) (tVar 1) (tUn (rU fun i => V.int (-i)) (tC (V.int 1)))) σ H' (.ref u0) := fun {σ} e => v_ixL (val_var (i := 1) e) (v_un (g := fun i => V.int (-i)) val_c) (SqL.of q1) atI_last
          have c1 : TruV K (.ref tl) H' true := Or.inl ⟨_, SqL.of q1, by cases cs0 <;> rfl⟩
          refine st_ifp (q := z.2 < M[i].1) (a_or (ans_not (ans_tru (val_var (i := 1) rfl) c1)) (fun _ => a_cmp (f := fun i j => decide (i < j)) (v_ixT (rd rfl) val_c (SqT.of q22) (show atI [V.int z.1, .int z.2] 1 = some (V.int z.2) from rfl)) (val_var (i := 2) rfl))) (by simp) (fun c => ?_) fun c => ?_
          · refine ⟨_, rfl, tyL q1, _, rfl, _, rfl, by show 2 ≤ sizeLine; decide, fun u hu => ⟨tl, _, .ref u, rfl, rfl, Same.new hu _ _ q1, (Nat.lt_of_le_of_lt q3 (Nat.lt_of_lt_of_le hi (Nat.le_trans ml (Nat.le_trans hz (by decide))))), app u hu ?_⟩⟩
            show (if z.2 < M[i].1 then _ else _) = _
            rw [if_pos c]
          · refine st_ifp (q := z.2 < M[i].2) (a_cmp (f := fun i j => decide (i < j)) (v_ixT (rd rfl) val_c (SqT.of q22) (show atI [V.int z.1, .int z.2] 1 = some (V.int z.2) from rfl)) (val_var (i := 3) rfl)) (by simp) (fun c2 => ?_) fun c2 => ?_
            · refine v_ixT (rd rfl) val_c (SqT.of q22) (show atI [V.int z.1, .int z.2] 0 = some (V.int z.1) from rfl) _ ⟨_, rfl, by show 2 ≤ sizeLine; decide, fun u hu => ?_⟩
              have su := Same.new (o := .tup [.int z.1, .int M[i].2]) hu
              refine ⟨_, rfl, _, rfl, tl, _, -1, cs0.length, rfl, rfl, su _ _ q1, ixN_last, ?_⟩
              rw [set_last]
              refine ⟨_, _, _, rfl, upd_same, ?_, by rw [List.length_append, List.length_singleton] at q3 ⊢; omega, (q4.same su).upd (su _ _ q1), (upd_ne ntl.symm).trans (su _ _ q5), fun b o e => ?_⟩
              · have es : tStep (z :: r) M[i] = (z.1, M[i].2) :: r := by
                  show (if z.2 < M[i].1 then _ else if z.2 < M[i].2 then _ else _) = _
                  rw [if_neg c, if_pos c2]
                rw [ef, hT, es, List.reverse_cons]
                exact ((q21.same su).snoc (a := (z.1, M[i].2)) upd_same).upd (su _ _ q1)
              · rw [upd_ne (ne_of_none e htl)]
                exact su _ _ (q6 _ _ e)
            · refine ⟨_, _, _, rfl, q1, ?_, Nat.le_succ_of_le q3, q4, q5, q6⟩
              have es : tStep (z :: r) M[i] = z :: r := by
                show (if z.2 < M[i].1 then _ else if z.2 < M[i].2 then _ else _) = _
                rw [if_neg c, if_neg c2]
              rw [ef, hT, es, List.reverse_cons]
              exact q21.snoc q22
      · rintro σ H' ⟨v2, v3, cs, rfl, q1, q2, q3, q4, q5, q6⟩
        dsimp only
        rw [ly, List.take_length] at q2
        obtain ⟨f1, f2⟩ := tidy_fold M [] ⟨fun a h => (nomatch h), .nil⟩ (fun c hc => ((mm c).mp hc).2) srt1 fun b hb => nomatch hb
        refine st_ret1 ⟨_, rfl, tl, cs, rfl, Or.inl ⟨SqL.of q1, fun t ht => ?_⟩⟩
        have su := Same.new (o := .tup cs) ht
        refine k t cs _ _ upd_same (q2.same su) f1.rev (fun u => ?_) (by rw [← q2.1]; omega) (q6.trans su)
        rw [inL_reverse, f2 u, inL_iff (L := M), inL_iff (L := L)]
        constructor
        · rintro (z | ⟨c, hc, z⟩)
          · nomatch z
          · exact ⟨c, ((mm c).mp hc).1, z⟩
        · rintro ⟨c, hc, z⟩
          exact Or.inr ⟨c, (mm c).mpr ⟨hc, by omega⟩, z⟩
end
end My

namespace L2
open PySem PySem.Spec PyProof.Rows
section
variable {K : PySem.W.Frag} {H : Hp} {a : Addr} {xs : List V} {lo hi : Option Int} {Q : VK}
theorem cutV_whole (w : HT.sIx xs.length 0 lo = 0 ∧ HT.sIx xs.length xs.length hi = xs.length) : cutV xs lo hi = xs := by
  unfold cutV
  rw [w.1, w.2]
  simp
/-- a tuple's slice: some tuple of these items, nothing else is new to see -/
theorem slA (h : SqT K H a xs) (q : ∀ p H', SqT K H' p (cutV xs lo hi) → Same H H' → Q (.ref p) H') : rSlA K (.ref a) lo hi H Q :=
  ⟨a, xs, rfl, h, fun w => q a H (by rw [cutV_whole w]; exact h) (fun _ _ e => e), fun _ p hp => q p _ (SqT.of upd_same) (Same.new hp)⟩
theorem v_max {ta tb : TE} {σ : St} {H : Hp} {i j : Int} (ha : Val ta σ H (.int i)) (hb : Val tb σ H (.int j)) : Val (tCB (fun xs H Q => ∃ i j, xs = [V.int i, V.int j] ∧ Q (V.int (if j > i then j else i)) H) (tCons ta (tCons tb tNil))) σ H (.int (max i j)) := fun Q q => ha _ (hb _ ⟨i, j, rfl, by
  have e : (if j > i then j else i) = max i j := by split <;> omega
  rw [e]; exact q⟩)
theorem v_min {ta tb : TE} {σ : St} {H : Hp} {i j : Int} (ha : Val ta σ H (.int i)) (hb : Val tb σ H (.int j)) : Val (tCB (fun xs H Q => ∃ i j, xs = [V.int i, V.int j] ∧ Q (V.int (if j < i then j else i)) H) (tCons ta (tCons tb tNil))) σ H (.int (min i j)) := fun Q q => ha _ (hb _ ⟨i, j, rfl, by
  have e : (if j < i then j else i) = min i j := by split <;> omega
  rw [e]; exact q⟩)
end
section
variable {K : PySem.W.Frag} {ta tb tl ti : TE} {t3 : TS} {D : Ends} {σ : St} {H : Hp} {x y : V} {l : Addr} {xs : List V} {i : Int} {j : Nat}
/-- l[i] = (x, y), a new pair -/
theorem st_putPair (ha : Val ta σ H x) (hb : Val tb σ H y) (hl : ∀ H', Val tl σ H' (.ref l)) (hi : ∀ H', Val ti σ H' (.int i)) (e : H l = some (.lst xs)) (hj : ixN xs.length i = some j)
    (q : ∀ u, H u = none → D.nx σ (upd (upd H u (.tup [x, y])) l (.lst (xs.set j (.ref u))))) : tAsg (tTup (tCons ta (tCons tb tNil))) (gSub tl ti rSetL) D σ H :=
  ha _ (hb _ ⟨by show 2 ≤ sizeLine; decide, fun u hu => hl _ _ (hi _ _ ⟨l, xs, i, j, rfl, rfl, Same.new hu _ _ e, hj, q u hu⟩)⟩)
end
theorem atI_head {v : V} {ds : List V} : atI (v :: ds) 0 = some v := by
  unfold atI ixN
  simp
theorem ixN_head {v : V} {ds : List V} : ixN (v :: ds).length 0 = some 0 := by
  unfold ixN
  simp
theorem sIx_nat {n : Nat} {d : Nat} {i : Nat} : HT.sIx n d (some (i : Int)) = min i n := by
  show (if (i : Int) < 0 then ((i : Int) + (n : Int)).toNat else min ((i : Int).toNat) n) = _
  rw [if_neg (by omega)]
  omega
end L2
namespace My
open PySem L2
theorem Rw.drop {H : Hp} {as : List V} {L : List Iv} (h : Rw H as L) (k : Nat) : Rw H (as.drop k) (L.drop k) := ⟨by simp [h.1], fun i a e => by
  rw [List.getElem?_drop] at e ⊢
  exact h.2 _ a e⟩
theorem Rw.take {H : Hp} {as : List V} {L : List Iv} (h : Rw H as L) (k : Nat) : Rw H (as.take k) (L.take k) := ⟨by simp [h.1], fun i a e => by
  rw [List.getElem?_take] at e ⊢
  by_cases c : i < k
  · rw [if_pos c] at e ⊢
    exact h.2 _ a e
  · rw [if_neg c] at e
    cases e⟩
theorem Rw.nil {H : Hp} : Rw H [] [] := ⟨rfl, fun i a e => by simp at e⟩
theorem Rw.cons {H : Hp} {as : List V} {L : List Iv} {t : Addr} {a : Iv} (ht : H t = some (.tup [.int a.1, .int a.2])) (h : Rw H as L) : Rw H (.ref t :: as) (a :: L) := ⟨by simp [h.1], fun i b e => by
  cases i with
  | zero => simp at e; subst e; exact ⟨t, rfl, ht⟩
  | succ j => rw [List.getElem?_cons_succ] at e ⊢; exact h.2 j b e⟩
theorem Rw.uncons {H : Hp} {as : List V} {L : List Iv} {a : Iv} (h : Rw H as (a :: L)) : ∃ t bs, as = V.ref t :: bs ∧ H t = some (.tup [.int a.1, .int a.2]) ∧ Rw H bs L := by
  obtain ⟨t, x, y⟩ := h.2 0 a rfl
  rcases as with _ | ⟨v, bs⟩
  · simp at x
  · simp at x
    subst x
    exact ⟨t, bs, rfl, y, by have := h.1; simp at this; exact this, fun i b e => by
      have := h.2 (i + 1) b (by rw [List.getElem?_cons_succ]; exact e)
      rw [List.getElem?_cons_succ] at this
      exact this⟩
def spClip (K : PySem.W.Frag) : Sp := fun vs H Q _ => ∃ (t : Addr) (as : List V) (L : List Iv) (s e : Int), vs = [.ref t, .int s, .int e] ∧ SqT K H t as ∧ Rw H as L ∧ Tidy L ∧ L.length ≤ 200000 ∧ ∀ (p : Addr) (bs : List V) (R : List Iv) H', H' p = some (.tup bs) → Rw H' bs R → Cut L s e R → R.length ≤ L.length → Same H H' → Q (.ref p) H'
section
variable {P : Program} {w : World} {K : PySem.W.Frag} {mg : Str → Option Value} {base : Heap} {a : Ad}
theorem G_clip (T : Tx K mg a) : FnOk P w K mg base CX0 2 a.f_clip a.d_clip ["pairs", "start", "end"] (spClip K) := by
  refine T.F_clip.ok sc_clip (fun vs H Q E h => ?_) (fun cdv A outer s H vs Q E hr h => ?_)
  · obtain ⟨t, as, L, st, en, rfl, _⟩ := h
    rfl
  · obtain ⟨t, as, L, st, en, rfl, ht, hrw, td, hz, k⟩ := h
    refine ⟨_, (pss_cons (ps_if (pt_cmpR op_ge (pv 1) (pv 2) (nomark _)) (pss_one (ps_ret (pe_tup pa_nil))) pss_nil)
      (pss_cons (ps_set (i := 3) sc_clip.nd rfl (Or.inl rfl) (pe_call (G_starts_below T) (hr.mono (by decide)) rfl T.g_starts_below T.F_starts_below.kp T.b_starts_below .nil pass0 (pa_cons (pv 0) (pa_cons (pv 1) pa_nil))))
      (pss_cons (ps_if (PW.pt (pw_and (pt_cmpR op_gt (pv 3) pe_int (nomark _)) (pw_and1 (pt_cmpR op_gt (pe_ix ix_tup (pe_ix ix_tup (pv 0) (pe_op op_sub (pv 3) pe_int) (fun _ _ => rfl)) pe_int (fun _ _ => rfl)) (pv 1) (nomark _))))) (pss_one (ps_aug (i := 3) sc_clip.nd rfl (Or.inl rfl) pe_int ip_sub)) pss_nil)
      (pss_cons (ps_set (i := 4) sc_clip.nd rfl (Or.inl rfl) (pe_callTy call_list_of (by rfl) T.n_list (by decide +kernel) (pa_cons (pe_slice sl_tupA (pv 0) (po_some (pv 3)) (po_some (pe_call (G_starts_below T) (hr.mono (by decide)) rfl T.g_starts_below T.F_starts_below.kp T.b_starts_below .nil pass0 (pa_cons (pv 0) (pa_cons (pv 2) pa_nil))))) pa_nil)))
      (pss_cons (ps_if (pt_truth (pv 4) (by intro _; rfl)) (pss_cons (ps_asg (pe_tup (pa_cons (pe_callB (call_max2 rfl) (by rfl) T.n_max (by decide +kernel) (pa_cons (pe_ix ix_tup (pe_ix ix_list (pv 4) pe_int (fun _ _ => rfl)) pe_int (fun _ _ => rfl)) (pa_cons (pv 1) pa_nil))) (pa_cons (pe_ix ix_tup (pe_ix ix_list (pv 4) pe_int (fun _ _ => rfl)) pe_int (fun _ _ => rfl)) pa_nil))) (pg_sub (pv 4) pe_int set_list))
      (pss_one (ps_asg (pe_tup (pa_cons (pe_ix ix_tup (pe_ix ix_list (pv 4) (pe_un un_neg pe_int) (fun _ _ => rfl)) pe_int (fun _ _ => rfl)) (pa_cons (pe_callB (call_min2 rfl) (by rfl) T.n_min (by decide +kernel) (pa_cons (pe_ix ix_tup (pe_ix ix_list (pv 4) (pe_un un_neg pe_int) (fun _ _ => rfl)) pe_int (fun _ _ => rfl)) (pa_cons (pv 2) pa_nil))) pa_nil))) (pg_sub (pv 4) (pe_un un_neg pe_int) set_list)))) pss_nil)
      (pss_one (ps_ret (pe_callTy call_tuple_of (by rfl) T.n_tuple (by decide +kernel) (pa_cons (pv 4) pa_nil))))))))), ?_⟩
    have la := hrw.1
    refine st_guard (q := en ≤ st) (a_cmp (f := fun i j => decide (j ≤ i)) (val_var (i := 1) rfl) (val_var (i := 2) rfl)) (by simp) (fun c => ?_) fun c => ?_
    · refine ⟨by show 0 ≤ sizeLine; decide, fun p hp => k p [] [] _ upd_same .nil (cut_none c) (Nat.zero_le _) (Same.new hp)⟩
    · have lt : st < en := by omega
      have bl : ∀ {m : Int} {σ : St} {H : Hp} {i : Nat}, SqT K H t as → Rw H as L → σ[0]? = some (some (.ref t)) → σ[i]? = some (some (.int m)) → Val (tCall (spBelow K) [] E0 (tCons (tVar 0) (tCons (tVar i) tNil))) σ H (.int (below L m : Nat)) := fun x y e1 e2 => v_call2 (val_var (i := 0) e1) (val_var e2) fun Q q => ⟨t, as, L, _, rfl, x, y, td, by omega, q⟩
      have hl := below_le (L := L) (m := st)
      refine st_let (bl ht hrw rfl rfl) ?_
      refine st_shareS (fun σ' H' => σ' = [some (.ref t), some (.int st), some (.int en), some (.int (firstC L st : Nat)), none] ∧ H' = H) ?_ fun N hN => ?_
      case refine_2 =>
        rcases Nat.eq_zero_or_pos (below L st) with z | z
        · refine st_ifp (q := False) (a_and (c := true) (a_cmp (f := fun i j => decide (j < i)) (val_var (i := 3) rfl) val_c) (fun h => absurd (of_decide_eq_true h) (by omega))) (by simp; omega) (fun h => h.elim) (fun _ => hN _ _ ⟨?_, rfl⟩)
          have e : firstC L st = below L st := if_neg (by omega)
          rw [e]
          rfl
        · obtain ⟨x, hx⟩ : ∃ x, L[below L st - 1]? = some x := ⟨_, List.getElem?_eq_getElem (by omega)⟩
          obtain ⟨u, w1, w2⟩ := hrw.2 _ x hx
          have gd : (L.getD (below L st - 1) (0, 0)).2 = x.2 := by rw [List.getD_eq_getElem?_getD, hx]; rfl
          refine st_ifp (q := 0 < below L st ∧ st < x.2) (a_and (a_cmp (f := fun i j => decide (j < i)) (val_var (i := 3) rfl) val_c) (fun _ => a_cmp (f := fun i j => decide (j < i)) (v_ixT (v_ixT (p := t) (val_var (i := 0) rfl) (v_rI0 (g := fun i j => .int (i - j)) (val_var (i := 3) rfl) val_c) ht (at_of (j := below L st - 1) (by omega) w1)) val_c (SqT.of w2) (show atI [V.int x.1, .int x.2] 1 = some (V.int x.2) from rfl)) (val_var (i := 1) rfl))) (by simp) (fun c2 => ?_) fun c2 => ?_
          · refine ⟨_, rfl, _, _, rfl, rfl, hN _ _ ⟨?_, rfl⟩⟩
            have e : firstC L st = below L st - 1 := if_pos (by rw [gd]; exact c2)
            rw [e, show ((below L st - 1 : Nat) : Int) = (below L st : Nat) - 1 by omega]
            rfl
          · refine hN _ _ ⟨?_, rfl⟩
            have e : firstC L st = below L st := if_neg (by rw [gd]; exact c2)
            rw [e]
            rfl
      rintro σ' H' ⟨rfl, rfl⟩
      have hc := cut_len (L := L) (s := st) (e := en)
      have lc : (cutC L st en).length ≤ L.length := by have := below_le (L := L) (m := en); omega
      refine st_letX (v_cb1 ?_)
      refine ⟨_, rfl, _, rfl, _, rfl, ?_⟩
      refine bl ht hrw rfl rfl _ ⟨_, rfl, ?_⟩
      refine slA ht fun p H1 hp s1 => ?_
      have ec : cutV as (some (firstC L st : Nat)) (some (below L en : Nat)) = (as.drop (firstC L st)).take (below L en - firstC L st) := by
        unfold cutV
        rw [sIx_nat, sIx_nat, la]
        have h1 : below L en ≤ L.length := below_le
        have h2 : firstC L st ≤ L.length := by have := below_le (L := L) (m := st); unfold firstC; split <;> omega
        rw [Nat.min_eq_left h1, Nat.min_eq_left h2]
      rw [ec] at hp
      have rw1 : Rw H1 ((as.drop (firstC L st)).take (below L en - firstC L st)) (cutC L st en) := ((hrw.same s1).drop _).take _
      generalize (as.drop (firstC L st)).take (below L en - firstC L st) = cs at hp rw1
      refine ⟨p, cs, rfl, Or.inr hp, fun l hl => ?_⟩
      have s2 := Same.new (o := .lst cs) hl
      have e2 : upd H1 l (.lst cs) l = some (.lst cs) := upd_same
      have s02 := s1.trans s2
      have rw2 := rw1.same s2
      generalize upd H1 l (.lst cs) = H2 at s2 e2 s02 rw2
      refine st_shareS (fun σ' H' => ∃ bs, σ' = [some (.ref t), some (.int st), some (.int en), some (.int (firstC L st : Nat)), some (.ref l)] ∧ H' l = some (.lst bs) ∧ Rw H' bs ((cutC L st en).map (clamp st en)) ∧ But l H2 H') ?_ fun N hN => ?_
      case refine_2 =>
        rcases hC : cutC L st en with _ | ⟨b, C⟩
        · rw [hC] at rw2 hN
          obtain rfl : cs = [] := List.length_eq_zero_iff.mp rw2.1
          exact st_ifb (b := false) (ans_tru (val_var (i := 4) rfl) (Or.inl ⟨_, SqL.of e2, rfl⟩)) (fun h => nomatch h) (fun _ => hN _ _ ⟨[], rfl, e2, .nil, But.refl _ _⟩)
        · rw [hC] at rw2
          obtain ⟨u, ds, rfl, eu, rwd⟩ := rw2.uncons
          refine st_ifb (b := true) (ans_tru (val_var (i := 4) rfl) (Or.inl ⟨_, SqL.of e2, rfl⟩)) (fun _ => ?_) (fun h => nomatch h)
          have lu : ∀ {σ : St} {H' : Hp} {r}, σ[4]? = some (some (V.ref l)) → H' l = some (.lst (V.ref r :: ds)) → Val (tOp (rIxL K) (tVar 4) (tC (V.int 0))) σ H' (.ref r) := fun e f => v_ixL (val_var (i := 4) e) val_c (SqL.of f) atI_head
          refine st_seq (st_putPair (xs := V.ref u :: ds) (j := 0) (v_max (v_ixT (lu rfl e2) val_c (SqT.of eu) (show atI [V.int b.1, .int b.2] 0 = some (V.int b.1) from rfl)) (val_var (i := 1) rfl)) (v_ixT (lu rfl e2) val_c (SqT.of eu) (show atI [V.int b.1, .int b.2] 1 = some (V.int b.2) from rfl)) (fun _ => val_var (i := 4) rfl) (fun _ => val_c) e2 ixN_head fun u1 h1 => ?_)
          have s3 := Same.new (o := .tup [.int (max b.1 st), .int b.2]) h1
          have rw3 : Rw (upd (upd H2 u1 (.tup [.int (max b.1 st), .int b.2])) l (.lst (.ref u1 :: ds))) (.ref u1 :: ds) ((max b.1 st, b.2) :: C) := (Rw.cons (a := (max b.1 st, b.2)) upd_same (rwd.same s3)).upd (s3 _ _ e2)
          have b3 : But l H2 (upd (upd H2 u1 (.tup [.int (max b.1 st), .int b.2])) l (.lst (.ref u1 :: ds))) := fun c o e n => by rw [upd_ne n]; exact s3 _ _ e
          have e3 : upd (upd H2 u1 (.tup [.int (max b.1 st), .int b.2])) l (.lst (.ref u1 :: ds)) l = some (.lst (.ref u1 :: ds)) := upd_same
          rw [show (V.ref u :: ds).set 0 (V.ref u1) = V.ref u1 :: ds from rfl]
          dsimp only
          generalize upd (upd H2 u1 (.tup [.int (max b.1 st), .int b.2])) l (.lst (.ref u1 :: ds)) = H3 at rw3 b3 e3 ⊢
          obtain ⟨M, z, hM⟩ : ∃ M z, (max b.1 st, b.2) :: C = M ++ [z] := ⟨_, _, (List.dropLast_concat_getLast (List.cons_ne_nil _ _)).symm⟩
          rw [hM] at rw3
          obtain ⟨cs0, u0, ecs, rw4, e4⟩ := rw3.last
          rw [ecs] at e3 rw3
          have lz : ∀ {σ : St} {H' : Hp} {r}, σ[4]? = some (some (V.ref l)) → H' l = some (.lst (cs0 ++ [V.ref r])) → Val (tOp (rIxL K) (tVar 4) (tUn (rU fun i => V.int (-i)) (tC (V.int 1)))) σ H' (.ref r) := fun e f => v_ixL (val_var (i := 4) e) (v_un (g := fun i => V.int (-i)) val_c) (SqL.of f) atI_last
          refine st_putPair (i := -1) (v_ixT (lz rfl e3) val_c (SqT.of e4) (show atI [V.int z.1, .int z.2] 0 = some (V.int z.1) from rfl)) (v_min (v_ixT (lz rfl e3) val_c (SqT.of e4) (show atI [V.int z.1, .int z.2] 1 = some (V.int z.2) from rfl)) (val_var (i := 2) rfl)) (fun _ => val_var (i := 4) rfl) (fun _ => v_un (g := fun i => V.int (-i)) val_c) e3 ixN_last fun u2 h2 => ?_
          have s5 := Same.new (o := .tup [.int z.1, .int (min z.2 en)]) h2
          refine hN _ _ ⟨_, rfl, upd_same, ?_, ?_⟩
          · rw [set_last, ← cut_ends td lt hC hM]
            exact ((rw4.same s5).snoc (a := (z.1, min z.2 en)) upd_same).upd (s5 _ _ e3)
          · exact fun c o e n => by rw [upd_ne n]; exact s5 _ _ (b3 _ _ e n)
      rintro σ' H3 ⟨bs, rfl, e3, rw3, b3⟩
      refine st_ret1 ⟨_, rfl, l, bs, rfl, Or.inl ⟨SqL.of e3, fun q hq => ?_⟩⟩
      have s4 := Same.new (o := .tup bs) hq
      exact k q bs _ _ upd_same (rw3.same s4) (cut_ok td lt) (by rw [List.length_map]; exact lc) (s1.trans ((But.new hl (But.same s2 b3)).trans s4))
end
end My

namespace My
open PySem L2
/-- the i-th of a comprehension: a pair -/
def RelP (M : List Iv) (D : Addr) (i : Nat) (v : V) (H : Hp) : Prop := ∃ (t : Addr) (y : Iv), v = .ref t ∧ t ≠ D ∧ M[i]? = some y ∧ H t = some (.tup [.int y.1, .int y.2])
theorem RelP.mono {M : List Iv} (D : Addr) (i : Nat) (v : V) (H H' : Hp) (h : RelP M D i v H) (b : But D H H') : RelP M D i v H' := let ⟨t, y, e, n, m, z⟩ := h; ⟨t, y, e, n, m, b _ _ z n⟩
theorem pairs_of {M : List Iv} {D : Addr} {H : Hp} {n : Nat} {bs : List V} (h : AllR (fun i v => RelP M D i v H) ((List.range n).filter fun _ => true) bs) (e : n = M.length) : Rw H bs M := by
  obtain ⟨h1, h2⟩ := h.all
  refine ⟨by omega, fun i a ha => ?_⟩
  have hi := (List.getElem?_eq_some_iff.mp ha).1
  have hb := List.getElem?_eq_getElem (l := bs) (i := i) (by omega)
  obtain ⟨t, y, e1, _, m, z⟩ := h2 i _ hb
  rw [ha] at m
  cases m
  exact ⟨t, by rw [hb, e1], z⟩
/-- a pair is read into two names -/
theorem g_pair {K : PySem.W.Frag} {i j : Nat} {t : Addr} {x y : V} {σ : St} {H : Hp} {C : St → Hp → Prop} (h : H t = some (.tup [x, y])) (c : C ((σ.set i (some x)).set j (some y)) H) : gTup K 2 (gCons (gName i) (gCons (gName j) gNil)) (.ref t) σ H C :=
  ⟨t, _, rfl, SqT.of h, rfl, _, _, rfl, _, _, rfl, rfl, c⟩
theorem Rw.head {H : Hp} {as : List V} {L : List Iv} (h : Rw H as L) (ne : L ≠ []) : ∃ t ds, as = V.ref t :: ds ∧ H t = some (.tup [.int (L.headD (0, 0)).1, .int (L.headD (0, 0)).2]) ∧ Rw H ds (L.drop 1) := by
  rcases L with _ | ⟨a, r⟩
  · exact absurd rfl ne
  · exact h.uncons
theorem Rw.lastD {H : Hp} {as : List V} {L : List Iv} (h : Rw H as L) (ne : L ≠ []) : ∃ bs u, as = bs ++ [V.ref u] ∧ Rw H bs L.dropLast ∧ H u = some (.tup [.int (L.getLastD (0, 0)).1, .int (L.getLastD (0, 0)).2]) := by
  obtain ⟨M, z, e⟩ := split_last ne
  rw [e] at h
  obtain ⟨bs, u, e1, e2, e3⟩ := h.last
  exact ⟨bs, u, e1, by rw [e, List.dropLast_concat]; exact e2, by rw [e, last_snoc]; exact e3⟩
theorem Rw.dropLast {H : Hp} {as : List V} {L : List Iv} (h : Rw H as L) : Rw H as.dropLast L.dropLast := by
  rw [List.dropLast_eq_take, List.dropLast_eq_take, h.1]
  exact h.take _
def spRound (K : PySem.W.Frag) : Sp := fun vs H Q _ => ∃ (t : Addr) (as : List V) (R : List Iv) (h p : Int), vs = [.int h, .int p, .ref t] ∧ SqT K H t as ∧ Rw H as R ∧ Tail h p R ∧ R.length ≤ 200000 ∧ ∀ (l : Addr) (bs : List V) H', H' l = some (.lst bs) → Rw H' bs (stepsOf p (runsOf h p R)) → H l = none → Same H H' → Q (.ref l) H'
section
variable {P : Program} {w : World} {K : PySem.W.Frag} {mg : Str → Option Value} {base : Heap} {a : Ad}
theorem G_round_steps (T : Tx K mg a) : FnOk P w K mg base CX0 1 a.f_round_steps a.d_round_steps ["head", "period", "tail"] (spRound K) := by
  refine T.F_round_steps.ok sc_round_steps (fun vs H Q E h => ?_) (fun cdv A outer s H vs Q E hr h => ?_)
  · obtain ⟨t, as, R, hh, p, rfl, _⟩ := h
    rfl
  · obtain ⟨t, as, R, hh, p, rfl, ht, hrw, tl, hz, k⟩ := h
    refine ⟨_, (pss_cons (ps_setLc (i := 3) (own := [("start", 4), ("end", 5)]) (g := gTup K 2 (gCons (gName 4) (gCons (gName 5) gNil))) (tt := tYes) rfl sc_round_steps.nd rfl rfl (sw_true rfl rfl rfl (by decide +kernel)) (pi_tup (pv 2)) (blkOk_by (own := [("start", 4), ("end", 5)]) (N := ["head", "period", "tail", "runs", "start", "end", "following", "run", "then"]) (sc := defScope s_round_steps) (by decide +kernel)) (fun _ _ _ _ _ => (pg_tup rfl (pgs_cons (pg_name (i := 4) sc_round_steps.nd rfl (Or.inl rfl)) (pgs_cons (pg_name (i := 5) sc_round_steps.nd rfl (Or.inl rfl)) pgs_nil)))) (fun _ _ _ _ _ => pts_nil) (fun _ _ _ _ _ => (pe_tup (pa_cons (pv 4) (pa_cons (pe_op op_sub (pv 5) (pv 4)) pa_nil)))))
      (pss_cons (ps_if (PW.pt (pw_and (pt_cmpR op_eq (pe_ix ix_tup (pe_ix ix_tup (pv 2) pe_int (fun _ _ => rfl)) pe_int (fun _ _ => rfl)) (pv 0) (nomark _)) (pw_and1 (pt_cmpR op_eq (pe_ix ix_tup (pe_ix ix_tup (pv 2) (pe_un un_neg pe_int) (fun _ _ => rfl)) pe_int (fun _ _ => rfl)) (pe_op op_add (pv 0) (pv 1)) (nomark _))))) (pss_one (ps_set (i := 3) sc_round_steps.nd rfl (Or.inl rfl) (pe_op op_cat (pe_slice sl_list (pv 3) (po_some pe_int) (po_some (pe_un un_neg pe_int))) (pe_lst (pa_cons (pe_tup (pa_cons (pe_ix ix_tup (pe_ix ix_list (pv 3) (pe_un un_neg pe_int) (fun _ _ => rfl)) pe_int (fun _ _ => rfl)) (pa_cons (pe_op op_add (pe_ix ix_tup (pe_ix ix_list (pv 3) (pe_un un_neg pe_int) (fun _ _ => rfl)) pe_int (fun _ _ => rfl)) (pe_ix ix_tup (pe_ix ix_list (pv 3) pe_int (fun _ _ => rfl)) pe_int (fun _ _ => rfl))) pa_nil))) pa_nil))))) pss_nil)
      (pss_cons (ps_set (i := 6) sc_round_steps.nd rfl (Or.inl rfl) (pe_op op_cat (pe_slice sl_list (pv 3) (po_some pe_int) po_none) (pe_lst (pa_cons (pe_tup (pa_cons (pe_op op_add (pe_ix ix_tup (pe_ix ix_list (pv 3) pe_int (fun _ _ => rfl)) pe_int (fun _ _ => rfl)) (pv 1)) (pa_cons pe_int pa_nil))) pa_nil))))
      (pss_one (ps_ret (pe_lc (own := [("run", 7), ("then", 8)]) (g := gTup K 2 (gCons (gName 7) (gCons (gName 8) gNil))) (tt := tYes) rfl sc_round_steps.nd (pi_zip (by rfl) T.n_zip (pa_cons (pv 3) (pa_cons (pv 6) pa_nil))) (blkOk_by (own := [("run", 7), ("then", 8)]) (N := ["head", "period", "tail", "runs", "start", "end", "following", "run", "then"]) (sc := defScope s_round_steps) (by decide +kernel)) (fun _ _ _ _ _ => (pg_tup rfl (pgs_cons (pg_name (i := 7) sc_round_steps.nd rfl (Or.inl rfl)) (pgs_cons (pg_name (i := 8) sc_round_steps.nd rfl (Or.inl rfl)) pgs_nil)))) (fun _ _ _ _ _ => pts_nil) (fun _ _ _ _ _ => (pe_tup (pa_cons (pe_op op_sub (pe_ix (ix_tupK K) (pv 8) pe_int (fun _ _ => rfl)) (pe_ix (ix_tupK K) (pv 7) pe_int (fun _ _ => rfl))) (pa_cons (pe_ix (ix_tupK K) (pv 7) pe_int (fun _ _ => rfl)) pa_nil)))))))))), ?_⟩
    obtain ⟨ro, _, _⟩ := tl.spec
    have rne : runsOf hh p R ≠ [] := fun z => by have := ro.ne; rw [z] at this; exact absurd this (by decide)
    have la := hrw.1
    refine st_letX (lcT ⟨_, rfl, ?_⟩)
    refine cg_T (fun _ => true) (RelP (R.map rl)) RelP.mono ht (by omega) (fun D i x H2 bs hD hx eD s2 C q => ?_) fun D bs H2 hD eD ar s2 => ?_
    · have hi : i < R.length := by rw [← la]; exact (List.getElem?_eq_some_iff.mp hx).1
      obtain ⟨u, w1, w2⟩ := (hrw.same s2).2 i _ (List.getElem?_eq_getElem hi)
      rw [hx] at w1
      cases w1
      refine g_pair w2 (q _ _ (But.refl _ _) rfl rfl (fun _ z => z) fun _ => Gives.pair (y := .int (R[i].2 - R[i].1)) eD (val_var rfl) (v_rI0 (g := fun i j => .int (i - j)) (val_var rfl) (val_var rfl)) fun t ht n => ⟨t, rl R[i], rfl, n, by rw [List.getElem?_map, List.getElem?_eq_getElem hi]; rfl, upd_same⟩)
    have rw1 := pairs_of ar (by rw [la, List.length_map])
    have hrw2 := hrw.same s2
    have ht2 := s2.sqT ht
    obtain ⟨t0, ds, e0, h0, _⟩ := hrw2.head tl.ne
    obtain ⟨cs, tz, ez, _, hz2⟩ := hrw2.lastD tl.ne
    refine st_shareS (fun σ' H' => ∃ v4 v5 l bs, σ' = [some (.int hh), some (.int p), some (.ref t), some (.ref l), v4, v5, none, none, none] ∧ H' l = some (.lst bs) ∧ Rw H' bs (runsOf hh p R) ∧ Same H H') ?_ fun N hN => ?_
    case refine_2 =>
      refine st_ifp (q := (R.headD (0, 0)).1 = hh ∧ (R.getLastD (0, 0)).2 = hh + p) (a_and (a_eq (v_ixT (v_ixT (p := t) (val_var rfl) val_c ht2 (by rw [e0]; exact atI_head)) val_c (SqT.of h0) rfl) (val_var rfl)) fun _ => a_eq (v_ixT (v_ixT (p := t) (val_var rfl) (v_un (g := fun i => V.int (-i)) val_c) ht2 (by rw [ez]; exact atI_last)) val_c (SqT.of hz2) rfl) (v_rI0 (g := fun i j => .int (i + j)) (val_var rfl) (val_var rfl))) (by simp) (fun c => ?_) fun c => ?_
      · have lz : ∀ {H' : Hp}, Same H2 H' → ∃ u0 uz, H' u0 = some (.tup [.int (rl (R.headD (0, 0))).1, .int (rl (R.headD (0, 0))).2]) ∧ H' uz = some (.tup [.int (rl (R.getLastD (0, 0))).1, .int (rl (R.getLastD (0, 0))).2]) ∧ (∀ {σ : St}, σ[3]? = some (some (V.ref D)) → Val (tOp (rIxL K) (tVar 3) (tC (V.int 0))) σ H' (.ref u0)) ∧ (∀ {σ : St}, σ[3]? = some (some (V.ref D)) → Val (tOp (rIxL K) (tVar 3) (tUn (rU fun i => V.int (-i)) (tC (V.int 1)))) σ H' (.ref uz)) := fun s => by
          have r := rw1.same s
          have ne : R.map rl ≠ [] := fun z => tl.ne (List.map_eq_nil_iff.mp z)
          obtain ⟨u0, d0, e0, h0, _⟩ := r.head ne
          obtain ⟨c0, uz, ez, _, hz⟩ := r.lastD ne
          have m1 : (R.map rl).headD (0, 0) = rl (R.headD (0, 0)) := by cases R <;> rfl
          have m2 : (R.map rl).getLastD (0, 0) = rl (R.getLastD (0, 0)) := by
            obtain ⟨M, z, e⟩ := split_last tl.ne
            rw [e, List.map_append, List.map_singleton, last_snoc, last_snoc]
          rw [m1] at h0
          rw [m2] at hz
          exact ⟨u0, uz, h0, hz, fun e => v_ixL (val_var e) val_c (SqL.of (s _ _ eD)) (by rw [e0]; exact atI_head), fun e => v_ixL (val_var e) (v_un (g := fun i => V.int (-i)) val_c) (SqL.of (s _ _ eD)) (by rw [ez]; exact atI_last)⟩
        refine sl_pair (lo := some 1) (hi := some (-1)) (x := .int (R.getLastD (0, 0)).1) (y := .int (((R.getLastD (0, 0)).2 - (R.getLastD (0, 0)).1) + ((R.headD (0, 0)).2 - (R.headD (0, 0)).1))) (val_var rfl) (SqL.of eD) (fun _ _ q => ⟨_, rfl, q⟩) (fun _ _ q => ⟨_, rfl, _, rfl, q⟩) (by rw [rw1.1, List.length_map]; omega) (fun H' s => ?_) (fun H' s => ?_) fun D2 u H' s eu e2 _ => ?_
        · obtain ⟨u0, uz, h0, hz, v0, vz⟩ := lz s
          exact v_ixT (vz rfl) val_c (SqT.of hz) rfl
        · obtain ⟨u0, uz, h0, hz, v0, vz⟩ := lz s
          exact v_rI0 (g := fun i j => .int (i + j)) (v_ixT (vz rfl) val_c (SqT.of hz) rfl) (v_ixT (v0 rfl) val_c (SqT.of h0) rfl)
        · obtain ⟨u0, d0, e0, _, rd⟩ := rw1.head fun z => tl.ne (List.map_eq_nil_iff.mp z)
          have er : runsOf hh p R = ((R.map rl).drop 1).dropLast ++ [((R.getLastD (0, 0)).1, ((R.getLastD (0, 0)).2 - (R.getLastD (0, 0)).1) + ((R.headD (0, 0)).2 - (R.headD (0, 0)).1))] := if_pos c
          rw [e0, cut1m] at e2
          refine hN _ _ ⟨_, _, D2, _, rfl, e2, ?_, s2.trans s⟩
          rw [er]
          exact ((rd.dropLast).same s).snoc eu
      · have e : runsOf hh p R = R.map rl := if_neg c
        exact hN _ _ ⟨_, _, D, bs, rfl, eD, by rw [e]; exact rw1, s2⟩
    rintro σ' H3 ⟨v4, v5, l, cs, rfl, e3, rw3, s3⟩
    obtain ⟨u0, d0, e0, h0, rd⟩ := rw3.head rne
    have lcs := rw3.1
    have lr : (runsOf hh p R).length ≤ 200001 := by
      unfold runsOf
      split
      · rw [List.length_append, List.length_dropLast, List.length_drop, List.length_map, List.length_singleton]
        omega
      · rw [List.length_map]
        omega
    refine st_letX ?_
    refine sl_pair (lo := some 1) (hi := none) (x := .int (((runsOf hh p R).headD (0, 0)).1 + p)) (y := .int 0) (val_var rfl) (SqL.of e3) (fun _ _ q => ⟨_, rfl, q⟩) (fun _ _ q => q) (by omega) (fun H' s => v_rI0 (g := fun i j => .int (i + j)) (v_ixT (v_ixL (val_var rfl) val_c (SqL.of (s _ _ e3)) (by rw [e0]; exact atI_head)) val_c (SqT.of (s _ _ h0)) rfl) (val_var rfl)) (fun H' s => val_c) fun D2 u H' s eu e2 _ => ?_
    rw [e0, cut1] at e2
    have rw2 : Rw H' (d0 ++ [.ref u]) ((runsOf hh p R).drop 1 ++ [(((runsOf hh p R).headD (0, 0)).1 + p, 0)]) := (rd.same s).snoc eu
    have rw4 := rw3.same s
    have e4 := s _ _ e3
    have s4 := s3.trans s
    have ls : (stepsOf p (runsOf hh p R)).length = (runsOf hh p R).length := by
      unfold stepsOf
      rw [List.length_zipWith, List.length_append, List.length_drop, List.length_singleton]
      have := ro.ne
      omega
    refine cg_Z (fun _ => true) (RelP (stepsOf p (runsOf hh p R))) RelP.mono (SqL.of e4) (SqL.of e2) (by rw [rw4.1, rw2.1, List.length_append, List.length_drop, List.length_singleton]; have := ro.ne; omega) (by omega) (fun D i x y Tn H5 bs hD hx hy eT eD s5 C q => ?_) (fun D bs H5 hD eD ar s5 => ?_) (fun R q => ⟨_, rfl, _, rfl, q⟩)
    · have hi : i < (runsOf hh p R).length := by rw [← lcs]; exact (List.getElem?_eq_some_iff.mp hx).1
      have hm := List.getElem?_eq_getElem (l := stepsOf p (runsOf hh p R)) (i := i) (by omega)
      obtain ⟨b1, hl⟩ : ∃ a, (runsOf hh p R)[i]? = some a := ⟨_, List.getElem?_eq_getElem hi⟩
      obtain ⟨b2, hl2⟩ : ∃ a, ((runsOf hh p R).drop 1 ++ [(((runsOf hh p R).headD (0, 0)).1 + p, 0)])[i]? = some a := ⟨_, List.getElem?_eq_getElem (by rw [List.length_append, List.length_drop, List.length_singleton]; omega)⟩
      obtain ⟨t1, w1, w2⟩ := (rw4.same s5).2 i _ hl
      obtain ⟨t2, w3, w4⟩ := (rw2.same s5).2 i _ hl2
      rw [hx] at w1
      cases w1
      rw [hy] at w3
      cases w3
      have hm2 : (stepsOf p (runsOf hh p R))[i]? = some (b2.1 - b1.1, b1.2) := by
        unfold stepsOf
        rw [List.getElem?_zipWith, hl, hl2]
      refine g_pair eT (q _ _ (But.refl _ _) rfl rfl (fun _ z => z) fun _ => Gives.pair eD (v_rI0 (g := fun i j => .int (i - j)) (v_ixT (val_var rfl) val_c (SqT.of w4) rfl) (v_ixT (val_var rfl) val_c (SqT.of w2) rfl)) (v_ixT (val_var rfl) val_c (SqT.of w2) rfl) fun t ht n => ⟨t, _, rfl, n, hm2, upd_same⟩)
    · refine k D bs H5 eD (pairs_of ar (by rw [ls, lcs])) ?_ (s4.trans s5)
      cases e : H D with
      | none => rfl
      | some o => exact absurd (s4 _ _ e) (by rw [hD]; exact fun z => nomatch z)
end
end My

namespace My
open PySem L2
theorem Rw.dp {K : PySem.W.Frag} {H : Hp} : ∀ {as : List V} {L : List Iv}, Rw H as L → DpAll K H as (prow L)
  | as, [], h => by
    obtain rfl : as = [] := List.length_eq_zero_iff.mp h.1
    exact .nil
  | as, a :: L, h => by
    obtain ⟨t, bs, rfl, ht, r⟩ := h.uncons
    exact .cons (pdata_dp ht) (Rw.dp r)
theorem cut_drop {xs : List V} {k : Nat} : cutV xs (some (k : Int)) none = xs.drop k := by
  unfold cutV
  rw [HT.sIx_nat]
  show (xs.drop (min k xs.length)).take (xs.length - min k xs.length) = _
  rw [← List.length_drop, List.take_length]
  by_cases c : k ≤ xs.length
  · rw [Nat.min_eq_left c]
  · rw [Nat.min_eq_right (by omega), List.drop_eq_nil_of_le (Nat.le_refl _), List.drop_eq_nil_of_le (by omega)]
theorem cut_take {xs : List V} {k : Nat} : cutV xs none (some (k : Int)) = xs.take k := by
  unfold cutV
  rw [HT.sIx_nat]
  show (xs.drop 0).take (min k xs.length - 0) = _
  rw [List.drop_zero, Nat.sub_zero]
  by_cases c : k ≤ xs.length
  · rw [Nat.min_eq_left c]
  · rw [Nat.min_eq_right (by omega), List.take_length, List.take_of_length_le (by omega)]
def spLeast (K : PySem.W.Frag) : Sp := fun vs H Q _ => ∃ (t : Addr) (as : List V) (L : List Iv) (h p : Int), vs = [.int h, .int p, .ref t] ∧ SqT K H t as ∧ Rw H as L ∧ Tidy L ∧ 1 ≤ p ∧ L.length ≤ 100000 ∧ ∀ (R : List Iv) (q : Int) H', Cut L h (h + p) R → LeastP h p R q → Same H H' → Q (.int q) H'
section
variable {P : Program} {w : World} {K : PySem.W.Frag} {mg : Str → Option Value} {base : Heap} {a : Ad}
theorem G_least_period (T : Tx K mg a) : FnOk P w K mg base CX0 3 a.f_least_period a.d_least_period ["head", "period", "pairs"] (spLeast K) := by
  refine T.F_least_period.ok sc_least_period (fun vs H Q E h => ?_) (fun cdv A outer s H vs Q E hr h => ?_)
  · obtain ⟨t, as, L, hh, p, rfl, _⟩ := h
    rfl
  · obtain ⟨t, as, L, hh, p, rfl, ht, hrw, td, p1, hz, k⟩ := h
    refine ⟨_, (pss_cons (ps_set (i := 3) sc_least_period.nd rfl (Or.inl rfl) (pe_call (G_clip T) (hr.mono (by decide)) rfl T.g_clip T.F_clip.kp T.b_clip .nil pass0 (pa_cons (pv 2) (pa_cons (pv 0) (pa_cons (pe_op op_add (pv 0) (pv 1)) pa_nil)))))
      (pss_cons (ps_if (PW.pt (pw_or (pt_not (pt_truth (pv 3) (by intro _; rfl))) (pw_or1 (pt_cmpR (op_eqD hr.units) (pe_ix ix_tup (pv 3) pe_int (fun _ _ => rfl)) (pe_tup (pa_cons (pv 0) (pa_cons (pe_op op_add (pv 0) (pv 1)) pa_nil))) (nomark _))))) (pss_one (ps_ret pe_int)) pss_nil)
      (pss_cons (ps_set (i := 4) sc_least_period.nd rfl (Or.inl rfl) (pe_call (G_round_steps T) (hr.mono (by decide)) rfl T.g_round_steps T.F_round_steps.kp T.b_round_steps .nil pass0 (pa_cons (pv 0) (pa_cons (pv 1) (pa_cons (pv 3) pa_nil)))))
      (pss_cons (ps_set (i := 5) sc_least_period.nd rfl (Or.inl rfl) (pe_callB call_len_seq (by rfl) T.n_len (by decide +kernel) (pa_cons (pv 4) pa_nil)))
      (pss_cons (ps_for PassesOwn.never rfl (pi_range2 rfl T.n_range (pa_cons pe_int (pa_cons (pv 5) pa_nil))) (pg_name (i := 6) sc_least_period.nd rfl (Or.inl rfl)) (pss_one (ps_if (PW.pt (pw_and (pt_cmpR op_eq (pe_op op_mod (pv 5) (pv 6)) pe_int (nomark _)) (pw_and1 (pt_cmpR (op_eqD hr.units) (pe_slice sl_list (pv 4) (po_some (pv 6)) po_none) (pe_slice sl_list (pv 4) po_none (po_some (pe_op op_sub (pv 5) (pv 6)))) (nomark _))))) (pss_one (ps_ret (pe_op op_fdivW (pe_op op_mul (pv 1) (pv 6)) (pv 5)))) pss_nil)))
      (pss_one (ps_ret (pv 1)))))))), ?_⟩
    refine st_letX ⟨_, rfl, _, rfl, _, rfl, _, rfl, _, _, rfl, rfl, t, as, L, hh, hh + p, rfl, ht, hrw, td, by omega, fun t2 bs R H1 e1 rw1 cut le s1 => ?_⟩
    have hR := k R
    have tru : ∀ {σ : St} {b : Bool}, σ[3]? = some (some (V.ref t2)) → b = !bs.isEmpty → Ans (fun σ H Q => tVar 3 σ H fun x H' => ∃ k, TruV K x H' k ∧ Q k H') σ H1 b := fun e eb => ans_tru (val_var e) (Or.inr (Or.inl ⟨bs, SqT.of e1, eb⟩))
    by_cases hn : R = []
    · subst hn
      obtain rfl : bs = [] := List.length_eq_zero_iff.mp rw1.1
      refine st_guard (q := True) (a_or (b := true) (c := true) (ans_not (b := false) (tru rfl rfl)) (fun z => nomatch z)) (by simp) (fun _ => ?_) (fun z => absurd trivial z)
      exact hR 1 H1 cut (.one (Or.inl rfl)) s1
    obtain ⟨u0, ds, e0, h0, _⟩ := rw1.head hn
    refine st_guardX (t_or_no (ans_not (b := true) (tru rfl (by rw [e0]; rfl))) (eq_pair (y := (hh, hh + p)) (v_ixT (val_var rfl) val_c (SqT.of e1) (by rw [e0]; exact atI_head)) h0 (val_var rfl) (v_rI0 (g := fun i j => .int (i + j)) (val_var rfl) (val_var rfl)) fun H2 s2 => ?_))
    by_cases hf : R.headD (0, 0) = (hh, hh + p)
    · rw [if_pos (decide_eq_true hf)]
      exact hR 1 H2 cut (.one (Or.inr hf)) (s1.trans s2)
    rw [if_neg (by rw [decide_eq_true_eq]; exact hf)]
    have box := cut.box
    have tl : Tail hh p R := ⟨p1, cut.1, box, hn, hf⟩
    obtain ⟨ro, _, _⟩ := tl.spec
    have ls : (stepsOf p (runsOf hh p R)).length = (runsOf hh p R).length := by
      rw [ro.steps, stL_len]
    have lr : (runsOf hh p R).length ≤ 100001 := by
      unfold runsOf
      split
      · rw [List.length_append, List.length_dropLast, List.length_drop, List.length_map, List.length_singleton]
        omega
      · rw [List.length_map]
        omega
    have r1 := ro.ne
    refine st_letX ⟨_, rfl, _, rfl, _, rfl, t2, bs, R, hh, p, rfl, SqT.of (s2 _ _ e1), rw1.same s2, tl, by omega, fun l cs H3 e3 rw3 _ s3 => ?_⟩
    have s03 := s1.trans (s2.trans s3)
    have lc := rw3.1
    refine st_let (v := .int ((runsOf hh p R).length : Nat)) (v_cb (val_var (i := 4) rfl) fun Q q => ⟨l, cs, rfl, Or.inl (SqL.of e3), by rw [lc, ls]; exact q⟩) ?_
    refine st_seq (st_forR2 (lo := 1) (hi := ((runsOf hh p R).length : Nat)) (n := (runsOf hh p R).length - 1) val_c (val_var (i := 5) rfl) (by omega) (by omega) (by omega) (fun i σ H' => ∃ v6, σ = [some (.int hh), some (.int p), some (.ref t), some (.ref t2), some (.ref l), some (.int ((runsOf hh p R).length : Nat)), v6] ∧ Same H3 H' ∧ ∀ k, 1 ≤ k → k < 1 + i → sizeOk (stepsOf p (runsOf hh p R)) k = false) ⟨none, rfl, fun _ _ e => e, fun k a b => by omega⟩ ?_ ?_)
    · rintro i σ H4 hi ⟨v6, rfl, s4, no⟩
      refine g_name (st_ifX ?_)
      have nx : ∀ H5, Same H4 H5 → sizeOk (stepsOf p (runsOf hh p R)) (1 + i) = false → ∃ v6, [some (V.int hh), some (.int p), some (.ref t), some (.ref t2), some (.ref l), some (.int ((runsOf hh p R).length : Nat)), some (.int (1 + (i : Int)))] = [some (.int hh), some (.int p), some (.ref t), some (.ref t2), some (.ref l), some (.int ((runsOf hh p R).length : Nat)), v6] ∧ Same H3 H5 ∧ ∀ k, 1 ≤ k → k < 1 + (i + 1) → sizeOk (stepsOf p (runsOf hh p R)) k = false := fun H5 s5 z => ⟨_, rfl, s4.trans s5, fun k a b => by
        by_cases e : k = 1 + i
        · rw [e]; exact z
        · exact no k a (by omega)⟩
      have md := a_eq (σ := [some (V.int hh), some (.int p), some (.ref t), some (.ref t2), some (.ref l), some (.int ((runsOf hh p R).length : Nat)), some (.int (1 + (i : Int)))]) (H := H4) (v_rI (C := fun _ j => 0 < j) (g := fun i j => .int (i % j)) (val_var (i := 5) rfl) (val_var (i := 6) rfl) (by omega)) (val_c (v := .int 0))
      have cast : ((runsOf hh p R).length : Int) % (1 + (i : Int)) = (((runsOf hh p R).length % (1 + i) : Nat) : Int) := by
        rw [show (1 + (i : Int)) = ((1 + i : Nat) : Int) by omega]
        rfl
      by_cases c : (runsOf hh p R).length % (1 + i) = 0
      · rw [decide_eq_true (by rw [cast, c]; rfl)] at md
        refine t_and_yes md ?_
        have e4 := s4 _ _ e3
        have rw4 := rw3.same s4
        refine ⟨_, rfl, _, rfl, _, rfl, l, cs, rfl, SqL.of e4, fun q1 hq1 => ?_⟩
        have s5 := Same.new (o := .lst (cutV cs (some (1 + (i : Int))) none)) hq1
        refine ⟨_, rfl, _, rfl, _, rfl, _, _, rfl, rfl, _, rfl, l, cs, rfl, SqL.of (s5 _ _ e4), fun q2 hq2 => ?_⟩
        have s6 := Same.new (o := .lst (cutV cs none (some (((runsOf hh p R).length : Nat) - (1 + (i : Int)))))) hq2
        have c1 : cutV cs (some (1 + (i : Int))) none = cs.drop (1 + i) := by
          rw [show (1 + (i : Int)) = ((1 + i : Nat) : Int) by omega]
          exact cut_drop
        have c2 : cutV cs none (some (((runsOf hh p R).length : Nat) - (1 + (i : Int)))) = cs.take ((runsOf hh p R).length - (1 + i)) := by
          rw [show (((runsOf hh p R).length : Nat) - (1 + (i : Int)) : Int) = (((runsOf hh p R).length - (1 + i) : Nat) : Int) by omega]
          exact cut_take
        refine ⟨.list (prow ((stepsOf p (runsOf hh p R)).drop (1 + i))), .list (prow ((stepsOf p (runsOf hh p R)).take ((runsOf hh p R).length - (1 + i)))), .lst (SqL.of (s6 _ _ upd_same)) (by have := ((rw4.drop (1 + i)).same (s5.trans s6)).dp (K := K); rw [← c1] at this; exact this), .lst (SqL.of upd_same) (by have := ((rw4.take ((runsOf hh p R).length - (1 + i))).same (s5.trans s6)).dp (K := K); rw [← c2] at this; exact this), prow_shapedL _, prow_shapedL _, _, rfl, ?_⟩
        rw [PyData.eqv, prow_eqv]
        have ok : sizeOk (stepsOf p (runsOf hh p R)) (1 + i) = decide ((stepsOf p (runsOf hh p R)).drop (1 + i) = (stepsOf p (runsOf hh p R)).take ((runsOf hh p R).length - (1 + i))) := by
          unfold sizeOk
          rw [ls, decide_eq_true c, Bool.true_and]
        rw [← ok]
        cases eo : sizeOk (stepsOf p (runsOf hh p R)) (1 + i) with
        | true =>
          refine iteT ?_
          refine st_ret (v_rI (g := fun i j => .int (i / j)) (v_rI (g := fun i j => .int (i * j)) (val_var (i := 1) rfl) (val_var (i := 6) rfl) (Or.inr ⟨by omega, by omega⟩)) (val_var (i := 5) rfl) (wide_div (b := 40) (by omega) (by omega) (by decide) (by decide))) ?_
          have := hR (p * ((1 + i : Nat) : Int) / (runsOf hh p R).length) _ cut (.steps hn hf (by omega) (by omega) (Or.inr eo) fun k a b => no k a b) (s03.trans (s4.trans (s5.trans s6)))
          rw [show ((1 + i : Nat) : Int) = 1 + (i : Int) by omega] at this
          exact this
        | false =>
          refine iteF ?_
          exact nx _ (s5.trans s6) eo
      · rw [decide_eq_false (by rw [cast]; omega)] at md
        refine t_and_not md ?_
        refine iteF ?_
        exact nx H4 (fun _ _ e => e) (by unfold sizeOk; rw [ls, decide_eq_false c, Bool.false_and])
    · rintro σ H4 ⟨v6, rfl, s4, no⟩
      refine ⟨_, rfl, ?_⟩
      have := hR (p * ((runsOf hh p R).length : Int) / (runsOf hh p R).length) H4 cut (.steps hn hf r1 (Nat.le_refl _) (Or.inl rfl) fun k a b => no k a (by omega)) (s03.trans s4)
      rw [Int.mul_ediv_cancel _ (by omega)] at this
      exact this
end
end My

namespace My
open PySem L2
section
variable {K : PySem.W.Frag} {a : Addr} {xs : List V} {te : TE} {vs vs1 : List Nat} {σ : St} {H1 : Hp} {Q : VK} {i4 i5 : Nat}
/-- the edges of a row, one by one -/
theorem comp_edges (f : Int → Int) {R : List Iv} (hp : SqT K H1 a xs) (hr : Rw H1 xs R) (hz : R.length ≤ 400000)
    (hw : ∀ x, wipe ((wipe σ vs).set i4 (some x)) vs = wipe σ vs) (h4 : ∀ x, ((wipe σ vs).set i4 (some x))[i4]? = some (some x)) (hw1 : ∀ x y, wipe ((wipe ((wipe σ vs).set i4 (some x)) vs1).set i5 (some y)) vs1 = wipe ((wipe σ vs).set i4 (some x)) vs1)
    (hte : ∀ (x : V) (e : Int) H, Val te ((wipe ((wipe σ vs).set i4 (some x)) vs1).set i5 (some (.int e))) H (.int (f e)))
    (hd : ∀ D H', H1 D = none → H' D = some (.lst ((edges R).map fun e => V.int (f e))) → Same H1 H' → Q (.ref D) H') : tLc2 (iTup K (tC (.ref a))) (gName i4) tYes (iTup K (tVar i4)) (gName i5) tYes te vs vs1 σ H1 Q := by
  have lx := hr.1
  refine ⟨a, rfl, ⟨_, hp⟩, fun D hD => ?_⟩
  refine ⟨fun i m H => m = R.length - i ∧ i ≤ R.length ∧ H D = some (.lst ((edges (R.take i)).map fun e => V.int (f e))) ∧ Same H1 H, ⟨_, rfl, Nat.zero_le _, upd_same, Same.new hD⟩, ?_⟩
  rintro i m H ⟨rfl, hi, eD, sm⟩
  have q := sm.sqT hp
  by_cases hlt : i < R.length
  · obtain ⟨r, hR⟩ : ∃ r, R[i]? = some r := ⟨_, List.getElem?_eq_getElem hlt⟩
    obtain ⟨t, w1, w2⟩ := (hr.same sm).2 i r hR
    refine .inr ⟨⟨xs, .ref t, q, w1⟩, fun H' => H' D = some (.lst ((edges (R.take (i + 1))).map fun e => V.int (f e))) ∧ Same H1 H', fun H' p' => ⟨R.length - (i + 1), by omega, rfl, hlt, p'⟩, fun x H' y => ?_⟩
    obtain ⟨e, y⟩ := y
    subst e
    have e1 := y xs q
    rw [w1] at e1
    cases e1
    have ln : ((edges (R.take i)).map fun e => V.int (f e)).length ≤ 2 * i := by
      rw [List.length_map]
      unfold edges
      rw [List.length_flatMap]
      have : ∀ M : List Iv, (M.map fun a => [a.1, a.2].length).sum = 2 * M.length := fun M => by
        induction M with
        | nil => rfl
        | cons a r ih =>
          rw [List.map_cons, List.sum_cons, ih]
          simp only [List.length_cons, List.length_nil]
          omega
      rw [this, List.length_take]
      omega
    refine ⟨hw _, ⟨_, h4 _, t, rfl, ⟨_, SqT.of w2⟩, ?_⟩⟩
    refine ⟨fun j k H => k = 2 - j ∧ j ≤ 2 ∧ H D = some (.lst (((edges (R.take i)).map fun e => V.int (f e)) ++ [V.int (f r.1), V.int (f r.2)].take j)) ∧ Same H1 H, ⟨_, rfl, Nat.zero_le _, by rw [eD]; simp, sm⟩, ?_⟩
    rintro j k H2 ⟨rfl, hj, eD2, sm2⟩
    obtain ⟨t', w1', w2'⟩ := (hr.same sm2).2 i r hR
    rw [w1] at w1'
    cases w1'
    have qt := SqT.of (K := K) w2'
    by_cases hj2 : j < 2
    · have hx : [V.int r.1, V.int r.2][j]? = some (.int (if j = 0 then r.1 else r.2)) := by
        rcases j with _ | _ | j
        · rfl
        · rfl
        · omega
      refine .inr ⟨⟨_, _, qt, hx⟩, fun H' => H' D = some (.lst (((edges (R.take i)).map fun e => V.int (f e)) ++ [V.int (f r.1), V.int (f r.2)].take (j + 1))) ∧ Same H1 H', fun H' p' => ⟨2 - (j + 1), by omega, rfl, hj2, p'⟩, fun x H' y => ?_⟩
      obtain ⟨e, y⟩ := y
      subst e
      have e1 := y _ qt
      rw [hx] at e1
      cases e1
      refine ⟨hw1 _ _, hte _ _ _ _ ⟨_, eD2, ?_, ?_, fun b o e => ?_⟩⟩
      · rw [List.length_append, List.length_take]
        have : 1000000 ≤ sizeLine := by decide
        show _ + min j 2 < _
        omega
      · rw [upd_same]
        congr 2
        rcases j with _ | _ | j
        · simp
        · simp
        · omega
      · rw [upd_ne (ne_of_none e hD)]
        exact sm2 _ _ e
    · obtain rfl : j = 2 := by omega
      refine .inl ⟨⟨_, qt, Nat.le_refl _⟩, ?_, sm2⟩
      rw [eD2, take_snoc hR]
      unfold edges
      rw [List.flatMap_append, List.map_append]
      rfl
  · obtain rfl : i = R.length := by omega
    rw [List.take_length] at eD
    exact .inl ⟨⟨xs, q, by rw [lx]; exact Nat.le_refl _⟩, hd D H hD eD sm⟩
theorem ne_snoc {bs : List V} {v : V} : (!(bs ++ [v]).isEmpty) = true := by cases bs <;> rfl
theorem cut_last {xs : List Int} : cutV (xs.reverse.map V.int) (some (-1)) none = (xs.take 1).map V.int := by
  unfold cutV
  rcases xs with _ | ⟨x, r⟩
  · rfl
  · have e1 : HT.sIx ((x :: r).reverse.map V.int).length 0 (some (-1)) = r.length := by
      show (if (-1 : Int) < 0 then ((-1 : Int) + (((x :: r).reverse.map V.int).length : Nat)).toNat else min ((-1 : Int).toNat) ((x :: r).reverse.map V.int).length) = r.length
      rw [if_pos (by decide), List.length_map, List.length_reverse, List.length_cons]
      omega
    have e2 : HT.sIx ((x :: r).reverse.map V.int).length ((x :: r).reverse.map V.int).length none = r.length + 1 := by
      show ((x :: r).reverse.map V.int).length = _
      simp
    rw [e1, e2, List.reverse_cons, List.map_append]
    have : r.length = (r.reverse.map V.int).length := by simp
    rw [show r.length + 1 - r.length = 1 by omega]
    rw [List.drop_append_of_le_length (by rw [← this]; exact Nat.le_refl _), List.drop_of_length_le (by rw [← this]; exact Nat.le_refl _)]
    rfl
theorem lc2T {tl : TE} {g g1 : TG} {tt tt1 : TT} {wi1 : TI} (h : tl σ H1 fun v H2 => tLc2 (iTup K (tC v)) g tt wi1 g1 tt1 te vs vs1 σ H2 Q) : tLc2 (iTup K tl) g tt wi1 g1 tt1 te vs vs1 σ H1 Q := h
end
def headOf (N Th : List Iv) (p : Int) : Int := topE (trim (edges N).reverse ((edges Th).map fun e => e - p).reverse).1 (trim (edges N).reverse ((edges Th).map fun e => e - p).reverse).2
def spHead (K : PySem.W.Frag) : Sp := fun vs H Q _ => ∃ (t : Addr) (as : List V) (L : List Iv) (h p : Int), vs = [.int h, .int p, .ref t] ∧ SqT K H t as ∧ Rw H as L ∧ Tidy L ∧ L.length ≤ 100000 ∧ ∀ (N Th : List Iv) H', Cut L 0 h N → Cut L p (h + p) Th → Same H H' → Q (.int (headOf N Th p)) H'
section
variable {P : Program} {w : World} {K : PySem.W.Frag} {mg : Str → Option Value} {base : Heap} {a : Ad}
theorem G_least_head (T : Tx K mg a) : FnOk P w K mg base CX0 3 a.f_least_head a.d_least_head ["head", "period", "pairs"] (spHead K) := by
  refine T.F_least_head.ok sc_least_head (fun vs H Q E h => ?_) (fun cdv A outer s H vs Q E hr h => ?_)
  · obtain ⟨t, as, L, hh, p, rfl, _⟩ := h
    rfl
  · obtain ⟨t, as, L, hh, p, rfl, ht, hrw, td, hz, k⟩ := h
    refine ⟨_, (pss_cons (ps_setLc2 (i := 3) (own := [("pair", 4), ("edge", 5)]) (vs1 := [5]) (g := gName 4) (g1 := gName 5) (tt := tYes) (tt1 := tYes) (wi1 := iTup K (tVar 4)) rfl sc_least_head.nd rfl rfl (sw_true rfl rfl rfl (by decide +kernel)) (pi_tup (pe_call (G_clip T) (hr.mono (by decide)) rfl T.g_clip T.F_clip.kp T.b_clip .nil pass0 (pa_cons (pv 2) (pa_cons pe_int (pa_cons (pv 0) pa_nil))))) (blkOk_by (own := [("pair", 4), ("edge", 5)]) (N := ["head", "period", "pairs", "now", "pair", "edge", "then"]) (sc := defScope s_least_head) (by decide +kernel)) (by decide) (fun _ _ _ _ _ => (pg_name (i := 4) sc_least_head.nd rfl (Or.inl rfl))) (fun _ _ _ _ _ => pts_nil) (fun _ _ _ _ _ => (pi_tup (pv 4))) (fun _ _ _ _ _ => (pg_name (i := 5) sc_least_head.nd rfl (Or.inl rfl))) (fun _ _ _ _ _ => pts_nil) (fun _ _ _ _ _ => (pv 5)))
      (pss_cons (ps_setLc2 (i := 6) (own := [("pair", 4), ("edge", 5)]) (vs1 := [5]) (g := gName 4) (g1 := gName 5) (tt := tYes) (tt1 := tYes) (wi1 := iTup K (tVar 4)) rfl sc_least_head.nd rfl rfl (sw_true rfl rfl rfl (by decide +kernel)) (pi_tup (pe_call (G_clip T) (hr.mono (by decide)) rfl T.g_clip T.F_clip.kp T.b_clip .nil pass0 (pa_cons (pv 2) (pa_cons (pv 1) (pa_cons (pe_op op_add (pv 0) (pv 1)) pa_nil))))) (blkOk_by (own := [("pair", 4), ("edge", 5)]) (N := ["head", "period", "pairs", "now", "pair", "edge", "then"]) (sc := defScope s_least_head) (by decide +kernel)) (by decide) (fun _ _ _ _ _ => (pg_name (i := 4) sc_least_head.nd rfl (Or.inl rfl))) (fun _ _ _ _ _ => pts_nil) (fun _ _ _ _ _ => (pi_tup (pv 4))) (fun _ _ _ _ _ => (pg_name (i := 5) sc_least_head.nd rfl (Or.inl rfl))) (fun _ _ _ _ _ => pts_nil) (fun _ _ _ _ _ => (pe_op op_sub (pv 5) (pv 1))))
      (pss_cons (ps_while PassesOwn.never (PW.pt (pw_and (pt_truth (pv 3) (by intro _; rfl)) (pw_and (pt_truth (pv 6) (by intro _; rfl)) (pw_and1 (pt_cmpR op_eq (pe_ix ix_list (pv 3) (pe_un un_neg pe_int) (fun _ _ => rfl)) (pe_ix ix_list (pv 6) (pe_un un_neg pe_int) (fun _ _ => rfl)) (nomark _)))))) (pss_cons (ps_expr (pe_bm0 PySem.F.plainAttrs_list PySem.F.slot_list_pop PySem.F.type_list_pop mt_pop (pv 3)))
      (pss_one (ps_expr (pe_bm0 PySem.F.plainAttrs_list PySem.F.slot_list_pop PySem.F.type_list_pop mt_pop (pv 6))))))
      (pss_one (ps_ret (pe_callB (cr_max rfl) (by rfl) T.n_max (by decide +kernel) (pa_cons (pe_lst (pa_cons pe_int (StX.pa_star (pe_slice sl_list (pv 3) (po_some (pe_un un_neg pe_int)) po_none) (StX.pa_star (pe_slice sl_list (pv 6) (po_some (pe_un un_neg pe_int)) po_none) pa_nil)))) pa_nil))))))), ?_⟩
    refine st_letX (lc2T ⟨_, rfl, _, rfl, t, as, L, 0, hh, rfl, ht, hrw, td, by omega, fun t2 bs N H1 e1 rw1 cN le1 s1 => ?_⟩)
    refine comp_edges (fun e => e) (SqT.of e1) rw1 (by omega) (fun _ => rfl) (fun _ => rfl) (fun _ _ => rfl) (fun x e H => val_var rfl) fun l1 H2 hl1 e2 s2 => ?_
    have s02 := s1.trans s2
    refine st_letX (lc2T ⟨_, rfl, _, rfl, _, rfl, _, rfl, _, _, rfl, rfl, t, as, L, p, hh + p, rfl, s02.sqT ht, hrw.same s02, td, by omega, fun t3 cs Th H3 e3 rw3 cT le3 s3 => ?_⟩)
    refine comp_edges (fun e => e - p) (SqT.of e3) rw3 (by omega) (fun _ => rfl) (fun _ => rfl) (fun _ _ => rfl) (fun x e H => v_rI0 (g := fun i j => .int (i - j)) (val_var rfl) (val_var rfl)) fun l2 H4 hl2 e4 s4 => ?_
    have kk := k N Th
    have e2' := s4 _ _ (s3 _ _ e2)
    have n12 : l1 ≠ l2 := fun z => by rw [← z, s3 _ _ e2] at hl2; cases hl2
    have r1 : (edges N).map (fun e => V.int e) = ((edges N).reverse).reverse.map V.int := by rw [List.reverse_reverse]
    have r2 : (edges Th).map (fun e => V.int (e - p)) = (((edges Th).map fun e => e - p).reverse).reverse.map V.int := by rw [List.reverse_reverse, List.map_map]; rfl
    rw [r1] at e2'
    rw [r2] at e4
    have hd : headOf N Th p = topE (trim (edges N).reverse ((edges Th).map fun e => e - p).reverse).1 (trim (edges N).reverse ((edges Th).map fun e => e - p).reverse).2 := rfl
    rw [hd] at kk
    have s04 : Same H H4 := s02.trans (s3.trans s4)
    have f1 : H l1 = none := by
      cases e : H l1 with
      | none => rfl
      | some o => exact absurd (s1 _ _ e) (by rw [hl1]; exact fun z => nomatch z)
    have f2 : H l2 = none := by
      cases e : H l2 with
      | none => rfl
      | some o => exact absurd (s3 _ _ (s02 _ _ e)) (by rw [hl2]; exact fun z => nomatch z)
    have ln1 : (edges N).reverse.length ≤ 500000 := by
      rw [List.length_reverse]
      unfold edges
      rw [List.length_flatMap]
      have : ∀ M : List Iv, (M.map fun a => [a.1, a.2].length).sum = 2 * M.length := fun M => by
        induction M with
        | nil => rfl
        | cons a r ih =>
          rw [List.map_cons, List.sum_cons, ih]
          simp only [List.length_cons, List.length_nil]
          omega
      rw [this]
      omega
    generalize (edges N).reverse = ra at e2' kk ln1
    generalize ((edges Th).map fun e => e - p).reverse = rb at e4 kk
    clear e2 r1 r2 hd e1 rw1 e3 rw3
    refine st_seq (st_whileb (fun σ H' => ∃ (xa xb : List Int) (v4 v5 : Option V), σ = [some (.int hh), some (.int p), some (.ref t), some (.ref l1), v4, v5, some (.ref l2)] ∧ H' l1 = some (.lst (xa.reverse.map V.int)) ∧ H' l2 = some (.lst (xb.reverse.map V.int)) ∧ trim xa xb = trim ra rb ∧ Same H H' ∧ xa.length ≤ ra.length)
      (fun _ H' => match H' l1 with | some (.lst xs) => xs.length | _ => 0) ⟨ra, rb, _, _, rfl, e2', e4, rfl, s04, Nat.le_refl _⟩ ?_)
    rintro σ H5 ⟨xa, xb, v4, v5, rfl, q1, q2, q3, q4, q5⟩
    have lx : ∀ (xs : List Int) (x : Int), ((x :: xs).reverse.map V.int) = xs.reverse.map V.int ++ [.int x] := fun xs x => by simp
    have t1 : Ans (fun σ H Q => tVar 3 σ H fun x H' => ∃ k, TruV K x H' k ∧ Q k H') [some (.int hh), some (.int p), some (.ref t), some (.ref l1), v4, v5, some (.ref l2)] H5 (!(xa.reverse.map V.int).isEmpty) := ans_tru (val_var rfl) (Or.inl ⟨_, SqL.of q1, rfl⟩)
    have t2 : Ans (fun σ H Q => tVar 6 σ H fun x H' => ∃ k, TruV K x H' k ∧ Q k H') [some (.int hh), some (.int p), some (.ref t), some (.ref l1), v4, v5, some (.ref l2)] H5 (!(xb.reverse.map V.int).isEmpty) := ans_tru (val_var rfl) (Or.inl ⟨_, SqL.of q2, rfl⟩)
    have fin : trim xa xb = (xa, xb) → tRet (tCB (rMax K) (tCons (tLst (tCons (tC (V.int 0)) (StX.tStar K (tSl (rSlL K) (tVar 3) (tPart (tUn (rU fun i => V.int (-i)) (tC (V.int 1)))) tNoPart) (StX.tStar K (tSl (rSlL K) (tVar 6) (tPart (tUn (rU fun i => V.int (-i)) (tC (V.int 1)))) tNoPart) tNil)))) tNil)) { nx := fun x H' => Q V.non H', rt := Q } [some (.int hh), some (.int p), some (.ref t), some (.ref l1), v4, v5, some (.ref l2)] H5 := fun et => by
      rw [et] at q3
      rw [← q3] at kk
      refine st_ret1 ⟨_, rfl, _, rfl, _, rfl, l1, _, rfl, SqL.of q1, fun p1 hp1 => ⟨p1, _, rfl, Or.inr (SqL.of upd_same), ?_⟩⟩
      have s5 := Same.new (o := .lst (cutV (xa.reverse.map V.int) (some (-1)) none)) hp1
      refine ⟨_, rfl, _, rfl, _, rfl, l2, _, rfl, SqL.of (s5 _ _ q2), fun p2 hp2 => ⟨p2, _, rfl, Or.inr (SqL.of upd_same), ?_⟩⟩
      have s6 := Same.new (o := .lst (cutV (xb.reverse.map V.int) (some (-1)) none)) hp2
      have em : (V.int 0 :: (cutV (xa.reverse.map V.int) (some (-1)) none ++ (cutV (xb.reverse.map V.int) (some (-1)) none ++ []))) = (0 :: (xa.take 1 ++ xb.take 1)).map V.int := by
        rw [cut_last, cut_last]
        simp
      refine ⟨?_, fun p3 hp3 => ?_⟩
      · rw [em]
        simp
        have : 1000000 ≤ sizeLine := by decide
        omega
      · have s7 := Same.new (o := .lst (V.int 0 :: (cutV (xa.reverse.map V.int) (some (-1)) none ++ (cutV (xb.reverse.map V.int) (some (-1)) none ++ [])))) hp3
        refine ⟨p3, 0 :: (xa.take 1 ++ xb.take 1), rfl, by rw [← em]; exact SqL.of upd_same, by simp, fun m hm le => ?_⟩
        have e : m = topE xa xb := by
          unfold topE
          have l0 := le 0 (by simp)
          rcases xa with _ | ⟨x, xa⟩
          · rcases xb with _ | ⟨y, xb⟩
            · simp at hm; simp [hm]
            · have := le y (by simp)
              simp at hm
              simp
              omega
          · have := le x (by simp)
            rcases xb with _ | ⟨y, xb⟩
            · simp at hm
              simp
              omega
            · have := le y (by simp)
              simp at hm
              simp
              omega
        rw [e]
        exact kk _ cN cT (q4.trans (s5.trans (s6.trans s7)))
    rcases xa with _ | ⟨x, xa⟩
    · exact ⟨false, a_and (b := false) (c := true) t1 (fun z => nomatch z), (fun z => nomatch z), fun _ => fin (by simp [trim])⟩
    rcases xb with _ | ⟨y, xb⟩
    · refine ⟨false, ?_, (fun z => nomatch z), fun _ => fin (by simp [trim])⟩
      have t1' : Ans (fun σ H Q => tVar 3 σ H fun x H' => ∃ k, TruV K x H' k ∧ Q k H') [some (.int hh), some (.int p), some (.ref t), some (.ref l1), v4, v5, some (.ref l2)] H5 true := by
        rw [lx, ne_snoc] at t1
        exact t1
      exact a_and (b := true) (c := false) t1' fun _ => a_and (b := false) (c := true) t2 (fun z => nomatch z)
    rw [lx] at q1 q2
    rw [lx, ne_snoc] at t1 t2
    have t1' : Ans (fun σ H Q => tVar 3 σ H fun x H' => ∃ k, TruV K x H' k ∧ Q k H') [some (.int hh), some (.int p), some (.ref t), some (.ref l1), v4, v5, some (.ref l2)] H5 true := t1
    have t2' : Ans (fun σ H Q => tVar 6 σ H fun x H' => ∃ k, TruV K x H' k ∧ Q k H') [some (.int hh), some (.int p), some (.ref t), some (.ref l1), v4, v5, some (.ref l2)] H5 true := t2
    refine ⟨decide (x = y), a_and (b := true) (c := decide (x = y)) t1' fun _ => a_and (b := true) (c := decide (x = y)) t2' fun _ => a_eq (v_ixL (val_var rfl) (v_un (g := fun i => V.int (-i)) val_c) (SqL.of q1) atI_last) (v_ixL (val_var rfl) (v_un (g := fun i => V.int (-i)) val_c) (SqL.of q2) atI_last), fun e => ?_, fun e => ?_⟩
    · obtain rfl := of_decide_eq_true e
      have et : trim (x :: xa) (x :: xb) = trim xa xb := by rw [trim, if_pos rfl]
      refine st_do ⟨_, rfl, tyL q1, l1, _, .int x, rfl, rfl, q1, by simp, ?_⟩
      refine ⟨_, rfl, tyL ((upd_ne n12.symm).trans q2), l2, _, .int x, rfl, rfl, (upd_ne n12.symm).trans q2, by simp, ?_⟩
      rw [List.dropLast_concat, List.dropLast_concat]
      refine ⟨⟨xa, xb, v4, v5, rfl, (upd_ne n12).trans upd_same, upd_same, by rw [← et]; exact q3, fun b o e => ?_, by simp at q5; omega⟩, ?_⟩
      · rw [upd_ne (ne_of_none e f2), upd_ne (ne_of_none e f1)]
        exact q4 _ _ e
      · rw [show (upd (upd H5 l1 (.lst (xa.reverse.map V.int))) l2 (.lst (xb.reverse.map V.int))) l1 = some (.lst (xa.reverse.map V.int)) from (upd_ne n12).trans upd_same, q1]
        simp
    · have ne := of_decide_eq_false e
      refine fin ?_
      rw [trim, if_neg ne]
end
end My

namespace My
open PySem L2
/-- the fields of a Form -/
def ffm (h q : Int) (s : Addr) : List (Str × V) := putF "stretches" (.ref s) (putF "head" (.int h) (putF "period" (.int q) []))
theorem Rw.but {H H' : Hp} {as : List V} {L : List Iv} {x : Addr} {o : HO} (h : Rw H as L) (b : But x H H') (hx : H x = some o) (no : ∀ xs, o ≠ .tup xs) : Rw H' as L := ⟨h.1, fun i a e => let ⟨t, y, z⟩ := h.2 i a e; ⟨t, y, b _ _ z fun q => by rw [q, hx] at z; exact no _ (Option.some.inj z)⟩⟩
theorem ext_cut {h p : Int} {L U : List Iv} (h0 : 0 ≤ h) (p1 : 1 ≤ p) (e : ∀ t, inL U t = true ↔ inL L t = true ∧ 0 ≤ t ∧ t < h + p) {t : Int} (ht : 0 ≤ t) : ext h p (fun t => inL U t = true) t ↔ ext h p (fun t => inL L t = true) t := by
  unfold ext
  show inL U _ = true ↔ inL L _ = true
  rw [e]
  refine ⟨fun z => z.1, fun z => ⟨z, ?_⟩⟩
  have r0 := Int.emod_nonneg (t - h) (show p ≠ 0 by omega)
  have r1 := Int.emod_lt_of_pos (t - h) (show 0 < p by omega)
  split <;> omega
def spForm (a : Ad) (K : PySem.W.Frag) : Sp := fun vs H Q _ => ∃ (x dx m : Addr) (as : List V) (L : List Iv) (h p : Int), vs = [.ref x, .int h, .int p, .ref m] ∧ H x = some (.ins a.c_Form dx []) ∧ SqA K H m as ∧ RwA K H as L ∧ 0 ≤ h ∧ 1 ≤ p ∧ L.length ≤ 100000 ∧
  ∀ (hd q : Int) (S : List Iv) (s : Addr) (bs : List V) H', Canon (ext h p fun t => inL L t = true) hd q S → H' x = some (.ins a.c_Form dx (ffm hd q s)) → H' s = some (.tup bs) → Rw H' bs S → S.length ≤ L.length → But x H H' → Q .non H'
section
variable {P : Program} {w : World} {K : PySem.W.Frag} {mg : Str → Option Value} {base : Heap} {a : Ad}
theorem G_Form_init (T : Tx K mg a) : FnOk P w K mg base CX0 4 a.f_Form_init a.d_Form_init ["self", "head", "period", "pairs"] (spForm a K) := by
  refine T.F_Form_init.ok sc_Form_init (fun vs H Q E h => ?_) (fun cdv A outer s H vs Q E hr h => ?_)
  · obtain ⟨x, dx, m, as, L, hh, p, rfl, _⟩ := h
    rfl
  · obtain ⟨x, dx, m, as, L, hh, p, rfl, hx, hm, hrw, h0, p1, hz, k⟩ := h
    refine ⟨_, (pss_cons (ps_set (i := 4) sc_Form_init.nd rfl (Or.inl rfl) (pe_call (G_clip T) (hr.mono (by decide)) rfl T.g_clip T.F_clip.kp T.b_clip .nil pass0 (pa_cons (pe_call (G_tidy T) (hr.mono (by decide)) rfl T.g_tidy T.F_tidy.kp T.b_tidy .nil pass0 (pa_cons (pv 3) pa_nil)) (pa_cons pe_int (pa_cons (pe_op op_add (pv 1) (pv 2)) pa_nil)))))
      (pss_cons (ps_fld (pv 0) (pe_call (G_least_period T) (hr.mono (by decide)) rfl T.g_least_period T.F_least_period.kp T.b_least_period .nil pass0 (pa_cons (pv 1) (pa_cons (pv 2) (pa_cons (pv 4) pa_nil)))) rfl)
      (pss_cons (ps_set (i := 4) sc_Form_init.nd rfl (Or.inl rfl) (pe_call (G_clip T) (hr.mono (by decide)) rfl T.g_clip T.F_clip.kp T.b_clip .nil pass0 (pa_cons (pv 4) (pa_cons pe_int (pa_cons (pe_op op_add (pv 1) (pe_fld (pv 0) rfl)) pa_nil)))))
      (pss_cons (ps_fld (pv 0) (pe_call (G_least_head T) (hr.mono (by decide)) rfl T.g_least_head T.F_least_head.kp T.b_least_head .nil pass0 (pa_cons (pv 1) (pa_cons (pe_fld (pv 0) rfl) (pa_cons (pv 4) pa_nil)))) rfl)
      (pss_one (ps_fld (pv 0) (pe_call (G_clip T) (hr.mono (by decide)) rfl T.g_clip T.F_clip.kp T.b_clip .nil pass0 (pa_cons (pv 4) (pa_cons pe_int (pa_cons (pe_op op_add (pe_fld (pv 0) rfl) (pe_fld (pv 0) rfl)) pa_nil)))) rfl)))))), ?_⟩
    refine st_letX ⟨_, rfl, m, as, L, rfl, hm, hrw, hz, fun t1 bs1 M H1 e1 rw1 tm im lm s1 => ⟨_, rfl, _, rfl, _, _, rfl, rfl, t1, bs1, M, 0, hh + p, rfl, SqT.of e1, rw1, tm, by omega, fun t2 bs2 U H2 e2 rw2 cU lU s2 => ?_⟩⟩
    have s12 := s1.trans s2
    clear e1 rw1 tm s1 s2
    have bU := cU.box
    refine st_mkH (PV := fun y H' => ∃ (q : Int) (R : List Iv), y = .int q ∧ Cut U hh (hh + p) R ∧ LeastP hh p R q ∧ Same H2 H') (fun Q q => ⟨_, rfl, _, rfl, _, rfl, t2, bs2, U, hh, p, rfl, SqT.of e2, rw2, cU.1, p1, by omega, fun R qq H3 cR lq s3 => q _ _ ⟨qq, R, rfl, cR, lq, s3⟩⟩) (fun _ => val_var rfl) (fun y H' z => let ⟨_, _, _, _, _, s⟩ := z; s _ _ (s12 _ _ hx)) T.cl_Form T.no_Form_period (by show 0 < 1000; decide) ?_
    rintro _ H3 H4 ⟨q, R, rfl, cR, lq, s3⟩ x4 b4
    obtain ⟨_, q1, qp, _⟩ := lq.spec p1 cR.1 cR.box
    have hx3 := s3 _ _ (s12 _ _ hx)
    have e4 := b4 _ _ (s3 _ _ e2) (ne_of (s3 _ _ e2) hx3 (by intro z; cases z))
    have rw4 := (rw2.same s3).but b4 hx3 (by intro xs z; cases z)
    have b04 : But x H H4 := But.same (s12.trans s3) b4
    refine st_letX ⟨_, rfl, _, rfl, _, rfl, x, _, dx, _, _, rfl, x4, T.cl_Form, T.no_Form_period, (by kernel_rfl : List.lookup _ _ = some (V.int q)), _, _, rfl, rfl, t2, bs2, U, 0, hh + q, rfl, SqT.of e4, rw4, cU.1, by omega, fun t5 bs5 W H5 e5 rw5 cW lW s5 => ?_⟩
    have x5 := s5 _ _ x4
    refine st_mkH (PV := fun y H' => ∃ (N Th : List Iv), y = .int (headOf N Th q) ∧ Cut W 0 hh N ∧ Cut W q (hh + q) Th ∧ Same H5 H') (fun Q qq => ⟨_, rfl, _, rfl, x, _, dx, _, _, rfl, x5, T.cl_Form, T.no_Form_period, (by kernel_rfl : List.lookup _ _ = some (V.int q)), _, rfl, t5, bs5, W, hh, q, rfl, SqT.of e5, rw5, cW.1, by omega, fun N Th H6 cN cT s6 => qq _ _ ⟨N, Th, rfl, cN, cT, s6⟩⟩) (fun _ => val_var rfl) (fun y H' z => let ⟨_, _, _, _, _, s⟩ := z; s _ _ x5) T.cl_Form T.no_Form_head (by show 1 < 1000; decide) ?_
    rintro _ H6 H7 ⟨N, Th, rfl, cN, cT, s6⟩ x7 b7
    have x6 := s6 _ _ x5
    have e7 := b7 _ _ (s6 _ _ e5) (ne_of (s6 _ _ e5) x6 (by intro z; cases z))
    have rw7 := (rw5.same s6).but b7 x6 (by intro xs z; cases z)
    have b07 : But x H H7 := (b04.thenS (s5.trans s6)).trans b7
    refine ⟨_, rfl, _, rfl, x, _, dx, _, _, rfl, x7, T.cl_Form, T.no_Form_head, (by kernel_rfl : List.lookup _ _ = some (V.int (headOf N Th q))), _, rfl, x, _, dx, _, _, rfl, x7, T.cl_Form, T.no_Form_period, (by kernel_rfl : List.lookup _ _ = some (V.int q)), _, _, rfl, rfl, t5, bs5, W, 0, headOf N Th q + q, rfl, SqT.of e7, rw7, cW.1, by omega, fun t8 bs8 S H8 e8 rw8 cS lS s8 => ?_⟩
    have x8 := s8 _ _ x7
    refine ⟨_, rfl, x, _, dx, _, rfl, x8, T.cl_Form, T.no_Form_stretches, by show 2 < 1000; decide, ?_⟩
    have can := form_canon h0 p1 cU.1 bU cR lq cW cN cT (L := S) (fun m e => by rw [e]; exact cS)
    have b9 : But x H8 (upd H8 x (.ins a.c_Form dx (ffm (headOf N Th q) q t8))) := (But.refl x H8).upd
    refine k (headOf N Th q) q S t8 bs8 _ (can.congr fun t ht => ?_) upd_same (b9 _ _ e8 (ne_of e8 x8 (by intro z; cases z))) (rw8.but b9 x8 (by intro xs z; cases z)) (by omega) ((b07.thenS s8).trans b9)
    refine ext_cut h0 p1 (fun u => ?_) ht
    rw [cU.2 u, im u]
end
end My

namespace My
open PySem L2
/-- the fields of a Pattern -/
def pf4 (h q : Int) (s u : Addr) : List (Str × V) := putF "_sums" (.ref u) (putF "stretches" (.ref s) (putF "period" (.int q) (putF "head" (.int h) [])))
def pfs (h q : Int) (s u : Addr) (fr : Int) : List (Str × V) := putF "_front" (.int fr) (pf4 h q s u)
def PatAt (a : Ad) (H : Hp) (x : Addr) (h q : Int) (S : List Iv) : Prop := ∃ (dx s : Addr) (bs : List V) (u : Addr), H x = some (.ins a.c_Pattern dx (pfs h q s u (nearOf S h))) ∧ H s = some (.tup bs) ∧ Rw H bs S ∧ H u = some (.tup ((sumsOf S).map V.int)) ∧ Tidy S ∧ S.length ≤ 5000
theorem PatAt.same {a : Ad} {H H' : Hp} {x : Addr} {h q : Int} {S : List Iv} (c : PatAt a H x h q S) (s : Same H H') : PatAt a H' x h q S := let ⟨dx, t, bs, u, e1, e2, e3, e4, e5, e6⟩ := c; ⟨dx, t, bs, u, s _ _ e1, s _ _ e2, e3.same s, s _ _ e4, e5, e6⟩
def spNear (a : Ad) (K : PySem.W.Frag) : Sp := fun vs H Q _ => ∃ (x dx s u : Addr) (fs : List (Str × V)) (bs : List V) (S : List Iv) (m : Int), vs = [.ref x, .int m] ∧ H x = some (.ins a.c_Pattern dx fs) ∧ fs.lookup ("stretches" : Str) = some (.ref s) ∧ fs.lookup ("_sums" : Str) = some (.ref u) ∧ H s = some (.tup bs) ∧ Rw H bs S ∧ H u = some (.tup ((sumsOf S).map V.int)) ∧ Tidy S ∧ S.length ≤ 100000 ∧ Q (.int (nearOf S m)) H
section
variable {P : Program} {w : World} {K : PySem.W.Frag} {mg : Str → Option Value} {base : Heap} {a : Ad}
theorem G_Pattern_near (T : Tx K mg a) : FnOk P w K mg base CX0 2 a.f_Pattern_near a.d_Pattern_near ["self", "minute"] (spNear a K) := by
  refine T.F_Pattern_near.ok sc_Pattern_near (fun vs H Q E h => ?_) (fun cdv A outer s H vs Q E hr h => ?_)
  · obtain ⟨x, dx, s, u, fs, bs, S, m, rfl, _⟩ := h
    rfl
  · obtain ⟨x, dx, t, u, fs, bs, S, m, rfl, hx, f1, f2, ht, hrw, hu, td, hz, k⟩ := h
    refine ⟨_, (pss_cons (ps_set (i := 2) sc_Pattern_near.nd rfl (Or.inl rfl) (pe_call (G_starts_below T) (hr.mono (by decide)) rfl T.g_starts_below T.F_starts_below.kp T.b_starts_below .nil pass0 (pa_cons (pe_fld (pv 0) rfl) (pa_cons (pv 1) pa_nil))))
      (pss_cons (ps_if (pt_cmpR op_eq (pv 2) pe_int (nomark _)) (pss_one (ps_ret pe_int)) pss_nil)
      (pss_cons (ps_asg (pe_ix ix_tup (pe_fld (pv 0) rfl) (pe_op op_sub (pv 2) pe_int) (fun _ _ => rfl)) (pg_tup rfl (pgs_cons (pg_name (i := 3) sc_Pattern_near.nd rfl (Or.inl rfl)) (pgs_cons (pg_name (i := 4) sc_Pattern_near.nd rfl (Or.inl rfl)) pgs_nil))))
      (pss_one (ps_ret (pe_op op_sub (pe_op op_add (pe_ix ix_tup (pe_fld (pv 0) rfl) (pe_op op_sub (pv 2) pe_int) (fun _ _ => rfl)) (pe_callB (call_min2 rfl) (by rfl) T.n_min (by decide +kernel) (pa_cons (pv 1) (pa_cons (pv 4) pa_nil)))) (pv 3))))))), ?_⟩
    have v1 : ∀ {σ : St}, σ[0]? = some (some (V.ref x)) → Val (tFld K (tVar 0) "stretches") σ H (.ref t) := fun e => val_fld (val_var e) hx T.cl_Pattern T.no_Pattern_stretches f1
    have v2 : ∀ {σ : St}, σ[0]? = some (some (V.ref x)) → Val (tFld K (tVar 0) "_sums") σ H (.ref u) := fun e => val_fld (val_var e) hx T.cl_Pattern T.no_Pattern__sums f2
    refine st_let (v_call2 (v1 rfl) (val_var rfl) fun Q q => ⟨t, bs, S, m, rfl, SqT.of ht, hrw, td, by omega, q⟩) ?_
    refine st_guard (q := below S m = 0) (a_eq (val_var (i := 2) rfl) val_c) (by simp) (fun c => ?_) fun c => ?_
    · have e : nearOf S m = 0 := by unfold nearOf; rw [c]
      rw [e] at k
      exact k
    obtain ⟨b, hb⟩ : ∃ b, below S m = b + 1 := ⟨below S m - 1, by omega⟩
    have bl := below_le (L := S) (m := m)
    obtain ⟨z, hz2⟩ : ∃ z, S[b]? = some z := ⟨_, List.getElem?_eq_getElem (by omega)⟩
    obtain ⟨r, w1, w2⟩ := hrw.2 b z hz2
    have en : nearOf S m = tot (S.take b) + min m z.2 - z.1 := by
      unfold nearOf
      rw [hb]
      show tot (S.take b) + min m (S.getD b (0, 0)).2 - (S.getD b (0, 0)).1 = _
      rw [List.getD_eq_getElem?_getD, hz2]
      rfl
    rw [en] at k
    have ix : ∀ {σ : St} {H : Hp}, σ[2]? = some (some (V.int (below S m : Nat))) → Val (tOp (rI0 fun i j => V.int (i - j)) (tVar 2) (tC (V.int 1))) σ H (.int (b : Nat)) := fun {σ H} e => by
      have := v_rI0 (H := H) (g := fun i j => .int (i - j)) (val_var e) (val_c (v := .int 1))
      rw [show ((below S m : Nat) : Int) - 1 = (b : Nat) by omega] at this
      exact this
    refine st_seq ?_
    refine v_ixT (v1 rfl) (ix rfl) (SqT.of ht) (at_of (j := b) rfl w1) _ ?_
    refine g_pair w2 ?_
    refine st_ret (v_rI0 (g := fun i j => .int (i - j)) (v_rI0 (g := fun i j => .int (i + j)) (v_ixT (v2 rfl) (ix rfl) (SqT.of hu) (at_of (j := b) rfl (by rw [List.getElem?_map, sums_get (by omega)]; rfl))) (v_min (val_var rfl) (val_var rfl))) (val_var rfl)) k
/-- what Pattern(h, p, L) tells -/
def PatRes (a : Ad) (E : XK) (H : Hp) (h p : Int) (L : List Iv) (Q : Hp → Int → Int → List Iv → Prop) : Prop :=
  (¬ (0 ≤ h ∧ h ≤ 10 ^ 12) → Out a E H "head" h) ∧ ((0 ≤ h ∧ h ≤ 10 ^ 12) → ¬ (1 ≤ p ∧ p ≤ 10 ^ 12) → Out a E H "period" p) ∧
  ((0 ≤ h ∧ h ≤ 10 ^ 12) → (1 ≤ p ∧ p ≤ 10 ^ 12) → 5000 < L.length → OutM a E H "stretches" L.length) ∧
  ((0 ≤ h ∧ h ≤ 10 ^ 12) → (1 ≤ p ∧ p ≤ 10 ^ 12) → L.length ≤ 5000 → ∀ (i : Nat) (b : Iv), L[i]? = some b → ¬ (0 ≤ b.1 ∧ b.1 < b.2 ∧ b.2 ≤ h + p) → (∀ (j : Nat) b', j < i → L[j]? = some b' → 0 ≤ b'.1 ∧ b'.1 < b'.2 ∧ b'.2 ≤ h + p) → OutB a E H i) ∧
  ((0 ≤ h ∧ h ≤ 10 ^ 12) → (1 ≤ p ∧ p ≤ 10 ^ 12) → L.length ≤ 5000 → (∀ b ∈ L, 0 ≤ b.1 ∧ b.1 < b.2 ∧ b.2 ≤ h + p) → ∀ hd q S H', Canon (ext h p fun t => inL L t = true) hd q S → Q H' hd q S)
def spPat (a : Ad) (K : PySem.W.Frag) : Sp := fun vs H Q E => ∃ (x dx m : Addr) (as : List V) (L : List Iv) (h p : Int), vs = [.ref x, .int h, .int p, .ref m] ∧ H x = some (.ins a.c_Pattern dx []) ∧ SqA K H m as ∧ RwA K H as L ∧ L.length ≤ 100000 ∧
  PatRes a E H h p L fun H' hd q S => PatAt a H' x hd q S → But x H H' → Q .non H'
theorem G_Pattern_init (T : Tx K mg a) : FnOk P w K mg base (L2.CX P w) 6 a.f_Pattern_init a.d_Pattern_init ["self", "head", "period", "stretches"] (spPat a K) := by
  refine T.F_Pattern_init.okX sc_Pattern_init (fun vs H Q E h => ?_) (fun cdv A outer s H vs Q E hr h => ?_)
  · obtain ⟨x, dx, m, as, L, hh, p, rfl, _⟩ := h
    rfl
  · obtain ⟨x, dx, m, as, L, hh, p, rfl, hx, hm, hrw, hz, k1, k2, k3, k4, k5⟩ := h
    refine ⟨_, (pss_cons (ps_expr (pe_call (G_in_range T) (hr.mono (by decide)) rfl T.g_in_range T.F_in_range.kp T.b_in_range .nil (passes_call (takes_of rfl rfl rfl rfl) (fun _ _ _ _ h => h)) (pa_cons pe_str (pa_cons (pv 1) (pa_cons pe_int (pa_cons (pe_glob (v := .int (10 ^ 12)) rfl T.g_LONG.choose_spec ⟨_, rfl⟩) pa_nil))))))
      (pss_cons (ps_expr (pe_call (G_in_range T) (hr.mono (by decide)) rfl T.g_in_range T.F_in_range.kp T.b_in_range .nil (passes_call (takes_of rfl rfl rfl rfl) (fun _ _ _ _ h => h)) (pa_cons pe_str (pa_cons (pv 2) (pa_cons pe_int (pa_cons (pe_glob (v := .int (10 ^ 12)) rfl T.g_LONG.choose_spec ⟨_, rfl⟩) pa_nil))))))
      (pss_cons (ps_if (pt_cmpR op_gt (pe_callB call_len_seq (by rfl) T.n_len (by decide +kernel) (pa_cons (pv 3) pa_nil)) (pe_glob (v := .int 5000) rfl T.g_MOST_STRETCHES.choose_spec ⟨_, rfl⟩) (nomark _)) (pss_one (ps_raise rfl (takes_of rfl rfl rfl rfl) (pmk_oex T.ox_TooMany T.i_TooMany T.t_TooMany (G_TooMany_init T) (hr.mono (by decide)) T.b_TooMany_init .nil pass0 rfl T.g_TooMany (pa_cons pe_str (pa_cons (pe_callB call_len_seq (by rfl) T.n_len (by decide +kernel) (pa_cons (pv 3) pa_nil)) pa_nil))))) pss_nil)
      (pss_cons (ps_for (passes_of rfl) rfl (pi_enumA (by rfl) T.n_enumerate (pa_cons (pv 3) pa_nil)) (pg_tup rfl (pgs_cons (pg_name (i := 4) sc_Pattern_init.nd rfl (Or.inl rfl)) (pgs_cons (pg_alt (pg_tup rfl (pgs_cons (pg_name (i := 5) sc_Pattern_init.nd rfl (Or.inl rfl)) (pgs_cons (pg_name (i := 6) sc_Pattern_init.nd rfl (Or.inl rfl)) pgs_nil))) (pg_lst rfl (pgs_cons (pg_name (i := 5) sc_Pattern_init.nd rfl (Or.inl rfl)) (pgs_cons (pg_name (i := 6) sc_Pattern_init.nd rfl (Or.inl rfl)) pgs_nil)))) pgs_nil))) (pss_one (ps_if (pt_not (pt_chain3 op_le op_lt op_le pe_int (pv 5) (pv 6) (pe_op op_add (pv 1) (pv 2)))) (pss_one (ps_raise rfl (takes_of rfl rfl rfl rfl) (pmk_oex T.ox_BadStretch T.i_BadStretch T.t_BadStretch (G_BadStretch_init T) (hr.mono (by decide)) T.b_BadStretch_init .nil pass0 rfl T.g_BadStretch (pa_cons (pv 4) pa_nil)))) pss_nil)))
      (pss_cons (ps_set (i := 7) sc_Pattern_init.nd rfl (Or.inl rfl) (pe_make T.M_Form (G_Form_init T) (hr.mono (by decide)) rfl T.g_Form T.b_Form_init .nil pass0 (pa_cons (pv 1) (pa_cons (pv 2) (pa_cons (pv 3) pa_nil)))))
      (pss_cons (ps_fld (pv 0) (pe_fld (pv 7) rfl) rfl)
      (pss_cons (ps_fld (pv 0) (pe_fld (pv 7) rfl) rfl)
      (pss_cons (ps_fld (pv 0) (pe_fld (pv 7) rfl) rfl)
      (pss_cons (ps_set (i := 8) sc_Pattern_init.nd rfl (Or.inl rfl) (pe_lst (pa_cons pe_int pa_nil)))
      (pss_cons (ps_for (passes_of rfl) rfl (pi_tup (pe_fld (pv 7) rfl)) (pg_alt (pg_tup rfl (pgs_cons (pg_name (i := 5) sc_Pattern_init.nd rfl (Or.inl rfl)) (pgs_cons (pg_name (i := 6) sc_Pattern_init.nd rfl (Or.inl rfl)) pgs_nil))) (pg_lst rfl (pgs_cons (pg_name (i := 5) sc_Pattern_init.nd rfl (Or.inl rfl)) (pgs_cons (pg_name (i := 6) sc_Pattern_init.nd rfl (Or.inl rfl)) pgs_nil)))) (pss_one (ps_expr (pe_bm PySem.F.plainAttrs_list PySem.F.slot_list_append PySem.F.type_list_append mt_append (pv 8) (pa_cons (pe_op op_sub (pe_op op_add (pe_ix ix_list (pv 8) (pe_un un_neg pe_int) (fun _ _ => rfl)) (pv 6)) (pv 5)) pa_nil)))))
      (pss_cons (ps_fld (pv 0) (pe_callTy call_tuple_of (by rfl) T.n_tuple (by decide +kernel) (pa_cons (pv 8) pa_nil)) rfl)
      (pss_one (ps_fld (pv 0) (pe_meth (pv 0) T.cl_Pattern T.m_Pattern_near (G_Pattern_near T) (hr.mono (by decide)) T.b_Pattern_near .nil pass0 (pa_cons (pe_fld (pv 7) rfl) pa_nil)) rfl))))))))))))), ?_⟩
    have la := hrw.1
    refine st_do ⟨_, rfl, "head", hh, 0, 10 ^ 12, rfl, fun c1 => ?_, k1⟩
    refine st_do ⟨_, rfl, "period", p, 1, 10 ^ 12, rfl, fun c2 => ?_, k2 c1⟩
    have vl : ∀ {σ : St}, σ[3]? = some (some (V.ref m)) → Val (tCB (fun xs H_1 Q => ∃ p ys, xs = [V.ref p] ∧ (SqL K H_1 p ys ∨ SqT K H_1 p ys) ∧ Q (V.int ↑ys.length) H_1) (tCons (tVar 3) tNil)) σ H (.int (L.length : Nat)) := fun e => v_cb (val_var e) fun Q q => ⟨m, as, rfl, hm, by rw [la]; exact q⟩
    refine st_guard (q := 5000 < L.length) (a_cmp (f := fun i j => decide (j < i)) (vl rfl) val_c) (by simp; omega) (fun c => ?_) fun c => ?_
    · exact mkO2 val_c (vl rfl) (x2_made (k3 c1 c2 c))
    have k4 := k4 c1 c2 (by omega)
    have k5 := k5 c1 c2 (by omega)
    refine st_seq (st_forEA' (a := m) (xs := as) (fun R q => ⟨_, rfl, q⟩) hm (fun i σ' H' => ∃ v4 v5 v6, σ' = [some (.ref x), some (.int hh), some (.int p), some (.ref m), v4, v5, v6, none, none] ∧ Same H H' ∧ ∀ (j : Nat) b', j < i → L[j]? = some b' → 0 ≤ b'.1 ∧ b'.1 < b'.2 ∧ b'.2 ≤ hh + p) ⟨none, none, none, rfl, Same.refl H, fun j b' z => by omega⟩ (fun i σ' H' z => let ⟨_, _, _, _, s, _⟩ := z; s) ?_ ?_)
    · rintro i y T σ H' hy ⟨v4, v5, v6, rfl, s1, ok⟩ hT
      have hi : i < L.length := by rw [← la]; exact (List.getElem?_eq_some_iff.mp hy).1
      obtain ⟨b, hb⟩ : ∃ b, L[i]? = some b := ⟨_, List.getElem?_eq_getElem hi⟩
      obtain ⟨t, w1, w2⟩ := hrw.2 i b hb
      rw [hy] at w1
      cases w1
      have sT := Same.new (o := .tup [V.int (i : Nat), V.ref t]) hT
      have s2 := s1.trans sT
      refine ⟨T, _, rfl, SqT.of upd_same, rfl, _, _, rfl, _, _, rfl, g_pairA rfl (sT.sqA (s1.sqA w2)) ⟨rfl, ?_⟩⟩
      refine st_ifp (q := ¬ (0 ≤ b.1 ∧ b.1 < b.2 ∧ b.2 ≤ hh + p)) (ans_not (a_val (v_chain3 (f := fun i j => decide (i ≤ j)) (g := fun i j => decide (i < j)) (h := fun i j => decide (i ≤ j)) val_c (val_var (i := 5) rfl) (val_var (i := 6) rfl) (v_rI0 (g := fun i j => .int (i + j)) (val_var (i := 1) rfl) (val_var (i := 2) rfl))))) (by simp; omega) (fun c => ?_) fun c => ?_
      · exact mkO1 (val_var rfl) (x1_made fun d H2 e s => k4 i b hb c ok d H2 e (s2.trans s))
      · refine ⟨_, _, _, rfl, s2, fun j b' hj hb' => ?_⟩
        by_cases e : j = i
        · subst e
          rw [hb] at hb'
          cases hb'
          exact Classical.not_not.mp c
        · exact ok j b' (by omega) hb'
    rintro σ' H1 ⟨v4, v5, v6, rfl, s1, ok⟩
    rw [la] at ok
    have all : ∀ b ∈ L, 0 ≤ b.1 ∧ b.1 < b.2 ∧ b.2 ≤ hh + p := fun b hb => by
      obtain ⟨j, hj⟩ := List.mem_iff_getElem?.mp hb
      exact ok j b (List.getElem?_eq_some_iff.mp hj).1 hj
    have k5 := k5 all
    have x1 := s1 _ _ hx
    dsimp only
    refine st_letX ⟨_, rfl, _, rfl, _, rfl, fun y dy hy hdy nyd => ⟨y, dy, m, as, L, hh, p, rfl, upd_same, ?_, ?_, by omega, by omega, by omega, fun hd q S st bs H2 can ey est rws lS b2 => ⟨rfl, ?_⟩⟩⟩
    case refine_1 => exact ((Same.new hdy).trans (Same.new ((upd_ne nyd.symm).trans hy))).sqA (s1.sqA hm)
    case refine_2 => exact hrw.same (s1.trans ((Same.new hdy).trans (Same.new ((upd_ne nyd.symm).trans hy))))
    have s2 : Same H1 H2 := fun b o e => b2 _ _ ((upd_ne (ne_of_none e hy)).trans ((upd_ne (ne_of_none e hdy)).trans e)) (ne_of_none e hy)
    have x2 := s2 _ _ x1
    have nyx : y ≠ x := (ne_of_none x1 hy).symm
    have td := can.td
    have fy : ∀ {H' : Hp} {σ : St} {f : Str} {v : V}, H' y = some (.ins a.c_Form dy (ffm hd q st)) → σ[7]? = some (some (V.ref y)) → NoAttr K a.c_Form f → (ffm hd q st).lookup f = some v → Val (tFld K (tVar 7) f) σ H' v := fun e1 e2 n l => val_fld (val_var e2) e1 T.cl_Form n l
    refine st_mk (fy ey rfl T.no_Form_head (by kernel_rfl : List.lookup _ _ = some (V.int hd))) (val_var rfl) x2 T.cl_Pattern T.no_Pattern_head (by show 0 < 1000; decide) fun H3 x3 b3 => ?_
    have y3 := b3 _ _ ey nyx
    refine st_mk (fy y3 rfl T.no_Form_period (by kernel_rfl : List.lookup _ _ = some (V.int q))) (val_var rfl) x3 T.cl_Pattern T.no_Pattern_period (by show 1 < 1000; decide) fun H4 x4 b4 => ?_
    have y4 := b4 _ _ y3 nyx
    refine st_mk (fy y4 rfl T.no_Form_stretches (by kernel_rfl : List.lookup _ _ = some (V.ref st))) (val_var rfl) x4 T.cl_Pattern T.no_Pattern_stretches (by show 2 < 1000; decide) fun H5 x5 b5 => ?_
    have y5 := b5 _ _ y4 nyx
    have b25 : But x H2 H5 := (b3.trans b4).trans b5
    have est5 := b25 _ _ est (ne_of est x2 (by intro z; cases z))
    have rws5 := rws.but b25 x2 (by intro xs z; cases z)
    have b05 : But x H H5 := But.same (s1.trans s2) b25
    clear b3 b4 b5 y3 y4 x3 x4 ey est rws b25 b2
    refine st_letX ⟨by show 1 ≤ sizeLine; decide, fun l hl => ?_⟩
    have s6 := Same.new (o := .lst [V.int 0]) hl
    have lb := rws5.1
    refine st_seq (st_forT (a := st) (xs := bs) (fun R q => fy (s6 _ _ y5) rfl T.no_Form_stretches (by kernel_rfl : List.lookup _ _ = some (V.ref st)) _ q) (fun i σ' H' => ∃ v5 v6, σ' = [some (.ref x), some (.int hh), some (.int p), some (.ref m), v4, v5, v6, some (.ref y), some (.ref l)] ∧ H' l = some (.lst ((sumsOf (S.take i)).map V.int)) ∧ Same H5 H') ⟨_, _, rfl, upd_same, s6⟩ (fun i σ' H' _ z => let ⟨_, _, _, _, s⟩ := z; SqT.of (s _ _ est5)) ?_ ?_)
    · rintro i v σ' H' hv ⟨v5, v6, rfl, el, s7⟩
      have hi : i < S.length := by rw [← lb]; exact (List.getElem?_eq_some_iff.mp hv).1
      obtain ⟨b, hb⟩ : ∃ b, S[i]? = some b := ⟨_, List.getElem?_eq_getElem hi⟩
      obtain ⟨t, w1, w2⟩ := (rws5.same s7).2 i b hb
      rw [hv] at w1
      cases w1
      refine g_pairA rfl (Or.inr (SqT.of w2)) ?_
      have el2 : (sumsOf (S.take i)).map V.int = ((List.range i).map fun j => V.int (tot ((S.take i).take j))) ++ [V.int (tot (S.take i))] := by
        unfold sumsOf
        have l0 : (S.take i).length = i := by rw [List.length_take]; omega
        rw [l0, List.range_succ, List.map_append, List.map_append, List.map_map, List.map_singleton, List.map_singleton, List.take_take, Nat.min_self]
        rfl
      refine ⟨_, rfl, tyL el, ?_⟩
      refine v_rI0 (g := fun i j => .int (i - j)) (v_rI0 (g := fun i j => .int (i + j)) (v_ixL (val_var rfl) (v_un (g := fun i => V.int (-i)) val_c) (SqL.of el) (by rw [el2]; exact atI_last)) (val_var rfl)) (val_var rfl) _ ?_
      refine ⟨l, _, _, rfl, rfl, el, by
        rw [List.length_map, sums_len, List.length_take]
        have : 1000000 ≤ sizeLine := by decide
        omega, ⟨_, _, rfl, ?_, fun b o e => ?_⟩⟩
      · rw [upd_same, sums_snoc hb, List.map_append]
        rw [show tot (S.take i) + b.2 - b.1 = tot (S.take i) + (b.2 - b.1) by omega]
        rfl
      · rw [upd_ne (ne_of_none e hl)]
        exact s7 _ _ e
    rintro σ' H6 ⟨v5, v6, rfl, el, s7⟩
    rw [lb, List.take_length] at el
    have x6 := s7 _ _ x5
    have y6 := s7 _ _ y5
    dsimp only
    refine st_mkH (PV := fun v H' => ∃ u, v = .ref u ∧ H' u = some (.tup ((sumsOf S).map V.int)) ∧ Same H6 H') (fun Q qq => ⟨_, rfl, l, _, rfl, Or.inl ⟨SqL.of el, fun u hu => qq _ _ ⟨u, rfl, upd_same, Same.new hu⟩⟩⟩) (fun _ => val_var rfl) (fun v H' z => let ⟨_, _, _, s⟩ := z; s _ _ x6) T.cl_Pattern T.no_Pattern__sums (by show 3 < 1000; decide) ?_
    rintro _ H7 H8 ⟨u, rfl, eu, s8⟩ x8 b8
    have x7 := s8 _ _ x6
    have eu8 := b8 _ _ eu (ne_of eu x7 (by intro z; cases z))
    have est7 := s8 _ _ (s7 _ _ est5)
    have est8 := b8 _ _ est7 (ne_of est7 x7 (by intro z; cases z))
    have rws8 := (rws5.same (s7.trans s8)).but b8 x7 (by intro xs z; cases z)
    have y8 := b8 _ _ (s8 _ _ y6) nyx
    refine ⟨_, rfl, x, dx, _, rfl, x8, (by kernel_rfl : List.lookup _ _ = (none : Option V)), _, rfl, y, _, dy, _, _, rfl, y8, T.cl_Form, T.no_Form_head, (by kernel_rfl : List.lookup _ _ = some (V.int hd)), x, dx, st, u, _, bs, S, hd, rfl, x8, (by kernel_rfl : List.lookup _ _ = some (V.ref st)), (by kernel_rfl : List.lookup _ _ = some (V.ref u)), est8, rws8, eu8, td, by omega, ?_⟩
    refine ⟨_, rfl, x, _, dx, _, rfl, x8, T.cl_Pattern, T.no_Pattern__front, by show 4 < 1000; decide, ?_⟩
    have b9 : But x H8 (upd H8 x (.ins a.c_Pattern dx (pfs hd q st u (nearOf S hd)))) := (But.refl x H8).upd
    exact k5 hd q S _ can ⟨dx, st, bs, u, upd_same, b9 _ _ est8 (ne_of est8 x8 (by intro z; cases z)), rws8.but b9 x8 (by intro xs z; cases z), b9 _ _ eu8 (ne_of eu8 x8 (by intro z; cases z)), td, by omega⟩ (((b05.thenS (s7.trans s8)).trans b8).trans b9)
end
end My

namespace My
open PySem L2
/-- a new pattern of these minutes -/
def NewPat (a : Ad) (H : Hp) (P : Int → Prop) (Q : VK) : Prop := ∀ x hd q S H', Canon P hd q S → PatAt a H' x hd q S → Same H H' → Q (.ref x) H'
/-- Pattern(h, p, L) made where all is well -/
theorem newPat {a : Ad} {K : PySem.W.Frag} {H : Hp} {m : Addr} {as : List V} {L : List Iv} {h p : Int} {Q : VK} {E : XK} (hm : SqA K H m as) (hrw : RwA K H as L) (c1 : 0 ≤ h ∧ h ≤ 10 ^ 12) (c2 : 1 ≤ p ∧ p ≤ 10 ^ 12) (hl : L.length ≤ 5000) (ok : ∀ b ∈ L, 0 ≤ b.1 ∧ b.1 < b.2 ∧ b.2 ≤ h + p)
    (k : NewPat a H (ext h p fun t => inL L t = true) Q) : ∀ x dx, H x = none → H dx = none → dx ≠ x → spPat a K (.ref x :: ([.int h, .int p, .ref m] ++ [])) (upd (upd H dx (.own x)) x (.ins a.c_Pattern dx [])) (fun v H2 => v = .non ∧ Q (.ref x) H2) E := fun x dx hx hdx n => by
  have s1 : Same H (upd (upd H dx (.own x)) x (.ins a.c_Pattern dx [])) := (Same.new hdx).trans (Same.new ((upd_ne n.symm).trans hx))
  refine ⟨x, dx, m, as, L, h, p, rfl, upd_same, s1.sqA hm, hrw.same s1, by omega, fun z => absurd c1 z, fun _ z => absurd c2 z, fun _ _ z => by omega, fun _ _ _ i b hb nb _ => absurd (ok b (List.mem_of_getElem? hb)) nb, fun _ _ _ _ hd q S H' can pat bt => ⟨rfl, k x hd q S H' can pat fun b o e => bt _ _ ((upd_ne (ne_of_none e hx)).trans ((upd_ne (ne_of_none e hdx)).trans e)) (ne_of_none e hx)⟩⟩
theorem NewPat.same {a : Ad} {H H' : Hp} {P : Int → Prop} {Q : VK} (k : NewPat a H P Q) (s : Same H H') : NewPat a H' P Q := fun x hd q S H2 c p s2 => k x hd q S H2 c p (s.trans s2)
theorem in_below {S : List Iv} {t : Int} (td : Tidy S) : inL S t = match below S (t + 1) with
    | 0 => false
    | b + 1 => decide (t < (S.getD b (0, 0)).2) := by
  refine bool_ext ?_
  rw [inL_iff]
  have bl := below_le (L := S) (m := t + 1)
  cases hb : below S (t + 1) with
  | zero =>
    refine ⟨fun ⟨z, hz, z1, z2⟩ => ?_, fun z => nomatch z⟩
    obtain ⟨j, hj⟩ := List.mem_iff_getElem?.mp hz
    have := (below_spec (m := t + 1) td hj).mpr (by omega)
    omega
  | succ b =>
    obtain ⟨y, hy⟩ : ∃ y, S[b]? = some y := ⟨_, List.getElem?_eq_getElem (by omega)⟩
    have hg : S.getD b (0, 0) = y := by rw [List.getD_eq_getElem?_getD, hy]; rfl
    show _ ↔ decide (t < (S.getD b (0, 0)).2) = true
    rw [hg, decide_eq_true_eq]
    have yb := (below_spec (m := t + 1) td hy).mp (by omega)
    refine ⟨fun ⟨z, hz, z1, z2⟩ => ?_, fun z => ⟨y, List.mem_of_getElem? hy, by omega, z⟩⟩
    obtain ⟨j, hj⟩ := List.mem_iff_getElem?.mp hz
    have jb := (below_spec (m := t + 1) td hj).mpr (by omega)
    by_cases e : j = b
    · subst e
      rw [hy] at hj
      cases hj
      exact z2
    · have := tidy_lt td (show j < b by omega) hj hy
      omega
def spNever (a : Ad) : Sp := fun vs H Q _ => vs = [] ∧ NewPat a H (ext 0 1 fun t => inL [] t = true) Q
def spAlways (a : Ad) : Sp := fun vs H Q _ => vs = [] ∧ NewPat a H (ext 0 1 fun t => inL [(0, 1)] t = true) Q
def spOnce (a : Ad) (K : PySem.W.Frag) : Sp := fun vs H Q E => ∃ (m : Addr) (ks : List Int), vs = [.ref m] ∧ SqA K H m (ks.map V.int) ∧ ks.length ≤ 100000 ∧ (5000 < ks.length → OutM a E H "minutes" ks.length) ∧
  (ks.length ≤ 5000 → ∀ (i : Nat) (b : Int), ks[i]? = some b → ¬ (0 ≤ b ∧ b < 10 ^ 12) → (∀ (j : Nat) b', j < i → ks[j]? = some b' → 0 ≤ b' ∧ b' < 10 ^ 12) → OutB a E H i) ∧
  (ks.length ≤ 5000 → (∀ b ∈ ks, 0 ≤ b ∧ b < 10 ^ 12) → NewPat a H (ext (10 ^ 12) 1 fun t => inL (ks.map fun k => (k, k + 1)) t = true) Q)
def spEvery (a : Ad) : Sp := fun vs H Q E => ∃ (p f : Int), vs = [.int p, .int f] ∧ (¬ (1 ≤ p ∧ p ≤ 10 ^ 12) → Out a E H "period" p) ∧ ((1 ≤ p ∧ p ≤ 10 ^ 12) → ¬ (0 ≤ f ∧ f ≤ 10 ^ 12) → Out a E H "first" f) ∧
  ((1 ≤ p ∧ p ≤ 10 ^ 12) → (0 ≤ f ∧ f ≤ 10 ^ 12) → NewPat a H (ext f p fun t => inL [(f, f + 1)] t = true) Q)
def spSpan (a : Ad) : Sp := fun vs H Q E => ∃ (s e : Int), vs = [.int s, .int e] ∧ (¬ (0 ≤ s ∧ s ≤ 10 ^ 12) → Out a E H "start" s) ∧ ((0 ≤ s ∧ s ≤ 10 ^ 12) → ¬ (s ≤ e ∧ e ≤ 10 ^ 12) → Out a E H "end" e) ∧
  ((0 ≤ s ∧ s ≤ 10 ^ 12) → (s ≤ e ∧ e ≤ 10 ^ 12) → NewPat a H (ext e 1 fun t => inL (if s < e then [(s, e)] else []) t = true) Q)
def spRunEnd (a : Ad) : Sp := fun vs H Q _ => ∃ (x : Addr) (h p : Int) (S : List Iv) (m : Int), vs = [.ref x, .int m] ∧ PatAt a H x h p S ∧ 1 ≤ p ∧ p ≤ 10 ^ 12 ∧ (inL S (placeOf h p m) = true → ∀ z, Q (.int z) H) ∧ (inL S (placeOf h p m) = false → Q .non H)
def spIn (a : Ad) : Sp := fun vs H Q E => ∃ (x : Addr) (h p : Int) (S : List Iv) (m : Int), vs = [.ref x, .int m] ∧ PatAt a H x h p S ∧ 1 ≤ p ∧ p ≤ 10 ^ 12 ∧ (¬ (-(10 ^ 40) ≤ m ∧ m ≤ 10 ^ 40) → Out a E H "minute" m) ∧
  ((-(10 ^ 40) ≤ m ∧ m ≤ 10 ^ 40) → Q (.bl (decide (0 ≤ m) && inL S (placeOf h p m))) H)
def spFin (a : Ad) : Sp := fun vs H Q _ => ∃ (x : Addr) (h p : Int) (S : List Iv), vs = [.ref x] ∧ PatAt a H x h p S ∧ Q (.bl (decide (tot S = nearOf S h))) H
def spEmp (a : Ad) : Sp := fun vs H Q _ => ∃ (x : Addr) (h p : Int) (S : List Iv), vs = [.ref x] ∧ PatAt a H x h p S ∧ Q (.bl (decide (tot S = 0))) H
section
variable {P : Program} {w : World} {K : PySem.W.Frag} {mg : Str → Option Value} {base : Heap} {a : Ad}
theorem G_Pattern_never (T : Tx K mg a) : FnOk P w K mg base (L2.CX P w) 8 a.f_Pattern_never a.d_Pattern_never [] (spNever a) := by
  refine T.F_Pattern_never.okX sc_Pattern_never (fun vs H Q E h => ?_) (fun cdv A outer s H vs Q E hr h => ?_)
  · obtain ⟨rfl, _⟩ := h
    rfl
  · obtain ⟨rfl, k⟩ := h
    refine ⟨_, (pss_one (ps_ret (pe_make T.M_Pattern (G_Pattern_init T) (hr.mono (by decide)) rfl T.g_Pattern T.b_Pattern_init .nil passL (pa_cons pe_int (pa_cons pe_int (pa_cons (pe_tup pa_nil) pa_nil)))))), ?_⟩
    refine st_ret0 (mk3 val_c val_c (tup_nil fun t H' ht s' => ?_))
    exact newPat (Or.inr (SqT.of ht)) Rw.nil.toA (by omega) (by omega) (by show 0 ≤ 5000; omega) (fun b hb => nomatch hb) (k.same s')
theorem G_Pattern_always (T : Tx K mg a) : FnOk P w K mg base (L2.CX P w) 8 a.f_Pattern_always a.d_Pattern_always [] (spAlways a) := by
  refine T.F_Pattern_always.okX sc_Pattern_always (fun vs H Q E h => ?_) (fun cdv A outer s H vs Q E hr h => ?_)
  · obtain ⟨rfl, _⟩ := h
    rfl
  · obtain ⟨rfl, k⟩ := h
    refine ⟨_, (pss_one (ps_ret (pe_make T.M_Pattern (G_Pattern_init T) (hr.mono (by decide)) rfl T.g_Pattern T.b_Pattern_init .nil passL (pa_cons pe_int (pa_cons pe_int (pa_cons (pe_tup (pa_cons (pe_tup (pa_cons pe_int (pa_cons pe_int pa_nil))) pa_nil)) pa_nil)))))), ?_⟩
    refine st_ret0 (mk3 val_c val_c (tup_pair val_c val_c fun t u H' ht hu s' => ?_))
    exact newPat (Or.inr (SqT.of ht)) (Rw.cons (a := (0, 1)) hu Rw.nil).toA (by omega) (by omega) (by show 1 ≤ 5000; omega) (fun b hb => by
      obtain rfl := List.mem_singleton.mp hb
      exact ⟨by decide, by decide, by decide⟩) (k.same s')
theorem G_Pattern_once (T : Tx K mg a) : FnOk P w K mg base (L2.CX P w) 8 a.f_Pattern_once a.d_Pattern_once ["minutes"] (spOnce a K) := by
  refine T.F_Pattern_once.okX sc_Pattern_once (fun vs H Q E h => ?_) (fun cdv A outer s H vs Q E hr h => ?_)
  · obtain ⟨m, ks, rfl, _⟩ := h
    rfl
  · obtain ⟨m, ks, rfl, hm, hz, k1, k2, k3⟩ := h
    refine ⟨_, (pss_cons (ps_if (pt_cmpR op_gt (pe_callB call_len_seq (by rfl) T.n_len (by decide +kernel) (pa_cons (pv 0) pa_nil)) (pe_glob (v := .int 5000) rfl T.g_MOST_STRETCHES.choose_spec ⟨_, rfl⟩) (nomark _)) (pss_one (ps_raise rfl (takes_of rfl rfl rfl rfl) (pmk_oex T.ox_TooMany T.i_TooMany T.t_TooMany (G_TooMany_init T) (hr.mono (by decide)) T.b_TooMany_init .nil pass0 rfl T.g_TooMany (pa_cons pe_str (pa_cons (pe_callB call_len_seq (by rfl) T.n_len (by decide +kernel) (pa_cons (pv 0) pa_nil)) pa_nil))))) pss_nil)
      (pss_cons (ps_for (passes_of rfl) rfl (pi_enumA (by rfl) T.n_enumerate (pa_cons (pv 0) pa_nil)) (pg_tup rfl (pgs_cons (pg_name (i := 1) sc_Pattern_once.nd rfl (Or.inl rfl)) (pgs_cons (pg_name (i := 2) sc_Pattern_once.nd rfl (Or.inl rfl)) pgs_nil))) (pss_one (ps_if (pt_not (pt_chain op_le op_lt pe_int (pv 2) (pe_glob (v := .int (10 ^ 12)) rfl T.g_LONG.choose_spec ⟨_, rfl⟩))) (pss_one (ps_raise rfl (takes_of rfl rfl rfl rfl) (pmk_oex T.ox_BadStretch T.i_BadStretch T.t_BadStretch (G_BadStretch_init T) (hr.mono (by decide)) T.b_BadStretch_init .nil pass0 rfl T.g_BadStretch (pa_cons (pv 1) pa_nil)))) pss_nil)))
      (pss_one (ps_ret (pe_make T.M_Pattern (G_Pattern_init T) (hr.mono (by decide)) rfl T.g_Pattern T.b_Pattern_init .nil (passes_call (takes_of rfl rfl rfl rfl) (fun _ _ _ _ h => h)) (pa_cons (pe_glob (v := .int (10 ^ 12)) rfl T.g_LONG.choose_spec ⟨_, rfl⟩) (pa_cons pe_int (pa_cons (pe_lc (own := [("minute", 2)]) (g := gName 2) (tt := tYes) rfl sc_Pattern_once.nd (pi_seq (pv 0)) (blkOk_by (own := [("minute", 2)]) (N := ["minutes", "at", "minute"]) (sc := defScope s_Pattern_once) (by decide +kernel)) (fun _ _ _ _ _ => (pg_name (i := 2) sc_Pattern_once.nd rfl (Or.inl rfl))) (fun _ _ _ _ _ => pts_nil) (fun _ _ _ _ _ => (pe_tup (pa_cons (pv 2) (pa_cons (pe_op op_add (pv 2) pe_int) pa_nil))))) pa_nil)))))))), ?_⟩
    have vl : ∀ {σ : St}, σ[0]? = some (some (V.ref m)) → Val (tCB (fun xs H_1 Q => ∃ p ys, xs = [V.ref p] ∧ (SqL K H_1 p ys ∨ SqT K H_1 p ys) ∧ Q (V.int ↑ys.length) H_1) (tCons (tVar 0) tNil)) σ H (.int (ks.length : Nat)) := fun e => v_cb (val_var e) fun Q q => ⟨m, _, rfl, hm, by rw [List.length_map]; exact q⟩
    refine st_guard (q := 5000 < ks.length) (a_cmp (f := fun i j => decide (j < i)) (vl rfl) val_c) (by simp; omega) (fun c => ?_) fun c => ?_
    · exact mkO2 val_c (vl rfl) (x2_made (k1 c))
    have k2 := k2 (by omega)
    have k3 := k3 (by omega)
    refine st_seq (st_forEA' (a := m) (xs := ks.map V.int) (fun R q => ⟨_, rfl, q⟩) hm (fun i σ' H' => ∃ v1 v2, σ' = [some (.ref m), v1, v2] ∧ Same H H' ∧ ∀ (j : Nat) b', j < i → ks[j]? = some b' → 0 ≤ b' ∧ b' < 10 ^ 12) ⟨none, none, rfl, Same.refl H, fun j b' z => by omega⟩ (fun i σ' H' z => let ⟨_, _, _, s, _⟩ := z; s) ?_ ?_)
    · rintro i y Tn σ H' hy ⟨v1, v2, rfl, s1, ok⟩ hT
      obtain ⟨b, hb, rfl⟩ := ints_get hy
      have sT := Same.new (o := .tup [V.int (i : Nat), V.int b]) hT
      refine ⟨Tn, _, rfl, SqT.of upd_same, rfl, _, _, rfl, _, _, rfl, rfl, ?_⟩
      refine st_ifp (q := ¬ (0 ≤ b ∧ b < 10 ^ 12)) (ans_not (a_val (v_chain (f := fun i j => decide (i ≤ j)) (g := fun i j => decide (i < j)) val_c (val_var (i := 2) rfl) val_c))) (by simp; omega) (fun c => ?_) fun c => ?_
      · exact mkO1 (val_var rfl) (x1_made fun d H2 e s => k2 i b hb c ok d H2 e ((s1.trans sT).trans s))
      · refine ⟨_, _, rfl, s1.trans sT, fun j b' hj hb' => ?_⟩
        by_cases e : j = i
        · subst e
          rw [hb] at hb'
          cases hb'
          exact Classical.not_not.mp c
        · exact ok j b' (by omega) hb'
    rintro σ' H1 ⟨v1, v2, rfl, s1, ok⟩
    rw [List.length_map] at ok
    have all : ∀ b ∈ ks, 0 ≤ b ∧ b < 10 ^ 12 := fun b hb => by
      obtain ⟨j, hj⟩ := List.mem_iff_getElem?.mp hb
      exact ok j b (List.getElem?_eq_some_iff.mp hj).1 hj
    have k3 := (k3 all).same s1
    refine st_ret0 (mk3 val_c val_c (lcA (val_var rfl) ?_))
    refine cg_A (fun _ => true) (RelP (ks.map fun k => (k, k + 1))) RelP.mono (s1.sqA hm) (by rw [List.length_map]; omega) (fun D i x H2 bs hD hx eD s2 C q => ?_) fun D bs H2 hD eD ar s2 => ?_
    · obtain ⟨b, hb, rfl⟩ := ints_get hx
      exact g_name (q _ _ (But.refl _ _) rfl rfl (fun _ z => z) fun _ => Gives.pair (y := .int (b + 1)) eD (val_var rfl) (v_rI0 (g := fun i j => .int (i + j)) (val_var rfl) val_c) fun t ht n => ⟨t, (b, b + 1), rfl, n, by rw [List.getElem?_map, hb]; rfl, upd_same⟩)
    · have r := pairs_of ar (by rw [List.length_map, List.length_map])
      exact newPat (Or.inl (SqL.of eD)) r.toA (by omega) (by omega) (by rw [List.length_map]; omega) (fun b hb => by
        obtain ⟨z, hz, rfl⟩ := List.mem_map.mp hb
        have := all z hz
        dsimp only
        omega) (k3.same s2)
theorem G_Pattern_every (T : Tx K mg a) : FnOk P w K mg base (L2.CX P w) 8 a.f_Pattern_every a.d_Pattern_every ["period", "first"] (spEvery a) := by
  refine T.F_Pattern_every.okX sc_Pattern_every (fun vs H Q E h => ?_) (fun cdv A outer s H vs Q E hr h => ?_)
  · obtain ⟨p, f, rfl, _⟩ := h
    rfl
  · obtain ⟨p, f, rfl, k1, k2, k3⟩ := h
    refine ⟨_, (pss_cons (ps_expr (pe_call (G_in_range T) (hr.mono (by decide)) rfl T.g_in_range T.F_in_range.kp T.b_in_range .nil (passes_call (takes_of rfl rfl rfl rfl) (fun _ _ _ _ h => h)) (pa_cons pe_str (pa_cons (pv 0) (pa_cons pe_int (pa_cons (pe_glob (v := .int (10 ^ 12)) rfl T.g_LONG.choose_spec ⟨_, rfl⟩) pa_nil))))))
      (pss_cons (ps_expr (pe_call (G_in_range T) (hr.mono (by decide)) rfl T.g_in_range T.F_in_range.kp T.b_in_range .nil (passes_call (takes_of rfl rfl rfl rfl) (fun _ _ _ _ h => h)) (pa_cons pe_str (pa_cons (pv 1) (pa_cons pe_int (pa_cons (pe_glob (v := .int (10 ^ 12)) rfl T.g_LONG.choose_spec ⟨_, rfl⟩) pa_nil))))))
      (pss_one (ps_ret (pe_make T.M_Pattern (G_Pattern_init T) (hr.mono (by decide)) rfl T.g_Pattern T.b_Pattern_init .nil (passes_call (takes_of rfl rfl rfl rfl) (fun _ _ _ _ h => h)) (pa_cons (pv 1) (pa_cons (pv 0) (pa_cons (pe_tup (pa_cons (pe_tup (pa_cons (pv 1) (pa_cons (pe_op op_add (pv 1) pe_int) pa_nil))) pa_nil)) pa_nil)))))))), ?_⟩
    refine st_do ⟨_, rfl, "period", p, 1, 10 ^ 12, rfl, fun c1 => ?_, k1⟩
    refine st_do ⟨_, rfl, "first", f, 0, 10 ^ 12, rfl, fun c2 => ?_, k2 c1⟩
    refine st_ret0 (mk3 (val_var rfl) (val_var rfl) (tup_pair (val_var rfl) (v_rI0 (g := fun i j => .int (i + j)) (val_var rfl) val_c) fun t u H' ht hu s' => ?_))
    exact newPat (Or.inr (SqT.of ht)) (Rw.cons (a := (f, f + 1)) hu Rw.nil).toA (by omega) (by omega) (by show 1 ≤ 5000; omega) (fun b hb => by
      obtain rfl := List.mem_singleton.mp hb
      dsimp only
      omega) ((k3 c1 c2).same s')
theorem G_Pattern_span (T : Tx K mg a) : FnOk P w K mg base (L2.CX P w) 8 a.f_Pattern_span a.d_Pattern_span ["start", "end"] (spSpan a) := by
  refine T.F_Pattern_span.okX sc_Pattern_span (fun vs H Q E h => ?_) (fun cdv A outer s H vs Q E hr h => ?_)
  · obtain ⟨p, f, rfl, _⟩ := h
    rfl
  · obtain ⟨p, f, rfl, k1, k2, k3⟩ := h
    refine ⟨_, (pss_cons (ps_expr (pe_call (G_in_range T) (hr.mono (by decide)) rfl T.g_in_range T.F_in_range.kp T.b_in_range .nil (passes_call (takes_of rfl rfl rfl rfl) (fun _ _ _ _ h => h)) (pa_cons pe_str (pa_cons (pv 0) (pa_cons pe_int (pa_cons (pe_glob (v := .int (10 ^ 12)) rfl T.g_LONG.choose_spec ⟨_, rfl⟩) pa_nil))))))
      (pss_cons (ps_expr (pe_call (G_in_range T) (hr.mono (by decide)) rfl T.g_in_range T.F_in_range.kp T.b_in_range .nil (passes_call (takes_of rfl rfl rfl rfl) (fun _ _ _ _ h => h)) (pa_cons pe_str (pa_cons (pv 1) (pa_cons (pv 0) (pa_cons (pe_glob (v := .int (10 ^ 12)) rfl T.g_LONG.choose_spec ⟨_, rfl⟩) pa_nil))))))
      (pss_one (ps_ret (pe_make T.M_Pattern (G_Pattern_init T) (hr.mono (by decide)) rfl T.g_Pattern T.b_Pattern_init .nil (passes_call (takes_of rfl rfl rfl rfl) (fun _ _ _ _ h => h)) (pa_cons (pv 1) (pa_cons pe_int (pa_cons (pe_ifExp (pt_cmpR op_lt (pv 0) (pv 1) (nomark _)) (pe_tup (pa_cons (pe_tup (pa_cons (pv 0) (pa_cons (pv 1) pa_nil))) pa_nil)) (pe_tup pa_nil)) pa_nil)))))))), ?_⟩
    refine st_do ⟨_, rfl, "start", p, 0, 10 ^ 12, rfl, fun c1 => ?_, k1⟩
    refine st_do ⟨_, rfl, _, rfl, "end", f, p, 10 ^ 12, rfl, fun c2 => ?_, k2 c1⟩
    have k3 := k3 c1 c2
    refine st_ret0 (mk3 (val_var rfl) val_c (t_if _ (a_cmp (f := fun i j => decide (i < j)) (val_var (i := 0) rfl) (val_var (i := 1) rfl)) (fun c => ?_) fun c => ?_))
    · have c := of_decide_eq_true c
      rw [if_pos c] at k3
      refine tup_pair (val_var rfl) (val_var rfl) fun t u H' ht hu s' => ?_
      exact newPat (Or.inr (SqT.of ht)) (Rw.cons (a := (p, f)) hu Rw.nil).toA (by omega) (by omega) (by show 1 ≤ 5000; omega) (fun b hb => by
        obtain rfl := List.mem_singleton.mp hb
        dsimp only
        omega) (k3.same s')
    · have c := of_decide_eq_false c
      rw [if_neg c] at k3
      refine tup_nil fun t H' ht s' => ?_
      exact newPat (Or.inr (SqT.of ht)) Rw.nil.toA (by omega) (by omega) (by show 0 ≤ 5000; omega) (fun b hb => nomatch hb) (k3.same s')
theorem G_Pattern_run_end (T : Tx K mg a) : FnOk P w K mg base CX0 2 a.f_Pattern_run_end a.d_Pattern_run_end ["self", "minute"] (spRunEnd a) := by
  refine T.F_Pattern_run_end.ok sc_Pattern_run_end (fun vs H Q E h => ?_) (fun cdv A outer s H vs Q E hr h => ?_)
  · obtain ⟨x, h, p, S, m, rfl, _⟩ := h
    rfl
  · obtain ⟨x, hh, p, S, m, rfl, ⟨dx, st, bs, u, hx, est, rws, eu, td, lS⟩, p1, p2, k1, k2⟩ := h
    refine ⟨_, (pss_cons (ps_set (i := 2) sc_Pattern_run_end.nd rfl (Or.inl rfl) (pe_op op_add (pe_fld (pv 0) rfl) (pe_fld (pv 0) rfl)))
      (pss_cons (ps_set (i := 3) sc_Pattern_run_end.nd rfl (Or.inl rfl) (pe_ifExp (pt_cmpR op_lt (pv 1) (pv 2) (nomark _)) (pv 1) (pe_op op_add (pe_fld (pv 0) rfl) (pe_op op_mod (pe_op op_sub (pv 1) (pe_fld (pv 0) rfl)) (pe_fld (pv 0) rfl)))))
      (pss_cons (ps_set (i := 4) sc_Pattern_run_end.nd rfl (Or.inl rfl) (pe_call (G_starts_below T) (hr.mono (by decide)) rfl T.g_starts_below T.F_starts_below.kp T.b_starts_below .nil pass0 (pa_cons (pe_fld (pv 0) rfl) (pa_cons (pe_op op_add (pv 3) pe_int) pa_nil))))
      (pss_cons (ps_if (PW.pt (pw_or (pt_cmpR op_eq (pv 4) pe_int (nomark _)) (pw_or1 (pt_cmpR op_le (pe_ix ix_tup (pe_ix ix_tup (pe_fld (pv 0) rfl) (pe_op op_sub (pv 4) pe_int) (fun _ _ => rfl)) pe_int (fun _ _ => rfl)) (pv 3) (nomark _))))) (pss_one (ps_ret pe_non)) pss_nil)
      (pss_one (ps_ret (pe_op op_sub (pe_op op_add (pv 1) (pe_ix ix_tup (pe_ix ix_tup (pe_fld (pv 0) rfl) (pe_op op_sub (pv 4) pe_int) (fun _ _ => rfl)) pe_int (fun _ _ => rfl))) (pv 3)))))))), ?_⟩
    have fh : ∀ {σ : St}, σ[0]? = some (some (V.ref x)) → Val (tFld K (tVar 0) "head") σ H (.int hh) := fun e => val_fld (val_var e) hx T.cl_Pattern T.no_Pattern_head (by kernel_rfl)
    have fp : ∀ {σ : St}, σ[0]? = some (some (V.ref x)) → Val (tFld K (tVar 0) "period") σ H (.int p) := fun e => val_fld (val_var e) hx T.cl_Pattern T.no_Pattern_period (by kernel_rfl)
    have fs : ∀ {σ : St}, σ[0]? = some (some (V.ref x)) → Val (tFld K (tVar 0) "stretches") σ H (.ref st) := fun e => val_fld (val_var e) hx T.cl_Pattern T.no_Pattern_stretches (by kernel_rfl)
    refine st_let (v_rI0 (g := fun i j => .int (i + j)) (fh rfl) (fp rfl)) ?_
    have hpl : Val (tIf (tTest (tOp (rI0 fun i j => V.bl (decide (i < j))) (tVar 1) (tVar 2))) (tVar 1) (tOp (rI0 fun i j => V.int (i + j)) (tFld K (tVar 0) "head") (tOp (rI (fun x j => 0 < j) fun i j => V.int (i % j)) (tOp (rI0 fun i j => V.int (i - j)) (tVar 1) (tFld K (tVar 0) "head")) (tFld K (tVar 0) "period")))) [some (.ref x), some (.int m), some (.int (hh + p)), none, none] H (.int (placeOf hh p m)) := by
      refine v_if (a_cmp (f := fun i j => decide (i < j)) (val_var (i := 1) rfl) (val_var (i := 2) rfl)) (fun c => ?_) fun c => ?_
      · unfold placeOf
        rw [if_pos (of_decide_eq_true c)]
        exact val_var rfl
      · unfold placeOf
        rw [if_neg (of_decide_eq_false c)]
        exact v_rI0 (g := fun i j => .int (i + j)) (fh rfl) (v_rI (g := fun i j => .int (i % j)) (v_rI0 (g := fun i j => .int (i - j)) (val_var rfl) (fh rfl)) (fp rfl) (by omega))
    refine st_let hpl ?_
    generalize placeOf hh p m = t at k1 k2
    refine st_let (v_call2 (fs rfl) (v_rI0 (g := fun i j => .int (i + j)) (val_var rfl) val_c) fun Q q => ⟨st, bs, S, t + 1, rfl, SqT.of est, rws, td, by omega, q⟩) ?_
    have ib := in_below (t := t) td
    cases hb : below S (t + 1) with
    | zero =>
      rw [hb] at ib
      exact st_guard (q := True) (a_or (b := true) (c := true) (a_eq (i := 0) (val_var (i := 4) rfl) val_c) (fun z => nomatch z)) (by simp) (fun _ => k2 ib) fun z => absurd trivial z
    | succ b =>
      rw [hb] at ib
      have bl := below_le (L := S) (m := t + 1)
      obtain ⟨z, hz⟩ : ∃ z, S[b]? = some z := ⟨_, List.getElem?_eq_getElem (by omega)⟩
      obtain ⟨r, w1, w2⟩ := rws.2 b z hz
      have hg : S.getD b (0, 0) = z := by rw [List.getD_eq_getElem?_getD, hz]; rfl
      have ib : inL S t = decide (t < z.2) := by rw [← hg]; exact ib
      have ve : ∀ {σ : St}, σ[0]? = some (some (V.ref x)) → σ[4]? = some (some (V.int ((b + 1 : Nat) : Int))) → Val (tOp (rIxT K) (tOp (rIxT K) (tFld K (tVar 0) "stretches") (tOp (rI0 fun i j => V.int (i - j)) (tVar 4) (tC (V.int 1)))) (tC (V.int 1))) σ H (.int z.2) := fun e e4 => v_ixT (v_ixT (fs e) (v_rI0 (g := fun i j => .int (i - j)) (val_var e4) val_c) (SqT.of est) (at_of (j := b) (by omega) w1)) val_c (SqT.of w2) rfl
      refine st_guard (q := ¬ t < z.2) (a_or (a_eq (val_var (i := 4) rfl) val_c) (fun _ => a_cmp (f := fun i j => decide (i ≤ j)) (ve rfl rfl) (val_var (i := 3) rfl))) (by simp; omega) (fun c => ?_) fun c => ?_
      · exact k2 (by rw [ib, decide_eq_false c])
      · exact st_ret (v_rI0 (g := fun i j => .int (i - j)) (v_rI0 (g := fun i j => .int (i + j)) (val_var rfl) (ve rfl rfl)) (val_var rfl)) (k1 (by rw [ib]; exact decide_eq_true (Classical.not_not.mp c)) _)
theorem G_Pattern_contains (T : Tx K mg a) : FnOk P w K mg base (L2.CX P w) 4 a.f_Pattern_contains a.d_Pattern_contains ["self", "minute"] (spIn a) := by
  refine T.F_Pattern_contains.okX sc_Pattern_contains (fun vs H Q E h => ?_) (fun cdv A outer s H vs Q E hr h => ?_)
  · obtain ⟨x, h, p, S, m, rfl, _⟩ := h
    rfl
  · obtain ⟨x, hh, p, S, m, rfl, hp, p1, p2, k1, k2⟩ := h
    refine ⟨_, (pss_cons (ps_expr (pe_call (G_in_range T) (hr.mono (by decide)) rfl T.g_in_range T.F_in_range.kp T.b_in_range .nil (passes_call (takes_of rfl rfl rfl rfl) (fun _ _ _ _ h => h)) (pa_cons pe_str (pa_cons (pv 1) (pa_cons (pe_un un_neg (pe_glob (v := .int (10 ^ 40)) rfl T.g_FAR.choose_spec ⟨_, rfl⟩)) (pa_cons (pe_glob (v := .int (10 ^ 40)) rfl T.g_FAR.choose_spec ⟨_, rfl⟩) pa_nil))))))
      (pss_one (ps_ret (pe_and (pe_cmpR op_ge (pv 1) pe_int (nomark _)) (pe_one (pe_cmpR op_notN (pe_meth (pv 0) T.cl_Pattern T.m_Pattern_run_end (G_Pattern_run_end T) (hr.mono (by decide)) T.b_Pattern_run_end .nil pass0 (pa_cons (pv 1) pa_nil)) pe_non (nomark _))))))), ?_⟩
    refine st_do ⟨_, rfl, _, rfl, "minute", m, -(10 ^ 40), 10 ^ 40, rfl, fun c => ?_, k1⟩
    have k2 := k2 c
    refine ⟨_, rfl, _, _, rfl, rfl, _, rfl, ?_⟩
    by_cases c0 : 0 ≤ m
    · rw [decide_eq_true c0] at k2 ⊢
      refine iteT ?_
      obtain ⟨dx, st, bs, u, hx, _⟩ := id hp
      refine ⟨_, rfl, x, dx, _, rfl, hx, (by kernel_rfl : List.lookup _ _ = (none : Option V)), _, rfl, x, hh, p, S, m, rfl, hp, p1, p2, fun e z => ⟨rfl, ?_⟩, fun e => ⟨rfl, ?_⟩⟩
      · rw [e] at k2
        exact k2
      · rw [e] at k2
        exact k2
    · rw [decide_eq_false c0] at k2 ⊢
      exact iteF k2
theorem G_Pattern_finite (T : Tx K mg a) : FnOk P w K mg base CX0 1 a.f_Pattern_finite a.d_Pattern_finite ["self"] (spFin a) := by
  refine T.F_Pattern_finite.ok sc_Pattern_finite (fun vs H Q E h => ?_) (fun cdv A outer s H vs Q E hr h => ?_)
  · obtain ⟨x, h, p, S, rfl, _⟩ := h
    rfl
  · obtain ⟨x, hh, p, S, rfl, ⟨dx, st, bs, u, hx, est, rws, eu, td, lS⟩, k⟩ := h
    refine ⟨_, (pss_one (ps_ret (pe_cmpR op_eq (pe_ix ix_tup (pe_fld (pv 0) rfl) (pe_un un_neg pe_int) (fun _ _ => rfl)) (pe_fld (pv 0) rfl) (nomark _)))), ?_⟩
    have vs : Val (tOp (rIxT K) (tFld K (tVar 0) "_sums") (tUn (rU fun i => V.int (-i)) (tC (V.int 1)))) (L2.start ["self"] [V.ref x]) H (.int (tot S)) := v_ixT (val_fld (val_var rfl) hx T.cl_Pattern T.no_Pattern__sums (by kernel_rfl : List.lookup _ _ = some (V.ref u))) (v_un (g := fun i => V.int (-i)) val_c) (SqT.of eu) (by
      unfold sumsOf
      rw [List.range_succ, List.map_append, List.map_append, List.map_singleton, List.map_singleton, List.take_length]
      exact atI_last)
    exact st_ret (v_eq vs (val_fld (val_var rfl) hx T.cl_Pattern T.no_Pattern__front (by kernel_rfl : List.lookup _ _ = some (V.int (nearOf S hh))))) k
theorem G_Pattern_empty (T : Tx K mg a) : FnOk P w K mg base CX0 1 a.f_Pattern_empty a.d_Pattern_empty ["self"] (spEmp a) := by
  refine T.F_Pattern_empty.ok sc_Pattern_empty (fun vs H Q E h => ?_) (fun cdv A outer s H vs Q E hr h => ?_)
  · obtain ⟨x, h, p, S, rfl, _⟩ := h
    rfl
  · obtain ⟨x, hh, p, S, rfl, ⟨dx, st, bs, u, hx, est, rws, eu, td, lS⟩, k⟩ := h
    refine ⟨_, (pss_one (ps_ret (pe_cmpR op_eq (pe_ix ix_tup (pe_fld (pv 0) rfl) (pe_un un_neg pe_int) (fun _ _ => rfl)) pe_int (nomark _)))), ?_⟩
    have vs : Val (tOp (rIxT K) (tFld K (tVar 0) "_sums") (tUn (rU fun i => V.int (-i)) (tC (V.int 1)))) (L2.start ["self"] [V.ref x]) H (.int (tot S)) := v_ixT (val_fld (val_var rfl) hx T.cl_Pattern T.no_Pattern__sums (by kernel_rfl : List.lookup _ _ = some (V.ref u))) (v_un (g := fun i => V.int (-i)) val_c) (SqT.of eu) (by
      unfold sumsOf
      rw [List.range_succ, List.map_append, List.map_append, List.map_singleton, List.map_singleton, List.take_length]
      exact atI_last)
    exact st_ret (v_eq vs val_c) k
end
end My

namespace My
open PySem L2
theorem divW {i d : Int} (h : 0 < d) (h2 : d ≤ 1000000) : CDivW i d := wide_div (b := 20) h (by omega) (by decide) (by decide)
/-! ### 8. the pool of draws: any whole numbers; what is drawn lies in its bounds -/
/-- the pool at l, its cells at cl, at most n draws behind it -/
def PoolAt (H : Hp) (l cl : Addr) (n : Nat) : Prop := ∃ (x b : Int) (ns : List Int), H l = some (.lst [.int x, .int b, .ref cl]) ∧ H cl = some (.lst (ns.map V.int)) ∧ 0 ≤ b ∧ b ≤ n
/-- only the pool may have changed -/
def Fr (l cl : Addr) (H H' : Hp) : Prop := ∀ b o, H b = some o → b ≠ l → b ≠ cl → H' b = some o
theorem Fr.refl (l cl : Addr) (H : Hp) : Fr l cl H H := fun _ _ h _ _ => h
theorem Fr.trans {l cl : Addr} {H H1 H2 : Hp} (a : Fr l cl H H1) (b : Fr l cl H1 H2) : Fr l cl H H2 := fun c o h n m => b c o (a c o h n m) n m
theorem Fr.of {l cl : Addr} {H H' : Hp} (s : Same H H') : Fr l cl H H' := fun c o h _ _ => s c o h
theorem PoolAt.ne {H : Hp} {l cl : Addr} {n : Nat} (h : PoolAt H l cl n) : l ≠ cl := by
  obtain ⟨x, b, ns, h1, h2, _⟩ := h
  intro z
  rw [z, h2] at h1
  injection h1 with h1
  injection h1 with h1
  rcases ns with _ | ⟨x1, _ | ⟨x2, _ | ⟨x3, ns⟩⟩⟩
  · cases h1
  · cases h1
  · cases h1
  · injection h1 with _ h1
    injection h1 with _ h1
    injection h1 with h1 _
    cases h1
theorem PoolAt.same {H H' : Hp} {l cl : Addr} {n : Nat} (h : PoolAt H l cl n) (s : Same H H') : PoolAt H' l cl n := by
  obtain ⟨x, b, ns, h1, h2, h3⟩ := h
  exact ⟨x, b, ns, s _ _ h1, s _ _ h2, h3⟩
theorem PoolAt.mono {H : Hp} {l cl : Addr} {n m : Nat} (h : PoolAt H l cl n) (e : n ≤ m) : PoolAt H l cl m := by
  obtain ⟨x, b, ns, h1, h2, h3, h4⟩ := h
  exact ⟨x, b, ns, h1, h2, h3, by omega⟩
/-- what is no list stays -/
theorem Fr.keep {H H' : Hp} {l cl b : Addr} {n : Nat} {o : HO} (f : Fr l cl H H') (h : PoolAt H l cl n) (hb : H b = some o) (ho : ∀ xs, o ≠ .lst xs) : H' b = some o := by
  obtain ⟨x, y, ns, h1, h2, _⟩ := h
  refine f b o hb (fun z => ?_) fun z => ?_
  · rw [z, h1] at hb
    cases hb
    exact ho _ rfl
  · rw [z, h2] at hb
    cases hb
    exact ho _ rfl
theorem Fr.tup {H H' : Hp} {l cl t : Addr} {n : Nat} {xs : List V} (f : Fr l cl H H') (h : PoolAt H l cl n) (ht : H t = some (.tup xs)) : H' t = some (.tup xs) := f.keep h ht fun _ z => by cases z
theorem Fr.sqT {K : PySem.W.Frag} {H H' : Hp} {l cl t : Addr} {n : Nat} {xs : List V} (f : Fr l cl H H') (h : PoolAt H l cl n) (ht : SqT K H t xs) : SqT K H' t xs := by
  rcases ht with (z | ⟨o, z⟩) | z
  · exact Or.inl (Or.inl (f.keep h z fun _ y => by cases y))
  · exact Or.inl (Or.inr ⟨o, f.keep h z fun _ y => by cases y⟩)
  · exact Or.inr z
def spDraw : Sp := fun vs H Q _ => ∃ (l cl : Addr) (m : Int) (n : Nat), vs = [.ref l, .int m] ∧ PoolAt H l cl n ∧ n < 2 ^ 40 ∧ 0 < m ∧ m < 2 ^ 200 ∧ ∀ (d : Int) H', 0 ≤ d → d < m → PoolAt H' l cl (n + 1) → Fr l cl H H' → Q (.int d) H'
theorem cut_ints (ns : List Int) (lo hi : Option Int) : ∃ ms : List Int, cutV (ns.map V.int) lo hi = ms.map V.int ∧ ms.length ≤ ns.length := by
  refine ⟨((ns.drop (HT.sIx ns.length 0 lo)).take (HT.sIx ns.length ns.length hi - HT.sIx ns.length 0 lo)), ?_, ?_⟩
  · unfold cutV
    simp only [List.length_map, List.map_take, List.map_drop]
  · simp only [List.length_take, List.length_drop]
    omega
section
variable {P : Program} {w : World} {K : PySem.W.Frag} {mg : Str → Option Value} {base : Heap} {a : Ad}
theorem G__law_draw (T : Tx K mg a) : FnOk P w K mg base CX0 1 a.f__law_draw a.d__law_draw ["pool", "many"] spDraw := by
  refine T.F__law_draw.ok sc__law_draw (fun vs H Q E h => ?_) (fun cdv A outer s H vs Q E hr h => ?_)
  · obtain ⟨l, cl, m, n, rfl, _⟩ := h
    rfl
  · obtain ⟨l, cl, m, n, rfl, hp, hn, m0, m1, k⟩ := h
    refine ⟨_, (pss_cons (ps_if (PW.pt (pw_and (pt_cmpR op_eq (pe_ix ix_list (pv 0) pe_int (fun _ _ => rfl)) pe_int (nomark _)) (pw_and1 (pt_cmpR op_gt (pe_callB call_len_seq (by rfl) T.n_len (by decide +kernel) (pa_cons (pe_ix ix_list (pv 0) pe_int (fun _ _ => rfl)) pa_nil)) pe_int (nomark _))))) (pss_one (ps_asg (pe_bm0 PySem.F.plainAttrs_list PySem.F.slot_list_pop PySem.F.type_list_pop mt_pop (pe_ix ix_list (pv 0) pe_int (fun _ _ => rfl))) (pg_sub (pv 0) pe_int set_list))) pss_nil)
      (pss_cons (ps_if (pt_cmpR op_eq (pe_ix ix_list (pv 0) pe_int (fun _ _ => rfl)) pe_int (nomark _)) (pss_cons (ps_asg (pe_op op_add (pe_ix ix_list (pv 0) pe_int (fun _ _ => rfl)) pe_int) (pg_sub (pv 0) pe_int set_list))
      (pss_one (ps_ret (pe_op op_mod (pe_callTy call_int1 (by rfl) T.n_int (by decide +kernel) (pa_cons (pe_op op_fdivW (pe_op op_mul (pe_ix ix_list (pv 0) pe_int (fun _ _ => rfl)) (pe_op op_add (pe_ix ix_list (pv 0) pe_int (fun _ _ => rfl)) pe_int)) pe_int) pa_nil)) (pv 1))))) pss_nil)
      (pss_cons (ps_set (i := 2) sc__law_draw.nd rfl (Or.inl rfl) (pe_op op_mod (pe_callTy call_int1 (by rfl) T.n_int (by decide +kernel) (pa_cons (pe_ix ix_list (pv 0) pe_int (fun _ _ => rfl)) pa_nil)) (pv 1)))
      (pss_cons (ps_asg (pe_op op_fdivW (pe_callTy call_int1 (by rfl) T.n_int (by decide +kernel) (pa_cons (pe_ix ix_list (pv 0) pe_int (fun _ _ => rfl)) pa_nil)) (pv 1)) (pg_sub (pv 0) pe_int set_list))
      (pss_one (ps_ret (pv 2))))))), ?_⟩
    have ne := hp.ne
    obtain ⟨x, b, ns, h1, h2, b0, bn⟩ := hp
    have i0 : ∀ {H : Hp} {σ : St} {x b : Int}, H l = some (.lst [.int x, .int b, .ref cl]) → σ[0]? = some (some (.ref l)) → Val (tOp (rIxL K) (tVar 0) (tC (.int 0))) σ H (.int x) := fun h e => v_ixL (val_var e) val_c (SqL.of h) rfl
    have i1 : ∀ {H : Hp} {σ : St} {x b : Int}, H l = some (.lst [.int x, .int b, .ref cl]) → σ[0]? = some (some (.ref l)) → Val (tOp (rIxL K) (tVar 0) (tC (.int 1))) σ H (.int b) := fun h e => v_ixL (val_var e) val_c (SqL.of h) rfl
    have i2 : ∀ {H : Hp} {σ : St} {x b : Int}, H l = some (.lst [.int x, .int b, .ref cl]) → σ[0]? = some (some (.ref l)) → Val (tOp (rIxL K) (tVar 0) (tC (.int 2))) σ H (.ref cl) := fun h e => v_ixL (val_var e) val_c (SqL.of h) rfl
    refine st_shareH (fun H' => ∃ (x : Int) (ns : List Int), H' l = some (.lst [.int x, .int b, .ref cl]) ∧ H' cl = some (.lst (ns.map V.int)) ∧ Fr l cl H H') ?_ fun N hN => ?_
    · rintro H' ⟨x, ns, h1, h2, f⟩
      refine st_guard (q := x = 0) (a_eq (i0 h1 rfl) val_c) (by simp) (fun z => ?_) fun z => ?_
      · refine st_puts (v := .int (b + 1)) (v_rI0 (g := fun i j => .int (i + j)) (i1 h1 rfl) val_c) (val_var (i := 0) rfl) val_c h1 (by rfl) ?_
        have u1 : upd H' l (.lst [.int x, .int (b + 1), .ref cl]) l = some (.lst [.int x, .int (b + 1), .ref cl]) := upd_same
        have u2 : upd H' l (.lst [.int x, .int (b + 1), .ref cl]) cl = some (.lst (ns.map V.int)) := (upd_ne ne.symm).trans h2
        have u3 : Fr l cl H (upd H' l (.lst [.int x, .int (b + 1), .ref cl])) := f.trans fun c o h n1 n2 => by rw [upd_ne n1]; exact h
        refine st_ret (v_rI (g := fun i j => .int (i % j)) (v_cb (v_rI (g := fun i j => .int (i / j)) (v_rI (g := fun i j => .int (i * j)) (i1 u1 rfl) (v_rI0 (g := fun i j => .int (i + j)) (i1 u1 rfl) val_c) (Or.inl (by omega))) val_c (divW (by decide) (by decide))) fun Q q => Or.inl ⟨_, rfl, q⟩) (val_var (i := 1) rfl) m0) ?_
        exact k _ _ (Int.emod_nonneg _ (by omega)) (Int.emod_lt_of_pos _ m0) ⟨x, b + 1, ns, u1, u2, by omega, by omega⟩ u3
      · refine st_let (v := .int (x % m)) (v_rI (g := fun i j => .int (i % j)) (v_cb (i0 h1 rfl) fun Q q => Or.inl ⟨_, rfl, q⟩) (val_var (i := 1) rfl) m0) ?_
        refine st_puts (v := .int (x / m)) (v_rI (g := fun i j => .int (i / j)) (v_cb (i0 h1 rfl) fun Q q => Or.inl ⟨_, rfl, q⟩) (val_var (i := 1) rfl) (wide_div (b := 200) m0 (by omega) (by decide) (by decide))) (val_var (i := 0) rfl) val_c h1 (by rfl) ?_
        refine st_ret (val_var (i := 2) rfl) ?_
        exact k _ _ (Int.emod_nonneg _ (by omega)) (Int.emod_lt_of_pos _ m0) ⟨x / m, b, ns, upd_same, (upd_ne ne.symm).trans h2, b0, by omega⟩ (f.trans fun c o h n1 n2 => by rw [upd_ne n1]; exact h)
    · refine st_ifp (q := x = 0 ∧ 0 < ns.length) (a_and (a_eq (i0 h1 rfl) val_c) fun _ => a_cmp (f := fun i j => decide (j < i)) (v_cb (i2 h1 rfl) fun Q q => ⟨cl, _, rfl, Or.inl (SqL.of h2), q⟩) val_c) (by simp) (fun z => ?_) fun z => hN H ⟨x, ns, h1, h2, Fr.refl _ _ _⟩
      have hl : ns.length - 1 < ns.length := by omega
      have e1 : (ns.map V.int)[(ns.map V.int).length - 1]? = some (.int ns[ns.length - 1]) := by
        rw [List.length_map]
        exact ints_at (List.getElem?_eq_getElem hl)
      refine i2 h1 rfl _ ⟨tyL h2, cl, _, _, rfl, rfl, h2, e1, ?_⟩
      refine ⟨_, rfl, l, _, _, 0, rfl, rfl, (upd_ne ne).trans h1, by rfl, ?_⟩
      refine hN _ ⟨ns[ns.length - 1], ns.dropLast, upd_same, ?_, fun c o h n1 n2 => by rw [upd_ne n1, upd_ne n2]; exact h⟩
      rw [upd_ne ne.symm, upd_same, List.map_dropLast]
end
end My

namespace My
open PySem L2
def spStart (K : PySem.W.Frag) : Sp := fun vs H Q _ => ∃ (s : Addr) (ns : List Int), vs = [.ref s] ∧ SqL K H s (ns.map V.int) ∧ ns.length ≤ 63 ∧ ∀ (l cl : Addr) H', PoolAt H' l cl 0 → H l = none → H cl = none → Same H H' → Q (.ref l) H'
def okF (n : Int) : Prop := 0 ≤ n ∧ n ≤ 10 ^ 40
def spFar : Sp := fun vs H Q _ => ∃ (l cl : Addr) (n : Nat), vs = [.ref l] ∧ PoolAt H l cl n ∧ n < 2 ^ 39 ∧ ∀ (d : Int) H', okF d → PoolAt H' l cl (n + 3) → Fr l cl H H' → Q (.int d) H'
theorem small64 {d : Int} (h0 : 0 ≤ d) (h1 : d < 10 ^ Int.toNat 6) : -(2 ^ 64) < d ∧ d < 2 ^ 64 := by
  have : (10 : Int) ^ Int.toNat 6 = 10 ^ 6 := by decide
  omega
/-- a draw -/
theorem draw {σ : St} {H : Hp} {Q : VK} {i : Nat} {tm : TE} {l cl : Addr} {n : Nat} {m : Int} (hp : PoolAt H l cl n) (hi : σ[i]? = some (some (V.ref l))) (hm : Val tm σ H (.int m)) (hn : n < 2 ^ 40) (m0 : 0 < m) (m1 : m < 2 ^ 200) (k : ∀ d H', 0 ≤ d → d < m → PoolAt H' l cl (n + 1) → Fr l cl H H' → Q (.int d) H') :
    tCall spDraw [] E0 (tCons (tVar i) (tCons tm tNil)) σ H Q := ⟨_, hi, hm _ ⟨l, cl, m, n, rfl, hp, hn, m0, m1, k⟩⟩
def spNear1 : Sp := fun vs H Q _ => ∃ (l cl : Addr) (n : Nat) (lo m : Int), vs = [.ref l, .int lo, .int m] ∧ PoolAt H l cl n ∧ n < 2 ^ 39 ∧ 0 < m ∧ m < 2 ^ 100 ∧ ∀ (d : Int) H', (lo ≤ d ∧ d < lo + m) ∨ (10 ^ 12 - 2 ≤ d ∧ d ≤ 10 ^ 12) → PoolAt H' l cl (n + 3) → Fr l cl H H' → Q (.int d) H'
section
variable {P : Program} {w : World} {K : PySem.W.Frag} {mg : Str → Option Value} {base : Heap} {a : Ad}
theorem G__law_start (T : Tx K mg a) : FnOk P w K mg base CX0 1 a.f__law_start a.d__law_start ["script"] (spStart K) := by
  refine T.F__law_start.ok sc__law_start (fun vs H Q E h => ?_) (fun cdv A outer s H vs Q E hr h => ?_)
  · obtain ⟨l, m, rfl, _⟩ := h
    rfl
  · obtain ⟨sc, ns, rfl, hS, hn, k⟩ := h
    refine ⟨_, (pss_cons (ps_set (i := 1) sc__law_start.nd rfl (Or.inl rfl) (pe_lst pa_nil))
      (pss_cons (ps_for PassesOwn.never rfl (pi_enum (by rfl) T.n_enumerate (pa_cons (pe_slice sl_list (pv 0) po_none (po_some pe_int)) pa_nil)) (pg_tup rfl (pgs_cons (pg_name (i := 2) sc__law_start.nd rfl (Or.inl rfl)) (pgs_cons (pg_name (i := 3) sc__law_start.nd rfl (Or.inl rfl)) pgs_nil))) (pss_cons (ps_if (pt_cmpR op_lt (pv 3) (pe_op op_pow pe_int pe_int) (nomark _)) (pss_cons (ps_set (i := 4) sc__law_start.nd rfl (Or.inl rfl) (pe_op op_mod (pe_callTy call_int1 (by rfl) T.n_int (by decide +kernel) (pa_cons (pe_op op_add (pe_op op_mul (pv 3) pe_int) (pe_op op_mul (pe_op op_add (pv 2) pe_int) pe_int)) pa_nil)) pe_int))
      (pss_cons (ps_set (i := 5) sc__law_start.nd rfl (Or.inl rfl) (pe_op op_mod (pe_callTy call_int1 (by rfl) T.n_int (by decide +kernel) (pa_cons (pe_op op_add (pe_op op_add (pe_op op_mul (pv 4) (pv 4)) (pe_op op_mul pe_int (pv 4))) pe_int) pa_nil)) pe_int))
      (pss_cons (ps_set (i := 6) sc__law_start.nd rfl (Or.inl rfl) (pe_op op_mod (pe_callTy call_int1 (by rfl) T.n_int (by decide +kernel) (pa_cons (pe_op op_add (pe_op op_add (pe_op op_mul (pv 5) (pv 5)) (pe_op op_mul pe_int (pv 5))) (pv 4)) pa_nil)) pe_int))
      (pss_one (ps_set (i := 3) sc__law_start.nd rfl (Or.inl rfl) (pe_op op_add (pe_op op_mul (pe_op op_add (pe_op op_mul (pv 4) (pe_op op_pow pe_int pe_int)) (pv 5)) (pe_op op_pow pe_int pe_int)) (pv 6))))))) pss_nil)
      (pss_one (ps_expr (pe_bm PySem.F.plainAttrs_list PySem.F.slot_list_append PySem.F.type_list_append mt_append (pv 1) (pa_cons (pe_op op_mod (pe_callTy call_int1 (by rfl) T.n_int (by decide +kernel) (pa_cons (pv 3) pa_nil)) (pe_op op_powW (pe_op op_pow pe_int pe_int) pe_int)) pa_nil))))))
      (pss_one (ps_ret (pe_lst (pa_cons pe_int (pa_cons pe_int (pa_cons (pe_revL (pv 1)) pa_nil)))))))), ?_⟩
    refine st_letX ⟨(by show 0 ≤ sizeLine; decide), fun pl hpl => ?_⟩
    have s1 : Same H (upd H pl (.lst [])) := Same.new hpl
    obtain ⟨cs, ecs, hcs⟩ := cut_ints ns none (some 63)
    have npl : ∀ b o, H b = some o → b ≠ pl := fun b o e z => by rw [z, hpl] at e; cases e
    refine st_seq ?_
    refine ⟨_, rfl, _, rfl, sc, _, rfl, s1.seq hS, fun q hq => ?_⟩
    rw [ecs]
    have s2 : Same H (upd (upd H pl (.lst [])) q (.lst (cs.map V.int))) := s1.trans (Same.new hq)
    have nqp : q ≠ pl := (ne_of_none upd_same hq).symm
    have hpl2 : upd (upd H pl (.lst [])) q (.lst (cs.map V.int)) pl = some (.lst []) := (upd_ne nqp.symm).trans upd_same
    have hq2 : upd (upd H pl (.lst [])) q (.lst (cs.map V.int)) q = some (.lst (cs.map V.int)) := upd_same
    generalize upd (upd H pl (.lst [])) q (.lst (cs.map V.int)) = H2 at s2 hpl2 hq2
    refine ⟨q, cs.map V.int, rfl, SqL.of hq2, ?_⟩
    refine st_forE (xs := cs.map V.int) (fun i σ H' => ∃ (acc : List Int) (v2 v3 v4 v5 v6 : Option V), σ = [some (.ref sc), some (.ref pl), v2, v3, v4, v5, v6] ∧ H' pl = some (.lst (acc.map V.int)) ∧ acc.length = i ∧ But pl H2 H')
      ⟨[], none, none, none, none, none, rfl, hpl2, rfl, But.refl _ _⟩ (fun i σ H' _ ⟨_, _, _, _, _, _, _, _, _, b⟩ => SqL.of (b _ _ hq2 nqp)) ?_ ?_
    · rintro i x t σ H' hx ⟨acc, v2, v3, v4, v5, v6, rfl, h1, h2, bt⟩ ht
      obtain ⟨z, hz, rfl⟩ := ints_get hx
      have hi : i < cs.length := (List.getElem?_eq_some_iff.mp hz).1
      have ntp : t ≠ pl := (ne_of_none h1 ht).symm
      have h1' : upd H' t (.tup [.int (i : Nat), .int z]) pl = some (.lst (acc.map V.int)) := (upd_ne ntp.symm).trans h1
      have bt' : But pl H2 (upd H' t (.tup [.int (i : Nat), .int z])) := bt.thenS (Same.new ht)
      refine ⟨t, _, rfl, SqT.of upd_same, rfl, _, _, rfl, _, _, rfl, rfl, ?_⟩
      generalize upd H' t (.tup [.int (i : Nat), .int z]) = H3 at h1' bt'
      refine st_shareS (fun σ' H' => ∃ (c : Int) (v2 v4 v5 v6 : Option V), σ' = [some (.ref sc), some (.ref pl), v2, some (.int c), v4, v5, v6] ∧ H' = H3) ?_ fun N hN => ?_
      · rintro σ' H4 ⟨c, v2, v4, v5, v6, rfl, rfl⟩
        refine ⟨_, rfl, tyL h1', ?_⟩
        refine (v_rI (σ := [some (.ref sc), some (.ref pl), v2, some (.int c), v4, v5, v6]) (g := fun i j => .int (i % j)) (v_cb (val_var (i := 3) rfl) fun Q q => Or.inl ⟨_, rfl, q⟩) (v_rI (g := fun i j => .int (i ^ j.toNat)) (v_rI (g := fun i j => .int (i ^ j.toNat)) val_c val_c ⟨by decide, by decide, by decide⟩) val_c ⟨by decide, by decide +kernel⟩) (by decide +kernel)) _ ?_
        refine ⟨pl, _, _, rfl, rfl, h1', ?_, acc ++ [c % (10 ^ Int.toNat 64) ^ Int.toNat 6], v2, some (.int c), v4, v5, v6, rfl, ?_, ?_, But.upd bt'⟩
        · rw [List.length_map]
          exact small1000 (by omega)
        · rw [upd_same, List.map_append]
          rfl
        · simp [h2]
      · refine st_ifb (a_cmp (f := fun i j => decide (i < j)) (val_var (i := 3) (v := .int z) rfl) (v_rI (g := fun i j => .int (i ^ j.toNat)) val_c val_c ⟨by decide, by decide, by decide⟩)) (fun _ => ?_) fun _ => hN _ _ ⟨z, _, _, _, _, rfl, rfl⟩
        refine st_letP (fun z => 0 ≤ z ∧ z < 10 ^ 12) (v_rI (g := fun i j => .int (i % j)) (v_cb (v_rI0 (g := fun i j => .int (i + j)) (v_rI (g := fun i j => .int (i * j)) (val_var (i := 3) (v := .int z) rfl) val_c (Or.inr ⟨by decide, by decide⟩)) (v_rI (g := fun i j => .int (i * j)) (v_rI0 (g := fun i j => .int (i + j)) (val_var (i := 2) rfl) val_c) val_c (Or.inr ⟨by decide, by decide⟩))) fun Q q => Or.inl ⟨_, rfl, q⟩) val_c (by decide)) ⟨Int.emod_nonneg _ (by decide), Int.lt_trans (Int.emod_lt_of_pos _ (by decide)) (by decide)⟩ fun one b1 => ?_
        refine st_letP (fun z => 0 ≤ z ∧ z < 10 ^ 12) (v_rI (g := fun i j => .int (i % j)) (v_cb (v_rI0 (g := fun i j => .int (i + j)) (v_rI0 (g := fun i j => .int (i + j)) (v_rI (g := fun i j => .int (i * j)) (val_var (i := 4) rfl) (val_var (i := 4) rfl) (Or.inl ⟨by omega, by omega⟩)) (v_rI (g := fun i j => .int (i * j)) val_c (val_var (i := 4) rfl) (Or.inl ⟨by decide, by decide⟩))) val_c) fun Q q => Or.inl ⟨_, rfl, q⟩) val_c (by decide)) ⟨Int.emod_nonneg _ (by decide), Int.lt_trans (Int.emod_lt_of_pos _ (by decide)) (by decide)⟩ fun two b2 => ?_
        refine st_letP (fun z => 0 ≤ z ∧ z < 10 ^ 12) (v_rI (g := fun i j => .int (i % j)) (v_cb (v_rI0 (g := fun i j => .int (i + j)) (v_rI0 (g := fun i j => .int (i + j)) (v_rI (g := fun i j => .int (i * j)) (val_var (i := 5) rfl) (val_var (i := 5) rfl) (Or.inl ⟨by omega, by omega⟩)) (v_rI (g := fun i j => .int (i * j)) val_c (val_var (i := 5) rfl) (Or.inl ⟨by decide, by decide⟩))) (val_var (i := 4) rfl)) fun Q q => Or.inl ⟨_, rfl, q⟩) val_c (by decide)) ⟨Int.emod_nonneg _ (by decide), Int.lt_trans (Int.emod_lt_of_pos _ (by decide)) (by decide)⟩ fun three b3 => ?_
        exact st_set (v_rI0 (g := fun i j => .int (i + j)) (v_rI (g := fun i j => .int (i * j)) (v_rI0 (g := fun i j => .int (i + j)) (v_rI (g := fun i j => .int (i * j)) (val_var (i := 4) rfl) (v_rI (g := fun i j => .int (i ^ j.toNat)) val_c val_c ⟨by decide, by decide, by decide⟩) (Or.inr ⟨by decide, by decide⟩)) (val_var (i := 5) rfl)) (v_rI (g := fun i j => .int (i ^ j.toNat)) val_c val_c ⟨by decide, by decide, by decide⟩) (Or.inr ⟨by decide, by decide⟩)) (val_var (i := 6) rfl)) (hN _ _ ⟨_, _, _, _, _, rfl, rfl⟩)
    · rintro σ H' ⟨acc, v2, v3, v4, v5, v6, rfl, h1, h2, bt⟩
      have s4 : Same H H' := fun b o e => bt b o (s2 b o e) (npl b o e)
      refine ⟨_, rfl, pl, acc.map V.int, rfl, SqL.of h1, fun cl hcl => ?_⟩
      refine ⟨by show 3 ≤ sizeLine; decide, fun l hl => ?_⟩
      have s5 : Same H' (upd H' cl (.lst (acc.map V.int).reverse)) := Same.new hcl
      have ncl : cl ≠ l := ne_of_none upd_same hl
      refine k l cl _ ⟨0, 0, acc.reverse, upd_same, ?_, by omega, by omega⟩ ((s4.trans s5).free hl) (s4.free hcl) (s4.trans (s5.trans (Same.new hl)))
      rw [upd_ne ncl, upd_same, List.map_reverse]
theorem G__law_far (T : Tx K mg a) : FnOk P w K mg base CX0 2 a.f__law_far a.d__law_far ["pool"] spFar := by
  refine T.F__law_far.ok sc__law_far (fun vs H Q E h => ?_) (fun cdv A outer s H vs Q E hr h => ?_)
  · obtain ⟨l, cl, n, rfl, _⟩ := h
    rfl
  · obtain ⟨l, cl, n, rfl, hp, hn, k⟩ := h
    refine ⟨_, (pss_cons (ps_set (i := 1) sc__law_far.nd rfl (Or.inl rfl) (pe_call (G__law_draw T) (hr.mono (by decide)) rfl T.g__law_draw T.F__law_draw.kp T.b__law_draw .nil pass0 (pa_cons (pv 0) (pa_cons pe_int pa_nil))))
      (pss_cons (ps_if (pt_cmpR op_eq (pv 1) pe_int (nomark _)) (pss_one (ps_ret (pe_call (G__law_draw T) (hr.mono (by decide)) rfl T.g__law_draw T.F__law_draw.kp T.b__law_draw .nil pass0 (pa_cons (pv 0) (pa_cons pe_int pa_nil))))) pss_nil)
      (pss_cons (ps_if (pt_cmpR op_eq (pv 1) pe_int (nomark _)) (pss_one (ps_ret (pe_op op_sub (pe_op op_pow pe_int pe_int) (pe_call (G__law_draw T) (hr.mono (by decide)) rfl T.g__law_draw T.F__law_draw.kp T.b__law_draw .nil pass0 (pa_cons (pv 0) (pa_cons pe_int pa_nil)))))) pss_nil)
      (pss_cons (ps_if (pt_cmpR op_eq (pv 1) pe_int (nomark _)) (pss_one (ps_ret (pe_op op_add (pe_op op_mul (pe_call (G__law_draw T) (hr.mono (by decide)) rfl T.g__law_draw T.F__law_draw.kp T.b__law_draw .nil pass0 (pa_cons (pv 0) (pa_cons (pe_op op_pow pe_int pe_int) pa_nil))) (pe_op op_pow pe_int pe_int)) (pe_call (G__law_draw T) (hr.mono (by decide)) rfl T.g__law_draw T.F__law_draw.kp T.b__law_draw .nil pass0 (pa_cons (pv 0) (pa_cons pe_int pa_nil)))))) pss_nil)
      (pss_one (ps_ret (pe_call (G__law_draw T) (hr.mono (by decide)) rfl T.g__law_draw T.F__law_draw.kp T.b__law_draw .nil pass0 (pa_cons (pv 0) (pa_cons (pe_op op_add (pe_op op_pow pe_int pe_int) pe_int) pa_nil))))))))), ?_⟩
    refine st_letX (draw hp rfl val_c (by omega) (by decide) (by decide) fun sh H1 a0 a1 p1 f1 => ?_)
    refine st_guard (q := sh = 0) (a_eq (val_var (i := 1) rfl) val_c) (by simp) (fun c => ?_) fun c => ?_
    · exact draw p1 rfl val_c (by omega) (by decide) (by decide) fun d H2 d0 d1 p2 f2 => k d H2 ⟨d0, by omega⟩ (p2.mono (by omega)) (f1.trans f2)
    refine st_guard (q := sh = 1) (a_eq (val_var (i := 1) rfl) val_c) (by simp) (fun c => ?_) fun c => ?_
    · refine ⟨_, _, rfl, rfl, ⟨by decide, by decide, by decide⟩, ?_⟩
      exact draw p1 rfl val_c (by omega) (by decide) (by decide) fun d H2 d0 d1 p2 f2 => ⟨_, _, rfl, rfl, k _ H2 ⟨by show 0 ≤ (10 : Int) ^ 40 - d; omega, by show (10 : Int) ^ 40 - d ≤ 10 ^ 40; omega⟩ (p2.mono (by omega)) (f1.trans f2)⟩
    refine st_guard (q := sh = 2) (a_eq (val_var (i := 1) rfl) val_c) (by simp) (fun c => ?_) fun c => ?_
    · refine draw p1 rfl (v_rI (g := fun i j => .int (i ^ j.toNat)) val_c val_c ⟨by decide, by decide, by decide⟩) (by omega) (by decide) (by decide) fun d H2 d0 d1 p2 f2 => ⟨_, _, rfl, rfl, ⟨by decide, by decide, by decide⟩, _, _, rfl, rfl, Or.inl (small64 d0 d1), ?_⟩
      refine draw p2 rfl val_c (by omega) (by decide) (by decide) fun e H3 e0 e1 p3 f3 => ⟨_, _, rfl, rfl, k _ H3 ?_ (p3.mono (by omega)) ((f1.trans f2).trans f3)⟩
      have d2 : d ≤ 10 ^ 6 - 1 := by
        have : (10 : Int) ^ Int.toNat 6 = 10 ^ 6 := by decide
        omega
      have ee : (10 : Int) ^ Int.toNat 34 = 10 ^ 34 := by decide
      rw [ee]
      exact ⟨by omega, by omega⟩
    · exact draw p1 rfl (v_rI0 (g := fun i j => .int (i + j)) (v_rI (g := fun i j => .int (i ^ j.toNat)) val_c val_c ⟨by decide, by decide, by decide⟩) val_c) (by omega) (by decide) (by decide) fun d H2 d0 d1 p2 f2 => k d H2 ⟨d0, by
        have : (10 : Int) ^ Int.toNat 40 = 10 ^ 40 := by decide
        omega⟩ (p2.mono (by omega)) (f1.trans f2)
theorem G__law_near (T : Tx K mg a) : FnOk P w K mg base CX0 2 a.f__law_near a.d__law_near ["pool", "low", "many"] spNear1 := by
  refine T.F__law_near.ok sc__law_near (fun vs H Q E h => ?_) (fun cdv A outer s H vs Q E hr h => ?_)
  · obtain ⟨l, cl, n, lo, m, rfl, _⟩ := h
    rfl
  · obtain ⟨l, cl, n, lo, m, rfl, hp, hn, m0, m1, k⟩ := h
    refine ⟨_, (pss_cons (ps_set (i := 3) sc__law_near.nd rfl (Or.inl rfl) (pe_op op_add (pv 1) (pe_call (G__law_draw T) (hr.mono (by decide)) rfl T.g__law_draw T.F__law_draw.kp T.b__law_draw .nil pass0 (pa_cons (pv 0) (pa_cons (pv 2) pa_nil)))))
      (pss_cons (ps_if (pt_cmpR op_eq (pe_call (G__law_draw T) (hr.mono (by decide)) rfl T.g__law_draw T.F__law_draw.kp T.b__law_draw .nil pass0 (pa_cons (pv 0) (pa_cons pe_int pa_nil))) pe_int (nomark _)) (pss_one (ps_ret (pe_op op_sub (pe_op op_pow pe_int pe_int) (pe_call (G__law_draw T) (hr.mono (by decide)) rfl T.g__law_draw T.F__law_draw.kp T.b__law_draw .nil pass0 (pa_cons (pv 0) (pa_cons pe_int pa_nil)))))) pss_nil)
      (pss_one (ps_ret (pv 3))))), ?_⟩
    refine st_letX ⟨_, rfl, ?_⟩
    refine draw hp rfl (val_var rfl) (by omega) (by omega) (by omega) fun d H1 d0 d1 p1 f1 => ⟨_, _, rfl, rfl, ?_⟩
    refine st_guardX ?_
    refine draw p1 rfl val_c (by omega) (by decide) (by decide) fun e H2 e0 e1 p2 f2 => ⟨rfl, _, rfl, ?_⟩
    rw [dec_int, Bool.beq_eq_decide_eq]
    by_cases z : e = 3
    · rw [decide_eq_true z]
      refine iteT ⟨_, _, rfl, rfl, ⟨by decide, by decide, by decide⟩, ?_⟩
      exact draw p2 rfl val_c (by omega) (by decide) (by decide) fun d H3 d0 d1 p3 f3 => ⟨_, _, rfl, rfl, k _ H3 (Or.inr ⟨by show (10 : Int) ^ 12 - 2 ≤ (10 : Int) ^ 12 - d; omega, by show (10 : Int) ^ 12 - d ≤ 10 ^ 12; omega⟩) p3 ((f1.trans f2).trans f3)⟩
    · rw [decide_eq_false z]
      refine iteF ⟨_, rfl, k _ H2 (Or.inl ⟨by omega, by omega⟩) (p2.mono (by omega)) (f1.trans f2)⟩
end
end My

namespace My
open PySem L2
theorem Rw.fr {H H' : Hp} {l cl : Addr} {n : Nat} {as : List V} {L : List Iv} (h : Rw H as L) (f : Fr l cl H H') (p : PoolAt H l cl n) : Rw H' as L := ⟨h.1, fun i a e => let ⟨t, x, y⟩ := h.2 i a e; ⟨t, x, f.tup p y⟩⟩
theorem Fr.free {H H' : Hp} {l cl b : Addr} {n : Nat} (f : Fr l cl H H') (p : PoolAt H l cl n) (h : H' b = none) (p' : PoolAt H' l cl n) : H b = none := by
  obtain ⟨x, y, ns, h1, h2, _⟩ := p'
  cases e : H b with
  | none => rfl
  | some o => exact absurd (f b o e (fun z => by rw [z, h1] at h; cases h) (fun z => by rw [z, h2] at h; cases h)) (by rw [h]; exact fun z => nomatch z)
theorem PoolAt.but {H H' : Hp} {l cl b : Addr} {n : Nat} (p : PoolAt H l cl n) (bt : But b H H') (h1 : l ≠ b) (h2 : cl ≠ b) : PoolAt H' l cl n := by
  obtain ⟨x, y, ns, e1, e2, e3⟩ := p
  exact ⟨x, y, ns, bt _ _ e1 h1, bt _ _ e2 h2, e3⟩
theorem PoolAt.off {H : Hp} {l cl b : Addr} {n : Nat} (p : PoolAt H l cl n) (h : H b = none) : b ≠ l ∧ b ≠ cl := by
  obtain ⟨x, y, ns, e1, e2, e3⟩ := p
  refine ⟨fun z => ?_, fun z => ?_⟩
  · rw [z, e1] at h
    cases h
  · rw [z, e2] at h
    cases h
/-- if a draw == c: .. -/
theorem if_draw {σ : St} {H : Hp} {D : Ends} {t1 t2 : TS} {i : Nat} {tm : TE} {l cl : Addr} {n : Nat} {m c : Int} (hp : PoolAt H l cl n) (hi : σ[i]? = some (some (V.ref l))) (hm : Val tm σ H (.int m)) (hn : n < 2 ^ 40) (m0 : 0 < m) (m1 : m < 2 ^ 200)
    (y : ∀ H', PoolAt H' l cl (n + 1) → Fr l cl H H' → t1 D σ H') (no : ∀ H', PoolAt H' l cl (n + 1) → Fr l cl H H' → t2 D σ H') :
    tIfS (tTest (tOp rEq (tCall spDraw [] E0 (tCons (tVar i) (tCons tm tNil))) (tC (.int c)))) t1 t2 D σ H := by
  refine st_ifX (draw hp hi hm hn m0 m1 fun e H2 e0 e1 p2 f2 => ⟨rfl, _, rfl, ?_⟩)
  rw [dec_int, Bool.beq_eq_decide_eq]
  by_cases z : e = c
  · rw [decide_eq_true z]
    exact iteT (y H2 p2 f2)
  · rw [decide_eq_false z]
    exact iteF (no H2 p2 f2)
/-- what _law_drawn draws -/
def OkD (h p : Int) (L : List Iv) : Prop := 0 ≤ h ∧ h ≤ 9 ∧ 1 ≤ p ∧ p ≤ 60 ∧ L.length ≤ 6 ∧ ∀ a ∈ L, 0 ≤ a.1 ∧ a.1 < a.2 ∧ a.2 ≤ h + p
def spDrawn : Sp := fun vs H Q _ => ∃ (l cl : Addr) (n : Nat), vs = [.ref l] ∧ PoolAt H l cl n ∧ n < 2 ^ 39 ∧ ∀ (t pl : Addr) (as : List V) (L : List Iv) (h p : Int) H', OkD h p L → H' t = some (.tup [.int h, .int p, .ref pl]) → H' pl = some (.lst as) → Rw H' as L → H pl = none → PoolAt H' l cl (n + 20) → Fr l cl H H' → Q (.ref t) H'
def spFactor : Sp := fun vs H Q _ => ∃ (l cl : Addr) (n : Nat) (m : Int), vs = [.ref l, .int m] ∧ PoolAt H l cl n ∧ n < 2 ^ 39 ∧ 1 ≤ m ∧ m ≤ 100 ∧ ∀ (d : Int) H', 1 ≤ d → d * m ≤ 10 ^ 12 → PoolAt H' l cl (n + 3) → Fr l cl H H' → Q (.int d) H'
def bitsOf (n : Nat) (L : List Iv) : List Bool := (List.range n).map fun (t : Nat) => inL L (t : Int)
def spRowOf (K : PySem.W.Frag) : Sp := fun vs H Q _ => ∃ (pl : Addr) (as : List V) (L : List Iv) (n : Nat), vs = [.int n, .ref pl] ∧ SqL K H pl as ∧ Rw H as L ∧ L.length ≤ 100 ∧ n ≤ 1000 ∧ ∀ (b : Addr) H', H' b = some (.lst ((bitsOf n L).map V.bl)) → H b = none → Same H H' → Q (.ref b) H'
section
variable {P : Program} {w : World} {K : PySem.W.Frag} {mg : Str → Option Value} {base : Heap} {a : Ad}
theorem G__law_drawn (T : Tx K mg a) : FnOk P w K mg base CX0 2 a.f__law_drawn a.d__law_drawn ["pool"] spDrawn := by
  refine T.F__law_drawn.ok sc__law_drawn (fun vs H Q E h => ?_) (fun cdv A outer s H vs Q E hr h => ?_)
  · obtain ⟨l, cl, n, rfl, _⟩ := h
    rfl
  · obtain ⟨l, cl, n, rfl, hp, hn, k⟩ := h
    refine ⟨_, (pss_cons (ps_set (i := 1) sc__law_drawn.nd rfl (Or.inl rfl) (pe_call (G__law_draw T) (hr.mono (by decide)) rfl T.g__law_draw T.F__law_draw.kp T.b__law_draw .nil pass0 (pa_cons (pv 0) (pa_cons pe_int pa_nil))))
      (pss_cons (ps_set (i := 2) sc__law_drawn.nd rfl (Or.inl rfl) (pe_op op_add pe_int (pe_call (G__law_draw T) (hr.mono (by decide)) rfl T.g__law_draw T.F__law_draw.kp T.b__law_draw .nil pass0 (pa_cons (pv 0) (pa_cons pe_int pa_nil)))))
      (pss_cons (ps_if (pt_cmpR op_eq (pe_call (G__law_draw T) (hr.mono (by decide)) rfl T.g__law_draw T.F__law_draw.kp T.b__law_draw .nil pass0 (pa_cons (pv 0) (pa_cons pe_int pa_nil))) pe_int (nomark _)) (pss_one (ps_set (i := 2) sc__law_drawn.nd rfl (Or.inl rfl) (pe_op op_add pe_int (pe_call (G__law_draw T) (hr.mono (by decide)) rfl T.g__law_draw T.F__law_draw.kp T.b__law_draw .nil pass0 (pa_cons (pv 0) (pa_cons pe_int pa_nil)))))) pss_nil)
      (pss_cons (ps_set (i := 3) sc__law_drawn.nd rfl (Or.inl rfl) (pe_op op_add (pv 1) (pv 2)))
      (pss_cons (ps_set (i := 4) sc__law_drawn.nd rfl (Or.inl rfl) (pe_lst pa_nil))
      (pss_cons (ps_for PassesOwn.never rfl (pi_range1 rfl T.n_range (pa_cons (pe_call (G__law_draw T) (hr.mono (by decide)) rfl T.g__law_draw T.F__law_draw.kp T.b__law_draw .nil pass0 (pa_cons (pv 0) (pa_cons pe_int pa_nil))) pa_nil)) (pg_name (i := 5) sc__law_drawn.nd rfl (Or.inl rfl)) (pss_cons (ps_set (i := 6) sc__law_drawn.nd rfl (Or.inl rfl) (pe_call (G__law_draw T) (hr.mono (by decide)) rfl T.g__law_draw T.F__law_draw.kp T.b__law_draw .nil pass0 (pa_cons (pv 0) (pa_cons (pv 3) pa_nil))))
      (pss_cons (ps_set (i := 7) sc__law_drawn.nd rfl (Or.inl rfl) (pe_op op_add (pe_op op_add (pv 6) pe_int) (pe_call (G__law_draw T) (hr.mono (by decide)) rfl T.g__law_draw T.F__law_draw.kp T.b__law_draw .nil pass0 (pa_cons (pv 0) (pa_cons (pe_op op_sub (pv 3) (pv 6)) pa_nil)))))
      (pss_one (ps_expr (pe_bm PySem.F.plainAttrs_list PySem.F.slot_list_append PySem.F.type_list_append mt_append (pv 4) (pa_cons (pe_tup (pa_cons (pv 6) (pa_cons (pv 7) pa_nil))) pa_nil)))))))
      (pss_one (ps_ret (pe_tup (pa_cons (pv 1) (pa_cons (pv 2) (pa_cons (pv 4) pa_nil)))))))))))), ?_⟩
    refine st_letX (draw hp rfl val_c (by omega) (by decide) (by decide) fun hd H1 a0 a1 p1 f1 => ?_)
    refine st_letX (op_c (draw p1 rfl val_c (by omega) (by decide) (by decide) fun pd H2 b0 b1 p2 f2 => ⟨_, _, rfl, rfl, ?_⟩))
    refine st_shareS (fun σ' H' => ∃ pd, 1 ≤ pd ∧ pd ≤ 60 ∧ σ' = [some (.ref l), some (.int hd), some (.int pd), none, none, none, none, none] ∧ PoolAt H' l cl (n + 4) ∧ Fr l cl H H') ?_ fun N hN => ?_
    case refine_2 =>
      refine if_draw p2 rfl val_c (by omega) (by decide) (by decide) (fun H3 p3 f3 => ?_) fun H3 p3 f3 => hN _ _ ⟨1 + pd, by omega, by omega, rfl, p3.mono (by omega), (f1.trans f2).trans f3⟩
      exact op_c (draw p3 rfl val_c (by omega) (by decide) (by decide) fun pd H4 b0 b1 p4 f4 => ⟨_, _, rfl, rfl, hN _ _ ⟨1 + pd, by omega, by omega, rfl, p4.mono (by omega), ((f1.trans f2).trans f3).trans f4⟩⟩)
    rintro σ' H3 ⟨pd, q1, q2, rfl, p3, f3⟩
    refine st_let (v_rI0 (g := fun i j => .int (i + j)) (val_var rfl) (val_var rfl)) ?_
    refine st_letX ⟨by show 0 ≤ sizeLine; decide, fun pl hpl => ?_⟩
    have s4 := Same.new (o := .lst []) hpl
    obtain ⟨nl, ncl⟩ := p3.off hpl
    have hpl0 : H pl = none := f3.free (hp.mono (by omega : n ≤ n + 4)) hpl p3
    refine st_seq (rng1X (draw (p3.same s4) rfl val_c (by omega) (by decide) (by decide) fun cnt H5 c0 c1 p5 f5 => ?_))
    have e5 : H5 pl = some (.lst []) := f5 _ _ upd_same nl ncl
    have f05 : Fr l cl H H5 := (f3.trans (Fr.of s4)).trans f5
    refine st_forR1 (n := cnt.toNat) val_c (by omega) (by omega) (fun i σ' H' => ∃ v5 v6 v7 as L, σ' = [some (.ref l), some (.int hd), some (.int pd), some (.int (hd + pd)), some (.ref pl), v5, v6, v7] ∧ H' pl = some (.lst as) ∧ Rw H' as L ∧ L.length = i ∧ (∀ a ∈ L, 0 ≤ a.1 ∧ a.1 < a.2 ∧ a.2 ≤ hd + pd) ∧ PoolAt H' l cl (n + 5 + 2 * i) ∧ Fr l cl H H') ⟨none, none, none, [], [], rfl, e5, Rw.nil, rfl, fun a h => (nomatch h), p5, f05⟩ ?_ ?_
    · rintro i σ' H6 hi ⟨v5, v6, v7, as, L, rfl, e6, rw6, lL, ok, p6, f6⟩
      refine g_name (st_letX (draw p6 rfl (val_var rfl) (by omega) (by omega) (by omega) fun st H7 s0 s1 p7 f7 => ?_))
      have e7 := f7 _ _ e6 nl ncl
      have rw7 := rw6.fr f7 p6
      refine st_letX (op_v (v_rI0 (g := fun i j => .int (i + j)) (val_var rfl) val_c) (draw p7 rfl (v_rI0 (g := fun i j => .int (i - j)) (val_var rfl) (val_var rfl)) (by omega) (by omega) (by omega) fun en H8 t0 t1 p8 f8 => ⟨_, _, rfl, rfl, ?_⟩))
      have e8 := f8 _ _ e7 nl ncl
      have rw8 := rw7.fr f8 p7
      refine app_pair rfl e8 (by rw [rw8.1]; omega) (val_var rfl) (val_var rfl) fun u H9 eu e9 b9 hu => ?_
      have rw9 : Rw H9 (as ++ [.ref u]) (L ++ [(st, st + 1 + en)]) := (rw8.but b9 e8 (by intro xs z; cases z)).snoc eu
      refine ⟨_, _, _, _, _, rfl, e9, rw9, by simp [lL], fun a ha => ?_, (p8.but b9 nl.symm ncl.symm).mono (by omega), ?_⟩
      · rcases List.mem_append.mp ha with h | h
        · exact ok a h
        · obtain rfl := List.mem_singleton.mp h
          dsimp only
          omega
      · exact fun c o e n1 n2 => b9 _ _ (((f6.trans f7).trans f8) c o e n1 n2) fun z => by
          rw [z, hpl0] at e
          cases e
    · rintro σ' H6 ⟨v5, v6, v7, as, L, rfl, e6, rw6, lL, ok, p6, f6⟩
      dsimp only
      refine ⟨_, rfl, _, rfl, _, rfl, by show 3 ≤ sizeLine; decide, fun t ht => ?_⟩
      have s7 := Same.new (o := .tup [V.int hd, V.int pd, V.ref pl]) ht
      exact k t pl as L hd pd _ ⟨a0, by omega, q1, q2, by omega, ok⟩ upd_same (s7 _ _ e6) (rw6.same s7) hpl0 ((p6.same s7).mono (by omega)) (f6.trans (Fr.of s7))
theorem G__law_pick_factor (T : Tx K mg a) : FnOk P w K mg base CX0 2 a.f__law_pick_factor a.d__law_pick_factor ["pool", "most"] spFactor := by
  refine T.F__law_pick_factor.ok sc__law_pick_factor (fun vs H Q E h => ?_) (fun cdv A outer s H vs Q E hr h => ?_)
  · obtain ⟨l, cl, n, m, rfl, _⟩ := h
    rfl
  · obtain ⟨l, cl, n, m, rfl, hp, hn, m0, m1, k⟩ := h
    refine ⟨_, (pss_cons (ps_set (i := 2) sc__law_pick_factor.nd rfl (Or.inl rfl) (pe_call (G__law_draw T) (hr.mono (by decide)) rfl T.g__law_draw T.F__law_draw.kp T.b__law_draw .nil pass0 (pa_cons (pv 0) (pa_cons pe_int pa_nil))))
      (pss_cons (ps_if (pt_cmpR op_eq (pv 2) pe_int (nomark _)) (pss_one (ps_ret (pe_op op_add pe_int (pe_call (G__law_draw T) (hr.mono (by decide)) rfl T.g__law_draw T.F__law_draw.kp T.b__law_draw .nil pass0 (pa_cons (pv 0) (pa_cons pe_int pa_nil)))))) pss_nil)
      (pss_cons (ps_if (pt_cmpR op_eq (pv 2) pe_int (nomark _)) (pss_one (ps_ret (pe_op op_sub (pe_op op_fdivW (pe_op op_pow pe_int pe_int) (pv 1)) (pe_call (G__law_draw T) (hr.mono (by decide)) rfl T.g__law_draw T.F__law_draw.kp T.b__law_draw .nil pass0 (pa_cons (pv 0) (pa_cons pe_int pa_nil)))))) pss_nil)
      (pss_cons (ps_if (pt_cmpR op_eq (pv 2) pe_int (nomark _)) (pss_one (ps_ret (pe_op op_add pe_int (pe_call (G__law_draw T) (hr.mono (by decide)) rfl T.g__law_draw T.F__law_draw.kp T.b__law_draw .nil pass0 (pa_cons (pv 0) (pa_cons (pe_op op_fdivW (pe_op op_pow pe_int pe_int) (pv 1)) pa_nil)))))) pss_nil)
      (pss_one (ps_ret pe_int)))))), ?_⟩
    refine st_letX (draw hp rfl val_c (by omega) (by decide) (by decide) fun sh H1 a0 a1 p1 f1 => ?_)
    refine st_guard (q := sh = 5) (a_eq (val_var (i := 2) rfl) val_c) (by simp) (fun c => ?_) fun c => ?_
    · exact op_c (draw p1 rfl val_c (by omega) (by decide) (by decide) fun d H2 d0 d1 p2 f2 => ⟨_, _, rfl, rfl, k _ H2 (by omega) (by
        have : (1 + d) * m ≤ 9 * 100 := Int.mul_le_mul (by omega) m1 (by omega) (by omega)
        omega) (p2.mono (by omega)) (f1.trans f2)⟩)
    have ed : (10 : Int) ^ Int.toNat 12 = 10 ^ 12 := by decide
    have vq : Val (tOp (rI CDivW fun i j => .int (i / j)) (tOp (rI CPow fun i j => .int (i ^ j.toNat)) (tC (.int 10)) (tC (.int 12))) (tVar 1)) [some (.ref l), some (.int m), some (.int sh)] H1 (.int (10 ^ 12 / m)) := by
      rw [← ed]
      exact v_rI (g := fun i j => .int (i / j)) (v_rI (g := fun i j => .int (i ^ j.toNat)) val_c val_c ⟨by decide, by decide, by decide⟩) (val_var rfl) (wide_div (b := 40) (by omega) (by omega) (by decide) (by decide))
    have qm : (10 ^ 12 / m) * m ≤ 10 ^ 12 := Int.ediv_mul_le _ (by omega)
    have q1 : 100 ≤ 10 ^ 12 / m := by
      have : 10 ^ 12 / 100 ≤ 10 ^ 12 / m := by
        refine Int.le_ediv_of_mul_le (by omega) ?_
        have : (10 ^ 12 / 100 : Int) * m ≤ 10 ^ 12 / 100 * 100 := Int.mul_le_mul_of_nonneg_left m1 (by decide)
        omega
      omega
    have le : ∀ x : Int, x ≤ 10 ^ 12 / m → x * m ≤ 10 ^ 12 := fun x h => Int.le_trans (Int.mul_le_mul_of_nonneg_right h (by omega)) qm
    refine st_guard (q := sh = 6) (a_eq (val_var (i := 2) rfl) val_c) (by simp) (fun c => ?_) fun c => ?_
    · exact op_v vq (draw p1 rfl val_c (by omega) (by decide) (by decide) fun d H2 d0 d1 p2 f2 => ⟨_, _, rfl, rfl, k _ H2 (by omega) (le _ (by omega)) (p2.mono (by omega)) (f1.trans f2)⟩)
    refine st_guard (q := sh = 7) (a_eq (val_var (i := 2) rfl) val_c) (by simp) (fun c => ?_) fun c => ?_
    · refine op_c (draw p1 rfl vq (by omega) (by omega) ?_ fun d H2 d0 d1 p2 f2 => ⟨_, _, rfl, rfl, k _ H2 (by omega) (le _ (by omega)) (p2.mono (by omega)) (f1.trans f2)⟩)
      have : 10 ^ 12 / m ≤ 10 ^ 12 := Int.ediv_le_self _ (by decide)
      omega
    · exact k 1 H1 (by omega) (by omega) (p1.mono (by omega)) f1
theorem G__law_row_of (T : Tx K mg a) : FnOk P w K mg base CX0 1 a.f__law_row_of a.d__law_row_of ["size", "pairs"] (spRowOf K) := by
  refine T.F__law_row_of.ok sc__law_row_of (fun vs H Q E h => ?_) (fun cdv A outer s H vs Q E hr h => ?_)
  · obtain ⟨pl, as, L, n, rfl, _⟩ := h
    rfl
  · obtain ⟨pl, as, L, n, rfl, hpl, hrw, hL, hn, k⟩ := h
    refine ⟨_, (pss_cons (ps_set (i := 2) sc__law_row_of.nd rfl (Or.inl rfl) (pe_lst pa_nil))
      (pss_cons (ps_for PassesOwn.never rfl (pi_range1 rfl T.n_range (pa_cons (pv 0) pa_nil)) (pg_name (i := 3) sc__law_row_of.nd rfl (Or.inr rfl)) (pss_one (ps_expr (pe_bm PySem.F.plainAttrs_list PySem.F.slot_list_append PySem.F.type_list_append mt_append (pv 2) (pa_cons (pe_callB (cr_any rfl) (by rfl) T.n_any (by decide +kernel) (pa_cons (pe_lc (own := [("a", 4)]) (g := gName 4) (tt := tYes) rfl sc__law_row_of.nd (pi_list (pv 1)) (blkOk_by (own := [("a", 4)]) (N := ["size", "pairs", "bits", "t", "a"]) (sc := defScope s__law_row_of) (by decide +kernel)) (fun _ _ _ _ _ => (pg_name (i := 4) sc__law_row_of.nd rfl (Or.inl rfl))) (fun _ _ _ _ _ => pts_nil) (fun _ _ _ _ _ => (pe_chain op_le op_lt (pe_ix (ix_tupK K) (pv 4) pe_int (fun _ _ => rfl)) (pv 3) (pe_ix (ix_tupK K) (pv 4) pe_int (fun _ _ => rfl))))) pa_nil)) pa_nil)))))
      (pss_one (ps_ret (pv 2))))), ?_⟩
    refine st_letX ⟨by show 0 ≤ sizeLine; decide, fun b hb => ?_⟩
    have s1 := Same.new (o := .lst []) hb
    have la := hrw.1
    refine st_seq (st_forR1 (n := n) (val_var rfl) rfl (by omega) (fun i σ' H' => ∃ v3, σ' = [some (.int (n : Nat)), some (.ref pl), some (.ref b), v3, none] ∧ H' b = some (.lst ((bitsOf i L).map V.bl)) ∧ Same H H') ⟨none, rfl, upd_same, s1⟩ ?_ ?_)
    · rintro i σ' H2 hi ⟨v3, rfl, e2, s2⟩
      refine g_name (app_te rfl e2 (v_cb1 (lcL ⟨_, rfl, ?_⟩)))
      refine cg_L (a := pl) (xs := as) (fun _ => true) (fun D j v H' => ∃ r, L[j]? = some r ∧ v = .bl (decide (r.1 ≤ (i : Int)) && decide ((i : Int) < r.2))) (fun D j v H' H'' h _ => h) (s2.seq hpl) (by omega) (fun D j x H3 bs hD hx eD s3 C q => ?_) fun D bs H3 hD eD ar s3 => ?_
      · obtain ⟨r, hr⟩ : ∃ r, L[j]? = some r := ⟨_, List.getElem?_eq_getElem (by rw [← la]; exact (List.getElem?_eq_some_iff.mp hx).1)⟩
        obtain ⟨t, w1, w2⟩ := (hrw.same (s2.trans s3)).2 j r hr
        rw [hx] at w1
        cases w1
        exact g_name (q _ _ (But.refl _ _) rfl rfl (fun _ z => z) fun _ => Gives.val (v_chain (f := fun i j => decide (i ≤ j)) (g := fun i j => decide (i < j)) (v_ixT (val_var rfl) val_c (SqT.of w2) rfl) (val_var rfl) (v_ixT (val_var rfl) val_c (SqT.of w2) rfl)) ⟨r, hr, rfl⟩)
      · obtain ⟨a1, a2⟩ := ar.all
        have eb : bs = (L.map fun r => decide (r.1 ≤ (i : Int)) && decide ((i : Int) < r.2)).map V.bl := by
          refine List.ext_getElem? fun j => ?_
          rw [List.getElem?_map, List.getElem?_map]
          by_cases c : j < L.length
          · have hb' := List.getElem?_eq_getElem (l := bs) (i := j) (by omega)
            obtain ⟨r, hr, e⟩ := a2 j _ hb'
            rw [hb', e, hr]
            rfl
          · rw [List.getElem?_eq_none (by omega), List.getElem?_eq_none (by omega)]
            rfl
        have ei : (L.map fun r => decide (r.1 ≤ (i : Int)) && decide ((i : Int) < r.2)).any id = inL L (i : Int) := by
          unfold inL
          rw [List.any_map]
          congr 1
          funext r
          simp
        refine ⟨D, _, rfl, by rw [← eb]; exact SqL.of eD, ?_⟩
        rw [ei]
        refine app_is (s3 _ _ e2) (by simp [bitsOf]; omega) fun H4 e4 b4 => ⟨_, rfl, ?_, But.new hb (But.same (s2.trans s3) b4)⟩
        rw [e4]
        unfold bitsOf
        rw [List.range_succ, List.map_append, List.map_append]
        rfl
    · rintro σ' H2 ⟨v3, rfl, e2, s2⟩
      exact ⟨_, rfl, k b H2 e2 hb s2⟩
end
end My

namespace My
open PySem L2
def spInt : Sp := fun vs H Q _ => ∃ i : Int, vs = [.int i] ∧ Q (.bl true) H
/-- a form as the law tells it: (head, period, runs), the runs a list of its own -/
def FmAt (H : Hp) (t rl : Addr) (h p : Int) (L : List Iv) : Prop := ∃ rs, H t = some (.tup [.int h, .int p, .ref rl]) ∧ H rl = some (.lst rs) ∧ Rw H rs L
theorem FmAt.same {H H' : Hp} {t rl : Addr} {h p : Int} {L : List Iv} (f : FmAt H t rl h p L) (s : Same H H') : FmAt H' t rl h p L := let ⟨rs, a, b, c⟩ := f; ⟨rs, s _ _ a, s _ _ b, c.same s⟩
def spLF : Sp := fun vs H Q _ => ∃ (bl : Addr) (bits : List Bool) (head : Nat), vs = [.int head, .ref bl] ∧ H bl = some (.lst (bits.map V.bl)) ∧ head < bits.length ∧ bits.length ≤ 1000 ∧
  ∀ (t rl : Addr) (least start : Nat) (L : List Iv) H', Canon (ext head ((bits.length - head : Nat) : Int) (bt bits)) start least L → FmAt H' t rl start least L → L.length ≤ 2000 → H rl = none → Same H H' → Q (.ref t) H'
section
variable {P : Program} {w : World} {K : PySem.W.Frag} {mg : Str → Option Value} {base : Heap} {a : Ad}
theorem G__law_form (T : Tx K mg a) : FnOk P w K mg base CX0 1 a.f__law_form a.d__law_form ["head", "bits"] spLF := by
  refine T.F__law_form.ok sc__law_form (fun vs H Q E h => ?_) (fun cdv A outer s H vs Q E hr h => ?_)
  · obtain ⟨bl, bits, head, rfl, _⟩ := h
    rfl
  · obtain ⟨bl, bits, head, rfl, hb, ln, lz, k⟩ := h
    refine ⟨_, (pss_cons (ps_set (i := 2) sc__law_form.nd rfl (Or.inl rfl) (pe_slice sl_list (pv 1) (po_some (pv 0)) po_none))
      (pss_cons (ps_set (i := 3) sc__law_form.nd rfl (Or.inl rfl) (pe_callB call_len_seq (by rfl) T.n_len (by decide +kernel) (pa_cons (pv 2) pa_nil)))
      (pss_cons (ps_for PassesOwn.never rfl (pi_range3 rfl T.n_range (pa_cons (pe_callB call_len_seq (by rfl) T.n_len (by decide +kernel) (pa_cons (pv 2) pa_nil)) (pa_cons pe_int (pa_cons (pe_un un_neg pe_int) pa_nil)))) (pg_name (i := 4) sc__law_form.nd rfl (Or.inl rfl)) (pss_one (ps_if (PW.pt (pw_and (pt_cmpR op_eq (pe_op op_mod (pe_callB call_len_seq (by rfl) T.n_len (by decide +kernel) (pa_cons (pv 2) pa_nil)) (pv 4)) pe_int (nomark _)) (pw_and1 (pt_cmpR (op_eqD hr.units) (pv 2) (pe_op op_cat (pe_slice sl_list (pv 2) (po_some (pv 4)) po_none) (pe_slice sl_list (pv 2) po_none (po_some (pv 4)))) (nomark _))))) (pss_one (ps_set (i := 3) sc__law_form.nd rfl (Or.inl rfl) (pv 4))) pss_nil)))
      (pss_cons (ps_set (i := 5) sc__law_form.nd rfl (Or.inl rfl) (pv 0))
      (pss_cons (ps_for PassesOwn.never rfl (pi_range3 rfl T.n_range (pa_cons (pe_op op_sub (pv 0) pe_int) (pa_cons (pe_un un_neg pe_int) (pa_cons (pe_un un_neg pe_int) pa_nil)))) (pg_name (i := 6) sc__law_form.nd rfl (Or.inl rfl)) (pss_one (ps_if (PW.pt (pw_and (pt_cmpR op_eq (pv 5) (pe_op op_add (pv 6) pe_int) (nomark _)) (pw_and1 (pt_cmpR op_eq (pe_ix ix_list (pv 1) (pv 6) (fun _ _ => rfl)) (pe_ix ix_list (pv 1) (pe_op op_add (pv 6) (pv 3)) (fun _ _ => rfl)) (nomark _))))) (pss_one (ps_set (i := 5) sc__law_form.nd rfl (Or.inl rfl) (pv 6))) pss_nil)))
      (pss_cons (ps_set (i := 7) sc__law_form.nd rfl (Or.inl rfl) (pe_lst pa_nil))
      (pss_cons (ps_for PassesOwn.never rfl (pi_range1 rfl T.n_range (pa_cons (pe_op op_add (pv 5) (pv 3)) pa_nil)) (pg_name (i := 6) sc__law_form.nd rfl (Or.inl rfl)) (pss_one (ps_if (PW.pt (pw_and (pt_val (pe_ix ix_list (pv 1) (pv 6) (fun _ _ => rfl))) (pw_and (pt_cmpR op_gt (pe_callB call_len_seq (by rfl) T.n_len (by decide +kernel) (pa_cons (pv 7) pa_nil)) pe_int (nomark _)) (pw_and1 (pt_cmpR op_eq (pe_ix ix_tup (pe_ix ix_list (pv 7) (pe_un un_neg pe_int) (fun _ _ => rfl)) pe_int (fun _ _ => rfl)) (pv 6) (nomark _)))))) (pss_one (ps_asg (pe_tup (pa_cons (pe_ix ix_tup (pe_ix ix_list (pv 7) (pe_un un_neg pe_int) (fun _ _ => rfl)) pe_int (fun _ _ => rfl)) (pa_cons (pe_op op_add (pv 6) pe_int) pa_nil))) (pg_sub (pv 7) (pe_un un_neg pe_int) set_list))) (pss_one (ps_if (pt_val (pe_ix ix_list (pv 1) (pv 6) (fun _ _ => rfl))) (pss_one (ps_expr (pe_bm PySem.F.plainAttrs_list PySem.F.slot_list_append PySem.F.type_list_append mt_append (pv 7) (pa_cons (pe_tup (pa_cons (pv 6) (pa_cons (pe_op op_add (pv 6) pe_int) pa_nil))) pa_nil)))) pss_nil)))))
      (pss_one (ps_ret (pe_tup (pa_cons (pv 5) (pa_cons (pv 3) (pa_cons (pv 7) pa_nil))))))))))))), ?_⟩
    obtain ⟨n, hn⟩ : ∃ n, n = bits.length - head := ⟨_, rfl⟩
    have n1 : 1 ≤ n := by omega
    refine st_letX ⟨_, rfl, _, rfl, _, rfl, bl, _, rfl, SqL.of hb, fun tl htl => ?_⟩
    have s1 := Same.new (o := .lst (cutV (bits.map V.bl) (some (head : Int)) none)) htl
    have e1 : upd H tl (.lst (cutV (bits.map V.bl) (some (head : Int)) none)) tl = some (.lst ((bits.drop head).map V.bl)) := by rw [upd_same, cut_drop, List.map_drop]
    generalize upd H tl (.lst (cutV (bits.map V.bl) (some (head : Int)) none)) = H1 at s1 e1
    have hb1 := s1 _ _ hb
    have lt : (bits.drop head).length = n := by rw [List.length_drop, hn]
    have vl : ∀ {H' : Hp} {σ : St}, Same H1 H' → σ[2]? = some (some (V.ref tl)) → Val (tCB (fun xs H_1 Q => ∃ p ys, xs = [V.ref p] ∧ (SqL K H_1 p ys ∨ SqT K H_1 p ys) ∧ Q (V.int ↑ys.length) H_1) (tCons (tVar 2) tNil)) σ H' (.int (n : Nat)) := fun s e => v_cb (val_var e) fun Q q => ⟨tl, _, rfl, Or.inl (SqL.of (s _ _ e1)), by rw [List.length_map, lt]; exact q⟩
    refine st_let (vl (Same.refl _) rfl) ?_
    have full : turnOk (bits.drop head) n := ⟨by rw [lt, Nat.mod_self], by rw [← lt, List.drop_length, List.take_length, List.nil_append]⟩
    refine st_seq (st_forDown (n := n) (vl (Same.refl _) rfl) val_c (v_un (g := fun i => V.int (-i)) val_c) (by omega) (by omega) (by omega) (by omega) (by omega) (fun i σ' H' => ∃ (least : Nat) (v4 : Option V), σ' = [some (.int head), some (.ref bl), some (.ref tl), some (.int least), v4, none, none, none] ∧ Same H1 H' ∧ turnOk (bits.drop head) least ∧ 1 ≤ least ∧ least ≤ n ∧ ∀ k, n < k + i + 0 → k < least → 1 ≤ k → ¬ turnOk (bits.drop head) k) ⟨n, none, rfl, Same.refl _, full, n1, Nat.le_refl _, fun k a b _ => by omega⟩ ?_ ?_)
    · rintro i σ' H2 hi ⟨least, v4, rfl, s2, ok, l1, l2, no⟩
      refine g_name (st_ifX ?_)
      have ci : ((n : Int) - (i : Int)) = ((n - i : Nat) : Int) := by omega
      rw [ci]
      have pp : 1 ≤ n - i := by omega
      have nx : ∀ H3, Same H2 H3 → ¬ turnOk (bits.drop head) (n - i) → ∃ (least' : Nat) (v4 : Option V), [some (.int head), some (.ref bl), some (.ref tl), some (.int least), some (.int ((n - i : Nat) : Int)), none, none, none] = [some (V.int head), some (.ref bl), some (.ref tl), some (.int least'), v4, none, none, none] ∧ Same H1 H3 ∧ turnOk (bits.drop head) least' ∧ 1 ≤ least' ∧ least' ≤ n ∧ ∀ k, n < k + (i + 1) + 0 → k < least' → 1 ≤ k → ¬ turnOk (bits.drop head) k := fun H3 s3 nt => ⟨least, _, rfl, s2.trans s3, ok, l1, l2, fun k a b c => by
        by_cases e : k = n - i
        · rw [e]; exact nt
        · exact no k (by omega) b c⟩
      have md := a_eq (σ := [some (.int head), some (.ref bl), some (.ref tl), some (.int least), some (.int ((n - i : Nat) : Int)), none, none, none]) (H := H2) (v_rI (C := fun _ j => 0 < j) (g := fun i j => .int (i % j)) (vl s2 rfl) (val_var (i := 4) rfl) (by omega)) (val_c (v := .int 0))
      have cast : (n : Int) % ((n - i : Nat) : Int) = ((n % (n - i) : Nat) : Int) := rfl
      by_cases c : n % (n - i) = 0
      · rw [decide_eq_true (by rw [cast, c]; rfl)] at md
        refine t_and_yes md ?_
        have e2 := s2 _ _ e1
        refine ⟨_, rfl, _, rfl, _, rfl, _, rfl, tl, _, rfl, SqL.of e2, fun q1 hq1 => ?_⟩
        have s3 := Same.new (o := .lst (cutV ((bits.drop head).map V.bl) (some ((n - i : Nat) : Int)) none)) hq1
        refine ⟨_, rfl, _, rfl, _, rfl, tl, _, rfl, SqL.of (s3 _ _ e2), fun q2 hq2 => ?_⟩
        have s4 := Same.new (o := .lst (cutV ((bits.drop head).map V.bl) none (some ((n - i : Nat) : Int)))) hq2
        have l3 : (cutV ((bits.drop head).map V.bl) (some ((n - i : Nat) : Int)) none).length ≤ 1000 := Nat.le_trans (cutV_length _ _ _) (by rw [List.length_map, lt]; omega)
        have l4 : (cutV ((bits.drop head).map V.bl) none (some ((n - i : Nat) : Int))).length ≤ 1000 := Nat.le_trans (cutV_length _ _ _) (by rw [List.length_map, lt]; omega)
        refine ⟨q1, q2, _, _, rfl, rfl, s4 _ _ upd_same, upd_same, Nat.le_trans (Nat.add_le_add l3 l4) (by decide), fun q3 hq3 => ?_⟩
        have ec : cutV ((bits.drop head).map V.bl) (some ((n - i : Nat) : Int)) none ++ cutV ((bits.drop head).map V.bl) none (some ((n - i : Nat) : Int)) = ((bits.drop head).drop (n - i) ++ (bits.drop head).take (n - i)).map V.bl := by
          rw [cut_drop, cut_take]
          simp
        have s5 := Same.new (o := .lst (cutV ((bits.drop head).map V.bl) (some ((n - i : Nat) : Int)) none ++ cutV ((bits.drop head).map V.bl) none (some ((n - i : Nat) : Int)))) hq3
        have e3 := s5 _ _ (s4 _ _ (s3 _ _ e2))
        have sAll := s3.trans (s4.trans s5)
        refine ⟨.list (bdata (bits.drop head)), .list (bdata ((bits.drop head).drop (n - i) ++ (bits.drop head).take (n - i))), .lst (SqL.of e3) (bdata_dp _), .lst (SqL.of upd_same) (by have := bdata_dp (K := K) (H := upd (upd (upd H2 q1 (.lst (cutV ((bits.drop head).map V.bl) (some ((n - i : Nat) : Int)) none))) q2 (.lst (cutV ((bits.drop head).map V.bl) none (some ((n - i : Nat) : Int))))) q3 (.lst (cutV ((bits.drop head).map V.bl) (some ((n - i : Nat) : Int)) none ++ cutV ((bits.drop head).map V.bl) none (some ((n - i : Nat) : Int))))) ((bits.drop head).drop (n - i) ++ (bits.drop head).take (n - i)); rw [← ec] at this; exact this), bdata_shaped _, bdata_shaped _, _, rfl, ?_⟩
        rw [PyData.eqv, bdata_eqv]
        generalize upd (upd (upd H2 q1 (.lst (cutV ((bits.drop head).map V.bl) (some ((n - i : Nat) : Int)) none))) q2 (.lst (cutV ((bits.drop head).map V.bl) none (some ((n - i : Nat) : Int))))) q3 (.lst (cutV ((bits.drop head).map V.bl) (some ((n - i : Nat) : Int)) none ++ cutV ((bits.drop head).map V.bl) none (some ((n - i : Nat) : Int)))) = H3 at sAll ⊢
        by_cases ce : bits.drop head = (bits.drop head).drop (n - i) ++ (bits.drop head).take (n - i)
        · rw [decide_eq_true ce]
          refine iteT ⟨_, rfl, n - i, _, rfl, s2.trans sAll, ⟨by rw [lt]; exact c, ce⟩, pp, by omega, fun k a b c => by omega⟩
        · rw [decide_eq_false ce]
          exact iteF (nx _ sAll fun z => ce z.2)
      · rw [decide_eq_false (by rw [cast]; omega)] at md
        refine t_and_not md (iteF ?_)
        exact nx H2 (Same.refl _) fun z => c (by rw [← z.1, lt])
    · rintro σ' H2 ⟨least, v4, rfl, s2, ok, l1, l2, no⟩
      dsimp only
      have no : ∀ k, 1 ≤ k → k < least → ¬ turnOk (bits.drop head) k := fun k a b => no k (by omega) b a
      have hb2 := s2 _ _ hb1
      have gb : ∀ t, t < bits.length → (bits.map V.bl)[t]? = some (.bl (bits.getD t false)) := fun t ht => by
        rw [List.getElem?_map, List.getElem?_eq_getElem ht, List.getD_eq_getElem?_getD, List.getElem?_eq_getElem ht]
        rfl
      have hb0 := fun (t : Nat) (ht : t < bits.length) => at_of (z := (t : Int)) (j := t) rfl (gb t ht)
      refine st_let (val_var rfl) ?_
      refine st_seq (st_forDown (n := head) (v_rI0 (g := fun i j => .int (i - j)) (val_var rfl) val_c) (v_un (g := fun i => V.int (-i)) val_c) (v_un (g := fun i => V.int (-i)) val_c) (by omega) (by omega) (by omega) (by omega) (by omega) (fun i σ' H' => ∃ (start : Nat) (v6 : Option V), σ' = [some (.int head), some (.ref bl), some (.ref tl), some (.int least), v4, some (.int start), v6, none] ∧ H' = H2 ∧ start ≤ head ∧ head ≤ start + i ∧ (∀ t, start ≤ t → t < head → bits.getD t false = bits.getD (t + least) false) ∧ (head < start + i → bits.getD (start - 1) false ≠ bits.getD (start - 1 + least) false)) ⟨head, none, rfl, rfl, Nat.le_refl _, Nat.le_refl _, fun t a b => by omega, fun z => by omega⟩ ?_ ?_)
      · rintro i σ' H' hi ⟨start, v6, rfl, rfl, q1, q2, q3, q4⟩
        refine g_name ?_
        have ct : ((head : Int) - 1 - (i : Int)) = ((head - 1 - i : Nat) : Int) := by omega
        rw [ct]
        obtain ⟨t, ht⟩ : ∃ t, t = head - 1 - i := ⟨_, rfl⟩
        rw [← ht]
        refine st_ifp (q := start = t + 1 ∧ bits.getD t false = bits.getD (t + least) false) (a_and (a_eq (val_var (i := 5) rfl) (v_rI0 (g := fun i j => .int (i + j)) (val_var (i := 6) rfl) val_c)) fun _ => a_eqB (v_ixL (val_var (i := 1) rfl) (val_var (i := 6) rfl) (SqL.of hb2) (hb0 t (by omega))) (v_ixL (val_var (i := 1) rfl) (v_rI0 (g := fun i j => .int (i + j)) (val_var (i := 6) rfl) (val_var (i := 3) rfl)) (SqL.of hb2) (by
          have := hb0 (t + least) (by omega)
          rw [show ((t + least : Nat) : Int) = (t : Int) + (least : Int) by omega] at this
          exact this))) (by
            rw [Bool.and_eq_true, decide_eq_true_eq, decide_eq_true_eq]
            refine ⟨fun z => ⟨by omega, z.2⟩, fun z => ⟨by omega, z.2⟩⟩) (fun c => ?_) fun c => ?_
        · refine ⟨_, rfl, t, _, rfl, rfl, by omega, by omega, fun u a b => ?_, fun z => by omega⟩
          by_cases e : u = t
          · rw [e]; exact c.2
          · exact q3 u (by omega) b
        · refine ⟨start, _, rfl, rfl, q1, by omega, q3, fun z => ?_⟩
          by_cases e : start = t + 1
          · intro y
            refine c ⟨e, ?_⟩
            rw [e] at y
            exact y
          · exact q4 (by omega)
      rintro σ' H' ⟨start, v6, rfl, rfl, q1, q2, q3, q4⟩
      dsimp only
      refine st_letX ⟨by show 0 ≤ sizeLine; decide, fun rl hrl => ?_⟩
      have s3 := Same.new (o := .lst []) hrl
      have hb3 := s3 _ _ hb2
      have sl : start + least ≤ bits.length := by omega
      have cs : ((start : Int) + (least : Int)) = ((start + least : Nat) : Int) := by omega
      refine st_seq (st_forR1 (n := start + least) (v_rI0 (g := fun i j => .int (i + j)) (val_var rfl) (val_var rfl)) cs (by omega) (fun i σ' H3 => ∃ (v6 : Option V) (rs : List V) (L : List Iv), σ' = [some (.int head), some (.ref bl), some (.ref tl), some (.int least), v4, some (.int start), v6, some (.ref rl)] ∧ H3 rl = some (.lst rs) ∧ Rw H3 rs L ∧ L.length ≤ i ∧ Tidy L ∧ (∀ a ∈ L, a.2 ≤ i) ∧ (∀ u, inL L u = true ↔ bt bits u ∧ 0 ≤ u ∧ u < (i : Int)) ∧ Same H' H3) ⟨_, [], [], rfl, upd_same, Rw.nil, Nat.le_refl _, .nil, (fun a h => nomatch h), fun u => ⟨fun z => (nomatch z), fun z => by omega⟩, s3⟩ ?_ ?_)
      · rintro i σ' H3 hi ⟨v6, rs, L, rfl, e3, rw3, lL, td, le, inl, s4⟩
        refine g_name ?_
        obtain ⟨t1, t2, t3⟩ := runStep_ok td le inl
        have t4 := runStep_len (bits := bits) (L := L) (t := i)
        have hb4 := s4 _ _ hb2
        have vb : ∀ {σ : St}, σ[1]? = some (some (V.ref bl)) → σ[6]? = some (some (V.int (i : Nat))) → Ans (tB (tOp (rIxL K) (tVar 1) (tVar 6))) σ H3 (bits.getD i false) := fun e1 e2 => a_bl (v_ixL (val_var e1) (val_var e2) (SqL.of hb4) (hb0 i (by omega)))
        have inv : ∀ rs' H4, H4 rl = some (.lst rs') → Rw H4 rs' (runStep bits L i) → But rl H3 H4 → ∃ (v6 : Option V) (rs : List V) (L' : List Iv), [some (.int head), some (.ref bl), some (.ref tl), some (.int least), v4, some (.int start), some (.int (i : Nat)), some (.ref rl)] = [some (V.int head), some (.ref bl), some (.ref tl), some (.int least), v4, some (.int start), v6, some (.ref rl)] ∧ H4 rl = some (.lst rs) ∧ Rw H4 rs L' ∧ L'.length ≤ i + 1 ∧ Tidy L' ∧ (∀ a ∈ L', a.2 ≤ ((i + 1 : Nat) : Int)) ∧ (∀ u, inL L' u = true ↔ bt bits u ∧ 0 ≤ u ∧ u < ((i + 1 : Nat) : Int)) ∧ Same H' H4 := fun rs' H4 e4 rw4 b4 => ⟨_, rs', _, rfl, e4, rw4, by omega, t1, (fun a h => by have := t2 a h; omega), (fun u => by
          rw [t3 u]
          constructor <;> rintro ⟨h1, h2, h3⟩ <;> exact ⟨h1, h2, by omega⟩), But.new hrl (But.same s4 b4)⟩
        by_cases cb : bits.getD i false = true
        · rw [cb] at vb
          by_cases hn : L = []
          · subst hn
            obtain rfl : rs = [] := List.length_eq_zero_iff.mp rw3.1
            refine st_ifp (q := False) (a_and (c := false) (vb rfl rfl) fun _ => a_and (c := true) (a_cmp (i := 0) (j := 0) (f := fun i j => decide (j < i)) (v_cb (val_var (i := 7) rfl) fun Q q => ⟨rl, [], rfl, Or.inl (SqL.of e3), q⟩) val_c) (fun z => nomatch z)) (by simp) (fun z => z.elim) fun _ => ?_
            refine st_ifp (q := True) (vb rfl rfl) (by simp) (fun _ => ?_) (fun z => absurd trivial z)
            refine app_pair rfl e3 (by show 0 ≤ 1000000; omega) (val_var rfl) (v_rI0 (g := fun i j => .int (i + j)) (val_var rfl) val_c) fun u H4 eu e4 b4 hu => ?_
            refine inv _ H4 e4 ?_ b4
            have er : runStep bits [] i = [((i : Int), (i : Int) + 1)] := by
              unfold runStep
              rw [if_pos cb]
              rfl
            rw [er]
            exact Rw.cons (a := ((i : Int), (i : Int) + 1)) eu Rw.nil
          · obtain ⟨cs0, u0, ers, rwd, eu0⟩ := rw3.lastD hn
            rw [ers] at e3
            have lz : ∀ {σ : St} {H' : Hp} {r}, σ[7]? = some (some (V.ref rl)) → H' rl = some (.lst (cs0 ++ [V.ref r])) → Val (tOp (rIxL K) (tVar 7) (tUn (rU fun i => V.int (-i)) (tC (V.int 1)))) σ H' (.ref r) := fun e f => v_ixL (val_var e) (v_un (g := fun i => V.int (-i)) val_c) (SqL.of f) atI_last
            refine st_ifp (q := (L.getLastD (0, 0)).2 = (i : Int)) (a_and (vb rfl rfl) fun _ => a_and (a_cmp (i := ((cs0 ++ [V.ref u0]).length : Nat)) (j := 0) (f := fun i j => decide (j < i)) (v_cb (val_var (i := 7) rfl) fun Q q => ⟨rl, _, rfl, Or.inl (SqL.of e3), q⟩) val_c) fun _ => a_eq (v_ixT (lz rfl e3) val_c (SqT.of eu0) (show atI [V.int (L.getLastD (0, 0)).1, .int (L.getLastD (0, 0)).2] 1 = some (V.int (L.getLastD (0, 0)).2) from rfl)) (val_var (i := 6) rfl)) (by simp) (fun c => ?_) fun c => ?_
            · refine st_putPair (i := -1) (v_ixT (lz rfl e3) val_c (SqT.of eu0) (show atI [V.int (L.getLastD (0, 0)).1, .int (L.getLastD (0, 0)).2] 0 = some (V.int (L.getLastD (0, 0)).1) from rfl)) (v_rI0 (g := fun i j => .int (i + j)) (val_var rfl) val_c) (fun _ => val_var rfl) (fun _ => v_un (g := fun i => V.int (-i)) val_c) e3 ixN_last fun u hu => ?_
              have su := Same.new (o := .tup [.int (L.getLastD (0, 0)).1, .int ((i : Int) + 1)]) hu
              refine inv _ _ upd_same ?_ fun b o e n => by rw [upd_ne n]; exact su _ _ e
              have er : runStep bits L i = L.dropLast ++ [((L.getLastD (0, 0)).1, (i : Int) + 1)] := by
                unfold runStep
                rw [if_pos cb, if_pos ⟨hn, c⟩]
              rw [er, set_last]
              exact ((rwd.same su).snoc (a := ((L.getLastD (0, 0)).1, (i : Int) + 1)) upd_same).upd (su _ _ e3)
            · refine st_ifp (q := True) (vb rfl rfl) (by simp) (fun _ => ?_) (fun z => absurd trivial z)
              refine app_pair rfl e3 (by rw [← ers, rw3.1]; omega) (val_var rfl) (v_rI0 (g := fun i j => .int (i + j)) (val_var rfl) val_c) fun u H4 eu e4 b4 hu => ?_
              refine inv _ H4 e4 ?_ b4
              have er : runStep bits L i = L ++ [((i : Int), (i : Int) + 1)] := by
                unfold runStep
                rw [if_pos cb, if_neg fun z => c z.2]
              rw [er, ← ers]
              exact (rw3.but b4 (by rw [e3]) (by intro xs z; cases z)).snoc (a := ((i : Int), (i : Int) + 1)) eu
        · have cb' : bits.getD i false = false := by simpa using cb
          rw [cb'] at vb
          refine st_ifp (q := False) (a_and (c := true) (vb rfl rfl) (fun z => nomatch z)) (by simp) (fun z => z.elim) fun _ => ?_
          refine st_ifp (q := False) (vb rfl rfl) (by simp) (fun z => z.elim) fun _ => ?_
          have er : runStep bits L i = L := by
            unfold runStep
            rw [if_neg cb]
          exact inv rs H3 e3 (by rw [er]; exact rw3) (But.refl _ _)
      rintro σ' H3 ⟨v6, rs, L, rfl, e3, rw3, lL, td, le, inl, s4⟩
      dsimp only
      refine ⟨_, rfl, _, rfl, _, rfl, by show 3 ≤ sizeLine; decide, fun t ht => ?_⟩
      have s5 := Same.new (o := .tup [V.int start, V.int least, V.ref rl]) ht
      have can := law_canon (L := L) (start := start) ln l1 (by omega) ok no q1 q3 (fun z => q4 (by omega)) td (fun u => by
        rw [inl u]
        constructor <;> rintro ⟨h1, h2, h3⟩ <;> exact ⟨h1, h2, by omega⟩)
      refine k t rl least start L _ can ⟨rs, upd_same, s5 _ _ e3, rw3.same s5⟩ (by omega) ?_ (s1.trans (s2.trans (s4.trans s5)))
      cases e : H rl with
      | none => rfl
      | some o => exact absurd ((s1.trans s2) _ _ e) (by rw [hrl]; exact fun z => nomatch z)
end
end My

namespace My
open PySem L2
def spScaled : Sp := fun vs H Q _ => ∃ (t rl : Addr) (h p b : Int) (L : List Iv), vs = [.ref t, .int b] ∧ FmAt H t rl h p L ∧ L.length ≤ 10000 ∧ 1 ≤ p ∧ 1 ≤ b ∧ b ≤ 10 ^ 12 ∧
  ∀ (t' rl' : Addr) H', FmAt H' t' rl' (h * b) (if p > 1 then p * b else 1) (scaleL b (h * b + if p > 1 then p * b else 1) L) → H rl' = none → Same H H' → Q (.ref t') H'
def lawIn (head : Nat) (bits : List Bool) (b m : Int) : Bool := decide (0 ≤ m) && bits.getD (placeOf head ((bits.length - head : Nat) : Int) (m / b)).toNat false
def spIsIn : Sp := fun vs H Q _ => ∃ (bl : Addr) (bits : List Bool) (head : Nat) (b m : Int), vs = [.int head, .ref bl, .int b, .int m] ∧ H bl = some (.lst (bits.map V.bl)) ∧ head < bits.length ∧ bits.length ≤ 1000 ∧ 1 ≤ b ∧ b ≤ 10 ^ 12 ∧ Q (.bl (lawIn head bits b m)) H
def spHas (a : Ad) : Sp := fun vs H Q _ => ∃ (x t rl : Addr) (h p : Int) (L : List Iv), vs = [.ref x, .ref t] ∧ PatAt a H x h p L ∧ FmAt H t rl h p L ∧ ∀ H', Same H H' → Q (.bl true) H'
def spLOnce (K : PySem.W.Frag) : Sp := fun vs H Q _ => ∃ (m : Addr) (ks : List Int), vs = [.ref m] ∧ SqL K H m (ks.map V.int) ∧ ks.length ≤ 10000 ∧ ∀ (t rl : Addr) (h : Int) (L : List Iv) H', OnceOf ks h L → FmAt H' t rl h 1 L → H rl = none → Same H H' → L.length ≤ ks.length → Q (.ref t) H'
section
variable {P : Program} {w : World} {K : PySem.W.Frag} {mg : Str → Option Value} {base : Heap} {a : Ad}
theorem isi_rd {K : PySem.W.Frag} {H : Hp} {Q : VK} {x : V} (tn : String) {cn : String} (b : Bool) (ty : TyX K H x (.type tn)) (h : kitB tn cn = some b) (q : Q (.bl b) H) : rIsi K [x, .ty cn] H Q := ⟨x, .ty cn, _, _, b, rfl, .ty _, ty, kit_ty h, q⟩
/-- isinstance(e, a built-in class) -/
theorem a_isi {K : PySem.W.Frag} {σ : St} {H : Hp} {ta : TE} {x : V} (tn : String) {cn : String} (b : Bool) (ha : Val ta σ H x) (ty : TyX K H x (.type tn)) (h : kitB tn cn = some b) : Ans (tB (tCB (rIsi K) (tCons ta (tCons (tC (.ty cn)) tNil)))) σ H b := fun Q q => ha _ (show rIsi K [x, .ty cn] H (fun y H1 => ∃ c, y = .bl c ∧ Q c H1) from isi_rd tn b ty h ⟨_, rfl, q⟩)
theorem a_int {σ : St} {H : Hp} {ta : TE} {i : Int} (ha : Val ta σ H (.int i)) : Ans (tB (tCall spInt [] E0 (tCons ta tNil))) σ H true := fun Q q => ha _ ⟨i, rfl, _, rfl, q⟩
theorem int_body {D : Ends} {i : Int} {H : Hp} (k : D.rt (.bl true) H) : tRet (tAndV (tCB (rIsi K) (tCons (tVar 0) (tCons (tC (.ty "int")) tNil))) (tNotV (tCB (rIsi K) (tCons (tVar 0) (tCons (tC (.ty "bool")) tNil))))) D [some (.int i)] H := by
  refine ⟨_, rfl, _, _, _, _, true, rfl, .ty _, .base (.int i), kit_ty (by decide +kernel), _, rfl, iteT ?_⟩
  exact ⟨_, rfl, _, _, _, _, false, rfl, .ty _, .base (.int i), kit_ty (by decide +kernel), _, rfl, k⟩
theorem G__law_int (T : Tx K mg a) : FnOk P w K mg base CX0 1 a.f__law_int a.d__law_int ["one"] spInt := by
  refine T.F__law_int.ok sc__law_int (fun vs H Q E h => ?_) (fun cdv A outer s H vs Q E hr h => ?_)
  · obtain ⟨i, rfl, _⟩ := h
    rfl
  · obtain ⟨i, rfl, k⟩ := h
    refine ⟨_, (pss_one (ps_ret (pe_and (pe_callB call_isi (by rfl) T.n_isinstance (by decide +kernel) (pa_cons (pv 0) (pa_cons (pe_bltn (v := .ty "int") rfl T.n_int (by decide +kernel) rfl) pa_nil))) (pe_one (pe_not (pe_callB call_isi (by rfl) T.n_isinstance (by decide +kernel) (pa_cons (pv 0) (pa_cons (pe_bltn (v := .ty "bool") rfl T.n_bool (by decide +kernel) rfl) pa_nil)))))))), ?_⟩
    exact int_body k
theorem C__law_int (T : Tx K mg a) : FnC P w K mg base 1 a.f__law_int a.d__law_int ["one"] spInt := by
  refine T.F__law_int.okC sc__law_int (fun vs H Q E h => ?_) (fun cdv A outer s H vs Q h => ?_)
  · obtain ⟨i, rfl, _⟩ := h
    rfl
  · obtain ⟨i, rfl, k⟩ := h
    refine ⟨_, (pss_one (ps_ret (pe_and (pe_callB call_isi (by rfl) T.n_isinstance (by decide +kernel) (pa_cons (pv 0) (pa_cons (pe_bltn (v := .ty "int") rfl T.n_int (by decide +kernel) rfl) pa_nil))) (pe_one (pe_not (pe_callB call_isi (by rfl) T.n_isinstance (by decide +kernel) (pa_cons (pv 0) (pa_cons (pe_bltn (v := .ty "bool") rfl T.n_bool (by decide +kernel) rfl) pa_nil)))))))), ?_⟩
    exact int_body k
theorem G__law_scaled (T : Tx K mg a) : FnOk P w K mg base CX0 1 a.f__law_scaled a.d__law_scaled ["form", "by"] spScaled := by
  refine T.F__law_scaled.ok sc__law_scaled (fun vs H Q E h => ?_) (fun cdv A outer s H vs Q E hr h => ?_)
  · obtain ⟨t, rl, hh, p, b, L, rfl, _⟩ := h
    rfl
  · obtain ⟨t, rl, hh, p, b, L, rfl, ⟨rs, h1, h2, h3⟩, hz, p1, b1, b2, k⟩ := h
    refine ⟨_, (pss_cons (ps_asg (pv 0) (pg_tup rfl (pgs_cons (pg_name (i := 2) sc__law_scaled.nd rfl (Or.inl rfl)) (pgs_cons (pg_name (i := 3) sc__law_scaled.nd rfl (Or.inl rfl)) (pgs_cons (pg_name (i := 4) sc__law_scaled.nd rfl (Or.inl rfl)) pgs_nil)))))
      (pss_cons (ps_set (i := 2) sc__law_scaled.nd rfl (Or.inl rfl) (pe_op op_mul (pv 2) (pv 1)))
      (pss_cons (ps_if (pt_cmpR op_gt (pv 3) pe_int (nomark _)) (pss_one (ps_set (i := 3) sc__law_scaled.nd rfl (Or.inl rfl) (pe_op op_mul (pv 3) (pv 1)))) pss_nil)
      (pss_cons (ps_set (i := 5) sc__law_scaled.nd rfl (Or.inr rfl) (pe_op op_add (pv 2) (pv 3)))
      (pss_cons (ps_setLc (i := 4) (own := [("a", 6)]) (g := gName 6) (tt := tYes) rfl sc__law_scaled.nd rfl rfl (sw_true rfl rfl rfl (by decide +kernel)) (pi_list (pv 4)) (blkOk_by (own := [("a", 6)]) (N := ["form", "by", "head", "period", "runs", "top", "a"]) (sc := defScope s__law_scaled) (by decide +kernel)) (fun _ _ _ _ _ => (pg_name (i := 6) sc__law_scaled.nd rfl (Or.inl rfl))) (fun _ _ _ _ _ => pts_nil) (fun _ _ _ _ _ => (pe_tup (pa_cons (pe_op op_mul (pe_ix (ix_tupK K) (pv 6) pe_int (fun _ _ => rfl)) (pv 1)) (pa_cons (pe_callB (call_min2 rfl) (by rfl) T.n_min (by decide +kernel) (pa_cons (pe_op op_mul (pe_ix (ix_tupK K) (pv 6) pe_int (fun _ _ => rfl)) (pv 1)) (pa_cons (pv 5) pa_nil))) pa_nil)))))
      (pss_one (ps_ret (pe_tup (pa_cons (pv 2) (pa_cons (pv 3) (pa_cons (pv 4) pa_nil))))))))))), ?_⟩
    refine st_seq ⟨_, rfl, t, _, rfl, SqT.of h1, rfl, _, _, rfl, _, _, rfl, _, _, rfl, rfl, ?_⟩
    refine st_let (v_rI (g := fun i j => .int (i * j)) (val_var rfl) (val_var rfl) (Or.inr ⟨by omega, by omega⟩)) ?_
    refine st_shareS (fun σ' H' => H' = H ∧ σ' = [some (.ref t), some (.int b), some (.int (hh * b)), some (.int (if p > 1 then p * b else 1)), some (.ref rl), none, none]) ?_ fun N hN => ?_
    case refine_2 =>
      refine st_ifp (q := p > 1) (a_cmp (f := fun i j => decide (j < i)) (val_var (i := 3) rfl) val_c) (by simp) (fun c => ?_) fun c => ?_
      · refine v_rI (g := fun i j => .int (i * j)) (val_var (i := 3) rfl) (val_var (i := 1) rfl) (Or.inr ⟨by omega, by omega⟩) _ (hN _ _ ⟨rfl, ?_⟩)
        rw [if_pos c]
        rfl
      · refine hN _ _ ⟨rfl, ?_⟩
        rw [if_neg c]
        have p1 : p = 1 := by omega
        rw [p1]
        rfl
    rintro σ' H' ⟨rfl, rfl⟩
    refine st_let (v_rI0 (g := fun i j => .int (i + j)) (val_var rfl) (val_var rfl)) ?_
    generalize (if p > 1 then p * b else 1) = p' at k
    have la := h3.1
    refine st_letX (lcL ⟨_, rfl, ?_⟩)
    refine cg_L (a := rl) (xs := rs) (fun _ => true) (RelP (scaleL b (hh * b + p') L)) RelP.mono (SqL.of h2) (by omega) (fun D i x H2 bs hD hx eD s2 C q => ?_) fun D bs H2 hD eD ar s2 => ?_
    · obtain ⟨r, hr⟩ : ∃ r, L[i]? = some r := ⟨_, List.getElem?_eq_getElem (by rw [← la]; exact (List.getElem?_eq_some_iff.mp hx).1)⟩
      obtain ⟨u, w1, w2⟩ := (h3.same s2).2 i r hr
      rw [hx] at w1
      cases w1
      exact g_name (q _ _ (But.refl _ _) rfl rfl (fun _ z => z) fun _ => Gives.pair eD (v_rI (g := fun i j => .int (i * j)) (v_ixT (val_var rfl) val_c (SqT.of w2) rfl) (val_var rfl) (Or.inr ⟨by omega, by omega⟩)) (v_min (v_rI (g := fun i j => .int (i * j)) (v_ixT (val_var rfl) val_c (SqT.of w2) rfl) (val_var rfl) (Or.inr ⟨by omega, by omega⟩)) (val_var rfl)) fun t ht n => ⟨t, (r.1 * b, min (r.2 * b) (hh * b + p')), rfl, n, by unfold scaleL; rw [List.getElem?_map, hr]; rfl, upd_same⟩)
    · have r := pairs_of ar (by unfold scaleL; rw [List.length_map, la])
      refine ⟨_, rfl, _, rfl, _, rfl, by show 3 ≤ sizeLine; decide, fun t' ht' => ?_⟩
      have s3 := Same.new (o := .tup [V.int (hh * b), V.int p', V.ref D]) ht'
      exact k t' D _ ⟨bs, upd_same, s3 _ _ eD, r.same s3⟩ hD (s2.trans s3)
theorem G__law_is_in (T : Tx K mg a) : FnOk P w K mg base CX0 1 a.f__law_is_in a.d__law_is_in ["head", "bits", "by", "minute"] spIsIn := by
  refine T.F__law_is_in.ok sc__law_is_in (fun vs H Q E h => ?_) (fun cdv A outer s H vs Q E hr h => ?_)
  · obtain ⟨bl, bits, head, b, m, rfl, _⟩ := h
    rfl
  · obtain ⟨bl, bits, head, b, m, rfl, hb, ln, lz, b1, b2, k⟩ := h
    refine ⟨_, (pss_cons (ps_if (pt_cmpR op_lt (pv 3) pe_int (nomark _)) (pss_one (ps_ret pe_bl)) pss_nil)
      (pss_cons (ps_set (i := 4) sc__law_is_in.nd rfl (Or.inl rfl) (pe_op op_fdivW (pv 3) (pv 2)))
      (pss_cons (ps_if (pt_cmpR op_ge (pv 4) (pe_callB call_len_seq (by rfl) T.n_len (by decide +kernel) (pa_cons (pv 1) pa_nil)) (nomark _)) (pss_one (ps_set (i := 4) sc__law_is_in.nd rfl (Or.inl rfl) (pe_op op_add (pv 0) (pe_op op_mod (pe_callTy call_int1 (by rfl) T.n_int (by decide +kernel) (pa_cons (pe_op op_sub (pv 4) (pv 0)) pa_nil)) (pe_op op_sub (pe_callB call_len_seq (by rfl) T.n_len (by decide +kernel) (pa_cons (pv 1) pa_nil)) (pv 0)))))) pss_nil)
      (pss_one (ps_ret (pe_ix ix_list (pv 1) (pv 4) (fun _ _ => rfl))))))), ?_⟩
    refine st_guard (q := m < 0) (a_cmp (f := fun i j => decide (i < j)) (val_var (i := 3) rfl) val_c) (by simp) (fun c => ?_) fun c => ?_
    · have e : lawIn head bits b m = false := by unfold lawIn; rw [decide_eq_false (by omega), Bool.false_and]
      rw [e] at k
      exact k
    refine st_let (v_rI (g := fun i j => .int (i / j)) (val_var rfl) (val_var rfl) (wide_div (b := 50) (by omega) (by omega) (by decide) (by decide))) ?_
    have e : lawIn head bits b m = bits.getD (placeOf head ((bits.length - head : Nat) : Int) (m / b)).toNat false := by unfold lawIn; rw [decide_eq_true (by omega), Bool.true_and]
    rw [e] at k
    have u0 : 0 ≤ m / b := Int.ediv_nonneg (by omega) (by omega)
    generalize m / b = u at k u0
    have vl : ∀ {σ : St}, σ[1]? = some (some (V.ref bl)) → Val (tCB (fun xs H_1 Q => ∃ p ys, xs = [V.ref p] ∧ (SqL K H_1 p ys ∨ SqT K H_1 p ys) ∧ Q (V.int ↑ys.length) H_1) (tCons (tVar 1) tNil)) σ H (.int (bits.length : Nat)) := fun e => v_cb (val_var e) fun Q q => ⟨bl, _, rfl, Or.inl (SqL.of hb), by rw [List.length_map]; exact q⟩
    refine st_shareS (fun σ' H' => H' = H ∧ σ' = [some (.int head), some (.ref bl), some (.int b), some (.int m), some (.int (placeOf head ((bits.length - head : Nat) : Int) u))]) ?_ fun N hN => ?_
    case refine_2 =>
      refine st_ifp (q := ¬ u < bits.length) (a_cmp (f := fun i j => decide (j ≤ i)) (val_var (i := 4) rfl) (vl rfl)) (by simp) (fun c => ?_) fun c => ?_
      · have ep : placeOf head ((bits.length - head : Nat) : Int) u = head + (u - head) % ((bits.length : Int) - head) := by
          unfold placeOf
          rw [if_neg (by omega), show ((bits.length - head : Nat) : Int) = (bits.length : Int) - head by omega]
        refine v_rI0 (g := fun i j => .int (i + j)) (val_var (i := 0) rfl) (v_rI (g := fun i j => .int (i % j)) (v_cb (v_rI0 (g := fun i j => .int (i - j)) (val_var (i := 4) rfl) (val_var (i := 0) rfl)) fun Q q => Or.inl ⟨_, rfl, q⟩) (v_rI0 (g := fun i j => .int (i - j)) (vl rfl) (val_var (i := 0) rfl)) (by omega)) _ (hN _ _ ⟨rfl, ?_⟩)
        rw [ep]
        rfl
      · have ep : placeOf head ((bits.length - head : Nat) : Int) u = u := by
          unfold placeOf
          rw [if_pos (by omega)]
        refine hN _ _ ⟨rfl, ?_⟩
        rw [ep]
        rfl
    rintro σ' H' ⟨rfl, rfl⟩
    obtain ⟨v, hv⟩ : ∃ v : Nat, placeOf head ((bits.length - head : Nat) : Int) u = (v : Int) ∧ v < bits.length := by
      have r0 := Int.emod_nonneg (u - head) (show ((bits.length - head : Nat) : Int) ≠ 0 by omega)
      have r1 := Int.emod_lt_of_pos (u - head) (show 0 < ((bits.length - head : Nat) : Int) by omega)
      refine ⟨(placeOf head ((bits.length - head : Nat) : Int) u).toNat, ?_, ?_⟩ <;> unfold placeOf <;> split <;> omega
    rw [hv.1] at k ⊢
    refine st_ret (v_ixL (val_var rfl) (val_var rfl) (SqL.of hb) (at_of (z := (v : Int)) (j := v) rfl (by rw [List.getElem?_map, List.getElem?_eq_getElem hv.2]; rfl))) ?_
    rw [show ((v : Int)).toNat = v from rfl, List.getD_eq_getElem?_getD, List.getElem?_eq_getElem hv.2] at k
    exact k
theorem G__law_has (T : Tx K mg a) : FnOk P w K mg base CX0 3 a.f__law_has a.d__law_has ["told", "form"] (spHas a) := by
  refine T.F__law_has.ok sc__law_has (fun vs H Q E h => ?_) (fun cdv A outer s H vs Q E hr h => ?_)
  · obtain ⟨x, t, rl, hh, p, L, rfl, _⟩ := h
    rfl
  · obtain ⟨x, t, rl, hh, p, L, rfl, hp, ⟨rs, h1, h2, h3⟩, k⟩ := h
    refine ⟨_, (pss_cons (ps_asg (pv 1) (pg_tup rfl (pgs_cons (pg_name (i := 2) sc__law_has.nd rfl (Or.inl rfl)) (pgs_cons (pg_name (i := 3) sc__law_has.nd rfl (Or.inl rfl)) (pgs_cons (pg_name (i := 4) sc__law_has.nd rfl (Or.inl rfl)) pgs_nil)))))
      (pss_cons (ps_if (PW.pt (pw_or (pt_not (pt_val (pe_callB call_isi (by rfl) T.n_isinstance (by decide +kernel) (pa_cons (pv 0) (pa_cons (pe_glob (v := .ref a.c_Pattern) rfl T.g_Pattern rfl) pa_nil))))) (pw_or (pt_not (pt_val (pe_call (G__law_int T) (hr.mono (by decide)) rfl T.g__law_int T.F__law_int.kp T.b__law_int .nil pass0 (pa_cons (pe_fld (pv 0) rfl) pa_nil)))) (pw_or1 (pt_not (pt_val (pe_call (G__law_int T) (hr.mono (by decide)) rfl T.g__law_int T.F__law_int.kp T.b__law_int .nil pass0 (pa_cons (pe_fld (pv 0) rfl) pa_nil)))))))) (pss_one (ps_ret pe_bl)) pss_nil)
      (pss_cons (ps_if (PW.pt (pw_or (pt_not (pt_val (pe_callB call_isi (by rfl) T.n_isinstance (by decide +kernel) (pa_cons (pe_fld (pv 0) rfl) (pa_cons (pe_bltn (v := .ty "tuple") rfl T.n_tuple (by decide +kernel) rfl) pa_nil))))) (pw_or1 (pt_cmpR op_ne (pe_callB call_len_seq (by rfl) T.n_len (by decide +kernel) (pa_cons (pe_fld (pv 0) rfl) pa_nil)) (pe_callB call_len_seq (by rfl) T.n_len (by decide +kernel) (pa_cons (pv 4) pa_nil)) (nomark _))))) (pss_one (ps_ret pe_bl)) pss_nil)
      (pss_cons (ps_for PassesOwn.never rfl (pi_tup (pe_fld (pv 0) rfl)) (pg_name (i := 5) sc__law_has.nd rfl (Or.inl rfl)) (pss_cons (ps_if (PW.pt (pw_or (pt_not (pt_val (pe_callB call_isi (by rfl) T.n_isinstance (by decide +kernel) (pa_cons (pv 5) (pa_cons (pe_bltn (v := .ty "tuple") rfl T.n_tuple (by decide +kernel) rfl) pa_nil))))) (pw_or1 (pt_cmpR op_ne (pe_callB call_len_seq (by rfl) T.n_len (by decide +kernel) (pa_cons (pv 5) pa_nil)) pe_int (nomark _))))) (pss_one (ps_ret pe_bl)) pss_nil)
      (pss_one (ps_if (PW.pt (pw_or (pt_not (pt_val (pe_call (G__law_int T) (hr.mono (by decide)) rfl T.g__law_int T.F__law_int.kp T.b__law_int .nil pass0 (pa_cons (pe_ix ix_tup (pv 5) pe_int (fun _ _ => rfl)) pa_nil)))) (pw_or1 (pt_not (pt_val (pe_call (G__law_int T) (hr.mono (by decide)) rfl T.g__law_int T.F__law_int.kp T.b__law_int .nil pass0 (pa_cons (pe_ix ix_tup (pv 5) pe_int (fun _ _ => rfl)) pa_nil))))))) (pss_one (ps_ret pe_bl)) pss_nil))))
      (pss_cons (ps_if (PW.pt (pw_or (pt_not (pt_val (pe_callB call_isi (by rfl) T.n_isinstance (by decide +kernel) (pa_cons (pe_prop (pv 0) T.cl_Pattern T.pr_Pattern_finite (G_Pattern_finite T) (hr.mono (by decide)) T.b_Pattern_finite .nil pass0 rfl) (pa_cons (pe_bltn (v := .ty "bool") rfl T.n_bool (by decide +kernel) rfl) pa_nil))))) (pw_or1 (pt_not (pt_val (pe_callB call_isi (by rfl) T.n_isinstance (by decide +kernel) (pa_cons (pe_prop (pv 0) T.cl_Pattern T.pr_Pattern_empty (G_Pattern_empty T) (hr.mono (by decide)) T.b_Pattern_empty .nil pass0 rfl) (pa_cons (pe_bltn (v := .ty "bool") rfl T.n_bool (by decide +kernel) rfl) pa_nil)))))))) (pss_one (ps_ret pe_bl)) pss_nil)
      (pss_cons (ps_if (pt_cmpR op_ne (pe_prop (pv 0) T.cl_Pattern T.pr_Pattern_finite (G_Pattern_finite T) (hr.mono (by decide)) T.b_Pattern_finite .nil pass0 rfl) (pe_or (pe_cmpR op_eq (pe_callB call_len_seq (by rfl) T.n_len (by decide +kernel) (pa_cons (pv 4) pa_nil)) pe_int (nomark _)) (pe_one (pe_cmpR op_le (pe_ix ix_tup (pe_ix ix_list (pv 4) (pe_un un_neg pe_int) (fun _ _ => rfl)) pe_int (fun _ _ => rfl)) (pv 2) (nomark _)))) (nomark _)) (pss_one (ps_ret pe_bl)) pss_nil)
      (pss_cons (ps_if (PW.pt (pw_or (pt_cmpR op_ne (pe_prop (pv 0) T.cl_Pattern T.pr_Pattern_empty (G_Pattern_empty T) (hr.mono (by decide)) T.b_Pattern_empty .nil pass0 rfl) (pe_cmpR op_eq (pe_callB call_len_seq (by rfl) T.n_len (by decide +kernel) (pa_cons (pv 4) pa_nil)) pe_int (nomark _)) (nomark _)) (pw_or1 (pt_cmpR (op_neD hr.units) (pe_fld (pv 0) rfl) (pe_callTy call_tuple_of (by rfl) T.n_tuple (by decide +kernel) (pa_cons (pv 4) pa_nil)) (nomark _))))) (pss_one (ps_ret pe_bl)) pss_nil)
      (pss_one (ps_ret (pe_and (pe_cmpR op_eq (pe_fld (pv 0) rfl) (pv 2) (nomark _)) (pe_one (pe_cmpR op_eq (pe_fld (pv 0) rfl) (pv 3) (nomark _))))))))))))), ?_⟩
    obtain ⟨dx, st, bs, u, hx, est, rws, eu, td, lS⟩ := id hp
    refine st_seq ⟨_, rfl, t, _, rfl, SqT.of h1, rfl, _, _, rfl, _, _, rfl, _, _, rfl, rfl, ?_⟩
    have lr := h3.1
    have lb := rws.1
    have fh : ∀ {σ : St}, σ[0]? = some (some (V.ref x)) → Val (tFld K (tVar 0) "head") σ H (.int hh) := fun e => val_fld (val_var e) hx T.cl_Pattern T.no_Pattern_head (by kernel_rfl)
    have fp : ∀ {σ : St}, σ[0]? = some (some (V.ref x)) → Val (tFld K (tVar 0) "period") σ H (.int p) := fun e => val_fld (val_var e) hx T.cl_Pattern T.no_Pattern_period (by kernel_rfl)
    have fs : ∀ {σ : St}, σ[0]? = some (some (V.ref x)) → Val (tFld K (tVar 0) "stretches") σ H (.ref st) := fun e => val_fld (val_var e) hx T.cl_Pattern T.no_Pattern_stretches (by kernel_rfl)
    dsimp only
    refine st_guard (q := False) (a_or (b := false) (c := false) (ans_not (b := true) ?_) fun _ => a_or (b := false) (c := false) (ans_not (b := true) (a_int (fh (by rfl)))) fun _ => ans_not (b := true) (a_int (fp (by rfl)))) (by simp) (fun z => z.elim) fun _ => ?_
    · exact fun Q q => ⟨_, rfl, .ref x, .ref a.c_Pattern, _, _, true, rfl, .own _, .base (.ins hx T.cl_Pattern T.ia_Pattern T.in_Pattern T.it_Pattern T.im_Pattern), T.kit_Pattern, _, rfl, q⟩
    have ln4 : ∀ {σ : St}, σ[4]? = some (some (V.ref rl)) → Val (tCB (fun xs H_1 Q => ∃ p ys, xs = [V.ref p] ∧ (SqL K H_1 p ys ∨ SqT K H_1 p ys) ∧ Q (V.int ↑ys.length) H_1) (tCons (tVar 4) tNil)) σ H (.int (L.length : Nat)) := fun e => v_cb (val_var e) fun Q q => ⟨rl, _, rfl, Or.inl (SqL.of h2), by rw [lr]; exact q⟩
    have lnS : ∀ {σ : St}, σ[0]? = some (some (V.ref x)) → Val (tCB (fun xs H_1 Q => ∃ p ys, xs = [V.ref p] ∧ (SqL K H_1 p ys ∨ SqT K H_1 p ys) ∧ Q (V.int ↑ys.length) H_1) (tCons (tFld K (tVar 0) "stretches") tNil)) σ H (.int (L.length : Nat)) := fun e => v_cb (fs e) fun Q q => ⟨st, bs, rfl, Or.inr (SqT.of est), by rw [lb]; exact q⟩
    refine st_guard (q := False) (a_or (b := false) (c := false) (ans_not (b := true) (a_isi "tuple" true (fs (by rfl)) (.base (.tup est)) (by decide +kernel))) fun _ => a_neS (lnS (by rfl)) (ln4 (by rfl))) (by simp) (fun z => z.elim) fun _ => ?_
    refine st_seq (st_forT (a := st) (xs := bs) (fun R q => fs rfl _ q) (fun i σ' H' => ∃ v5, σ' = [some (.ref x), some (.ref t), some (.int hh), some (.int p), some (.ref rl), v5] ∧ H' = H) ⟨none, rfl, rfl⟩ (fun i σ' H' _ z => let ⟨_, _, e⟩ := z; by rw [e]; exact SqT.of est) ?_ ?_)
    · rintro i v σ' H' hv ⟨v5, rfl, rfl⟩
      obtain ⟨r, hr⟩ : ∃ r, L[i]? = some r := ⟨_, List.getElem?_eq_getElem (by rw [← lb]; exact (List.getElem?_eq_some_iff.mp hv).1)⟩
      obtain ⟨y, w1, w2⟩ := rws.2 i r hr
      rw [hv] at w1
      cases w1
      refine g_name ?_
      refine st_guard (q := False) (a_or (b := false) (c := false) (ans_not (b := true) (a_isi "tuple" true (val_var rfl) (.base (.tup w2)) (by decide +kernel))) fun _ => a_ne (i := 2) (j := 2) (v_cb (val_var rfl) fun Q q => ⟨y, _, rfl, Or.inr (SqT.of w2), q⟩) val_c) (by simp) (fun z => z.elim) fun _ => ?_
      refine st_ifp (q := False) (a_or (b := false) (c := false) (ans_not (b := true) (a_int (v_ixT (val_var rfl) val_c (SqT.of w2) (show atI [V.int r.1, .int r.2] 0 = some (V.int r.1) from rfl)))) fun _ => ans_not (b := true) (a_int (v_ixT (val_var rfl) val_c (SqT.of w2) (show atI [V.int r.1, .int r.2] 1 = some (V.int r.2) from rfl)))) (by simp) (fun z => z.elim) fun _ => ⟨_, rfl, rfl⟩
    rintro σ' H' ⟨v5, rfl, rfl⟩
    dsimp only
    have pf : ∀ {σ : St}, σ[0]? = some (some (V.ref x)) → Val (tProp a.c_Pattern (spFin a) [] E0 (tVar 0)) σ H' (.bl (decide (tot L = nearOf L hh))) := fun e Q q => ⟨_, e, x, dx, _, rfl, hx, x, hh, p, L, rfl, hp, q⟩
    have pe : ∀ {σ : St}, σ[0]? = some (some (V.ref x)) → Val (tProp a.c_Pattern (spEmp a) [] E0 (tVar 0)) σ H' (.bl (decide (tot L = 0))) := fun e Q q => ⟨_, e, x, dx, _, rfl, hx, x, hh, p, L, rfl, hp, q⟩
    refine st_guard (q := False) (a_or (b := false) (c := false) (ans_not (b := true) (a_isi "bool" true (pf rfl) (.base (.bl _)) (by decide +kernel))) fun _ => ans_not (b := true) (a_isi "bool" true (pe rfl) (.base (.bl _)) (by decide +kernel))) (by simp) (fun z => z.elim) fun _ => ?_
    have vo : ∀ {σ : St}, σ[4]? = some (some (V.ref rl)) → σ[2]? = some (some (V.int hh)) → Val (tOrV (tOp rEq (tCB (fun xs H_1 Q => ∃ p ys, xs = [V.ref p] ∧ (SqL K H_1 p ys ∨ SqT K H_1 p ys) ∧ Q (V.int ↑ys.length) H_1) (tCons (tVar 4) tNil)) (tC (.int 0))) (tOp (rI0 fun i j => .bl (decide (i ≤ j))) (tOp (rIxT K) (tOp (rIxL K) (tVar 4) (tUn (rU fun i => V.int (-i)) (tC (V.int 1)))) (tC (V.int 1))) (tVar 2))) σ H' (.bl (decide (tot L = nearOf L hh))) := fun e4 e2 Q q => by
      refine v_eq (ln4 e4) val_c _ ⟨_, rfl, ?_⟩
      by_cases hn : L = []
      · rw [decide_eq_true (by rw [hn]; rfl)]
        refine iteT ?_
        rw [decide_eq_true ((near_fin td).mpr (Or.inl hn))] at q
        exact q
      · rw [decide_eq_false (by
          intro z
          have : L.length = 0 := by omega
          exact hn (List.length_eq_zero_iff.mp this))]
        refine iteF ?_
        obtain ⟨cs0, u0, ers, rwd, eu0⟩ := h3.lastD hn
        rw [ers] at h2
        refine v_rI0 (g := fun i j => .bl (decide (i ≤ j))) (v_ixT (v_ixL (val_var e4) (v_un (g := fun i => V.int (-i)) val_c) (SqL.of h2) atI_last) val_c (SqT.of eu0) (show atI [V.int (L.getLastD (0, 0)).1, .int (L.getLastD (0, 0)).2] 1 = some (V.int (L.getLastD (0, 0)).2) from rfl)) (val_var e2) _ ?_
        have e : decide (tot L = nearOf L hh) = decide ((L.getLastD (0, 0)).2 ≤ hh) := by
          rw [decide_eq_decide, near_fin td]
          exact ⟨fun z => z.resolve_left hn, Or.inr⟩
        rw [e] at q
        exact q
    refine st_guard (q := False) (ans_ne (b := false) (pf (by rfl)) (vo (by rfl) (by rfl)) rfl (by rw [dec_bl]; cases decide (tot L = nearOf L hh) <;> rfl)) (by simp) (fun z => z.elim) fun _ => ?_
    refine st_guardX (t_or_no (ans_ne (b := false) (pe (by rfl)) (v_eq (ln4 (by rfl)) val_c) rfl ?_) ?_)
    · have e : decide (tot L = 0) = decide ((L.length : Int) = 0) := by
        rw [decide_eq_decide, tot_zero td]
        constructor
        · intro z; rw [z]; rfl
        · intro z
          have : L.length = 0 := by omega
          exact List.length_eq_zero_iff.mp this
      rw [e, dec_bl]
      cases decide ((L.length : Int) = 0) <;> rfl
    refine t_op (fs (by rfl)) ⟨_, rfl, rl, rs, rfl, Or.inl ⟨SqL.of h2, fun q hq => ?_⟩⟩
    have s9 := Same.new (o := .tup rs) hq
    refine ⟨.tuple (prow L), .tuple (prow L), .tup (SqT.of (s9 _ _ est)) (rws.same s9).dp, .tup (SqT.of upd_same) (h3.same s9).dp, prow_shapedT _, prow_shapedT _, _, rfl, ?_⟩
    rw [PyData.eqv, prow_eqv, decide_eq_true rfl]
    refine iteF ?_
    have hx9 := s9 _ _ hx
    refine ⟨_, rfl, x, _, dx, _, _, rfl, hx9, T.cl_Pattern, T.no_Pattern_head, (by kernel_rfl : List.lookup _ _ = some (V.int hh)), _, rfl, rfl, _, rfl, ?_⟩
    rw [decide_eq_true rfl]
    refine iteT ⟨_, rfl, x, _, dx, _, _, rfl, hx9, T.cl_Pattern, T.no_Pattern_period, (by kernel_rfl : List.lookup _ _ = some (V.int p)), _, rfl, rfl, ?_⟩
    rw [decide_eq_true rfl]
    exact k _ s9
theorem G__law_once (T : Tx K mg a) : FnOk P w K mg base CX0 1 a.f__law_once a.d__law_once ["minutes"] (spLOnce K) := by
  refine T.F__law_once.ok sc__law_once (fun vs H Q E h => ?_) (fun cdv A outer s H vs Q E hr h => ?_)
  · obtain ⟨m, ks, rfl, _⟩ := h
    rfl
  · obtain ⟨m, ks, rfl, hm, hz, k⟩ := h
    refine ⟨_, (pss_cons (ps_set (i := 1) sc__law_once.nd rfl (Or.inl rfl) (pe_lst pa_nil))
      (pss_cons (ps_for PassesOwn.never rfl (pi_list (pe_callB cr_sortedI (by rfl) T.n_sorted (by decide +kernel) (pa_cons (pv 0) pa_nil))) (pg_name (i := 2) sc__law_once.nd rfl (Or.inl rfl)) (pss_one (ps_if (PW.pt (pw_and (pt_cmpR op_gt (pe_callB call_len_seq (by rfl) T.n_len (by decide +kernel) (pa_cons (pv 1) pa_nil)) pe_int (nomark _)) (pw_and1 (pt_cmpR op_le (pv 2) (pe_ix ix_tup (pe_ix ix_list (pv 1) (pe_un un_neg pe_int) (fun _ _ => rfl)) pe_int (fun _ _ => rfl)) (nomark _))))) (pss_one (ps_asg (pe_tup (pa_cons (pe_ix ix_tup (pe_ix ix_list (pv 1) (pe_un un_neg pe_int) (fun _ _ => rfl)) pe_int (fun _ _ => rfl)) (pa_cons (pe_callB (call_max2 rfl) (by rfl) T.n_max (by decide +kernel) (pa_cons (pe_ix ix_tup (pe_ix ix_list (pv 1) (pe_un un_neg pe_int) (fun _ _ => rfl)) pe_int (fun _ _ => rfl)) (pa_cons (pe_op op_add (pv 2) pe_int) pa_nil))) pa_nil))) (pg_sub (pv 1) (pe_un un_neg pe_int) set_list))) (pss_one (ps_expr (pe_bm PySem.F.plainAttrs_list PySem.F.slot_list_append PySem.F.type_list_append mt_append (pv 1) (pa_cons (pe_tup (pa_cons (pv 2) (pa_cons (pe_op op_add (pv 2) pe_int) pa_nil))) pa_nil)))))))
      (pss_cons (ps_if (pt_cmpR op_eq (pe_callB call_len_seq (by rfl) T.n_len (by decide +kernel) (pa_cons (pv 1) pa_nil)) pe_int (nomark _)) (pss_one (ps_ret (pe_tup (pa_cons pe_int (pa_cons pe_int (pa_cons (pv 1) pa_nil)))))) pss_nil)
      (pss_one (ps_ret (pe_tup (pa_cons (pe_ix ix_tup (pe_ix ix_list (pv 1) (pe_un un_neg pe_int) (fun _ _ => rfl)) pe_int (fun _ _ => rfl)) (pa_cons pe_int (pa_cons (pv 1) pa_nil))))))))), ?_⟩
    refine st_letX ⟨by show 0 ≤ sizeLine; decide, fun rl hrl => ?_⟩
    have s1 := Same.new (o := .lst []) hrl
    refine st_seq (st_forX (v_cb1 ⟨_, rfl, m, ks, rfl, s1.seq hm, fun ks' sp pm srt hsp => ?_⟩))
    have s2 := Same.new (o := .lst (ks'.map V.int)) hsp
    have erl := s2 _ _ (upd_same : upd H rl (.lst []) rl = some (.lst []))
    have nrl : sp ≠ rl := fun z => by rw [z, upd_same] at hsp; cases hsp
    have esp : upd (upd H rl (.lst [])) sp (.lst (ks'.map V.int)) sp = some (.lst (ks'.map V.int)) := upd_same
    have s12 := s1.trans s2
    generalize upd (upd H rl (.lst [])) sp (.lst (ks'.map V.int)) = H1 at erl esp s12
    refine st_forL (a := sp) (xs := ks'.map V.int) (fun R q => q) (fun i σ' H' => ∃ (v2 : Option V) (rs : List V) (L : List Iv), σ' = [some (.ref m), some (.ref rl), v2] ∧ H' rl = some (.lst rs) ∧ Rw H' rs L ∧ L.length ≤ i ∧ Tidy L ∧ (∀ a ∈ L, ∀ (j : Nat) t, i ≤ j → ks'[j]? = some t → a.2 ≤ t + 1) ∧ (∀ u, inL L u = true ↔ u ∈ ks'.take i) ∧ H' sp = some (.lst (ks'.map V.int)) ∧ Same H H') ⟨none, [], [], rfl, erl, Rw.nil, Nat.le_refl _, .nil, (fun a h => nomatch h), fun u => ⟨fun z => (nomatch z), fun z => (nomatch z)⟩, esp, s12⟩ (fun i σ' H' _ ⟨_, _, _, _, _, _, _, _, _, _, e, _⟩ => SqL.of e) ?_ ?_
    · rintro i y σ' H3 hy ⟨v2, rs, L, rfl, e3, rw3, lL, td, le, inl, e4, s4⟩
      obtain ⟨t, ht, rfl⟩ := ints_get hy
      refine g_name ?_
      obtain ⟨t1, t2, t3⟩ := onceStep_ok (t := t) td (fun a ha => le a ha i t (Nat.le_refl _) ht) inl
      have t4 := onceStep_len (L := L) (t := t)
      have hk : i < ks'.length := (List.getElem?_eq_some_iff.mp ht).1
      have lk : ks'.length ≤ 10000 := by rw [pm.length_eq]; exact hz
      have inv : ∀ rs' H4, H4 rl = some (.lst rs') → Rw H4 rs' (onceStep L t) → But rl H3 H4 → ∃ (v2 : Option V) (rs : List V) (L' : List Iv), [some (V.ref m), some (.ref rl), some (.int t)] = [some (.ref m), some (.ref rl), v2] ∧ H4 rl = some (.lst rs) ∧ Rw H4 rs L' ∧ L'.length ≤ i + 1 ∧ Tidy L' ∧ (∀ a ∈ L', ∀ (j : Nat) t, i + 1 ≤ j → ks'[j]? = some t → a.2 ≤ t + 1) ∧ (∀ u, inL L' u = true ↔ u ∈ ks'.take (i + 1)) ∧ H4 sp = some (.lst (ks'.map V.int)) ∧ Same H H4 := fun rs' H4 e5 rw4 b4 => ⟨_, rs', _, rfl, e5, rw4, by omega, t1, fun a ha j t' hj hj' => by
          have := t2 a ha
          obtain ⟨hi, rfl⟩ := List.getElem?_eq_some_iff.mp ht
          obtain ⟨hj2, rfl⟩ := List.getElem?_eq_some_iff.mp hj'
          have := List.pairwise_iff_getElem.mp srt i j hi hj2 (by omega)
          omega, fun u => by rw [t3 u, take_snoc ht], b4 _ _ e4 nrl, But.new hrl (But.same s4 b4)⟩
      by_cases hn : L = []
      · subst hn
        obtain rfl : rs = [] := List.length_eq_zero_iff.mp rw3.1
        refine st_ifp (q := False) (a_and (c := true) (a_cmp (i := 0) (j := 0) (f := fun i j => decide (j < i)) (v_cb (val_var (i := 1) rfl) fun Q q => ⟨rl, [], rfl, Or.inl (SqL.of e3), q⟩) val_c) (fun z => nomatch z)) (by simp) (fun z => z.elim) fun _ => ?_
        refine app_pair rfl e3 (by show 0 ≤ 1000000; omega) (val_var rfl) (v_rI0 (g := fun i j => .int (i + j)) (val_var rfl) val_c) fun u H4 eu e5 b4 hu => ?_
        refine inv _ H4 e5 ?_ b4
        have er : onceStep [] t = [(t, t + 1)] := rfl
        rw [er]
        exact Rw.cons (a := (t, t + 1)) eu Rw.nil
      · obtain ⟨cs0, u0, ers, rwd, eu0⟩ := rw3.lastD hn
        rw [ers] at e3
        have lz : ∀ {σ : St} {H' : Hp} {r}, σ[1]? = some (some (V.ref rl)) → H' rl = some (.lst (cs0 ++ [V.ref r])) → Val (tOp (rIxL K) (tVar 1) (tUn (rU fun i => V.int (-i)) (tC (V.int 1)))) σ H' (.ref r) := fun e f => v_ixL (val_var e) (v_un (g := fun i => V.int (-i)) val_c) (SqL.of f) atI_last
        have z2 : ∀ {σ : St}, σ[1]? = some (some (V.ref rl)) → Val (tOp (rIxT K) (tOp (rIxL K) (tVar 1) (tUn (rU fun i => V.int (-i)) (tC (V.int 1)))) (tC (V.int 1))) σ H3 (.int (L.getLastD (0, 0)).2) := fun e => v_ixT (lz e e3) val_c (SqT.of eu0) rfl
        refine st_ifp (q := t ≤ (L.getLastD (0, 0)).2) (a_and (a_cmp (i := ((cs0 ++ [V.ref u0]).length : Nat)) (j := 0) (f := fun i j => decide (j < i)) (v_cb (val_var (i := 1) rfl) fun Q q => ⟨rl, _, rfl, Or.inl (SqL.of e3), q⟩) val_c) fun _ => a_cmp (f := fun i j => decide (i ≤ j)) (val_var (i := 2) rfl) (z2 rfl)) (by simp) (fun c => ?_) fun c => ?_
        · refine st_putPair (i := -1) (v_ixT (lz rfl e3) val_c (SqT.of eu0) (show atI [V.int (L.getLastD (0, 0)).1, .int (L.getLastD (0, 0)).2] 0 = some (V.int (L.getLastD (0, 0)).1) from rfl)) (v_max (z2 rfl) (v_rI0 (g := fun i j => .int (i + j)) (val_var rfl) val_c)) (fun _ => val_var rfl) (fun _ => v_un (g := fun i => V.int (-i)) val_c) e3 ixN_last fun u hu => ?_
          have su := Same.new (o := .tup [.int (L.getLastD (0, 0)).1, .int (max (L.getLastD (0, 0)).2 (t + 1))]) hu
          refine inv _ _ upd_same ?_ fun b o e n => by rw [upd_ne n]; exact su _ _ e
          have er : onceStep L t = L.dropLast ++ [((L.getLastD (0, 0)).1, max (L.getLastD (0, 0)).2 (t + 1))] := if_pos ⟨hn, c⟩
          rw [er, set_last]
          exact ((rwd.same su).snoc (a := ((L.getLastD (0, 0)).1, max (L.getLastD (0, 0)).2 (t + 1))) upd_same).upd (su _ _ e3)
        · refine app_pair rfl e3 (by rw [← ers, rw3.1]; omega) (val_var rfl) (v_rI0 (g := fun i j => .int (i + j)) (val_var rfl) val_c) fun u H4 eu e5 b4 hu => ?_
          refine inv _ H4 e5 ?_ b4
          have er : onceStep L t = L ++ [(t, t + 1)] := if_neg fun z => c z.2
          rw [er, ← ers]
          exact (rw3.but b4 (by rw [e3]) (by intro xs z; cases z)).snoc (a := (t, t + 1)) eu
    rintro σ' H3 ⟨v2, rs, L, rfl, e3, rw3, lL, td, le, inl, e4, s4⟩
    dsimp only
    rw [List.length_map] at lL inl
    rw [List.take_length] at inl
    have inl' : ∀ u, inL L u = true ↔ u ∈ ks := fun u => by rw [inl u, pm.mem_iff]
    have ll : L.length ≤ ks.length := by rw [← pm.length_eq]; exact lL
    have lr := rw3.1
    refine st_guard (q := L = []) (a_eq (i := (L.length : Nat)) (j := 0) (v_cb (val_var (i := 1) rfl) fun Q q => ⟨rl, rs, rfl, Or.inl (SqL.of e3), by rw [lr]; exact q⟩) val_c) (by simp) (fun c => ?_) fun c => ?_
    · refine ⟨_, rfl, by show 3 ≤ sizeLine; decide, fun t ht => ?_⟩
      have s5 := Same.new (o := .tup [V.int 0, V.int 1, V.ref rl]) ht
      exact k t rl 0 L _ ⟨td, inl', by rw [if_pos c]⟩ ⟨rs, upd_same, s5 _ _ e3, rw3.same s5⟩ hrl (s4.trans s5) ll
    · obtain ⟨cs0, u0, ers, rwd, eu0⟩ := rw3.lastD c
      rw [ers] at e3
      refine v_ixT (v_ixL (val_var (i := 1) rfl) (v_un (g := fun i => V.int (-i)) val_c) (SqL.of e3) atI_last) val_c (SqT.of eu0) (show atI [V.int (L.getLastD (0, 0)).1, .int (L.getLastD (0, 0)).2] 1 = some (V.int (L.getLastD (0, 0)).2) from rfl) _ ?_
      refine ⟨_, rfl, by show 3 ≤ sizeLine; decide, fun t ht => ?_⟩
      have s5 := Same.new (o := .tup [V.int (L.getLastD (0, 0)).2, V.int 1, V.ref rl]) ht
      exact k t rl (L.getLastD (0, 0)).2 L _ ⟨td, inl', by rw [if_neg c]⟩ ⟨cs0 ++ [V.ref u0], upd_same, s5 _ _ e3, by rw [← ers]; exact rw3.same s5⟩ hrl (s4.trans s5) ll
end
end My

namespace My
open PySem L2
/-! ### calls that are refused -/
inductive Er where
  | rng (s : Str) (v : Int)
  | many (s : Str) (n : Int)
  | bad (i : Int)
def ErrE (a : Ad) (E : XK) (H : Hp) : Er → Prop
  | .rng s v => Out a E H s v
  | .many s n => OutM a E H s n
  | .bad i => OutB a E H i
def erT : Er → List V
  | .rng s v => [.str "range", .str s, .int v, .bl true]
  | .many s n => [.str "many", .str s, .int n, .bl true]
  | .bad i => [.str "bad", .int i, .bl true]
inductive Asks (a : Ad) (K : PySem.W.Frag) (H : Hp) : Int → V → V → V → Er → Prop
  | pHead {h p : Int} {m : Addr} {as : List V} {L : List Iv} : SqA K H m as → RwA K H as L → L.length ≤ 100000 → ¬ (0 ≤ h ∧ h ≤ 10 ^ 12) → Asks a K H 0 (.int h) (.int p) (.ref m) (.rng "head" h)
  | pPer {h p : Int} {m : Addr} {as : List V} {L : List Iv} : SqA K H m as → RwA K H as L → L.length ≤ 100000 → (0 ≤ h ∧ h ≤ 10 ^ 12) → ¬ (1 ≤ p ∧ p ≤ 10 ^ 12) → Asks a K H 0 (.int h) (.int p) (.ref m) (.rng "period" p)
  | pMany {h p : Int} {m : Addr} {as : List V} {L : List Iv} : SqA K H m as → RwA K H as L → L.length ≤ 100000 → (0 ≤ h ∧ h ≤ 10 ^ 12) → (1 ≤ p ∧ p ≤ 10 ^ 12) → 5000 < L.length → Asks a K H 0 (.int h) (.int p) (.ref m) (.many "stretches" L.length)
  | pBad {h p : Int} {m : Addr} {as : List V} {L : List Iv} {i : Nat} {b : Iv} : SqA K H m as → RwA K H as L → (0 ≤ h ∧ h ≤ 10 ^ 12) → (1 ≤ p ∧ p ≤ 10 ^ 12) → L.length ≤ 5000 → L[i]? = some b → ¬ (0 ≤ b.1 ∧ b.1 < b.2 ∧ b.2 ≤ h + p) → (∀ (j : Nat) b', j < i → L[j]? = some b' → 0 ≤ b'.1 ∧ b'.1 < b'.2 ∧ b'.2 ≤ h + p) → Asks a K H 0 (.int h) (.int p) (.ref m) (.bad i)
  | oMany {x y : V} {m : Addr} {ks : List Int} : SqA K H m (ks.map V.int) → ks.length ≤ 100000 → 5000 < ks.length → Asks a K H 1 x y (.ref m) (.many "minutes" ks.length)
  | oBad {x y : V} {m : Addr} {ks : List Int} {i : Nat} {b : Int} : SqA K H m (ks.map V.int) → ks.length ≤ 5000 → ks[i]? = some b → ¬ (0 ≤ b ∧ b < 10 ^ 12) → (∀ (j : Nat) b', j < i → ks[j]? = some b' → 0 ≤ b' ∧ b' < 10 ^ 12) → Asks a K H 1 x y (.ref m) (.bad i)
  | ePer {p f : Int} {z : V} : ¬ (1 ≤ p ∧ p ≤ 10 ^ 12) → Asks a K H 2 (.int p) (.int f) z (.rng "period" p)
  | eFirst {p f : Int} {z : V} : (1 ≤ p ∧ p ≤ 10 ^ 12) → ¬ (0 ≤ f ∧ f ≤ 10 ^ 12) → Asks a K H 2 (.int p) (.int f) z (.rng "first" f)
  | sStart {s e : Int} {z : V} : ¬ (0 ≤ s ∧ s ≤ 10 ^ 12) → Asks a K H 3 (.int s) (.int e) z (.rng "start" s)
  | sEnd {s e : Int} {z : V} : (0 ≤ s ∧ s ≤ 10 ^ 12) → ¬ (s ≤ e ∧ e ≤ 10 ^ 12) → Asks a K H 3 (.int s) (.int e) z (.rng "end" e)
  | inn {m h p : Int} {x : Addr} {S : List Iv} {y : V} : PatAt a H x h p S → 1 ≤ p → p ≤ 10 ^ 12 → ¬ (-(10 ^ 40) ≤ m ∧ m ≤ 10 ^ 40) → Asks a K H 4 (.int m) y (.ref x) (.rng "minute" m)
theorem Out.same {a : Ad} {E : XK} {H H' : Hp} {s : Str} {v : Int} (h : Out a E H s v) (t : Same H H') : Out a E H' s v := fun d H2 e q => h d H2 e (t.trans q)
theorem OutM.same {a : Ad} {E : XK} {H H' : Hp} {s : Str} {v : Int} (h : OutM a E H s v) (t : Same H H') : OutM a E H' s v := fun d H2 e q => h d H2 e (t.trans q)
theorem OutB.same {a : Ad} {E : XK} {H H' : Hp} {v : Int} (h : OutB a E H v) (t : Same H H') : OutB a E H' v := fun d H2 e q => h d H2 e (t.trans q)
/-- Pattern(h, p, L) refused -/
theorem patFail {a : Ad} {K : PySem.W.Frag} {H : Hp} {m : Addr} {as : List V} {L : List Iv} {h p : Int} {Q : VK} {E : XK} (hm : SqA K H m as) (hrw : RwA K H as L) (hl : L.length ≤ 100000)
    (r : PatRes a E H h p L fun _ _ _ _ => False) : ∀ x dx, H x = none → H dx = none → dx ≠ x → spPat a K (.ref x :: ([.int h, .int p, .ref m] ++ [])) (upd (upd H dx (.own x)) x (.ins a.c_Pattern dx [])) (fun v H2 => v = .non ∧ Q (.ref x) H2) E := fun x dx hx hdx n => by
  have s1 : Same H (upd (upd H dx (.own x)) x (.ins a.c_Pattern dx [])) := (Same.new hdx).trans (Same.new ((upd_ne n.symm).trans hx))
  obtain ⟨r1, r2, r3, r4, r5⟩ := r
  exact ⟨x, dx, m, as, L, h, p, rfl, upd_same, s1.sqA hm, hrw.same s1, hl, fun z => (r1 z).same s1, fun y z => (r2 y z).same s1, fun y z w => (r3 y z w).same s1, fun y z w i b hb nb fi => (r4 y z w i b hb nb fi).same s1, fun y z w al hd q S H' can _ _ => (r5 y z w al hd q S H' can).elim⟩
def spMade (a : Ad) (K : PySem.W.Frag) : Sp := fun vs H Q E => ∃ (k : Int) (x y z : V) (e : Er), vs = [.int k, x, y, z] ∧ Asks a K H k x y z e ∧ ErrE a E H e
def spAsked (a : Ad) (K : PySem.W.Frag) : Sp := fun vs H Q _ => ∃ (k : Int) (x y z : V) (e : Er), vs = [.int k, x, y, z] ∧ Asks a K H k x y z e ∧ ∀ t H', H' t = some (.tup (erT e)) → Same H H' → Q (.ref t) H'
section
variable {P : Program} {w : World} {K : PySem.W.Frag} {mg : Str → Option Value} {base : Heap} {a : Ad}
theorem G__law_made (T : Tx K mg a) : FnOk P w K mg base (L2.CX P w) 9 a.f__law_made a.d__law_made ["kind", "one", "two", "three"] (spMade a K) := by
  refine T.F__law_made.okX sc__law_made (fun vs H Q E h => ?_) (fun cdv A outer s H vs Q E hr h => ?_)
  · obtain ⟨k, x, y, z, e, rfl, _⟩ := h
    rfl
  · obtain ⟨k, x, y, z, e, rfl, h, no⟩ := h
    refine ⟨_, (pss_cons (ps_if (pt_cmpR op_eq (pv 0) pe_int (nomark _)) (pss_one (ps_ret (pe_make T.M_Pattern (G_Pattern_init T) (hr.mono (by decide)) rfl T.g_Pattern T.b_Pattern_init .nil (passes_call (takes_of rfl rfl rfl rfl) (fun _ _ _ _ h => h)) (pa_cons (pv 1) (pa_cons (pv 2) (pa_cons (pv 3) pa_nil)))))) pss_nil)
      (pss_cons (ps_if (pt_cmpR op_eq (pv 0) pe_int (nomark _)) (pss_one (ps_ret (pe_smeth (pe_glob (v := .ref a.c_Pattern) rfl T.g_Pattern rfl) T.cr_Pattern T.sm_Pattern_once (G_Pattern_once T) (hr.mono (by decide)) T.F_Pattern_once.kp T.b_Pattern_once .nil (passes_call (takes_of rfl rfl rfl rfl) (fun _ _ _ _ h => h)) (pa_cons (pv 3) pa_nil)))) pss_nil)
      (pss_cons (ps_if (pt_cmpR op_eq (pv 0) pe_int (nomark _)) (pss_one (ps_ret (pe_smeth (pe_glob (v := .ref a.c_Pattern) rfl T.g_Pattern rfl) T.cr_Pattern T.sm_Pattern_every (G_Pattern_every T) (hr.mono (by decide)) T.F_Pattern_every.kp T.bP_Pattern_every_1.choose_spec.2 T.bP_Pattern_every_1.choose_spec.1 (passes_call (takes_of rfl rfl rfl rfl) (fun _ _ _ _ h => h)) (pa_cons (pv 1) (pa_cons (pv 2) pa_nil))))) pss_nil)
      (pss_cons (ps_if (pt_cmpR op_eq (pv 0) pe_int (nomark _)) (pss_one (ps_ret (pe_smeth (pe_glob (v := .ref a.c_Pattern) rfl T.g_Pattern rfl) T.cr_Pattern T.sm_Pattern_span (G_Pattern_span T) (hr.mono (by decide)) T.F_Pattern_span.kp T.b_Pattern_span .nil (passes_call (takes_of rfl rfl rfl rfl) (fun _ _ _ _ h => h)) (pa_cons (pv 1) (pa_cons (pv 2) pa_nil))))) pss_nil)
      (pss_one (ps_ret (pe_cmpR (op_inOwn T.m_Pattern_contains (G_Pattern_contains T) (hr.mono (by decide)) T.b_Pattern_contains (passes_call (takes_of rfl rfl rfl rfl) (fun _ _ _ _ h => h))) (pv 1) (pv 3) (by rfl)))))))), ?_⟩
    cases h with
    | pHead hm hrw hl c =>
      refine st_guard (q := (0 : Int) = 0) (a_eq (val_var (i := 0) rfl) val_c) (by simp) (fun _ => ?_) fun z => absurd rfl z
      exact st_ret0 (mk3 (val_var rfl) (val_var rfl) ⟨_, rfl, patFail hm hrw hl ⟨fun _ => no, fun y => absurd y c, fun y => absurd y c, fun y => absurd y c, fun y => absurd y c⟩⟩)
    | pPer hm hrw hl c1 c2 =>
      refine st_guard (q := (0 : Int) = 0) (a_eq (val_var (i := 0) rfl) val_c) (by simp) (fun _ => ?_) fun z => absurd rfl z
      exact st_ret0 (mk3 (val_var rfl) (val_var rfl) ⟨_, rfl, patFail hm hrw hl ⟨fun y => absurd c1 y, fun _ _ => no, fun _ y => absurd y c2, fun _ y => absurd y c2, fun _ y => absurd y c2⟩⟩)
    | pMany hm hrw hl c1 c2 c3 =>
      refine st_guard (q := (0 : Int) = 0) (a_eq (val_var (i := 0) rfl) val_c) (by simp) (fun _ => ?_) fun z => absurd rfl z
      exact st_ret0 (mk3 (val_var rfl) (val_var rfl) ⟨_, rfl, patFail hm hrw hl ⟨fun y => absurd c1 y, fun _ y => absurd c2 y, fun _ _ _ => no, fun _ _ y => by omega, fun _ _ y => by omega⟩⟩)
    | @pBad _ _ _ _ _ i b hm hrw c1 c2 c3 hb nb fi =>
      refine st_guard (q := (0 : Int) = 0) (a_eq (val_var (i := 0) rfl) val_c) (by simp) (fun _ => ?_) fun z => absurd rfl z
      refine st_ret0 (mk3 (val_var rfl) (val_var rfl) ⟨_, rfl, patFail hm hrw (by omega) ⟨fun y => absurd c1 y, fun _ y => absurd c2 y, fun _ _ y => by omega, fun _ _ _ i' b' hb' nb' fi' => ?_, fun _ _ _ al => absurd (al b (List.mem_of_getElem? hb)) nb⟩⟩)
      rcases Nat.lt_trichotomy i i' with q | q | q
      · exact absurd (fi' i b q hb) nb
      · rw [← q]
        exact no
      · exact absurd (fi i' b' q hb') nb'
    | oMany hm hl c =>
      refine st_guard (q := (1 : Int) = 0) (a_eq (val_var (i := 0) rfl) val_c) (by simp) (fun z => absurd z (by decide)) fun _ => ?_
      refine st_guard (q := (1 : Int) = 1) (a_eq (val_var (i := 0) rfl) val_c) (by simp) (fun _ => ?_) fun z => absurd rfl z
      exact st_ret0 ⟨rfl, _, rfl, _, _, rfl, hm, hl, fun _ => no, fun y => by omega, fun y => by omega⟩
    | @oBad _ _ _ ks i b hm hl hb nb fi =>
      refine st_guard (q := (1 : Int) = 0) (a_eq (val_var (i := 0) rfl) val_c) (by simp) (fun z => absurd z (by decide)) fun _ => ?_
      refine st_guard (q := (1 : Int) = 1) (a_eq (val_var (i := 0) rfl) val_c) (by simp) (fun _ => ?_) fun z => absurd rfl z
      refine st_ret0 ⟨rfl, _, rfl, _, ks, rfl, hm, by omega, fun y => by omega, fun _ i' b' hb' nb' fi' => ?_, fun _ al => absurd (al b (List.mem_of_getElem? hb)) nb⟩
      rcases Nat.lt_trichotomy i i' with q | q | q
      · exact absurd (fi' i b q hb) nb
      · rw [← q]
        exact no
      · exact absurd (fi i' b' q hb') nb'
    | ePer c =>
      refine st_guard (q := (2 : Int) = 0) (a_eq (val_var (i := 0) rfl) val_c) (by simp) (fun z => absurd z (by decide)) fun _ => ?_
      refine st_guard (q := (2 : Int) = 1) (a_eq (val_var (i := 0) rfl) val_c) (by simp) (fun z => absurd z (by decide)) fun _ => ?_
      refine st_guard (q := (2 : Int) = 2) (a_eq (val_var (i := 0) rfl) val_c) (by simp) (fun _ => ?_) fun z => absurd rfl z
      exact st_ret0 ⟨rfl, _, rfl, _, rfl, _, _, rfl, fun _ => no, fun y => absurd y c, fun y => absurd y c⟩
    | eFirst c1 c2 =>
      refine st_guard (q := (2 : Int) = 0) (a_eq (val_var (i := 0) rfl) val_c) (by simp) (fun z => absurd z (by decide)) fun _ => ?_
      refine st_guard (q := (2 : Int) = 1) (a_eq (val_var (i := 0) rfl) val_c) (by simp) (fun z => absurd z (by decide)) fun _ => ?_
      refine st_guard (q := (2 : Int) = 2) (a_eq (val_var (i := 0) rfl) val_c) (by simp) (fun _ => ?_) fun z => absurd rfl z
      exact st_ret0 ⟨rfl, _, rfl, _, rfl, _, _, rfl, fun y => absurd c1 y, fun _ _ => no, fun _ y => absurd y c2⟩
    | sStart c =>
      refine st_guard (q := (3 : Int) = 0) (a_eq (val_var (i := 0) rfl) val_c) (by simp) (fun z => absurd z (by decide)) fun _ => ?_
      refine st_guard (q := (3 : Int) = 1) (a_eq (val_var (i := 0) rfl) val_c) (by simp) (fun z => absurd z (by decide)) fun _ => ?_
      refine st_guard (q := (3 : Int) = 2) (a_eq (val_var (i := 0) rfl) val_c) (by simp) (fun z => absurd z (by decide)) fun _ => ?_
      refine st_guard (q := (3 : Int) = 3) (a_eq (val_var (i := 0) rfl) val_c) (by simp) (fun _ => ?_) fun z => absurd rfl z
      exact st_ret0 ⟨rfl, _, rfl, _, rfl, _, _, rfl, fun _ => no, fun y => absurd y c, fun y => absurd y c⟩
    | sEnd c1 c2 =>
      refine st_guard (q := (3 : Int) = 0) (a_eq (val_var (i := 0) rfl) val_c) (by simp) (fun z => absurd z (by decide)) fun _ => ?_
      refine st_guard (q := (3 : Int) = 1) (a_eq (val_var (i := 0) rfl) val_c) (by simp) (fun z => absurd z (by decide)) fun _ => ?_
      refine st_guard (q := (3 : Int) = 2) (a_eq (val_var (i := 0) rfl) val_c) (by simp) (fun z => absurd z (by decide)) fun _ => ?_
      refine st_guard (q := (3 : Int) = 3) (a_eq (val_var (i := 0) rfl) val_c) (by simp) (fun _ => ?_) fun z => absurd rfl z
      exact st_ret0 ⟨rfl, _, rfl, _, rfl, _, _, rfl, fun y => absurd c1 y, fun _ _ => no, fun _ y => absurd y c2⟩
    | @inn m hh p x S y hp p1 p2 c =>
      refine st_guard (q := (4 : Int) = 0) (a_eq (val_var (i := 0) rfl) val_c) (by simp) (fun z => absurd z (by decide)) fun _ => ?_
      refine st_guard (q := (4 : Int) = 1) (a_eq (val_var (i := 0) rfl) val_c) (by simp) (fun z => absurd z (by decide)) fun _ => ?_
      refine st_guard (q := (4 : Int) = 2) (a_eq (val_var (i := 0) rfl) val_c) (by simp) (fun z => absurd z (by decide)) fun _ => ?_
      refine st_guard (q := (4 : Int) = 3) (a_eq (val_var (i := 0) rfl) val_c) (by simp) (fun z => absurd z (by decide)) fun _ => ?_
      obtain ⟨dx, st, bs, u, hx, _⟩ := id hp
      exact st_retop ⟨_, rfl, _, rfl, x, dx, _, rfl, hx, x, hh, p, S, m, rfl, hp, p1, p2, fun _ => no, fun y => absurd y c⟩
theorem G__law_asked (T : Tx K mg a) : FnOk P w K mg base CX0 10 a.f__law_asked a.d__law_asked ["kind", "one", "two", "three"] (spAsked a K) := by
  refine T.F__law_asked.ok sc__law_asked (fun vs H Q E h => ?_) (fun cdv A outer s H vs Q E hr h => ?_)
  · obtain ⟨k, x, y, z, e, rfl, _⟩ := h
    rfl
  · obtain ⟨k, x, y, z, e, rfl, h, yes⟩ := h
    refine ⟨_, (pss_one (ps_try_hds rfl rfl
      (fun W pn xe tk _ => (pss_one (ps_ret (pe_tup (pa_cons pe_str (pa_cons (pe_callS (G__law_made T) (hr.mono (by decide)) rfl T.g__law_made T.F__law_made.kp T.b__law_made (fun σ => passAt tk σ) (by exact (pa_cons (pv 0) (pa_cons (pv 1) (pa_cons (pv 2) (pa_cons (pv 3) pa_nil)))))) pa_nil))))))
      (hds_as (i := 4) rfl sc__law_asked.nd rfl rfl ⟨rfl, by decide, Or.inl T.g_OutOfRange⟩ (fun xa oe cls xd pn hz hf => (pss_cons (ps_set (i := 5) sc__law_asked.nd rfl (Or.inl rfl) (pe_and (pe_callB (call_isX hz hf) (by rfl) T.n_isinstance (by decide +kernel) (pa_cons (pv 4) (pa_cons (pe_glob (v := .ref a.c_DueError) rfl T.g_DueError rfl) pa_nil))) (pe_and (pe_callB (call_isX hz hf) (by rfl) T.n_isinstance (by decide +kernel) (pa_cons (pv 4) (pa_cons (pe_bltn (v := .ty "ValueError") rfl T.n_ValueError (by decide +kernel) rfl) pa_nil))) (pe_one (pe_callC (C__law_int T) (L2H.RoomH.mono ⟨hr.dp, hr.un⟩ (show 1 ≤ 9 from by decide)) rfl T.g__law_int T.F__law_int.kp T.b__law_int (pa_cons (pe_xf T.xf_OutOfRange T.no_OutOfRange_value hz hf (pv 4)) pa_nil))))))
      (pss_cons (ps_set (i := 6) sc__law_asked.nd rfl (Or.inl rfl) (pe_or (pe_callB (call_isX hz hf) (by rfl) T.n_isinstance (by decide +kernel) (pa_cons (pv 4) (pa_cons (pe_glob (v := .ref a.c_TooMany) rfl T.g_TooMany rfl) pa_nil))) (pe_one (pe_callB (call_isX hz hf) (by rfl) T.n_isinstance (by decide +kernel) (pa_cons (pv 4) (pa_cons (pe_glob (v := .ref a.c_BadStretch) rfl T.g_BadStretch rfl) pa_nil))))))
      (pss_one (ps_ret (pe_tup (pa_cons pe_str (pa_cons (pe_xf T.xf_OutOfRange T.no_OutOfRange_what hz hf (pv 4)) (pa_cons (pe_xf T.xf_OutOfRange T.no_OutOfRange_value hz hf (pv 4)) (pa_cons (pe_and (pv 5) (pe_one (pe_not (pv 6)))) pa_nil))))))))))
      (hds_as (i := 4) rfl sc__law_asked.nd rfl rfl ⟨rfl, by decide, Or.inl T.g_TooMany⟩ (fun xa oe cls xd pn hz hf => (pss_cons (ps_set (i := 5) sc__law_asked.nd rfl (Or.inl rfl) (pe_and (pe_callB (call_isX hz hf) (by rfl) T.n_isinstance (by decide +kernel) (pa_cons (pv 4) (pa_cons (pe_glob (v := .ref a.c_DueError) rfl T.g_DueError rfl) pa_nil))) (pe_and (pe_callB (call_isX hz hf) (by rfl) T.n_isinstance (by decide +kernel) (pa_cons (pv 4) (pa_cons (pe_bltn (v := .ty "ValueError") rfl T.n_ValueError (by decide +kernel) rfl) pa_nil))) (pe_one (pe_callC (C__law_int T) (L2H.RoomH.mono ⟨hr.dp, hr.un⟩ (show 1 ≤ 9 from by decide)) rfl T.g__law_int T.F__law_int.kp T.b__law_int (pa_cons (pe_xf T.xf_TooMany T.no_TooMany_many hz hf (pv 4)) pa_nil))))))
      (pss_one (ps_ret (pe_tup (pa_cons pe_str (pa_cons (pe_xf T.xf_TooMany T.no_TooMany_what hz hf (pv 4)) (pa_cons (pe_xf T.xf_TooMany T.no_TooMany_many hz hf (pv 4)) (pa_cons (pe_and (pv 5) (pe_one (pe_not (pe_callB (call_isX hz hf) (by rfl) T.n_isinstance (by decide +kernel) (pa_cons (pv 4) (pa_cons (pe_glob (v := .ref a.c_BadStretch) rfl T.g_BadStretch rfl) pa_nil)))))) pa_nil)))))))))
      (hds_as (i := 4) rfl sc__law_asked.nd rfl rfl ⟨rfl, by decide, Or.inl T.g_BadStretch⟩ (fun xa oe cls xd pn hz hf => (pss_cons (ps_set (i := 5) sc__law_asked.nd rfl (Or.inl rfl) (pe_and (pe_callB (call_isX hz hf) (by rfl) T.n_isinstance (by decide +kernel) (pa_cons (pv 4) (pa_cons (pe_glob (v := .ref a.c_DueError) rfl T.g_DueError rfl) pa_nil))) (pe_and (pe_callB (call_isX hz hf) (by rfl) T.n_isinstance (by decide +kernel) (pa_cons (pv 4) (pa_cons (pe_bltn (v := .ty "ValueError") rfl T.n_ValueError (by decide +kernel) rfl) pa_nil))) (pe_one (pe_callC (C__law_int T) (L2H.RoomH.mono ⟨hr.dp, hr.un⟩ (show 1 ≤ 9 from by decide)) rfl T.g__law_int T.F__law_int.kp T.b__law_int (pa_cons (pe_xf T.xf_BadStretch T.no_BadStretch_at hz hf (pv 4)) pa_nil))))))
      (pss_one (ps_ret (pe_tup (pa_cons pe_str (pa_cons (pe_xf T.xf_BadStretch T.no_BadStretch_at hz hf (pv 4)) (pa_cons (pv 5) pa_nil))))))))
      (hds_only rfl ⟨rfl, by decide, Or.inl T.g_DueError⟩ (fun xa oe cls xd pn hz hf => (pss_one (ps_ret (pe_tup (pa_cons pe_str (pa_cons pe_int pa_nil))))))
      (hds_nil rfl rfl takes0))))))), ?_⟩
    refine ⟨_, rfl, _, rfl, _, rfl, _, rfl, k, x, y, z, e, rfl, h, ?_⟩
    cases e with
    | rng s v =>
      intro dd H2 hd s2
      refine ⟨true, T.exm_OutOfRange_OutOfRange, fun _ a0 _ => ?_, fun q => Bool.noConfusion q⟩
      refine ⟨_, rfl, _, dd, _, _, _, true, rfl, T.xc_OutOfRange, rfl, hd, rfl, .own _, T.kit_OutOfRange_DueError, _, rfl, iteT ?_⟩
      refine ⟨_, rfl, _, dd, _, _, _, true, rfl, T.xc_OutOfRange, rfl, hd, rfl, .ty _, T.kitV_OutOfRange, _, rfl, iteT ?_⟩
      refine ⟨_, rfl, rfl, rfl, dd, _, .int v, rfl, hd, by kernel_rfl, v, rfl, ?_⟩
      refine ⟨_, rfl, _, dd, _, _, _, false, rfl, T.xc_OutOfRange, rfl, hd, rfl, .own _, T.kit_OutOfRange_TooMany, _, rfl, iteF ?_⟩
      refine ⟨_, rfl, _, dd, _, _, _, false, rfl, T.xc_OutOfRange, rfl, hd, rfl, .own _, T.kit_OutOfRange_BadStretch, ?_⟩
      refine ⟨_, rfl, rfl, rfl, dd, _, .str s, rfl, hd, by kernel_rfl, _, rfl, rfl, rfl, dd, _, .int v, rfl, hd, by kernel_rfl, _, rfl, _, rfl, iteT ⟨_, rfl, _, rfl, (by show 4 ≤ sizeLine; decide), fun u hu => ?_⟩⟩
      exact yes u _ upd_same (s2.trans (Same.new hu))
    | many s v =>
      intro dd H2 hd s2
      refine ⟨false, T.exm_TooMany_OutOfRange, fun q => Bool.noConfusion q, fun _ => ⟨true, T.exm_TooMany_TooMany, fun _ a0 _ => ?_, fun q => Bool.noConfusion q⟩⟩
      refine ⟨_, rfl, _, dd, _, _, _, true, rfl, T.xc_TooMany, rfl, hd, rfl, .own _, T.kit_TooMany_DueError, _, rfl, iteT ?_⟩
      refine ⟨_, rfl, _, dd, _, _, _, true, rfl, T.xc_TooMany, rfl, hd, rfl, .ty _, T.kitV_TooMany, _, rfl, iteT ?_⟩
      refine ⟨_, rfl, rfl, rfl, dd, _, .int v, rfl, hd, by kernel_rfl, v, rfl, ?_⟩
      refine ⟨_, rfl, rfl, rfl, dd, _, .str s, rfl, hd, by kernel_rfl, _, rfl, rfl, rfl, dd, _, .int v, rfl, hd, by kernel_rfl, _, rfl, _, rfl, iteT ?_⟩
      refine ⟨_, rfl, _, dd, _, _, _, false, rfl, T.xc_TooMany, rfl, hd, rfl, .own _, T.kit_TooMany_BadStretch, _, rfl, (by show 4 ≤ sizeLine; decide), fun u hu => ?_⟩
      exact yes u _ upd_same (s2.trans (Same.new hu))
    | bad v =>
      intro dd H2 hd s2
      refine ⟨false, T.exm_BadStretch_OutOfRange, fun q => Bool.noConfusion q, fun _ => ⟨false, T.exm_BadStretch_TooMany, fun q => Bool.noConfusion q, fun _ => ⟨true, T.exm_BadStretch_BadStretch, fun _ a0 _ => ?_, fun q => Bool.noConfusion q⟩⟩⟩
      refine ⟨_, rfl, _, dd, _, _, _, true, rfl, T.xc_BadStretch, rfl, hd, rfl, .own _, T.kit_BadStretch_DueError, _, rfl, iteT ?_⟩
      refine ⟨_, rfl, _, dd, _, _, _, true, rfl, T.xc_BadStretch, rfl, hd, rfl, .ty _, T.kitV_BadStretch, _, rfl, iteT ?_⟩
      refine ⟨_, rfl, rfl, rfl, dd, _, .int v, rfl, hd, by kernel_rfl, v, rfl, ?_⟩
      refine ⟨_, rfl, rfl, rfl, dd, _, .int v, rfl, hd, by kernel_rfl, _, rfl, (by show 3 ≤ sizeLine; decide), fun u hu => ?_⟩
      exact yes u _ upd_same (s2.trans (Same.new hu))
end
end My

namespace My
open PySem L2
/-! ### comprehensions over draws -/
section
variable {te : TE} {vs : List Nat} {σ : St} {H1 : Hp} {Q : VK} {i0 : Nat} {l cl : Addr} {n c cnt : Nat} {lo : Int} {Pr : Int → Prop}
theorem comp_draws (hp : PoolAt H1 l cl n) (hz : cnt ≤ 1000) (hw : ∀ x, wipe ((wipe σ vs).set i0 (some x)) vs = wipe σ vs)
    (hte : ∀ x H k Q', PoolAt H l cl k → k ≤ n + c * cnt → (∀ d H', Pr d → PoolAt H' l cl (k + c) → Fr l cl H H' → Q' (.int d) H') → te ((wipe σ vs).set i0 (some x)) H Q')
    (hd : ∀ D (ks : List Int) H', H1 D = none → H' D = some (.lst (ks.map V.int)) → ks.length = cnt → (∀ d ∈ ks, Pr d) → PoolAt H' l cl (n + c * cnt) → Fr l cl H1 H' → Q (.ref D) H') : tLc (fun _ H R => R (Itr lo cnt) H) (gName i0) tYes te vs σ H1 Q := by
  refine fun D hD => ?_
  obtain ⟨nl, ncl⟩ := hp.off hD
  refine lc_range (fun i H' => ∃ ks : List Int, H' D = some (.lst (ks.map V.int)) ∧ ks.length = i ∧ (∀ d ∈ ks, Pr d) ∧ PoolAt H' l cl (n + c * i) ∧ Fr l cl H1 H') ⟨[], upd_same, rfl, (fun d h => nomatch h), by simpa using hp.same (Same.new hD), Fr.of (Same.new hD)⟩ ?_ ?_
  · rintro i H' hi ⟨ks, e, lk, pr, p, f⟩
    refine g_name ⟨hw _, ?_⟩
    show te _ H' _
    have hm : c * i ≤ c * cnt := Nat.mul_le_mul_left _ (by omega)
    have hm1 : c * (i + 1) = c * i + c := by rw [Nat.mul_add, Nat.mul_one]
    refine hte _ H' _ _ p (by omega) fun d H2 prd p2 f2 => ?_
    have e2 := f2 _ _ e nl ncl
    refine ⟨_, e2, by rw [List.length_map]; have : 1000000 ≤ sizeLine := by decide
                      omega, ks ++ [d], by rw [upd_same, List.map_append]; rfl, by simp [lk], fun x hx => ?_, ?_, ?_⟩
    · rcases List.mem_append.mp hx with h | h
      · exact pr x h
      · rw [List.mem_singleton.mp h]; exact prd
    · rw [hm1, ← Nat.add_assoc]
      exact p2.but (But.refl D H2).upd nl.symm ncl.symm
    · exact fun b o eb n1 n2 => by
        rw [upd_ne (ne_of_none eb hD)]
        exact f2 _ _ (f b o eb n1 n2) n1 n2
  · rintro H' ⟨ks, e, lk, pr, p, f⟩
    exact hd D ks H' hD e lk pr p f
theorem lcR1 {g : TG} {tt : TT} {tr : TE} (h : tr σ H1 fun v H2 => ∃ i : Int, v = .int i ∧ -1000000 ≤ i ∧ i ≤ 1000000 ∧ tLc (fun _ H R => R (Itr 0 i.toNat) H) g tt te vs σ H2 Q) (mono : ∀ R R' : V → Hp → Prop, (∀ v H, R v H → R' v H) → tr σ H1 R → tr σ H1 R') : tLc (iRng1 (tCons tr tNil)) g tt te vs σ H1 Q := by
  refine mono _ _ (fun v H2 ⟨i, e, b1, b2, q⟩ => ?_) h
  subst e
  exact ⟨i, rfl, by omega, by omega, q⟩
/-- a draw tells how many -/
theorem lcR1D {g : TG} {tt : TT} {tr : TE} (h : tr σ H1 fun v H2 => tLc (iRng1 (tCons (tC v) tNil)) g tt te vs σ H2 Q) : tLc (iRng1 (tCons tr tNil)) g tt te vs σ H1 Q := h
theorem lcR1C {g : TG} {tt : TT} {i : Int} (b1 : -1000000 ≤ i) (b2 : i ≤ 1000000) (h : tLc (fun _ H R => R (Itr 0 i.toNat) H) g tt te vs σ H1 Q) : tLc (iRng1 (tCons (tC (.int i)) tNil)) g tt te vs σ H1 Q := ⟨i, rfl, by omega, by omega, h⟩
end
theorem Rw.append {H : Hp} {as bs : List V} {L M : List Iv} (h : Rw H as L) (g : Rw H bs M) : Rw H (as ++ bs) (L ++ M) := ⟨by simp [h.1, g.1], fun i a e => by
  by_cases c : i < L.length
  · rw [List.getElem?_append_left c] at e
    obtain ⟨t, x, y⟩ := h.2 i a e
    exact ⟨t, by rw [List.getElem?_append_left (by rw [h.1]; exact c)]; exact x, y⟩
  · rw [List.getElem?_append_right (by omega)] at e
    obtain ⟨t, x, y⟩ := g.2 _ a e
    exact ⟨t, by rw [List.getElem?_append_right (by rw [h.1]; omega), h.1]; exact x, y⟩⟩
/-! ### a row bent at one place -/
def OkB (h p : Int) (b : Iv) : Prop := 0 ≤ b.1 ∧ b.1 < b.2 ∧ b.2 ≤ h + p
def spBent : Sp := fun vs H Q _ => ∃ (l cl : Addr) (n : Nat) (h p : Int) (pl : Addr) (as : List V) (L : List Iv), vs = [.ref l, .int h, .int p, .ref pl] ∧ PoolAt H l cl n ∧ n < 2 ^ 39 ∧ H pl = some (.lst as) ∧ pl ≠ l ∧ pl ≠ cl ∧ Rw H as L ∧ L.length ≤ 1000 ∧ 0 ≤ h ∧ 1 ≤ p ∧ h + p ≤ 10 ^ 13 ∧ (∀ b ∈ L, OkB h p b) ∧
  ∀ (t bl : Addr) (bs : List V) (L' : List Iv) (i : Nat) (b : Iv) H', H' t = some (.tup [.int (i : Nat), .ref bl]) → H' bl = some (.lst bs) → Rw H' bs L' → L'.length ≤ L.length + 2 → L'[i]? = some b → ¬ OkB h p b → (∀ (j : Nat) b', j < i → L'[j]? = some b' → OkB h p b') → H bl = none → PoolAt H' l cl (n + 10) → Fr l cl H H' → Q (.ref t) H'
theorem small2 {d e : Int} (h0 : 0 ≤ d) (h1 : d < 2) : CMul d e := Or.inl ⟨by omega, by omega⟩
section
variable {P : Program} {w : World} {K : PySem.W.Frag} {mg : Str → Option Value} {base : Heap} {a : Ad}
theorem G__law_bent (T : Tx K mg a) : FnOk P w K mg base CX0 2 a.f__law_bent a.d__law_bent ["pool", "head", "period", "pairs"] spBent := by
  refine T.F__law_bent.ok sc__law_bent (fun vs H Q E h => ?_) (fun cdv A outer s H vs Q E hr h => ?_)
  · obtain ⟨l, cl, n, hh, p, pl, as, L, rfl, _⟩ := h
    rfl
  · obtain ⟨l, cl, n, hh, p, pl, as, L, rfl, hp, hn, epl, nl, ncl, hrw, hL, h0, p0, hpz, ok, k⟩ := h
    refine ⟨_, (pss_cons (ps_set (i := 4) sc__law_bent.nd rfl (Or.inl rfl) (pe_call (G__law_draw T) (hr.mono (by decide)) rfl T.g__law_draw T.F__law_draw.kp T.b__law_draw .nil pass0 (pa_cons (pv 0) (pa_cons pe_int pa_nil))))
      (pss_cons (ps_set (i := 5) sc__law_bent.nd rfl (Or.inl rfl) (pe_call (G__law_draw T) (hr.mono (by decide)) rfl T.g__law_draw T.F__law_draw.kp T.b__law_draw .nil pass0 (pa_cons (pv 0) (pa_cons (pe_op op_add (pe_op op_add (pv 1) (pv 2)) pe_int) pa_nil))))
      (pss_cons (ps_set (i := 6) sc__law_bent.nd rfl (Or.inl rfl) (pe_op op_mul (pe_call (G__law_draw T) (hr.mono (by decide)) rfl T.g__law_draw T.F__law_draw.kp T.b__law_draw .nil pass0 (pa_cons (pv 0) (pa_cons pe_int pa_nil))) (pe_call (G__law_draw T) (hr.mono (by decide)) rfl T.g__law_draw T.F__law_draw.kp T.b__law_draw .nil pass0 (pa_cons (pv 0) (pa_cons (pe_op op_pow pe_int pe_int) pa_nil)))))
      (pss_cons (ps_set (i := 7) sc__law_bent.nd rfl (Or.inl rfl) (pe_tup (pa_cons (pe_op op_sub (pe_un un_neg pe_int) (pv 6)) (pa_cons pe_int pa_nil))))
      (pss_cons (ps_if (pt_cmpR op_eq (pv 4) pe_int (nomark _)) (pss_one (ps_set (i := 7) sc__law_bent.nd rfl (Or.inl rfl) (pe_tup (pa_cons (pv 5) (pa_cons (pv 5) pa_nil))))) pss_nil)
      (pss_cons (ps_if (pt_cmpR op_eq (pv 4) pe_int (nomark _)) (pss_one (ps_set (i := 7) sc__law_bent.nd rfl (Or.inl rfl) (pe_tup (pa_cons (pe_op op_add (pe_op op_add (pv 5) pe_int) (pv 6)) (pa_cons (pv 5) pa_nil))))) pss_nil)
      (pss_cons (ps_if (pt_cmpR op_eq (pv 4) pe_int (nomark _)) (pss_one (ps_set (i := 7) sc__law_bent.nd rfl (Or.inl rfl) (pe_tup (pa_cons (pv 5) (pa_cons (pe_op op_add (pe_op op_add (pe_op op_add (pv 1) (pv 2)) pe_int) (pv 6)) pa_nil))))) pss_nil)
      (pss_cons (ps_set (i := 8) sc__law_bent.nd rfl (Or.inl rfl) (pe_call (G__law_draw T) (hr.mono (by decide)) rfl T.g__law_draw T.F__law_draw.kp T.b__law_draw .nil pass0 (pa_cons (pv 0) (pa_cons (pe_op op_add (pe_callB call_len_seq (by rfl) T.n_len (by decide +kernel) (pa_cons (pv 3) pa_nil)) pe_int) pa_nil))))
      (pss_cons (ps_set (i := 9) sc__law_bent.nd rfl (Or.inl rfl) (pe_op op_cat (pe_op op_cat (pe_slice sl_list (pv 3) po_none (po_some (pv 8))) (pe_lst (pa_cons (pv 7) pa_nil))) (pe_slice sl_list (pv 3) (po_some (pv 8)) po_none)))
      (pss_cons (ps_if (pt_cmpR op_eq (pe_call (G__law_draw T) (hr.mono (by decide)) rfl T.g__law_draw T.F__law_draw.kp T.b__law_draw .nil pass0 (pa_cons (pv 0) (pa_cons pe_int pa_nil))) pe_int (nomark _)) (pss_one (ps_expr (pe_bm PySem.F.plainAttrs_list PySem.F.slot_list_append PySem.F.type_list_append mt_append (pv 9) (pa_cons (pe_tup (pa_cons pe_int (pa_cons pe_int pa_nil))) pa_nil)))) pss_nil)
      (pss_one (ps_ret (pe_tup (pa_cons (pv 8) (pa_cons (pv 9) pa_nil))))))))))))))), ?_⟩
    refine st_letX (draw hp rfl val_c (by omega) (by decide) (by decide) fun kd H1 a0 a1 p1 f1 => ?_)
    refine st_letX (draw p1 rfl (v_rI0 (g := fun i j => .int (i + j)) (v_rI0 (g := fun i j => .int (i + j)) (val_var rfl) (val_var rfl)) val_c) (by omega) (by omega) (by omega) fun one H2 b0 b1 p2 f2 => ?_)
    refine st_letX (draw p2 rfl val_c (by omega) (by decide) (by decide) fun m1 H3 c0 c1 p3 f3 => ?_)
    refine draw p3 rfl (v_rI (g := fun i j => .int (i ^ j.toNat)) val_c val_c ⟨by decide, by decide, by decide⟩) (by omega) (by decide) (by decide) fun m2 H4 d0 d1 p4 f4 => ⟨_, _, rfl, rfl, small2 c0 c1, ?_⟩
    have mu : 0 ≤ m1 * m2 := Int.mul_nonneg c0 d0
    dsimp only
    generalize m1 * m2 = much at mu ⊢
    have f04 := ((f1.trans f2).trans f3).trans f4
    clear f1 f2 f3 f4 p1 p2 p3
    have bad1 : ¬ OkB hh p (-1 - much, 1) := fun z => by have := z.1; dsimp only at this; omega
    have bad2 : ¬ OkB hh p (one, one) := fun z => by have := z.2.1; dsimp only at this; omega
    have bad3 : ¬ OkB hh p (one + 1 + much, one) := fun z => by have := z.2.1; dsimp only at this; omega
    have bad4 : ¬ OkB hh p (one, hh + p + 1 + much) := fun z => by have := z.2.2; dsimp only at this; omega
    have epl4 := f04 _ _ epl nl ncl
    have rw4 := hrw.fr f04 hp
    have new2 : ∀ {H' : Hp} {σ : St} {ta tb : TE} {x y : Int} {N : St → Hp → Prop} {D : Ends}, Val ta σ H' (.int x) → Val tb σ H' (.int y) → D.nx = N → (∀ u H'', H'' u = some (.tup [.int x, .int y]) → Same H' H'' → N (σ.set 7 (some (.ref u))) H'') → tAsg (tTup (tCons ta (tCons tb tNil))) (gName 7) D σ H' := fun ha hb e q =>
      ha _ (hb _ ⟨by show 2 ≤ sizeLine; decide, fun u hu => by rw [e]; exact q u _ upd_same (Same.new hu)⟩)
    refine st_shareS (fun σ' H' => ∃ (u : Addr) (b : Iv), σ' = [some (.ref l), some (.int hh), some (.int p), some (.ref pl), some (.int kd), some (.int one), some (.int much), some (.ref u), none, none] ∧ H' u = some (.tup [.int b.1, .int b.2]) ∧ ¬ OkB hh p b ∧ Same H4 H') ?_ fun N hN => new2 (v_rI0 (g := fun i j => .int (i - j)) (v_un (g := fun i => V.int (-i)) val_c) (val_var rfl)) val_c rfl fun u H' eu s => hN _ _ ⟨u, (-1 - much, 1), rfl, eu, bad1, s⟩
    rintro σ' H5 ⟨u, b, rfl, eu, bb, s5⟩
    refine st_shareS (fun σ' H' => ∃ (u : Addr) (b : Iv), σ' = [some (.ref l), some (.int hh), some (.int p), some (.ref pl), some (.int kd), some (.int one), some (.int much), some (.ref u), none, none] ∧ H' u = some (.tup [.int b.1, .int b.2]) ∧ ¬ OkB hh p b ∧ Same H4 H') ?_ fun N hN => st_ifp (q := kd = 1) (a_eq (val_var (i := 4) rfl) val_c) (by simp) (fun _ => new2 (val_var rfl) (val_var rfl) rfl fun u H' eu s => hN _ _ ⟨u, (one, one), rfl, eu, bad2, s5.trans s⟩) fun _ => hN _ _ ⟨u, b, rfl, eu, bb, s5⟩
    clear eu s5 bb
    rintro σ' H5 ⟨u, b, rfl, eu, bb, s5⟩
    refine st_shareS (fun σ' H' => ∃ (u : Addr) (b : Iv), σ' = [some (.ref l), some (.int hh), some (.int p), some (.ref pl), some (.int kd), some (.int one), some (.int much), some (.ref u), none, none] ∧ H' u = some (.tup [.int b.1, .int b.2]) ∧ ¬ OkB hh p b ∧ Same H4 H') ?_ fun N hN => st_ifp (q := kd = 2) (a_eq (val_var (i := 4) rfl) val_c) (by simp) (fun _ => new2 (v_rI0 (g := fun i j => .int (i + j)) (v_rI0 (g := fun i j => .int (i + j)) (val_var rfl) val_c) (val_var rfl)) (val_var rfl) rfl fun u H' eu s => hN _ _ ⟨u, (one + 1 + much, one), rfl, eu, bad3, s5.trans s⟩) fun _ => hN _ _ ⟨u, b, rfl, eu, bb, s5⟩
    clear eu s5 bb
    rintro σ' H5 ⟨u, b, rfl, eu, bb, s5⟩
    refine st_shareS (fun σ' H' => ∃ (u : Addr) (b : Iv), σ' = [some (.ref l), some (.int hh), some (.int p), some (.ref pl), some (.int kd), some (.int one), some (.int much), some (.ref u), none, none] ∧ H' u = some (.tup [.int b.1, .int b.2]) ∧ ¬ OkB hh p b ∧ Same H4 H') ?_ fun N hN => st_ifp (q := kd = 3) (a_eq (val_var (i := 4) rfl) val_c) (by simp) (fun _ => new2 (val_var rfl) (v_rI0 (g := fun i j => .int (i + j)) (v_rI0 (g := fun i j => .int (i + j)) (v_rI0 (g := fun i j => .int (i + j)) (val_var rfl) (val_var rfl)) val_c) (val_var rfl)) rfl fun u H' eu s => hN _ _ ⟨u, (one, hh + p + 1 + much), rfl, eu, bad4, s5.trans s⟩) fun _ => hN _ _ ⟨u, b, rfl, eu, bb, s5⟩
    clear eu s5 bb
    rintro σ' H5 ⟨u, b, rfl, eu, bb, s5⟩
    have epl5 := s5 _ _ epl4
    have rw5 := rw4.same s5
    have la := rw5.1
    have vl : Val (tCB (fun xs H_1 Q => ∃ p ys, xs = [V.ref p] ∧ (SqL K H_1 p ys ∨ SqT K H_1 p ys) ∧ Q (V.int ↑ys.length) H_1) (tCons (tVar 3) tNil)) [some (.ref l), some (.int hh), some (.int p), some (.ref pl), some (.int kd), some (.int one), some (.int much), some (.ref u), none, none] H5 (.int (L.length : Nat)) := v_cb (val_var rfl) fun Q q => ⟨pl, as, rfl, Or.inl (SqL.of epl5), by rw [la]; exact q⟩
    refine st_letX (draw (p4.same s5) rfl (v_rI0 (g := fun i j => .int (i + j)) vl val_c) (by omega) (by omega) (by omega) fun at' H6 e0 e1 p6 f6 => ?_)
    obtain ⟨i, rfl⟩ : ∃ i : Nat, at' = (i : Int) := ⟨at'.toNat, by omega⟩
    have epl6 := f6 _ _ epl5 nl ncl
    have rw6 := rw5.fr f6 (p4.same s5)
    have eu6 := f6.tup (p4.same s5) eu
    have f06 := (f04.trans (Fr.of s5)).trans f6
    clear f6 rw5 epl5 rw4 epl4 eu s5 f04
    refine st_letX ?_
    refine ⟨_, rfl, _, rfl, _, rfl, pl, as, rfl, SqL.of epl6, fun q1 hq1 => ?_⟩
    have s1 := Same.new (o := .lst (cutV as none (some (i : Int)))) hq1
    refine ⟨_, rfl, by show 1 ≤ sizeLine; decide, fun q2 hq2 => ?_⟩
    have s2 := Same.new (o := .lst [V.ref u]) hq2
    have big : 1000000 ≤ sizeLine := by decide
    have l1 : (cutV as none (some (i : Int))).length ≤ 1000 := Nat.le_trans (cutV_length _ _ _) (by omega)
    have l2 : (cutV as (some (i : Int)) none).length ≤ 1000 := Nat.le_trans (cutV_length _ _ _) (by omega)
    refine ⟨q1, q2, _, _, rfl, rfl, s2 _ _ upd_same, upd_same, by rw [List.length_singleton]; omega, fun q3 hq3 => ?_⟩
    have s3 := Same.new (o := .lst (cutV as none (some (i : Int)) ++ [V.ref u])) hq3
    have s13 := s1.trans (s2.trans s3)
    refine ⟨_, rfl, _, rfl, _, rfl, pl, as, rfl, SqL.of (s13 _ _ epl6), fun q4 hq4 => ?_⟩
    have s4 := Same.new (o := .lst (cutV as (some (i : Int)) none)) hq4
    refine ⟨q3, q4, _, _, rfl, rfl, s4 _ _ upd_same, upd_same, by rw [List.length_append, List.length_singleton]; omega, fun bl hbl => ?_⟩
    have s5 := Same.new (o := .lst (cutV as none (some (i : Int)) ++ [V.ref u] ++ cutV as (some (i : Int)) none)) hbl
    have s15 := s13.trans (s4.trans s5)
    have ebl : ∀ H', H' = upd (upd (upd (upd (upd H6 q1 (.lst (cutV as none (some (i : Int))))) q2 (.lst [V.ref u])) q3 (.lst (cutV as none (some (i : Int)) ++ [V.ref u]))) q4 (.lst (cutV as (some (i : Int)) none))) bl (.lst (cutV as none (some (i : Int)) ++ [V.ref u] ++ cutV as (some (i : Int)) none)) → H' bl = some (.lst (as.take i ++ [V.ref u] ++ as.drop i)) := fun H' e => by rw [e, upd_same, cut_take, cut_drop]
    have hbl6 : H6 bl = none := by
      cases e : H6 bl with
      | none => rfl
      | some o => exact absurd ((s13.trans s4) _ _ e) (by rw [hbl]; exact fun z => nomatch z)
    have e7 := ebl _ rfl
    clear ebl
    generalize upd (upd (upd (upd (upd H6 q1 (.lst (cutV as none (some (i : Int))))) q2 (.lst [V.ref u])) q3 (.lst (cutV as none (some (i : Int)) ++ [V.ref u]))) q4 (.lst (cutV as (some (i : Int)) none))) bl (.lst (cutV as none (some (i : Int)) ++ [V.ref u] ++ cutV as (some (i : Int)) none)) = H7 at e7 s15 ⊢
    have p7 := p6.same s15
    have rw7 : Rw H7 (as.take i ++ [V.ref u] ++ as.drop i) (L.take i ++ [b] ++ L.drop i) := (((rw6.same s15).take i).append (Rw.cons (a := b) (s15 _ _ eu6) Rw.nil)).append ((rw6.same s15).drop i)
    have f07 := f06.trans (Fr.of s15)
    have hbl0 : H bl = none := by
      cases e : H bl with
      | none => rfl
      | some o => exact absurd (f06 _ _ e (fun z => by rw [z] at hbl6; obtain ⟨_, _, _, y, _⟩ := p6; rw [y] at hbl6; cases hbl6) (fun z => by rw [z] at hbl6; obtain ⟨_, _, _, _, y, _⟩ := p6; rw [y] at hbl6; cases hbl6)) (by rw [hbl6]; exact fun z => nomatch z)
    obtain ⟨bnl, bncl⟩ := p6.off hbl6
    have lt : (L.take i).length = i := by rw [List.length_take]; omega
    have gi : (L.take i ++ [b] ++ L.drop i)[i]? = some b := by
      rw [List.append_assoc, List.getElem?_append_right (by omega), lt, Nat.sub_self]
      rfl
    have gj : ∀ (M : List Iv) (j : Nat) b', j < i → (L.take i ++ [b] ++ L.drop i ++ M)[j]? = some b' → OkB hh p b' := fun M j b' hj hb' => by
      rw [List.append_assoc, List.append_assoc, List.getElem?_append_left (by omega)] at hb'
      exact ok b' (List.mem_of_mem_take (List.mem_of_getElem? hb'))
    have lL : (L.take i ++ [b] ++ L.drop i).length ≤ L.length + 1 := by simp; omega
    refine st_shareS (fun σ' H' => σ' = [some (.ref l), some (.int hh), some (.int p), some (.ref pl), some (.int kd), some (.int one), some (.int much), some (.ref u), some (.int (i : Nat)), some (.ref bl)] ∧ ∃ (bs : List V) (L' : List Iv), H' bl = some (.lst bs) ∧ Rw H' bs L' ∧ L'.length ≤ L.length + 2 ∧ L'[i]? = some b ∧ (∀ (j : Nat) b', j < i → L'[j]? = some b' → OkB hh p b') ∧ PoolAt H' l cl (n + 10) ∧ Fr l cl H H') ?_ fun N hN => ?_
    · rintro σ' H8 ⟨rfl, bs, L', e8, rw8, lL', g1, g2, p8, f8⟩
      refine ⟨_, rfl, _, rfl, by show 2 ≤ sizeLine; decide, fun t ht => ?_⟩
      have s8 := Same.new (o := .tup [V.int (i : Nat), V.ref bl]) ht
      exact k t bl bs L' i b _ upd_same (s8 _ _ e8) (rw8.same s8) lL' g1 bb g2 hbl0 (p8.same s8) (f8.trans (Fr.of s8))
    · refine if_draw p7 rfl val_c (by omega) (by decide) (by decide) (fun H8 p8 f8 => ?_) fun H8 p8 f8 => hN _ _ ⟨rfl, _, _, f8 _ _ e7 bnl bncl, rw7.fr f8 p7, by omega, gi, fun j b' hj hb' => gj [] j b' hj (by rw [List.append_nil]; exact hb'), p8.mono (by omega), f07.trans f8⟩
      refine app_pair rfl (f8 _ _ e7 bnl bncl) (by rw [rw7.1]; omega) val_c val_c fun u' H9 eu' e9 b9 hu' => ?_
      refine hN _ _ ⟨rfl, _, _, e9, ((rw7.fr f8 p7).but b9 (f8 _ _ e7 bnl bncl) (by intro xs z; cases z)).snoc (a := (1, 1)) eu', by rw [List.length_append, List.length_singleton]; omega, ?_, gj [(1, 1)], (p8.but b9 bnl.symm bncl.symm).mono (by omega), fun c o e n1 n2 => b9 _ _ ((f07.trans f8) c o e n1 n2) fun z => by rw [z, hbl0] at e; cases e⟩
      rw [List.getElem?_append_left (by have := (List.getElem?_eq_some_iff.mp gi).1; exact this)]
      exact gi
end
end My

namespace My
open PySem L2
theorem Asks.same {a : Ad} {K : PySem.W.Frag} {H H' : Hp} {k : Int} {x y z : V} {e : Er} (h : Asks a K H k x y z e) (s : Same H H') : Asks a K H' k x y z e := by
  cases h with
  | pHead hm hrw hl c => exact .pHead (s.sqA hm) (hrw.same s) hl c
  | pPer hm hrw hl c1 c2 => exact .pPer (s.sqA hm) (hrw.same s) hl c1 c2
  | pMany hm hrw hl c1 c2 c3 => exact .pMany (s.sqA hm) (hrw.same s) hl c1 c2 c3
  | pBad hm hrw c1 c2 c3 hb nb fi => exact .pBad (s.sqA hm) (hrw.same s) c1 c2 c3 hb nb fi
  | oMany hm hl c => exact .oMany (s.sqA hm) hl c
  | oBad hm hl hb nb fi => exact .oBad (s.sqA hm) hl hb nb fi
  | ePer c => exact .ePer c
  | eFirst c1 c2 => exact .eFirst c1 c2
  | sStart c => exact .sStart c
  | sEnd c1 c2 => exact .sEnd c1 c2
  | inn hp p1 p2 c => exact .inn (hp.same s) p1 p2 c
def erD : Er → PyData
  | .rng s v => .tuple [.str "range", .str s, .int v, .bool true]
  | .many s n => .tuple [.str "many", .str s, .int n, .bool true]
  | .bad i => .tuple [.str "bad", .int i, .bool true]
theorem erD_dp {K : PySem.W.Frag} {H : Hp} {t : Addr} (e : Er) (h : H t = some (.tup (erT e))) : Dp K H (.ref t) (erD e) := by
  cases e with
  | rng s v => exact .tup (SqT.of h) (.cons (.str _) (.cons (.str _) (.cons (.int _) (.cons (.bl _) .nil))))
  | many s v => exact .tup (SqT.of h) (.cons (.str _) (.cons (.str _) (.cons (.int _) (.cons (.bl _) .nil))))
  | bad v => exact .tup (SqT.of h) (.cons (.str _) (.cons (.int _) (.cons (.bl _) .nil)))
theorem erD_eqv (e : Er) : PyData.eqv (erD e) (erD e) = true := by
  cases e <;> simp [erD, PyData.eqv, PyData.eqvAll]
/-- a row: a call and what it is told to end in -/
def RowI (a : Ad) (K : PySem.W.Frag) (R : Addr) (H : Hp) (v : V) : Prop := ∃ (t u : Addr) (k : Int) (x y z : V) (e : Er) (Hk : Hp), v = .ref t ∧ H t = some (.tup [.int k, x, y, z, .ref u]) ∧ H u = some (.tup (erT e)) ∧ Hk R = none ∧ Same Hk H ∧ Asks a K Hk k x y z e ∧ SeqAt.shaped (erD e) = true
def RowsN (a : Ad) (K : PySem.W.Frag) (R : Addr) (H : Hp) (N : Nat) : Prop := ∃ items, H R = some (.lst items) ∧ items.length = N ∧ ∀ v ∈ items, RowI a K R H v
theorem RowI.but {a : Ad} {K : PySem.W.Frag} {R : Addr} {H H' : Hp} {v : V} {xs : List V} (r : RowI a K R H v) (b : But R H H') (hR : H R = some (.lst xs)) : RowI a K R H' v := by
  obtain ⟨t, u, k, x, y, z, e, Hk, e1, e2, e3, e4, e5, e6, e7⟩ := r
  exact ⟨t, u, k, x, y, z, e, Hk, e1, b _ _ e2 (ne_of e2 hR (by intro z; cases z)), b _ _ e3 (ne_of e3 hR (by intro z; cases z)), e4, fun c o q => b _ _ (e5 _ _ q) (ne_of_none q e4), e6, e7⟩
theorem RowI.same {a : Ad} {K : PySem.W.Frag} {R : Addr} {H H' : Hp} {v : V} (r : RowI a K R H v) (b : Same H H') : RowI a K R H' v := by
  obtain ⟨t, u, k, x, y, z, e, Hk, e1, e2, e3, e4, e5, e6, e7⟩ := r
  exact ⟨t, u, k, x, y, z, e, Hk, e1, b _ _ e2, b _ _ e3, e4, e5.trans b, e6, e7⟩
section
variable {a : Ad} {K : PySem.W.Frag} {R : Addr} {H : Hp} {σ : St} {Q : VK} {D : Ends} {t0 t1 t2 t3 tu : TE} {k : Int} {x y z : V} {e : Er} {s : Str} {v : Int}
abbrev Inner (tu : TE) (σ : St) (e : Er) : Prop := ∀ H Q', (∀ u H'', H'' u = some (.tup (erT e)) → Same H H'' → Q' (.ref u) H'') → tu σ H Q'
theorem inn4 (hv : ∀ H, Val t0 σ H (.int v)) : Inner (tTup (tCons (tC (.str "range")) (tCons (tC (.str s)) (tCons t0 (tCons (tC (.bl true)) tNil))))) σ (.rng s v) := fun H Q' q => hv H _ ⟨by show 4 ≤ sizeLine; decide, fun u hu => q u _ upd_same (Same.new hu)⟩
theorem inn3 (hv : ∀ H, Val t0 σ H (.int v)) : Inner (tTup (tCons (tC (.str "bad")) (tCons t0 (tCons (tC (.bl true)) tNil)))) σ (.bad v) := fun H Q' q => hv H _ ⟨by show 3 ≤ sizeLine; decide, fun u hu => q u _ upd_same (Same.new hu)⟩
abbrev Third (a : Ad) (K : PySem.W.Frag) (t3 : TE) (σ : St) (H : Hp) (k : Int) (x y : V) (e : Er) (F : Hp → Prop) : Prop := ∀ Q', (∀ z H' Hk, Same H H' → F Hk → Same Hk H' → Asks a K Hk k x y z e → Q' z H') → t3 σ H Q'
theorem third_v {F : Hp → Prop} {Hk : Hp} (h : Val t3 σ H z) (f : F Hk) (s : Same Hk H) (q : Asks a K Hk k x y z e) : Third a K t3 σ H k x y e F := fun Q' w => h _ (w z H Hk (Same.refl _) f s q)
theorem row_tup {F : Hp → Prop} (h0 : Val t0 σ H (.int k)) (h1 : Val t1 σ H x) (h2 : Val t2 σ H y) (h3 : Third a K t3 σ H k x y e F) (hu : Inner tu σ e)
    (q : ∀ t u z H' Hk, H' t = some (.tup [.int k, x, y, z, .ref u]) → H' u = some (.tup (erT e)) → Same H H' → F Hk → Same Hk H' → Asks a K Hk k x y z e → Q (.ref t) H') : tTup (tCons t0 (tCons t1 (tCons t2 (tCons t3 (tCons tu tNil))))) σ H Q :=
  h0 _ (h1 _ (h2 _ (h3 _ fun z H1 Hk s1 f sk ask => hu _ _ fun u H2 eu s2 => ⟨by show 5 ≤ sizeLine; decide, fun t ht => q t u z _ Hk upd_same (Same.new ht _ _ eu) (s1.trans (s2.trans (Same.new ht))) f (sk.trans (s2.trans (Same.new ht))) ask⟩)))
theorem row_app {i N : Nat} (hi : σ[i]? = some (some (V.ref R))) (ro : RowsN a K R H N) (hN : N ≤ 1000) (h0 : Val t0 σ H (.int k)) (h1 : Val t1 σ H x) (h2 : Val t2 σ H y) (h3 : Third a K t3 σ H k x y e fun Hk => Hk R = none) (hu : Inner tu σ e) (sh : SeqAt.shaped (erD e) = true) {H0 : Hp} (hf : H0 R = none) (s0 : Same H0 H)
    (q : ∀ H', RowsN a K R H' (N + 1) → Same H0 H' → D.nx σ H') : tDrop (tBM K "list" rAppend (tVar i) (tCons (tTup (tCons t0 (tCons t1 (tCons t2 (tCons t3 (tCons tu tNil)))))) tNil)) D σ H := by
  obtain ⟨items, eR, hl, all⟩ := ro
  refine app_te hi eR (row_tup h0 h1 h2 h3 hu fun t u z H' Hk et eu s1 f sk ask => ?_)
  have eR1 := s1 _ _ eR
  refine app_is eR1 (by omega) fun H2 e2 b2 => q H2 ⟨_, e2, by simp [hl], fun v hv => ?_⟩ (fun c o ec => b2 _ _ ((s0.trans s1) _ _ ec) (ne_of_none ec hf))
  rcases List.mem_append.mp hv with w | w
  · exact ((all v w).same s1).but b2 eR1
  · obtain rfl := List.mem_singleton.mp w
    exact RowI.but ⟨t, u, k, x, y, z, e, Hk, rfl, et, eu, f, sk, ask, sh⟩ b2 eR1
theorem row_appS {i N : Nat} {t4 : TS} (hi : σ[i]? = some (some (V.ref R))) (ro : RowsN a K R H N) (hN : N ≤ 1000) (h0 : Val t0 σ H (.int k)) (h1 : Val t1 σ H x) (h2 : Val t2 σ H y) (h3 : Third a K t3 σ H k x y e fun Hk => Hk R = none) (hu : Inner tu σ e) (sh : SeqAt.shaped (erD e) = true) {H0 : Hp} (hf : H0 R = none) (s0 : Same H0 H)
    (q : ∀ H', RowsN a K R H' (N + 1) → Same H0 H' → t4 D σ H') : tSeq (tDrop (tBM K "list" rAppend (tVar i) (tCons (tTup (tCons t0 (tCons t1 (tCons t2 (tCons t3 (tCons tu tNil)))))) tNil))) t4 D σ H := st_seq (row_app hi ro hN h0 h1 h2 h3 hu sh hf s0 q)
/-- the first row -/
theorem row_one (h0 : Val t0 σ H (.int k)) (h1 : Val t1 σ H x) (h2 : Val t2 σ H y) (h3 : Third a K t3 σ H k x y e fun _ => True) (hu : Inner tu σ e) (sh : SeqAt.shaped (erD e) = true)
    (q : ∀ R H', H R = none → RowsN a K R H' 1 → Same H H' → Q (.ref R) H') : tLst (tCons (tTup (tCons t0 (tCons t1 (tCons t2 (tCons t3 (tCons tu tNil)))))) tNil) σ H Q :=
  lst1' (row_tup h0 h1 h2 h3 hu fun t u z H' Hk et eu s1 _ sk ask => ⟨by show 1 ≤ sizeLine; decide, fun R hR => by
    have s2 := Same.new (o := .lst [V.ref t]) hR
    have fr : ∀ {H0 : Hp}, Same H0 H' → H0 R = none := fun {H0} s => by
      cases e : H0 R with
      | none => rfl
      | some o => exact absurd (s _ _ e) (by rw [hR]; exact fun z => nomatch z)
    exact q R _ (fr s1) ⟨[.ref t], upd_same, rfl, fun v hv => by
      obtain rfl := List.mem_singleton.mp hv
      exact ⟨t, u, k, x, y, z, e, Hk, rfl, s2 _ _ et, s2 _ _ eu, fr sk, sk.trans s2, ask, sh⟩⟩ (s1.trans s2)⟩)
end
theorem t_op' {r : R2} {ta tb : TE} {σ : St} {H : Hp} {QT : Bool → Hp → Prop} (h : ta σ H fun x H1 => tb σ H1 fun y H2 => r x y H2 fun z H3 => ∃ k, z = .bl k ∧ QT k H3) : tTest (tOp r ta tb) σ H QT := h
/-- all rows are asked -/
theorem rows_loop {a : Ad} {K : PySem.W.Frag} {R : Addr} {H : Hp} {σ : St} {D : Ends} {N i j : Nat} (ro : RowsN a K R H N) (hi : σ[i]? = some (some (V.ref R))) (hj : j < σ.length) (nij : i ≠ j) (q : ∀ H', Same H H' → D.rt (.bl true) H') :
    tSeq (tFor (iList K (tVar i)) (gName j) (tIfS (tTest (tOp (rNeD K) (tCall (spAsked a K) [] E0 (tCons (tOp (rIxT K) (tVar j) (tC (V.int 0))) (tCons (tOp (rIxT K) (tVar j) (tC (V.int 1))) (tCons (tOp (rIxT K) (tVar j) (tC (V.int 2))) (tCons (tOp (rIxT K) (tVar j) (tC (V.int 3))) tNil))))) (tOp (rIxT K) (tVar j) (tC (V.int 4))))) (tRet (tC (V.bl false))) tNext)) (tRet (tC (V.bl true))) D σ H := by
  obtain ⟨items, eR, hl, all⟩ := ro
  refine st_seq (st_forL (a := R) (xs := items) (fun R' w => ⟨_, hi, w⟩) (fun _ σ' H' => σ'[i]? = some (some (V.ref R)) ∧ j < σ'.length ∧ Same H H') ⟨hi, hj, Same.refl _⟩ (fun _ σ' H' _ z => SqL.of (z.2.2 _ _ eR)) ?_ ?_)
  · rintro n v σ' H' hv ⟨z1, z2, z3⟩
    obtain ⟨t, u, k, x, y, z, e, Hk, rfl, et, eu, f, sk, ask, sh⟩ := (all v (List.mem_of_getElem? hv)).same z3
    refine g_name (st_ifX ?_)
    have vj : (σ'.set j (some (V.ref t)))[j]? = some (some (V.ref t)) := by rw [List.getElem?_set_self z2]
    have ix : ∀ (n : Int) (w : V), atI [V.int k, x, y, z, .ref u] n = some w → ∀ {H''}, Same H' H'' → Val (tOp (rIxT K) (tVar j) (tC (V.int n))) (σ'.set j (some (V.ref t))) H'' w := fun n w e H'' s => v_ixT (val_var vj) val_c (SqT.of (s _ _ et)) e
    refine t_op' ?_
    refine ix 0 (V.int k) rfl (Same.refl _) _ (ix 1 x rfl (Same.refl _) _ (ix 2 y rfl (Same.refl _) _ (ix 3 z rfl (Same.refl _) _ ⟨k, x, y, z, e, rfl, ask.same sk, fun t' H'' et' s' => ?_⟩)))
    refine ix 4 (V.ref u) rfl s' _ ⟨erD e, erD e, erD_dp e et', erD_dp e (s' _ _ eu), sh, sh, _, rfl, ?_⟩
    rw [erD_eqv]
    refine iteF ⟨?_, by rw [List.length_set]; exact z2, z3.trans s'⟩
    rw [List.getElem?_set_ne nij.symm]
    exact z1
  · rintro σ' H' ⟨_, _, z3⟩
    exact q H' z3
def spRefused : Sp := fun vs H Q _ => ∃ (l cl : Addr) (n : Nat) (h p : Int) (pl : Addr) (as : List V) (L : List Iv), vs = [.ref l, .int h, .int p, .ref pl] ∧ PoolAt H l cl n ∧ n < 2 ^ 38 ∧ H pl = some (.lst as) ∧ pl ≠ l ∧ pl ≠ cl ∧ Rw H as L ∧ L.length ≤ 100 ∧ 0 ≤ h ∧ h ≤ 10 ^ 12 ∧ 1 ≤ p ∧ p ≤ 10 ^ 12 ∧ (∀ b ∈ L, OkB h p b) ∧
  ∀ H', PoolAt H' l cl (n + 30) → Fr l cl H H' → Q (.bl true) H'
section
variable {P : Program} {w : World} {K : PySem.W.Frag} {mg : Str → Option Value} {base : Heap} {a : Ad}
theorem G__law_refused (T : Tx K mg a) : FnOk P w K mg base CX0 11 a.f__law_refused a.d__law_refused ["pool", "head", "period", "pairs"] spRefused := by
  refine T.F__law_refused.ok sc__law_refused (fun vs H Q E h => ?_) (fun cdv A outer s H vs Q E hr h => ?_)
  · obtain ⟨l, cl, n, hh, p, pl, as, L, rfl, _⟩ := h
    rfl
  · obtain ⟨l, cl, n, hh, p, pl, as, L, rfl, hp, hn, epl, nl, ncl, hrw, hL, h0, h1, p0, p1, ok, k⟩ := h
    refine ⟨_, (pss_cons (ps_set (i := 4) sc__law_refused.nd rfl (Or.inl rfl) (pe_op op_mul (pe_call (G__law_draw T) (hr.mono (by decide)) rfl T.g__law_draw T.F__law_draw.kp T.b__law_draw .nil pass0 (pa_cons (pv 0) (pa_cons pe_int pa_nil))) (pe_call (G__law_draw T) (hr.mono (by decide)) rfl T.g__law_draw T.F__law_draw.kp T.b__law_draw .nil pass0 (pa_cons (pv 0) (pa_cons (pe_op op_pow pe_int pe_int) pa_nil)))))
      (pss_cons (ps_set (i := 5) sc__law_refused.nd rfl (Or.inl rfl) (pe_op op_add (pe_op op_add (pe_op op_pow pe_int pe_int) pe_int) (pv 4)))
      (pss_cons (ps_asg (pe_call (G__law_bent T) (hr.mono (by decide)) rfl T.g__law_bent T.F__law_bent.kp T.b__law_bent .nil pass0 (pa_cons (pv 0) (pa_cons (pv 1) (pa_cons (pv 2) (pa_cons (pv 3) pa_nil))))) (pg_tup rfl (pgs_cons (pg_name (i := 6) sc__law_refused.nd rfl (Or.inl rfl)) (pgs_cons (pg_name (i := 7) sc__law_refused.nd rfl (Or.inl rfl)) pgs_nil))))
      (pss_cons (ps_setLc (i := 8) (own := [("k", 9)]) (g := gName 9) (tt := tYes) rfl sc__law_refused.nd rfl rfl (sw_true rfl rfl rfl (by decide +kernel)) (pi_range1 rfl T.n_range (pa_cons (pe_call (G__law_draw T) (hr.mono (by decide)) rfl T.g__law_draw T.F__law_draw.kp T.b__law_draw .nil pass0 (pa_cons (pv 0) (pa_cons pe_int pa_nil))) pa_nil)) (blkOk_by (own := [("k", 9)]) (N := ["pool", "head", "period", "pairs", "d", "top", "at", "bent", "wrong", "k", "place", "one", "rows", "row"]) (sc := defScope s__law_refused) (by decide +kernel)) (fun _ _ _ _ _ => (pg_name (i := 9) sc__law_refused.nd rfl (Or.inl rfl))) (fun _ _ _ _ _ => pts_nil) (fun _ _ _ _ _ => (pe_call (G__law_draw T) (hr.mono (by decide)) rfl T.g__law_draw T.F__law_draw.kp T.b__law_draw .nil pass0 (pa_cons (pv 0) (pa_cons pe_int pa_nil)))))
      (pss_cons (ps_set (i := 10) sc__law_refused.nd rfl (Or.inl rfl) (pe_call (G__law_draw T) (hr.mono (by decide)) rfl T.g__law_draw T.F__law_draw.kp T.b__law_draw .nil pass0 (pa_cons (pv 0) (pa_cons (pe_op op_add (pe_callB call_len_seq (by rfl) T.n_len (by decide +kernel) (pa_cons (pv 8) pa_nil)) pe_int) pa_nil))))
      (pss_cons (ps_expr (pe_bm PySem.F.plainAttrs_list PySem.F.slot_list_insert PySem.F.type_list_insert mt_insert (pv 8) (pa_cons (pv 10) (pa_cons (pe_ix ix_list (pe_lst (pa_cons (pe_op op_sub (pe_un un_neg pe_int) (pv 4)) (pa_cons (pe_op op_sub (pv 5) pe_int) pa_nil))) (pe_call (G__law_draw T) (hr.mono (by decide)) rfl T.g__law_draw T.F__law_draw.kp T.b__law_draw .nil pass0 (pa_cons (pv 0) (pa_cons pe_int pa_nil))) (fun _ _ => rfl)) pa_nil))))
      (pss_cons (ps_expr (pe_bm PySem.F.plainAttrs_list PySem.F.slot_list_append PySem.F.type_list_append mt_append (pv 8) (pa_cons (pe_un un_neg pe_int) pa_nil)))
      (pss_cons (ps_set (i := 11) sc__law_refused.nd rfl (Or.inl rfl) (pe_op op_add pe_int (pe_call (G__law_draw T) (hr.mono (by decide)) rfl T.g__law_draw T.F__law_draw.kp T.b__law_draw .nil pass0 (pa_cons (pv 0) (pa_cons pe_int pa_nil)))))
      (pss_cons (ps_set (i := 12) sc__law_refused.nd rfl (Or.inl rfl) (pe_lst (pa_cons (pe_tup (pa_cons pe_int (pa_cons (pe_op op_sub (pe_un un_neg pe_int) (pv 4)) (pa_cons (pv 2) (pa_cons (pv 3) (pa_cons (pe_tup (pa_cons pe_str (pa_cons pe_str (pa_cons (pe_op op_sub (pe_un un_neg pe_int) (pv 4)) (pa_cons pe_bl pa_nil))))) pa_nil)))))) pa_nil)))
      (pss_cons (ps_expr (pe_bm PySem.F.plainAttrs_list PySem.F.slot_list_append PySem.F.type_list_append mt_append (pv 12) (pa_cons (pe_tup (pa_cons pe_int (pa_cons (pv 5) (pa_cons (pv 2) (pa_cons (pv 3) (pa_cons (pe_tup (pa_cons pe_str (pa_cons pe_str (pa_cons (pv 5) (pa_cons pe_bl pa_nil))))) pa_nil)))))) pa_nil)))
      (pss_cons (ps_expr (pe_bm PySem.F.plainAttrs_list PySem.F.slot_list_append PySem.F.type_list_append mt_append (pv 12) (pa_cons (pe_tup (pa_cons pe_int (pa_cons (pv 1) (pa_cons (pe_un un_neg (pv 4)) (pa_cons (pv 3) (pa_cons (pe_tup (pa_cons pe_str (pa_cons pe_str (pa_cons (pe_un un_neg (pv 4)) (pa_cons pe_bl pa_nil))))) pa_nil)))))) pa_nil)))
      (pss_cons (ps_expr (pe_bm PySem.F.plainAttrs_list PySem.F.slot_list_append PySem.F.type_list_append mt_append (pv 12) (pa_cons (pe_tup (pa_cons pe_int (pa_cons (pv 1) (pa_cons (pv 5) (pa_cons (pv 3) (pa_cons (pe_tup (pa_cons pe_str (pa_cons pe_str (pa_cons (pv 5) (pa_cons pe_bl pa_nil))))) pa_nil)))))) pa_nil)))
      (pss_cons (ps_expr (pe_bm PySem.F.plainAttrs_list PySem.F.slot_list_append PySem.F.type_list_append mt_append (pv 12) (pa_cons (pe_tup (pa_cons pe_int (pa_cons (pe_op op_sub (pe_un un_neg pe_int) (pv 4)) (pa_cons (pe_un un_neg (pv 4)) (pa_cons (pv 7) (pa_cons (pe_tup (pa_cons pe_str (pa_cons pe_str (pa_cons (pe_op op_sub (pe_un un_neg pe_int) (pv 4)) (pa_cons pe_bl pa_nil))))) pa_nil)))))) pa_nil)))
      (pss_cons (ps_expr (pe_bm PySem.F.plainAttrs_list PySem.F.slot_list_append PySem.F.type_list_append mt_append (pv 12) (pa_cons (pe_tup (pa_cons pe_int (pa_cons (pv 1) (pa_cons (pv 5) (pa_cons (pv 7) (pa_cons (pe_tup (pa_cons pe_str (pa_cons pe_str (pa_cons (pv 5) (pa_cons pe_bl pa_nil))))) pa_nil)))))) pa_nil)))
      (pss_cons (ps_expr (pe_bm PySem.F.plainAttrs_list PySem.F.slot_list_append PySem.F.type_list_append mt_append (pv 12) (pa_cons (pe_tup (pa_cons pe_int (pa_cons (pv 1) (pa_cons (pv 2) (pa_cons (pv 7) (pa_cons (pe_tup (pa_cons pe_str (pa_cons (pv 6) (pa_cons pe_bl pa_nil)))) pa_nil)))))) pa_nil)))
      (pss_cons (ps_expr (pe_bm PySem.F.plainAttrs_list PySem.F.slot_list_append PySem.F.type_list_append mt_append (pv 12) (pa_cons (pe_tup (pa_cons pe_int (pa_cons (pv 1) (pa_cons (pv 2) (pa_cons (pe_callTy call_tuple_of (by rfl) T.n_tuple (by decide +kernel) (pa_cons (pv 7) pa_nil)) (pa_cons (pe_tup (pa_cons pe_str (pa_cons (pv 6) (pa_cons pe_bl pa_nil)))) pa_nil)))))) pa_nil)))
      (pss_cons (ps_expr (pe_bm PySem.F.plainAttrs_list PySem.F.slot_list_append PySem.F.type_list_append mt_append (pv 12) (pa_cons (pe_tup (pa_cons pe_int (pa_cons pe_int (pa_cons pe_int (pa_cons (pv 8) (pa_cons (pe_tup (pa_cons pe_str (pa_cons (pv 10) (pa_cons pe_bl pa_nil)))) pa_nil)))))) pa_nil)))
      (pss_cons (ps_expr (pe_bm PySem.F.plainAttrs_list PySem.F.slot_list_append PySem.F.type_list_append mt_append (pv 12) (pa_cons (pe_tup (pa_cons pe_int (pa_cons (pe_un un_neg (pv 4)) (pa_cons (pv 11) (pa_cons pe_int (pa_cons (pe_tup (pa_cons pe_str (pa_cons pe_str (pa_cons (pe_un un_neg (pv 4)) (pa_cons pe_bl pa_nil))))) pa_nil)))))) pa_nil)))
      (pss_cons (ps_expr (pe_bm PySem.F.plainAttrs_list PySem.F.slot_list_append PySem.F.type_list_append mt_append (pv 12) (pa_cons (pe_tup (pa_cons pe_int (pa_cons (pv 5) (pa_cons (pe_un un_neg pe_int) (pa_cons pe_int (pa_cons (pe_tup (pa_cons pe_str (pa_cons pe_str (pa_cons (pv 5) (pa_cons pe_bl pa_nil))))) pa_nil)))))) pa_nil)))
      (pss_cons (ps_expr (pe_bm PySem.F.plainAttrs_list PySem.F.slot_list_append PySem.F.type_list_append mt_append (pv 12) (pa_cons (pe_tup (pa_cons pe_int (pa_cons (pv 11) (pa_cons (pe_op op_sub (pe_un un_neg pe_int) (pv 4)) (pa_cons pe_int (pa_cons (pe_tup (pa_cons pe_str (pa_cons pe_str (pa_cons (pe_op op_sub (pe_un un_neg pe_int) (pv 4)) (pa_cons pe_bl pa_nil))))) pa_nil)))))) pa_nil)))
      (pss_cons (ps_expr (pe_bm PySem.F.plainAttrs_list PySem.F.slot_list_append PySem.F.type_list_append mt_append (pv 12) (pa_cons (pe_tup (pa_cons pe_int (pa_cons (pv 11) (pa_cons (pv 5) (pa_cons pe_int (pa_cons (pe_tup (pa_cons pe_str (pa_cons pe_str (pa_cons (pv 5) (pa_cons pe_bl pa_nil))))) pa_nil)))))) pa_nil)))
      (pss_cons (ps_expr (pe_bm PySem.F.plainAttrs_list PySem.F.slot_list_append PySem.F.type_list_append mt_append (pv 12) (pa_cons (pe_tup (pa_cons pe_int (pa_cons (pe_op op_sub (pe_un un_neg pe_int) (pv 4)) (pa_cons (pe_op op_sub (pe_un un_neg pe_int) (pv 4)) (pa_cons pe_int (pa_cons (pe_tup (pa_cons pe_str (pa_cons pe_str (pa_cons (pe_op op_sub (pe_un un_neg pe_int) (pv 4)) (pa_cons pe_bl pa_nil))))) pa_nil)))))) pa_nil)))
      (pss_cons (ps_expr (pe_bm PySem.F.plainAttrs_list PySem.F.slot_list_append PySem.F.type_list_append mt_append (pv 12) (pa_cons (pe_tup (pa_cons pe_int (pa_cons (pv 5) (pa_cons (pv 5) (pa_cons pe_int (pa_cons (pe_tup (pa_cons pe_str (pa_cons pe_str (pa_cons (pv 5) (pa_cons pe_bl pa_nil))))) pa_nil)))))) pa_nil)))
      (pss_cons (ps_expr (pe_bm PySem.F.plainAttrs_list PySem.F.slot_list_append PySem.F.type_list_append mt_append (pv 12) (pa_cons (pe_tup (pa_cons pe_int (pa_cons (pv 11) (pa_cons (pe_op op_sub (pe_op op_sub (pv 11) pe_int) (pv 4)) (pa_cons pe_int (pa_cons (pe_tup (pa_cons pe_str (pa_cons pe_str (pa_cons (pe_op op_sub (pe_op op_sub (pv 11) pe_int) (pv 4)) (pa_cons pe_bl pa_nil))))) pa_nil)))))) pa_nil)))
      (pss_cons (ps_expr (pe_bm PySem.F.plainAttrs_list PySem.F.slot_list_append PySem.F.type_list_append mt_append (pv 12) (pa_cons (pe_tup (pa_cons pe_int (pa_cons (pv 11) (pa_cons (pv 5) (pa_cons pe_int (pa_cons (pe_tup (pa_cons pe_str (pa_cons pe_str (pa_cons (pv 5) (pa_cons pe_bl pa_nil))))) pa_nil)))))) pa_nil)))
      (pss_cons (ps_for PassesOwn.never rfl (pi_list (pv 12)) (pg_name (i := 13) sc__law_refused.nd rfl (Or.inl rfl)) (pss_one (ps_if (pt_cmpR (op_neD hr.units) (pe_call (G__law_asked T) (hr.mono (by decide)) rfl T.g__law_asked T.F__law_asked.kp T.b__law_asked .nil pass0 (pa_cons (pe_ix ix_tup (pv 13) pe_int (fun _ _ => rfl)) (pa_cons (pe_ix ix_tup (pv 13) pe_int (fun _ _ => rfl)) (pa_cons (pe_ix ix_tup (pv 13) pe_int (fun _ _ => rfl)) (pa_cons (pe_ix ix_tup (pv 13) pe_int (fun _ _ => rfl)) pa_nil))))) (pe_ix ix_tup (pv 13) pe_int (fun _ _ => rfl)) (nomark _)) (pss_one (ps_ret pe_bl)) pss_nil)))
      (pss_one (ps_ret pe_bl)))))))))))))))))))))))))))), ?_⟩
    refine st_letX (draw hp rfl val_c (by omega) (by decide) (by decide) fun m1 H1 c0 c1 p1' f1 => ?_)
    refine draw p1' rfl (v_rI (g := fun i j => .int (i ^ j.toNat)) val_c val_c ⟨by decide, by decide, by decide⟩) (by omega) (by decide) (by decide) fun m2 H2 d0 d1 p2 f2 => ⟨_, _, rfl, rfl, small2 c0 c1, ?_⟩
    have dd : 0 ≤ m1 * m2 := Int.mul_nonneg c0 d0
    dsimp only
    generalize m1 * m2 = d at dd ⊢
    have e12 : (10 : Int) ^ Int.toNat 12 = 10 ^ 12 := by decide
    refine st_let (v := .int (10 ^ 12 + 1 + d)) (by rw [← e12]; exact v_rI0 (g := fun i j => .int (i + j)) (v_rI0 (g := fun i j => .int (i + j)) (v_rI (g := fun i j => .int (i ^ j.toNat)) val_c val_c ⟨by decide, by decide, by decide⟩) val_c) (val_var rfl)) ?_
    have f02 := f1.trans f2
    have epl2 := f02 _ _ epl nl ncl
    have rw2 := hrw.fr f02 hp
    refine st_seq ⟨_, rfl, _, rfl, _, rfl, _, rfl, l, cl, n + 1 + 1, hh, p, pl, as, L, rfl, p2, by omega, epl2, nl, ncl, rw2, by omega, h0, p0, by omega, ok, fun t bl bs L' i b H3 et ebl rwB lL' g1 bb g2 hbl p3 f3 => ?_⟩
    refine ⟨t, _, rfl, SqT.of et, rfl, _, _, rfl, _, _, rfl, rfl, ?_⟩
    obtain ⟨bnl, bncl⟩ := p2.off hbl
    have f03 := f02.trans f3
    have epl3 := f03 _ _ epl nl ncl
    have rw3 := hrw.fr f03 hp
    have plbl : pl ≠ bl := ne_of_none epl2 hbl
    clear et f1 f2 f3 f02 rw2 epl2 p1' c0 c1 d0 d1
    dsimp only
    refine st_letX (lcR1D (draw p3 rfl val_c (by omega) (by decide) (by decide) fun cnt H4 c0 c1 p4 f4 => lcR1C (by omega) (by omega) ?_))
    refine comp_draws (n := n + 2 + 10 + 1) (c := 1) (Pr := fun d => 0 ≤ d ∧ d < 40) (p4.mono (by omega)) (by omega) (fun _ => rfl) (fun x H k Q' p5 hk q => draw p5 rfl val_c (by omega) (by decide) (by decide) fun d H' d0 d1 p6 f6 => q d H' ⟨d0, d1⟩ p6 f6) fun wl ks H5 hwl ewl lks prs p5 f5 => ?_
    obtain ⟨wnl, wncl⟩ := p4.off hwl
    have f45 := f4.trans f5
    have epl5 := f45 _ _ epl3 nl ncl
    have ebl5 := f45 _ _ ebl bnl bncl
    have rwB5 := rwB.fr f45 p3
    have rw5 := rw3.fr f45 p3
    have f05 := f03.trans f45
    have wlbl : wl ≠ bl := (ne_of_none (f4 _ _ ebl bnl bncl) hwl).symm
    have wlpl : wl ≠ pl := (ne_of_none (f4 _ _ epl3 nl ncl) hwl).symm
    have wl0 : H wl = none := (f03.trans f4).free (hp.mono (by omega : n ≤ n + 1 + 1 + 10 + 1)) hwl p4
    clear f03 f4 f5 f45 epl3 ebl rwB rw3 p3 p4 hwl
    refine st_letX (draw p5 rfl (v_rI0 (g := fun i j => .int (i + j)) (v_cb (v := .int (ks.length : Nat)) (val_var rfl) fun Q q => ⟨wl, _, rfl, Or.inl (SqL.of ewl), by rw [List.length_map]; exact q⟩) val_c) (by omega) (by omega) (by omega) fun place H6 e0 e1 p6 f6 => ?_)
    obtain ⟨j, rfl⟩ : ∃ j : Nat, place = (j : Int) := ⟨place.toNat, by omega⟩
    have ewl6 := f6 _ _ ewl wnl wncl
    refine st_do ⟨_, rfl, tyL ewl6, _, rfl, cons1 (op_te (lst2 (v_rI0 (g := fun i j => .int (i - j)) (v_un (g := fun i => V.int (-i)) val_c) (val_var rfl)) (v_rI0 (g := fun i j => .int (i - j)) (val_var rfl) val_c) fun q hq => ?_))⟩
    have s7 := Same.new (o := .lst [V.int (-1 - d), V.int (10 ^ 12 + 1 + d - 1)]) hq
    obtain ⟨qnl, qncl⟩ := p6.off hq
    refine draw (p6.same s7) rfl val_c (by omega) (by decide) (by decide) fun ix H8 g0 g1' p8 f8 => ?_
    have eq8 := f8 _ _ (upd_same : upd H6 q (.lst [V.int (-1 - d), V.int (10 ^ 12 + 1 + d - 1)]) q = _) qnl qncl
    obtain ⟨y, ey, ybad⟩ : ∃ y : Int, atI [V.int (-1 - d), V.int (10 ^ 12 + 1 + d - 1)] ix = some (.int y) ∧ ¬ (0 ≤ y ∧ y < 10 ^ 12) := by
      by_cases z : ix = 0
      · rw [z]
        exact ⟨-1 - d, rfl, by omega⟩
      · rw [show ix = 1 by omega]
        exact ⟨10 ^ 12 + 1 + d - 1, rfl, by omega⟩
    refine ⟨q, _, ix, _, rfl, rfl, SqL.of eq8, ey, ?_⟩
    have ewl8 := f8 _ _ (s7 _ _ ewl6) wnl wncl
    have f68 := (f6.trans (Fr.of s7)).trans f8
    have big : 1000000 ≤ sizeLine := by decide
    refine ⟨wl, _, j, _, rfl, rfl, ewl8, by rw [List.length_map]; omega, by omega, by omega, ?_⟩
    have b9 : But wl H8 (upd H8 wl (.lst (List.take (j : Int).toNat (ks.map V.int) ++ [V.int y] ++ List.drop (j : Int).toNat (ks.map V.int)))) := (But.refl wl H8).upd
    have ewl9 : upd H8 wl (.lst (List.take (j : Int).toNat (ks.map V.int) ++ [V.int y] ++ List.drop (j : Int).toNat (ks.map V.int))) wl = some (.lst ((ks.take j ++ [y] ++ ks.drop j).map V.int)) := by
      rw [upd_same, show (j : Int).toNat = j from rfl]
      simp
    generalize upd H8 wl (.lst (List.take (j : Int).toNat (ks.map V.int) ++ [V.int y] ++ List.drop (j : Int).toNat (ks.map V.int))) = H9 at b9 ewl9 ⊢
    refine st_seq (app_val rfl ewl9 (by simp; omega) (v_un (g := fun i => V.int (-i)) val_c) fun H10 ewl10 b10 => ?_)
    have b810 := b9.trans b10
    have p10 := p8.but b810 wnl.symm wncl.symm
    refine st_letX (op_c (draw p10 rfl val_c (by omega) (by decide) (by decide) fun one0 H11 o0 o1 p11 f11 => ⟨_, _, rfl, rfl, ?_⟩))
    obtain ⟨one, hone⟩ : ∃ one, one = 1 + one0 := ⟨_, rfl⟩
    dsimp only
    rw [← hone]
    have ewl11 : H11 wl = some (.lst ((ks.take j ++ [y] ++ ks.drop j ++ [-7]).map V.int)) := f11 _ _ (by rw [ewl10, List.map_append (l₂ := [-7])]; rfl) wnl wncl
    have keep : ∀ {b : Addr} {o : HO}, H5 b = some o → b ≠ l → b ≠ cl → b ≠ wl → H11 b = some o := fun e n1 n2 n3 => f11 _ _ (b810 _ _ (f68 _ _ e n1 n2) n3) n1 n2
    have epl11 := keep epl5 nl ncl wlpl.symm
    have ebl11 := keep ebl5 bnl bncl wlbl.symm
    have keepT : ∀ {b : Addr} {xs : List V}, H5 b = some (.tup xs) → H11 b = some (.tup xs) := fun {b xs} e => by
      obtain ⟨_, _, _, y1, y2, _⟩ := p5
      exact keep e (ne_of e y1 (by intro z; cases z)) (ne_of e y2 (by intro z; cases z)) (ne_of e ewl (by intro z; cases z))
    have keepR : ∀ {as : List V} {L : List Iv}, Rw H5 as L → Rw H11 as L := fun h => ⟨h.1, fun i a e => let ⟨t, x, y⟩ := h.2 i a e; ⟨t, x, keepT y⟩⟩
    have rwB11 := keepR rwB5
    have rw11 := keepR rw5
    have f11' : Fr l cl H H11 := fun b o e n1 n2 => keep (f05 _ _ e n1 n2) n1 n2 fun z => by rw [z, wl0] at e; cases e
    clear keep keepT keepR b810 b9 b10 ewl9 ewl10 f68 f6 f8 ewl8 ewl6 eq8 s7 epl5 ebl5 rwB5 rw5 f05 p10 p8 p6
    have wj : (ks.take j ++ [y] ++ ks.drop j ++ [-7])[j]? = some y := by
      have lt : (ks.take j).length = j := by rw [List.length_take]; omega
      rw [List.append_assoc, List.append_assoc, List.getElem?_append_right (by omega), lt, Nat.sub_self]
      rfl
    have wok : ∀ (j' : Nat) b', j' < j → (ks.take j ++ [y] ++ ks.drop j ++ [-7])[j']? = some b' → 0 ≤ b' ∧ b' < 10 ^ 12 := fun j' b' hj hb' => by
      have lt : (ks.take j).length = j := by rw [List.length_take]; omega
      rw [List.append_assoc, List.append_assoc, List.getElem?_append_left (by omega)] at hb'
      have := prs b' (List.mem_of_mem_take (List.mem_of_getElem? hb'))
      omega
    have wlen : (ks.take j ++ [y] ++ ks.drop j ++ [-7]).length ≤ 5000 := by simp; omega
    generalize ks.take j ++ [y] ++ ks.drop j ++ [-7] = ws at ewl11 wj wok wlen
    have hmP : SqA K H11 pl as := Or.inl (SqL.of epl11)
    have rP : RwA K H11 as L := rw11.toA
    have hmB : SqA K H11 bl bs := Or.inl (SqL.of ebl11)
    have rB : RwA K H11 bs L' := rwB11.toA
    have one1 : 1 ≤ one ∧ one ≤ 30 := by omega
    refine st_letX (row_one (a := a) val_c (v_rI0 (g := fun i j => .int (i - j)) (v_un (g := fun i => V.int (-i)) val_c) (val_var rfl)) (val_var rfl) (third_v (Hk := H11) (val_var rfl) trivial (Same.refl _) (.pHead hmP rP (by omega) (by omega))) (inn4 fun H => (v_rI0 (g := fun i j => .int (i - j)) (v_un (g := fun i => V.int (-i)) val_c) (val_var rfl))) (by kernel_rfl) fun R G1 hR r1 s1 => ?_)
    refine (row_appS rfl r1 (by decide) val_c (val_var rfl) (val_var rfl) (third_v (Hk := H11) (val_var rfl) hR s1 (.pHead hmP rP (by omega) (by omega))) (inn4 fun H => (val_var rfl)) (by kernel_rfl) hR s1 fun G2 r2 s2 => ?_)
    refine (row_appS rfl r2 (by decide) val_c (val_var rfl) (v_un (g := fun i => V.int (-i)) (val_var rfl)) (third_v (Hk := H11) (val_var rfl) hR s2 (.pPer hmP rP (by omega) ⟨h0, h1⟩ (by omega))) (inn4 fun H => (v_un (g := fun i => V.int (-i)) (val_var rfl))) (by kernel_rfl) hR s2 fun G3 r3 s3 => ?_)
    refine (row_appS rfl r3 (by decide) val_c (val_var rfl) (val_var rfl) (third_v (Hk := H11) (val_var rfl) hR s3 (.pPer hmP rP (by omega) ⟨h0, h1⟩ (by omega))) (inn4 fun H => (val_var rfl)) (by kernel_rfl) hR s3 fun G4 r4 s4 => ?_)
    refine (row_appS rfl r4 (by decide) val_c (v_rI0 (g := fun i j => .int (i - j)) (v_un (g := fun i => V.int (-i)) val_c) (val_var rfl)) (v_un (g := fun i => V.int (-i)) (val_var rfl)) (third_v (Hk := H11) (val_var rfl) hR s4 (.pHead hmB rB (by omega) (by omega))) (inn4 fun H => (v_rI0 (g := fun i j => .int (i - j)) (v_un (g := fun i => V.int (-i)) val_c) (val_var rfl))) (by kernel_rfl) hR s4 fun G5 r5 s5 => ?_)
    refine (row_appS rfl r5 (by decide) val_c (val_var rfl) (val_var rfl) (third_v (Hk := H11) (val_var rfl) hR s5 (.pPer hmB rB (by omega) ⟨h0, h1⟩ (by omega))) (inn4 fun H => (val_var rfl)) (by kernel_rfl) hR s5 fun G6 r6 s6 => ?_)
    refine (row_appS rfl r6 (by decide) val_c (val_var rfl) (val_var rfl) (third_v (Hk := H11) (val_var rfl) hR s6 (.pBad hmB rB ⟨h0, h1⟩ ⟨p0, p1⟩ (by omega) g1 bb g2)) (inn3 fun H => (val_var rfl)) (by kernel_rfl) hR s6 fun G7 r7 s7 => ?_)
    refine (row_appS rfl r7 (by decide) val_c (val_var rfl) (val_var rfl) (fun Q' w => ⟨_, rfl, bl, bs, rfl, Or.inl ⟨SqL.of (s7 _ _ ebl11), fun tq htq => by
      have tq0 : H11 tq = none := by
        cases e : H11 tq with
        | none => rfl
        | some o => exact absurd (s7 _ _ e) (by rw [htq]; exact fun z => nomatch z)
      have sq := Same.new (o := .tup bs) tq0
      refine w (.ref tq) _ (upd H11 tq (.tup bs)) (Same.new htq) ?_ ?_ (.pBad (Or.inr (SqT.of upd_same)) (rwB11.same sq).toA ⟨h0, h1⟩ ⟨p0, p1⟩ (by omega) g1 bb g2)
      · obtain ⟨items, eR, _⟩ := r7
        rw [upd_ne (fun z => by rw [← z, eR] at htq; cases htq)]
        exact hR
      · intro c o ec
        by_cases z : c = tq
        · rw [z] at ec ⊢
          rw [upd_same] at ec ⊢
          exact ec
        · rw [upd_ne z] at ec ⊢
          exact s7 _ _ ec⟩⟩) (inn3 fun H => (val_var rfl)) (by kernel_rfl) hR s7 fun G8 r8 s8 => ?_)
    refine (row_appS rfl r8 (by decide) val_c val_c val_c (third_v (Hk := H11) (val_var rfl) hR s8 (.oBad (Or.inl (SqL.of ewl11)) wlen wj ybad wok)) (inn3 fun H => (val_var rfl)) (by kernel_rfl) hR s8 fun G9 r9 s9 => ?_)
    refine (row_appS rfl r9 (by decide) val_c (v_un (g := fun i => V.int (-i)) (val_var rfl)) (val_var rfl) (third_v (Hk := H11) val_c hR s9 (.ePer (by omega))) (inn4 fun H => (v_un (g := fun i => V.int (-i)) (val_var rfl))) (by kernel_rfl) hR s9 fun G10 r10 s10 => ?_)
    refine (row_appS rfl r10 (by decide) val_c (val_var rfl) (v_un (g := fun i => V.int (-i)) val_c) (third_v (Hk := H11) val_c hR s10 (.ePer (by omega))) (inn4 fun H => (val_var rfl)) (by kernel_rfl) hR s10 fun G11 r11 s11 => ?_)
    refine (row_appS rfl r11 (by decide) val_c (val_var rfl) (v_rI0 (g := fun i j => .int (i - j)) (v_un (g := fun i => V.int (-i)) val_c) (val_var rfl)) (third_v (Hk := H11) val_c hR s11 (.eFirst (by omega) (by omega))) (inn4 fun H => (v_rI0 (g := fun i j => .int (i - j)) (v_un (g := fun i => V.int (-i)) val_c) (val_var rfl))) (by kernel_rfl) hR s11 fun G12 r12 s12 => ?_)
    refine (row_appS rfl r12 (by decide) val_c (val_var rfl) (val_var rfl) (third_v (Hk := H11) val_c hR s12 (.eFirst (by omega) (by omega))) (inn4 fun H => (val_var rfl)) (by kernel_rfl) hR s12 fun G13 r13 s13 => ?_)
    refine (row_appS rfl r13 (by decide) val_c (v_rI0 (g := fun i j => .int (i - j)) (v_un (g := fun i => V.int (-i)) val_c) (val_var rfl)) (v_rI0 (g := fun i j => .int (i - j)) (v_un (g := fun i => V.int (-i)) val_c) (val_var rfl)) (third_v (Hk := H11) val_c hR s13 (.sStart (by omega))) (inn4 fun H => (v_rI0 (g := fun i j => .int (i - j)) (v_un (g := fun i => V.int (-i)) val_c) (val_var rfl))) (by kernel_rfl) hR s13 fun G14 r14 s14 => ?_)
    refine (row_appS rfl r14 (by decide) val_c (val_var rfl) (val_var rfl) (third_v (Hk := H11) val_c hR s14 (.sStart (by omega))) (inn4 fun H => (val_var rfl)) (by kernel_rfl) hR s14 fun G15 r15 s15 => ?_)
    refine (row_appS rfl r15 (by decide) val_c (val_var rfl) (v_rI0 (g := fun i j => .int (i - j)) (v_rI0 (g := fun i j => .int (i - j)) (val_var rfl) val_c) (val_var rfl)) (third_v (Hk := H11) val_c hR s15 (.sEnd (by omega) (by omega))) (inn4 fun H => (v_rI0 (g := fun i j => .int (i - j)) (v_rI0 (g := fun i j => .int (i - j)) (val_var rfl) val_c) (val_var rfl))) (by kernel_rfl) hR s15 fun G16 r16 s16 => ?_)
    refine (row_appS rfl r16 (by decide) val_c (val_var rfl) (val_var rfl) (third_v (Hk := H11) val_c hR s16 (.sEnd (by omega) (by omega))) (inn4 fun H => (val_var rfl)) (by kernel_rfl) hR s16 fun G17 r17 s17 => ?_)
    exact rows_loop r17 rfl (show 13 < 14 by decide) (by decide) fun H' s' => k H' (((p11.same s17).same s').mono (by omega)) (f11'.trans (Fr.of (s17.trans s')))
end
end My

namespace My
open PySem L2
def spMinutes (a : Ad) : Sp := fun vs H Q _ => ∃ (l cl : Addr) (n : Nat) (x bl : Addr) (hd q : Int) (S : List Iv) (bits : List Bool) (head : Nat) (b : Int), vs = [.ref l, .ref x, .int head, .ref bl, .int b] ∧ PoolAt H l cl n ∧ n < 2 ^ 38 ∧ PatAt a H x hd q S ∧ 1 ≤ q ∧ q ≤ 10 ^ 12 ∧ H bl = some (.lst (bits.map V.bl)) ∧ bl ≠ l ∧ bl ≠ cl ∧ head < bits.length ∧ bits.length ≤ 100 ∧ 1 ≤ b ∧ b ≤ 10 ^ 12 ∧
  (∀ m : Int, (decide (0 ≤ m) && inL S (placeOf hd q m)) = lawIn head bits b m) ∧ ∀ H', PoolAt H' l cl (n + 30) → Fr l cl H H' → Q (.bl true) H'
section
variable {P : Program} {w : World} {K : PySem.W.Frag} {mg : Str → Option Value} {base : Heap} {a : Ad}
theorem G__law_minutes (T : Tx K mg a) : FnOk P w K mg base CX0 11 a.f__law_minutes a.d__law_minutes ["pool", "told", "head", "bits", "by"] (spMinutes a) := by
  refine T.F__law_minutes.ok sc__law_minutes (fun vs H Q E h => ?_) (fun cdv A outer s H vs Q E hr h => ?_)
  · obtain ⟨l, cl, n, x, bl, hd, q, S, bits, head, b, rfl, _⟩ := h
    rfl
  · obtain ⟨l, cl, n, x, bl, hd, q, S, bits, head, b, rfl, hp, hn, hx, q1, q2, hb, bnl, bncl, ln, lz, b1, b2, same, k⟩ := h
    refine ⟨_, (pss_cons (ps_setLc (i := 5) (own := [("t", 6)]) (g := gName 6) (tt := tYes) rfl sc__law_minutes.nd rfl rfl (sw_true rfl rfl rfl (by decide +kernel)) (pi_range1 rfl T.n_range (pa_cons (pe_op op_add (pe_callB call_len_seq (by rfl) T.n_len (by decide +kernel) (pa_cons (pv 3) pa_nil)) pe_int) pa_nil)) (blkOk_by (own := [("t", 6)]) (N := ["pool", "told", "head", "bits", "by", "asked", "t", "k", "beyond"]) (sc := defScope s__law_minutes) (by decide +kernel)) (fun _ _ _ _ _ => (pg_name (i := 6) sc__law_minutes.nd rfl (Or.inl rfl))) (fun _ _ _ _ _ => pts_nil) (fun _ _ _ _ _ => (pe_op op_mul (pv 6) (pv 4))))
      (pss_cons (ps_set (i := 5) sc__law_minutes.nd rfl (Or.inl rfl) (pe_op op_cat (pv 5) (pe_lc (own := [("t", 6)]) (g := gName 6) (tt := tYes) rfl sc__law_minutes.nd (pi_range1 rfl T.n_range (pa_cons (pe_op op_add (pe_callB call_len_seq (by rfl) T.n_len (by decide +kernel) (pa_cons (pv 3) pa_nil)) pe_int) pa_nil)) (blkOk_by (own := [("t", 6)]) (N := ["pool", "told", "head", "bits", "by", "asked", "t", "k", "beyond"]) (sc := defScope s__law_minutes) (by decide +kernel)) (fun _ _ _ _ _ => (pg_name (i := 6) sc__law_minutes.nd rfl (Or.inl rfl))) (fun _ _ _ _ _ => pts_nil) (fun _ _ _ _ _ => (pe_op op_sub (pe_op op_add (pe_op op_mul (pv 6) (pv 4)) (pv 4)) pe_int)))))
      (pss_cons (ps_set (i := 5) sc__law_minutes.nd rfl (Or.inl rfl) (pe_op op_cat (pv 5) (pe_lc (own := [("k", 7)]) (g := gName 7) (tt := tYes) rfl sc__law_minutes.nd (pi_range1 rfl T.n_range (pa_cons pe_int pa_nil)) (blkOk_by (own := [("k", 7)]) (N := ["pool", "told", "head", "bits", "by", "asked", "t", "k", "beyond"]) (sc := defScope s__law_minutes) (by decide +kernel)) (fun _ _ _ _ _ => (pg_name (i := 7) sc__law_minutes.nd rfl (Or.inl rfl))) (fun _ _ _ _ _ => pts_nil) (fun _ _ _ _ _ => (pe_call (G__law_far T) (hr.mono (by decide)) rfl T.g__law_far T.F__law_far.kp T.b__law_far .nil pass0 (pa_cons (pv 0) pa_nil))))))
      (pss_cons (ps_for PassesOwn.never rfl (pi_list (pe_op op_cat (pv 5) (pe_lst (pa_cons (pe_op op_pow pe_int pe_int) (pa_cons (pe_un un_neg (pe_op op_pow pe_int pe_int)) (pa_cons (pe_un un_neg pe_int) pa_nil)))))) (pg_name (i := 6) sc__law_minutes.nd rfl (Or.inl rfl)) (pss_one (ps_if (pt_cmpR op_ne (pe_cmpR (op_inOwn T.m_Pattern_contains (G_Pattern_contains T) (hr.mono (by decide)) T.b_Pattern_contains passL) (pv 6) (pv 1) (by rfl)) (pe_call (G__law_is_in T) (hr.mono (by decide)) rfl T.g__law_is_in T.F__law_is_in.kp T.b__law_is_in .nil pass0 (pa_cons (pv 2) (pa_cons (pv 3) (pa_cons (pv 4) (pa_cons (pv 6) pa_nil))))) (nomark _)) (pss_one (ps_ret pe_bl)) pss_nil)))
      (pss_cons (ps_set (i := 8) sc__law_minutes.nd rfl (Or.inl rfl) (pe_op op_add (pe_op op_add (pe_op op_pow pe_int pe_int) pe_int) (pe_op op_mul (pe_call (G__law_draw T) (hr.mono (by decide)) rfl T.g__law_draw T.F__law_draw.kp T.b__law_draw .nil pass0 (pa_cons (pv 0) (pa_cons pe_int pa_nil))) (pe_call (G__law_draw T) (hr.mono (by decide)) rfl T.g__law_draw T.F__law_draw.kp T.b__law_draw .nil pass0 (pa_cons (pv 0) (pa_cons (pe_op op_pow pe_int pe_int) pa_nil))))))
      (pss_cons (ps_for PassesOwn.never rfl (pi_list (pe_lst (pa_cons (pv 8) (pa_cons (pe_un un_neg (pv 8)) pa_nil)))) (pg_name (i := 6) sc__law_minutes.nd rfl (Or.inl rfl)) (pss_one (ps_if (pt_cmpR (op_neD hr.units) (pe_call (G__law_asked T) (hr.mono (by decide)) rfl T.g__law_asked T.F__law_asked.kp T.b__law_asked .nil pass0 (pa_cons pe_int (pa_cons (pv 6) (pa_cons pe_int (pa_cons (pv 1) pa_nil))))) (pe_tup (pa_cons pe_str (pa_cons pe_str (pa_cons (pv 6) (pa_cons pe_bl pa_nil))))) (nomark _)) (pss_one (ps_ret pe_bl)) pss_nil)))
      (pss_one (ps_ret pe_bl)))))))), ?_⟩
    have vl : ∀ {H' : Hp} {σ : St}, H' bl = some (.lst (bits.map V.bl)) → σ[3]? = some (some (V.ref bl)) → Val (tCB (fun xs H_1 Q => ∃ p ys, xs = [V.ref p] ∧ (SqL K H_1 p ys ∨ SqT K H_1 p ys) ∧ Q (V.int ↑ys.length) H_1) (tCons (tVar 3) tNil)) σ H' (.int (bits.length : Nat)) := fun h e => v_cb (val_var e) fun Q q => ⟨bl, _, rfl, Or.inl (SqL.of h), by rw [List.length_map]; exact q⟩
    have okv : ∀ i : Nat, i < bits.length + 2 → (i : Int) * b ≤ 102 * 10 ^ 12 ∧ 0 ≤ (i : Int) * b := fun i hi => ⟨Int.mul_le_mul (by omega) b2 (by omega) (by omega), Int.mul_nonneg (by omega) (by omega)⟩
    have cnt : ((bits.length : Nat) : Int) + 2 = ((bits.length + 2 : Nat) : Int) := by omega
    have bnd : -1000000 ≤ ((bits.length : Nat) : Int) + 2 ∧ ((bits.length : Nat) : Int) + 2 ≤ 1000000 := by omega
    refine st_letX (lcR1V (v_rI0 (g := fun i j => .int (i + j)) (vl hb rfl) val_c) bnd.1 bnd.2 ?_)
    rw [cnt]
    refine comp_vals (n := bits.length + 2) (by omega) (fun _ => rfl) (fun i => .int ((i : Int) * b)) (fun i H' hi s => v_rI (g := fun i j => .int (i * j)) (val_var rfl) (val_var rfl) (Or.inl ⟨by omega, by omega⟩)) fun a1 H1 ha1 e1 s1 => ?_
    refine st_letX (op_v (val_var rfl) (lcR1V (v_rI0 (g := fun i j => .int (i + j)) (vl (s1 _ _ hb) rfl) val_c) bnd.1 bnd.2 ?_))
    rw [cnt]
    refine comp_vals (n := bits.length + 2) (by omega) (fun _ => rfl) (fun i => .int ((i : Int) * b + b - 1)) (fun i H' hi s => v_rI0 (g := fun i j => .int (i - j)) (v_rI0 (g := fun i j => .int (i + j)) (v_rI (g := fun i j => .int (i * j)) (val_var rfl) (val_var rfl) (Or.inl ⟨by omega, by omega⟩)) (val_var rfl)) val_c) fun a2 H2 ha2 e2 s2 => ?_
    refine cat_is (s2 _ _ e1) e2 (by simp; omega) fun a3 ha3 => ?_
    obtain ⟨A3, eA3⟩ : ∃ A3 : List V, A3 = (List.range (bits.length + 2)).map (fun (i : Nat) => V.int ((i : Int) * b)) ++ (List.range (bits.length + 2)).map (fun (i : Nat) => V.int ((i : Int) * b + b - 1)) := ⟨_, rfl⟩
    have ok3 : ∀ v ∈ A3, ∃ z, v = V.int z ∧ -(10 ^ 40) ≤ z ∧ z ≤ 10 ^ 40 := fun v hv => by
      rw [eA3] at hv
      rcases List.mem_append.mp hv with h | h
      · obtain ⟨i, hi, rfl⟩ := List.mem_map.mp h
        have := okv i (List.mem_range.mp hi)
        exact ⟨_, rfl, by omega, by omega⟩
      · obtain ⟨i, hi, rfl⟩ := List.mem_map.mp h
        have := okv i (List.mem_range.mp hi)
        exact ⟨_, rfl, by omega, by omega⟩
    have l3 : A3.length = 2 * (bits.length + 2) := by rw [eA3]; simp; omega
    rw [← eA3]
    have s3 := Same.new (o := .lst A3) ha3
    have s03 := s1.trans (s2.trans s3)
    have e3 : upd H2 a3 (.lst A3) a3 = some (.lst A3) := upd_same
    have off3 : a3 ≠ l ∧ a3 ≠ cl := (hp.same (s1.trans s2)).off ha3
    generalize upd H2 a3 (.lst A3) = H3 at s03 e3 ⊢
    clear s3 ha3 s2 s1 e2 e1 ha2 ha1 eA3
    have p3 := hp.same s03
    refine st_letX (op_v (val_var rfl) (lcR1C (i := 6) (by decide) (by decide) ?_))
    refine comp_draws (n := n) (c := 3) (cnt := 6) (Pr := okF) p3 (by decide) (fun _ => rfl) (fun x H k Q' p4 hk w => ⟨_, rfl, l, cl, k, rfl, p4, by omega, fun d H' o p5 f5 => w d H' o p5 f5⟩) fun a4 ks H4 ha4 e4 lks prs p4 f4 => ?_
    have e34 := f4 _ _ e3 off3.1 off3.2
    refine cat_is e34 e4 (by rw [List.length_map]; omega) fun a5 ha5 => ?_
    have s5 := Same.new (o := .lst (A3 ++ ks.map V.int)) ha5
    have e5 : upd H4 a5 (.lst (A3 ++ ks.map V.int)) a5 = some (.lst (A3 ++ ks.map V.int)) := upd_same
    have f05 : Fr l cl H (upd H4 a5 (.lst (A3 ++ ks.map V.int))) := ((Fr.of s03).trans f4).trans (Fr.of s5)
    have p5 := p4.same s5
    generalize upd H4 a5 (.lst (A3 ++ ks.map V.int)) = H5 at s5 e5 f05 p5 ⊢
    have ok5 : ∀ v ∈ A3 ++ ks.map V.int, ∃ z, v = V.int z ∧ -(10 ^ 40) ≤ z ∧ z ≤ 10 ^ 40 := fun v hv => by
      rcases List.mem_append.mp hv with h | h
      · exact ok3 v h
      · obtain ⟨z, hz, rfl⟩ := List.mem_map.mp h
        have := prs z hz
        exact ⟨z, rfl, by have := this.1; omega, this.2⟩
    have l5 : (A3 ++ ks.map V.int).length ≤ 1000 := by rw [List.length_append, List.length_map]; omega
    generalize A3 ++ ks.map V.int = A5 at e5 ok5 l5
    clear ok3 l3 s03 e3 off3 p3 e4 lks prs p4 f4 e34 ha5 s5
    have hb5 := f05 _ _ hb bnl bncl
    obtain ⟨dx, st, bs, u, hx0, est, rws, eu, td, lS⟩ := id hx
    have pat5 : PatAt a H5 x hd q S := ⟨dx, st, bs, u, f05.keep hp hx0 (by intro xs z; cases z), f05.tup hp est, rws.fr f05 hp, f05.tup hp eu, td, lS⟩
    have x5 := f05.keep hp hx0 (by intro xs z; cases z)
    have e40 : (10 : Int) ^ Int.toNat 40 = 10 ^ 40 := by decide
    have v40 : ∀ {σ : St} {H : Hp}, Val (tOp (rI CPow fun i j => .int (i ^ j.toNat)) (tC (.int 10)) (tC (.int 40))) σ H (.int (10 ^ 40)) := fun {σ H} => by
      rw [← e40]
      exact v_rI (g := fun i j => .int (i ^ j.toNat)) val_c val_c ⟨by decide, by decide, by decide⟩
    refine st_seq (st_forX (op_v (val_var rfl) ?_))
    refine lst3 v40 (v_un (g := fun i => V.int (-i)) v40) (v_un (g := fun i => V.int (-i)) val_c) fun a6 ha6 => ?_
    have s6 := Same.new (o := .lst [V.int (10 ^ 40), V.int (-(10 ^ 40)), V.int (-1)]) ha6
    refine cat_is (s6 _ _ e5) upd_same (by show A5.length + 3 ≤ 1000000; omega) fun a7 ha7 => ?_
    have s7 := Same.new (o := .lst (A5 ++ [V.int (10 ^ 40), V.int (-(10 ^ 40)), V.int (-1)])) ha7
    have s57 := s6.trans s7
    have e7 : upd (upd H5 a6 (.lst [V.int (10 ^ 40), V.int (-(10 ^ 40)), V.int (-1)])) a7 (.lst (A5 ++ [V.int (10 ^ 40), V.int (-(10 ^ 40)), V.int (-1)])) a7 = some (.lst (A5 ++ [V.int (10 ^ 40), V.int (-(10 ^ 40)), V.int (-1)])) := upd_same
    have ok7 : ∀ v ∈ A5 ++ [V.int (10 ^ 40), V.int (-(10 ^ 40)), V.int (-1)], ∃ z, v = V.int z ∧ -(10 ^ 40) ≤ z ∧ z ≤ 10 ^ 40 := fun v hv => by
      rcases List.mem_append.mp hv with h | h
      · exact ok5 v h
      · simp only [List.mem_cons, List.not_mem_nil, or_false] at h
        rcases h with rfl | rfl | rfl
        · exact ⟨_, rfl, by omega, by omega⟩
        · exact ⟨_, rfl, by omega, by omega⟩
        · exact ⟨_, rfl, by omega, by omega⟩
    generalize upd (upd H5 a6 (.lst [V.int (10 ^ 40), V.int (-(10 ^ 40)), V.int (-1)])) a7 (.lst (A5 ++ [V.int (10 ^ 40), V.int (-(10 ^ 40)), V.int (-1)])) = H7 at s57 e7 ⊢
    generalize A5 ++ [V.int (10 ^ 40), V.int (-(10 ^ 40)), V.int (-1)] = A7 at e7 ok7 ⊢
    clear s6 s7 ha7 ha6 e5 ok5 l5
    have hb7 := s57 _ _ hb5
    have x7 := s57 _ _ x5
    have pat7 := pat5.same s57
    refine st_forL (a := a7) (xs := A7) (fun R w => w) (fun i σ' H' => ∃ v6 v7, σ' = [some (.ref l), some (.ref x), some (.int head), some (.ref bl), some (.int b), some (.ref a5), v6, v7, none] ∧ H' = H7) ⟨_, _, rfl, rfl⟩ (fun i σ' H' _ ⟨_, _, _, z⟩ => by rw [z]; exact SqL.of e7) ?_ ?_
    · rintro i v σ' H' hv ⟨v6, v7, rfl, rfl⟩
      obtain ⟨m, rfl, m0, m1⟩ := ok7 v (List.mem_of_getElem? hv)
      refine g_name ?_
      have vin : ∀ {σ : St}, σ[6]? = some (some (V.int m)) → σ[1]? = some (some (V.ref x)) → Val (tOp (rInOwn a.c_Pattern (spIn a) E0 false) (tVar 6) (tVar 1)) σ H' (.bl (lawIn head bits b m)) := fun e6 e1 Q w => ⟨_, e6, _, e1, x, dx, _, rfl, x7, x, hd, q, S, m, rfl, pat7, q1, q2, fun z => absurd ⟨m0, m1⟩ z, fun _ => ⟨_, rfl, by rw [same m]; exact w⟩⟩
      have vlw : ∀ {σ : St}, σ[2]? = some (some (V.int head)) → σ[3]? = some (some (V.ref bl)) → σ[4]? = some (some (V.int b)) → σ[6]? = some (some (V.int m)) → Val (tCall spIsIn [] E0 (tCons (tVar 2) (tCons (tVar 3) (tCons (tVar 4) (tCons (tVar 6) tNil))))) σ H' (.bl (lawIn head bits b m)) := fun e2 e3 e4 e6 Q w => ⟨_, e2, _, e3, _, e4, _, e6, bl, bits, head, b, m, rfl, hb7, ln, by omega, b1, b2, w⟩
      refine st_ifp (q := False) (ans_ne (b := false) (vin (by rfl) (by rfl)) (vlw (by rfl) (by rfl) (by rfl) (by rfl)) rfl (by rw [dec_bl]; cases lawIn head bits b m <;> rfl)) (by simp) (fun z => z.elim) fun _ => ⟨_, _, rfl, rfl⟩
    rintro σ' H' ⟨v6, v7, rfl, rfl⟩
    dsimp only
    have p7 := p5.same s57
    refine st_letX (op_v (v_rI0 (g := fun i j => .int (i + j)) v40 val_c) (draw p7 rfl val_c (by omega) (by decide) (by decide) fun m1 H8 c0 c1 p8 f8 => ?_))
    refine draw p8 rfl (v_rI (g := fun i j => .int (i ^ j.toNat)) val_c val_c ⟨by decide, by decide, by decide⟩) (by omega) (by decide) (by decide) fun m2 H9 d0 d1 p9 f9 => ⟨_, _, rfl, rfl, small2 c0 c1, _, _, rfl, rfl, ?_⟩
    have mu : 0 ≤ m1 * m2 := Int.mul_nonneg c0 d0
    dsimp only
    generalize m1 * m2 = much at mu ⊢
    have f79 := f8.trans f9
    have x9 := f79.keep p7 x7 (by intro xs z; cases z)
    obtain ⟨_, _, _, _, _, est7, rws7, eu7, _, _⟩ := id pat7
    have f09 := (f05.trans (Fr.of s57)).trans f79
    have pat9 : PatAt a H9 x hd q S := ⟨dx, st, bs, u, f09.keep hp hx0 (by intro xs z; cases z), f09.tup hp est, rws.fr f09 hp, f09.tup hp eu, td, lS⟩
    refine st_seq (st_forX (lst2 (val_var rfl) (v_un (g := fun i => V.int (-i)) (val_var rfl)) fun a8 ha8 => ?_))
    have s8 := Same.new (o := .lst [V.int (10 ^ 40 + 1 + much), V.int (-(10 ^ 40 + 1 + much))]) ha8
    have e8 : upd H9 a8 (.lst [V.int (10 ^ 40 + 1 + much), V.int (-(10 ^ 40 + 1 + much))]) a8 = some (.lst [V.int (10 ^ 40 + 1 + much), V.int (-(10 ^ 40 + 1 + much))]) := upd_same
    have pat10 := pat9.same s8
    have p10 := p9.same s8
    have f10 := f09.trans (Fr.of s8)
    generalize upd H9 a8 (.lst [V.int (10 ^ 40 + 1 + much), V.int (-(10 ^ 40 + 1 + much))]) = H10 at e8 pat10 p10 f10 ⊢
    refine st_forL (a := a8) (xs := [V.int (10 ^ 40 + 1 + much), V.int (-(10 ^ 40 + 1 + much))]) (fun R w => w) (fun i σ' H' => ∃ v6, σ' = [some (.ref l), some (.ref x), some (.int head), some (.ref bl), some (.int b), some (.ref a5), v6, v7, some (.int (10 ^ 40 + 1 + much))] ∧ Same H10 H') ⟨_, rfl, Same.refl _⟩ (fun i σ' H' _ ⟨_, _, z⟩ => SqL.of (z _ _ e8)) ?_ ?_
    · rintro i v σ' H' hv ⟨v6, rfl, s'⟩
      obtain ⟨m, rfl, hm⟩ : ∃ m, v = V.int m ∧ ¬ (-(10 ^ 40) ≤ m ∧ m ≤ 10 ^ 40) := by
        rcases i with _ | _ | i
        · cases hv; exact ⟨_, rfl, by omega⟩
        · cases hv; exact ⟨_, rfl, by omega⟩
        · simp at hv
      refine g_name (st_ifX (t_op' ?_))
      refine ⟨_, rfl, _, rfl, 4, .int m, .int 0, .ref x, .rng "minute" m, rfl, .inn (pat10.same s') q1 q2 hm, fun t H'' et s'' => ?_⟩
      refine ⟨_, rfl, by show 4 ≤ sizeLine; decide, fun t2 ht2 => ?_⟩
      have s3 := Same.new (o := .tup [V.str "range", .str "minute", .int m, .bl true]) ht2
      have sh : SeqAt.shaped (erD (.rng "minute" m)) = true := by kernel_rfl
      refine ⟨erD (.rng "minute" m), erD (.rng "minute" m), erD_dp _ (s3 _ _ et), erD_dp (.rng "minute" m) upd_same, sh, sh, _, rfl, ?_⟩
      rw [erD_eqv]
      exact iteF ⟨_, rfl, s'.trans (s''.trans s3)⟩
    rintro σ' H' ⟨v6, rfl, s'⟩
    exact k H' ((p10.same s').mono (by omega)) (f10.trans (Fr.of s'))
end
end My

namespace My
open PySem L2
def idata (ks : List Int) : List PyData := ks.map .int
theorem ints_all {K : PySem.W.Frag} {H : Hp} : ∀ ks : List Int, DpAll K H (ks.map V.int) (idata ks)
  | [] => .nil
  | k :: r => .cons (.int k) (ints_all r)
theorem idata_eq : ∀ ks : List Int, PyData.eqvAll (idata ks) (idata ks) = true
  | [] => by rw [idata, List.map_nil, PyData.eqvAll]
  | k :: r => by
    have i := idata_eq r
    unfold idata at i ⊢
    rw [List.map_cons, PyData.eqvAll, PyData.eqv, i]
    simp
theorem idata_lay : ∀ ks : List Int, PyData.canLayAll0 (idata ks) = true
  | [] => by simp [idata, PyData.canLayAll0]
  | k :: r => by
    have i := idata_lay r
    unfold idata at i ⊢
    rw [List.map_cons, PyData.canLayAll0, PyData.canLay0, i]
    simp
theorem idata_depth : ∀ ks : List Int, PyData.depthAll (idata ks) ≤ 1
  | [] => by simp [idata, PyData.depthAll]
  | k :: r => by
    have i := idata_depth r
    unfold idata at i ⊢
    simp only [List.map_cons, PyData.depthAll, PyData.depth]
    omega
theorem idata_shaped (ks : List Int) : SeqAt.shaped (.list (idata ks)) = true := by
  have h1 := idata_depth ks
  have h2 : PyData.depth (.list (idata ks)) ≤ 64 := by
    simp only [PyData.depth]
    omega
  show (PyData.canLay0 (.list (idata ks)) && decide (PyData.depth (.list (idata ks)) ≤ 64)) = true
  rw [Bool.and_eq_true]
  exact ⟨by simp only [PyData.canLay0]; exact idata_lay ks, decide_eq_true h2⟩
theorem in_ints {ks : List Int} {k : Int} : inV (.int k) (ks.map V.int) = decide (k ∈ ks) := by
  have e : ∀ b : Bool, (b = true ↔ k ∈ ks) → b = decide (k ∈ ks) := fun b h => by
    cases b with
    | true => exact (decide_eq_true (h.mp rfl)).symm
    | false => exact (decide_eq_false fun z => by have := h.mpr z; cases this).symm
  refine e _ ?_
  unfold inV
  rw [List.any_map, List.any_eq_true]
  constructor
  · rintro ⟨x, hx, h⟩
    have h : ((x : Int) == (k : Int)) = true := h
    rw [← eq_of_beq h]
    exact hx
  · intro h
    exact ⟨k, h, by show ((k : Int) == (k : Int)) = true; simp⟩
/-- a pattern with its form -/
theorem PatAt.fr {a : Ad} {H H' : Hp} {x l cl : Addr} {n : Nat} {h q : Int} {S : List Iv} (c : PatAt a H x h q S) (f : Fr l cl H H') (p : PoolAt H l cl n) : PatAt a H' x h q S :=
  let ⟨dx, t, bs, u, e1, e2, e3, e4, e5, e6⟩ := c; ⟨dx, t, bs, u, f.keep p e1 (by intro xs z; cases z), f.tup p e2, e3.fr f p, f.tup p e4, e5, e6⟩
/-- what _law_has answers -/
theorem PatAt.but {a : Ad} {H H' : Hp} {x b : Addr} {h q : Int} {S : List Iv} {xs : List V} (c : PatAt a H x h q S) (f : But b H H') (e : H b = some (.lst xs)) : PatAt a H' x h q S :=
  let ⟨dx, t, bs, u, e1, e2, e3, e4, e5, e6⟩ := c; ⟨dx, t, bs, u, f _ _ e1 (ne_of e1 e (by intro z; cases z)), f _ _ e2 (ne_of e2 e (by intro z; cases z)), e3.but f e (by intro xs z; cases z), f _ _ e4 (ne_of e4 e (by intro z; cases z)), e5, e6⟩
theorem s_has {a : Ad} {σ : St} {H : Hp} {ta tb : TE} {x t rl : Addr} {h p : Int} {L : List Iv} (ha : Val ta σ H (.ref x)) (hb : Val tb σ H (.ref t)) (hp : PatAt a H x h p L) (hf : FmAt H t rl h p L) : Sure (tB (tCall (spHas a) [] E0 (tCons ta (tCons tb tNil)))) σ H := fun QT q =>
  ha _ (hb _ ⟨x, t, rl, h, p, L, rfl, hp, hf, fun H' s => ⟨_, rfl, q H' s⟩⟩)
/-- m in a pattern -/
theorem v_inP {a : Ad} {σ : St} {H : Hp} {ta tb : TE} {x : Addr} {h q m : Int} {S : List Iv} (c : PatAt a H x h q S) (q1 : 1 ≤ q) (q2 : q ≤ 10 ^ 12) (ha : Val ta σ H (.int m)) (hb : Val tb σ H (.ref x)) (m0 : -(10 ^ 40) ≤ m) (m1 : m ≤ 10 ^ 40) : Val (tOp (rInOwn a.c_Pattern (spIn a) E0 false) ta tb) σ H (.bl (decide (0 ≤ m) && inL S (placeOf h q m))) := fun Q w => by
  obtain ⟨dx, st, bs, u, hx, _⟩ := id c
  exact ha _ (hb _ ⟨x, dx, _, rfl, hx, x, h, q, S, m, rfl, c, q1, q2, fun z => absurd ⟨m0, m1⟩ z, fun _ => ⟨_, rfl, w⟩⟩)
theorem v_ninP {a : Ad} {σ : St} {H : Hp} {ta tb : TE} {x : Addr} {h q m : Int} {S : List Iv} (c : PatAt a H x h q S) (q1 : 1 ≤ q) (q2 : q ≤ 10 ^ 12) (ha : Val ta σ H (.int m)) (hb : Val tb σ H (.ref x)) (m0 : -(10 ^ 40) ≤ m) (m1 : m ≤ 10 ^ 40) : Val (tOp (rInOwn a.c_Pattern (spIn a) E0 true) ta tb) σ H (.bl (!(decide (0 ≤ m) && inL S (placeOf h q m)))) := fun Q w => by
  obtain ⟨dx, st, bs, u, hx, _⟩ := id c
  exact ha _ (hb _ ⟨x, dx, _, rfl, hx, x, h, q, S, m, rfl, c, q1, q2, fun z => absurd ⟨m0, m1⟩ z, fun _ => ⟨_, rfl, w⟩⟩)
theorem v_has {a : Ad} {σ : St} {H : Hp} {ta tb : TE} {x t rl : Addr} {h p : Int} {L : List Iv} {QT : Bool → Hp → Prop} (ha : Val ta σ H (.ref x)) (hb : Val tb σ H (.ref t)) (hp : PatAt a H x h p L) (hf : FmAt H t rl h p L) (q : ∀ H', Same H H' → QT true H') : tB (tCall (spHas a) [] E0 (tCons ta (tCons tb tNil))) σ H QT :=
  ha _ (hb _ ⟨x, t, rl, h, p, L, rfl, hp, hf, fun H' s => ⟨_, rfl, q H' s⟩⟩)
theorem idata_eqv (ks : List Int) : PyData.eqv (.list (idata ks)) (.list (idata ks)) = true := by
  rw [PyData.eqv]
  exact idata_eq ks
theorem ints_flat (ks : List Int) : (ks.map V.int).all flatV = true := by
  rw [List.all_eq_true]
  intro v hv
  obtain ⟨k, _, rfl⟩ := List.mem_map.mp hv
  rfl
/-- the form of a pattern is known -/
theorem mkForm {a : Ad} {H : Hp} {P : Int → Prop} {h p : Int} {L : List Iv} {Q : VK} (c : Canon P h p L) (k : ∀ x H', PatAt a H' x h p L → Same H H' → Q (.ref x) H') : NewPat a H P Q := fun x hd q S H' can pat s => by
  obtain ⟨rfl, rfl, rfl⟩ := can.unique c
  exact k x H' pat s
abbrev Mk (a : Ad) (te : TE) (σ : St) (H : Hp) (h p : Int) (L : List Iv) : Prop := ∀ R : VK, (∀ x H', PatAt a H' x h p L → Same H H' → R (.ref x) H') → te σ H R
theorem Mk.var {a : Ad} {σ : St} {H : Hp} {i : Nat} {x : Addr} {h p : Int} {L : List Iv} (hi : σ[i]? = some (some (V.ref x))) (c : PatAt a H x h p L) : Mk a (tVar i) σ H h p L := fun R r => ⟨_, hi, r _ _ c (Same.refl _)⟩
/-- _law_has(e, (h, p, [(x, y)])) -/
theorem hasT {a : Ad} {σ : St} {H : Hp} {Q : VK} {te t1 t2 t3 t4 : TE} {h p x y : Int} (m : Mk a te σ H h p [(x, y)]) (h1 : ∀ H, Val t1 σ H (.int h)) (h2 : ∀ H, Val t2 σ H (.int p)) (h3 : ∀ H, Val t3 σ H (.int x)) (h4 : ∀ H, Val t4 σ H (.int y)) (q : ∀ H', Same H H' → Q (.bl true) H') :
    tCall (spHas a) [] E0 (tCons te (tCons (tTup (tCons t1 (tCons t2 (tCons (tLst (tCons (tTup (tCons t3 (tCons t4 tNil))) tNil)) tNil)))) tNil)) σ H Q := by
  refine m _ fun u H1 pat s1 => h1 _ _ (h2 _ _ (lst_pair (h3 _) (h4 _) fun rl v H2 er ev hr s2 => ⟨by show 3 ≤ sizeLine; decide, fun t ht => ?_⟩))
  have s3 := Same.new (o := .tup [.int h, .int p, .ref rl]) ht
  exact ⟨u, t, rl, h, p, [(x, y)], rfl, (pat.same s2).same s3, ⟨[.ref v], upd_same, s3 _ _ er, Rw.cons (s3 _ _ ev) Rw.nil⟩, fun H' s => q H' (((s1.trans s2).trans s3).trans s)⟩
theorem hasE {a : Ad} {σ : St} {H : Hp} {Q : VK} {te t1 t2 : TE} {h p : Int} (m : Mk a te σ H h p []) (h1 : ∀ H, Val t1 σ H (.int h)) (h2 : ∀ H, Val t2 σ H (.int p)) (q : ∀ H', Same H H' → Q (.bl true) H') :
    tCall (spHas a) [] E0 (tCons te (tCons (tTup (tCons t1 (tCons t2 (tCons (tLst tNil) tNil)))) tNil)) σ H Q := by
  refine m _ fun u H1 pat s1 => h1 _ _ (h2 _ _ ⟨by show 0 ≤ sizeLine; decide, fun rl hrl => ⟨by show 3 ≤ sizeLine; decide, fun t ht => ?_⟩⟩)
  have s2 := Same.new (o := .lst []) hrl
  have s3 := Same.new (o := .tup [.int h, .int p, .ref rl]) ht
  exact ⟨u, t, rl, h, p, [], rfl, (pat.same s2).same s3, ⟨[], upd_same, s3 _ _ upd_same, Rw.nil⟩, fun H' s => q H' (((s1.trans s2).trans s3).trans s)⟩
theorem sureB {σ : St} {H : Hp} {te : TE} (h : ∀ Q : VK, (∀ H', Same H H' → Q (.bl true) H') → te σ H Q) : Sure (tB te) σ H := fun QT q => h _ fun H' s => ⟨_, rfl, q H' s⟩
theorem Mk.never {a : Ad} {σ : St} {H : Hp} : Mk a (tSMethA a.c_Pattern (spNever a) [] E0 (tC (.ref a.c_Pattern)) tNil) σ H 0 1 [] := fun R r => ⟨rfl, rfl, mkForm (never_canon (by omega) (by omega)) r⟩
theorem Mk.always {a : Ad} {σ : St} {H : Hp} : Mk a (tSMethA a.c_Pattern (spAlways a) [] E0 (tC (.ref a.c_Pattern)) tNil) σ H 0 1 [(0, 1)] := fun R r => ⟨rfl, rfl, mkForm always_canon r⟩
theorem v_ninP' {a : Ad} {σ : St} {H : Hp} {ta tb : TE} {x : Addr} {h q m : Int} {S : List Iv} {b : Bool} (c : PatAt a H x h q S) (q1 : 1 ≤ q) (q2 : q ≤ 10 ^ 12) (ha : Val ta σ H (.int m)) (hb : Val tb σ H (.ref x)) (m0 : -(10 ^ 40) ≤ m) (m1 : m ≤ 10 ^ 40) (e : (!(decide (0 ≤ m) && inL S (placeOf h q m))) = b) : Val (tOp (rInOwn a.c_Pattern (spIn a) E0 true) ta tb) σ H (.bl b) := e ▸ v_ninP c q1 q2 ha hb m0 m1
theorem ans_v {σ : St} {H : Hp} {te : TE} {b : Bool} (h : Val te σ H (.bl b)) : Ans (tTest te) σ H b := fun QT q => h _ ⟨_, rfl, q⟩
theorem v_eqI {σ : St} {H : Hp} {ta tb : TE} {i j : Int} (ha : Val ta σ H (.int i)) (hb : Val tb σ H (.int j)) : Val (tOp rEq ta tb) σ H (.bl (decide (i = j))) := fun Q q => ha _ (hb _ ⟨rfl, by
  rw [show decide (V.int i = V.int j) = decide (i = j) by simp]
  exact q⟩)
theorem ans_eqI {σ : St} {H : Hp} {ta tb : TE} {i j : Int} (ha : Val ta σ H (.int i)) (hb : Val tb σ H (.int j)) : Ans (tTest (tOp rEq ta tb)) σ H (decide (i = j)) := ans_v (v_eqI ha hb)
theorem v_inL {K : PySem.W.Frag} {σ : St} {H : Hp} {ta tb : TE} {m : Addr} {ks : List Int} {t : Int} (e : H m = some (.lst (ks.map V.int))) (ha : Val ta σ H (.int t)) (hb : Val tb σ H (.ref m)) : Val (tOp (rIn K false) ta tb) σ H (.bl (decide (t ∈ ks))) := fun Q w => by
  rw [← in_ints] at w
  exact ha _ (hb _ ⟨m, _, rfl, Or.inl (SqL.of e), rfl, ints_flat ks, w⟩)
def spOthers : Sp := fun vs H Q _ => ∃ (l cl : Addr) (n : Nat), vs = [.ref l] ∧ PoolAt H l cl n ∧ n < 2 ^ 38 ∧ ∀ H', PoolAt H' l cl (n + 40) → Fr l cl H H' → Q (.bl true) H'
section
variable {P : Program} {w : World} {K : PySem.W.Frag} {mg : Str → Option Value} {base : Heap} {a : Ad}
theorem G__law_others (T : Tx K mg a) : FnOk P w K mg base (L2.CX0) 9 a.f__law_others a.d__law_others ["pool"] spOthers := by
  refine T.F__law_others.ok sc__law_others (fun vs H Q E h => ?_) (fun cdv A outer s H vs Q E hr h => ?_)
  · obtain ⟨l, cl, n, rfl, _⟩ := h
    rfl
  · obtain ⟨l, cl, n, rfl, hp, hn, k⟩ := h
    refine ⟨_, (pss_cons (ps_set (i := 1) sc__law_others.nd rfl (Or.inr rfl) (pe_op op_mul (pe_op op_fdivW (pe_call (G__law_draw T) (hr.mono (by decide)) rfl T.g__law_draw T.F__law_draw.kp T.b__law_draw .nil pass0 (pa_cons (pv 0) (pa_cons pe_int pa_nil))) pe_int) (pe_op op_sub (pe_op op_pow pe_int pe_int) pe_int)))
      (pss_cons (ps_setLc (i := 2) (own := [("k", 3)]) (g := gName 3) (tt := tYes) rfl sc__law_others.nd rfl rfl (sw_true rfl rfl rfl (by decide +kernel)) (pi_range1 rfl T.n_range (pa_cons (pe_call (G__law_draw T) (hr.mono (by decide)) rfl T.g__law_draw T.F__law_draw.kp T.b__law_draw .nil pass0 (pa_cons (pv 0) (pa_cons pe_int pa_nil))) pa_nil)) (blkOk_by (own := [("k", 3)]) (N := ["pool", "base", "minutes", "k", "handed", "told", "due", "t", "period", "first", "head", "end", "start"]) (sc := defScope s__law_others) (by decide +kernel)) (fun _ _ _ _ _ => (pg_name (i := 3) sc__law_others.nd rfl (Or.inl rfl))) (fun _ _ _ _ _ => pts_nil) (fun _ _ _ _ _ => (pe_op op_add (pv 1) (pe_call (G__law_draw T) (hr.mono (by decide)) rfl T.g__law_draw T.F__law_draw.kp T.b__law_draw .nil pass0 (pa_cons (pv 0) (pa_cons pe_int pa_nil))))))
      (pss_cons (ps_set (i := 4) sc__law_others.nd rfl (Or.inl rfl) (pe_callTy call_list_of (by rfl) T.n_list (by decide +kernel) (pa_cons (pv 2) pa_nil)))
      (pss_cons (ps_set (i := 5) sc__law_others.nd rfl (Or.inl rfl) (pe_smeth (pe_glob (v := .ref a.c_Pattern) rfl T.g_Pattern rfl) T.cr_Pattern T.sm_Pattern_once (G_Pattern_once T) (hr.mono (by decide)) T.F_Pattern_once.kp T.b_Pattern_once .nil passL (pa_cons (pv 4) pa_nil)))
      (pss_cons (ps_if (pt_cmpR (op_neD hr.units) (pv 4) (pv 2) (nomark _)) (pss_one (ps_ret pe_bl)) pss_nil)
      (pss_cons (ps_expr (pe_bm PySem.F.plainAttrs_list PySem.F.slot_list_append PySem.F.type_list_append mt_append (pv 4) (pa_cons pe_int pa_nil)))
      (pss_cons (ps_set (i := 6) sc__law_others.nd rfl (Or.inl rfl) (pe_call (G__law_once T) (hr.mono (by decide)) rfl T.g__law_once T.F__law_once.kp T.b__law_once .nil pass0 (pa_cons (pv 2) pa_nil)))
      (pss_cons (ps_if (PW.pt (pw_or (pt_not (pt_val (pe_call (G__law_has T) (hr.mono (by decide)) rfl T.g__law_has T.F__law_has.kp T.b__law_has .nil pass0 (pa_cons (pv 5) (pa_cons (pv 6) pa_nil))))) (pw_or1 (pt_not (pt_val (pe_call (G__law_has T) (hr.mono (by decide)) rfl T.g__law_has T.F__law_has.kp T.b__law_has .nil pass0 (pa_cons (pe_smeth (pe_glob (v := .ref a.c_Pattern) rfl T.g_Pattern rfl) T.cr_Pattern T.sm_Pattern_once (G_Pattern_once T) (hr.mono (by decide)) T.F_Pattern_once.kp T.b_Pattern_once .nil passL (pa_cons (pe_callTy call_tuple_of (by rfl) T.n_tuple (by decide +kernel) (pa_cons (pv 2) pa_nil)) pa_nil)) (pa_cons (pv 6) pa_nil)))))))) (pss_one (ps_ret pe_bl)) pss_nil)
      (pss_cons (ps_for PassesOwn.never rfl (pi_range2 rfl T.n_range (pa_cons (pv 1) (pa_cons (pe_op op_add (pv 1) pe_int) pa_nil))) (pg_name (i := 7) sc__law_others.nd rfl (Or.inl rfl)) (pss_one (ps_if (pt_cmpR op_ne (pe_cmpR (op_inOwn T.m_Pattern_contains (G_Pattern_contains T) (hr.mono (by decide)) T.b_Pattern_contains passL) (pv 7) (pv 5) (by rfl)) (pe_cmpR op_in_seq (pv 7) (pv 2) (by rfl)) (nomark _)) (pss_one (ps_ret pe_bl)) pss_nil)))
      (pss_cons (ps_set (i := 8) sc__law_others.nd rfl (Or.inl rfl) (pe_call (G__law_near T) (hr.mono (by decide)) rfl T.g__law_near T.F__law_near.kp T.b__law_near .nil pass0 (pa_cons (pv 0) (pa_cons pe_int (pa_cons pe_int pa_nil)))))
      (pss_cons (ps_set (i := 9) sc__law_others.nd rfl (Or.inl rfl) (pe_call (G__law_near T) (hr.mono (by decide)) rfl T.g__law_near T.F__law_near.kp T.b__law_near .nil pass0 (pa_cons (pv 0) (pa_cons pe_int (pa_cons pe_int pa_nil)))))
      (pss_cons (ps_set (i := 5) sc__law_others.nd rfl (Or.inl rfl) (pe_smeth (pe_glob (v := .ref a.c_Pattern) rfl T.g_Pattern rfl) T.cr_Pattern T.sm_Pattern_every (G_Pattern_every T) (hr.mono (by decide)) T.F_Pattern_every.kp T.bP_Pattern_every_1.choose_spec.2 T.bP_Pattern_every_1.choose_spec.1 passL (pa_cons (pv 8) (pa_cons (pv 9) pa_nil))))
      (pss_cons (ps_set (i := 10) sc__law_others.nd rfl (Or.inl rfl) (pe_callB (call_max2 rfl) (by rfl) T.n_max (by decide +kernel) (pa_cons pe_int (pa_cons (pe_op op_add (pe_op op_sub (pv 9) (pv 8)) pe_int) pa_nil))))
      (pss_cons (ps_if (pt_not (pt_val (pe_call (G__law_has T) (hr.mono (by decide)) rfl T.g__law_has T.F__law_has.kp T.b__law_has .nil pass0 (pa_cons (pv 5) (pa_cons (pe_tup (pa_cons (pv 10) (pa_cons (pv 8) (pa_cons (pe_lst (pa_cons (pe_tup (pa_cons (pv 9) (pa_cons (pe_op op_add (pv 9) pe_int) pa_nil))) pa_nil)) pa_nil)))) pa_nil))))) (pss_one (ps_ret pe_bl)) pss_nil)
      (pss_cons (ps_if (PW.pt (pw_or (pt_cmpR (op_notInOwn T.m_Pattern_contains (G_Pattern_contains T) (hr.mono (by decide)) T.b_Pattern_contains passL) (pv 9) (pv 5) (by rfl)) (pw_or1 (pt_cmpR (op_notInOwn T.m_Pattern_contains (G_Pattern_contains T) (hr.mono (by decide)) T.b_Pattern_contains passL) (pe_op op_add (pv 9) (pv 8)) (pv 5) (by rfl))))) (pss_one (ps_ret pe_bl)) pss_nil)
      (pss_cons (ps_if (pt_cmpR op_ne (pe_cmpR (op_inOwn T.m_Pattern_contains (G_Pattern_contains T) (hr.mono (by decide)) T.b_Pattern_contains passL) (pe_op op_add (pv 9) pe_int) (pv 5) (by rfl)) (pe_cmpR op_eq (pv 8) pe_int (nomark _)) (nomark _)) (pss_one (ps_ret pe_bl)) pss_nil)
      (pss_cons (ps_if (pt_not (pt_val (pe_call (G__law_has T) (hr.mono (by decide)) rfl T.g__law_has T.F__law_has.kp T.b__law_has .nil pass0 (pa_cons (pe_smeth (pe_glob (v := .ref a.c_Pattern) rfl T.g_Pattern rfl) T.cr_Pattern T.sm_Pattern_every (G_Pattern_every T) (hr.mono (by decide)) T.F_Pattern_every.kp T.bP_Pattern_every_0.choose_spec.2 T.bP_Pattern_every_0.choose_spec.1 passL (pa_cons (pv 8) pa_nil)) (pa_cons (pe_tup (pa_cons pe_int (pa_cons (pv 8) (pa_cons (pe_lst (pa_cons (pe_tup (pa_cons pe_int (pa_cons pe_int pa_nil))) pa_nil)) pa_nil)))) pa_nil))))) (pss_one (ps_ret pe_bl)) pss_nil)
      (pss_cons (ps_set (i := 11) sc__law_others.nd rfl (Or.inl rfl) (pe_call (G__law_near T) (hr.mono (by decide)) rfl T.g__law_near T.F__law_near.kp T.b__law_near .nil pass0 (pa_cons (pv 0) (pa_cons pe_int (pa_cons pe_int pa_nil)))))
      (pss_cons (ps_set (i := 12) sc__law_others.nd rfl (Or.inl rfl) (pe_op op_sub (pv 11) (pe_callB (call_min2 rfl) (by rfl) T.n_min (by decide +kernel) (pa_cons (pv 11) (pa_cons (pe_call (G__law_draw T) (hr.mono (by decide)) rfl T.g__law_draw T.F__law_draw.kp T.b__law_draw .nil pass0 (pa_cons (pv 0) (pa_cons pe_int pa_nil))) pa_nil)))))
      (pss_cons (ps_if (pt_cmpR op_eq (pv 12) (pv 11) (nomark _)) (pss_one (ps_ret (pe_call (G__law_has T) (hr.mono (by decide)) rfl T.g__law_has T.F__law_has.kp T.b__law_has .nil pass0 (pa_cons (pe_smeth (pe_glob (v := .ref a.c_Pattern) rfl T.g_Pattern rfl) T.cr_Pattern T.sm_Pattern_span (G_Pattern_span T) (hr.mono (by decide)) T.F_Pattern_span.kp T.b_Pattern_span .nil passL (pa_cons (pv 12) (pa_cons (pv 11) pa_nil))) (pa_cons (pe_tup (pa_cons pe_int (pa_cons pe_int (pa_cons (pe_lst pa_nil) pa_nil)))) pa_nil))))) pss_nil)
      (pss_one (ps_ret (pe_call (G__law_has T) (hr.mono (by decide)) rfl T.g__law_has T.F__law_has.kp T.b__law_has .nil pass0 (pa_cons (pe_smeth (pe_glob (v := .ref a.c_Pattern) rfl T.g_Pattern rfl) T.cr_Pattern T.sm_Pattern_span (G_Pattern_span T) (hr.mono (by decide)) T.F_Pattern_span.kp T.b_Pattern_span .nil passL (pa_cons (pv 12) (pa_cons (pv 11) pa_nil))) (pa_cons (pe_tup (pa_cons (pv 11) (pa_cons pe_int (pa_cons (pe_lst (pa_cons (pe_tup (pa_cons (pv 12) (pa_cons (pv 11) pa_nil))) pa_nil)) pa_nil)))) pa_nil))))))))))))))))))))))))), ?_⟩
    have e12 : (10 : Int) ^ Int.toNat 12 = 10 ^ 12 := by decide
    refine st_letX (draw hp rfl val_c (by omega) (by decide) (by decide) fun d0 H1 a0 a1 p1 f1 => ⟨_, _, rfl, rfl, wide_div (b := 40) (by omega) (by omega) (by decide) (by decide), ?_⟩)
    refine ⟨_, _, rfl, rfl, ⟨by decide, by decide, by decide⟩, _, _, rfl, rfl, _, _, rfl, rfl, Or.inl ⟨by omega, by omega⟩, ?_⟩
    obtain ⟨base, hbase, hb2⟩ : ∃ base : Int, base = d0 / 3 * (10 ^ Int.toNat 12 - 25) ∧ (base = 0 ∨ base = 10 ^ 12 - 25) := by
      refine ⟨_, rfl, ?_⟩
      rw [e12]
      have : d0 / 3 = 0 ∨ d0 / 3 = 1 := by omega
      rcases this with z | z
      · left; rw [z]; rfl
      · right; rw [z]; rfl
    dsimp only
    rw [← hbase]
    refine st_letX (lcR1D (draw p1 rfl val_c (by omega) (by decide) (by decide) fun cnt H2 c0 c1 p2 f2 => lcR1C (by omega) (by omega) ?_))
    refine comp_draws (n := n + 1 + 1) (c := 1) (Pr := fun d => base ≤ d ∧ d < base + 25) p2 (by omega) (fun _ => rfl) (fun x H k Q' p5 hk q => op_v (val_var rfl) (draw p5 rfl val_c (by omega) (by decide) (by decide) fun d H' d0 d1 p6 f6 => ⟨_, _, rfl, rfl, q _ H' ⟨by omega, by omega⟩ p6 f6⟩)) fun ml ks H3 hml eml lks prs p3 f3 => ?_
    have k0 : ∀ d ∈ ks, 0 ≤ d ∧ d < 10 ^ 12 := fun d hd => by
      have := prs d hd
      rcases hb2 with z | z <;> rw [z] at this <;> omega
    have lk : ks.length ≤ 6 := by omega
    have f03 : Fr l cl H H3 := (f1.trans f2).trans f3
    have p3' : PoolAt H3 l cl (n + 10) := p3.mono (by omega)
    obtain ⟨mnl, mncl⟩ : ml ≠ l ∧ ml ≠ cl := p2.off hml
    clear f1 f2 f3 p1 p2 p3 hp hml hbase a0 a1 c0 c1 lks
    refine st_letX ⟨_, rfl, ml, _, rfl, Or.inl (SqL.of eml), fun hl hhl => ?_⟩
    have s4 := Same.new (o := .lst (ks.map V.int)) hhl
    have e4 : upd H3 hl (.lst (ks.map V.int)) hl = some (.lst (ks.map V.int)) := upd_same
    obtain ⟨hnl, hncl⟩ : hl ≠ l ∧ hl ≠ cl := p3'.off hhl
    have mh : ml ≠ hl := fun z => by rw [z, hhl] at eml; cases eml
    generalize upd H3 hl (.lst (ks.map V.int)) = H4 at s4 e4 ⊢
    refine st_letX ⟨rfl, _, rfl, hl, ks, rfl, Or.inl (SqL.of e4), by omega, fun z => by omega, fun _ i b hb nb _ => absurd (k0 b (List.mem_of_getElem? hb)) nb, fun _ _ x1 hd1 q1 S1 H5 can1 pat1 s5 => ?_⟩
    have em5 := s5 _ _ (s4 _ _ eml)
    have eh5 := s5 _ _ e4
    refine st_seq (st_ifX (t_op' ?_))
    refine ⟨_, rfl, _, rfl, .list (idata ks), .list (idata ks), .lst (SqL.of eh5) (ints_all ks), .lst (SqL.of em5) (ints_all ks), idata_shaped ks, idata_shaped ks, _, rfl, ?_⟩
    rw [idata_eqv]
    refine iteF ?_
    refine st_seq (app_val rfl eh5 (by rw [List.length_map]; omega) val_c fun H6 e6 b6 => ?_)
    dsimp only
    have em6 := b6 _ _ em5 mh
    have pat6 := pat1.but b6 eh5
    have p6 : PoolAt H6 l cl (n + 10) := (p3'.same (s4.trans s5)).but b6 (fun z => hnl z.symm) (fun z => hncl z.symm)
    have f06 : Fr l cl H H6 := fun b o eb n1 n2 => b6 _ _ (s5 _ _ (s4 _ _ (f03 _ _ eb n1 n2))) fun z => by
      have := f03 _ _ eb n1 n2
      rw [z, hhl] at this
      cases this
    clear s4 s5 b6 pat1 f03 p3' eml e4 em5 eh5 hhl e6
    refine st_letX ⟨_, rfl, ml, ks, rfl, SqL.of em6, by omega, fun t rl h L H7 oo fm hrl s7 lenL => ?_⟩
    have c1 := once_canon oo k0
    obtain ⟨rfl, rfl, rfl⟩ := can1.unique c1
    have pat7 := pat6.same s7
    have em7 := s7 _ _ em6
    have f07 := f06.trans (Fr.of s7)
    have p7 := p6.same s7
    clear s7 pat6 em6 f06 p6 hrl
    refine guard_sure2 (s_has (val_var rfl) (val_var rfl) pat7 fm) (fun H' s' => ?_) fun H8 s8 => ?_
    · refine sureB fun Q' q => ⟨rfl, _, rfl, ml, _, rfl, Or.inl ⟨SqL.of (s' _ _ em7), fun tl htl => ?_⟩⟩
      have st := Same.new (o := .tup (ks.map V.int)) htl
      refine ⟨tl, ks, rfl, Or.inr (SqT.of upd_same), by omega, fun z => by omega, fun _ i b hb nb _ => absurd (k0 b (List.mem_of_getElem? hb)) nb, fun _ _ => mkForm c1 fun x H2 pat s2 => ⟨_, rfl, x, t, rl, _, _, _, rfl, pat, ((fm.same s').same st).same s2, fun H3 s3 => q H3 ((st.trans s2).trans s3)⟩⟩
    have pat8 := pat7.same s8
    have em8 := s8 _ _ em7
    have f08 := f07.trans (Fr.of s8)
    have p8 := p7.same s8
    clear s8 pat7 em7 f07 p7 fm
    refine st_seq (st_forR2W (n := 27) (val_var rfl) (v_rI0 (g := fun i j => .int (i + j)) (val_var rfl) val_c) (by omega) (by omega) (by omega) (fun i σ' H' => ∃ v7, σ' = [some (.ref l), some (.int base), some (.ref ml), none, some (.ref hl), some (.ref x1), some (.ref t), v7, none, none, none, none, none] ∧ H' = H8) ⟨_, rfl, rfl⟩ ?_ ?_)
    · rintro i σ' H' hi ⟨v7, rfl, rfl⟩
      refine g_name (st_ifp (q := False) (ans_ne (b := false) (v_inP pat8 (by omega) (by omega) (val_var rfl) (val_var rfl) (by omega) (by omega)) (v_inL em8 (val_var rfl) (val_var rfl)) rfl ?_) (by simp) (fun z => z.elim) fun _ => ⟨_, rfl, rfl⟩)
      have e : (decide (0 ≤ base + (i : Int)) && inL S1 (placeOf hd1 1 (base + (i : Int)))) = decide (base + (i : Int) ∈ ks) := bool_ext (by
        rw [canon_in' c1, once_P k0, decide_eq_true_eq]
        exact ⟨fun z => z.2, fun z => ⟨(k0 _ z).1, z⟩⟩)
      rw [e, dec_bl]
      cases decide (base + (i : Int) ∈ ks) <;> rfl
    rintro σ' H' ⟨v7, rfl, rfl⟩
    dsimp only
    refine st_letX ⟨_, rfl, l, cl, _, 1, 12, rfl, p8, by omega, by decide, by decide, fun per H9 hper p9 f9 => ?_⟩
    refine st_letX ⟨_, rfl, l, cl, _, 0, 30, rfl, p9, by omega, by decide, by decide, fun fst H10 hfst p10 f10 => ?_⟩
    have f010 := (f08.trans f9).trans f10
    have per1 : 1 ≤ per ∧ per ≤ 10 ^ 12 := by omega
    have fst1 : 0 ≤ fst ∧ fst ≤ 10 ^ 12 := by omega
    clear pat8 em8 f08 p8 p9 f9 f10 hper hfst c1 can1 oo
    have cE := every_canon fst1.1 per1.1
    refine st_letX ⟨rfl, _, rfl, _, rfl, per, fst, rfl, fun z => absurd per1 z, fun _ z => absurd fst1 z, fun _ _ => mkForm cE fun x2 H11 pat s11 => ?_⟩
    have f011 := f010.trans (Fr.of s11)
    have p11 := p10.same s11
    clear f010 p10 s11
    have mx : (if fst - per + 1 > 0 then fst - per + 1 else 0) = max 0 (fst - per + 1) := by
      rw [Int.max_def]
      split <;> split <;> omega
    refine st_letX ((v_rI0 (g := fun i j => .int (i + j)) (v_rI0 (g := fun i j => .int (i - j)) (val_var rfl) (val_var rfl)) val_c) _ ⟨0, fst - per + 1, rfl, ?_⟩)
    rw [mx]
    refine guard_sure (sureB fun Q' q => hasT (Mk.var rfl pat) (fun _ => val_var rfl) (fun _ => val_var rfl) (fun _ => val_var rfl) (fun _ => v_rI0 (g := fun i j => .int (i + j)) (val_var rfl) val_c) q) fun H12 s12 => ?_
    have pat12 := pat.same s12
    have f012 := f011.trans (Fr.of s12)
    have p12 := p11.same s12
    clear pat f011 p11 s12
    have inE : ∀ m : Int, (decide (0 ≤ m) && inL [(fst, fst + 1)] (placeOf (max 0 (fst - per + 1)) per m)) = decide (fst ≤ m ∧ (m - fst) % per = 0) := fun m => bool_ext (by
      rw [canon_in' cE, every_P fst1.1 per1.1, decide_eq_true_eq]
      exact ⟨fun z => z.2, fun z => ⟨by omega, z⟩⟩)
    have z1 : decide (fst ≤ fst ∧ (fst - fst) % per = 0) = true := decide_eq_true ⟨by omega, by rw [Int.sub_self, Int.zero_emod]⟩
    have z2 : decide (fst ≤ fst + per ∧ (fst + per - fst) % per = 0) = true := decide_eq_true ⟨by omega, by rw [show fst + per - fst = per by omega, Int.emod_self]⟩
    have z3 : decide (fst ≤ fst + 1 ∧ (fst + 1 - fst) % per = 0) = decide (per = 1) := by
      rw [show fst + 1 - fst = 1 by omega]
      by_cases c : per = 1
      · rw [c]
        simp
        omega
      · rw [Int.emod_eq_of_lt (by omega) (by omega)]
        simp [c]
    refine st_guard (q := False) (b := false) (a_or (b := false) (c := false) (ans_v (v_ninP' pat12 per1.1 per1.2 (val_var rfl) (val_var rfl) (by omega) (by omega) (by rw [inE, z1]; rfl))) fun _ => ans_v (v_ninP' pat12 per1.1 per1.2 (v_rI0 (g := fun i j => .int (i + j)) (val_var rfl) (val_var rfl)) (val_var rfl) (by omega) (by omega) (by rw [inE, z2]; rfl))) (by simp) (fun z => z.elim) fun _ => ?_
    refine st_guard (q := False) (b := false) (ans_ne (b := false) (v_inP pat12 per1.1 per1.2 (v_rI0 (g := fun i j => .int (i + j)) (val_var rfl) val_c) (val_var rfl) (by omega) (by omega)) (v_eqI (val_var rfl) val_c) rfl (by rw [inE, z3, dec_bl]; cases decide (per = 1) <;> rfl)) (by simp) (fun z => z.elim) fun _ => ?_
    have cE0 := every_canon (f := 0) (p := per) (by omega) per1.1
    rw [show max 0 (0 - per + 1) = 0 by omega] at cE0
    refine guard_sure (sureB fun Q' q => hasT (fun R r => ⟨rfl, _, rfl, per, 0, rfl, fun z => absurd per1 z, fun _ z => absurd ⟨by omega, by omega⟩ z, fun _ _ => mkForm cE0 r⟩) (fun _ => val_c) (fun _ => val_var rfl) (fun _ => val_c) (fun _ => val_c) q) fun H13 s13 => ?_
    have f013 := f012.trans (Fr.of s13)
    have p13 := p12.same s13
    clear pat12 f012 p12 s13 inE z1 z2 z3
    refine st_letX ⟨_, rfl, l, cl, _, 0, 30, rfl, p13, by omega, by decide, by decide, fun en H14 hen p14 f14 => ?_⟩
    refine st_letX (op_v (val_var rfl) ⟨_, rfl, draw p14 rfl val_c (by omega) (by decide) (by decide) fun dr H15 d0 d1 p15 f15 => ⟨en, dr, rfl, ?_⟩⟩)
    have f015 := (f013.trans f14).trans f15
    have en1 : 0 ≤ en ∧ en ≤ 10 ^ 12 := by omega
    clear f013 p13 p14 f14 f15 hen
    refine ⟨_, _, rfl, rfl, ?_⟩
    dsimp only
    obtain ⟨sv, hsv, sv0, sv1⟩ : ∃ sv, sv = en - (if dr < en then dr else en) ∧ 0 ≤ sv ∧ sv ≤ en := ⟨_, rfl, by split <;> omega, by split <;> omega⟩
    rw [← hsv]
    have kk : ∀ H', Same H15 H' → Q (.bl true) H' := fun H' s' => k H' ((p15.same s').mono (by omega)) (f015.trans (Fr.of s'))
    refine st_guard (q := sv = en) (b := decide (sv = en)) (ans_eqI (val_var rfl) (val_var rfl)) decide_eq_true_iff (fun c => ?_) fun c => ?_
    · refine hasE (fun R r => ⟨rfl, _, rfl, _, rfl, sv, en, rfl, fun z => absurd ⟨sv0, by omega⟩ z, fun _ z => absurd ⟨by omega, by omega⟩ z, fun _ _ => mkForm (by rw [if_neg (by omega)]; exact never_canon en1.1 (by omega)) r⟩) (fun _ => val_c) (fun _ => val_c) kk
    · refine hasT (fun R r => ⟨rfl, _, rfl, _, rfl, sv, en, rfl, fun z => absurd ⟨sv0, by omega⟩ z, fun _ z => absurd ⟨by omega, by omega⟩ z, fun _ _ => mkForm (by rw [if_pos (by omega)]; exact span_canon sv0 (by omega)) r⟩) (fun _ => val_var rfl) (fun _ => val_c) (fun _ => val_var rfl) (fun _ => val_var rfl) kk
end
end My

namespace My
open PySem L2
theorem flat1 {α : Type} (x : α) : ∀ n : Nat, (List.replicate n [x]).flatten = List.replicate n x
  | 0 => rfl
  | n + 1 => by rw [List.replicate_succ, List.replicate_succ, List.flatten_cons, flat1 x n, List.singleton_append]
/-- [(x, y)] * n -/
theorem rep_pair {ta tb : TE} {σ : St} {H : Hp} {Q : VK} {x y : V} (n : Nat) {k : Int} (e : k = (n : Int)) (hn : n ≤ 1000000) (ha : Val ta σ H x) (hb : Val tb σ H y) (q : ∀ p u H', H' p = some (.lst (List.replicate n (.ref u))) → H' u = some (.tup [x, y]) → H p = none → Same H H' → Q (.ref p) H') :
    tOp rRep (tLst (tCons (tTup (tCons ta (tCons tb tNil))) tNil)) (tC (.int k)) σ H Q := by
  refine lst_pair ha hb fun t u H1 et eu ht s => ?_
  have z : 1000000 < sizeLine := by decide
  refine ⟨t, k, [.ref u], rfl, rfl, et, by omega, by omega, by show 1 * k.toNat ≤ sizeLine; omega, fun p hp => ?_⟩
  rw [flat1, show k.toNat = n by omega]
  have s2 := Same.new (o := .lst (List.replicate n (V.ref u))) hp
  exact q p u _ upd_same (s2 _ _ eu) (by
    cases e : H p with
    | none => rfl
    | some o => rw [s _ _ e] at hp; cases hp) (s.trans s2)
/-- [x] * n -/
theorem rep_one {ta : TE} {σ : St} {H : Hp} {Q : VK} {x : Int} (n : Nat) {k : Int} (e : k = (n : Int)) (hn : n ≤ 1000000) (ha : Val ta σ H (.int x)) (q : ∀ p H', H' p = some (.lst ((List.replicate n x).map V.int)) → Same H H' → Q (.ref p) H') :
    tOp rRep (tLst (tCons ta tNil)) (tC (.int k)) σ H Q := by
  refine ha _ ⟨by show 1 ≤ sizeLine; decide, fun t ht => ?_⟩
  have z : 1000000 < sizeLine := by decide
  refine ⟨t, k, [.int x], rfl, rfl, upd_same, by omega, by omega, by show 1 * k.toNat ≤ sizeLine; omega, fun p hp => ?_⟩
  rw [flat1, show k.toNat = n by omega]
  exact q p _ (by rw [List.map_replicate]; exact upd_same) ((Same.new ht).trans (Same.new hp))
theorem Rw.rep {H : Hp} {u : Addr} {a : Iv} {n : Nat} (e : H u = some (.tup [.int a.1, .int a.2])) : Rw H (List.replicate n (.ref u)) (List.replicate n a) := ⟨by simp, fun i b h => by
  have hi : i < n := by have := (List.getElem?_eq_some_iff.mp h).1; rw [List.length_replicate] at this; exact this
  rw [List.getElem?_replicate, if_pos hi] at h
  cases h
  exact ⟨u, by rw [List.getElem?_replicate, if_pos hi], e⟩⟩
theorem Rw.set {H : Hp} {as : List V} {L : List Iv} {u : Addr} {a : Iv} (h : Rw H as L) (e : H u = some (.tup [.int a.1, .int a.2])) (j : Nat) : Rw H (as.set j (.ref u)) (L.set j a) := ⟨by simp [h.1], fun i b hb => by
  rw [List.getElem?_set] at hb ⊢
  by_cases c : j = i
  · rw [if_pos c] at hb ⊢
    by_cases c2 : i < L.length
    · rw [if_pos (by omega)] at hb
      cases hb
      exact ⟨u, by rw [if_pos (by rw [h.1]; omega)], e⟩
    · rw [if_neg (by omega)] at hb
      cases hb
  · rw [if_neg c] at hb ⊢
    exact h.2 i b hb⟩
theorem Rw.rev {H : Hp} {as : List V} {L : List Iv} (h : Rw H as L) : Rw H as.reverse L.reverse := ⟨by simp [h.1], fun i b hb => by
  have hi : i < L.length := by have := (List.getElem?_eq_some_iff.mp hb).1; rw [List.length_reverse] at this; exact this
  rw [List.getElem?_reverse hi] at hb
  obtain ⟨t, x, y⟩ := h.2 _ b hb
  exact ⟨t, by rw [List.getElem?_reverse (by rw [h.1]; exact hi), h.1]; exact x, y⟩⟩
theorem FmAt.but {H H' : Hp} {t rl b : Addr} {h p : Int} {L : List Iv} {xs : List V} (f : FmAt H t rl h p L) (bt : But b H H') (e : H b = some (.lst xs)) (n : rl ≠ b) : FmAt H' t rl h p L :=
  let ⟨rs, a, c, d⟩ := f; ⟨rs, bt _ _ a (ne_of a e (by intro z; cases z)), bt _ _ c n, d.but bt e (by intro xs z; cases z)⟩
theorem FmAt.fr {H H' : Hp} {t rl l cl : Addr} {n : Nat} {h p : Int} {L : List Iv} (f : FmAt H t rl h p L) (g : Fr l cl H H') (pp : PoolAt H l cl n) (n1 : rl ≠ l) (n2 : rl ≠ cl) : FmAt H' t rl h p L :=
  let ⟨rs, a, c, d⟩ := f; ⟨rs, g.tup pp a, g _ _ c n1 n2, d.fr g pp⟩
/-- the law's row of bits tells the same minutes as the stretches -/
theorem ext_bits {h p : Nat} {L : List Iv} (p1 : 1 ≤ p) {t : Int} (ht : 0 ≤ t) : ext h (((bitsOf (h + p) L).length - h : Nat) : Int) (bt (bitsOf (h + p) L)) t ↔ ext h p (fun t => inL L t = true) t := by
  have len : (bitsOf (h + p) L).length = h + p := by unfold bitsOf; rw [List.length_map, List.length_range]
  rw [len, show h + p - h = p by omega]
  have pr := place_range (h := (h : Int)) (p := (p : Int)) (m := t) (by omega) (by omega) ht
  unfold ext
  show bt _ (placeOf h p t) ↔ inL L (placeOf h p t) = true
  generalize placeOf h p t = u at pr
  unfold bt
  have e : (bitsOf (h + p) L)[u.toNat]? = some (inL L u) := by
    unfold bitsOf
    rw [List.getElem?_map, List.getElem?_range (by omega)]
    show some (inL L ((u.toNat : Nat) : Int)) = _
    rw [show ((u.toNat : Nat) : Int) = u by omega]
  rw [List.getD_eq_getElem?_getD, e]
  rfl
theorem bits_len {n : Nat} {L : List Iv} : (bitsOf n L).length = n := by unfold bitsOf; rw [List.length_map, List.length_range]
/-- if e != ('many', ..): the error that is asked for -/
theorem st_asked {K : PySem.W.Frag} {tc tt : TE} {σ : St} {H : Hp} {D : Ends} {t1 t3 : TS} (e : Er) (sh : SeqAt.shaped (erD e) = true) (hc : ∀ R : VK, (∀ t H1, H1 t = some (.tup (erT e)) → Same H H1 → R (.ref t) H1) → tc σ H R)
    (ht : ∀ H1 (R : VK), (∀ t H2, H2 t = some (.tup (erT e)) → Same H1 H2 → R (.ref t) H2) → tt σ H1 R) (q : ∀ H', Same H H' → t3 D σ H') : tSeq (tIfS (tTest (tOp (rNeD K) tc tt)) t1 tNext) t3 D σ H := by
  refine st_seq (st_ifX (t_op' (hc _ fun t H1 et s1 => ht _ _ fun u H2 eu s2 => ⟨erD e, erD e, erD_dp e (s2 _ _ et), erD_dp e eu, sh, sh, _, rfl, ?_⟩)))
  rw [erD_eqv]
  exact iteF (q H2 (s1.trans s2))
def RelE (N : Nat) (D : Addr) (i : Nat) (v : V) (H : Hp) : Prop := ∃ t : Addr, v = .ref t ∧ t ≠ D ∧ H t = some (.tup [.int (2 * (i : Int)), .int (2 * (i : Int) + 1)])
theorem RelE.mono {N : Nat} (D : Addr) (i : Nat) (v : V) (H H' : Hp) (h : RelE N D i v H) (b : But D H H') : RelE N D i v H' := let ⟨t, e, n, z⟩ := h; ⟨t, e, n, b _ _ z n⟩
theorem evens_of {D : Addr} {H : Hp} {N : Nat} {n : Int} {bs : List V} (h : AllR (fun i v => RelE N D i v H) ((List.range N).filter (keepE n)) bs) : Rw H bs (evensN N n) := by
  obtain ⟨h1, h2⟩ := h
  unfold evensN
  refine ⟨by rw [List.length_map]; exact h1, fun i a ha => ?_⟩
  rw [List.getElem?_map] at ha
  cases e : ((List.range N).filter (keepE n))[i]? with
  | none => rw [e] at ha; cases ha
  | some j =>
    rw [e] at ha
    cases ha
    have hi := (List.getElem?_eq_some_iff.mp e).1
    have hb := List.getElem?_eq_getElem (l := bs) (i := i) (by omega)
    obtain ⟨t, e1, _, z⟩ := h2 i j _ e hb
    exact ⟨t, by rw [hb, e1], z⟩
theorem many_s : SeqAt.shaped (erD (.many "stretches" 5001)) = true := by kernel_rfl
theorem many_m : SeqAt.shaped (erD (.many "minutes" 5001)) = true := by kernel_rfl
theorem hasF {a : Ad} {σ : St} {H : Hp} {Q : VK} {te tb : TE} {t rl : Addr} {h p : Int} {L : List Iv} (m : Mk a te σ H h p L) (hb : ∀ H', Val tb σ H' (.ref t)) (fm : FmAt H t rl h p L) (q : ∀ H', Same H H' → Q (.bl true) H') : tCall (spHas a) [] E0 (tCons te (tCons tb tNil)) σ H Q :=
  m _ fun x H1 pat s1 => hb _ _ ⟨x, t, rl, h, p, L, rfl, pat, fm.same s1, fun H' s => q H' (s1.trans s)⟩
theorem ans_neI {σ : St} {H : Hp} {ta tb : TE} {i j : Int} (ha : Val ta σ H (.int i)) (hb : Val tb σ H (.int j)) : Ans (tTest (tOp rNe ta tb)) σ H (decide (i ≠ j)) := fun QT q => ha _ (hb _ ⟨rfl, _, rfl, by
  have e : (!decide (V.int i = V.int j)) = decide (i ≠ j) := by simp
  rw [e]
  exact q⟩)
theorem mkRev {a : Ad} {K : PySem.W.Frag} {ta tb te : TE} {σ : St} {H : Hp} {Q : VK} {h p : Int} {D : Addr} {bs : List V} {L : List Iv} (ha : Val ta σ H (.int h)) (hb : Val tb σ H (.int p)) (hD : Val te σ H (.ref D)) (e : H D = some (.lst bs)) (r : Rw H bs L) (c1 : 0 ≤ h ∧ h ≤ 10 ^ 12) (c2 : 1 ≤ p ∧ p ≤ 10 ^ 12) (hl : L.length ≤ 5000) (ok : ∀ b ∈ L, 0 ≤ b.1 ∧ b.1 < b.2 ∧ b.2 ≤ h + p)
    (k : NewPat a H (ext h p fun t => inL L.reverse t = true) Q) : tMake a.c_Pattern (spPat a K) [] E0 (tCons ta (tCons tb (tCons (tRevL K te) tNil))) σ H Q := by
  refine mk3 ha hb (hD _ ⟨D, bs, rfl, SqL.of e, fun rv hrv => ?_⟩)
  have s12 := Same.new (o := .lst bs.reverse) hrv
  exact newPat (Or.inl (SqL.of upd_same)) (r.same s12).rev.toA c1 c2 (by rw [List.length_reverse]; exact hl) (fun b hb => ok b (List.mem_reverse.mp hb)) (k.same s12)
def spLarge : Sp := fun vs H Q _ => ∃ (l cl : Addr) (n : Nat) (h p : Int), vs = [.ref l, .int h, .int p] ∧ PoolAt H l cl n ∧ n < 2 ^ 38 ∧ 0 ≤ h ∧ h ≤ 100 ∧ 1 ≤ p ∧ p ≤ 100 ∧ ∀ H', PoolAt H' l cl (n + 1) → Fr l cl H H' → Q (.bl true) H'
section
variable {P : Program} {w : World} {K : PySem.W.Frag} {mg : Str → Option Value} {base : Heap} {a : Ad}
theorem G__law_large (T : Tx K mg a) : FnOk P w K mg base (L2.CX0) 11 a.f__law_large a.d__law_large ["pool", "head", "period"] spLarge := by
  refine T.F__law_large.ok sc__law_large (fun vs H Q E h => ?_) (fun cdv A outer s H vs Q E hr h => ?_)
  · obtain ⟨l, cl, n, hh, p, rfl, _⟩ := h
    rfl
  · obtain ⟨l, cl, n, hh, p, rfl, hp, hn, h0, h1, p0, p1, k⟩ := h
    refine ⟨_, (pss_cons (ps_set (i := 3) sc__law_large.nd rfl (Or.inl rfl) (pe_call (G__law_form T) (hr.mono (by decide)) rfl T.g__law_form T.F__law_form.kp T.b__law_form .nil pass0 (pa_cons (pv 1) (pa_cons (pe_call (G__law_row_of T) (hr.mono (by decide)) rfl T.g__law_row_of T.F__law_row_of.kp T.b__law_row_of .nil pass0 (pa_cons (pe_op op_add (pv 1) (pv 2)) (pa_cons (pe_lst (pa_cons (pe_tup (pa_cons pe_int (pa_cons pe_int pa_nil))) pa_nil)) pa_nil))) pa_nil))))
      (pss_cons (ps_set (i := 4) sc__law_large.nd rfl (Or.inr rfl) (pe_call (G__law_draw T) (hr.mono (by decide)) rfl T.g__law_draw T.F__law_draw.kp T.b__law_draw .nil pass0 (pa_cons (pv 0) (pa_cons pe_int pa_nil))))
      (pss_cons (ps_set (i := 5) sc__law_large.nd rfl (Or.inl rfl) (pe_op op_rep (pe_lst (pa_cons (pe_tup (pa_cons pe_int (pa_cons pe_int pa_nil))) pa_nil)) pe_int))
      (pss_cons (ps_if (pt_cmpR op_lt (pv 4) pe_int (nomark _)) (pss_one (ps_asg (pe_tup (pa_cons pe_int (pa_cons pe_int pa_nil))) (pg_sub (pv 5) (pv 4) set_list))) pss_nil)
      (pss_cons (ps_if (pt_cmpR (op_neD hr.units) (pe_call (G__law_asked T) (hr.mono (by decide)) rfl T.g__law_asked T.F__law_asked.kp T.b__law_asked .nil pass0 (pa_cons pe_int (pa_cons (pv 1) (pa_cons (pv 2) (pa_cons (pv 5) pa_nil))))) (pe_tup (pa_cons pe_str (pa_cons pe_str (pa_cons pe_int (pa_cons pe_bl pa_nil))))) (nomark _)) (pss_one (ps_ret pe_bl)) pss_nil)
      (pss_cons (ps_if (pt_not (pt_val (pe_call (G__law_has T) (hr.mono (by decide)) rfl T.g__law_has T.F__law_has.kp T.b__law_has .nil pass0 (pa_cons (pe_make T.M_Pattern (G_Pattern_init T) (hr.mono (by decide)) rfl T.g_Pattern T.b_Pattern_init .nil passL (pa_cons (pv 1) (pa_cons (pv 2) (pa_cons (pe_op op_rep (pe_lst (pa_cons (pe_tup (pa_cons pe_int (pa_cons pe_int pa_nil))) pa_nil)) pe_int) pa_nil)))) (pa_cons (pv 3) pa_nil))))) (pss_one (ps_ret pe_bl)) pss_nil)
      (pss_cons (ps_if (pt_cmpR (op_neD hr.units) (pe_call (G__law_asked T) (hr.mono (by decide)) rfl T.g__law_asked T.F__law_asked.kp T.b__law_asked .nil pass0 (pa_cons pe_int (pa_cons pe_int (pa_cons pe_int (pa_cons (pe_op op_rep (pe_lst (pa_cons (pv 4) pa_nil)) pe_int) pa_nil))))) (pe_tup (pa_cons pe_str (pa_cons pe_str (pa_cons pe_int (pa_cons pe_bl pa_nil))))) (nomark _)) (pss_one (ps_ret pe_bl)) pss_nil)
      (pss_cons (ps_if (pt_not (pt_val (pe_call (G__law_has T) (hr.mono (by decide)) rfl T.g__law_has T.F__law_has.kp T.b__law_has .nil pass0 (pa_cons (pe_smeth (pe_glob (v := .ref a.c_Pattern) rfl T.g_Pattern rfl) T.cr_Pattern T.sm_Pattern_once (G_Pattern_once T) (hr.mono (by decide)) T.F_Pattern_once.kp T.b_Pattern_once .nil passL (pa_cons (pe_op op_rep (pe_lst (pa_cons (pv 4) pa_nil)) pe_int) pa_nil)) (pa_cons (pe_tup (pa_cons (pe_op op_add (pv 4) pe_int) (pa_cons pe_int (pa_cons (pe_lst (pa_cons (pe_tup (pa_cons (pv 4) (pa_cons (pe_op op_add (pv 4) pe_int) pa_nil))) pa_nil)) pa_nil)))) pa_nil))))) (pss_one (ps_ret pe_bl)) pss_nil)
      (pss_cons (ps_setLc (i := 6) (own := [("k", 7)]) (g := gName 7) (tt := _) rfl sc__law_large.nd rfl rfl (sw_true rfl rfl rfl (by decide +kernel)) (pi_range1 rfl T.n_range (pa_cons pe_int pa_nil)) (blkOk_by (own := [("k", 7)]) (N := ["pool", "head", "period", "least", "at", "many", "evens", "k", "told"]) (sc := defScope s__law_large) (by decide +kernel)) (fun _ _ _ _ _ => (pg_name (i := 7) sc__law_large.nd rfl (Or.inl rfl))) (fun _ _ _ _ _ => (pts_one (pt_cmpR op_ne (pv 7) (pv 4) (nomark _)))) (fun _ _ _ _ _ => (pe_tup (pa_cons (pe_op op_mul pe_int (pv 7)) (pa_cons (pe_op op_add (pe_op op_mul pe_int (pv 7)) pe_int) pa_nil)))))
      (pss_cons (ps_set (i := 8) sc__law_large.nd rfl (Or.inl rfl) (pe_make T.M_Pattern (G_Pattern_init T) (hr.mono (by decide)) rfl T.g_Pattern T.b_Pattern_init .nil passL (pa_cons pe_int (pa_cons pe_int (pa_cons (pe_revL (pv 6)) pa_nil)))))
      (pss_cons (ps_if (pt_cmpR op_ge (pv 4) pe_int (nomark _)) (pss_one (ps_ret (pe_call (G__law_has T) (hr.mono (by decide)) rfl T.g__law_has T.F__law_has.kp T.b__law_has .nil pass0 (pa_cons (pv 8) (pa_cons (pe_tup (pa_cons pe_int (pa_cons pe_int (pa_cons (pe_lst (pa_cons (pe_tup (pa_cons pe_int (pa_cons pe_int pa_nil))) pa_nil)) pa_nil)))) pa_nil))))) pss_nil)
      (pss_one (ps_ret (pe_call (G__law_has T) (hr.mono (by decide)) rfl T.g__law_has T.F__law_has.kp T.b__law_has .nil pass0 (pa_cons (pv 8) (pa_cons (pe_tup (pa_cons pe_int (pa_cons pe_int (pa_cons (pv 6) pa_nil)))) pa_nil)))))))))))))))), ?_⟩
    obtain ⟨hn', rfl⟩ := Int.eq_ofNat_of_zero_le h0
    obtain ⟨pn, rfl⟩ := Int.eq_ofNat_of_zero_le (show 0 ≤ p by omega)
    refine st_letX ⟨_, rfl, (v_rI0 (g := fun i j => .int (i + j)) (val_var rfl) (val_var rfl)) _ (lst_pair val_c val_c fun pl u H1 epl eu plf s1 => ⟨pl, _, [(0, 1)], hn' + pn, rfl, SqL.of epl, Rw.cons (a := (0, 1)) eu Rw.nil, by decide, by omega, fun bl H2 ebl blf s2 => ?_⟩)⟩
    refine ⟨bl, bitsOf (hn' + pn) [(0, 1)], hn', rfl, ebl, by rw [bits_len]; omega, by rw [bits_len]; omega, fun t rl least start L H3 can fm lenL rlf s3 => ?_⟩
    have can := can.congr fun t ht => ext_bits (by omega) ht
    have p3 := hp.same ((s1.trans s2).trans s3)
    have f3 := Fr.of (l := l) (cl := cl) ((s1.trans s2).trans s3)
    obtain ⟨r1, r2⟩ := (hp.same (s1.trans s2)).off rlf
    clear s1 s2 s3 rlf ebl blf epl eu plf lenL hp
    refine st_letX (draw p3 rfl val_c (by omega) (by decide) (by decide) fun at' H4 d0 d1 p4 f4 => ?_)
    have fm4 := fm.fr f4 p3 r1 r2
    have f04 := f3.trans f4
    clear fm f3 f4 p3
    refine st_letX (rep_pair 5001 rfl (by omega) val_c val_c fun ml u H5 eml eu mlf s5 => ?_)
    obtain ⟨m1, m2⟩ := p4.off mlf
    have rm : rl ≠ ml := fun z => by
      obtain ⟨rs, _, er, _⟩ := fm4
      rw [z, mlf] at er
      cases er
    have fm5 := fm4.same s5
    have p5 := p4.same s5
    have f05 := f04.trans (Fr.of s5)
    have rw5 : Rw H5 (List.replicate 5001 (V.ref u)) (List.replicate 5001 (0, 1)) := Rw.rep eu
    have fm5' := fm5
    refine st_shareS (fun σ' H' => σ' = [some (.ref l), some (.int hn'), some (.int pn), some (.ref t), some (.int at'), some (.ref ml), none, none, none] ∧ FmAt H' t rl start least L ∧ PoolAt H' l cl (n + 1) ∧ Fr l cl H H' ∧ ∃ as S, H' ml = some (.lst as) ∧ Rw H' as S ∧ S.length = 5001) ?_ fun N hN => ?_
    case refine_2 =>
      refine st_ifp (q := at' < 5001) (b := decide (at' < 5001)) (ans_v (v_rI0 (g := fun i j => .bl (decide (i < j))) (val_var rfl) val_c)) decide_eq_true_iff (fun c => ?_) fun c => ?_
      · refine st_putPair val_c val_c (fun _ => val_var rfl) (fun _ => val_var rfl) (j := at'.toNat) eml (by rw [List.length_replicate]; unfold ixN; rw [if_pos d0, if_pos (by omega)]) fun v hv => hN _ _ ⟨rfl, ?_⟩
        have s6 := Same.new (o := .tup [V.int 2, V.int 1]) hv
        have b6 : But ml H5 (upd (upd H5 v (.tup [V.int 2, V.int 1])) ml (.lst ((List.replicate 5001 (V.ref u)).set at'.toNat (.ref v)))) := (But.refl _ _).same s6 |>.upd
        have nv : v ≠ ml := fun z => by rw [z, eml] at hv; cases hv
        refine ⟨fm5.but b6 eml rm, p5.but b6 m1.symm m2.symm, fun b o eb n1 n2 => b6 _ _ (f05 _ _ eb n1 n2) fun z => ?_, _, _, upd_same, (rw5.but b6 eml (by intro xs z; cases z)).set (a := (2, 1)) ((upd_ne nv).trans upd_same) _, by rw [List.length_set, List.length_replicate]⟩
        have := f04 _ _ eb n1 n2
        rw [z, mlf] at this
        cases this
      · exact hN _ _ ⟨rfl, fm5, p5, f05, _, _, eml, rw5, by rw [List.length_replicate]⟩
    clear fm5 fm5' p5 f05 rw5 rm m1 m2 s5 mlf eu eml fm4 f04 p4
    rintro σ' H6 ⟨rfl, fm6, p6, f06, as, S, e6, rw6, lS⟩
    refine st_asked (.many "stretches" 5001) many_s (fun R r => ⟨_, rfl, _, rfl, _, rfl, 0, .int hn', .int pn, .ref ml, .many "stretches" S.length, rfl, .pMany (Or.inl (SqL.of e6)) rw6.toA (by omega) (by omega) (by omega) (by omega), fun t' H' et s' => r t' H' (by rw [lS] at et; exact et) s'⟩) (fun H1 R r => ⟨by show 4 ≤ sizeLine; decide, fun p hp => r _ _ upd_same (Same.new hp)⟩) fun H7 s7 => ?_
    have fm7 := fm6.same s7
    have p7 := p6.same s7
    have f07 := f06.trans (Fr.of s7)
    clear fm6 p6 f06 e6 rw6 lS s7
    have iL : ∀ t : Int, inL (List.replicate 5000 (0, 1)) t = inL [(0, 1)] t := fun t => inL_rep (by omega)
    refine guard_sure (sureB fun Q' q => hasF (fun R r => ?_) (fun _ => val_var rfl) fm7 q) fun H8 s8 => ?_
    · refine mk3 (val_var rfl) (val_var rfl) (rep_pair 5000 rfl (by omega) val_c val_c fun m2 v H8 em2 ev _ s8 => ?_)
      refine newPat (Or.inl (SqL.of em2)) (Rw.rep (a := (0, 1)) ev).toA (by omega) (by omega) (by rw [List.length_replicate]; omega) (fun b hb => ?_) (mkForm (can.congr fun t ht => ?_) fun x H9 pat s9 => r x H9 pat (s8.trans s9))
      · rw [(List.mem_replicate.mp hb).2]
        dsimp only
        omega
      · unfold ext
        dsimp only
        rw [iL]
    have p8 := p7.same s8
    have f08 := f07.trans (Fr.of s8)
    clear fm7 p7 f07 s8 can
    refine st_asked (.many "minutes" 5001) many_m (fun R r => rep_one 5001 rfl (by omega) (val_var rfl) fun m3 H9 em3 s9 => ⟨1, .int 0, .int 0, .ref m3, .many "minutes" (List.replicate 5001 at').length, rfl, .oMany (Or.inl (SqL.of em3)) (by rw [List.length_replicate]; omega) (by rw [List.length_replicate]; omega), fun t' H' et s' => r t' H' (by rw [List.length_replicate] at et; exact et) (s9.trans s')⟩) (fun H1 R r => ⟨by show 4 ≤ sizeLine; decide, fun p hp => r _ _ upd_same (Same.new hp)⟩) fun H9 s9 => ?_
    have p9 := p8.same s9
    have f09 := f08.trans (Fr.of s9)
    clear p8 f08 s9
    have okA : ∀ d ∈ List.replicate 5000 at', 0 ≤ d ∧ d < 10 ^ 12 := fun d hd => by
      rw [(List.mem_replicate.mp hd).2]
      omega
    refine guard_sure (sureB fun Q' q => hasT (fun R r => ⟨rfl, rep_one 5000 rfl (by omega) (val_var rfl) fun m4 H10 em4 s10 => ⟨m4, List.replicate 5000 at', rfl, Or.inl (SqL.of em4), by rw [List.length_replicate]; omega, fun z => by rw [List.length_replicate] at z; omega, fun _ i b hb nb _ => absurd (okA b (List.mem_of_getElem? hb)) nb, fun _ _ => mkForm (once_canon (once_rep (by omega)) okA) fun x H' pat s' => r x H' pat (s10.trans s')⟩⟩) (fun _ => v_rI0 (g := fun i j => .int (i + j)) (val_var rfl) val_c) (fun _ => val_c) (fun _ => val_var rfl) (fun _ => v_rI0 (g := fun i j => .int (i + j)) (val_var rfl) val_c) q) fun H10 s10 => ?_
    have p10 := p9.same s10
    have f010 := f09.trans (Fr.of s10)
    clear p9 f09 s10 okA
    refine st_letX (lcR1V val_c (by decide) (by decide) ?_)
    refine cg_R (n := 5000) (keepE at') (RelE 5000) RelE.mono (by omega) (fun D i H' bs hD hi eD s' C q => ?_) fun D bs H11 hD eD ar s11 => ?_
    · have e0 : (0 : Int) + (i : Int) = i := by omega
      rw [e0]
      refine g_name (q _ _ (But.refl _ _) rfl rfl (ans_neI (val_var rfl) (val_var rfl)) fun _ => Gives.pair (x := .int (2 * (i : Int))) (y := .int (2 * (i : Int) + 1)) eD (v_rI (g := fun i j => .int (i * j)) val_c (val_var rfl) (Or.inl ⟨by omega, by omega⟩)) (v_rI0 (g := fun i j => .int (i + j)) (v_rI (g := fun i j => .int (i * j)) val_c (val_var rfl) (Or.inl ⟨by omega, by omega⟩)) val_c) fun t ht n => ⟨t, rfl, n, upd_same⟩)
    have rw11 : Rw H11 bs (evens at') := evens_of ar
    have p11 := p10.same s11
    have f011 := f010.trans (Fr.of s11)
    clear p10 f010 s11 ar
    refine st_letX (mkRev val_c val_c (val_var rfl) eD rw11 (by omega) (by omega) evens_len evens_ok fun x hd q S H13 can pat s13 => ?_)
    have eD13 := s13 _ _ eD
    have rw13 := rw11.same s13
    have kk : ∀ H', Same H13 H' → Q (.bl true) H' := fun H' s' => k H' ((p11.same s13).same s') (f011.trans (Fr.of (s13.trans s')))
    refine st_guard (q := 5000 ≤ at') (b := decide (5000 ≤ at')) (ans_v (v_rI0 (g := fun i j => .bl (decide (j ≤ i))) (val_var rfl) val_c)) decide_eq_true_iff (fun c => ?_) fun c => ?_
    · obtain ⟨rfl, rfl, rfl⟩ := can.unique (all_evens c)
      exact hasT (Mk.var rfl pat) (fun _ => val_c) (fun _ => val_c) (fun _ => val_c) (fun _ => val_c) kk
    · obtain ⟨rfl, rfl, rfl⟩ := can.unique (evens_canon d0 (by omega))
      refine ⟨_, rfl, _, rfl, by show 3 ≤ sizeLine; decide, fun t' ht' => ?_⟩
      have s14 := Same.new (o := .tup [.int 0, .int 10000, .ref D]) ht'
      exact ⟨x, t', D, 0, 10000, _, rfl, pat.same s14, ⟨bs, upd_same, s14 _ _ eD13, rw13.same s14⟩, fun H' s' => kk H' (s14.trans s')⟩
end
end My

namespace My
open PySem L2
/-! ### the stretches taken by as times as long -/
def byL (b : Int) (L : List Iv) : List Iv := L.map fun a => (a.1 * b, a.2 * b)
theorem inL_by {b : Int} {L : List Iv} {t : Int} (hb : 1 ≤ b) : inL (byL b L) t = true ↔ inL L (t / b) = true := by
  rw [inL_iff, inL_iff]
  unfold byL
  constructor
  · rintro ⟨x, hx, z⟩
    obtain ⟨a, ha, rfl⟩ := List.mem_map.mp hx
    exact ⟨a, ha, (div_range hb).mpr z⟩
  · rintro ⟨a, ha, z⟩
    exact ⟨_, List.mem_map.mpr ⟨a, ha, rfl⟩, (div_range hb).mp z⟩
theorem ext_ev {h p : Int} {X : Int → Prop} (p0 : 0 ≤ p) : Ev h p (ext h p X) := fun t ht => by
  rw [ext_tail (show h ≤ t + p by omega), ext_tail ht, show t + p - h = t - h + p by omega, Int.add_emod_right]
theorem by_canon {h p b : Int} {L S : List Iv} {s l : Int} (c : Canon (ext h p fun t => inL L t = true) s l S) (hb : 1 ≤ b) (h0 : 0 ≤ h) (p1 : 1 ≤ p) : Canon (ext (h * b) (p * b) fun t => inL (byL b L) t = true) (s * b) (if l > 1 then l * b else 1) (scaleL b (s * b + if l > 1 then l * b else 1) S) :=
  (c.scale hb).congr fun t ht => (ext_scale (Y := fun t => inL L t = true) hb h0 p1 (fun u _ => inL_by hb) ht).symm
theorem by_in {h p : Nat} {b : Int} {L S : List Iv} {hd q : Int} (c : Canon (ext (h * b) (p * b) fun t => inL (byL b L) t = true) hd q S) (hb : 1 ≤ b) (p1 : 1 ≤ p) (m : Int) : (decide (0 ≤ m) && inL S (placeOf hd q m)) = lawIn h (bitsOf (h + p) L) b m := bool_ext (by
  rw [canon_in' c]
  unfold lawIn
  rw [Bool.and_eq_true, decide_eq_true_eq]
  refine and_congr_right fun m0 => ?_
  rw [ext_scale (Y := fun t => inL L t = true) hb (by omega) (by omega) (fun u _ => inL_by hb) m0, ← ext_bits p1 (Int.ediv_nonneg m0 (by omega))]
  rfl)
/-- what is no list stays -/
def NL (H H' : Hp) : Prop := ∀ b o, H b = some o → (∀ xs, o ≠ .lst xs) → H' b = some o
theorem PatAt.nl {a : Ad} {H H' : Hp} {x : Addr} {h q : Int} {S : List Iv} (c : PatAt a H x h q S) (n : NL H H') : PatAt a H' x h q S :=
  let ⟨dx, t, bs, u, e1, e2, e3, e4, e5, e6⟩ := c; ⟨dx, t, bs, u, n _ _ e1 (by intro xs z; cases z), n _ _ e2 (by intro xs z; cases z), ⟨e3.1, fun i b e => let ⟨v, y, z⟩ := e3.2 i b e; ⟨v, y, n _ _ z (by intro xs w; cases w)⟩⟩, n _ _ e4 (by intro xs z; cases z), e5, e6⟩
theorem a_noT {t : TT} {σ : St} {H : Hp} (h : Ans t σ H true) : Ans (tNot t) σ H false := fun QT q => h _ q
theorem st_next {D : Ends} {σ : St} {H : Hp} (h : D.nx σ H) : tNext D σ H := h
theorem st_asgX {te : TE} {D : Ends} {σ : St} {H : Hp} {i : Nat} (h : te σ H fun v H1 => D.nx (σ.set i (some v)) H1) : tAsg te (gName i) D σ H := h
/-- a pair, or a list of two that was laid after H7 -/
def HItem (H7 : Hp) (hl : Addr) (H : Hp) (t : Addr) : Prop := (∃ x y : Int, H t = some (.tup [.int x, .int y])) ∨ (H7 t = none ∧ t ≠ hl ∧ ∃ x y : Int, H t = some (.lst [.int x, .int y]))
def HRow (H7 : Hp) (hl : Addr) (H : Hp) (hs : List V) (M : List Iv) : Prop := hs.length = M.length ∧ ∀ (i : Nat) (a : Iv), M[i]? = some a → ∃ t : Addr, hs[i]? = some (V.ref t) ∧ (H t = some (.tup [.int a.1, .int a.2]) ∨ (H7 t = none ∧ t ≠ hl ∧ H t = some (.lst [.int a.1, .int a.2])))
theorem HRow.same {H7 : Hp} {hl : Addr} {H H' : Hp} {hs : List V} {M : List Iv} (h : HRow H7 hl H hs M) (s : Same H H') : HRow H7 hl H' hs M := ⟨h.1, fun i a e => by
  obtain ⟨t, w, z⟩ := h.2 i a e
  exact ⟨t, w, z.imp (s _ _) fun ⟨x, y, v⟩ => ⟨x, y, s _ _ v⟩⟩⟩
theorem HRow.toA {K : PySem.W.Frag} {H7 : Hp} {hl : Addr} {H : Hp} {hs : List V} {M : List Iv} (h : HRow H7 hl H hs M) : RwA K H hs M := ⟨h.1, fun i a e => by
  obtain ⟨t, w, z | ⟨_, _, z⟩⟩ := h.2 i a e
  · exact ⟨t, w, Or.inr (SqT.of z)⟩
  · exact ⟨t, w, Or.inl (SqL.of z)⟩⟩
theorem Rw.hrow {H7 : Hp} {hl : Addr} {H : Hp} {hs : List V} {M : List Iv} (h : Rw H hs M) : HRow H7 hl H hs M := ⟨h.1, fun i a e => let ⟨t, w, z⟩ := h.2 i a e; ⟨t, w, Or.inl z⟩⟩
/-- the i-th of [list(a) for a in row] -/
def RelL (M : List Iv) (H7 : Hp) (D : Addr) (i : Nat) (v : V) (H : Hp) : Prop := ∃ (t : Addr) (y : Iv), v = .ref t ∧ t ≠ D ∧ M[i]? = some y ∧ H7 t = none ∧ H t = some (.lst [.int y.1, .int y.2])
theorem RelL.mono {M : List Iv} {H7 : Hp} (D : Addr) (i : Nat) (v : V) (H H' : Hp) (h : RelL M H7 D i v H) (b : But D H H') : RelL M H7 D i v H' := let ⟨t, y, e, n, m, o, z⟩ := h; ⟨t, y, e, n, m, o, b _ _ z n⟩
theorem lists_of {M : List Iv} {H7 : Hp} {D : Addr} {H : Hp} {n : Nat} {bs : List V} (h : AllR (fun i v => RelL M H7 D i v H) ((List.range n).filter fun _ => true) bs) (e : n = M.length) : HRow H7 D H bs M := by
  obtain ⟨h1, h2⟩ := h.all
  refine ⟨by omega, fun i a ha => ?_⟩
  have hi := (List.getElem?_eq_some_iff.mp ha).1
  have hb := List.getElem?_eq_getElem (l := bs) (i := i) (by omega)
  obtain ⟨t, y, e1, n1, m, o, z⟩ := h2 i _ hb
  rw [ha] at m
  cases m
  exact ⟨t, by rw [hb, e1], Or.inr ⟨o, n1, z⟩⟩
/-- Pattern(h, p, L), the list or tuple known -/
theorem mkSeq {a : Ad} {K : PySem.W.Frag} {ta tb tc : TE} {σ : St} {H : Hp} {Q : VK} {h p : Int} {L : List Iv} (ha : Val ta σ H (.int h)) (hb : Val tb σ H (.int p)) (hc : ∀ R : VK, (∀ m as H', SqA K H' m as → RwA K H' as L → Same H H' → R (.ref m) H') → tc σ H R) (c1 : 0 ≤ h ∧ h ≤ 10 ^ 12) (c2 : 1 ≤ p ∧ p ≤ 10 ^ 12) (hl : L.length ≤ 5000) (ok : ∀ b ∈ L, 0 ≤ b.1 ∧ b.1 < b.2 ∧ b.2 ≤ h + p)
    (k : NewPat a H (ext h p fun t => inL L t = true) Q) : tMake a.c_Pattern (spPat a K) [] E0 (tCons ta (tCons tb (tCons tc tNil))) σ H Q :=
  mk3 ha hb (hc _ fun _ _ _ hm hr s => newPat hm hr c1 c2 hl ok (k.same s))
theorem Mk.never' {a : Ad} {σ : St} {H : Hp} : Mk a (tSMeth a.c_Pattern (spNever a) [] E0 (tC (.ref a.c_Pattern))) σ H 0 1 [] := fun R r => ⟨rfl, rfl, mkForm (never_canon (by omega) (by omega)) r⟩
theorem Mk.always' {a : Ad} {σ : St} {H : Hp} : Mk a (tSMeth a.c_Pattern (spAlways a) [] E0 (tC (.ref a.c_Pattern))) σ H 0 1 [(0, 1)] := fun R r => ⟨rfl, rfl, mkForm always_canon r⟩
def spLaw (K : PySem.W.Frag) : Sp := fun vs H Q _ => ∃ (s : Addr) (ns : List Int), vs = [.ref s] ∧ SqL K H s (ns.map V.int) ∧ ns.length ≤ 63 ∧ ∀ H', Q (.bl true) H'
section
variable {P : Program} {w : World} {K : PySem.W.Frag} {mg : Str → Option Value} {base : Heap} {a : Ad}
theorem G_law (T : Tx K mg a) : FnOk P w K mg base (L2.CX0) 12 a.f_law a.d_law ["script"] (spLaw K) := by
  refine T.F_law.ok sc_law (fun vs H Q E h => ?_) (fun cdv A outer s H vs Q E hr h => ?_)
  · obtain ⟨sc, ns, rfl, _⟩ := h
    rfl
  · obtain ⟨sc, ns, rfl, hsc, hns, k⟩ := h
    refine ⟨_, (pss_cons (ps_set (i := 1) sc_law.nd rfl (Or.inl rfl) (pe_call (G__law_start T) (hr.mono (by decide)) rfl T.g__law_start T.F__law_start.kp T.b__law_start .nil pass0 (pa_cons (pv 0) pa_nil)))
      (pss_cons (ps_asg (pe_call (G__law_drawn T) (hr.mono (by decide)) rfl T.g__law_drawn T.F__law_drawn.kp T.b__law_drawn .nil pass0 (pa_cons (pv 1) pa_nil)) (pg_tup rfl (pgs_cons (pg_name (i := 2) sc_law.nd rfl (Or.inl rfl)) (pgs_cons (pg_name (i := 3) sc_law.nd rfl (Or.inl rfl)) (pgs_cons (pg_name (i := 4) sc_law.nd rfl (Or.inl rfl)) pgs_nil)))))
      (pss_cons (ps_set (i := 5) sc_law.nd rfl (Or.inr rfl) (pe_call (G__law_pick_factor T) (hr.mono (by decide)) rfl T.g__law_pick_factor T.F__law_pick_factor.kp T.b__law_pick_factor .nil pass0 (pa_cons (pv 1) (pa_cons (pe_callB (call_max2 rfl) (by rfl) T.n_max (by decide +kernel) (pa_cons (pv 2) (pa_cons (pv 3) pa_nil))) pa_nil))))
      (pss_cons (ps_set (i := 6) sc_law.nd rfl (Or.inl rfl) (pe_call (G__law_row_of T) (hr.mono (by decide)) rfl T.g__law_row_of T.F__law_row_of.kp T.b__law_row_of .nil pass0 (pa_cons (pe_op op_add (pv 2) (pv 3)) (pa_cons (pv 4) pa_nil))))
      (pss_cons (ps_set (i := 7) sc_law.nd rfl (Or.inl rfl) (pe_call (G__law_scaled T) (hr.mono (by decide)) rfl T.g__law_scaled T.F__law_scaled.kp T.b__law_scaled .nil pass0 (pa_cons (pe_call (G__law_form T) (hr.mono (by decide)) rfl T.g__law_form T.F__law_form.kp T.b__law_form .nil pass0 (pa_cons (pv 2) (pa_cons (pv 6) pa_nil))) (pa_cons (pv 5) pa_nil))))
      (pss_cons (ps_setLc (i := 8) (own := [("a", 9)]) (g := gName 9) (tt := tYes) rfl sc_law.nd rfl rfl (sw_true rfl rfl rfl (by decide +kernel)) (pi_list (pv 4)) (blkOk_by (own := [("a", 9)]) (N := ["script", "pool", "head", "period", "pairs", "by", "bits", "form", "row", "a", "handed", "told", "start", "length", "others", "due", "second"]) (sc := defScope s_law) (by decide +kernel)) (fun _ _ _ _ _ => (pg_name (i := 9) sc_law.nd rfl (Or.inl rfl))) (fun _ _ _ _ _ => pts_nil) (fun _ _ _ _ _ => (pe_tup (pa_cons (pe_op op_mul (pe_ix (ix_tupK K) (pv 9) pe_int (fun _ _ => rfl)) (pv 5)) (pa_cons (pe_op op_mul (pe_ix (ix_tupK K) (pv 9) pe_int (fun _ _ => rfl)) (pv 5)) pa_nil)))))
      (pss_cons (ps_set (i := 10) sc_law.nd rfl (Or.inl rfl) (pe_callTy call_list_of (by rfl) T.n_list (by decide +kernel) (pa_cons (pv 8) pa_nil)))
      (pss_cons (ps_if (pt_cmpR op_eq (pe_call (G__law_draw T) (hr.mono (by decide)) rfl T.g__law_draw T.F__law_draw.kp T.b__law_draw .nil pass0 (pa_cons (pv 1) (pa_cons pe_int pa_nil))) pe_int (nomark _)) (pss_one (ps_setLc (i := 10) (own := [("a", 9)]) (g := gName 9) (tt := tYes) rfl sc_law.nd rfl rfl (sw_true rfl rfl rfl (by decide +kernel)) (pi_list (pv 8)) (blkOk_by (own := [("a", 9)]) (N := ["script", "pool", "head", "period", "pairs", "by", "bits", "form", "row", "a", "handed", "told", "start", "length", "others", "due", "second"]) (sc := defScope s_law) (by decide +kernel)) (fun _ _ _ _ _ => (pg_name (i := 9) sc_law.nd rfl (Or.inl rfl))) (fun _ _ _ _ _ => pts_nil) (fun _ _ _ _ _ => (pe_callTy (call_lstK K) (by rfl) T.n_list (by decide +kernel) (pa_cons (pv 9) pa_nil))))) pss_nil)
      (pss_cons (ps_set (i := 11) sc_law.nd rfl (Or.inl rfl) (pe_make T.M_Pattern (G_Pattern_init T) (hr.mono (by decide)) rfl T.g_Pattern T.b_Pattern_init .nil passL (pa_cons (pe_op op_mul (pv 2) (pv 5)) (pa_cons (pe_op op_mul (pv 3) (pv 5)) (pa_cons (pv 10) pa_nil)))))
      (pss_cons (ps_if (PW.pt (pw_or (pt_cmpR (op_neD hr.units) (pe_lc (own := [("a", 9)]) (g := gName 9) (tt := tYes) rfl sc_law.nd (pi_list (pv 10)) (blkOk_by (own := [("a", 9)]) (N := ["script", "pool", "head", "period", "pairs", "by", "bits", "form", "row", "a", "handed", "told", "start", "length", "others", "due", "second"]) (sc := defScope s_law) (by decide +kernel)) (fun _ _ _ _ _ => (pg_name (i := 9) sc_law.nd rfl (Or.inl rfl))) (fun _ _ _ _ _ => pts_nil) (fun _ _ _ _ _ => (pe_callTy (call_tupK K) (by rfl) T.n_tuple (by decide +kernel) (pa_cons (pv 9) pa_nil)))) (pv 8) (nomark _)) (pw_or1 (pt_not (pt_val (pe_call (G__law_has T) (hr.mono (by decide)) rfl T.g__law_has T.F__law_has.kp T.b__law_has .nil pass0 (pa_cons (pv 11) (pa_cons (pv 7) pa_nil)))))))) (pss_one (ps_ret pe_bl)) pss_nil)
      (pss_cons (ps_expr (pe_bm PySem.F.plainAttrs_list PySem.F.slot_list_append PySem.F.type_list_append mt_append (pv 10) (pa_cons (pe_lst (pa_cons pe_int (pa_cons pe_int pa_nil))) pa_nil)))
      (pss_cons (ps_for PassesOwn.never rfl (pi_list (pv 10)) (pg_name (i := 9) sc_law.nd rfl (Or.inl rfl)) (pss_one (ps_if (pt_val (pe_callB call_isi (by rfl) T.n_isinstance (by decide +kernel) (pa_cons (pv 9) (pa_cons (pe_bltn (v := .ty "list") rfl T.n_list (by decide +kernel) rfl) pa_nil)))) (pss_one (ps_asg (pe_op op_add (pe_ix ix_list (pv 9) pe_int (fun _ _ => rfl)) pe_int) (pg_sub (pv 9) pe_int set_list))) pss_nil)))
      (pss_cons (ps_asg (pe_call (G__law_drawn T) (hr.mono (by decide)) rfl T.g__law_drawn T.F__law_drawn.kp T.b__law_drawn .nil pass0 (pa_cons (pv 1) pa_nil)) (pg_tup rfl (pgs_cons (pg_name (i := 12) sc_law.nd rfl (Or.inl rfl)) (pgs_cons (pg_name (i := 13) sc_law.nd rfl (Or.inl rfl)) (pgs_cons (pg_name (i := 14) sc_law.nd rfl (Or.inl rfl)) pgs_nil)))))
      (pss_cons (ps_set (i := 15) sc_law.nd rfl (Or.inl rfl) (pe_call (G__law_form T) (hr.mono (by decide)) rfl T.g__law_form T.F__law_form.kp T.b__law_form .nil pass0 (pa_cons (pv 12) (pa_cons (pe_call (G__law_row_of T) (hr.mono (by decide)) rfl T.g__law_row_of T.F__law_row_of.kp T.b__law_row_of .nil pass0 (pa_cons (pe_op op_add (pv 12) (pv 13)) (pa_cons (pv 14) pa_nil))) pa_nil))))
      (pss_cons (ps_set (i := 16) sc_law.nd rfl (Or.inl rfl) (pe_make T.M_Pattern (G_Pattern_init T) (hr.mono (by decide)) rfl T.g_Pattern T.b_Pattern_init .nil passL (pa_cons (pv 12) (pa_cons (pv 13) (pa_cons (pe_callTy call_tuple_of (by rfl) T.n_tuple (by decide +kernel) (pa_cons (pv 14) pa_nil)) pa_nil)))))
      (pss_cons (ps_if (PW.pt (pw_or (pt_not (pt_val (pe_call (G__law_has T) (hr.mono (by decide)) rfl T.g__law_has T.F__law_has.kp T.b__law_has .nil pass0 (pa_cons (pv 16) (pa_cons (pv 15) pa_nil))))) (pw_or1 (pt_not (pt_val (pe_call (G__law_has T) (hr.mono (by decide)) rfl T.g__law_has T.F__law_has.kp T.b__law_has .nil pass0 (pa_cons (pv 11) (pa_cons (pv 7) pa_nil)))))))) (pss_one (ps_ret pe_bl)) pss_nil)
      (pss_cons (ps_if (pt_not (pt_val (pe_call (G__law_minutes T) (hr.mono (by decide)) rfl T.g__law_minutes T.F__law_minutes.kp T.b__law_minutes .nil pass0 (pa_cons (pv 1) (pa_cons (pv 11) (pa_cons (pv 2) (pa_cons (pv 6) (pa_cons (pv 5) pa_nil)))))))) (pss_one (ps_ret pe_bl)) pss_nil)
      (pss_cons (ps_if (pt_not (pt_val (pe_call (G__law_refused T) (hr.mono (by decide)) rfl T.g__law_refused T.F__law_refused.kp T.b__law_refused .nil pass0 (pa_cons (pv 1) (pa_cons (pe_op op_mul (pv 2) (pv 5)) (pa_cons (pe_op op_mul (pv 3) (pv 5)) (pa_cons (pv 8) pa_nil))))))) (pss_one (ps_ret pe_bl)) pss_nil)
      (pss_cons (ps_if (pt_not (pt_val (pe_call (G__law_others T) (hr.mono (by decide)) rfl T.g__law_others T.F__law_others.kp T.b__law_others .nil pass0 (pa_cons (pv 1) pa_nil)))) (pss_one (ps_ret pe_bl)) pss_nil)
      (pss_cons (ps_if (PW.pt (pw_or (pt_not (pt_val (pe_call (G__law_has T) (hr.mono (by decide)) rfl T.g__law_has T.F__law_has.kp T.b__law_has .nil pass0 (pa_cons (pe_smeth0 (pe_glob (v := .ref a.c_Pattern) rfl T.g_Pattern rfl) T.cr_Pattern T.sm_Pattern_never (G_Pattern_never T) (hr.mono (by decide)) T.F_Pattern_never.kp T.b_Pattern_never .nil passL) (pa_cons (pe_tup (pa_cons pe_int (pa_cons pe_int (pa_cons (pe_lst pa_nil) pa_nil)))) pa_nil))))) (pw_or1 (pt_not (pt_val (pe_call (G__law_has T) (hr.mono (by decide)) rfl T.g__law_has T.F__law_has.kp T.b__law_has .nil pass0 (pa_cons (pe_smeth0 (pe_glob (v := .ref a.c_Pattern) rfl T.g_Pattern rfl) T.cr_Pattern T.sm_Pattern_always (G_Pattern_always T) (hr.mono (by decide)) T.F_Pattern_always.kp T.b_Pattern_always .nil passL) (pa_cons (pe_tup (pa_cons pe_int (pa_cons pe_int (pa_cons (pe_lst (pa_cons (pe_tup (pa_cons pe_int (pa_cons pe_int pa_nil))) pa_nil)) pa_nil)))) pa_nil)))))))) (pss_one (ps_ret pe_bl)) pss_nil)
      (pss_cons (ps_if (PW.pt (pw_and (pt_cmpR op_eq (pe_call (G__law_draw T) (hr.mono (by decide)) rfl T.g__law_draw T.F__law_draw.kp T.b__law_draw .nil pass0 (pa_cons (pv 1) (pa_cons pe_int pa_nil))) pe_int (nomark _)) (pw_and1 (pt_not (pt_val (pe_call (G__law_large T) (hr.mono (by decide)) rfl T.g__law_large T.F__law_large.kp T.b__law_large .nil pass0 (pa_cons (pv 1) (pa_cons (pv 2) (pa_cons (pv 3) pa_nil))))))))) (pss_one (ps_ret pe_bl)) pss_nil)
      (pss_cons (ps_if (PW.pt (pw_or (pt_not (pt_val (pe_call (G__law_int T) (hr.mono (by decide)) rfl T.g__law_int T.F__law_int.kp T.b__law_int .nil pass0 (pa_cons (pe_glob (v := .int (10 ^ 40)) rfl T.g_FAR.choose_spec ⟨_, rfl⟩) pa_nil)))) (pw_or (pt_not (pt_val (pe_call (G__law_int T) (hr.mono (by decide)) rfl T.g__law_int T.F__law_int.kp T.b__law_int .nil pass0 (pa_cons (pe_glob (v := .int (10 ^ 12)) rfl T.g_LONG.choose_spec ⟨_, rfl⟩) pa_nil)))) (pw_or (pt_cmpR op_ne (pe_glob (v := .int (10 ^ 40)) rfl T.g_FAR.choose_spec ⟨_, rfl⟩) (pe_op op_pow pe_int pe_int) (nomark _)) (pw_or1 (pt_cmpR op_ne (pe_glob (v := .int (10 ^ 12)) rfl T.g_LONG.choose_spec ⟨_, rfl⟩) (pe_op op_pow pe_int pe_int) (nomark _))))))) (pss_one (ps_ret pe_bl)) pss_nil)
      (pss_one (ps_ret (pe_and (pe_call (G__law_has T) (hr.mono (by decide)) rfl T.g__law_has T.F__law_has.kp T.b__law_has .nil pass0 (pa_cons (pv 16) (pa_cons (pv 15) pa_nil))) (pe_one (pe_call (G__law_has T) (hr.mono (by decide)) rfl T.g__law_has T.F__law_has.kp T.b__law_has .nil pass0 (pa_cons (pv 11) (pa_cons (pv 7) pa_nil))))))))))))))))))))))))))))), ?_⟩
    refine st_letX ⟨_, rfl, sc, ns, rfl, hsc, hns, fun l cl H1 p1 _ _ _ => ?_⟩
    dsimp only
    refine st_seq ⟨_, rfl, l, cl, 0, rfl, p1, by decide, fun t pl as L h p H2 ok et epl rw2 plf p2 f2 => ⟨t, _, rfl, SqT.of et, rfl, _, _, rfl, _, _, rfl, _, _, rfl, rfl, ?_⟩⟩
    obtain ⟨h0, h1, q0, q1, lL, okL⟩ := ok
    obtain ⟨hn', rfl⟩ := Int.eq_ofNat_of_zero_le h0
    obtain ⟨pn, rfl⟩ := Int.eq_ofNat_of_zero_le (show 0 ≤ p by omega)
    obtain ⟨n1, n2⟩ := p1.off plf
    clear p1 plf et f2 hsc hns
    dsimp only
    obtain ⟨mx, hmx, mx1, mx2, mx3, mx4⟩ : ∃ mx : Int, mx = (if (pn : Int) > hn' then (pn : Int) else hn') ∧ 1 ≤ mx ∧ mx ≤ 100 ∧ (hn' : Int) ≤ mx ∧ (pn : Int) ≤ mx := ⟨_, rfl, by split <;> omega, by split <;> omega, by split <;> omega, by split <;> omega⟩
    refine st_letX ⟨_, rfl, _, rfl, _, rfl, _, _, rfl, ?_⟩
    rw [← hmx]
    refine ⟨l, cl, _, mx, rfl, p2, by omega, mx1, mx2, fun b H3 b1 bm p3 f3 => ?_⟩
    have epl3 := f3 _ _ epl n1 n2
    have rw3 := rw2.fr f3 p2
    have hb0 := Int.mul_nonneg h0 (show 0 ≤ b by omega)
    have pb1 : 1 * 1 ≤ (pn : Int) * b := Int.mul_le_mul q0 b1 (by decide) (by omega)
    have hbm : (hn' : Int) * b ≤ 10 ^ 12 := Int.le_trans (Int.le_trans (Int.mul_le_mul_of_nonneg_right mx3 (by omega)) (Int.le_of_eq (Int.mul_comm _ _))) bm
    have pbm : (pn : Int) * b ≤ 10 ^ 12 := Int.le_trans (Int.le_trans (Int.mul_le_mul_of_nonneg_right mx4 (by omega)) (Int.le_of_eq (Int.mul_comm _ _))) bm
    have b12 : b ≤ 10 ^ 12 := by
      have : 1 * b ≤ pn * b := Int.mul_le_mul_of_nonneg_right q0 (by omega)
      omega
    clear epl rw2 p2 f3 bm hmx mx1 mx2 mx3 mx4 mx
    refine st_letX ((v_rI0 (g := fun i j => .int (i + j)) (val_var rfl) (val_var rfl)) _ ⟨_, rfl, pl, as, L, hn' + pn, rfl, SqL.of epl3, rw3, by omega, by omega, fun bl H4 ebl blf s4 => ?_⟩)
    obtain ⟨bl1, bl2⟩ := p3.off blf
    refine st_letX ⟨_, rfl, _, rfl, bl, bitsOf (hn' + pn) L, hn', rfl, ebl, by rw [bits_len]; omega, by rw [bits_len]; omega, fun t0 rl0 least start S0 H5 can fm0 lenS _ s5 => ⟨_, rfl, t0, rl0, start, least, b, S0, rfl, fm0, by omega, can.p1, b1, b12, fun ft fl H6 fm flf s6 => ?_⟩⟩
    have cS := by_canon (can.congr fun t ht => ext_bits (by omega) ht) b1 h0 (by omega)
    obtain ⟨fl1, fl2⟩ := ((p3.same s4).same s5).off flf
    generalize (start : Int) * b + (if (least : Int) > 1 then (least : Int) * b else 1) = tp at fm cS
    generalize (start : Int) * b = hd at fm cS
    generalize (if (least : Int) > 1 then (least : Int) * b else 1) = q at fm cS
    generalize scaleL b tp S0 = S at fm cS
    clear can fm0 lenS flf blf
    have q1' := cS.p1
    have qm : q ≤ 10 ^ 12 := Int.le_trans (cS.least _ _ (by omega) (ext_ev (by omega))) pbm
    have s36 := (s4.trans s5).trans s6
    have epl6 := s36 _ _ epl3
    have rw6 := rw3.same s36
    have p6 := p3.same s36
    have ebl6 := s6 _ _ (s5 _ _ ebl)
    clear s4 s5 s6 s36 epl3 rw3 p3 ebl
    have la := rw6.1
    refine st_letX (lcL ⟨_, rfl, ?_⟩)
    refine cg_L (a := pl) (xs := as) (fun _ => true) (RelP (byL b L)) RelP.mono (SqL.of epl6) (by omega) (fun D i x H7 bs hD hx eD s7 C q => ?_) fun rl' rs H7 hrl erl ar s7 => ?_
    · obtain ⟨r, hr⟩ : ∃ r, L[i]? = some r := ⟨_, List.getElem?_eq_getElem (by rw [← la]; exact (List.getElem?_eq_some_iff.mp hx).1)⟩
      obtain ⟨u, w1, w2⟩ := (rw6.same s7).2 i r hr
      rw [hx] at w1
      cases w1
      have cm : ∀ z : Int, CMul z b := fun z => Or.inr ⟨by omega, by omega⟩
      exact g_name (q _ _ (But.refl _ _) rfl rfl (fun _ z => z) fun _ => Gives.pair eD (v_rI (g := fun i j => .int (i * j)) (v_ixT (val_var rfl) val_c (SqT.of w2) rfl) (val_var rfl) (cm _)) (v_rI (g := fun i j => .int (i * j)) (v_ixT (val_var rfl) val_c (SqT.of w2) rfl) (val_var rfl) (cm _)) fun t ht n => ⟨t, (r.1 * b, r.2 * b), rfl, n, by unfold byL; rw [List.getElem?_map, hr]; rfl, upd_same⟩)
    have rwM := pairs_of ar (by unfold byL; rw [List.length_map, la])
    have lM : (byL b L).length ≤ 6 := by unfold byL; rw [List.length_map]; omega
    have okM : ∀ x ∈ byL b L, OkB (hn' * b) (pn * b) x := fun x hx => by
      unfold byL at hx
      obtain ⟨y, hy, rfl⟩ := List.mem_map.mp hx
      have := okL y hy
      refine ⟨Int.mul_nonneg this.1 (by omega), Int.mul_lt_mul_of_pos_right this.2.1 (by omega), ?_⟩
      show y.2 * b ≤ hn' * b + pn * b
      rw [← Int.add_mul]
      exact Int.mul_le_mul_of_nonneg_right this.2.2 (by omega)
    obtain ⟨rl1, rl2⟩ := p6.off hrl
    have fm7 := fm.same s7
    have p7 := p6.same s7
    have ebl7 := s7 _ _ ebl6
    clear ar epl6 rw6 p6 ebl6 s7 fm hrl la okL lL n1 n2
    have hin := by_in cS b1 (by omega)
    generalize byL b L = M at rwM lM okM cS
    have erl7 := erl
    refine st_letX ⟨_, rfl, rl', _, rfl, Or.inl (SqL.of erl), fun h0l hh0 => ?_⟩
    have s7a := Same.new (o := .lst rs) hh0
    have eh0 : upd H7 h0l (.lst rs) h0l = some (.lst rs) := upd_same
    obtain ⟨ho1, ho2⟩ := p7.off hh0
    have p7a := p7.same s7a
    have rwA := rwM.same s7a
    have erlA := s7a _ _ erl
    generalize upd H7 h0l (.lst rs) = H7a at s7a eh0 p7a rwA erlA ⊢
    refine st_shareS (fun σ' H' => ∃ hl hs H8, σ' = [some (.ref sc), some (.ref l), some (.int hn'), some (.int pn), some (.ref pl), some (.int b), some (.ref bl), some (.ref ft), some (.ref rl'), none, some (.ref hl), none, none, none, none, none, none] ∧ H7 hl = none ∧ hl ≠ l ∧ hl ≠ cl ∧ PoolAt H8 l cl 30 ∧ Fr l cl H7 H8 ∧ Same H8 H' ∧ H' hl = some (.lst hs) ∧ HRow H8 hl H' hs M) ?_ fun N hN => ?_
    case refine_2 =>
      refine st_ifX (t_op' (draw p7a rfl val_c (by omega) (by decide) (by decide) fun d H8 d0 d1 p8 f8 => ⟨rfl, _, rfl, ?_⟩))
      have rw8 := rwA.fr f8 p7a
      have erl8 := f8 _ _ erlA rl1 rl2
      have p8' : PoolAt H8 l cl 30 := p8.mono (by omega)
      have f78 : Fr l cl H7 H8 := (Fr.of s7a).trans f8
      split
      · refine st_asgX (lcL ⟨_, rfl, ?_⟩)
        refine cg_L (a := rl') (xs := rs) (fun _ => true) (RelL M H8) RelL.mono (SqL.of erl8) (by rw [rw8.1]; omega) (fun D i x H9 bs hD hx eD s9 C q => ?_) fun hl hs H9 hhl ehl ar s9 => ?_
        · obtain ⟨r, hr⟩ : ∃ r, M[i]? = some r := ⟨_, List.getElem?_eq_getElem (by rw [← rw8.1]; exact (List.getElem?_eq_some_iff.mp hx).1)⟩
          obtain ⟨u, w1, w2⟩ := (rw8.same s9).2 i r hr
          rw [hx] at w1
          cases w1
          refine g_name (q _ _ (But.refl _ _) rfl rfl (fun _ z => z) fun _ => fun Q' q' => ⟨_, rfl, u, _, rfl, Or.inr (SqT.of w2), fun t' ht' => ?_⟩)
          have n' : t' ≠ D := fun z => by rw [z, eD] at ht'; cases ht'
          exact q' _ _ (fun c o e _ => Same.new ht' _ _ e) (upd_ne n'.symm) ⟨t', r, rfl, n', hr, (by
            cases e : H8 t' with
            | none => rfl
            | some o => rw [s9 _ _ e] at ht'; cases ht'), upd_same⟩
        · obtain ⟨z1, z2⟩ := p8.off hhl
          exact hN _ _ ⟨hl, hs, H8, rfl, f78.free (p7.mono (by omega)) hhl p8, z1, z2, p8', f78, s9, ehl, lists_of ar (by rw [rw8.1])⟩
      · exact hN _ _ ⟨h0l, rs, H8, rfl, hh0, ho1, ho2, p8', f78, Same.refl _, f8 _ _ eh0 ho1 ho2, rw8.hrow⟩
    clear erl7 hh0 s7a eh0 ho1 ho2 p7a rwA erlA
    rintro σ' H9 ⟨hl, hs, H8, rfl, hl7, hl1, hl2, p8, f78, s89, ehl, hr9⟩
    have cm : ∀ z : Int, CMul z b := fun z => Or.inr ⟨by omega, by omega⟩
    refine st_letX (mkSeq (L := M) (v_rI (g := fun i j => .int (i * j)) (val_var rfl) (val_var rfl) (cm _)) (v_rI (g := fun i j => .int (i * j)) (val_var rfl) (val_var rfl) (cm _)) (fun R r => ⟨_, rfl, r hl hs _ (Or.inl (SqL.of ehl)) hr9.toA (Same.refl _)⟩) ⟨hb0, hbm⟩ ⟨by omega, pbm⟩ (by omega) okM (mkForm cS fun x1 H10 pat s10 => ?_))
    have s810 := s89.trans s10
    have ehl10 := s10 _ _ ehl
    have hr10 := hr9.same s10
    have fm10 := (fm7.fr f78 p7 fl1 fl2).same s810
    have erl10 := s810 _ _ (f78 _ _ erl rl1 rl2)
    have rw10 := (rwM.fr f78 p7).same s810
    clear s10 hr9 ehl s89
    refine st_seq (st_ifX (t_op' (lcL ⟨_, rfl, ?_⟩)))
    refine cg_L (a := hl) (xs := hs) (fun _ => true) (RelP M) RelP.mono (SqL.of ehl10) (by rw [hr10.1]; omega) (fun D i x H11 bs hD hx eD s11 C q => ?_) fun D bs H11 hD eD ar s11 => ?_
    · obtain ⟨r, hr⟩ : ∃ r, M[i]? = some r := ⟨_, List.getElem?_eq_getElem (by rw [← hr10.1]; exact (List.getElem?_eq_some_iff.mp hx).1)⟩
      obtain ⟨u, w1, w2⟩ := hr10.2 i r hr
      rw [hx] at w1
      cases w1
      rcases w2 with w2 | ⟨_, _, w2⟩
      · exact g_name (q _ _ (But.refl _ _) rfl rfl (fun _ z => z) fun _ => fun Q' q' => ⟨_, rfl, u, _, rfl, Or.inr ⟨SqT.of (s11 _ _ w2), q' _ _ (But.refl _ _) rfl ⟨u, r, rfl, (fun z => by rw [z, hD] at w2; cases w2), hr, s11 _ _ w2⟩⟩⟩)
      · refine g_name (q _ _ (But.refl _ _) rfl rfl (fun _ z => z) fun _ => fun Q' q' => ⟨_, rfl, u, _, rfl, Or.inl ⟨SqL.of (s11 _ _ w2), fun t' ht' => ?_⟩⟩)
        have n' : t' ≠ D := fun z => by rw [z, eD] at ht'; cases ht'
        exact q' _ _ (fun c o e _ => Same.new ht' _ _ e) (upd_ne n'.symm) ⟨t', r, rfl, n', hr, upd_same⟩
    have rwD := pairs_of ar hr10.1
    refine ⟨_, rfl, .list (prow M), .list (prow M), .lst (SqL.of eD) rwD.dp, .lst (SqL.of (s11 _ _ erl10)) (rw10.same s11).dp, prow_shapedL _, prow_shapedL _, _, rfl, ?_⟩
    rw [PyData.eqv, prow_eqv, decide_eq_true rfl]
    refine iteF (not_sure (s_has (val_var rfl) (val_var rfl) (pat.same s11) (fm10.same s11)) fun H12 s12 => iteF ?_)
    have s1012 := s11.trans s12
    have s812 := s810.trans s1012
    have pat12 := pat.same s1012
    have ehl12 := s1012 _ _ ehl10
    have hr12 := hr10.same s1012
    clear rwD ar eD hD s11 s12 s1012 s810 pat fm10 erl10 rw10 ehl10 hr10
    dsimp only
    refine st_next ?_
    dsimp only
    refine st_seq (app_te rfl ehl12 ⟨by show 2 ≤ sizeLine; decide, fun u hu => ?_⟩)
    have s13 := Same.new (o := .lst [V.int 0, V.int 1]) hu
    have hlu : u ≠ hl := fun z => by rw [z, ehl12] at hu; cases hu
    have big : 1000000 ≤ sizeLine := by decide
    have lhs : hs.length < sizeLine := by have := hr12.1; omega
    refine ⟨hl, hs, .ref u, rfl, rfl, s13 _ _ ehl12, lhs, ?_⟩
    dsimp only
    have eu13 : upd (upd H12 u (.lst [V.int 0, V.int 1])) hl (.lst (hs ++ [.ref u])) u = some (.lst [.int 0, .int 1]) := (upd_ne hlu).trans upd_same
    have ehl13 : upd (upd H12 u (.lst [V.int 0, V.int 1])) hl (.lst (hs ++ [.ref u])) hl = some (.lst (hs ++ [.ref u])) := upd_same
    have b1213 : But hl H12 (upd (upd H12 u (.lst [V.int 0, V.int 1])) hl (.lst (hs ++ [.ref u]))) := ((But.refl _ _).same s13).upd
    have b813 : But hl H8 (upd (upd H12 u (.lst [V.int 0, V.int 1])) hl (.lst (hs ++ [.ref u]))) := b1213.same s812
    generalize upd (upd H12 u (.lst [V.int 0, V.int 1])) hl (.lst (hs ++ [.ref u])) = H13 at eu13 ehl13 b1213 b813 ⊢
    have pat13 := pat12.but b1213 ehl12
    have u8 : H8 u = none := by
      cases e : H8 u with
      | none => rfl
      | some o => rw [s812 _ _ e] at hu; cases hu
    have it13 : ∀ v ∈ hs ++ [V.ref u], ∃ t, v = V.ref t ∧ HItem H8 hl H13 t := fun v hv => by
      rcases List.mem_append.mp hv with h | h
      · obtain ⟨i, hi⟩ := List.mem_iff_getElem?.mp h
        have li := (List.getElem?_eq_some_iff.mp hi).1
        obtain ⟨t', w1, w2⟩ := hr12.2 i _ (List.getElem?_eq_getElem (by rw [← hr12.1]; exact li))
        rw [hi] at w1
        cases w1
        refine ⟨t', rfl, ?_⟩
        rcases w2 with w2 | ⟨z1, z2, w2⟩
        · exact Or.inl ⟨_, _, b1213 _ _ w2 (ne_of w2 ehl12 (by intro z; cases z))⟩
        · exact Or.inr ⟨z1, z2, _, _, b1213 _ _ w2 z2⟩
      · rw [List.mem_singleton.mp h]
        exact ⟨u, rfl, Or.inr ⟨u8, hlu, 0, 1, eu13⟩⟩
    clear eu13 b1213 u8 hlu s13 hu hr12 ehl12 pat12 s812
    generalize hs ++ [V.ref u] = hs' at ehl13 it13
    refine st_seq (st_forL (a := hl) (xs := hs') (fun R w => ⟨_, rfl, w⟩) (fun i σ' H' => (∃ v9, σ' = [some (.ref sc), some (.ref l), some (.int hn'), some (.int pn), some (.ref pl), some (.int b), some (.ref bl), some (.ref ft), some (.ref rl'), v9, some (.ref hl), some (.ref x1), none, none, none, none, none]) ∧ H' hl = some (.lst hs') ∧ But hl H8 H' ∧ NL H13 H' ∧ ∀ v ∈ hs', ∃ t, v = V.ref t ∧ HItem H8 hl H' t) ⟨⟨_, rfl⟩, ehl13, b813, fun _ _ e _ => e, it13⟩ (fun i σ' H' _ z => SqL.of z.2.1) ?_ ?_)
    · rintro i v σ' H' hv ⟨⟨v9, rfl⟩, e', b', nl', it'⟩
      obtain ⟨t', rfl, ht'⟩ := it' v (List.mem_of_getElem? hv)
      refine g_name ?_
      rcases ht' with ⟨x, y, w2⟩ | ⟨z1, z2, x, y, w2⟩
      · exact st_ifp (q := False) (b := false) (a_isi "tuple" (cn := "list") false (val_var rfl) (.base (.tup w2)) (by decide +kernel)) (by simp) (fun z => z.elim) fun _ => ⟨⟨_, rfl⟩, e', b', nl', it'⟩
      · refine st_ifp (q := True) (b := true) (a_isi "list" (cn := "list") true (val_var rfl) (.base (.lst w2)) (by decide +kernel)) (by simp) (fun _ => ?_) (fun z => (z trivial).elim)
        refine st_put (j := 1) (v := .int (y + 1)) (v_rI0 (g := fun i j => .int (i + j)) (v_ixL (val_var rfl) val_c (SqL.of w2) rfl) val_c) (val_var rfl) val_c w2 (by show ixN 2 1 = some 1; decide) ?_
        refine ⟨⟨_, rfl⟩, (upd_ne z2.symm).trans e', fun c o ec nc => (upd_ne (ne_of_none ec z1)).trans (b' _ _ ec nc), fun c o ec no => (upd_ne fun z => ?_).trans (nl' _ _ ec no), fun v hv => ?_⟩
        · have := nl' _ _ ec no
          rw [z, w2] at this
          cases this
          exact no _ rfl
        · obtain ⟨t2, rfl, h2⟩ := it' v hv
          refine ⟨t2, rfl, ?_⟩
          by_cases c : t2 = t'
          · rw [c]
            exact Or.inr ⟨z1, z2, x, y + 1, upd_same⟩
          · rcases h2 with ⟨x', y', w3⟩ | ⟨z3, z4, x', y', w3⟩
            · exact Or.inl ⟨x', y', (upd_ne c).trans w3⟩
            · exact Or.inr ⟨z3, z4, x', y', (upd_ne c).trans w3⟩
    rintro σ' H14 ⟨⟨v9, rfl⟩, _, b814, nl14, _⟩
    dsimp only
    have p14 : PoolAt H14 l cl 30 := p8.but b814 hl1.symm hl2.symm
    have f714 : Fr l cl H7 H14 := fun c o ec m1 m2 => b814 _ _ (f78 _ _ ec m1 m2) (ne_of_none ec hl7)
    have pat14 := pat13.nl nl14
    have fm14 := fm7.fr f714 p7 fl1 fl2
    have erl14 := f714 _ _ erl rl1 rl2
    have rw14 := rwM.fr f714 p7
    have ebl14 := f714 _ _ ebl7 bl1 bl2
    clear b814 nl14 it13 b813 ehl13 pat13 hl1 hl2 hl7 f78 p8 fm7 erl rwM ebl7 p7 f714
    refine st_seq ⟨_, rfl, l, cl, 30, rfl, p14, by decide, fun t2 pl2 as2 L2 h2 p2 H15 ok2 et2 epl2 rw2 plf2 p15 f15 => ⟨t2, _, rfl, SqT.of et2, rfl, _, _, rfl, _, _, rfl, _, _, rfl, rfl, ?_⟩⟩
    obtain ⟨g0, g1, r0, r1, lL2, okL2⟩ := ok2
    obtain ⟨hn2, rfl⟩ := Int.eq_ofNat_of_zero_le g0
    obtain ⟨pn2, rfl⟩ := Int.eq_ofNat_of_zero_le (show 0 ≤ p2 by omega)
    have pat15 := pat14.fr f15 p14
    have fm15 := fm14.fr f15 p14 fl1 fl2
    have erl15 := f15 _ _ erl14 rl1 rl2
    have rw15 := rw14.fr f15 p14
    have ebl15 := f15 _ _ ebl14 bl1 bl2
    clear pat14 fm14 erl14 rw14 ebl14 f15 p14 plf2 et2
    dsimp only
    refine st_letX ⟨_, rfl, (v_rI0 (g := fun i j => .int (i + j)) (val_var rfl) (val_var rfl)) _ ⟨_, rfl, pl2, as2, L2, hn2 + pn2, rfl, SqL.of epl2, rw2, by omega, by omega, fun bl2' H16 eb2 _ s16 => ?_⟩⟩
    refine ⟨bl2', bitsOf (hn2 + pn2) L2, hn2, rfl, eb2, by rw [bits_len]; omega, by rw [bits_len]; omega, fun t3 rl3 least3 start3 S3 H17 can3 fm3 lenS3 rl3f s17 => ?_⟩
    have can3 := can3.congr fun t ht => ext_bits (by omega) ht
    generalize (start3 : Int) = hd3 at can3 fm3
    generalize (least3 : Int) = q3 at can3 fm3
    have s1517 := s16.trans s17
    obtain ⟨d31, d32⟩ := (p15.same s16).off rl3f
    have pat17 := pat15.same s1517
    have fm17 := fm15.same s1517
    have erl17 := s1517 _ _ erl15
    have rw17 := rw15.same s1517
    have ebl17 := s1517 _ _ ebl15
    have p17 := p15.same s1517
    have epl17 := s1517 _ _ epl2
    have rws17 := rw2.same s1517
    clear pat15 fm15 erl15 rw15 ebl15 p15 epl2 rw2 s1517 s16 s17 rl3f eb2 lenS3
    refine st_letX (mkSeq (L := L2) (val_var rfl) (val_var rfl) (fun R r => ⟨_, rfl, pl2, as2, rfl, Or.inl ⟨SqL.of epl17, fun tp htp => r tp as2 _ (Or.inr (SqT.of upd_same)) (rws17.same (Same.new htp)).toA (Same.new htp)⟩⟩) (by omega) (by omega) (by omega) okL2 (mkForm can3 fun x2 H18 pat2 s18 => ?_))
    refine guard_sure2 (s_has (val_var rfl) (val_var rfl) pat2 (fm3.same s18)) (fun H' s' => s_has (val_var rfl) (val_var rfl) ((pat17.same s18).same s') ((fm17.same s18).same s')) fun H19 s19 => ?_
    have s1719 := s18.trans s19
    have pat19 := pat17.same s1719
    have fm19 := fm17.same s1719
    have pat2' := pat2.same s19
    have fm3' := fm3.same s1719
    have erl19 := s1719 _ _ erl17
    have rw19 := rw17.same s1719
    have ebl19 := s1719 _ _ ebl17
    have p19 := p17.same s1719
    clear pat17 fm17 pat2 fm3 erl17 rw17 ebl17 p17 epl17 rws17 s18 s19 s1719
    refine st_seq (st_ifX ⟨_, rfl, _, rfl, _, rfl, _, rfl, _, rfl, l, cl, _, x1, bl, hd, q, S, bitsOf (hn' + pn) L, hn', b, rfl, p19, by decide, pat19, q1', qm, ebl19, bl1, bl2, by rw [bits_len]; omega, by rw [bits_len]; omega, b1, b12, hin, fun H20 p20 f20 => ⟨_, rfl, iteF ?_⟩⟩)
    refine st_next ?_
    dsimp only
    have pat20 := pat19.fr f20 p19
    have fm20 := fm19.fr f20 p19 fl1 fl2
    have pb20 := pat2'.fr f20 p19
    have fb20 := fm3'.fr f20 p19 d31 d32
    have erl20 := f20 _ _ erl19 rl1 rl2
    have rw20 := rw19.fr f20 p19
    clear pat19 fm19 pat2' fm3' erl19 rw19 ebl19 p19 f20
    refine st_seq (st_ifX ⟨_, rfl, (v_rI (g := fun i j => .int (i * j)) (val_var rfl) (val_var rfl) (cm _)) _ ((v_rI (g := fun i j => .int (i * j)) (val_var rfl) (val_var rfl) (cm _)) _ ⟨_, rfl, l, cl, _, _, _, rl', rs, M, rfl, p20, by decide, erl20, rl1, rl2, rw20, by omega, hb0, hbm, by omega, pbm, okM, fun H21 p21 f21 => ⟨_, rfl, iteF ?_⟩⟩)⟩)
    refine st_next ?_
    dsimp only
    have pat21 := pat20.fr f21 p20
    have fm21 := fm20.fr f21 p20 fl1 fl2
    have pb21 := pb20.fr f21 p20
    have fb21 := fb20.fr f21 p20 d31 d32
    clear pat20 fm20 pb20 fb20 p20 erl20 rw20 f21
    refine st_seq (st_ifX ⟨_, rfl, l, cl, _, rfl, p21, by decide, fun H22 p22 f22 => ⟨_, rfl, iteF ?_⟩⟩)
    refine st_next ?_
    dsimp only
    have pat22 := pat21.fr f22 p21
    have fm22 := fm21.fr f22 p21 fl1 fl2
    have pb22 := pb21.fr f22 p21
    have fb22 := fb21.fr f22 p21 d31 d32
    clear pat21 fm21 pb21 fb21 p21 f22
    refine guard_sure2 (sureB fun Q' q => hasE Mk.never' (fun _ => val_c) (fun _ => val_c) q) (fun H' s' => sureB fun Q' q => hasT Mk.always' (fun _ => val_c) (fun _ => val_c) (fun _ => val_c) (fun _ => val_c) q) fun H23 s23 => ?_
    have pat23 := pat22.same s23
    have fm23 := fm22.same s23
    have pb23 := pb22.same s23
    have fb23 := fb22.same s23
    have p23 := p22.same s23
    clear pat22 fm22 pb22 fb22 p22 s23
    refine st_shareS (fun σ' H' => (∃ w0 w9 wA wB, σ' = [w0, some (.ref l), w9, wA, wB, some (.int b), some (.ref bl), some (.ref ft), some (.ref rl'), v9, some (.ref hl), some (.ref x1), some (.int hn2), some (.int pn2), some (.ref pl2), some (.ref t3), some (.ref x2)]) ∧ PatAt a H' x1 hd q S ∧ FmAt H' ft fl hd q S ∧ PatAt a H' x2 hd3 q3 S3 ∧ FmAt H' t3 rl3 hd3 q3 S3) ?_ fun N hN => ?_
    case refine_2 =>
      refine st_ifX ?_
      refine t_op' (draw p23 rfl val_c (by decide) (by decide) (by decide) fun d H24 d0 d1 p24 f24 => ⟨rfl, _, rfl, ?_⟩)
      have pat24 := pat23.fr f24 p23
      have fm24 := fm23.fr f24 p23 fl1 fl2
      have pb24 := pb23.fr f24 p23
      have fb24 := fb23.fr f24 p23 d31 d32
      split
      · refine ⟨_, rfl, _, rfl, _, rfl, l, cl, _, _, _, rfl, p24, by decide, h0, by omega, q0, by omega, fun H25 p25 f25 => ⟨_, rfl, iteF (st_next ?_)⟩⟩
        exact hN _ _ ⟨⟨_, _, _, _, rfl⟩, pat24.fr f25 p24, fm24.fr f25 p24 fl1 fl2, pb24.fr f25 p24, fb24.fr f25 p24 d31 d32⟩
      · exact iteF (st_next (hN _ _ ⟨⟨_, _, _, _, rfl⟩, pat24, fm24, pb24, fb24⟩))
    rintro σ' H26 ⟨⟨w0, w9, wA, wB, rfl⟩, pat26, fm26, pb26, fb26⟩
    have e40 : (10 : Int) ^ Int.toNat 40 = 10 ^ 40 := by decide
    have e12 : (10 : Int) ^ Int.toNat 12 = 10 ^ 12 := by decide
    refine st_guard (q := False) (b := false) (a_or (b := false) (c := false) (a_noT (a_int val_c)) fun _ => a_or (b := false) (c := false) (a_noT (a_int val_c)) fun _ => a_or (b := false) (c := false) ?_ fun _ => ?_) (by simp) (fun z => z.elim) fun _ => ?_
    · refine ans_ne (b := false) val_c (v_rI (g := fun i j => .int (i ^ j.toNat)) val_c val_c ⟨by decide, by decide, by decide⟩) rfl ?_
      rw [e40]
      simp
    · refine ans_ne (b := false) val_c (v_rI (g := fun i j => .int (i ^ j.toNat)) val_c val_c ⟨by decide, by decide, by decide⟩) rfl ?_
      rw [e12]
      simp
    · refine ⟨_, rfl, _, rfl, x2, t3, rl3, _, _, _, rfl, pb26, fb26, fun H27 s27 => ⟨_, rfl, iteT ?_⟩⟩
      exact ⟨_, rfl, _, rfl, x1, ft, fl, _, _, _, rfl, pat26.same s27, fm26.same s27, fun H28 _ => k H28⟩
end
end My

namespace My
open PySem L2
def hm_ex_0 (K : PySem.W.Frag) : Bool := decide ((PySem.W.nsIn K mainGlobals "Form" = some (some (.ref (He.ga K "Form")))) ∧ (PySem.W.plainGet K (He.ga K "Form") Str.empty = true) ∧ (PySem.W.hasDictIn K (He.ga K "Form") = true) ∧ (PySem.W.plainOver K (He.ga K "Form") = true) ∧ (PySem.W.findIn K (.ref (He.ga K "Form")) "__setattr__" = some (some (.builtin "object.__setattr__"))) ∧ (PySem.W.keepIn K (.ref (He.ga K "Form")) = true) ∧ (PySem.W.findIn K (.ref (He.ga K "Form")) "period" = some none) ∧ (PySem.W.findIn K (.ref (He.ga K "Form")) "head" = some none) ∧ (PySem.W.findIn K (.ref (He.ga K "Form")) "stretches" = some none) ∧ (PySem.W.makesIn K (He.ga K "Form") = true) ∧ (PySem.W.findIn K (.ref (He.ga K "Form")) "__init__" = some (some (.ref (He.ma K (He.ga K "Form") "__init__")))) ∧ (PySem.W.isFn K (.ref (He.ma K (He.ga K "Form") "__init__")) = true) ∧ (PySem.W.nsIn K mainGlobals "DueError" = some (some (.ref (He.ga K "DueError")))) ∧ (Hm.oexB K (He.ga K "DueError") = true) ∧ (PySem.W.findIn K (.ref (He.ga K "DueError")) "__setattr__" = some (some (.builtin "object.__setattr__"))) ∧ (PySem.W.findIn K (.ref (He.ga K "DueError")) "__getattribute__" = some (some (.builtin "BaseException.__getattribute__"))))
theorem hm_ok_0 {K : PySem.W.Frag} (h : hm_ex_0 K = true) : (PySem.W.nsIn K mainGlobals "Form" = some (some (.ref (He.ga K "Form")))) ∧ (PySem.W.plainGet K (He.ga K "Form") Str.empty = true) ∧ (PySem.W.hasDictIn K (He.ga K "Form") = true) ∧ (PySem.W.plainOver K (He.ga K "Form") = true) ∧ (PySem.W.findIn K (.ref (He.ga K "Form")) "__setattr__" = some (some (.builtin "object.__setattr__"))) ∧ (PySem.W.keepIn K (.ref (He.ga K "Form")) = true) ∧ (PySem.W.findIn K (.ref (He.ga K "Form")) "period" = some none) ∧ (PySem.W.findIn K (.ref (He.ga K "Form")) "head" = some none) ∧ (PySem.W.findIn K (.ref (He.ga K "Form")) "stretches" = some none) ∧ (PySem.W.makesIn K (He.ga K "Form") = true) ∧ (PySem.W.findIn K (.ref (He.ga K "Form")) "__init__" = some (some (.ref (He.ma K (He.ga K "Form") "__init__")))) ∧ (PySem.W.isFn K (.ref (He.ma K (He.ga K "Form") "__init__")) = true) ∧ (PySem.W.nsIn K mainGlobals "DueError" = some (some (.ref (He.ga K "DueError")))) ∧ (Hm.oexB K (He.ga K "DueError") = true) ∧ (PySem.W.findIn K (.ref (He.ga K "DueError")) "__setattr__" = some (some (.builtin "object.__setattr__"))) ∧ (PySem.W.findIn K (.ref (He.ga K "DueError")) "__getattribute__" = some (some (.builtin "BaseException.__getattribute__"))) := of_decide_eq_true h
def hm_ex_1 (K : PySem.W.Frag) : Bool := decide ((PySem.W.findIn K (.ref (He.ga K "DueError")) "__getattr__" = some none) ∧ (PySem.W.subIn K (.ref (He.ga K "DueError")) (.type "BaseException") = some true) ∧ (PySem.W.typeIn K (.ref (He.ga K "DueError")) = some (.type "type")) ∧ (PySem.W.keepIn K (.ref (He.ga K "DueError")) = true) ∧ (PySem.W.hasDictIn K (He.ga K "DueError") = true) ∧ (PySem.W.findIn K (.ref (He.ga K "DueError")) "__class__" = some (some (.builtin "object.__class__"))) ∧ (PySem.W.mroIn K (He.ga K "DueError") (.type "object") = some true) ∧ (PySem.W.specialIn K (.builtin "object.__class__") "__get__" = some (some (.builtin "getset_descriptor.__get__"))) ∧ (PySem.W.takesIn K (.builtin "object.__class__") = some true) ∧ (PySem.W.nsIn K mainGlobals "OutOfRange" = some (some (.ref (He.ga K "OutOfRange")))) ∧ (Hm.oexB K (He.ga K "OutOfRange") = true) ∧ (PySem.W.findIn K (.ref (He.ga K "OutOfRange")) "__setattr__" = some (some (.builtin "object.__setattr__"))) ∧ (PySem.W.findIn K (.ref (He.ga K "OutOfRange")) "__getattribute__" = some (some (.builtin "BaseException.__getattribute__"))) ∧ (PySem.W.findIn K (.ref (He.ga K "OutOfRange")) "__getattr__" = some none) ∧ (PySem.W.subIn K (.ref (He.ga K "OutOfRange")) (.type "BaseException") = some true) ∧ (PySem.W.typeIn K (.ref (He.ga K "OutOfRange")) = some (.type "type")))
theorem hm_ok_1 {K : PySem.W.Frag} (h : hm_ex_1 K = true) : (PySem.W.findIn K (.ref (He.ga K "DueError")) "__getattr__" = some none) ∧ (PySem.W.subIn K (.ref (He.ga K "DueError")) (.type "BaseException") = some true) ∧ (PySem.W.typeIn K (.ref (He.ga K "DueError")) = some (.type "type")) ∧ (PySem.W.keepIn K (.ref (He.ga K "DueError")) = true) ∧ (PySem.W.hasDictIn K (He.ga K "DueError") = true) ∧ (PySem.W.findIn K (.ref (He.ga K "DueError")) "__class__" = some (some (.builtin "object.__class__"))) ∧ (PySem.W.mroIn K (He.ga K "DueError") (.type "object") = some true) ∧ (PySem.W.specialIn K (.builtin "object.__class__") "__get__" = some (some (.builtin "getset_descriptor.__get__"))) ∧ (PySem.W.takesIn K (.builtin "object.__class__") = some true) ∧ (PySem.W.nsIn K mainGlobals "OutOfRange" = some (some (.ref (He.ga K "OutOfRange")))) ∧ (Hm.oexB K (He.ga K "OutOfRange") = true) ∧ (PySem.W.findIn K (.ref (He.ga K "OutOfRange")) "__setattr__" = some (some (.builtin "object.__setattr__"))) ∧ (PySem.W.findIn K (.ref (He.ga K "OutOfRange")) "__getattribute__" = some (some (.builtin "BaseException.__getattribute__"))) ∧ (PySem.W.findIn K (.ref (He.ga K "OutOfRange")) "__getattr__" = some none) ∧ (PySem.W.subIn K (.ref (He.ga K "OutOfRange")) (.type "BaseException") = some true) ∧ (PySem.W.typeIn K (.ref (He.ga K "OutOfRange")) = some (.type "type")) := of_decide_eq_true h
def hm_ex_2 (K : PySem.W.Frag) : Bool := decide ((PySem.W.keepIn K (.ref (He.ga K "OutOfRange")) = true) ∧ (PySem.W.hasDictIn K (He.ga K "OutOfRange") = true) ∧ (PySem.W.findIn K (.ref (He.ga K "OutOfRange")) "__class__" = some (some (.builtin "object.__class__"))) ∧ (PySem.W.mroIn K (He.ga K "OutOfRange") (.type "object") = some true) ∧ (PySem.W.findIn K (.ref (He.ga K "OutOfRange")) "what" = some none) ∧ (PySem.W.findIn K (.ref (He.ga K "OutOfRange")) "value" = some none) ∧ (PySem.W.findIn K (.ref (He.ga K "OutOfRange")) "__init__" = some (some (.ref (He.ma K (He.ga K "OutOfRange") "__init__")))) ∧ (PySem.W.typeIn K (.ref (He.ma K (He.ga K "OutOfRange") "__init__")) = some (.type "function")) ∧ (PySem.W.nsIn K mainGlobals "TooMany" = some (some (.ref (He.ga K "TooMany")))) ∧ (Hm.oexB K (He.ga K "TooMany") = true) ∧ (PySem.W.findIn K (.ref (He.ga K "TooMany")) "__setattr__" = some (some (.builtin "object.__setattr__"))) ∧ (PySem.W.findIn K (.ref (He.ga K "TooMany")) "__getattribute__" = some (some (.builtin "BaseException.__getattribute__"))) ∧ (PySem.W.findIn K (.ref (He.ga K "TooMany")) "__getattr__" = some none) ∧ (PySem.W.subIn K (.ref (He.ga K "TooMany")) (.type "BaseException") = some true) ∧ (PySem.W.typeIn K (.ref (He.ga K "TooMany")) = some (.type "type")) ∧ (PySem.W.keepIn K (.ref (He.ga K "TooMany")) = true))
theorem hm_ok_2 {K : PySem.W.Frag} (h : hm_ex_2 K = true) : (PySem.W.keepIn K (.ref (He.ga K "OutOfRange")) = true) ∧ (PySem.W.hasDictIn K (He.ga K "OutOfRange") = true) ∧ (PySem.W.findIn K (.ref (He.ga K "OutOfRange")) "__class__" = some (some (.builtin "object.__class__"))) ∧ (PySem.W.mroIn K (He.ga K "OutOfRange") (.type "object") = some true) ∧ (PySem.W.findIn K (.ref (He.ga K "OutOfRange")) "what" = some none) ∧ (PySem.W.findIn K (.ref (He.ga K "OutOfRange")) "value" = some none) ∧ (PySem.W.findIn K (.ref (He.ga K "OutOfRange")) "__init__" = some (some (.ref (He.ma K (He.ga K "OutOfRange") "__init__")))) ∧ (PySem.W.typeIn K (.ref (He.ma K (He.ga K "OutOfRange") "__init__")) = some (.type "function")) ∧ (PySem.W.nsIn K mainGlobals "TooMany" = some (some (.ref (He.ga K "TooMany")))) ∧ (Hm.oexB K (He.ga K "TooMany") = true) ∧ (PySem.W.findIn K (.ref (He.ga K "TooMany")) "__setattr__" = some (some (.builtin "object.__setattr__"))) ∧ (PySem.W.findIn K (.ref (He.ga K "TooMany")) "__getattribute__" = some (some (.builtin "BaseException.__getattribute__"))) ∧ (PySem.W.findIn K (.ref (He.ga K "TooMany")) "__getattr__" = some none) ∧ (PySem.W.subIn K (.ref (He.ga K "TooMany")) (.type "BaseException") = some true) ∧ (PySem.W.typeIn K (.ref (He.ga K "TooMany")) = some (.type "type")) ∧ (PySem.W.keepIn K (.ref (He.ga K "TooMany")) = true) := of_decide_eq_true h
def hm_ex_3 (K : PySem.W.Frag) : Bool := decide ((PySem.W.hasDictIn K (He.ga K "TooMany") = true) ∧ (PySem.W.findIn K (.ref (He.ga K "TooMany")) "__class__" = some (some (.builtin "object.__class__"))) ∧ (PySem.W.mroIn K (He.ga K "TooMany") (.type "object") = some true) ∧ (PySem.W.findIn K (.ref (He.ga K "TooMany")) "what" = some none) ∧ (PySem.W.findIn K (.ref (He.ga K "TooMany")) "many" = some none) ∧ (PySem.W.findIn K (.ref (He.ga K "TooMany")) "__init__" = some (some (.ref (He.ma K (He.ga K "TooMany") "__init__")))) ∧ (PySem.W.typeIn K (.ref (He.ma K (He.ga K "TooMany") "__init__")) = some (.type "function")) ∧ (PySem.W.nsIn K mainGlobals "BadStretch" = some (some (.ref (He.ga K "BadStretch")))) ∧ (Hm.oexB K (He.ga K "BadStretch") = true) ∧ (PySem.W.findIn K (.ref (He.ga K "BadStretch")) "__setattr__" = some (some (.builtin "object.__setattr__"))) ∧ (PySem.W.findIn K (.ref (He.ga K "BadStretch")) "__getattribute__" = some (some (.builtin "BaseException.__getattribute__"))) ∧ (PySem.W.findIn K (.ref (He.ga K "BadStretch")) "__getattr__" = some none) ∧ (PySem.W.subIn K (.ref (He.ga K "BadStretch")) (.type "BaseException") = some true) ∧ (PySem.W.typeIn K (.ref (He.ga K "BadStretch")) = some (.type "type")) ∧ (PySem.W.keepIn K (.ref (He.ga K "BadStretch")) = true) ∧ (PySem.W.hasDictIn K (He.ga K "BadStretch") = true))
theorem hm_ok_3 {K : PySem.W.Frag} (h : hm_ex_3 K = true) : (PySem.W.hasDictIn K (He.ga K "TooMany") = true) ∧ (PySem.W.findIn K (.ref (He.ga K "TooMany")) "__class__" = some (some (.builtin "object.__class__"))) ∧ (PySem.W.mroIn K (He.ga K "TooMany") (.type "object") = some true) ∧ (PySem.W.findIn K (.ref (He.ga K "TooMany")) "what" = some none) ∧ (PySem.W.findIn K (.ref (He.ga K "TooMany")) "many" = some none) ∧ (PySem.W.findIn K (.ref (He.ga K "TooMany")) "__init__" = some (some (.ref (He.ma K (He.ga K "TooMany") "__init__")))) ∧ (PySem.W.typeIn K (.ref (He.ma K (He.ga K "TooMany") "__init__")) = some (.type "function")) ∧ (PySem.W.nsIn K mainGlobals "BadStretch" = some (some (.ref (He.ga K "BadStretch")))) ∧ (Hm.oexB K (He.ga K "BadStretch") = true) ∧ (PySem.W.findIn K (.ref (He.ga K "BadStretch")) "__setattr__" = some (some (.builtin "object.__setattr__"))) ∧ (PySem.W.findIn K (.ref (He.ga K "BadStretch")) "__getattribute__" = some (some (.builtin "BaseException.__getattribute__"))) ∧ (PySem.W.findIn K (.ref (He.ga K "BadStretch")) "__getattr__" = some none) ∧ (PySem.W.subIn K (.ref (He.ga K "BadStretch")) (.type "BaseException") = some true) ∧ (PySem.W.typeIn K (.ref (He.ga K "BadStretch")) = some (.type "type")) ∧ (PySem.W.keepIn K (.ref (He.ga K "BadStretch")) = true) ∧ (PySem.W.hasDictIn K (He.ga K "BadStretch") = true) := of_decide_eq_true h
def hm_ex_4 (K : PySem.W.Frag) : Bool := decide ((PySem.W.findIn K (.ref (He.ga K "BadStretch")) "__class__" = some (some (.builtin "object.__class__"))) ∧ (PySem.W.mroIn K (He.ga K "BadStretch") (.type "object") = some true) ∧ (PySem.W.findIn K (.ref (He.ga K "BadStretch")) "at" = some none) ∧ (PySem.W.findIn K (.ref (He.ga K "BadStretch")) "__init__" = some (some (.ref (He.ma K (He.ga K "BadStretch") "__init__")))) ∧ (PySem.W.typeIn K (.ref (He.ma K (He.ga K "BadStretch") "__init__")) = some (.type "function")) ∧ (PySem.W.nsIn K mainGlobals "Pattern" = some (some (.ref (He.ga K "Pattern")))) ∧ (PySem.W.plainGet K (He.ga K "Pattern") Str.empty = true) ∧ (PySem.W.hasDictIn K (He.ga K "Pattern") = true) ∧ (PySem.W.plainOver K (He.ga K "Pattern") = true) ∧ (PySem.W.findIn K (.ref (He.ga K "Pattern")) "__setattr__" = some (some (.builtin "object.__setattr__"))) ∧ (PySem.W.keepIn K (.ref (He.ga K "Pattern")) = true) ∧ (PySem.W.findIn K (.ref (He.ga K "Pattern")) "__class__" = some (some (.builtin "object.__class__"))) ∧ (PySem.W.mroIn K (He.ga K "Pattern") (.type "object") = some true) ∧ (PySem.W.typeIn K (.ref (He.ga K "Pattern")) = some (.type "type")) ∧ (PySem.W.subIn K (.ref (He.ga K "Pattern")) (.ref (He.ga K "Pattern")) = some true) ∧ (PySem.W.findIn K (.ref (He.ga K "Pattern")) "head" = some none))
theorem hm_ok_4 {K : PySem.W.Frag} (h : hm_ex_4 K = true) : (PySem.W.findIn K (.ref (He.ga K "BadStretch")) "__class__" = some (some (.builtin "object.__class__"))) ∧ (PySem.W.mroIn K (He.ga K "BadStretch") (.type "object") = some true) ∧ (PySem.W.findIn K (.ref (He.ga K "BadStretch")) "at" = some none) ∧ (PySem.W.findIn K (.ref (He.ga K "BadStretch")) "__init__" = some (some (.ref (He.ma K (He.ga K "BadStretch") "__init__")))) ∧ (PySem.W.typeIn K (.ref (He.ma K (He.ga K "BadStretch") "__init__")) = some (.type "function")) ∧ (PySem.W.nsIn K mainGlobals "Pattern" = some (some (.ref (He.ga K "Pattern")))) ∧ (PySem.W.plainGet K (He.ga K "Pattern") Str.empty = true) ∧ (PySem.W.hasDictIn K (He.ga K "Pattern") = true) ∧ (PySem.W.plainOver K (He.ga K "Pattern") = true) ∧ (PySem.W.findIn K (.ref (He.ga K "Pattern")) "__setattr__" = some (some (.builtin "object.__setattr__"))) ∧ (PySem.W.keepIn K (.ref (He.ga K "Pattern")) = true) ∧ (PySem.W.findIn K (.ref (He.ga K "Pattern")) "__class__" = some (some (.builtin "object.__class__"))) ∧ (PySem.W.mroIn K (He.ga K "Pattern") (.type "object") = some true) ∧ (PySem.W.typeIn K (.ref (He.ga K "Pattern")) = some (.type "type")) ∧ (PySem.W.subIn K (.ref (He.ga K "Pattern")) (.ref (He.ga K "Pattern")) = some true) ∧ (PySem.W.findIn K (.ref (He.ga K "Pattern")) "head" = some none) := of_decide_eq_true h
def hm_ex_5 (K : PySem.W.Frag) : Bool := decide ((PySem.W.findIn K (.ref (He.ga K "Pattern")) "period" = some none) ∧ (PySem.W.findIn K (.ref (He.ga K "Pattern")) "stretches" = some none) ∧ (PySem.W.findIn K (.ref (He.ga K "Pattern")) "_sums" = some none) ∧ (PySem.W.findIn K (.ref (He.ga K "Pattern")) "_front" = some none) ∧ (PySem.W.makesIn K (He.ga K "Pattern") = true) ∧ (PySem.W.findIn K (.ref (He.ga K "Pattern")) "__init__" = some (some (.ref (He.ma K (He.ga K "Pattern") "__init__")))) ∧ (PySem.W.isFn K (.ref (He.ma K (He.ga K "Pattern") "__init__")) = true) ∧ (PySem.W.readsIn K (He.ga K "Pattern") (.type "type") = true) ∧ (PySem.W.specialIn K (.ref (He.ga K "Pattern")) "__getattribute__" = some (some (.builtin "type.__getattribute__"))) ∧ ((match PySem.W.findCls K (.ref (He.ga K "Pattern")) (.type "type") "never" with | some (.get (.builtin g) (.ref p) .none (.ref D)) => decide (g = "staticmethod.__get__") && (decide (p = (He.ma K (He.ga K "Pattern") "never")) && decide (D = (He.ga K "Pattern"))) | _ => false) = true) ∧ (Hm.rcB K (He.ma K (He.ga K "Pattern") "never") "staticmethod" = true) ∧ ((match PySem.W.findCls K (.ref (He.ga K "Pattern")) (.type "type") "always" with | some (.get (.builtin g) (.ref p) .none (.ref D)) => decide (g = "staticmethod.__get__") && (decide (p = (He.ma K (He.ga K "Pattern") "always")) && decide (D = (He.ga K "Pattern"))) | _ => false) = true) ∧ (Hm.rcB K (He.ma K (He.ga K "Pattern") "always") "staticmethod" = true) ∧ ((match PySem.W.findCls K (.ref (He.ga K "Pattern")) (.type "type") "once" with | some (.get (.builtin g) (.ref p) .none (.ref D)) => decide (g = "staticmethod.__get__") && (decide (p = (He.ma K (He.ga K "Pattern") "once")) && decide (D = (He.ga K "Pattern"))) | _ => false) = true) ∧ (Hm.rcB K (He.ma K (He.ga K "Pattern") "once") "staticmethod" = true) ∧ ((match PySem.W.findCls K (.ref (He.ga K "Pattern")) (.type "type") "every" with | some (.get (.builtin g) (.ref p) .none (.ref D)) => decide (g = "staticmethod.__get__") && (decide (p = (He.ma K (He.ga K "Pattern") "every")) && decide (D = (He.ga K "Pattern"))) | _ => false) = true))
theorem hm_ok_5 {K : PySem.W.Frag} (h : hm_ex_5 K = true) : (PySem.W.findIn K (.ref (He.ga K "Pattern")) "period" = some none) ∧ (PySem.W.findIn K (.ref (He.ga K "Pattern")) "stretches" = some none) ∧ (PySem.W.findIn K (.ref (He.ga K "Pattern")) "_sums" = some none) ∧ (PySem.W.findIn K (.ref (He.ga K "Pattern")) "_front" = some none) ∧ (PySem.W.makesIn K (He.ga K "Pattern") = true) ∧ (PySem.W.findIn K (.ref (He.ga K "Pattern")) "__init__" = some (some (.ref (He.ma K (He.ga K "Pattern") "__init__")))) ∧ (PySem.W.isFn K (.ref (He.ma K (He.ga K "Pattern") "__init__")) = true) ∧ (PySem.W.readsIn K (He.ga K "Pattern") (.type "type") = true) ∧ (PySem.W.specialIn K (.ref (He.ga K "Pattern")) "__getattribute__" = some (some (.builtin "type.__getattribute__"))) ∧ ((match PySem.W.findCls K (.ref (He.ga K "Pattern")) (.type "type") "never" with | some (.get (.builtin g) (.ref p) .none (.ref D)) => decide (g = "staticmethod.__get__") && (decide (p = (He.ma K (He.ga K "Pattern") "never")) && decide (D = (He.ga K "Pattern"))) | _ => false) = true) ∧ (Hm.rcB K (He.ma K (He.ga K "Pattern") "never") "staticmethod" = true) ∧ ((match PySem.W.findCls K (.ref (He.ga K "Pattern")) (.type "type") "always" with | some (.get (.builtin g) (.ref p) .none (.ref D)) => decide (g = "staticmethod.__get__") && (decide (p = (He.ma K (He.ga K "Pattern") "always")) && decide (D = (He.ga K "Pattern"))) | _ => false) = true) ∧ (Hm.rcB K (He.ma K (He.ga K "Pattern") "always") "staticmethod" = true) ∧ ((match PySem.W.findCls K (.ref (He.ga K "Pattern")) (.type "type") "once" with | some (.get (.builtin g) (.ref p) .none (.ref D)) => decide (g = "staticmethod.__get__") && (decide (p = (He.ma K (He.ga K "Pattern") "once")) && decide (D = (He.ga K "Pattern"))) | _ => false) = true) ∧ (Hm.rcB K (He.ma K (He.ga K "Pattern") "once") "staticmethod" = true) ∧ ((match PySem.W.findCls K (.ref (He.ga K "Pattern")) (.type "type") "every" with | some (.get (.builtin g) (.ref p) .none (.ref D)) => decide (g = "staticmethod.__get__") && (decide (p = (He.ma K (He.ga K "Pattern") "every")) && decide (D = (He.ga K "Pattern"))) | _ => false) = true) := of_decide_eq_true h
def hm_ex_6 (K : PySem.W.Frag) : Bool := decide ((Hm.rcB K (He.ma K (He.ga K "Pattern") "every") "staticmethod" = true) ∧ ((match PySem.W.findCls K (.ref (He.ga K "Pattern")) (.type "type") "span" with | some (.get (.builtin g) (.ref p) .none (.ref D)) => decide (g = "staticmethod.__get__") && (decide (p = (He.ma K (He.ga K "Pattern") "span")) && decide (D = (He.ga K "Pattern"))) | _ => false) = true) ∧ (Hm.rcB K (He.ma K (He.ga K "Pattern") "span") "staticmethod" = true) ∧ (PySem.W.findIn K (.ref (He.ga K "Pattern")) "__contains__" = some (some (.ref (He.ma K (He.ga K "Pattern") "__contains__")))) ∧ (PySem.W.isFn K (.ref (He.ma K (He.ga K "Pattern") "__contains__")) = true) ∧ (PySem.W.findIn K (.ref (He.ga K "Pattern")) "finite" = some (some (.ref (He.ma K (He.ga K "Pattern") "finite")))) ∧ (PySem.W.specialIn K (.ref (He.ma K (He.ga K "Pattern") "finite")) "__get__" = some (some (.builtin "property.__get__"))) ∧ (PySem.W.takesIn K (.ref (He.ma K (He.ga K "Pattern") "finite")) = some true) ∧ (Hm.rcB K (He.ma K (He.ga K "Pattern") "finite") "property" = true) ∧ (PySem.W.findIn K (.ref (He.ga K "Pattern")) "empty" = some (some (.ref (He.ma K (He.ga K "Pattern") "empty")))) ∧ (PySem.W.specialIn K (.ref (He.ma K (He.ga K "Pattern") "empty")) "__get__" = some (some (.builtin "property.__get__"))) ∧ (PySem.W.takesIn K (.ref (He.ma K (He.ga K "Pattern") "empty")) = some true) ∧ (Hm.rcB K (He.ma K (He.ga K "Pattern") "empty") "property" = true) ∧ (PySem.W.findIn K (.ref (He.ga K "Pattern")) "_run_end" = some (some (.ref (He.ma K (He.ga K "Pattern") "_run_end")))) ∧ (PySem.W.isFn K (.ref (He.ma K (He.ga K "Pattern") "_run_end")) = true) ∧ (PySem.W.findIn K (.ref (He.ga K "Pattern")) "_near" = some (some (.ref (He.ma K (He.ga K "Pattern") "_near")))))
theorem hm_ok_6 {K : PySem.W.Frag} (h : hm_ex_6 K = true) : (Hm.rcB K (He.ma K (He.ga K "Pattern") "every") "staticmethod" = true) ∧ ((match PySem.W.findCls K (.ref (He.ga K "Pattern")) (.type "type") "span" with | some (.get (.builtin g) (.ref p) .none (.ref D)) => decide (g = "staticmethod.__get__") && (decide (p = (He.ma K (He.ga K "Pattern") "span")) && decide (D = (He.ga K "Pattern"))) | _ => false) = true) ∧ (Hm.rcB K (He.ma K (He.ga K "Pattern") "span") "staticmethod" = true) ∧ (PySem.W.findIn K (.ref (He.ga K "Pattern")) "__contains__" = some (some (.ref (He.ma K (He.ga K "Pattern") "__contains__")))) ∧ (PySem.W.isFn K (.ref (He.ma K (He.ga K "Pattern") "__contains__")) = true) ∧ (PySem.W.findIn K (.ref (He.ga K "Pattern")) "finite" = some (some (.ref (He.ma K (He.ga K "Pattern") "finite")))) ∧ (PySem.W.specialIn K (.ref (He.ma K (He.ga K "Pattern") "finite")) "__get__" = some (some (.builtin "property.__get__"))) ∧ (PySem.W.takesIn K (.ref (He.ma K (He.ga K "Pattern") "finite")) = some true) ∧ (Hm.rcB K (He.ma K (He.ga K "Pattern") "finite") "property" = true) ∧ (PySem.W.findIn K (.ref (He.ga K "Pattern")) "empty" = some (some (.ref (He.ma K (He.ga K "Pattern") "empty")))) ∧ (PySem.W.specialIn K (.ref (He.ma K (He.ga K "Pattern") "empty")) "__get__" = some (some (.builtin "property.__get__"))) ∧ (PySem.W.takesIn K (.ref (He.ma K (He.ga K "Pattern") "empty")) = some true) ∧ (Hm.rcB K (He.ma K (He.ga K "Pattern") "empty") "property" = true) ∧ (PySem.W.findIn K (.ref (He.ga K "Pattern")) "_run_end" = some (some (.ref (He.ma K (He.ga K "Pattern") "_run_end")))) ∧ (PySem.W.isFn K (.ref (He.ma K (He.ga K "Pattern") "_run_end")) = true) ∧ (PySem.W.findIn K (.ref (He.ga K "Pattern")) "_near" = some (some (.ref (He.ma K (He.ga K "Pattern") "_near")))) := of_decide_eq_true h
def hm_ex_7 (K : PySem.W.Frag) : Bool := decide ((PySem.W.isFn K (.ref (He.ma K (He.ga K "Pattern") "_near")) = true) ∧ (PySem.W.subIn K (.ref (He.ga K "DueError")) (.ref (He.ga K "DueError")) = some true) ∧ (PySem.W.subIn K (.ref (He.ga K "DueError")) (.ref (He.ga K "OutOfRange")) = some false) ∧ (PySem.W.subIn K (.ref (He.ga K "OutOfRange")) (.ref (He.ga K "OutOfRange")) = some true) ∧ (PySem.W.subIn K (.ref (He.ga K "DueError")) (.ref (He.ga K "TooMany")) = some false) ∧ (PySem.W.subIn K (.ref (He.ga K "TooMany")) (.ref (He.ga K "TooMany")) = some true) ∧ (PySem.W.subIn K (.ref (He.ga K "DueError")) (.ref (He.ga K "BadStretch")) = some false) ∧ (PySem.W.subIn K (.ref (He.ga K "BadStretch")) (.ref (He.ga K "BadStretch")) = some true) ∧ (PySem.W.subIn K (.ref (He.ga K "DueError")) (.type "ValueError") = some true) ∧ (PySem.W.subIn K (.ref (He.ga K "OutOfRange")) (.ref (He.ga K "DueError")) = some true) ∧ (PySem.W.subIn K (.ref (He.ga K "OutOfRange")) (.ref (He.ga K "TooMany")) = some false) ∧ (PySem.W.subIn K (.ref (He.ga K "OutOfRange")) (.ref (He.ga K "BadStretch")) = some false) ∧ (PySem.W.subIn K (.ref (He.ga K "OutOfRange")) (.type "ValueError") = some true) ∧ (PySem.W.subIn K (.ref (He.ga K "TooMany")) (.ref (He.ga K "DueError")) = some true) ∧ (PySem.W.subIn K (.ref (He.ga K "TooMany")) (.ref (He.ga K "OutOfRange")) = some false) ∧ (PySem.W.subIn K (.ref (He.ga K "TooMany")) (.ref (He.ga K "BadStretch")) = some false))
theorem hm_ok_7 {K : PySem.W.Frag} (h : hm_ex_7 K = true) : (PySem.W.isFn K (.ref (He.ma K (He.ga K "Pattern") "_near")) = true) ∧ (PySem.W.subIn K (.ref (He.ga K "DueError")) (.ref (He.ga K "DueError")) = some true) ∧ (PySem.W.subIn K (.ref (He.ga K "DueError")) (.ref (He.ga K "OutOfRange")) = some false) ∧ (PySem.W.subIn K (.ref (He.ga K "OutOfRange")) (.ref (He.ga K "OutOfRange")) = some true) ∧ (PySem.W.subIn K (.ref (He.ga K "DueError")) (.ref (He.ga K "TooMany")) = some false) ∧ (PySem.W.subIn K (.ref (He.ga K "TooMany")) (.ref (He.ga K "TooMany")) = some true) ∧ (PySem.W.subIn K (.ref (He.ga K "DueError")) (.ref (He.ga K "BadStretch")) = some false) ∧ (PySem.W.subIn K (.ref (He.ga K "BadStretch")) (.ref (He.ga K "BadStretch")) = some true) ∧ (PySem.W.subIn K (.ref (He.ga K "DueError")) (.type "ValueError") = some true) ∧ (PySem.W.subIn K (.ref (He.ga K "OutOfRange")) (.ref (He.ga K "DueError")) = some true) ∧ (PySem.W.subIn K (.ref (He.ga K "OutOfRange")) (.ref (He.ga K "TooMany")) = some false) ∧ (PySem.W.subIn K (.ref (He.ga K "OutOfRange")) (.ref (He.ga K "BadStretch")) = some false) ∧ (PySem.W.subIn K (.ref (He.ga K "OutOfRange")) (.type "ValueError") = some true) ∧ (PySem.W.subIn K (.ref (He.ga K "TooMany")) (.ref (He.ga K "DueError")) = some true) ∧ (PySem.W.subIn K (.ref (He.ga K "TooMany")) (.ref (He.ga K "OutOfRange")) = some false) ∧ (PySem.W.subIn K (.ref (He.ga K "TooMany")) (.ref (He.ga K "BadStretch")) = some false) := of_decide_eq_true h
def hm_ex_8 (K : PySem.W.Frag) : Bool := decide ((PySem.W.subIn K (.ref (He.ga K "TooMany")) (.type "ValueError") = some true) ∧ (PySem.W.subIn K (.ref (He.ga K "BadStretch")) (.ref (He.ga K "DueError")) = some true) ∧ (PySem.W.subIn K (.ref (He.ga K "BadStretch")) (.ref (He.ga K "OutOfRange")) = some false) ∧ (PySem.W.subIn K (.ref (He.ga K "BadStretch")) (.ref (He.ga K "TooMany")) = some false) ∧ (PySem.W.subIn K (.ref (He.ga K "BadStretch")) (.type "ValueError") = some true) ∧ (PySem.W.nsIn K mainGlobals "tidy" = some (some (.ref (He.ga K "tidy")))) ∧ (PySem.W.nsIn K mainGlobals "starts_below" = some (some (.ref (He.ga K "starts_below")))) ∧ (PySem.W.nsIn K mainGlobals "clip" = some (some (.ref (He.ga K "clip")))) ∧ (PySem.W.nsIn K mainGlobals "round_steps" = some (some (.ref (He.ga K "round_steps")))) ∧ (PySem.W.nsIn K mainGlobals "least_period" = some (some (.ref (He.ga K "least_period")))) ∧ (PySem.W.nsIn K mainGlobals "least_head" = some (some (.ref (He.ga K "least_head")))) ∧ (PySem.W.nsIn K mainGlobals "in_range" = some (some (.ref (He.ga K "in_range")))) ∧ (PySem.W.nsIn K mainGlobals "_law_start" = some (some (.ref (He.ga K "_law_start")))) ∧ (PySem.W.nsIn K mainGlobals "_law_draw" = some (some (.ref (He.ga K "_law_draw")))) ∧ (PySem.W.nsIn K mainGlobals "_law_far" = some (some (.ref (He.ga K "_law_far")))) ∧ (PySem.W.nsIn K mainGlobals "_law_near" = some (some (.ref (He.ga K "_law_near")))))
theorem hm_ok_8 {K : PySem.W.Frag} (h : hm_ex_8 K = true) : (PySem.W.subIn K (.ref (He.ga K "TooMany")) (.type "ValueError") = some true) ∧ (PySem.W.subIn K (.ref (He.ga K "BadStretch")) (.ref (He.ga K "DueError")) = some true) ∧ (PySem.W.subIn K (.ref (He.ga K "BadStretch")) (.ref (He.ga K "OutOfRange")) = some false) ∧ (PySem.W.subIn K (.ref (He.ga K "BadStretch")) (.ref (He.ga K "TooMany")) = some false) ∧ (PySem.W.subIn K (.ref (He.ga K "BadStretch")) (.type "ValueError") = some true) ∧ (PySem.W.nsIn K mainGlobals "tidy" = some (some (.ref (He.ga K "tidy")))) ∧ (PySem.W.nsIn K mainGlobals "starts_below" = some (some (.ref (He.ga K "starts_below")))) ∧ (PySem.W.nsIn K mainGlobals "clip" = some (some (.ref (He.ga K "clip")))) ∧ (PySem.W.nsIn K mainGlobals "round_steps" = some (some (.ref (He.ga K "round_steps")))) ∧ (PySem.W.nsIn K mainGlobals "least_period" = some (some (.ref (He.ga K "least_period")))) ∧ (PySem.W.nsIn K mainGlobals "least_head" = some (some (.ref (He.ga K "least_head")))) ∧ (PySem.W.nsIn K mainGlobals "in_range" = some (some (.ref (He.ga K "in_range")))) ∧ (PySem.W.nsIn K mainGlobals "_law_start" = some (some (.ref (He.ga K "_law_start")))) ∧ (PySem.W.nsIn K mainGlobals "_law_draw" = some (some (.ref (He.ga K "_law_draw")))) ∧ (PySem.W.nsIn K mainGlobals "_law_far" = some (some (.ref (He.ga K "_law_far")))) ∧ (PySem.W.nsIn K mainGlobals "_law_near" = some (some (.ref (He.ga K "_law_near")))) := of_decide_eq_true h
def hm_ex_9 (K : PySem.W.Frag) : Bool := decide ((PySem.W.nsIn K mainGlobals "_law_drawn" = some (some (.ref (He.ga K "_law_drawn")))) ∧ (PySem.W.nsIn K mainGlobals "_law_pick_factor" = some (some (.ref (He.ga K "_law_pick_factor")))) ∧ (PySem.W.nsIn K mainGlobals "_law_row_of" = some (some (.ref (He.ga K "_law_row_of")))) ∧ (PySem.W.nsIn K mainGlobals "_law_form" = some (some (.ref (He.ga K "_law_form")))) ∧ (PySem.W.nsIn K mainGlobals "_law_scaled" = some (some (.ref (He.ga K "_law_scaled")))) ∧ (PySem.W.nsIn K mainGlobals "_law_is_in" = some (some (.ref (He.ga K "_law_is_in")))) ∧ (PySem.W.nsIn K mainGlobals "_law_int" = some (some (.ref (He.ga K "_law_int")))) ∧ (PySem.W.nsIn K mainGlobals "_law_has" = some (some (.ref (He.ga K "_law_has")))) ∧ (PySem.W.nsIn K mainGlobals "_law_once" = some (some (.ref (He.ga K "_law_once")))) ∧ (PySem.W.nsIn K mainGlobals "_law_made" = some (some (.ref (He.ga K "_law_made")))) ∧ (PySem.W.nsIn K mainGlobals "_law_asked" = some (some (.ref (He.ga K "_law_asked")))) ∧ (PySem.W.nsIn K mainGlobals "_law_bent" = some (some (.ref (He.ga K "_law_bent")))) ∧ (PySem.W.nsIn K mainGlobals "_law_refused" = some (some (.ref (He.ga K "_law_refused")))) ∧ (PySem.W.nsIn K mainGlobals "_law_minutes" = some (some (.ref (He.ga K "_law_minutes")))) ∧ (PySem.W.nsIn K mainGlobals "_law_others" = some (some (.ref (He.ga K "_law_others")))) ∧ (PySem.W.nsIn K mainGlobals "_law_large" = some (some (.ref (He.ga K "_law_large")))))
theorem hm_ok_9 {K : PySem.W.Frag} (h : hm_ex_9 K = true) : (PySem.W.nsIn K mainGlobals "_law_drawn" = some (some (.ref (He.ga K "_law_drawn")))) ∧ (PySem.W.nsIn K mainGlobals "_law_pick_factor" = some (some (.ref (He.ga K "_law_pick_factor")))) ∧ (PySem.W.nsIn K mainGlobals "_law_row_of" = some (some (.ref (He.ga K "_law_row_of")))) ∧ (PySem.W.nsIn K mainGlobals "_law_form" = some (some (.ref (He.ga K "_law_form")))) ∧ (PySem.W.nsIn K mainGlobals "_law_scaled" = some (some (.ref (He.ga K "_law_scaled")))) ∧ (PySem.W.nsIn K mainGlobals "_law_is_in" = some (some (.ref (He.ga K "_law_is_in")))) ∧ (PySem.W.nsIn K mainGlobals "_law_int" = some (some (.ref (He.ga K "_law_int")))) ∧ (PySem.W.nsIn K mainGlobals "_law_has" = some (some (.ref (He.ga K "_law_has")))) ∧ (PySem.W.nsIn K mainGlobals "_law_once" = some (some (.ref (He.ga K "_law_once")))) ∧ (PySem.W.nsIn K mainGlobals "_law_made" = some (some (.ref (He.ga K "_law_made")))) ∧ (PySem.W.nsIn K mainGlobals "_law_asked" = some (some (.ref (He.ga K "_law_asked")))) ∧ (PySem.W.nsIn K mainGlobals "_law_bent" = some (some (.ref (He.ga K "_law_bent")))) ∧ (PySem.W.nsIn K mainGlobals "_law_refused" = some (some (.ref (He.ga K "_law_refused")))) ∧ (PySem.W.nsIn K mainGlobals "_law_minutes" = some (some (.ref (He.ga K "_law_minutes")))) ∧ (PySem.W.nsIn K mainGlobals "_law_others" = some (some (.ref (He.ga K "_law_others")))) ∧ (PySem.W.nsIn K mainGlobals "_law_large" = some (some (.ref (He.ga K "_law_large")))) := of_decide_eq_true h
def hm_ex_10 (K : PySem.W.Frag) : Bool := decide ((PySem.W.nsIn K mainGlobals "law" = some (some (.ref (He.ga K "law")))) ∧ (Hm.gInt K "MOST_STRETCHES" 5000 = true) ∧ (Hm.gInt K "FAR" (10 ^ 40) = true) ∧ (Hm.gInt K "LONG" (10 ^ 12) = true) ∧ (PySem.W.nsIn K mainGlobals "ValueError" = some none) ∧ (PySem.W.nsIn K mainGlobals "any" = some none) ∧ (PySem.W.nsIn K mainGlobals "bool" = some none) ∧ (PySem.W.nsIn K mainGlobals "enumerate" = some none) ∧ (PySem.W.nsIn K mainGlobals "int" = some none) ∧ (PySem.W.nsIn K mainGlobals "isinstance" = some none) ∧ (PySem.W.nsIn K mainGlobals "len" = some none) ∧ (PySem.W.nsIn K mainGlobals "list" = some none) ∧ (PySem.W.nsIn K mainGlobals "max" = some none) ∧ (PySem.W.nsIn K mainGlobals "min" = some none) ∧ (PySem.W.nsIn K mainGlobals "property" = some none) ∧ (PySem.W.nsIn K mainGlobals "range" = some none))
theorem hm_ok_10 {K : PySem.W.Frag} (h : hm_ex_10 K = true) : (PySem.W.nsIn K mainGlobals "law" = some (some (.ref (He.ga K "law")))) ∧ (Hm.gInt K "MOST_STRETCHES" 5000 = true) ∧ (Hm.gInt K "FAR" (10 ^ 40) = true) ∧ (Hm.gInt K "LONG" (10 ^ 12) = true) ∧ (PySem.W.nsIn K mainGlobals "ValueError" = some none) ∧ (PySem.W.nsIn K mainGlobals "any" = some none) ∧ (PySem.W.nsIn K mainGlobals "bool" = some none) ∧ (PySem.W.nsIn K mainGlobals "enumerate" = some none) ∧ (PySem.W.nsIn K mainGlobals "int" = some none) ∧ (PySem.W.nsIn K mainGlobals "isinstance" = some none) ∧ (PySem.W.nsIn K mainGlobals "len" = some none) ∧ (PySem.W.nsIn K mainGlobals "list" = some none) ∧ (PySem.W.nsIn K mainGlobals "max" = some none) ∧ (PySem.W.nsIn K mainGlobals "min" = some none) ∧ (PySem.W.nsIn K mainGlobals "property" = some none) ∧ (PySem.W.nsIn K mainGlobals "range" = some none) := of_decide_eq_true h
def hm_ex_11 (K : PySem.W.Frag) : Bool := decide ((PySem.W.nsIn K mainGlobals "sorted" = some none) ∧ (PySem.W.nsIn K mainGlobals "staticmethod" = some none) ∧ (PySem.W.nsIn K mainGlobals "tuple" = some none) ∧ (PySem.W.nsIn K mainGlobals "zip" = some none))
theorem hm_ok_11 {K : PySem.W.Frag} (h : hm_ex_11 K = true) : (PySem.W.nsIn K mainGlobals "sorted" = some none) ∧ (PySem.W.nsIn K mainGlobals "staticmethod" = some none) ∧ (PySem.W.nsIn K mainGlobals "tuple" = some none) ∧ (PySem.W.nsIn K mainGlobals "zip" = some none) := of_decide_eq_true h
def hm_ex : List (PySem.W.Frag → Bool) := [hm_ex_0, hm_ex_1, hm_ex_2, hm_ex_3, hm_ex_4, hm_ex_5, hm_ex_6, hm_ex_7, hm_ex_8, hm_ex_9, hm_ex_10, hm_ex_11]
def hm_fn_0 : List (He5.DefA) := [⟨fun K => (He.ga K "tidy"), "tidy", "tidy", defArgs s_tidy, defBody s_tidy, defScope s_tidy, [], []⟩,
  ⟨fun K => (He.ga K "starts_below"), "starts_below", "starts_below", defArgs s_starts_below, defBody s_starts_below, defScope s_starts_below, [], []⟩,
  ⟨fun K => (He.ga K "clip"), "clip", "clip", defArgs s_clip, defBody s_clip, defScope s_clip, [], []⟩,
  ⟨fun K => (He.ga K "round_steps"), "round_steps", "round_steps", defArgs s_round_steps, defBody s_round_steps, defScope s_round_steps, [], []⟩,
  ⟨fun K => (He.ga K "least_period"), "least_period", "least_period", defArgs s_least_period, defBody s_least_period, defScope s_least_period, [], []⟩,
  ⟨fun K => (He.ga K "least_head"), "least_head", "least_head", defArgs s_least_head, defBody s_least_head, defScope s_least_head, [], []⟩,
  ⟨fun K => (He.ma K (He.ga K "Form") "__init__"), "__init__", "Form.__init__", defArgs s_Form_init, defBody s_Form_init, defScope s_Form_init, [], []⟩,
  ⟨fun K => (He.ma K (He.ga K "OutOfRange") "__init__"), "__init__", "OutOfRange.__init__", defArgs s_OutOfRange_init, defBody s_OutOfRange_init, defScope s_OutOfRange_init, [], []⟩,
  ⟨fun K => (He.ma K (He.ga K "TooMany") "__init__"), "__init__", "TooMany.__init__", defArgs s_TooMany_init, defBody s_TooMany_init, defScope s_TooMany_init, [], []⟩,
  ⟨fun K => (He.ma K (He.ga K "BadStretch") "__init__"), "__init__", "BadStretch.__init__", defArgs s_BadStretch_init, defBody s_BadStretch_init, defScope s_BadStretch_init, [], []⟩,
  ⟨fun K => (He.ga K "in_range"), "in_range", "in_range", defArgs s_in_range, defBody s_in_range, defScope s_in_range, [], []⟩,
  ⟨fun K => (He.ma K (He.ga K "Pattern") "__init__"), "__init__", "Pattern.__init__", defArgs s_Pattern_init, defBody s_Pattern_init, defScope s_Pattern_init, [], []⟩,
  ⟨fun K => (Hm.rc1 K (He.ma K (He.ga K "Pattern") "never") "staticmethod"), "never", "Pattern.never", defArgs s_Pattern_never, defBody s_Pattern_never, defScope s_Pattern_never, [], []⟩,
  ⟨fun K => (Hm.rc1 K (He.ma K (He.ga K "Pattern") "always") "staticmethod"), "always", "Pattern.always", defArgs s_Pattern_always, defBody s_Pattern_always, defScope s_Pattern_always, [], []⟩,
  ⟨fun K => (Hm.rc1 K (He.ma K (He.ga K "Pattern") "once") "staticmethod"), "once", "Pattern.once", defArgs s_Pattern_once, defBody s_Pattern_once, defScope s_Pattern_once, [], []⟩,
  ⟨fun K => (Hm.rc1 K (He.ma K (He.ga K "Pattern") "every") "staticmethod"), "every", "Pattern.every", defArgs s_Pattern_every, defBody s_Pattern_every, defScope s_Pattern_every, [.int 0], []⟩,
  ⟨fun K => (Hm.rc1 K (He.ma K (He.ga K "Pattern") "span") "staticmethod"), "span", "Pattern.span", defArgs s_Pattern_span, defBody s_Pattern_span, defScope s_Pattern_span, [], []⟩,
  ⟨fun K => (He.ma K (He.ga K "Pattern") "__contains__"), "__contains__", "Pattern.__contains__", defArgs s_Pattern_contains, defBody s_Pattern_contains, defScope s_Pattern_contains, [], []⟩,
  ⟨fun K => (Hm.rc1 K (He.ma K (He.ga K "Pattern") "finite") "property"), "finite", "Pattern.finite", defArgs s_Pattern_finite, defBody s_Pattern_finite, defScope s_Pattern_finite, [], []⟩,
  ⟨fun K => (Hm.rc1 K (He.ma K (He.ga K "Pattern") "empty") "property"), "empty", "Pattern.empty", defArgs s_Pattern_empty, defBody s_Pattern_empty, defScope s_Pattern_empty, [], []⟩,
  ⟨fun K => (He.ma K (He.ga K "Pattern") "_run_end"), "_run_end", "Pattern._run_end", defArgs s_Pattern_run_end, defBody s_Pattern_run_end, defScope s_Pattern_run_end, [], []⟩,
  ⟨fun K => (He.ma K (He.ga K "Pattern") "_near"), "_near", "Pattern._near", defArgs s_Pattern_near, defBody s_Pattern_near, defScope s_Pattern_near, [], []⟩,
  ⟨fun K => (He.ga K "_law_start"), "_law_start", "_law_start", defArgs s__law_start, defBody s__law_start, defScope s__law_start, [], []⟩,
  ⟨fun K => (He.ga K "_law_draw"), "_law_draw", "_law_draw", defArgs s__law_draw, defBody s__law_draw, defScope s__law_draw, [], []⟩,
  ⟨fun K => (He.ga K "_law_far"), "_law_far", "_law_far", defArgs s__law_far, defBody s__law_far, defScope s__law_far, [], []⟩,
  ⟨fun K => (He.ga K "_law_near"), "_law_near", "_law_near", defArgs s__law_near, defBody s__law_near, defScope s__law_near, [], []⟩,
  ⟨fun K => (He.ga K "_law_drawn"), "_law_drawn", "_law_drawn", defArgs s__law_drawn, defBody s__law_drawn, defScope s__law_drawn, [], []⟩,
  ⟨fun K => (He.ga K "_law_pick_factor"), "_law_pick_factor", "_law_pick_factor", defArgs s__law_pick_factor, defBody s__law_pick_factor, defScope s__law_pick_factor, [], []⟩,
  ⟨fun K => (He.ga K "_law_row_of"), "_law_row_of", "_law_row_of", defArgs s__law_row_of, defBody s__law_row_of, defScope s__law_row_of, [], []⟩,
  ⟨fun K => (He.ga K "_law_form"), "_law_form", "_law_form", defArgs s__law_form, defBody s__law_form, defScope s__law_form, [], []⟩]
def hm_fn_1 : List (He5.DefA) := [⟨fun K => (He.ga K "_law_scaled"), "_law_scaled", "_law_scaled", defArgs s__law_scaled, defBody s__law_scaled, defScope s__law_scaled, [], []⟩,
  ⟨fun K => (He.ga K "_law_is_in"), "_law_is_in", "_law_is_in", defArgs s__law_is_in, defBody s__law_is_in, defScope s__law_is_in, [], []⟩,
  ⟨fun K => (He.ga K "_law_int"), "_law_int", "_law_int", defArgs s__law_int, defBody s__law_int, defScope s__law_int, [], []⟩,
  ⟨fun K => (He.ga K "_law_has"), "_law_has", "_law_has", defArgs s__law_has, defBody s__law_has, defScope s__law_has, [], []⟩,
  ⟨fun K => (He.ga K "_law_once"), "_law_once", "_law_once", defArgs s__law_once, defBody s__law_once, defScope s__law_once, [], []⟩,
  ⟨fun K => (He.ga K "_law_made"), "_law_made", "_law_made", defArgs s__law_made, defBody s__law_made, defScope s__law_made, [], []⟩,
  ⟨fun K => (He.ga K "_law_asked"), "_law_asked", "_law_asked", defArgs s__law_asked, defBody s__law_asked, defScope s__law_asked, [], []⟩,
  ⟨fun K => (He.ga K "_law_bent"), "_law_bent", "_law_bent", defArgs s__law_bent, defBody s__law_bent, defScope s__law_bent, [], []⟩,
  ⟨fun K => (He.ga K "_law_refused"), "_law_refused", "_law_refused", defArgs s__law_refused, defBody s__law_refused, defScope s__law_refused, [], []⟩,
  ⟨fun K => (He.ga K "_law_minutes"), "_law_minutes", "_law_minutes", defArgs s__law_minutes, defBody s__law_minutes, defScope s__law_minutes, [], []⟩,
  ⟨fun K => (He.ga K "_law_others"), "_law_others", "_law_others", defArgs s__law_others, defBody s__law_others, defScope s__law_others, [], []⟩,
  ⟨fun K => (He.ga K "_law_large"), "_law_large", "_law_large", defArgs s__law_large, defBody s__law_large, defScope s__law_large, [], []⟩,
  ⟨fun K => (He.ga K "law"), "law", "law", defArgs s_law, defBody s_law, defScope s_law, [], []⟩]
def hm_fn : List (He5.DefA) := hm_fn_0 ++ hm_fn_1
def hm_names_0 : List (Str) := ["_wall",
  "tidy",
  "starts_below",
  "clip",
  "rest",
  "joined",
  "common",
  "without",
  "odd",
  "moved",
  "round_steps",
  "least_period",
  "least_head",
  "Form",
  "DueError",
  "OutOfRange",
  "TooMany",
  "BadStretch",
  "LONGEST",
  "MOST_STRETCHES",
  "in_range",
  "spread",
  "stretches_below",
  "common_window",
  "both_spread",
  "FAR",
  "LONG",
  "Pattern",
  "built_pattern",
  "_law_start"]
def hm_names_1 : List (Str) := ["_law_draw",
  "_law_far",
  "_law_near",
  "_law_drawn",
  "_law_pick_factor",
  "_law_row_of",
  "_law_form",
  "_law_scaled",
  "_law_is_in",
  "_law_int",
  "_law_has",
  "_law_once",
  "_law_made",
  "_law_asked",
  "_law_bent",
  "_law_refused",
  "_law_minutes",
  "_law_others",
  "_law_large"]
def hm_names : List (Str) := hm_names_0 ++ hm_names_1
theorem hm_def_0 {K : PySem.W.Frag} (c : Hm.SaysM hm_ex hm_fn K) : ∃ fd, FunD K "tidy" "tidy" (defArgs s_tidy) (defBody s_tidy) (defScope s_tidy) [] [] (He.ga K "tidy") fd := c.def_ 0 rfl
theorem hm_def_1 {K : PySem.W.Frag} (c : Hm.SaysM hm_ex hm_fn K) : ∃ fd, FunD K "starts_below" "starts_below" (defArgs s_starts_below) (defBody s_starts_below) (defScope s_starts_below) [] [] (He.ga K "starts_below") fd := c.def_ 1 rfl
theorem hm_def_2 {K : PySem.W.Frag} (c : Hm.SaysM hm_ex hm_fn K) : ∃ fd, FunD K "clip" "clip" (defArgs s_clip) (defBody s_clip) (defScope s_clip) [] [] (He.ga K "clip") fd := c.def_ 2 rfl
theorem hm_def_3 {K : PySem.W.Frag} (c : Hm.SaysM hm_ex hm_fn K) : ∃ fd, FunD K "round_steps" "round_steps" (defArgs s_round_steps) (defBody s_round_steps) (defScope s_round_steps) [] [] (He.ga K "round_steps") fd := c.def_ 3 rfl
theorem hm_def_4 {K : PySem.W.Frag} (c : Hm.SaysM hm_ex hm_fn K) : ∃ fd, FunD K "least_period" "least_period" (defArgs s_least_period) (defBody s_least_period) (defScope s_least_period) [] [] (He.ga K "least_period") fd := c.def_ 4 rfl
theorem hm_def_5 {K : PySem.W.Frag} (c : Hm.SaysM hm_ex hm_fn K) : ∃ fd, FunD K "least_head" "least_head" (defArgs s_least_head) (defBody s_least_head) (defScope s_least_head) [] [] (He.ga K "least_head") fd := c.def_ 5 rfl
theorem hm_def_6 {K : PySem.W.Frag} (c : Hm.SaysM hm_ex hm_fn K) : ∃ fd, FunD K "__init__" "Form.__init__" (defArgs s_Form_init) (defBody s_Form_init) (defScope s_Form_init) [] [] (He.ma K (He.ga K "Form") "__init__") fd := c.def_ 6 rfl
theorem hm_def_7 {K : PySem.W.Frag} (c : Hm.SaysM hm_ex hm_fn K) : ∃ fd, FunD K "__init__" "OutOfRange.__init__" (defArgs s_OutOfRange_init) (defBody s_OutOfRange_init) (defScope s_OutOfRange_init) [] [] (He.ma K (He.ga K "OutOfRange") "__init__") fd := c.def_ 7 rfl
theorem hm_def_8 {K : PySem.W.Frag} (c : Hm.SaysM hm_ex hm_fn K) : ∃ fd, FunD K "__init__" "TooMany.__init__" (defArgs s_TooMany_init) (defBody s_TooMany_init) (defScope s_TooMany_init) [] [] (He.ma K (He.ga K "TooMany") "__init__") fd := c.def_ 8 rfl
theorem hm_def_9 {K : PySem.W.Frag} (c : Hm.SaysM hm_ex hm_fn K) : ∃ fd, FunD K "__init__" "BadStretch.__init__" (defArgs s_BadStretch_init) (defBody s_BadStretch_init) (defScope s_BadStretch_init) [] [] (He.ma K (He.ga K "BadStretch") "__init__") fd := c.def_ 9 rfl
theorem hm_def_10 {K : PySem.W.Frag} (c : Hm.SaysM hm_ex hm_fn K) : ∃ fd, FunD K "in_range" "in_range" (defArgs s_in_range) (defBody s_in_range) (defScope s_in_range) [] [] (He.ga K "in_range") fd := c.def_ 10 rfl
theorem hm_def_11 {K : PySem.W.Frag} (c : Hm.SaysM hm_ex hm_fn K) : ∃ fd, FunD K "__init__" "Pattern.__init__" (defArgs s_Pattern_init) (defBody s_Pattern_init) (defScope s_Pattern_init) [] [] (He.ma K (He.ga K "Pattern") "__init__") fd := c.def_ 11 rfl
theorem hm_def_12 {K : PySem.W.Frag} (c : Hm.SaysM hm_ex hm_fn K) : ∃ fd, FunD K "never" "Pattern.never" (defArgs s_Pattern_never) (defBody s_Pattern_never) (defScope s_Pattern_never) [] [] (Hm.rc1 K (He.ma K (He.ga K "Pattern") "never") "staticmethod") fd := c.def_ 12 rfl
theorem hm_def_13 {K : PySem.W.Frag} (c : Hm.SaysM hm_ex hm_fn K) : ∃ fd, FunD K "always" "Pattern.always" (defArgs s_Pattern_always) (defBody s_Pattern_always) (defScope s_Pattern_always) [] [] (Hm.rc1 K (He.ma K (He.ga K "Pattern") "always") "staticmethod") fd := c.def_ 13 rfl
theorem hm_def_14 {K : PySem.W.Frag} (c : Hm.SaysM hm_ex hm_fn K) : ∃ fd, FunD K "once" "Pattern.once" (defArgs s_Pattern_once) (defBody s_Pattern_once) (defScope s_Pattern_once) [] [] (Hm.rc1 K (He.ma K (He.ga K "Pattern") "once") "staticmethod") fd := c.def_ 14 rfl
theorem hm_def_15 {K : PySem.W.Frag} (c : Hm.SaysM hm_ex hm_fn K) : ∃ fd, FunD K "every" "Pattern.every" (defArgs s_Pattern_every) (defBody s_Pattern_every) (defScope s_Pattern_every) [.int 0] [] (Hm.rc1 K (He.ma K (He.ga K "Pattern") "every") "staticmethod") fd := c.def_ 15 rfl
theorem hm_def_16 {K : PySem.W.Frag} (c : Hm.SaysM hm_ex hm_fn K) : ∃ fd, FunD K "span" "Pattern.span" (defArgs s_Pattern_span) (defBody s_Pattern_span) (defScope s_Pattern_span) [] [] (Hm.rc1 K (He.ma K (He.ga K "Pattern") "span") "staticmethod") fd := c.def_ 16 rfl
theorem hm_def_17 {K : PySem.W.Frag} (c : Hm.SaysM hm_ex hm_fn K) : ∃ fd, FunD K "__contains__" "Pattern.__contains__" (defArgs s_Pattern_contains) (defBody s_Pattern_contains) (defScope s_Pattern_contains) [] [] (He.ma K (He.ga K "Pattern") "__contains__") fd := c.def_ 17 rfl
theorem hm_def_18 {K : PySem.W.Frag} (c : Hm.SaysM hm_ex hm_fn K) : ∃ fd, FunD K "finite" "Pattern.finite" (defArgs s_Pattern_finite) (defBody s_Pattern_finite) (defScope s_Pattern_finite) [] [] (Hm.rc1 K (He.ma K (He.ga K "Pattern") "finite") "property") fd := c.def_ 18 rfl
theorem hm_def_19 {K : PySem.W.Frag} (c : Hm.SaysM hm_ex hm_fn K) : ∃ fd, FunD K "empty" "Pattern.empty" (defArgs s_Pattern_empty) (defBody s_Pattern_empty) (defScope s_Pattern_empty) [] [] (Hm.rc1 K (He.ma K (He.ga K "Pattern") "empty") "property") fd := c.def_ 19 rfl
theorem hm_def_20 {K : PySem.W.Frag} (c : Hm.SaysM hm_ex hm_fn K) : ∃ fd, FunD K "_run_end" "Pattern._run_end" (defArgs s_Pattern_run_end) (defBody s_Pattern_run_end) (defScope s_Pattern_run_end) [] [] (He.ma K (He.ga K "Pattern") "_run_end") fd := c.def_ 20 rfl
theorem hm_def_21 {K : PySem.W.Frag} (c : Hm.SaysM hm_ex hm_fn K) : ∃ fd, FunD K "_near" "Pattern._near" (defArgs s_Pattern_near) (defBody s_Pattern_near) (defScope s_Pattern_near) [] [] (He.ma K (He.ga K "Pattern") "_near") fd := c.def_ 21 rfl
theorem hm_def_22 {K : PySem.W.Frag} (c : Hm.SaysM hm_ex hm_fn K) : ∃ fd, FunD K "_law_start" "_law_start" (defArgs s__law_start) (defBody s__law_start) (defScope s__law_start) [] [] (He.ga K "_law_start") fd := c.def_ 22 rfl
theorem hm_def_23 {K : PySem.W.Frag} (c : Hm.SaysM hm_ex hm_fn K) : ∃ fd, FunD K "_law_draw" "_law_draw" (defArgs s__law_draw) (defBody s__law_draw) (defScope s__law_draw) [] [] (He.ga K "_law_draw") fd := c.def_ 23 rfl
theorem hm_def_24 {K : PySem.W.Frag} (c : Hm.SaysM hm_ex hm_fn K) : ∃ fd, FunD K "_law_far" "_law_far" (defArgs s__law_far) (defBody s__law_far) (defScope s__law_far) [] [] (He.ga K "_law_far") fd := c.def_ 24 rfl
theorem hm_def_25 {K : PySem.W.Frag} (c : Hm.SaysM hm_ex hm_fn K) : ∃ fd, FunD K "_law_near" "_law_near" (defArgs s__law_near) (defBody s__law_near) (defScope s__law_near) [] [] (He.ga K "_law_near") fd := c.def_ 25 rfl
theorem hm_def_26 {K : PySem.W.Frag} (c : Hm.SaysM hm_ex hm_fn K) : ∃ fd, FunD K "_law_drawn" "_law_drawn" (defArgs s__law_drawn) (defBody s__law_drawn) (defScope s__law_drawn) [] [] (He.ga K "_law_drawn") fd := c.def_ 26 rfl
theorem hm_def_27 {K : PySem.W.Frag} (c : Hm.SaysM hm_ex hm_fn K) : ∃ fd, FunD K "_law_pick_factor" "_law_pick_factor" (defArgs s__law_pick_factor) (defBody s__law_pick_factor) (defScope s__law_pick_factor) [] [] (He.ga K "_law_pick_factor") fd := c.def_ 27 rfl
theorem hm_def_28 {K : PySem.W.Frag} (c : Hm.SaysM hm_ex hm_fn K) : ∃ fd, FunD K "_law_row_of" "_law_row_of" (defArgs s__law_row_of) (defBody s__law_row_of) (defScope s__law_row_of) [] [] (He.ga K "_law_row_of") fd := c.def_ 28 rfl
theorem hm_def_29 {K : PySem.W.Frag} (c : Hm.SaysM hm_ex hm_fn K) : ∃ fd, FunD K "_law_form" "_law_form" (defArgs s__law_form) (defBody s__law_form) (defScope s__law_form) [] [] (He.ga K "_law_form") fd := c.def_ 29 rfl
theorem hm_def_30 {K : PySem.W.Frag} (c : Hm.SaysM hm_ex hm_fn K) : ∃ fd, FunD K "_law_scaled" "_law_scaled" (defArgs s__law_scaled) (defBody s__law_scaled) (defScope s__law_scaled) [] [] (He.ga K "_law_scaled") fd := c.def_ 30 rfl
theorem hm_def_31 {K : PySem.W.Frag} (c : Hm.SaysM hm_ex hm_fn K) : ∃ fd, FunD K "_law_is_in" "_law_is_in" (defArgs s__law_is_in) (defBody s__law_is_in) (defScope s__law_is_in) [] [] (He.ga K "_law_is_in") fd := c.def_ 31 rfl
theorem hm_def_32 {K : PySem.W.Frag} (c : Hm.SaysM hm_ex hm_fn K) : ∃ fd, FunD K "_law_int" "_law_int" (defArgs s__law_int) (defBody s__law_int) (defScope s__law_int) [] [] (He.ga K "_law_int") fd := c.def_ 32 rfl
theorem hm_def_33 {K : PySem.W.Frag} (c : Hm.SaysM hm_ex hm_fn K) : ∃ fd, FunD K "_law_has" "_law_has" (defArgs s__law_has) (defBody s__law_has) (defScope s__law_has) [] [] (He.ga K "_law_has") fd := c.def_ 33 rfl
theorem hm_def_34 {K : PySem.W.Frag} (c : Hm.SaysM hm_ex hm_fn K) : ∃ fd, FunD K "_law_once" "_law_once" (defArgs s__law_once) (defBody s__law_once) (defScope s__law_once) [] [] (He.ga K "_law_once") fd := c.def_ 34 rfl
theorem hm_def_35 {K : PySem.W.Frag} (c : Hm.SaysM hm_ex hm_fn K) : ∃ fd, FunD K "_law_made" "_law_made" (defArgs s__law_made) (defBody s__law_made) (defScope s__law_made) [] [] (He.ga K "_law_made") fd := c.def_ 35 rfl
theorem hm_def_36 {K : PySem.W.Frag} (c : Hm.SaysM hm_ex hm_fn K) : ∃ fd, FunD K "_law_asked" "_law_asked" (defArgs s__law_asked) (defBody s__law_asked) (defScope s__law_asked) [] [] (He.ga K "_law_asked") fd := c.def_ 36 rfl
theorem hm_def_37 {K : PySem.W.Frag} (c : Hm.SaysM hm_ex hm_fn K) : ∃ fd, FunD K "_law_bent" "_law_bent" (defArgs s__law_bent) (defBody s__law_bent) (defScope s__law_bent) [] [] (He.ga K "_law_bent") fd := c.def_ 37 rfl
theorem hm_def_38 {K : PySem.W.Frag} (c : Hm.SaysM hm_ex hm_fn K) : ∃ fd, FunD K "_law_refused" "_law_refused" (defArgs s__law_refused) (defBody s__law_refused) (defScope s__law_refused) [] [] (He.ga K "_law_refused") fd := c.def_ 38 rfl
theorem hm_def_39 {K : PySem.W.Frag} (c : Hm.SaysM hm_ex hm_fn K) : ∃ fd, FunD K "_law_minutes" "_law_minutes" (defArgs s__law_minutes) (defBody s__law_minutes) (defScope s__law_minutes) [] [] (He.ga K "_law_minutes") fd := c.def_ 39 rfl
theorem hm_def_40 {K : PySem.W.Frag} (c : Hm.SaysM hm_ex hm_fn K) : ∃ fd, FunD K "_law_others" "_law_others" (defArgs s__law_others) (defBody s__law_others) (defScope s__law_others) [] [] (He.ga K "_law_others") fd := c.def_ 40 rfl
theorem hm_def_41 {K : PySem.W.Frag} (c : Hm.SaysM hm_ex hm_fn K) : ∃ fd, FunD K "_law_large" "_law_large" (defArgs s__law_large) (defBody s__law_large) (defScope s__law_large) [] [] (He.ga K "_law_large") fd := c.def_ 41 rfl
theorem hm_def_42 {K : PySem.W.Frag} (c : Hm.SaysM hm_ex hm_fn K) : ∃ fd, FunD K "law" "law" (defArgs s_law) (defBody s_law) (defScope s_law) [] [] (He.ga K "law") fd := c.def_ 42 rfl
set_option maxHeartbeats 0 in
theorem all_mk {K : PySem.W.Frag} {h : Heap} {mg : Str → Option Value} (X : K.In h) (G : h.Ns mainGlobals mg) (c : Hm.SaysM hm_ex hm_fn K)
    : ∃ a : Ad, mg "law" = some (.ref a.f_law) ∧ (∀ (s : Shared) (u : Value), BindsTo s a.d_law ⟨[u], []⟩ [("script", u)]) ∧ Tx K mg a := by
  obtain ⟨d_tidy, F_tidy⟩ := hm_def_0 c
  obtain ⟨d_starts_below, F_starts_below⟩ := hm_def_1 c
  obtain ⟨d_clip, F_clip⟩ := hm_def_2 c
  obtain ⟨d_round_steps, F_round_steps⟩ := hm_def_3 c
  obtain ⟨d_least_period, F_least_period⟩ := hm_def_4 c
  obtain ⟨d_least_head, F_least_head⟩ := hm_def_5 c
  obtain ⟨d_Form_init, F_Form_init⟩ := hm_def_6 c
  obtain ⟨d_OutOfRange_init, F_OutOfRange_init⟩ := hm_def_7 c
  obtain ⟨d_TooMany_init, F_TooMany_init⟩ := hm_def_8 c
  obtain ⟨d_BadStretch_init, F_BadStretch_init⟩ := hm_def_9 c
  obtain ⟨d_in_range, F_in_range⟩ := hm_def_10 c
  obtain ⟨d_Pattern_init, F_Pattern_init⟩ := hm_def_11 c
  obtain ⟨d_Pattern_never, F_Pattern_never⟩ := hm_def_12 c
  obtain ⟨d_Pattern_always, F_Pattern_always⟩ := hm_def_13 c
  obtain ⟨d_Pattern_once, F_Pattern_once⟩ := hm_def_14 c
  obtain ⟨d_Pattern_every, F_Pattern_every⟩ := hm_def_15 c
  obtain ⟨d_Pattern_span, F_Pattern_span⟩ := hm_def_16 c
  obtain ⟨d_Pattern_contains, F_Pattern_contains⟩ := hm_def_17 c
  obtain ⟨d_Pattern_finite, F_Pattern_finite⟩ := hm_def_18 c
  obtain ⟨d_Pattern_empty, F_Pattern_empty⟩ := hm_def_19 c
  obtain ⟨d_Pattern_run_end, F_Pattern_run_end⟩ := hm_def_20 c
  obtain ⟨d_Pattern_near, F_Pattern_near⟩ := hm_def_21 c
  obtain ⟨d__law_start, F__law_start⟩ := hm_def_22 c
  obtain ⟨d__law_draw, F__law_draw⟩ := hm_def_23 c
  obtain ⟨d__law_far, F__law_far⟩ := hm_def_24 c
  obtain ⟨d__law_near, F__law_near⟩ := hm_def_25 c
  obtain ⟨d__law_drawn, F__law_drawn⟩ := hm_def_26 c
  obtain ⟨d__law_pick_factor, F__law_pick_factor⟩ := hm_def_27 c
  obtain ⟨d__law_row_of, F__law_row_of⟩ := hm_def_28 c
  obtain ⟨d__law_form, F__law_form⟩ := hm_def_29 c
  obtain ⟨d__law_scaled, F__law_scaled⟩ := hm_def_30 c
  obtain ⟨d__law_is_in, F__law_is_in⟩ := hm_def_31 c
  obtain ⟨d__law_int, F__law_int⟩ := hm_def_32 c
  obtain ⟨d__law_has, F__law_has⟩ := hm_def_33 c
  obtain ⟨d__law_once, F__law_once⟩ := hm_def_34 c
  obtain ⟨d__law_made, F__law_made⟩ := hm_def_35 c
  obtain ⟨d__law_asked, F__law_asked⟩ := hm_def_36 c
  obtain ⟨d__law_bent, F__law_bent⟩ := hm_def_37 c
  obtain ⟨d__law_refused, F__law_refused⟩ := hm_def_38 c
  obtain ⟨d__law_minutes, F__law_minutes⟩ := hm_def_39 c
  obtain ⟨d__law_others, F__law_others⟩ := hm_def_40 c
  obtain ⟨d__law_large, F__law_large⟩ := hm_def_41 c
  obtain ⟨d_law, F_law⟩ := hm_def_42 c
  obtain ⟨q0, q1, q2, q3, q4, q5, q6, q7, q8, q9, q10, q11, q12, q13, q14, q15⟩ := hm_ok_0 (c.fact 0 rfl)
  obtain ⟨q16, q17, q18, q19, q20, q21, q22, q23, q24, q25, q26, q27, q28, q29, q30, q31⟩ := hm_ok_1 (c.fact 1 rfl)
  obtain ⟨q32, q33, q34, q35, q36, q37, q38, q39, q40, q41, q42, q43, q44, q45, q46, q47⟩ := hm_ok_2 (c.fact 2 rfl)
  obtain ⟨q48, q49, q50, q51, q52, q53, q54, q55, q56, q57, q58, q59, q60, q61, q62, q63⟩ := hm_ok_3 (c.fact 3 rfl)
  obtain ⟨q64, q65, q66, q67, q68, q69, q70, q71, q72, q73, q74, q75, q76, q77, q78, q79⟩ := hm_ok_4 (c.fact 4 rfl)
  obtain ⟨q80, q81, q82, q83, q84, q85, q86, q87, q88, q89, q90, q91, q92, q93, q94, q95⟩ := hm_ok_5 (c.fact 5 rfl)
  obtain ⟨q96, q97, q98, q99, q100, q101, q102, q103, q104, q105, q106, q107, q108, q109, q110, q111⟩ := hm_ok_6 (c.fact 6 rfl)
  obtain ⟨q112, q113, q114, q115, q116, q117, q118, q119, q120, q121, q122, q123, q124, q125, q126, q127⟩ := hm_ok_7 (c.fact 7 rfl)
  obtain ⟨q128, q129, q130, q131, q132, q133, q134, q135, q136, q137, q138, q139, q140, q141, q142, q143⟩ := hm_ok_8 (c.fact 8 rfl)
  obtain ⟨q144, q145, q146, q147, q148, q149, q150, q151, q152, q153, q154, q155, q156, q157, q158, q159⟩ := hm_ok_9 (c.fact 9 rfl)
  obtain ⟨q160, q161, q162, q163, q164, q165, q166, q167, q168, q169, q170, q171, q172, q173, q174, q175⟩ := hm_ok_10 (c.fact 10 rfl)
  obtain ⟨q176, q177, q178, q179⟩ := hm_ok_11 (c.fact 11 rfl)
  refine ⟨{ c_Form := (He.ga K "Form"), c_DueError := (He.ga K "DueError"), c_OutOfRange := (He.ga K "OutOfRange"), c_TooMany := (He.ga K "TooMany"), c_BadStretch := (He.ga K "BadStretch"), c_Pattern := (He.ga K "Pattern"), f_tidy := (He.ga K "tidy"), f_starts_below := (He.ga K "starts_below"), f_clip := (He.ga K "clip"), f_round_steps := (He.ga K "round_steps"), f_least_period := (He.ga K "least_period"), f_least_head := (He.ga K "least_head"), f_Form_init := (He.ma K (He.ga K "Form") "__init__"), f_OutOfRange_init := (He.ma K (He.ga K "OutOfRange") "__init__"), f_TooMany_init := (He.ma K (He.ga K "TooMany") "__init__"), f_BadStretch_init := (He.ma K (He.ga K "BadStretch") "__init__"), f_in_range := (He.ga K "in_range"), f_Pattern_init := (He.ma K (He.ga K "Pattern") "__init__"), f_Pattern_never := (Hm.rc1 K (He.ma K (He.ga K "Pattern") "never") "staticmethod"), f_Pattern_always := (Hm.rc1 K (He.ma K (He.ga K "Pattern") "always") "staticmethod"), f_Pattern_once := (Hm.rc1 K (He.ma K (He.ga K "Pattern") "once") "staticmethod"), f_Pattern_every := (Hm.rc1 K (He.ma K (He.ga K "Pattern") "every") "staticmethod"), f_Pattern_span := (Hm.rc1 K (He.ma K (He.ga K "Pattern") "span") "staticmethod"), f_Pattern_contains := (He.ma K (He.ga K "Pattern") "__contains__"), f_Pattern_finite := (Hm.rc1 K (He.ma K (He.ga K "Pattern") "finite") "property"), f_Pattern_empty := (Hm.rc1 K (He.ma K (He.ga K "Pattern") "empty") "property"), f_Pattern_run_end := (He.ma K (He.ga K "Pattern") "_run_end"), f_Pattern_near := (He.ma K (He.ga K "Pattern") "_near"), f__law_start := (He.ga K "_law_start"), f__law_draw := (He.ga K "_law_draw"), f__law_far := (He.ga K "_law_far"), f__law_near := (He.ga K "_law_near"), f__law_drawn := (He.ga K "_law_drawn"), f__law_pick_factor := (He.ga K "_law_pick_factor"), f__law_row_of := (He.ga K "_law_row_of"), f__law_form := (He.ga K "_law_form"), f__law_scaled := (He.ga K "_law_scaled"), f__law_is_in := (He.ga K "_law_is_in"), f__law_int := (He.ga K "_law_int"), f__law_has := (He.ga K "_law_has"), f__law_once := (He.ga K "_law_once"), f__law_made := (He.ga K "_law_made"), f__law_asked := (He.ga K "_law_asked"), f__law_bent := (He.ga K "_law_bent"), f__law_refused := (He.ga K "_law_refused"), f__law_minutes := (He.ga K "_law_minutes"), f__law_others := (He.ga K "_law_others"), f__law_large := (He.ga K "_law_large"), f_law := (He.ga K "law"), p_Pattern_never := (He.ma K (He.ga K "Pattern") "never"), p_Pattern_always := (He.ma K (He.ga K "Pattern") "always"), p_Pattern_once := (He.ma K (He.ga K "Pattern") "once"), p_Pattern_every := (He.ma K (He.ga K "Pattern") "every"), p_Pattern_span := (He.ma K (He.ga K "Pattern") "span"), p_Pattern_finite := (He.ma K (He.ga K "Pattern") "finite"), p_Pattern_empty := (He.ma K (He.ga K "Pattern") "empty"), d_tidy := d_tidy, d_starts_below := d_starts_below, d_clip := d_clip, d_round_steps := d_round_steps, d_least_period := d_least_period, d_least_head := d_least_head, d_Form_init := d_Form_init, d_OutOfRange_init := d_OutOfRange_init, d_TooMany_init := d_TooMany_init, d_BadStretch_init := d_BadStretch_init, d_in_range := d_in_range, d_Pattern_init := d_Pattern_init, d_Pattern_never := d_Pattern_never, d_Pattern_always := d_Pattern_always, d_Pattern_once := d_Pattern_once, d_Pattern_every := d_Pattern_every, d_Pattern_span := d_Pattern_span, d_Pattern_contains := d_Pattern_contains, d_Pattern_finite := d_Pattern_finite, d_Pattern_empty := d_Pattern_empty, d_Pattern_run_end := d_Pattern_run_end, d_Pattern_near := d_Pattern_near, d__law_start := d__law_start, d__law_draw := d__law_draw, d__law_far := d__law_far, d__law_near := d__law_near, d__law_drawn := d__law_drawn, d__law_pick_factor := d__law_pick_factor, d__law_row_of := d__law_row_of, d__law_form := d__law_form, d__law_scaled := d__law_scaled, d__law_is_in := d__law_is_in, d__law_int := d__law_int, d__law_has := d__law_has, d__law_once := d__law_once, d__law_made := d__law_made, d__law_asked := d__law_asked, d__law_bent := d__law_bent, d__law_refused := d__law_refused, d__law_minutes := d__law_minutes, d__law_others := d__law_others, d__law_large := d__law_large, d_law := d_law : Ad }, PySem.W.mg_of X G q160, fun s u => (FunD.bindsA (ps := ["script"]) F_law fun _ _ _ _ _ _ us hl => match us, hl with | [_], _ => rfl) s [u] rfl, ?_⟩
  exact {
    g_Form := PySem.W.mg_of X G q0
    cl_Form := ⟨q1, q2, q3, q4⟩
    no_Form_period := q6
    no_Form_head := q7
    no_Form_stretches := q8
    M_Form := ⟨q9, q10, q11, q5⟩
    g_DueError := PySem.W.mg_of X G q12
    ox_DueError := ⟨Hm.oexB_ok q13, q14, q17, q18, q19⟩
    xc_DueError := ⟨q15, q16, q17, q20, q21, q23, q24, q22⟩
    xf_DueError := ⟨q15, q16, q17, q20⟩
    g_OutOfRange := PySem.W.mg_of X G q25
    ox_OutOfRange := ⟨Hm.oexB_ok q26, q27, q30, q31, q32⟩
    xc_OutOfRange := ⟨q28, q29, q30, q33, q34, q23, q24, q35⟩
    xf_OutOfRange := ⟨q28, q29, q30, q33⟩
    no_OutOfRange_what := q36
    no_OutOfRange_value := q37
    i_OutOfRange := q38
    t_OutOfRange := q39
    g_TooMany := PySem.W.mg_of X G q40
    ox_TooMany := ⟨Hm.oexB_ok q41, q42, q45, q46, q47⟩
    xc_TooMany := ⟨q43, q44, q45, q48, q49, q23, q24, q50⟩
    xf_TooMany := ⟨q43, q44, q45, q48⟩
    no_TooMany_what := q51
    no_TooMany_many := q52
    i_TooMany := q53
    t_TooMany := q54
    g_BadStretch := PySem.W.mg_of X G q55
    ox_BadStretch := ⟨Hm.oexB_ok q56, q57, q60, q61, q62⟩
    xc_BadStretch := ⟨q58, q59, q60, q63, q64, q23, q24, q65⟩
    xf_BadStretch := ⟨q58, q59, q60, q63⟩
    no_BadStretch_at := q66
    i_BadStretch := q67
    t_BadStretch := q68
    g_Pattern := PySem.W.mg_of X G q69
    cl_Pattern := ⟨q70, q71, q72, q73⟩
    ia_Pattern := q75
    im_Pattern := q76
    in_Pattern := q23
    it_Pattern := q24
    kit_Pattern := PySem.W.xr_kit q71 q77 q78 q78
    no_Pattern_head := q79
    no_Pattern_period := q80
    no_Pattern_stretches := q81
    no_Pattern__sums := q82
    no_Pattern__front := q83
    M_Pattern := ⟨q84, q85, q86, q74⟩
    cr_Pattern := ⟨q87, q88⟩
    sm_Pattern_never := ⟨Hm.fc_ok q89, Hm.rcB_ok q90⟩
    sm_Pattern_always := ⟨Hm.fc_ok q91, Hm.rcB_ok q92⟩
    sm_Pattern_once := ⟨Hm.fc_ok q93, Hm.rcB_ok q94⟩
    sm_Pattern_every := ⟨Hm.fc_ok q95, Hm.rcB_ok q96⟩
    sm_Pattern_span := ⟨Hm.fc_ok q97, Hm.rcB_ok q98⟩
    m_Pattern_contains := ⟨q99, q100, F_Pattern_contains.kp⟩
    pr_Pattern_finite := ⟨q101, q102, q103, Hm.rcB_ok q104⟩
    pr_Pattern_empty := ⟨q105, q106, q107, Hm.rcB_ok q108⟩
    m_Pattern_run_end := ⟨q109, q110, F_Pattern_run_end.kp⟩
    m_Pattern_near := ⟨q111, q112, F_Pattern_near.kp⟩
    sub_DueError_DueError := q113
    kit_DueError_DueError := PySem.W.xr_kit q20 q18 q113 q113
    exm_DueError_DueError := PySem.W.exm_ref q17 q20 q18 q113
    sub_DueError_OutOfRange := q114
    kit_DueError_OutOfRange := PySem.W.xr_kit q33 q31 q114 q115
    exm_DueError_OutOfRange := PySem.W.exm_ref q30 q33 q31 q114
    sub_DueError_TooMany := q116
    kit_DueError_TooMany := PySem.W.xr_kit q48 q46 q116 q117
    exm_DueError_TooMany := PySem.W.exm_ref q45 q48 q46 q116
    sub_DueError_BadStretch := q118
    kit_DueError_BadStretch := PySem.W.xr_kit q63 q61 q118 q119
    exm_DueError_BadStretch := PySem.W.exm_ref q60 q63 q61 q118
    kitV_DueError := PySem.W.xr_kitV (by decide +kernel) q120
    sub_OutOfRange_DueError := q121
    kit_OutOfRange_DueError := PySem.W.xr_kit q20 q18 q121 q113
    exm_OutOfRange_DueError := PySem.W.exm_ref q17 q20 q18 q121
    sub_OutOfRange_OutOfRange := q115
    kit_OutOfRange_OutOfRange := PySem.W.xr_kit q33 q31 q115 q115
    exm_OutOfRange_OutOfRange := PySem.W.exm_ref q30 q33 q31 q115
    sub_OutOfRange_TooMany := q122
    kit_OutOfRange_TooMany := PySem.W.xr_kit q48 q46 q122 q117
    exm_OutOfRange_TooMany := PySem.W.exm_ref q45 q48 q46 q122
    sub_OutOfRange_BadStretch := q123
    kit_OutOfRange_BadStretch := PySem.W.xr_kit q63 q61 q123 q119
    exm_OutOfRange_BadStretch := PySem.W.exm_ref q60 q63 q61 q123
    kitV_OutOfRange := PySem.W.xr_kitV (by decide +kernel) q124
    sub_TooMany_DueError := q125
    kit_TooMany_DueError := PySem.W.xr_kit q20 q18 q125 q113
    exm_TooMany_DueError := PySem.W.exm_ref q17 q20 q18 q125
    sub_TooMany_OutOfRange := q126
    kit_TooMany_OutOfRange := PySem.W.xr_kit q33 q31 q126 q115
    exm_TooMany_OutOfRange := PySem.W.exm_ref q30 q33 q31 q126
    sub_TooMany_TooMany := q117
    kit_TooMany_TooMany := PySem.W.xr_kit q48 q46 q117 q117
    exm_TooMany_TooMany := PySem.W.exm_ref q45 q48 q46 q117
    sub_TooMany_BadStretch := q127
    kit_TooMany_BadStretch := PySem.W.xr_kit q63 q61 q127 q119
    exm_TooMany_BadStretch := PySem.W.exm_ref q60 q63 q61 q127
    kitV_TooMany := PySem.W.xr_kitV (by decide +kernel) q128
    sub_BadStretch_DueError := q129
    kit_BadStretch_DueError := PySem.W.xr_kit q20 q18 q129 q113
    exm_BadStretch_DueError := PySem.W.exm_ref q17 q20 q18 q129
    sub_BadStretch_OutOfRange := q130
    kit_BadStretch_OutOfRange := PySem.W.xr_kit q33 q31 q130 q115
    exm_BadStretch_OutOfRange := PySem.W.exm_ref q30 q33 q31 q130
    sub_BadStretch_TooMany := q131
    kit_BadStretch_TooMany := PySem.W.xr_kit q48 q46 q131 q117
    exm_BadStretch_TooMany := PySem.W.exm_ref q45 q48 q46 q131
    sub_BadStretch_BadStretch := q119
    kit_BadStretch_BadStretch := PySem.W.xr_kit q63 q61 q119 q119
    exm_BadStretch_BadStretch := PySem.W.exm_ref q60 q63 q61 q119
    kitV_BadStretch := PySem.W.xr_kitV (by decide +kernel) q132
    g_tidy := PySem.W.mg_of X G q133
    F_tidy := He5.fun_of F_tidy
    b_tidy := (He5.fun_of F_tidy).binds (ps := ["pairs"]) fun _ _ _ _ _ _ us hl => match us, hl with | [_], _ => rfl
    g_starts_below := PySem.W.mg_of X G q134
    F_starts_below := He5.fun_of F_starts_below
    b_starts_below := (He5.fun_of F_starts_below).binds (ps := ["pairs", "minute"]) fun _ _ _ _ _ _ us hl => match us, hl with | [_, _], _ => rfl
    g_clip := PySem.W.mg_of X G q135
    F_clip := He5.fun_of F_clip
    b_clip := (He5.fun_of F_clip).binds (ps := ["pairs", "start", "end"]) fun _ _ _ _ _ _ us hl => match us, hl with | [_, _, _], _ => rfl
    g_round_steps := PySem.W.mg_of X G q136
    F_round_steps := He5.fun_of F_round_steps
    b_round_steps := (He5.fun_of F_round_steps).binds (ps := ["head", "period", "tail"]) fun _ _ _ _ _ _ us hl => match us, hl with | [_, _, _], _ => rfl
    g_least_period := PySem.W.mg_of X G q137
    F_least_period := He5.fun_of F_least_period
    b_least_period := (He5.fun_of F_least_period).binds (ps := ["head", "period", "pairs"]) fun _ _ _ _ _ _ us hl => match us, hl with | [_, _, _], _ => rfl
    g_least_head := PySem.W.mg_of X G q138
    F_least_head := He5.fun_of F_least_head
    b_least_head := (He5.fun_of F_least_head).binds (ps := ["head", "period", "pairs"]) fun _ _ _ _ _ _ us hl => match us, hl with | [_, _, _], _ => rfl
    F_Form_init := He5.fun_of F_Form_init
    b_Form_init := (He5.fun_of F_Form_init).binds (ps := ["self", "head", "period", "pairs"]) fun _ _ _ _ _ _ us hl => match us, hl with | [_, _, _, _], _ => rfl
    F_OutOfRange_init := He5.fun_of F_OutOfRange_init
    b_OutOfRange_init := (He5.fun_of F_OutOfRange_init).binds (ps := ["self", "what", "value"]) fun _ _ _ _ _ _ us hl => match us, hl with | [_, _, _], _ => rfl
    F_TooMany_init := He5.fun_of F_TooMany_init
    b_TooMany_init := (He5.fun_of F_TooMany_init).binds (ps := ["self", "what", "many"]) fun _ _ _ _ _ _ us hl => match us, hl with | [_, _, _], _ => rfl
    F_BadStretch_init := He5.fun_of F_BadStretch_init
    b_BadStretch_init := (He5.fun_of F_BadStretch_init).binds (ps := ["self", "at"]) fun _ _ _ _ _ _ us hl => match us, hl with | [_, _], _ => rfl
    g_in_range := PySem.W.mg_of X G q139
    F_in_range := He5.fun_of F_in_range
    b_in_range := (He5.fun_of F_in_range).binds (ps := ["what", "value", "low", "high"]) fun _ _ _ _ _ _ us hl => match us, hl with | [_, _, _, _], _ => rfl
    F_Pattern_init := He5.fun_of F_Pattern_init
    b_Pattern_init := (He5.fun_of F_Pattern_init).binds (ps := ["self", "head", "period", "stretches"]) fun _ _ _ _ _ _ us hl => match us, hl with | [_, _, _, _], _ => rfl
    F_Pattern_never := He5.fun_of F_Pattern_never
    b_Pattern_never := (He5.fun_of F_Pattern_never).binds (ps := []) fun _ _ _ _ _ _ us hl => match us, hl with | [], _ => rfl
    F_Pattern_always := He5.fun_of F_Pattern_always
    b_Pattern_always := (He5.fun_of F_Pattern_always).binds (ps := []) fun _ _ _ _ _ _ us hl => match us, hl with | [], _ => rfl
    F_Pattern_once := He5.fun_of F_Pattern_once
    b_Pattern_once := (He5.fun_of F_Pattern_once).binds (ps := ["minutes"]) fun _ _ _ _ _ _ us hl => match us, hl with | [_], _ => rfl
    F_Pattern_every := F_Pattern_every
    bP_Pattern_every_0 := FunD.binds1 (F_Pattern_every) (ps := ["period", "first"]) 1 0 (by simp) rfl (fun _ _ _ _ _ _ _ us its h1 h2 => match us, its, h1, h2 with | [_], [_], _, _ => ⟨_, rfl, rfl⟩)
    bP_Pattern_every_1 := FunD.binds1 (F_Pattern_every) (ps := ["period", "first"]) 2 1 (by simp) rfl (fun _ _ _ _ _ _ _ us its h1 h2 => match us, its, h1, h2 with | [_, _], [_], _, _ => ⟨_, rfl, rfl⟩)
    F_Pattern_span := He5.fun_of F_Pattern_span
    b_Pattern_span := (He5.fun_of F_Pattern_span).binds (ps := ["start", "end"]) fun _ _ _ _ _ _ us hl => match us, hl with | [_, _], _ => rfl
    F_Pattern_contains := He5.fun_of F_Pattern_contains
    b_Pattern_contains := (He5.fun_of F_Pattern_contains).binds (ps := ["self", "minute"]) fun _ _ _ _ _ _ us hl => match us, hl with | [_, _], _ => rfl
    F_Pattern_finite := He5.fun_of F_Pattern_finite
    b_Pattern_finite := (He5.fun_of F_Pattern_finite).binds (ps := ["self"]) fun _ _ _ _ _ _ us hl => match us, hl with | [_], _ => rfl
    F_Pattern_empty := He5.fun_of F_Pattern_empty
    b_Pattern_empty := (He5.fun_of F_Pattern_empty).binds (ps := ["self"]) fun _ _ _ _ _ _ us hl => match us, hl with | [_], _ => rfl
    F_Pattern_run_end := He5.fun_of F_Pattern_run_end
    b_Pattern_run_end := (He5.fun_of F_Pattern_run_end).binds (ps := ["self", "minute"]) fun _ _ _ _ _ _ us hl => match us, hl with | [_, _], _ => rfl
    F_Pattern_near := He5.fun_of F_Pattern_near
    b_Pattern_near := (He5.fun_of F_Pattern_near).binds (ps := ["self", "minute"]) fun _ _ _ _ _ _ us hl => match us, hl with | [_, _], _ => rfl
    g__law_start := PySem.W.mg_of X G q140
    F__law_start := He5.fun_of F__law_start
    b__law_start := (He5.fun_of F__law_start).binds (ps := ["script"]) fun _ _ _ _ _ _ us hl => match us, hl with | [_], _ => rfl
    g__law_draw := PySem.W.mg_of X G q141
    F__law_draw := He5.fun_of F__law_draw
    b__law_draw := (He5.fun_of F__law_draw).binds (ps := ["pool", "many"]) fun _ _ _ _ _ _ us hl => match us, hl with | [_, _], _ => rfl
    g__law_far := PySem.W.mg_of X G q142
    F__law_far := He5.fun_of F__law_far
    b__law_far := (He5.fun_of F__law_far).binds (ps := ["pool"]) fun _ _ _ _ _ _ us hl => match us, hl with | [_], _ => rfl
    g__law_near := PySem.W.mg_of X G q143
    F__law_near := He5.fun_of F__law_near
    b__law_near := (He5.fun_of F__law_near).binds (ps := ["pool", "low", "many"]) fun _ _ _ _ _ _ us hl => match us, hl with | [_, _, _], _ => rfl
    g__law_drawn := PySem.W.mg_of X G q144
    F__law_drawn := He5.fun_of F__law_drawn
    b__law_drawn := (He5.fun_of F__law_drawn).binds (ps := ["pool"]) fun _ _ _ _ _ _ us hl => match us, hl with | [_], _ => rfl
    g__law_pick_factor := PySem.W.mg_of X G q145
    F__law_pick_factor := He5.fun_of F__law_pick_factor
    b__law_pick_factor := (He5.fun_of F__law_pick_factor).binds (ps := ["pool", "most"]) fun _ _ _ _ _ _ us hl => match us, hl with | [_, _], _ => rfl
    g__law_row_of := PySem.W.mg_of X G q146
    F__law_row_of := He5.fun_of F__law_row_of
    b__law_row_of := (He5.fun_of F__law_row_of).binds (ps := ["size", "pairs"]) fun _ _ _ _ _ _ us hl => match us, hl with | [_, _], _ => rfl
    g__law_form := PySem.W.mg_of X G q147
    F__law_form := He5.fun_of F__law_form
    b__law_form := (He5.fun_of F__law_form).binds (ps := ["head", "bits"]) fun _ _ _ _ _ _ us hl => match us, hl with | [_, _], _ => rfl
    g__law_scaled := PySem.W.mg_of X G q148
    F__law_scaled := He5.fun_of F__law_scaled
    b__law_scaled := (He5.fun_of F__law_scaled).binds (ps := ["form", "by"]) fun _ _ _ _ _ _ us hl => match us, hl with | [_, _], _ => rfl
    g__law_is_in := PySem.W.mg_of X G q149
    F__law_is_in := He5.fun_of F__law_is_in
    b__law_is_in := (He5.fun_of F__law_is_in).binds (ps := ["head", "bits", "by", "minute"]) fun _ _ _ _ _ _ us hl => match us, hl with | [_, _, _, _], _ => rfl
    g__law_int := PySem.W.mg_of X G q150
    F__law_int := He5.fun_of F__law_int
    b__law_int := (He5.fun_of F__law_int).binds (ps := ["one"]) fun _ _ _ _ _ _ us hl => match us, hl with | [_], _ => rfl
    g__law_has := PySem.W.mg_of X G q151
    F__law_has := He5.fun_of F__law_has
    b__law_has := (He5.fun_of F__law_has).binds (ps := ["told", "form"]) fun _ _ _ _ _ _ us hl => match us, hl with | [_, _], _ => rfl
    g__law_once := PySem.W.mg_of X G q152
    F__law_once := He5.fun_of F__law_once
    b__law_once := (He5.fun_of F__law_once).binds (ps := ["minutes"]) fun _ _ _ _ _ _ us hl => match us, hl with | [_], _ => rfl
    g__law_made := PySem.W.mg_of X G q153
    F__law_made := He5.fun_of F__law_made
    b__law_made := (He5.fun_of F__law_made).binds (ps := ["kind", "one", "two", "three"]) fun _ _ _ _ _ _ us hl => match us, hl with | [_, _, _, _], _ => rfl
    g__law_asked := PySem.W.mg_of X G q154
    F__law_asked := He5.fun_of F__law_asked
    b__law_asked := (He5.fun_of F__law_asked).binds (ps := ["kind", "one", "two", "three"]) fun _ _ _ _ _ _ us hl => match us, hl with | [_, _, _, _], _ => rfl
    g__law_bent := PySem.W.mg_of X G q155
    F__law_bent := He5.fun_of F__law_bent
    b__law_bent := (He5.fun_of F__law_bent).binds (ps := ["pool", "head", "period", "pairs"]) fun _ _ _ _ _ _ us hl => match us, hl with | [_, _, _, _], _ => rfl
    g__law_refused := PySem.W.mg_of X G q156
    F__law_refused := He5.fun_of F__law_refused
    b__law_refused := (He5.fun_of F__law_refused).binds (ps := ["pool", "head", "period", "pairs"]) fun _ _ _ _ _ _ us hl => match us, hl with | [_, _, _, _], _ => rfl
    g__law_minutes := PySem.W.mg_of X G q157
    F__law_minutes := He5.fun_of F__law_minutes
    b__law_minutes := (He5.fun_of F__law_minutes).binds (ps := ["pool", "told", "head", "bits", "by"]) fun _ _ _ _ _ _ us hl => match us, hl with | [_, _, _, _, _], _ => rfl
    g__law_others := PySem.W.mg_of X G q158
    F__law_others := He5.fun_of F__law_others
    b__law_others := (He5.fun_of F__law_others).binds (ps := ["pool"]) fun _ _ _ _ _ _ us hl => match us, hl with | [_], _ => rfl
    g__law_large := PySem.W.mg_of X G q159
    F__law_large := He5.fun_of F__law_large
    b__law_large := (He5.fun_of F__law_large).binds (ps := ["pool", "head", "period"]) fun _ _ _ _ _ _ us hl => match us, hl with | [_, _, _], _ => rfl
    g_law := PySem.W.mg_of X G q160
    F_law := He5.fun_of F_law
    b_law := (He5.fun_of F_law).binds (ps := ["script"]) fun _ _ _ _ _ _ us hl => match us, hl with | [_], _ => rfl
    g_MOST_STRETCHES := Hm.gInt_ok X G q161
    g_FAR := Hm.gInt_ok X G q162
    g_LONG := Hm.gInt_ok X G q163
    n_ValueError := PySem.W.mg_none_of X G q164
    n_any := PySem.W.mg_none_of X G q165
    n_bool := PySem.W.mg_none_of X G q166
    n_enumerate := PySem.W.mg_none_of X G q167
    n_int := PySem.W.mg_none_of X G q168
    n_isinstance := PySem.W.mg_none_of X G q169
    n_len := PySem.W.mg_none_of X G q170
    n_list := PySem.W.mg_none_of X G q171
    n_max := PySem.W.mg_none_of X G q172
    n_min := PySem.W.mg_none_of X G q173
    n_property := PySem.W.mg_none_of X G q174
    n_range := PySem.W.mg_none_of X G q175
    n_sorted := PySem.W.mg_none_of X G q176
    n_staticmethod := PySem.W.mg_none_of X G q177
    n_tuple := PySem.W.mg_none_of X G q178
    n_zip := PySem.W.mg_none_of X G q179
  }
end My
namespace My
open PySem PySem.W PySem.Calls PyProof.Rows
abbrev hmR : PySem.W.OpenRow := PySem.W.OpenLaw.row PySem.Challenge.rw_duejobs_k01_patterns_have_one_form
set_option maxHeartbeats 0 in
theorem hm_run (w : World) : HandSHeadRun.RunEqI hmR (PySem.W.view hmR.prog [0, 57]) (Hm.hookM 7 hm_ex hm_fn) (Hm.obM 7 hm_ex hm_fn) 20000 hm_names w := by
  unfold HandSHeadRun.RunEqI
  kernel_rfl
end My

namespace My
open PySem L2
theorem fin {P : Program} {w : World} {K : PySem.W.Frag} {mg : Str → Option Value} {fa : Addr} (T : ∃ a : Ad, mg "law" = some (.ref a.f_law) ∧ (∀ (s : Shared) (u : Value), BindsTo s a.d_law ⟨[u], []⟩ [("script", u)]) ∧ Tx K mg a) (hfa : mg "law" = some (.ref fa)) :
    ∃ fd : FuncData, (∀ (s : Shared) (u : Value), BindsTo s fd ⟨[u], []⟩ [("script", u)]) ∧ ∀ base : Heap, K.In base → base.Ns mainGlobals mg → FnOk P w K mg base CX0 12 fa fd ["script"] (spLaw K) := by
  obtain ⟨a, h, hb, T⟩ := T
  have e := hfa.symm.trans h
  cases e
  exact ⟨a.d_law, hb, fun base _ _ => G_law T⟩
end My
open PySem PySem.W PySem.Calls PyProof.Rows
set_option maxRecDepth 100000 in
set_option maxHeartbeats 0 in
theorem PySem.Challenge.cw_duejobs_k01_patterns_have_one_form_holds : PySem.Challenge.rw_duejobs_k01_patterns_have_one_form.Holds := by
  w_on; o_law
  refine HandSHeadRun.head_imp (r := PySem.W.OpenLaw.row PySem.Challenge.rw_duejobs_k01_patterns_have_one_form) (q := view (PySem.W.OpenLaw.row PySem.Challenge.rw_duejobs_k01_patterns_have_one_form).prog [0, 57]) (H := Hm.hookM 7 My.hm_ex My.hm_fn) (ob := Hm.obM 7 My.hm_ex My.hm_fn) (M := 20000) (loose := My.hm_names) (d := HandSHeadRun.topDef (PySem.W.OpenLaw.row PySem.Challenge.rw_duejobs_k01_patterns_have_one_form).prog 57) (kwd := []) Hm.obM_eq
    My.hm_run (by kernel_rfl) (by kernel_rfl) (by kernel_rfl) (by rfl) (by first | assumption | decide +kernel) (by decide +kernel) ⟨rfl, rfl, rfl, rfl, rfl, by decide +kernel⟩ ?hw ?hc
  case hw => w_witness2
  case hc =>
    refine L2.walk_ofE (l := PySem.Challenge.rw_duejobs_k01_patterns_have_one_form) (n := 63) (k := 12) (x := "script") (CX := L2.CX0) rfl (by decide) (by kernel_rfl) ⟨rfl, by decide, by decide⟩ ?F (fun _ _ _ _ z => z)
    intro w mg fa h Y G hmg0
    obtain ⟨K, KX, c⟩ := Y
    have hmg : mg ("law" : PySem.Str) = some (.ref fa) := by
      have e : (HandSHeadRun.topDef (PySem.W.OpenLaw.row PySem.Challenge.rw_duejobs_k01_patterns_have_one_form).prog 57).name = ("law" : PySem.Str) := by kernel_rfl
      rw [← e]
      exact hmg0
    obtain ⟨fd, hb, hF⟩ := My.fin (P := (PySem.Challenge.rw_duejobs_k01_patterns_have_one_form).prog) (w := w) (My.all_mk KX G c) hmg
    exact ⟨K, fd, My.spLaw K, KX, hb, fun H a ns hl _ hS => ⟨a, ns, rfl, hS, hl, fun _ => rfl⟩, hF⟩

