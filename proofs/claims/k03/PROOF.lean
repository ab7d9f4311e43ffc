import PyProof.Rows.All
import Wide.All
import OpenK.AllK
import Wide.FinOn
import HandS.Base
import HandS.Call
import HandS.List
import HandS.Exc
import HandS.ExcInit
import HandS.ExcIs
import HandS.ExcField
import HandS.ExcOwn
import HandS.TupLe
import HandS.IsInst
import KE.KExcIs
import HandS.ForMost
import HandS.ForExc
import HandS.ClsMeth
import HandS.TryMany
import HandS.HotCalls
import PyProof.SumWalkG
import PyProof.TupleIter
import PyProof.WalksMore
import PyProof.Rows.RuleB_pow
import HandS.Steps
import HandS.AnyAll
import HandS.Strs
import HandS.FStr
import HandS.Conv
import HandS.Defaults
import HandS.MakeKwOnly
import HandS.Text
import HandS.Iter
import HandS.Zip0
import PyProof.Draws
import HandS.Wide
import HandS.WideBits
import HandS.Style
import HandS.Evl
import HandS.More
import HandS.Star
import HandS.RaiseMore
import HandS.Property
import HandS.TryOnly
import HandS.Zip
import HandS.GenBody
import HandS.GenYield
import HandS.GenCall
import HandS.GenList
import KE.DataFind
import KE.DataMinMax
import KE.SortData
import PyProof.P3Eq
import PyProof.LongRange
import KE.KStateDown
import HandS.Head0
import HandS.Head1
import HandS.Head2
import HandS.HeadEnd
import HandS.HeadHook1
import HandS.HeadHook2
import HandS.HeadNt
import HandS.TupAny
import HandS.SortRule
import HandS.Head3
import HandS.Ends
import PySem.Challenge.RW_duejobs_k03_counts_and_places_far
set_option Elab.async false
set_option linter.all false
set_option maxRecDepth 100000
set_option maxHeartbeats 4000000
namespace L2
open PySem PySem.Spec PyProof.Rows
/-! ### self.f, .. = .. : a field of an exception that is being made, as a target -/
def gOst (K : PySem.W.Frag) (f : Str) (to : TE) : TG := fun y σ H Q => to σ H fun x H2 => ∃ a C : Addr, x = .ref a ∧ OexC K C ∧ PySem.W.findIn K (.ref C) f = some none ∧
  ((H2 a = some (exo a C none) ∧ ∀ dx, H2 dx = none → dx ≠ a → Q σ (upd (upd H2 dx (exd dx [(f, y)])) a (exo a C (some dx)))) ∨
    ∃ (dx : Addr) (fs : List (Str × V)), H2 a = some (exo a C (some dx)) ∧ H2 dx = some (exd dx fs) ∧ fs.length ≤ 900 ∧ Q σ (upd H2 dx (exd dx ((f, y) :: fs))))
theorem pg_ost {X : Cx} {o : Expr} {to : TE} {f : Str} {pos : Pos} (ho : PE X o to)
    (ha : ∀ v, assign (.Attribute o f pos) X.env v = (do
      let ov ← holding [v] (eval o X.env)
      standAt pos.atName
      holding [v, ov] (setAttr ov f v)
      release [v, ov] []) := by intro _; rfl) : PG X (.Attribute o f pos) (gOst X.K f to) := by
  refine ⟨fun pins s σ H v u Q I r h => ?_⟩
  rw [ha]
  refine wpAny_bind (wpAny_holding (thn (ho.run pins s σ H _ I h) fun ov s1 ⟨x, H1, I1, r1, a, C, ex, T, hno, q⟩ => ?_))
  subst ex
  obtain rfl : ov = Value.ref a := r1
  refine wpAny_bind (wpAny_standAt (wpAny_bind (wpAny_holding ?_)))
  rcases q with ⟨ea, q⟩ | ⟨dx, fs, ea, ed, hl, q⟩
  · refine ost_new (s := { s1 with os := s1.os }) T I1 ea hno r fun dx s' n ne J => wpAny_release ⟨σ, _, J, q dx n ne⟩
  · refine ost_old (s := { s1 with os := s1.os }) T I1 ea ed hl hno r fun s' J => wpAny_release ⟨σ, _, J, q⟩
/-! ### t > u of two tuples of whole numbers -/
def rGtT (K : PySem.W.Frag) : R2 := fun x y H Q => ∃ (a b : Addr) (ns ms : List Int), x = .ref a ∧ y = .ref b ∧ SqT K H a (ns.map V.int) ∧ SqT K H b (ms.map V.int) ∧
  Q (.bl (Ob.lexAt (fun j => decide (ns.getD j 0 = ms.getD j 0)) (fun j => decide (ms.getD j 0 < ns.getD j 0)) (decide (ns.length > ms.length)) 0 (min ns.length ms.length))) H
/-- the j-th of whole numbers as the machine has them -/
theorem int_of {us : List Value} {ks : List Int} (h : Vals (ks.map V.int) us) (j : Nat) (hj : j < us.toArray.size) : ∃ t, us.toArray[j] = .int (ks.getD j 0) t := by
  have hu : j < us.length := by simpa using hj
  have hk : j < ks.length := by have := h.length; rw [List.length_map] at this; omega
  obtain ⟨u, e, t, rfl⟩ := h.get (i := j) (x := .int ks[j]) (by rw [List.getElem?_map, List.getElem?_eq_getElem hk]; rfl)
  rw [List.getElem?_eq_getElem hu] at e
  exact ⟨t, by rw [List.getElem_toArray, Option.some.inj e, List.getD_eq_getElem?_getD, List.getElem?_eq_getElem hk]; rfl⟩
theorem op_gtT {X : Cx} (hu : X.A.units < cLine) : OpR X (compareOp .Gt) (rGtT X.K) := by
  rintro pins s σ H _ _ v u Q I rx ry ⟨a, b, ns, ms, rfl, rfl, ha, hb, q⟩
  cases (show v = Value.ref a from rx)
  cases (show u = Value.ref b from ry)
  obtain ⟨us, ru, pu, _⟩ := I.tuple ha
  obtain ⟨ws, rw', pw, _⟩ := I.tuple hb
  have nu : us.toArray.size = ns.length := by have := ru.length; rw [List.length_map] at this; simp [← this]
  have nw : ws.toArray.size = ms.length := by have := rw'.length; rw [List.length_map] at this; simp [← this]
  have G := Ob.RcOp.tuples_gt (A := X.A) (s := s) (e := fun j => decide (ns.getD j 0 = ms.getD j 0)) (r := fun j => decide (ms.getD j 0 < ns.getD j 0)) pu pw hu
    (fun j h1 h2 => by
      obtain ⟨t, e1⟩ := int_of ru j h1
      obtain ⟨t', e2⟩ := int_of rw' j h2
      have z := SeqAt.EqAt.int_int (A := X.A.in1) (s := s) (ns.getD j 0) t (ms.getD j 0) t'
      rw [e1, e2]
      rwa [show (ns.getD j 0 == ms.getD j 0) = decide (ns.getD j 0 = ms.getD j 0) from rfl] at z)
    (fun j h1 h2 _ => by
      obtain ⟨t, e1⟩ := int_of ru j h1
      obtain ⟨t', e2⟩ := int_of rw' j h2
      rw [e1, e2]
      exact Ob.RcOp.gt_int _ _ t t')
  rw [nu, nw] at G
  exact (G X.prog X.w X.xe (EP X pins σ Q) ⟨.bl _, H, I, rfl, q⟩ : wpAny (model X.prog X.w) X.A (compareOp .Gt (.ref a) (.ref b)) (EP X pins σ Q) X.xe s)
end L2

namespace L2
open PySem PySem.Spec PyProof.Rows
/-- isinstance(e, c), e the exception that the suite holds, with its own dict -/
def rIsX (K : PySem.W.Frag) (a : Addr) (cls : Value) (d : Option Addr) : List V → Hp → VK → Prop := fun xs H Q => ∃ (D dd : Addr) (fs : List (Str × V)) (c : V) (cv : Value) (b : Bool), cls = .ref D ∧ ExcC K D ∧ d = some dd ∧ H dd = some (.xd fs) ∧ xs = [.ref a, c] ∧ ClsV c cv ∧ PySem.W.kitOne K (.ref D) cv = some b ∧ Q (.bl b) H
theorem call_isX {X : Cx} {a : Addr} {oe : Obj} {cls : Value} {d : Option Addr} {pn : List (Addr × Obj)} (hz : Zc cls d oe) (hf : ∃ vs, oe.data = .fields vs) : CallR (X.suite a ((a, oe) :: pn)) (.builtin "isinstance") (rIsX X.K a cls d) := by
  rintro pins s σ H _ us Q I r ⟨D, dd, fs, c, cv, b, rfl, C, rfl, ea, rfl, hcv, e, q⟩
  obtain ⟨u1, u2, rfl, r1, r2⟩ := vals2 r
  cases (show u1 = Value.ref a from r1)
  cases hcv.eq r2
  obtain ⟨mA, hns, _⟩ := (show ObjOk X.prog X.w H s.heap dd (.xd fs) from I.hok dd _ ea)
  obtain ⟨od, ho, _⟩ := lookIn_ns hns
  obtain ⟨vs, hv⟩ := hf
  have stands : PySem.W.InstAt s.heap a oe D (some od) := ⟨(I.pin (a, oe) (by simp)).1, hz.1, by rw [PySem.W.notCls, hv], hz.2 ▸ ho⟩
  have known : (PySem.W.clsIn X.K D).isSome = true := by
    obtain ⟨cd, h, _⟩ := PySem.W.any_some C.hd
    rw [h] <;> rfl
  refine PySem.W.kia_one (PySem.W.kitx_exc known C.hg C.hk C.hs C.ha C.hn C.ht C.hm) I.kIn stands e (fun z => nomatch z) fun tk => ?_
  exact ⟨.bl b, H, I.tok tk, rfl, q⟩
end L2
namespace PySem.W
open PySem
theorem xr_kit {K : Frag} {D C : Addr} {b : Bool} (hd : hasDictIn K C = true) (ht : typeIn K (.ref C) = some (.type "type")) (hs : subIn K (.ref D) (.ref C) = some b) (hself : subIn K (.ref C) (.ref C) = some true) : kitOne K (.ref D) (.ref C) = some b := by
  obtain ⟨cd, hc, _⟩ := any_some hd
  unfold kitOne
  by_cases e : D = C
  · subst e
    rw [hself] at hs
    rw [if_pos (by simp)]
    exact hs
  · rw [if_neg (by simpa using e)]
    show (if ((clsIn K C).isSome && typeIn K (.ref C) == some (.type "type")) = true then subIn K (.ref D) (.ref C) else none) = some b
    rw [if_pos (by rw [hc, ht] <;> rfl)]
    exact hs
theorem xr_kitV {K : Frag} {D : Addr} {T : String} {b : Bool} (hm : kitMeta T = true) (hs : subIn K (.ref D) (.type T) = some b) : kitOne K (.ref D) (.type T) = some b := by
  unfold kitOne
  rw [if_neg (by intro z; cases (beq_iff_eq.mp z))]
  show (if kitMeta T = true then subIn K (.ref D) (.type T) else none) = some b
  rw [if_pos hm]
  exact hs
end PySem.W
namespace L2
open PySem PySem.Spec PyProof.Rows
/-! ### o.m(e, ..), the method may raise; what is raised is wished for at the caller's slots -/
def tMethSS (C : Addr) (m : Str) (sp : Sp) (E : St → XK) (ta : TE) (t : TA) : TE := fun σ H Q => ta σ H fun x H1 => ∃ a dx fs, x = .ref a ∧ H1 a = some (.ins C dx fs) ∧ fs.lookup m = none ∧
  t σ H1 fun vs H2 => sp (x :: vs) H2 Q (E σ)
theorem pe_methSS {X : Cx} {CX : CXT} {k : Nat} {f C : Addr} {fd : FuncData} {ps : List Str} {sp : Sp} {E : St → XK} {m : Str} {pos apos : Pos} {e o : Expr} {es : List Expr} {ta : TE} {t : TA} {pl : Sem Bool}
    (he : PE X o ta) (c : Cls X.K C) (hm : Meth X.K C m f) (F : FnOk X.prog X.w X.K X.mg X.base CX k f fd ps sp) (hr : Room k X.A) (hb : Binds X.K fd ps []) (hx : ∀ σ, PassesAt CX X σ (E σ)) (ha : PA X (e :: es) t)
    (hst : starEach (e :: es) X.env = (false, eval e X.env) :: starEach es X.env := by rfl) (hpl : (backTo pos (starEach es X.env)).any (·.1) = false := by rfl)
    (ht : eval (.Call (.Attribute o m apos) (e :: es) [] pos) X.env = (do
      let ov ← eval o X.env
      standAt apos.atName
      let (f, first) ← holding [ov] (getMethod ov m pl)
      callWith pos f first (backTo pos (starEach (e :: es) X.env)) (backToKw pos (keywordEach [] X.env))) := by rfl) :
    PE X (.Call (.Attribute o m apos) (e :: es) [] pos) (tMethSS C m sp E ta t) := by
  constructor
  intro pins s σ H Q I h
  refine PySem.W.methodCall_KW (pl := pl) (thn (he.run pins s σ H _ I h) ?_) ht
  rintro ov s1 ⟨_, H1, I1, rx, r, dx, fs, rfl, er, l, q⟩
  cases (show ov = Value.ref r from rx)
  have args := ha.run pos pins s1 σ H1 _ I1 q
  refine getmeth_ok I1 er c hm l (PySem.W.callWith_K (first := [.ref r]) (h₀ := X.base) I1.ok.mod.kin hm.kp (thn args ?_) hst hpl)
  rintro us s2 ⟨vs, H2, I2, rv, asked⟩
  exact ⟨I2.kIn, run_fnS (us := .ref r :: us) (vs := .ref r :: vs) F hr hb (hx σ) I2 (.cons rfl rv) asked⟩
/-- a promise that nobody asks -/
theorem fn_none {P : Program} {w : World} {K : PySem.W.Frag} {mg : Str → Option Value} {base : Heap} {CX : CXT} {k : Nat} {f : Addr} {fd : FuncData} {ps : List Str} : FnOk P w K mg base CX k f fd ps (fun _ _ _ _ => False) :=
  ⟨fun _ _ _ _ h => h.elim, fun _ _ _ _ _ _ _ _ _ _ _ _ _ h => h.elim⟩
end L2
namespace L2
open PySem PySem.Spec PyProof.Rows
/-! ### within a comprehension's block: the written part named -/
theorem ix_tupK {X : Cx} (K : PySem.W.Frag) (h : X.K = K := by rfl) : IxR X (rIxT K) := by subst h; exact ix_tup
theorem ix_listK {X : Cx} (K : PySem.W.Frag) (h : X.K = K := by rfl) : IxR X (rIxL K) := by subst h; exact ix_list
theorem ix_seqK {X : Cx} (K : PySem.W.Frag) (h : X.K = K := by rfl) : IxR X (rIx K) := by subst h; exact ix_seq
def rLenK (K : PySem.W.Frag) : List V → Hp → VK → Prop := fun xs H Q => ∃ p ys, xs = [.ref p] ∧ (SqL K H p ys ∨ SqT K H p ys) ∧ Q (.int ys.length) H
theorem call_lenK {X : Cx} (K : PySem.W.Frag) (h : X.K = K := by rfl) : CallR X (.builtin "len") (rLenK K) := by subst h; exact call_len_seq
theorem op_inK {X : Cx} (K : PySem.W.Frag) (h : X.K = K := by rfl) : OpR X (compareOp .In) (rIn K false) := by subst h; exact op_in_seq
theorem op_notInK {X : Cx} (K : PySem.W.Frag) (h : X.K = K := by rfl) : OpR X (compareOp .NotIn) (rIn K true) := by subst h; exact op_notIn_seq
theorem pe_fldK {X : Cx} (K : PySem.W.Frag) {o : Expr} {f : Str} {pos : Pos} {ta : TE} (ha : PE X o ta) (hb : attributeBase o f X.env (eval o X.env) = eval o X.env) (h : X.K = K := by rfl) : PE X (.Attribute o f pos) (tFld K ta f) := by subst h; exact pe_fld ha hb
end L2

namespace L2
open PySem PySem.Spec PyProof.Rows
/-! ### sum of a list or of a tuple of whole numbers -/
theorem sum_go (val : Nat → Int) (ks : List Int) (h : ∀ (j : Nat) (x : Int), ks[j]? = some x → val j = x) : ∀ n, n ≤ ks.length → preSum val n = (ks.take n).sum
  | 0, _ => by rw [List.take_zero]; rfl
  | n + 1, hn => by
    have e := List.getElem?_eq_getElem (l := ks) (i := n) (by omega)
    rw [List.take_succ_eq_append_getElem (by omega), List.sum_append]
    show preSum val n + val n = _
    rw [sum_go val ks h n (by omega), h n _ e]
    simp
theorem sum_tup {prog : Program} {w : World} {A : Around} {E : Value → Shared → Prop} {s : Shared} {t : Addr} {us : List Value} {ks : List Int} {Q : Value → Shared → Prop} (hh : A.handled = none) (ht : s.heap.IsTuple t us.toArray) (hv : Vals (ks.map V.int) us)
    (h : ∀ h' tk t', (∀ b o, s.heap.get? b = some o → h'.get? b = some o) → Q (.int ks.sum t') { s with heap := h', toks := tk }) : wpAny (model prog w) A (call (.builtin "sum") [.ref t]) Q E s := by
  have hlen : us.length = ks.length := by rw [← hv.length, List.length_map]
  have lt : t < s.heap.objs.size := by obtain ⟨o, e, _⟩ := ht; exact Heap.lt_size e
  refine call_sum_walkG (wpAny_pyIter_tuple ht ?_)
  have up : ∀ {b : Addr} {o : Obj}, s.heap.get? b = some o → (s.heap.push { cls := .type "tuple_iterator", data := .fields #[.ref t, .int 0 0] }).get? b = some o := fun e => Heap.get?_push_of_some _ e
  refine ⟨s.heap.objs.size, _, _, _, _, _, fun j => (ks[j]?).getD 0, rfl, Walks.tuple (A := A.in1) hh _ t (Nat.ne_of_lt lt) us.toArray, ⟨⟨_, Heap.get?_push_size _ rfl, rfl, rfl⟩, ht.at fun o e => up e⟩, fun b hb => ?_, fun i v hi => ?_, fun h' tk t' hk => ?_⟩
  · show b < (s.heap.push _).objs.size
    rw [Heap.size_push]
    rcases List.mem_cons.mp hb with rfl | hb
    · exact Nat.lt_succ_self _
    · have : b = t := by simpa using hb
      rw [this]; exact Nat.lt_succ_of_lt lt
  · have hi' : us[i]? = some v := by simpa using hi
    have hk : i < ks.length := by rw [← hlen]; exact (List.getElem?_eq_some_iff.mp hi').1
    obtain ⟨u, e, tt, rfl⟩ := hv.get (i := i) (x := .int ks[i]) (by rw [List.getElem?_map, List.getElem?_eq_getElem hk]; rfl)
    rw [hi'] at e
    cases e
    exact ⟨tt, by dsimp only; rw [List.getElem?_eq_getElem hk]; rfl⟩
  · have nm : ∀ b o, s.heap.get? b = some o → b ∉ [s.heap.objs.size] := fun b o e hm => by
      have q : b = s.heap.objs.size := by simpa using hm
      rw [q] at e
      exact Nat.lt_irrefl _ (Heap.lt_size e)
    have z := h h' tk t' fun b o e => hk b o (nm b o e) (up e)
    have e : preSum (fun j => (ks[j]?).getD 0) us.toArray.size = ks.sum := by
      rw [List.size_toArray, hlen, sum_go _ ks (fun j x hj => by simp [hj]) _ (Nat.le_refl _), List.take_length]
    rw [e]
    exact z
def rSumA (K : PySem.W.Frag) : List V → Hp → VK → Prop := fun vs H Q => ∃ (a : Addr) (ns : List Int), vs = [V.ref a] ∧ (SqL K H a (ns.map V.int) ∨ SqT K H a (ns.map V.int)) ∧ Q (.int ns.sum) H
theorem cr_sumA {X : Cx} (hc : X.calm = true) : CallR X (.builtin "sum") (rSumA X.K) := by
  rintro pins s σ H vs us Q I r ⟨a, ns, rfl, hs | hs, q⟩
  · exact cr_sum hc pins s σ H _ us Q I r ⟨a, ns, rfl, hs, q⟩
  · obtain ⟨its, rv, ht, _⟩ := I.tuple hs
    rw [Vals.ref1 r]
    exact sum_tup (I.ok.hd hc) ht rv fun h' tk t' hk => ⟨.int _, H, I.kept hk, ⟨_, rfl⟩, q⟩
/-! ### a walk of a list or of a tuple -/
def PI.two {X : Cx} {tg : Expr} {l : Expr} {t1 t2 : TI} (h1 : PI X tg l t1) (h2 : PI X tg l t2) : PI X tg l (fun σ H R => t1 σ H R ∨ t2 σ H R) :=
  ⟨fun pins s σ H R I h => h.elim (h1.run pins s σ H R I) (h2.run pins s σ H R I)⟩
theorem pi_seq {X : Cx} {tg l : Expr} {tl : TE} (hl : PE X l tl) : PI X tg l (fun σ H R => iList X.K tl σ H R ∨ iTup X.K tl σ H R) := PI.two (pi_list hl) (pi_tup hl)
/-! ### powers of any base -/
def CPowW (i j : Int) : Prop := 0 ≤ j ∧ (Builtin.Int.intBits i : Int) * j ≤ 2 ^ 27
theorem op_powW {X : Cx} : OpR X (binaryOp .Pow) (rI CPowW fun i j => .int (i ^ j.toNat)) := opI fun _ _ _ _ _ _ _ hc q => pow_int hc.1 hc.2 q
/-! ### several except clauses, each with a name or without -/
/-- an exception of the class cls at a has come back to the frame that looks at it; sI: the state without it -/
structure Landed (X : Cx) (pins : List (Addr × Obj)) (σ : St) (H : Hp) (a : Addr) (cls : Value) (d : Option Addr) (B : Heap) (sI s : Shared) : Prop where
  inv : Inv X pins σ H sI
  grd : ∀ b o, sI.heap.get? b = some o → b ∉ frs X.stack → B.get? b = some o
  up : sI.heap.UpToSlots s.heap
  fly : HandSPX.FlyingZ B (X.env :: X.outer) a (Zc cls d) s.heap
  no : H a = none
  os : s.os = sI.os
  gens : AllBare s.gens
section
variable {X : Cx} {pins : List (Addr × Obj)} {σ : St} {H : Hp} {a : Addr} {cls : Value} {d : Option Addr} {B : Heap} {sI s : Shared}
theorem Landed.now (L : Landed X pins σ H a cls d B sI s) : Inv X pins σ H s := L.inv.landed L.grd L.fly.1 L.up L.os L.gens
theorem Landed.apart (L : Landed X pins σ H a cls d B sI s) (hf : X.env.frame = some X.env.locals) : a ≠ X.env.locals ∧ a ∉ X.fs := by
  obtain ⟨oe, vs, he, _, hd⟩ := L.fly.there
  have out : a ∉ frs (X.env :: X.outer) := fun hm => by
    obtain ⟨_, o, e, no⟩ := L.fly.2.2.1.mem hm
    rw [he] at e
    cases e
    exact no _ hd
  refine ⟨fun z => out (List.mem_filterMap.mpr ⟨X.env, List.mem_cons_self, by rw [hf, z]⟩), fun hm => ?_⟩
  obtain ⟨e, he', q⟩ := List.mem_filterMap.mp hm
  exact out (List.mem_filterMap.mpr ⟨e, List.mem_cons_of_mem _ he', q⟩)
/-- in the suite's context -/
theorem Landed.suite (L : Landed X pins σ H a cls d B sI s) (hf : X.env.frame = some X.env.locals) : ∃ oe, Zc cls d oe ∧ (∃ vs, oe.data = .fields vs) ∧ Inv (X.suite a ((a, oe) :: (X.pn ++ pins))) [] σ H s := by
  obtain ⟨oe, vs, he, hz, hd⟩ := L.fly.there
  obtain ⟨n1, n2⟩ := L.apart hf
  exact ⟨oe, hz, ⟨vs, hd⟩, L.now.suite he hd L.no n1 n2⟩
theorem Landed.free (L : Landed X pins σ H a cls d B sI s) {M : Model} {A : Around} {E : Value → Shared → Prop} {Q : Unit → Shared → Prop} (h : ∀ s', Landed X pins σ H a cls d B sI s' → Q () s') : wpAny M A (setFlight (.ref a) none) Q E s :=
  HandSPX.lands_againZ L.fly fun h' f u => h _ ⟨L.inv, L.grd, L.up.trans u, f, L.no, L.os, L.gens⟩
end
/-- what these clauses wish of an exception, and that they do it -/
structure Hds (X : Cx) (hds : List ExceptHandler) (W : Ends → WX) : Prop where
  run : ∀ (pins : List (Addr × Obj)) (σ : St) (H : Hp) (a : Addr) (cls : Value) (d : Option Addr) (B : Heap) (sI s : Shared) (D : Ends), Landed X pins σ H a cls d B sI s → W D cls d σ H →
    wpAny (model X.prog X.w) X.A (handleBy (.ref a) X.env hds) (SP X pins D) X.xe s
section
variable {X : Cx} {x n : Str} {c : Value} {i : Nat} {suite : List Stmt} {b₀ : Stmt} {np pos' : Pos} {ts : Addr → Value → Option Addr → TS} {Wout : WX} {hds : List ExceptHandler} {W : Ends → WX}
theorem hds_nil (hs : X.stack = X.env :: X.outer) (hf : X.env.frame = some X.env.locals) (tk : Takes X Wout) : Hds X [] (fun _ => Wout) := by
  refine ⟨fun pins σ H a cls d B sI s D L w => wpAny_handleBy_nil ?_⟩
  obtain ⟨_, _, _, oe, vs, T, _, _, he, _, hd, h1, _⟩ := id L.fly
  unfold PySem.passOn
  refine wpAny_bind (wpAny_field he hd h1 ?_)
  rw [if_neg (show ¬ ((Value.ref T == Value.none) = true) from by simp)]
  have on : wpAny (model X.prog X.w) X.A (setFlight (.ref a) X.env.frame) (fun _ s4 => wpAny (model X.prog X.w) X.A (throw (.ref a) : Sem Flow) (SP X pins D) X.xe s4) X.xe s := by
    rw [hf]
    refine HandSPX.setFlight_upZ L.fly fun h' held u => wpAny_throw (tk _ _ ?_)
    exact ⟨a, B, sI, pins, σ, H, cls, d, rfl, L.inv, L.grd, L.up.trans u, .inr (.inr (by rw [hs]; exact held)), L.no, L.os, L.gens, w⟩
  first
    | exact wpAny_bind (wpAny_pure (wpAny_bind on))
    | exact wpAny_bind on
/-- the clause's own test, asked in the suite's marks -/
theorem hds_test {pins : List (Addr × Obj)} {σ : St} {H : Hp} {a : Addr} {cls : Value} {d : Option Addr} {B : Heap} {sI s : Shared} {b : Bool} {E : Value → Shared → Prop} {R : Bool → Shared → Prop} (hf : X.env.frame = some X.env.locals) (hc : Names X x c) (L : Landed X pins σ H a cls d B sI s) (hb : PySem.W.exmOne X.K cls c = some b)
    (h : R b s) : wpAny (model X.prog X.w) (X.A.mark (some (.ref a))) (eval (.Name x np) X.env) (fun v s1 => wpAny (model X.prog X.w) (X.A.mark (some (.ref a))) (excMatches (.ref a) v) R E s1) E s := by
  obtain ⟨oe, vs, he, hz, hd⟩ := L.fly.there
  have ty : PySem.W.Looks (model X.prog X.w) s.heap (typeOf (.ref a)) cls := fun A Q E s k q => wpAny_typeOf_ref (k _ _ he) (by rw [hz.1]; exact q)
  have it := (PySem.W.exm_one (M := model X.prog X.w) L.now.kIn ty hb).here (A := X.A.mark (some (.ref a))) (E := E) (Q := R) h
  obtain ⟨n1, n2⟩ := L.apart hf
  have S := L.now.suite he hd L.no n1 n2
  obtain ⟨hg, hdbg, hm | ⟨hm, hv, hnn⟩⟩ := hc
  · exact ld_glob (X := X.suite a ((a, oe) :: (X.pn ++ pins))) S hg hm it hdbg
  · exact ld_blt (X := X.suite a ((a, oe) :: (X.pn ++ pins))) S hg hm hv it hnn hdbg
/-- except x as n: suite; slot i is n's -/
theorem hds_as (hf : X.env.frame = some X.env.locals) (hN : X.N.Nodup) (hi : X.N[i]? = some n) (hln : X.env.kindOf n = some .local) (hc : Names X x c)
    (hsu : ∀ (a : Addr) (oe : Obj) (cls : Value) (d : Option Addr) (pn : List (Addr × Obj)), Zc cls d oe → (∃ vs, oe.data = .fields vs) → PSs (X.suite a ((a, oe) :: pn)) (b₀ :: suite) (ts a cls d)) (r : Hds X hds W) :
    Hds X (.ExceptHandler (some (.Name x np)) (some n) (b₀ :: suite) pos' :: hds) (fun D cls d σ H => ∃ b, PySem.W.exmOne X.K cls c = some b ∧
      (b = true → ∀ a, H a = none → ts a cls d { nx := fun σ' H' => D.nx (σ'.set i none) H', rt := D.rt, bk := fun σ' H' => D.bk (σ'.set i none) H', ct := fun σ' H' => D.ct (σ'.set i none) H' } (σ.set i (some (.ref a))) H) ∧ (b = false → W D cls d σ H)) := by
  refine ⟨fun pins σ H a cls d B sI s D L ⟨b, hb, yes, no⟩ => ?_⟩
  refine wpAny_handleBy_cons (codeAny_handlers_test (hds_test hf hc L hb ?_)) (by intro q; cases q)
  cases b with
  | false => exact r.run pins σ H a cls d B sI s D L (no rfl)
  | true =>
    refine codeAny_handlers_suite_as (L.free fun s1 L1 => ?_)
    obtain ⟨oe, hz, hv, S1⟩ := L1.suite hf
    refine store_ok (X := X.suite a ((a, oe) :: (X.pn ++ pins))) (v := .ref a) S1 hN hi (.inl hln) rfl (fun s2 S2 => ?_) (.inr hln)
    refine wpAny_mono ((hsu a oe cls d (X.pn ++ pins) hz hv).run [] s2 _ H _ S2 (yes rfl a L.no)) (fun f s3 q => ?_) (fun _ _ z => False.elim z)
    have gone : ∀ {σ' : St} {H' : Hp} {Q : Shared → Prop}, Inv (X.suite a ((a, oe) :: (X.pn ++ pins))) [] σ' H' s3 → (∀ s4, Inv X pins (σ'.set i none) H' s4 → Q s4) →
        wpAny (model X.prog X.w) X.A (do bindName X.env n .none; unbindBehindTheSuite X.env n pos') (fun _ s4 => Q s4) X.xe s3 := fun S hq => gone_ok (S.unsuite L.inv.ok) hN hi hln hq
    cases f with
    | next => obtain ⟨_, _, S3, q3⟩ := q; exact gone S3 fun s4 J => ⟨_, _, J, q3⟩
    | brk => obtain ⟨_, _, S3, q3⟩ := q; exact gone S3 fun s4 J => ⟨_, _, J, q3⟩
    | cont => obtain ⟨_, _, S3, q3⟩ := q; exact gone S3 fun s4 J => ⟨_, _, J, q3⟩
    | ret u => obtain ⟨_, _, _, S3, r3, q3⟩ := q; exact gone S3 fun s4 J => ⟨_, _, _, J, r3, q3⟩
/-- except x: suite -/
theorem hds_only (hf : X.env.frame = some X.env.locals) (hc : Names X x c)
    (hsu : ∀ (a : Addr) (oe : Obj) (cls : Value) (d : Option Addr) (pn : List (Addr × Obj)), Zc cls d oe → (∃ vs, oe.data = .fields vs) → PSs (X.suite a ((a, oe) :: pn)) (b₀ :: suite) (ts a cls d)) (r : Hds X hds W) :
    Hds X (.ExceptHandler (some (.Name x np)) none (b₀ :: suite) pos' :: hds) (fun D cls d σ H => ∃ b, PySem.W.exmOne X.K cls c = some b ∧ (b = true → ∀ a, H a = none → ts a cls d D σ H) ∧ (b = false → W D cls d σ H)) := by
  refine ⟨fun pins σ H a cls d B sI s D L ⟨b, hb, yes, no⟩ => ?_⟩
  refine wpAny_handleBy_cons (codeAny_handlers_test (hds_test hf hc L hb ?_)) (by intro q; cases q)
  cases b with
  | false => exact r.run pins σ H a cls d B sI s D L (no rfl)
  | true =>
    refine codeAny_handlers_suite (L.free fun s1 L1 => ?_)
    obtain ⟨oe, hz, hv, S1⟩ := L1.suite hf
    refine wpAny_mono ((hsu a oe cls d (X.pn ++ pins) hz hv).run [] s1 _ H _ S1 (yes rfl a L.no)) (fun f s3 q => ?_) (fun _ _ z => False.elim z)
    cases f with
    | next => obtain ⟨_, _, S3, q3⟩ := q; exact ⟨_, _, S3.unsuite L.inv.ok, q3⟩
    | brk => obtain ⟨_, _, S3, q3⟩ := q; exact ⟨_, _, S3.unsuite L.inv.ok, q3⟩
    | cont => obtain ⟨_, _, S3, q3⟩ := q; exact ⟨_, _, S3.unsuite L.inv.ok, q3⟩
    | ret u => obtain ⟨_, _, _, S3, r3, q3⟩ := q; exact ⟨_, _, _, S3.unsuite L.inv.ok, r3, q3⟩
theorem ps_try_hds {body : List Stmt} {h₀ : ExceptHandler} {pos : Pos} {tb : WX → TS} (hs : X.stack = X.env :: X.outer) (hf : X.env.frame = some X.env.locals)
    (hb : ∀ (W' : WX) (pn : List (Addr × Obj)) (xe : Value → Shared → Prop), Takes (X.tr pn xe) W' → PassesOwn (model X.prog X.w) X.A X.env xe → PSs (X.tr pn xe) body (tb W')) (r : Hds X (h₀ :: hds) W) :
    PS X (.Try body (h₀ :: hds) [] [] pos) (fun D σ H => tb (W D) D σ H) := by
  refine ⟨fun pins s σ H D I h => ?_⟩
  have ok := I.ok
  have hfr : X.A.frames = some (X.env :: X.outer) := by rw [ok.frames, hs]
  refine wpAny_Try_except ?_
  have took := hb (W D) (X.pn ++ pins) (fun e s₁ => wpAny (model X.prog X.w) X.A (noteFrame e X.env) (fun _ s₂ => wpAny (model X.prog X.w) X.A (setFlight e none) (fun _ s₃ =>
    wpAny (model X.prog X.w) X.A (handleBy e X.env (h₀ :: hds)) (SP X pins D) X.xe s₃) X.xe s₂) X.xe s₁) ?_ PassesOwn.looking
  · refine wpAny_mono (took.run [] s σ H D (I.toTry _) h) (fun f s1 q => ?_) (fun _ _ z => z)
    cases f with
    | next => obtain ⟨_, _, J, q⟩ := q; exact wpAny_execs_nil ⟨_, _, J.ofTry ok, q⟩
    | brk => obtain ⟨_, _, J, q⟩ := q; exact ⟨_, _, J.ofTry ok, q⟩
    | cont => obtain ⟨_, _, J, q⟩ := q; exact ⟨_, _, J.ofTry ok, q⟩
    | ret u => obtain ⟨_, _, _, J, r, q⟩ := q; exact ⟨_, _, _, J.ofTry ok, r, q⟩
  · rintro u s' ⟨a, B, sI, pins', σ', H', cls, d, rfl, J', nb, up, sky, na, os, ag, w⟩
    have sky' : Sky B (X.env :: X.outer) a (Zc cls d) X.env.locals s'.heap := by rw [← hs]; exact sky
    exact Sky.land Zc.steady hfr hf sky' fun h3 fl up3 => r.run pins σ' H' a cls d B sI _ D ⟨J'.ofTry ok, nb, up.trans up3, fl, na, os, ag⟩ w
end
/-! ### C.m() where m is a staticmethod of the class at C -/
structure SMet (K : PySem.W.Frag) (C : Addr) (mc : Value) (m : Str) (p g : Addr) : Prop where
  found : PySem.W.findCls K (.ref C) mc m = some (.get (.builtin "staticmethod.__get__") (.ref p) .none (.ref C))
  held : ∃ rest, PySem.W.recIn K p "staticmethod" = some (.ref g :: rest)
def tSMeth (C : Addr) (sp : Sp) (dvs : List V) (E : XK) (ta : TE) : TE := fun σ H Q => ta σ H fun x H1 => x = .ref C ∧ sp dvs H1 Q E
theorem pe_smeth0 {X : Cx} {CX : CXT} {k : Nat} {C p g : Addr} {mc : Value} {fd : FuncData} {ps : List Str} {ds : List Value} {dvs : List V} {sp : Sp} {E : XK} {o : Expr} {m : Str} {pos apos : Pos} {ta : TE} {pl : Sem Bool}
    (ho : PE X o ta) (r : ClX.CRead X.K C mc) (c : SMet X.K C mc m p g) (F : FnOk X.prog X.w X.K X.mg X.base CX k g fd ps sp) (room : Room k X.A) (kp : PySem.W.keepIn X.K (.ref g) = true) (hb : Binds X.K fd ps ds) (hd : Vals dvs ds) (hx : Passes CX X E)
    (form : eval (.Call (.Attribute o m apos) [] [] pos) X.env = (do
      let ov ← eval o X.env
      standAt apos.atName
      let (f, first) ← holding [ov] (getMethod ov m pl)
      callWith pos f first (backTo pos (starEach [] X.env)) (backToKw pos (keywordEach [] X.env))) := by rfl) :
    PE X (.Call (.Attribute o m apos) [] [] pos) (tSMeth C sp dvs E ta) := by
  refine ⟨fun pins s σ H Q I h => PySem.W.methodCall_KW (pl := pl) (thn (ho.run pins s σ H _ I h) fun u s1 ⟨x, H1, I1, rx, ex, q⟩ => ?_) form⟩
  subst ex
  obtain rfl : u = Value.ref C := rx
  obtain ⟨rest, hp⟩ := c.held
  refine PySem.W.method_cls I1.kIn r.ga (PySem.W.cls_bind I1.kIn r.rd c.found (wpAny_call (PySem.W.sm_get (s := { s1 with toks := s1.toks + 1 }) I1.kIn hp (PySem.W.handed_on rfl ?_))))
  exact PySem.W.callWith_K0 I1.kIn kp (run_fn (us := []) F room hb hd hx (I1.tok _) .nil q)
/-! ### a def without loops and calls, called while an exception is handled (its context is of no matter) -/
structure FnC (P : Program) (w : World) (K : PySem.W.Frag) (mg : Str → Option Value) (base : Heap) (k : Nat) (f : Addr) (fd : FuncData) (ps : List Str) (sp : Sp) : Prop where
  arity : ∀ vs H Q E, sp vs H Q E → vs.length = ps.length
  goes : ∀ (A : Around) (outer : List Env) (s : Shared) (H : Hp) (args : Args) (us : List Value) (vs : List V) (Q : VK), L2H.RoomH k A → Env0 P w K mg base A outer s H → BindsTo s fd args (ps.zip us) → Vals vs us → sp vs H Q E0 →
    codeAny (model P w) A (.call (.ref f) args) (CR CX0 outer P w H s Q E0) s
def cxC (P : Program) (w : World) (K : PySem.W.Frag) (mg : Str → Option Value) (base : Heap) (N : List Str) (qual : Str) (scope : Scope) (f : Addr) (cd : Value) (A : Around) (outer : List Env) (s : Shared) (H : Hp) : Cx :=
  { cxOf CX0 P w K mg base N qual scope f cd A outer s H E0 with calm := false, xe := fun _ _ => False }
theorem Fun.okC {P : Program} {w : World} {K : PySem.W.Frag} {mg : Str → Option Value} {base : Heap} {x qual : Str} {st : Stmt} {f : Addr} {fd : FuncData} {N ps : List Str} {k : Nat} {sp : Sp} (F : Fun K x qual st f fd) (S : FnScope N ps (defScope st)) (ar : ∀ vs H Q E, sp vs H Q E → vs.length = ps.length)
    (body : ∀ (cdv : Value) (A : Around) (outer : List Env) (s : Shared) (H : Hp) (vs : List V) (Q : VK), sp vs H Q E0 →
      ∃ t, PSs (cxC P w K mg base N qual (defScope st) f cdv A outer s H) (defBody st) t ∧ t { nx := fun _ H' => Q .non H', rt := Q } (start N vs) H) : FnC P w K mg base (k + 1) f fd ps sp := by
  obtain ⟨oc, od, kV, doc, pm, an, cdv, ct, osl, rfl, lk, hcd⟩ := F.ex
  refine ⟨ar, fun A outer s H args us vs Q room e0 hb rv want => ?_⟩
  have stands := fun b o e => (e0.bs b o e).1
  have KX : K.In s.heap := e0.mod.kin.keeps stands
  have slot : ∀ y ∈ ps.zip us, (defScope st).names.lookup y.1 = some .local ∨ ((defScope st).names.lookup y.1 = some .cell ∧ ((cellsFrom (s.heap.objs.size + 1) (defScope st).names []).lookup y.1).isSome = true) := by
    rintro ⟨n, v⟩ hy
    exact (S.par n (List.of_mem_zip hy).1).imp id fun q => ⟨q, PySem.W.cellsFrom_some _ _ _ (.inl q)⟩
  refine codeAny_call_function room.depth (KX _ _ lk) rfl S.co S.gen rfl (PySem.W.codeRec_of KX hcd) (hb _ _ _ _ (wpAny_newFunctionEnv_cells S.kind slot fun env he s1 x => ?_))
  cases he
  refine ⟨(e0.mod.nolimit.keeps stands).keeps x.toInCall.keep, codeAny_func ?_⟩
  obtain ⟨t, ht, hq⟩ := body cdv A outer s H vs Q want
  have e1 : Env0 P w K mg base { A with handled := none } outer s H := { e0 with frames := e0.frames }
  have I0 := inv_start (CX := CX0) (E := E0) (cd := cdv) S rfl e1 (ar _ _ _ _ want) rv x
  have I : Inv (cxC P w K mg base N qual (defScope st) f cdv A outer s H) [] (start N vs) H s1 :=
    ⟨{ I0.ok with hd := (fun z => nomatch z), frames := Around.frames_deeper e0.frames }, I0.os, I0.bare, I0.base, I0.loc, I0.cell, I0.free, I0.freeC, I0.pin, I0.hok, I0.len⟩
  refine wpAny_mono (ht.run [] s1 _ H _ I hq) (fun fl s' z => ?_) (fun e s' z => False.elim z)
  cases fl with
  | next => obtain ⟨_, H', J, q⟩ := z; exact ⟨.non, H', J.os, J.bare, J.base, J.hok, rfl, q⟩
  | ret u => obtain ⟨v, _, H', J, rr, q⟩ := z; exact ⟨v, H', J.os, J.bare, J.base, J.hok, rr, q⟩
  | brk => exact (let ⟨_, _, _, q⟩ := z; False.elim q)
  | cont => exact (let ⟨_, _, _, q⟩ := z; False.elim q)
theorem pe_callC {X : Cx} {k : Nat} {f : Addr} {fd : FuncData} {ps : List Str} {sp : Sp} {x : Str} {p pos : Pos} {e : Expr} {es : List Expr} {t : TA} (F : FnC X.prog X.w X.K X.mg X.base k f fd ps sp) (room : L2H.RoomH k X.A) (hg : Gl X x) (hm : X.mg x = some (.ref f)) (kp : PySem.W.keepIn X.K (.ref f) = true) (hb : Binds X.K fd ps []) (ha : PA X (e :: es) t)
    (dbg : (x == ("__debug__" : Str)) = false := by decide) (one : starEach (e :: es) X.env = (false, eval e X.env) :: starEach es X.env := by rfl) (plain : (backTo pos (starEach es X.env)).any (·.1) = false := by rfl) :
    PE X (.Call (.Name x p) (e :: es) [] pos) (fun σ H Q => t σ H fun vs H1 => sp vs H1 Q E0) := by
  refine ⟨fun pins s σ H Q I h => wpAny_Call_Name_kw (ld_glob I hg hm (PySem.W.callWith_K (h₀ := X.base) I.ok.mod.kin kp (thn (ha.run pos pins s σ H _ I h) fun us s1 ⟨vs, H1, I1, r, q⟩ => ⟨I1.kIn, ?_⟩) one plain) dbg)⟩
  have b := hb s1 us I1.kIn (by rw [List.append_nil, ← r.length]; exact F.arity _ _ _ _ q)
  rw [List.append_nil] at b
  refine wpAny_call (codeAny_mono (F.goes X.A X.stack s1 H1 ⟨us, []⟩ us vs Q room I1.env0 b r q) fun z s' c => ?_)
  cases z with
  | error e => exact False.elim c
  | ok fl =>
    cases fl with
    | ret u => exact I1.after c
    | next => exact False.elim c
    | brk => exact False.elim c
    | cont => exact False.elim c
end L2

namespace L2
open PySem PySem.Spec PyProof.Rows
/-! ### frames -/
def But (p : Addr) (H H' : Hp) : Prop := ∀ b o, H b = some o → b ≠ p → H' b = some o
theorem But.refl (p : Addr) (H : Hp) : But p H H := fun _ _ h _ => h
theorem But.same {p : Addr} {H H1 H2 : Hp} (a : Same H H1) (b : But p H1 H2) : But p H H2 := fun c o h n => b c o (a c o h) n
theorem But.thenS {p : Addr} {H H1 H2 : Hp} (a : But p H H1) (b : Same H1 H2) : But p H H2 := fun c o h n => b c o (a c o h n)
theorem But.upd {p : Addr} {H H1 : Hp} {o : HO} (a : But p H H1) : But p H (upd H1 p o) := fun c o' h n => by rw [upd_ne n]; exact a c o' h n
theorem But.trans {p : Addr} {H H1 H2 : Hp} (a : But p H H1) (b : But p H1 H2) : But p H H2 := fun c o h n => b c o (a c o h n) n
/-- what was new at H's time may be anything -/
theorem But.new {p : Addr} {H H2 : Hp} (h : H p = none) (b : But p H H2) : Same H H2 := fun c o e => b c o e (ne_of_none e h)
theorem Same.new {H : Hp} {p : Addr} {o : HO} (h : H p = none) : Same H (upd H p o) := fun b u e => by rw [upd_ne (ne_of_none e h)]; exact e
theorem Same.sqT {K : PySem.W.Frag} {H H' : Hp} {p : Addr} {xs : List V} (s : Same H H') (h : SqT K H p xs) : SqT K H' p xs := by
  rcases h with (h | ⟨o, h⟩) | h
  · exact Or.inl (Or.inl (s _ _ h))
  · exact Or.inl (Or.inr ⟨o, s _ _ h⟩)
  · exact Or.inr h
/-- a list or a tuple -/
def SqA (K : PySem.W.Frag) (H : Hp) (p : Addr) (xs : List V) : Prop := SqL K H p xs ∨ SqT K H p xs
theorem Same.sqA {K : PySem.W.Frag} {H H' : Hp} {p : Addr} {xs : List V} (s : Same H H') (h : SqA K H p xs) : SqA K H' p xs := h.imp (fun h => s.seq h) fun h => s.sqT h
/-! ### whole numbers in a list -/
theorem ints_get {ks : List Int} {i : Nat} {x : V} (h : (ks.map V.int)[i]? = some x) : ∃ z, ks[i]? = some z ∧ x = .int z := by
  rw [List.getElem?_map] at h
  cases e : ks[i]? with
  | none => rw [e] at h; cases h
  | some z => rw [e] at h; cases h; exact ⟨z, rfl, rfl⟩
theorem ints_at {ks : List Int} {i : Nat} {z : Int} (h : ks[i]? = some z) : (ks.map V.int)[i]? = some (.int z) := by
  rw [List.getElem?_map, h]; rfl
theorem take_snoc {α : Type} {l : List α} {i : Nat} {x : α} (h : l[i]? = some x) : l.take (i + 1) = l.take i ++ [x] := by
  obtain ⟨h1, rfl⟩ := List.getElem?_eq_some_iff.mp h
  exact List.take_succ_eq_append_getElem h1
/-! ### comprehensions without effects: the items that are kept, their elements -/
section
variable {K : PySem.W.Frag} {a : Addr} {xs : List V} {tt : TT} {te : TE} {vs : List Nat} {σ : St} {H1 : Hp} {Q : VK} {i0 : Nat} {keep : V → Bool} {f : V → V}
theorem comp_step {D : Addr} {H : Hp} {x : V} {i : Nat} {Pv : Hp → Prop} (hx : xs[i]? = some x) (hz : xs.length ≤ 1000000) (h : H D = some (.lst (((xs.take i).filter keep).map f)))
    (ht : Ans tt ((wipe σ vs).set i0 (some x)) H (keep x)) (he : keep x = true → Val te ((wipe σ vs).set i0 (some x)) H (f x))
    (put : ∀ H', H' D = some (.lst (((xs.take (i + 1)).filter keep).map f)) → (∀ b, b ≠ D → H' b = H b) → Pv H') :
    tt ((wipe σ vs).set i0 (some x)) H fun b H3 => if b = true then te ((wipe σ vs).set i0 (some x)) H3 fun y H4 => ∃ acc, H4 D = some (.lst acc) ∧ acc.length < sizeLine ∧ Pv (upd H4 D (.lst (acc ++ [y]))) else Pv H3 := by
  have e : (xs.take (i + 1)).filter keep = (xs.take i).filter keep ++ (if keep x = true then [x] else []) := by
    rw [take_snoc hx, List.filter_append]
    congr 1
    by_cases k : keep x = true <;> simp [k]
  refine ht _ ?_
  by_cases k : keep x = true
  · rw [if_pos k]
    refine he k _ ⟨_, h, ?_, put _ ?_ fun b nb => upd_ne nb⟩
    · have l1 : (((xs.take i).filter keep).map f).length ≤ xs.length := by
        rw [List.length_map]
        exact Nat.le_trans (List.length_filter_le _ _) (by rw [List.length_take]; exact Nat.min_le_right _ _)
      exact Nat.lt_of_le_of_lt (Nat.le_trans l1 hz) (by decide)
    · rw [upd_same, e, if_pos k, List.map_append]
      rfl
  · rw [if_neg k]
    refine put H ?_ fun b _ => rfl
    rw [h, e, if_neg k, List.append_nil]
theorem comp_list (keep : V → Bool) (f : V → V) (hp : SqL K H1 a xs) (hz : xs.length ≤ 1000000) (hw : ∀ x, wipe ((wipe σ vs).set i0 (some x)) vs = wipe σ vs)
    (ht : ∀ (i : Nat) x H, xs[i]? = some x → Same H1 H → Ans tt ((wipe σ vs).set i0 (some x)) H (keep x)) (he : ∀ (i : Nat) x H, xs[i]? = some x → keep x = true → Same H1 H → Val te ((wipe σ vs).set i0 (some x)) H (f x))
    (hd : ∀ D H', H1 D = none → H' D = some (.lst ((xs.filter keep).map f)) → Same H1 H' → Q (.ref D) H') : tLc (fun _ H R => R (Itl K a) H) (gName i0) tt te vs σ H1 Q := by
  refine fun D hD => lc_list (xs := xs) (fun i H' => H' D = some (.lst (((xs.take i).filter keep).map f)) ∧ Same H1 H') ⟨upd_same, Same.new hD⟩ (fun i H' _ p => p.2.seq hp) ?_ ?_
  · rintro i x H' hx ⟨h1, h2⟩
    refine ⟨hw x, comp_step hx hz h1 (ht i x H' hx h2) (fun k => he i x H' hx k h2) fun H2 e1 e2 => ⟨e1, fun b o z => ?_⟩⟩
    rw [e2 b (ne_of_none z hD)]
    exact h2 b o z
  · rintro H' ⟨h1, h2⟩
    rw [List.take_length] at h1
    exact hd D H' hD h1 h2
theorem comp_tup (keep : V → Bool) (f : V → V) (hp : SqT K H1 a xs) (hz : xs.length ≤ 1000000) (hw : ∀ x, wipe ((wipe σ vs).set i0 (some x)) vs = wipe σ vs)
    (ht : ∀ (i : Nat) x H, xs[i]? = some x → Same H1 H → Ans tt ((wipe σ vs).set i0 (some x)) H (keep x)) (he : ∀ (i : Nat) x H, xs[i]? = some x → keep x = true → Same H1 H → Val te ((wipe σ vs).set i0 (some x)) H (f x))
    (hd : ∀ D H', H1 D = none → H' D = some (.lst ((xs.filter keep).map f)) → Same H1 H' → Q (.ref D) H') : tLc (fun _ H R => R (Itt K a) H) (gName i0) tt te vs σ H1 Q := by
  refine fun D hD => lc_tup (xs := xs) (fun i H' => H' D = some (.lst (((xs.take i).filter keep).map f)) ∧ Same H1 H') ⟨upd_same, Same.new hD⟩ (fun i H' _ p => p.2.sqT hp) ?_ ?_
  · rintro i x H' hx ⟨h1, h2⟩
    refine ⟨hw x, comp_step hx hz h1 (ht i x H' hx h2) (fun k => he i x H' hx k h2) fun H2 e1 e2 => ⟨e1, fun b o z => ?_⟩⟩
    rw [e2 b (ne_of_none z hD)]
    exact h2 b o z
  · rintro H' ⟨h1, h2⟩
    rw [List.take_length] at h1
    exact hd D H' hD h1 h2
theorem comp_L {tl : TE} (keep : V → Bool) (f : V → V) (hl : ∀ R : V → Hp → Prop, R (.ref a) H1 → tl σ H1 R) (hp : SqL K H1 a xs) (hz : xs.length ≤ 1000000) (hw : ∀ x, wipe ((wipe σ vs).set i0 (some x)) vs = wipe σ vs)
    (ht : ∀ (i : Nat) x H, xs[i]? = some x → Same H1 H → Ans tt ((wipe σ vs).set i0 (some x)) H (keep x)) (he : ∀ (i : Nat) x H, xs[i]? = some x → keep x = true → Same H1 H → Val te ((wipe σ vs).set i0 (some x)) H (f x))
    (hd : ∀ D H', H1 D = none → H' D = some (.lst ((xs.filter keep).map f)) → Same H1 H' → Q (.ref D) H') : tLc (iList K tl) (gName i0) tt te vs σ H1 Q := hl _ ⟨a, rfl, ⟨_, hp⟩, comp_list keep f hp hz hw ht he hd⟩
/-- the whole numbers from lo on, n of them -/
def rng (lo : Int) (n : Nat) : List V := (List.range n).map fun i => V.int (lo + (i : Nat))
theorem rng_get {lo : Int} {n i : Nat} (h : i < n) : (rng lo n)[i]? = some (.int (lo + i)) := by simp [rng, h]
theorem rng_len {lo : Int} {n : Nat} : (rng lo n).length = n := by simp [rng]
theorem comp_range (keep : V → Bool) (f : V → V) {lo : Int} {n : Nat} (hz : n ≤ 1000000) (hw : ∀ x, wipe ((wipe σ vs).set i0 (some x)) vs = wipe σ vs)
    (ht : ∀ (i : Nat) H, i < n → Same H1 H → Ans tt ((wipe σ vs).set i0 (some (.int (lo + i)))) H (keep (.int (lo + i)))) (he : ∀ (i : Nat) H, i < n → keep (.int (lo + i)) = true → Same H1 H → Val te ((wipe σ vs).set i0 (some (.int (lo + i)))) H (f (.int (lo + i))))
    (hd : ∀ D H', H1 D = none → H' D = some (.lst (((rng lo n).filter keep).map f)) → Same H1 H' → Q (.ref D) H') : tLc (fun _ H R => R (Itr lo n) H) (gName i0) tt te vs σ H1 Q := by
  refine fun D hD => lc_range (fun i H' => H' D = some (.lst ((((rng lo n).take i).filter keep).map f)) ∧ Same H1 H') ⟨upd_same, Same.new hD⟩ ?_ ?_
  · rintro i H' hi ⟨h1, h2⟩
    refine ⟨hw _, comp_step (rng_get hi) (by rw [rng_len]; exact hz) h1 (ht i H' hi h2) (fun k => he i H' hi k h2) fun H2 e1 e2 => ⟨e1, fun b o z => ?_⟩⟩
    rw [e2 b (ne_of_none z hD)]
    exact h2 b o z
  · rintro H' ⟨h1, h2⟩
    have e : (rng lo n).take n = rng lo n := by rw [List.take_of_length_le (by rw [rng_len]; exact Nat.le_refl _)]
    rw [e] at h1
    exact hd D H' hD h1 h2
end
/-! ### values and tests of whole numbers -/
section
variable {σ : St} {H : Hp} {K : PySem.W.Frag} {ta tb tc : TE} {t u : TT} {i j k : Int} {x y v : V} {p : Addr} {xs : List V} {D : Ends} {t1 t2 : TS}
theorem v_rI0 {g : Int → Int → V} (ha : Val ta σ H (.int i)) (hb : Val tb σ H (.int j)) : Val (tOp (rI0 g) ta tb) σ H (g i j) := val_op ha hb fun Q q => ⟨_, _, rfl, rfl, q⟩
theorem v_rI {C : Int → Int → Prop} {g : Int → Int → V} (ha : Val ta σ H (.int i)) (hb : Val tb σ H (.int j)) (hc : C i j) : Val (tOp (rI C g) ta tb) σ H (g i j) := val_op ha hb fun Q q => ⟨_, _, rfl, rfl, hc, q⟩
theorem v_un {g : Int → V} (ha : Val ta σ H (.int i)) : Val (tUn (rU g) ta) σ H (g i) := fun Q q => ha _ ⟨_, rfl, q⟩
theorem v_cb {r : List V → Hp → VK → Prop} (ha : Val ta σ H x) (hr : ∀ Q : VK, Q v H → r [x] H Q) : Val (tCB r (tCons ta tNil)) σ H v := fun Q q => ha _ (hr _ q)
theorem v_ixT (ha : Val ta σ H (.ref p)) (hb : Val tb σ H (.int i)) (hp : SqT K H p xs) (e : atI xs i = some v) : Val (tOp (rIxT K) ta tb) σ H v := val_op ha hb fun Q q => ⟨_, _, _, _, rfl, rfl, hp, e, q⟩
theorem v_ixL (ha : Val ta σ H (.ref p)) (hb : Val tb σ H (.int i)) (hp : SqL K H p xs) (e : atI xs i = some v) : Val (tOp (rIxL K) ta tb) σ H v := val_op ha hb fun Q q => ⟨_, _, _, _, rfl, rfl, hp, e, q⟩
theorem v_chain {f g : Int → Int → Bool} (ha : Val ta σ H (.int i)) (hb : Val tb σ H (.int j)) (hc : Val tc σ H (.int k)) : Val (tChain (rI0 fun i j => .bl (f i j)) (rI0 fun i j => .bl (g i j)) ta tb tc) σ H (.bl (f i j && g j k)) := fun Q q => by
  refine ha _ (hb _ ⟨_, _, rfl, rfl, _, rfl, ?_⟩)
  cases e : f i j with
  | true =>
    rw [if_pos rfl]
    refine hc _ ⟨_, _, rfl, rfl, ?_⟩
    rw [e] at q
    exact q
  | false =>
    rw [if_neg Bool.false_ne_true]
    rw [e] at q
    exact q
theorem a_val {te : TE} {b : Bool} (h : Val te σ H (.bl b)) : Ans (tTest te) σ H b := fun Q q => h _ ⟨_, rfl, q⟩
theorem a_cmp {f : Int → Int → Bool} (ha : Val ta σ H (.int i)) (hb : Val tb σ H (.int j)) : Ans (tTest (tOp (rI0 fun i j => .bl (f i j)) ta tb)) σ H (f i j) := a_val (v_rI0 (g := fun i j => .bl (f i j)) ha hb)
theorem a_eq (ha : Val ta σ H (.int i)) (hb : Val tb σ H (.int j)) : Ans (tTest (tOp rEq ta tb)) σ H (decide (i = j)) := ans_eq ha hb rfl (by rw [dec_int]; exact (Bool.beq_eq_decide_eq i j))
theorem a_ne (ha : Val ta σ H (.int i)) (hb : Val tb σ H (.int j)) : Ans (tTest (tOp rNe ta tb)) σ H (!decide (i = j)) := ans_ne ha hb rfl (by rw [dec_int, Bool.beq_eq_decide_eq])
theorem v_eq (ha : Val ta σ H (.int i)) (hb : Val tb σ H (.int j)) : Val (tOp rEq ta tb) σ H (.bl (decide (i = j))) := val_op ha hb fun Q q => ⟨rfl, by rw [dec_int, Bool.beq_eq_decide_eq]; exact q⟩
theorem a_or {b c : Bool} (ha : Ans t σ H b) (hb : b = false → Ans u σ H c) : Ans (tOr t u) σ H (b || c) := by
  cases b with
  | true => exact ans_or1 ha
  | false => exact ans_or ha (hb rfl)
theorem a_and {b c : Bool} (ha : Ans t σ H b) (hb : b = true → Ans u σ H c) : Ans (tAnd t u) σ H (b && c) := by
  cases b with
  | true => exact ans_and ha (hb rfl)
  | false => exact ans_and0 ha
theorem st_ifb {c : TT} {b : Bool} (h : Ans c σ H b) (y : b = true → t1 D σ H) (n : b = false → t2 D σ H) : tIfS c t1 t2 D σ H := by
  cases b with
  | true => exact st_yes h (y rfl)
  | false => exact st_no h (n rfl)
/-- in an if's condition: what is decided -/
theorem st_ifp {c : TT} {q : Prop} {b : Bool} (h : Ans c σ H b) (e : b = true ↔ q) (y : q → t1 D σ H) (n : ¬ q → t2 D σ H) : tIfS c t1 t2 D σ H :=
  st_ifb h (fun z => y (e.mp z)) fun z => n fun w => by rw [e.mpr w] at z; cases z
theorem st_letX {te : TE} {i : Nat} {t3 : TS} (h : te σ H fun v H1 => t3 D (σ.set i (some v)) H1) : tSeq (tAsg te (gName i)) t3 D σ H := h
/-- a guard: if q: leave -/
theorem st_guard {c : TT} {q : Prop} {b : Bool} {t3 : TS} (h : Ans c σ H b) (e : b = true ↔ q) (y : q → t1 { D with nx := t3 D } σ H) (n : ¬ q → t3 D σ H) : tSeq (tIfS c t1 tNext) t3 D σ H :=
  st_seq (st_ifp h e y n)
/-- x = e, e without effects -/
theorem st_let {te : TE} {i : Nat} {t3 : TS} (h : Val te σ H v) (q : t3 D (σ.set i (some v)) H) : tSeq (tAsg te (gName i)) t3 D σ H := h _ q
end
/-- return f(e), f a built-in word -/
theorem st_ret1 {r : List V → Hp → VK → Prop} {te : TE} {σ : St} {H : Hp} {D : Ends} (h : te σ H fun v H1 => r [v] H1 D.rt) : tRet (tCB r (tCons te tNil)) D σ H := h
theorem v_cb1 {r : List V → Hp → VK → Prop} {te : TE} {σ : St} {H : Hp} {Q : VK} (h : te σ H fun v H1 => r [v] H1 Q) : tCB r (tCons te tNil) σ H Q := h
/-! ### loops -/
section
variable {K : PySem.W.Frag} {a : Addr} {xs : List V} {g : TG} {tb : TS} {D : Ends} {σ : St} {H : Hp} {tl : TE}
theorem st_forT (hl : ∀ R : V → Hp → Prop, R (.ref a) H → tl σ H R) (Pv : Nat → St → Hp → Prop) (h0 : Pv 0 σ H) (hk : ∀ i σ H, i ≤ xs.length → Pv i σ H → SqT K H a xs)
    (hs : ∀ (i : Nat) x σ H, xs[i]? = some x → Pv i σ H → g x σ H fun σ2 H2 => tb { D with nx := Pv (i + 1), ct := Pv (i + 1), bk := D.nx } σ2 H2) (hd : ∀ σ H, Pv xs.length σ H → D.nx σ H) : tFor (iTup K tl) g tb D σ H :=
  hl _ ⟨a, rfl, ⟨_, hk 0 σ H (Nat.zero_le _) h0⟩, for_tup Pv h0 hk hs hd⟩
theorem st_forL (hl : ∀ R : V → Hp → Prop, R (.ref a) H → tl σ H R) (Pv : Nat → St → Hp → Prop) (h0 : Pv 0 σ H) (hk : ∀ i σ H, i ≤ xs.length → Pv i σ H → SqL K H a xs)
    (hs : ∀ (i : Nat) x σ H, xs[i]? = some x → Pv i σ H → g x σ H fun σ2 H2 => tb { D with nx := Pv (i + 1), ct := Pv (i + 1), bk := D.nx } σ2 H2) (hd : ∀ σ H, Pv xs.length σ H → D.nx σ H) : tFor (iList K tl) g tb D σ H :=
  hl _ ⟨a, rfl, ⟨_, hk 0 σ H (Nat.zero_le _) h0⟩, for_list Pv h0 hk hs hd⟩
theorem st_forA (hp : SqA K H a xs) (hl : ∀ R : V → Hp → Prop, R (.ref a) H → tl σ H R) (Pv : Nat → St → Hp → Prop) (h0 : Pv 0 σ H) (hk : ∀ i σ' H', Pv i σ' H' → Same H H')
    (hs : ∀ (i : Nat) x σ H, xs[i]? = some x → Pv i σ H → g x σ H fun σ2 H2 => tb { D with nx := Pv (i + 1), ct := Pv (i + 1), bk := D.nx } σ2 H2) (hd : ∀ σ H, Pv xs.length σ H → D.nx σ H) : tFor (fun σ H R => iList K tl σ H R ∨ iTup K tl σ H R) g tb D σ H := by
  rcases hp with hp | hp
  · exact Or.inl (hl _ ⟨a, rfl, ⟨_, hp⟩, for_list Pv h0 (fun i σ' H' _ z => (hk i σ' H' z).seq hp) hs hd⟩)
  · exact Or.inr (hl _ ⟨a, rfl, ⟨_, hp⟩, for_tup Pv h0 (fun i σ' H' _ z => (hk i σ' H' z).sqT hp) hs hd⟩)
end
section
variable {g : TG} {tb : TS} {D : Ends} {σ : St} {H : Hp} {ta tc : TE} {lo hi : Int} {n : Nat}
theorem st_forR1 (ha : Val ta σ H (.int hi)) (hn : hi = (n : Int)) (bd : n ≤ 1000000) (Pv : Nat → St → Hp → Prop) (h0 : Pv 0 σ H)
    (hs : ∀ i σ H, i < n → Pv i σ H → g (.int (i : Int)) σ H fun σ2 H2 => tb { D with nx := Pv (i + 1), ct := Pv (i + 1), bk := D.nx } σ2 H2) (hd : ∀ σ H, Pv n σ H → D.nx σ H) : tFor (iRng1 (tCons ta tNil)) g tb D σ H := by
  subst hn
  refine ha _ ⟨_, rfl, by omega, by omega, ?_⟩
  have e : ((n : Int)).toNat = n := by omega
  rw [e]
  exact for_range Pv h0 (fun i σ' H' hi p => by rw [Int.zero_add]; exact hs i σ' H' hi p) hd
theorem st_forR2 (ha : Val ta σ H (.int lo)) (hc : Val tc σ H (.int hi)) (hn : hi - lo = (n : Int)) (b1 : -1000000 ≤ lo) (b2 : hi ≤ 1000000) (Pv : Nat → St → Hp → Prop) (h0 : Pv 0 σ H)
    (hs : ∀ i σ H, i < n → Pv i σ H → g (.int (lo + i)) σ H fun σ2 H2 => tb { D with nx := Pv (i + 1), ct := Pv (i + 1), bk := D.nx } σ2 H2) (hd : ∀ σ H, Pv n σ H → D.nx σ H) : tFor (iRng2 (tCons ta (tCons tc tNil))) g tb D σ H := by
  refine ha _ (hc _ ⟨_, _, rfl, ⟨by omega, by omega, by omega, by omega⟩, ?_⟩)
  have e : (hi - lo).toNat = n := by omega
  rw [e]
  exact for_range Pv h0 hs hd
end
/-- for k, x in enumerate(list) -/
theorem st_forE {K : PySem.W.Frag} {a : Addr} {xs : List V} {g : TG} {tb : TS} {D : Ends} {σ : St} {H : Hp} (Pv : Nat → St → Hp → Prop) (h0 : Pv 0 σ H) (hk : ∀ i σ H, i ≤ xs.length → Pv i σ H → SqL K H a xs)
    (hs : ∀ (i : Nat) x T σ H, xs[i]? = some x → Pv i σ H → H T = none → g (.ref T) σ (upd H T (.tup [.int (i : Nat), x])) fun σ2 H2 => tb { D with nx := Pv (i + 1), ct := Pv (i + 1), bk := D.nx } σ2 H2) (hd : ∀ σ H, Pv xs.length σ H → D.nx σ H) : tFor (fun _ H R => R (Ite K a) H) g tb D σ H := by
  refine ⟨fun i m σ H => m = xs.length - i ∧ i ≤ xs.length ∧ Pv i σ H, ⟨_, rfl, Nat.zero_le _, h0⟩, ?_⟩
  rintro i m σ H ⟨rfl, hi, p⟩
  have sq := hk i σ H hi p
  rcases Nat.lt_or_eq_of_le hi with lt | rfl
  · obtain ⟨x, hx⟩ : ∃ x, xs[i]? = some x := ⟨_, List.getElem?_eq_getElem lt⟩
    refine Or.inr ⟨⟨xs, x, sq, hx⟩, Pv (i + 1), fun σ' H' p' => ⟨_, by omega, rfl, lt, p'⟩, ?_⟩
    rintro y H' ⟨T, z, rfl, hT, rfl, hz⟩
    have e := hz xs sq
    rw [hx] at e
    cases e
    exact hs i x T σ H hx p hT
  · exact Or.inl ⟨⟨xs, sq, Nat.le_refl _⟩, hd σ H p⟩
/-- while: the condition without effects -/
theorem st_whileb {tc : TT} {tb : TS} {D : Ends} {σ : St} {H : Hp} (Pv : St → Hp → Prop) (μ : St → Hp → Nat) (h0 : Pv σ H)
    (hc : ∀ σ H, Pv σ H → ∃ b, Ans tc σ H b ∧ (b = true → tb { D with nx := fun σ' H' => Pv σ' H' ∧ μ σ' H' < μ σ H, ct := fun σ' H' => Pv σ' H' ∧ μ σ' H' < μ σ H, bk := D.nx } σ H) ∧ (b = false → D.nx σ H)) : tWhile tc tb D σ H := by
  refine ⟨fun m σ H => m = μ σ H ∧ Pv σ H, ⟨_, rfl, h0⟩, ?_⟩
  rintro m σ H ⟨rfl, p⟩
  obtain ⟨b, hb, y, n⟩ := hc σ H p
  refine hb _ ?_
  cases b with
  | true =>
    rw [if_pos rfl]
    exact ⟨_, fun σ' H' z => ⟨_, z.2, rfl, z.1⟩, y rfl⟩
  | false =>
    rw [if_neg Bool.false_ne_true]
    exact n rfl
/-! an object that is being made -/
theorem But.keepT {K : PySem.W.Frag} {H H' : Hp} {p C dx t : Addr} {fs : List (Str × V)} {xs : List V} (b : But p H H') (hp : H p = some (.ins C dx fs)) (h : SqT K H t xs) : SqT K H' t xs := by
  rcases h with (h | ⟨o, h⟩) | h
  · exact Or.inl (Or.inl (b _ _ h (ne_of h hp (by intro z; cases z))))
  · exact Or.inl (Or.inr ⟨o, b _ _ h (ne_of h hp (by intro z; cases z))⟩)
  · exact Or.inr h
theorem But.keepL {K : PySem.W.Frag} {H H' : Hp} {p C dx t : Addr} {fs : List (Str × V)} {xs : List V} (b : But p H H') (hp : H p = some (.ins C dx fs)) (h : SqL K H t xs) : SqL K H' t xs := by
  rcases h with (h | ⟨o, h⟩) | h
  · exact Or.inl (Or.inl (b _ _ h (ne_of h hp (by intro z; cases z))))
  · exact Or.inl (Or.inr ⟨o, b _ _ h (ne_of h hp (by intro z; cases z))⟩)
  · exact Or.inr h
theorem But.keepA {K : PySem.W.Frag} {H H' : Hp} {p C dx t : Addr} {fs : List (Str × V)} {xs : List V} (b : But p H H') (hp : H p = some (.ins C dx fs)) (h : SqA K H t xs) : SqA K H' t xs := h.imp (fun h => b.keepL hp h) fun h => b.keepT hp h
section
variable {K : PySem.W.Frag} {D : Ends} {σ : St} {H : Hp} {ta tv te : TE} {t3 : TS} {p C dx : Addr} {fs : List (Str × V)} {f : Str} {y : V} {PV : V → Hp → Prop}
theorem st_mk (hv : Val tv σ H y) (ha : Val ta σ H (.ref p)) (hp : H p = some (.ins C dx fs)) (hc : Cls K C) (hn : NoAttr K C f) (hl : fs.length < 1000)
    (q : ∀ H', H' p = some (.ins C dx (putF f y fs)) → But p H H' → t3 D σ H') : tSeq (sFld K ta tv f) t3 D σ H := hv _ (ha _ ⟨p, C, dx, fs, rfl, hp, hc, hn, hl, q _ upd_same (But.refl p H).upd⟩)
theorem st_mkH (hv : ValH tv σ H PV) (ha : ∀ H, Val ta σ H (.ref p)) (hp : ∀ y H1, PV y H1 → H1 p = some (.ins C dx fs)) (hc : Cls K C) (hn : NoAttr K C f) (hl : fs.length < 1000)
    (q : ∀ y H1 H', PV y H1 → H' p = some (.ins C dx (putF f y fs)) → But p H1 H' → t3 D σ H') : tSeq (sFld K ta tv f) t3 D σ H :=
  hv _ fun y H1 pv => ha H1 _ ⟨p, C, dx, fs, rfl, hp y H1 pv, hc, hn, hl, q y H1 _ pv upd_same (But.refl p H1).upd⟩
theorem st_guardX {c : TT} {t1 : TS} (h : c σ H fun b H1 => if b = true then t1 { D with nx := t3 D } σ H1 else t3 D σ H1) : tSeq (tIfS c t1 tNext) t3 D σ H := h
/-- what stands behind t1 is shown once -/
theorem st_share {t1 : TS} (p : Prop) (r : p → t3 D σ H) (h : ∀ N : St → Hp → Prop, (p → N σ H) → t1 { D with nx := N } σ H) : tSeq t1 t3 D σ H := h _ r
theorem st_shareH {t1 : TS} (p : Hp → Prop) (r : ∀ H', p H' → t3 D σ H') (h : ∀ N : St → Hp → Prop, (∀ H', p H' → N σ H') → t1 { D with nx := N } σ H) : tSeq t1 t3 D σ H := h _ r
theorem tyL {p : Addr} {xs : List V} (h : H p = some (.lst xs)) : tyV K "list" (.ref p) H := Or.inl ⟨rfl, _, Or.inl (Or.inl h)⟩
/-- xs[i] = e -/
theorem st_put {tb : TE} {xs : List V} {i : Int} {j : Nat} {v : V} (hv : Val te σ H v) (ha : Val ta σ H (.ref p)) (hb : Val tb σ H (.int i)) (hp : H p = some (.lst xs)) (hi : ixN xs.length i = some j) (q : D.nx σ (upd H p (.lst (xs.set j v)))) : tAsg te (gSub ta tb rSetL) D σ H :=
  hv _ (ha _ (hb _ ⟨p, xs, i, j, rfl, rfl, hp, hi, q⟩))
theorem st_puts {tb : TE} {xs : List V} {i : Int} {j : Nat} {v : V} (hv : Val te σ H v) (ha : Val ta σ H (.ref p)) (hb : Val tb σ H (.int i)) (hp : H p = some (.lst xs)) (hi : ixN xs.length i = some j) (q : t3 D σ (upd H p (.lst (xs.set j v)))) : tSeq (tAsg te (gSub ta tb rSetL)) t3 D σ H :=
  hv _ (ha _ (hb _ ⟨p, xs, i, j, rfl, rfl, hp, hi, q⟩))
theorem st_shareS {t1 : TS} (p : St → Hp → Prop) (r : ∀ σ' H', p σ' H' → t3 D σ' H') (h : ∀ N : St → Hp → Prop, (∀ σ' H', p σ' H' → N σ' H') → t1 { D with nx := N } σ H) : tSeq t1 t3 D σ H := h _ r
/-- x = e, e a whole number of which only a bound is kept -/
theorem st_letP {i : Nat} {z : Int} (P : Int → Prop) (hv : Val te σ H (.int z)) (hz : P z) (q : ∀ z, P z → t3 D (σ.set i (some (.int z))) H) : tSeq (tAsg te (gName i)) t3 D σ H := hv _ (q z hz)
/-- a word that is called for its refusals -/
theorem st_do (h : te σ H fun _ H1 => t3 D σ H1) : tSeq (tDrop te) t3 D σ H := h
end
theorem v_if {σ : St} {H : Hp} {tA : TT} {ta tb : TE} {b : Bool} {v : V} (h : Ans tA σ H b) (y : b = true → Val ta σ H v) (n : b = false → Val tb σ H v) : Val (tIf tA ta tb) σ H v := fun Q q => by
  refine h _ ?_
  cases b with
  | true => exact y rfl _ q
  | false => exact n rfl _ q
/-! calls of own words that change nothing -/
section
variable {σ : St} {H : Hp} {ta tb tc : TE} {x y z v : V} {sp : Sp} {E : XK}
theorem v_call1 (ha : Val ta σ H x) (hs : ∀ Q : VK, Q v H → sp [x] H Q E) : Val (tCall sp [] E (tCons ta tNil)) σ H v := fun Q q => ha _ (hs _ q)
theorem v_call2 (ha : Val ta σ H x) (hb : Val tb σ H y) (hs : ∀ Q : VK, Q v H → sp [x, y] H Q E) : Val (tCall sp [] E (tCons ta (tCons tb tNil))) σ H v := fun Q q => ha _ (hb _ (hs _ q))
theorem v_call3 (ha : Val ta σ H x) (hb : Val tb σ H y) (hc : Val tc σ H z) (hs : ∀ Q : VK, Q v H → sp [x, y, z] H Q E) : Val (tCall sp [] E (tCons ta (tCons tb (tCons tc tNil)))) σ H v := fun Q q => ha _ (hb _ (hc _ (hs _ q)))
end
theorem st_retop {r : R2} {te tb : TE} {σ : St} {H : Hp} {D : Ends} (h : te σ H fun x H1 => tb σ H1 fun y H2 => r x y H2 D.rt) : tRet (tOp r te tb) D σ H := h
theorem op_l {r : R2} {te tb : TE} {σ : St} {H : Hp} {Q : VK} (h : te σ H fun x H1 => tb σ H1 fun y H2 => r x y H2 Q) : tOp r te tb σ H Q := h
end L2

namespace L2
open PySem PySem.Spec PyProof.Rows
section
variable {X : Cx} {a b c d : Expr} {ta tb tc td t1 t2 : TE} {pos : Pos}
/-- an expression with two readings (a method of one of several classes) -/
theorem pe_alt {e : Expr} (h1 : PE X e t1) (h2 : PE X e t2) : PE X e (fun σ H Q => t1 σ H Q ∨ t2 σ H Q) := by
  refine ⟨fun pins s σ H Q I h => ?_⟩
  rcases h with h | h
  · exact h1.run pins s σ H Q I h
  · exact h2.run pins s σ H Q I h
/-- a op1 b op2 c op3 d -/
def tChain3 (r r' r'' : R2) (ta tb tc td : TE) : TE := fun σ H Q => ta σ H fun x H1 => tb σ H1 fun y H2 => r x y H2 fun z H3 => ∃ k, z = .bl k ∧
  (if k = true then tc σ H3 fun u H4 => r' y u H4 fun z' H5 => ∃ k', z' = .bl k' ∧ (if k' = true then td σ H5 fun v H6 => r'' u v H6 Q else Q (.bl false) H5) else Q (.bl false) H3)
theorem pe_chain3 {op op' op'' : CmpOp} {r r' r'' : R2} (ho : OpR X (compareOp op) r) (ho' : OpR X (compareOp op') r') (ho'' : OpR X (compareOp op'') r'') (ha : PE X a ta) (hb : PE X b tb) (hc : PE X c tc) (hd : PE X d td)
    (hm : lastMarks [op, op', op''] [b, c, d] = false := by with_unfolding_all rfl) : PE X (.Compare a [op, op', op''] [b, c, d] pos) (tChain3 r r' r'' ta tb tc td) := by
  refine ⟨fun pins s σ H Q I h => ?_⟩
  refine Compare_chain (thn (ha.run pins s σ H _ I h) fun v s1 ⟨x, H1, I1, r1, q1⟩ => chain_link (thn (hb.run pins s1 σ H1 _ I1 q1) fun u s2 ⟨y, H2, I2, r2, q2⟩ =>
    thn (ho pins s2 σ H2 x y v u _ I2 r1 r2 q2) fun e s3 ⟨z, H3, I3, r3, k, ez, q3⟩ => ?_)) hm
  subst ez
  cases r3
  refine wpAny_truthy_bool ?_
  cases k with
  | false => exact ite_ff ⟨.bl false, H3, I3, rfl, q3⟩
  | true =>
    refine ite_tt (chain_link (thn (hc.run pins s3 σ H3 _ I3 q3) fun w' s4 ⟨z', H4, I4, r4, q4⟩ => thn (ho' pins s4 σ H4 y z' u w' _ I4 r2 r4 q4) fun e5 s5 ⟨z5, H5, I5, r5, k5, ez5, q5⟩ => ?_))
    subst ez5
    cases r5
    refine wpAny_truthy_bool ?_
    cases k5 with
    | false => exact ite_ff ⟨.bl false, H5, I5, rfl, q5⟩
    | true => exact ite_tt (chain_last (thn (hd.run pins s5 σ H5 _ I5 q5) fun w6 s6 ⟨z6, H6, I6, r6, q6⟩ => ho'' pins s6 σ H6 z' z6 w' w6 Q I6 r4 r6 q6))
theorem v_chain3 {f g h : Int → Int → Bool} {σ : St} {H : Hp} {i j k l : Int} (ha : ∀ Q : VK, Q (.int i) H → ta σ H Q) (hb : ∀ Q : VK, Q (.int j) H → tb σ H Q) (hc : ∀ Q : VK, Q (.int k) H → tc σ H Q) (hd : ∀ Q : VK, Q (.int l) H → td σ H Q) (Q : VK) (q : Q (.bl (f i j && g j k && h k l)) H) :
    tChain3 (rI0 fun i j => .bl (f i j)) (rI0 fun i j => .bl (g i j)) (rI0 fun i j => .bl (h i j)) ta tb tc td σ H Q := by
  refine ha _ (hb _ ⟨_, _, rfl, rfl, _, rfl, ?_⟩)
  cases e : f i j with
  | false =>
    rw [if_neg Bool.false_ne_true]
    rw [e] at q
    exact q
  | true =>
    rw [if_pos rfl]
    refine hc _ ⟨_, _, rfl, rfl, _, rfl, ?_⟩
    cases e2 : g j k with
    | false =>
      rw [if_neg Bool.false_ne_true]
      rw [e, e2] at q
      exact q
    | true =>
      rw [if_pos rfl]
      refine hd _ ⟨_, _, rfl, rfl, ?_⟩
      rw [e, e2] at q
      exact q
end
end L2

/-! enumerate over a tuple -/
namespace PySem
open AutoSeq1 (wpAny_loadPart')
theorem xr_enum_new (tp : Addr) (vs : Array Value) (n0 : Nat) (di : Option Addr) (ss : Array (Option Value)) :
    Meets (Builtin.«enumerate.__new__» ⟨[.type "enumerate", .ref tp], []⟩) (fun _ R sh => sh.heap.get? tp = some { cls := .type "tuple", dict := di, data := .seq vs n0, slots := ss } ∧
      R (.ok (.ret (.ref (sh.heap.push { cls := .type "tuple_iterator", data := .fields #[.ref tp, .int 0 0] }).objs.size)))
        { sh with heap := (sh.heap.push { cls := .type "tuple_iterator", data := .fields #[.ref tp, .int 0 0] }).push { cls := .type "enumerate", data := .fields #[.none, .bool false, .ref sh.heap.objs.size, rawInt 0, .none, .none] } }) :=
  .of_wp fun pr wo Ar Rr sh hy => by
    obtain ⟨hp, gg, dd, tt, oo⟩ := sh; obtain ⟨hlt, hy⟩ := hy
    have hsubE := sub_enumerate
    have hTup : Heap.IsTuple (Shared.heap ⟨hp, gg, dd, tt, oo⟩) tp vs := ⟨_, hlt, rfl, n0, rfl⟩
    wp_walk using wpAny_loadPart' hlt
    refine wpAny_stack_any fun st0 => wpAny_pure ?_
    split
    · rename_i cc _ _ _ _ _
      cases (cc == Value.type "enumerate")
      · wp_walk using wpAny_loadPart' hlt, wpAny_pyIter_tuple hTup
        exact ⟨_, rfl, hy⟩
      · wp_walk using wpAny_loadPart' hlt, wpAny_pyIter_tuple hTup
        exact ⟨_, rfl, hy⟩
    · wp_walk using wpAny_loadPart' hlt, wpAny_pyIter_tuple hTup
      exact ⟨_, rfl, hy⟩
theorem xr_call_enum {prog : Program} {w : World} {A : Around} {E : Value → Shared → Prop} {sh : Shared} {tp : Addr} {vs : Array Value} {Q : Value → Shared → Prop} (hT : sh.heap.IsTuple tp vs)
    (k : ∀ g, IsEnum g (sh.heap.objs.size + 1) sh.heap.objs.size 0 .none → g.IsTupleIter sh.heap.objs.size tp 0 → (∀ c u, sh.heap.get? c = some u → g.get? c = some u) → Q (.ref (sh.heap.objs.size + 1)) { sh with heap := g }) :
    wpAny (model prog w) A (call (.type "enumerate") [.ref tp]) Q E sh := by
  obtain ⟨⟨cc, di, da, ss⟩, hlt, ec, n0, ed⟩ := hT
  replace ec : cc = .type "tuple" := ec
  replace ed : da = .seq vs n0 := ed
  subst ec ed
  refine callType_new F.called_enumerate (by decide) (F.typeCall_enumerate_1 _) (F.newCall_enumerate_1 _) (fun ob => F.args_object_init_2 ob _) F.entry_enumerate_new (xr_enum_new tp vs n0 di ss) ⟨hlt, ?_⟩
  have z1 : (sh.heap.push { cls := .type "tuple_iterator", data := .fields #[.ref tp, .int 0 0] }).objs.size = sh.heap.objs.size + 1 := Heap.size_push ..
  show _ ∧ _
  rw [z1]
  have hen : IsEnum ((sh.heap.push { cls := .type "tuple_iterator", data := .fields #[.ref tp, .int 0 0] }).push { cls := .type "enumerate", data := .fields #[.none, .bool false, .ref sh.heap.objs.size, rawInt 0, .none, .none] }) (sh.heap.objs.size + 1) sh.heap.objs.size 0 .none := by
    have z2 := Heap.get?_push_size (sh.heap.push { cls := .type "tuple_iterator", data := .fields #[.ref tp, .int 0 0] }) (o := { cls := .type "enumerate", data := .fields #[.none, .bool false, .ref sh.heap.objs.size, rawInt 0, .none, .none] }) rfl
    rw [z1] at z2; exact z2
  exact ⟨⟨_, hen, rfl⟩, k _ hen ⟨_, Heap.get?_push_of_some _ (Heap.get?_push_size _ rfl), rfl, rfl⟩ fun c u y => Heap.get?_push_of_some _ (Heap.get?_push_of_some _ y)⟩
theorem xr_draws {prog : Program} {w : World} {A : Around} (hn : A.handled = none) (it tp : Addr) (ne : tp ≠ it) (vs : Array Value) : Draws prog w A it [it, tp] vs.size (fun j v => vs[j]? = some v) (fun j g => g.IsTupleIter it tp j ∧ g.IsTuple tp vs) where
  live := fun _ _ st => st.1.imp fun _ z => z.1
  frame := fun _ _ _ st hk => by
    obtain ⟨⟨o1, e1, r1⟩, ⟨o2, e2, r2⟩⟩ := st
    exact ⟨⟨o1, hk it (by simp) o1 e1, r1⟩, ⟨o2, hk tp (by simp) o2 e2, r2⟩⟩
  item := fun j sh Q E lt st hQ => RZ.nextOf_tuple_item st.1 st.2 (x := vs[j]) (by simp [lt]) fun g st2 sb => hQ _ g sh.toks (by simp [lt]) ⟨st2, st.2.extBut sb.extBut ne⟩ sb
  done := fun sh Q E st hE => RZ.nextOf_tuple_end hn st.1 st.2 (by simp) hE
theorem xr_enum_end {prog : Program} {w : World} {A : Around} {E : Value → Shared → Prop} {sh : Shared} {en it tp : Addr} {j : Nat} {k : Int} {vs : Array Value} {old : Value} {Q : Option Value → Shared → Prop} (hn : A.handled = none)
    (z1 : IsEnum sh.heap en it k old) (z2 : sh.heap.IsTupleIter it tp j) (z3 : sh.heap.IsTuple tp vs) (hx : vs[j]? = none) (hQ : ∀ g, Heap.ExtBut it sh.heap g → Q none { sh with heap := g }) : wpAny (model prog w) A (pyNext (.ref en)) Q E sh := by
  have hEn : sh.TypeIs (.ref en) "enumerate" := ⟨_, z1, rfl⟩
  unfold pyNext
  refine wpAny_bind (wpAny_attempt (wpAny_callSpecial?_slot (name := Str.ofString "__next__") hEn F.slot_enumerate_next (wpAny_call_entry F.slot_enumerate_next hEn F.entry_enumerate_next ?_ (F.args_enumerate_next_1 _))))
  show wpAny _ _ (field (.ref en) 2 >>= _) _ _ _
  refine wpAny_bind (wpAny_field z1 rfl (x := .ref it) rfl (wpAny_bind (RZ.nextOf_tuple_end (show A.in1.handled = none from hn) z2 z3 hx fun g c eb ec => ?_)))
  obtain ⟨u, hu, cu⟩ := ec
  exact wpAny_bind (wpAny_isInstance (T := "StopIteration") (b := true) ⟨u, hu, cu⟩ isSubtype_stop (wpAny_pure (hQ _ eb)))
end PySem
namespace L2
open PySem PySem.Spec PyProof.Rows
/-- the tuple at a, each item in a new pair -/
def Itte (K : PySem.W.Frag) (a : Addr) : It :=
  ⟨fun i H => ∃ (ys : List V) (y : V), SqT K H a ys ∧ ys[i]? = some y, fun i H v H' => ∃ T y, v = .ref T ∧ H T = none ∧ H' = upd H T (.tup [.int (i : Nat), y]) ∧ ∀ ys, SqT K H a ys → ys[i]? = some y, fun i H => ∃ ys : List V, SqT K H a ys ∧ ys.length ≤ i⟩
theorem turn_enumT {P : Program} {w : World} {K : PySem.W.Frag} {elts : List Expr} {kk : Nat} {tpos : Pos} (tp en it : Addr) :
    Turn P w K (.Tuple elts kk tpos) (Itte K tp) [en, it] en (fun j g => (∃ old, IsEnum g en it ((j : Nat) : Int) old) ∧ g.IsTupleIter it tp j ∧ en ≠ it) where
  mem := by simp
  obj := fun j g st c hc => by
    obtain ⟨⟨old, z1⟩, ⟨u, z2, _, z3⟩, _⟩ := st
    have e2 : c = en ∨ c = it := by simpa using hc
    rcases e2 with z | z
    · rw [z]; exact ⟨_, z1, fun v q => nomatch q⟩
    · rw [z]; exact ⟨u, z2, fun v q => by rw [z3] at q; cases q⟩
  keep := fun j g g' st k => by
    obtain ⟨⟨old, z1⟩, z2, ne⟩ := st
    exact ⟨⟨old, k en (by simp) _ z1⟩, z2.at fun o q => k it (by simp) o q, ne⟩
  item := by
    intro X eP ew eK hc j pins s σ H E I hf st hg
    subst eP ew eK
    obtain ⟨⟨old, z1⟩, z2, ne⟩ := st
    obtain ⟨ys, y, hq, hy⟩ := hg
    obtain ⟨its, rv, pt, hz⟩ := I.tuple hq
    obtain ⟨u, hu, ru⟩ := rv.get hy
    have hel : en < s.heap.objs.size := Heap.lt_size z1
    have hil : it < s.heap.objs.size := by obtain ⟨_, q, _⟩ := z2; exact Heap.lt_size q
    have hTup : s.heap.IsTuple tp its.toArray := pt
    have tpi : tp ≠ it := fun z => by
      obtain ⟨o1, e1, c1, _⟩ := z2
      obtain ⟨o2, e2, c2, _⟩ := hTup
      rw [z, e1] at e2
      cases e2
      rw [c1] at c2
      exact absurd c2 (fun y => by injection y with y; exact absurd y (by decide))
    have tpe : en ≠ tp := fun z => by
      obtain ⟨o2, e2, c2, _⟩ := hTup
      rw [← z, z1] at e2
      cases e2
      exact absurd c2 (fun y => by injection y with y; exact absurd y (by decide))
    have D : Draws X.prog X.w X.A.in1 it [it, tp] its.toArray.size (fun j v => its.toArray[j]? = some v) (fun j g => g.IsTupleIter it tp j ∧ g.IsTuple tp its.toArray) := xr_draws (A := X.A.in1) (show X.A.in1.handled = none from I.ok.hd hc) it tp tpi its.toArray
    have lt : j < its.toArray.size := by
      rw [List.size_toArray]
      exact (List.getElem?_eq_some_iff.mp hu).1
    refine wpAny_pyNext_enum_itemD D z1 ⟨z2, hTup⟩ lt ne (by simp [ne, tpe]) fun v g tk hv ho z4 hT hsz hk => ?_
    have ev : v = u := by
      have h1 : its.toArray[j]? = some v := hv
      have h2 : its.toArray[j]? = some u := by simpa using hu
      rw [h1] at h2
      exact Option.some.inj h2
    subst ev
    refine ⟨_, rfl, wpAny_letOwnedTupleGo_enum (s := { s with heap := g, toks := tk + 1 }) ho fun g2 z5 sb => ?_⟩
    have hT2 : g2.get? s.heap.objs.size = some { cls := .type "tuple", data := .seq #[.int j tk, v] } := (sb.2 _ (Nat.ne_of_gt hel)).trans hT
    have new : ObjOk X.prog X.w (upd H s.heap.objs.size (.tup [.int (j : Nat), y])) g2 s.heap.objs.size (.tup [.int (j : Nat), y]) :=
      ⟨by show 2 ≤ sizeLine; decide, [.int j tk, v], .cons ⟨_, rfl⟩ (.cons ru .nil), ⟨_, hT2, rfl, _, rfl⟩⟩
    have I1 : Inv X pins σ (upd H s.heap.objs.size (.tup [.int (j : Nat), y])) { s with heap := g2, toks := tk + 1 } :=
      I.turnedNew (ch := [en, it]) (fun c ob hb q => (sb.2 c (fun z => hb (by simp [z]))).trans (hk c ob (fun z => hb (by simp [z])) (fun z => hb (by simp [z])) q)) hf (Nat.le_refl _) new
    refine ⟨.ref s.heap.objs.size, _, I1, rfl, ⟨_, y, rfl, I.hok.fresh (Nat.le_refl _), rfl, fun xs hx => by rw [I.tuple_inj hx hq]; exact hy⟩, ⟨⟨v, ?_⟩, z4.1.at fun o q => (sb.2 it (Ne.symm ne)).trans q, ne⟩, fun c hb => ?_⟩
    · have e1 : ((j + 1 : Nat) : Int) = (j : Int) + 1 := by omega
      rw [e1]; exact z5
    · have hb' : c < s.heap.objs.size := by
        have e2 : c = en ∨ c = it := by simpa using hb
        rcases e2 with z | z
        · rw [z]; exact hel
        · rw [z]; exact hil
      rw [upd_ne (Nat.ne_of_lt hb')]
      exact (hf c hb).1
  done := by
    intro X eP ew eK hc j pins s σ H E I hf st hg
    subst eP ew eK
    obtain ⟨⟨old, z1⟩, z2, ne⟩ := st
    obtain ⟨ys, hq, hy⟩ := hg
    obtain ⟨its, rv, pt, hz⟩ := I.tuple hq
    obtain ⟨f0, f1, f2, f3, f4, f5⟩ := hf it (by simp)
    have hl := rv.length
    have hTup : s.heap.IsTuple tp its.toArray := pt
    exact xr_enum_end (I.ok.hd hc) z1 z2 hTup (by simp; omega) fun g eb => ⟨rfl, I.turned (t' := s.toks) (fun c o hb q => eb c o hb q) f0 f1 f3 f4 f5⟩
  self := fun A j s Q E st h => let ⟨⟨_, z⟩, _⟩ := st; wpAny_pyIter_enum z h
def iEnumT (K : PySem.W.Frag) (ta : TA) : TI := fun σ H R => ta σ H fun vs H1 => ∃ a xs, vs = [.ref a] ∧ SqT K H1 a xs ∧ R (Itte K a) H1
theorem pi_enumT {X : Cx} {e : Expr} {ta : TA} {p pos tpos : Pos} {elts : List Expr} {kk : Nat} (hg : Gl X "enumerate") (hm : X.mg "enumerate" = none) (ha : PA X [e] ta) (hs : starEach [e] X.env = [(false, eval e X.env)] := by rfl) :
    PI X (.Tuple elts kk tpos) (.Call (.Name "enumerate" p) [e] [] pos) (iEnumT X.K ta) := by
  refine ⟨fun pins s σ H R I h => ?_⟩
  refine Call_ (ld_blt I hg hm boot_enumerate (PyProof.Rows.callWith_type1 (thn (ha.run pos pins s σ H _ I h) fun us s1 ⟨vs, H1, I1, r1, q1⟩ => ?_) hs rfl))
  obtain ⟨tp, xs, ex, hq, q⟩ := q1
  subst ex
  cases r1 with
  | cons r rr =>
    cases rr
    cases r
    obtain ⟨its, rv, pt, hz⟩ := I1.tuple hq
    refine xr_call_enum (show s1.heap.IsTuple tp its.toArray from pt) fun g z1 z2 hk => wpAny_pyIter_enum z1 ?_
    have I2 : Inv X pins σ H1 { s1 with heap := g } := I1.kept (t' := s1.toks) hk
    refine ⟨s1.heap.objs.size + 1, [s1.heap.objs.size + 1, s1.heap.objs.size], _, _, H1, rfl, I2, turn_enumT tp (s1.heap.objs.size + 1) s1.heap.objs.size, ⟨⟨.none, z1⟩, z2, Nat.succ_ne_self _⟩, fun c hb => ?_, q⟩
    have e2 : c = s1.heap.objs.size + 1 ∨ c = s1.heap.objs.size := by simpa using hb
    have hle : s1.heap.objs.size ≤ c := by
      rcases e2 with z | z
      · rw [z]; exact Nat.le_add_right _ _
      · rw [z]; exact Nat.le_refl _
    exact I1.fpOk hle (I1.hok.fresh hle)
/-- enumerate of a list or of a tuple -/
theorem pi_enumA {X : Cx} {e : Expr} {ta : TA} {p pos tpos : Pos} {elts : List Expr} {kk : Nat} (hg : Gl X "enumerate") (hm : X.mg "enumerate" = none) (ha : PA X [e] ta) (hs : starEach [e] X.env = [(false, eval e X.env)] := by rfl) :
    PI X (.Tuple elts kk tpos) (.Call (.Name "enumerate" p) [e] [] pos) (fun σ H R => iEnum X.K ta σ H R ∨ iEnumT X.K ta σ H R) := PI.two (pi_enum hg hm ha hs) (pi_enumT hg hm ha hs)
/-- a def with defaults that may raise -/
theorem FunD.okX {P : Program} {w : World} {K : PySem.W.Frag} {mg : Str → Option Value} {base : Heap} {x qual : Str} {params : Arguments} {body : List Stmt} {scope : Scope} {dvs : List V} {kws : List (Str × V)} {f : Addr} {fd : FuncData} {N ps : List Str} {k : Nat} {sp : Sp} (F : FunD K x qual params body scope dvs kws f fd) (S : FnScope N ps scope) (ar : ∀ vs H Q E, sp vs H Q E → vs.length = ps.length)
    (hb : ∀ (cdv : Value) (A : Around) (outer : List Env) (s : Shared) (H : Hp) (vs : List V) (Q : VK) (E : XK), Room k (A.deeper (envOfC qual scope s.heap.objs.size f cdv)) → sp vs H Q E →
      ∃ t, PSs (cxOf (L2.CX P w) P w K mg base N qual scope f cdv A outer s H E) body t ∧ t { nx := fun _ H' => Q .non H', rt := Q } (start N vs) H) : FnOk P w K mg base (L2.CX P w) (k + 1) f fd ps sp := F.ok S ar hb
/-! within a comprehension -/
def rTupK (K : PySem.W.Frag) : List V → Hp → VK → Prop := fun xs H Q => ∃ p ys, xs = [.ref p] ∧ ((SqL K H p ys ∧ ∀ l, H l = none → Q (.ref l) (upd H l (.tup ys))) ∨ (SqT K H p ys ∧ Q (.ref p) H))
theorem call_tupK {X : Cx} (K : PySem.W.Frag) (h : X.K = K := by rfl) : CallR X (.type "tuple") (rTupK K) := by subst h; exact call_tuple_of
def rLstK (K : PySem.W.Frag) : List V → Hp → VK → Prop := fun xs H Q => ∃ p ys, xs = [.ref p] ∧ (SqL K H p ys ∨ SqT K H p ys) ∧ ∀ l, H l = none → Q (.ref l) (upd H l (.lst ys))
theorem call_lstK {X : Cx} (K : PySem.W.Frag) (h : X.K = K := by rfl) : CallR X (.type "list") (rLstK K) := by subst h; exact call_list_of
end L2

/-! x in o, o of an own class with __contains__ -/
namespace L2
open PySem PySem.Spec PyProof.Rows
open PySem.W in
theorem contains_kin {M : Model} {A : Around} {E : Value → Shared → Prop} {s : Shared} {K : Frag} {x C f : Addr} {ox : Obj} {od : Option Obj} {v : Value} {Q : Bool → Shared → Prop} (X : K.In s.heap) (I : InstAt s.heap x ox C od) (hs : findIn K (.ref C) "__contains__" = some (some (.ref f))) (hf : isFn K (.ref f) = true)
    (h : wpAny M A (call (.ref f) [.ref x, v]) (fun r s' => wpAny M A (truthy r) Q E s') E s) : wpAny M A (contains (.ref x) v) Q E s := by
  unfold contains
  refine wpAny_holding (wpAny_bind (wpAny_bind (I.type.here ((looks_findIn X hs).here ?_))))
  rw [if_neg (by simp)]
  exact wpAny_bind (unlessNone_K X I hs hf h)
/-- what x in o asks of the promise: a bool comes back -/
def rInOwn (C : Addr) (sp : Sp) (E : XK) (neg : Bool) : R2 := fun x y H Q => ∃ a dx fs, y = .ref a ∧ H a = some (.ins C dx fs) ∧ sp [.ref a, x] H (fun v H1 => ∃ b, v = .bl b ∧ Q (.bl (if neg then !b else b)) H1) E
section
variable {X : Cx} {CX : CXT} {k : Nat} {C f : Addr} {fd : FuncData} {ps : List Str} {sp : Sp} {E : XK}
theorem contains_own {pins : List (Addr × Obj)} {s : Shared} {σ : St} {H : Hp} {x : V} {v : Value} {a dx : Addr} {fs : List (Str × V)} {R : V → Hp → Prop} {Q : Bool → Shared → Prop} (hm : Meth X.K C "__contains__" f) (F : FnOk X.prog X.w X.K X.mg X.base CX k f fd ps sp) (hr : Room k X.A) (hb : Binds X.K fd ps []) (hx : Passes CX X E) (I : Inv X pins σ H s) (rx : RelV x v)
    (ea : H a = some (.ins C dx fs)) (h : sp [.ref a, x] H R E) (hq : ∀ v H1 s1, Inv X pins σ H1 s1 → R v H1 → ∃ b, v = .bl b ∧ Q b s1) : wpAny (model X.prog X.w) X.A (contains (.ref a) v) Q X.xe s := by
  obtain ⟨mA, O, _, _, _, _⟩ := ins_get I.hok ea
  obtain ⟨od, J, _⟩ := O.look
  refine contains_kin I.kIn J hm.at_ hm.fn ?_
  refine thn (run_fn (us := [.ref a, v]) (vs := [.ref a, x]) F hr hb .nil hx I (.cons rfl (.cons rx .nil)) (Q := R) (by rw [List.append_nil]; exact h)) fun r s1 ⟨y, H1, I1, ry, q⟩ => ?_
  obtain ⟨b, rfl, q2⟩ := hq y H1 s1 I1 q
  obtain rfl : r = .bool b := ry
  exact wpAny_truthy_bool q2
theorem op_inOwn (hm : Meth X.K C "__contains__" f) (F : FnOk X.prog X.w X.K X.mg X.base CX k f fd ps sp) (hr : Room k X.A) (hb : Binds X.K fd ps []) (hx : Passes CX X E) : OpR X (compareOp .In) (rInOwn C sp E false) := by
  rintro pins s σ H x y v u Q I rx ry ⟨a, dx, fs, rfl, ea, h⟩
  obtain rfl : u = Value.ref a := ry
  exact wpAny_bind (contains_own hm F hr hb hx I rx ea h fun v H1 s1 I1 ⟨b, e, q⟩ => ⟨b, e, wpAny_pure ⟨.bl b, H1, I1, rfl, q⟩⟩)
theorem op_notInOwn (hm : Meth X.K C "__contains__" f) (F : FnOk X.prog X.w X.K X.mg X.base CX k f fd ps sp) (hr : Room k X.A) (hb : Binds X.K fd ps []) (hx : Passes CX X E) : OpR X (compareOp .NotIn) (rInOwn C sp E true) := by
  rintro pins s σ H x y v u Q I rx ry ⟨a, dx, fs, rfl, ea, h⟩
  obtain rfl : u = Value.ref a := ry
  exact wpAny_bind (contains_own hm F hr hb hx I rx ea h fun v H1 s1 I1 ⟨b, e, q⟩ => ⟨b, e, wpAny_pure ⟨.bl (!b), H1, I1, rfl, q⟩⟩)
/-- a target with two readings (the item is a tuple, or a list) -/
theorem pg_alt {e : Expr} {g1 g2 : TG} (h1 : PG X e g1) (h2 : PG X e g2) : PG X e (fun v σ H Q => g1 v σ H Q ∨ g2 v σ H Q) := by
  refine ⟨fun pins s σ H v u Q I r h => ?_⟩
  rcases h with h | h
  · exact h1.run pins s σ H v u Q I r h
  · exact h2.run pins s σ H v u Q I r h
/-- C.m(e, ..) where m is a staticmethod of the class at C -/
def tSMethA (C : Addr) (sp : Sp) (dvs : List V) (E : XK) (ta : TE) (t : TA) : TE := fun σ H Q => ta σ H fun x H1 => x = .ref C ∧ t σ H1 fun vs H2 => sp (vs ++ dvs) H2 Q E
theorem pe_smeth {p g : Addr} {mc : Value} {ds : List Value} {dvs : List V} {o e : Expr} {es : List Expr} {m : Str} {pos apos : Pos} {ta : TE} {t : TA} {pl : Sem Bool}
    (ho : PE X o ta) (r : ClX.CRead X.K C mc) (c : SMet X.K C mc m p g) (F : FnOk X.prog X.w X.K X.mg X.base CX k g fd ps sp) (room : Room k X.A) (kp : PySem.W.keepIn X.K (.ref g) = true) (hb : Binds X.K fd ps ds) (hd : Vals dvs ds) (hx : Passes CX X E) (ha : PA X (e :: es) t)
    (hst : starEach (e :: es) X.env = (false, eval e X.env) :: starEach es X.env := by rfl) (hpl : (backTo pos (starEach es X.env)).any (·.1) = false := by rfl)
    (form : eval (.Call (.Attribute o m apos) (e :: es) [] pos) X.env = (do
      let ov ← eval o X.env
      standAt apos.atName
      let (f, first) ← holding [ov] (getMethod ov m pl)
      callWith pos f first (backTo pos (starEach (e :: es) X.env)) (backToKw pos (keywordEach [] X.env))) := by rfl) :
    PE X (.Call (.Attribute o m apos) (e :: es) [] pos) (tSMethA C sp dvs E ta t) := by
  refine ⟨fun pins s σ H Q I h => PySem.W.methodCall_KW (pl := pl) (thn (ho.run pins s σ H _ I h) fun u s1 ⟨x, H1, I1, rx, ex, q⟩ => ?_) form⟩
  subst ex
  obtain rfl : u = Value.ref C := rx
  obtain ⟨rest, hp⟩ := c.held
  refine PySem.W.method_cls I1.kIn r.ga (PySem.W.cls_bind I1.kIn r.rd c.found (wpAny_call (PySem.W.sm_get (s := { s1 with toks := s1.toks + 1 }) I1.kIn hp (PySem.W.handed_on rfl ?_))))
  refine PySem.W.callWith_K (first := []) (h₀ := X.base) I.ok.mod.kin kp (thn (ha.run pos pins _ σ H1 _ (I1.tok (s1.toks + 1)) q) fun us s2 ⟨vs, H2, I2, r2, q2⟩ => ⟨I2.kIn, ?_⟩) hst hpl
  exact run_fn (us := us) (vs := vs) F room hb hd hx I2 r2 q2
theorem pt_chain3 {a b c d : Expr} {ta tb tc td : TE} {pos : Pos} {op op' op'' : CmpOp} {r r' r'' : R2} (ho : OpR X (compareOp op) r) (ho' : OpR X (compareOp op') r') (ho'' : OpR X (compareOp op'') r'') (ha : PE X a ta) (hb : PE X b tb) (hc : PE X c tc) (hd : PE X d td)
    (hm : lastMarks [op, op', op''] [b, c, d] = false := by with_unfolding_all rfl) : PT X (.Compare a [op, op', op''] [b, c, d] pos) (tTest (tChain3 r r' r'' ta tb tc td)) := by
  refine ⟨fun pins s σ H Q I h => ?_⟩
  refine isTrue_chain (thn (ha.run pins s σ H _ I h) fun v s1 ⟨x, H1, I1, r1, q1⟩ => test_link (thn (hb.run pins s1 σ H1 _ I1 q1) fun u s2 ⟨y, H2, I2, r2, q2⟩ =>
    thn (ho pins s2 σ H2 x y v u _ I2 r1 r2 q2) fun e s3 ⟨z, H3, I3, r3, k, ez, q3⟩ => ?_)) hm
  subst ez
  cases r3
  refine wpAny_truthy_bool ?_
  cases k with
  | false =>
    obtain ⟨k', e', q'⟩ := q3
    cases e'
    exact ite_ff ⟨H3, I3, q'⟩
  | true =>
    refine ite_tt (test_link (thn (hc.run pins s3 σ H3 _ I3 q3) fun w' s4 ⟨z', H4, I4, r4, q4⟩ => thn (ho' pins s4 σ H4 y z' u w' _ I4 r2 r4 q4) fun e5 s5 ⟨z5, H5, I5, r5, k5, ez5, q5⟩ => ?_))
    subst ez5
    cases r5
    refine wpAny_truthy_bool ?_
    cases k5 with
    | false =>
      obtain ⟨k', e', q'⟩ := q5
      cases e'
      exact ite_ff ⟨H5, I5, q'⟩
    | true =>
      refine ite_tt (test_last (thn (hd.run pins s5 σ H5 _ I5 q5) fun w6 s6 ⟨z6, H6, I6, r6, q6⟩ => thn (ho'' pins s6 σ H6 z' z6 w' w6 _ I6 r4 r6 q6) fun d' s7 ⟨z7, H7, I7, r7, k7, e7, q7⟩ => ?_))
      subst e7
      cases r7
      exact wpAny_truthy_bool ⟨H7, I7, q7⟩
end
end L2

/-! comprehensions by a relation an item -/
namespace L2
open PySem PySem.Spec PyProof.Rows
/-- the k-th of bs is R of the k-th of js -/
def AllR (R : Nat → V → Prop) (js : List Nat) (bs : List V) : Prop := bs.length = js.length ∧ ∀ (k i : Nat) (v : V), js[k]? = some i → bs[k]? = some v → R i v
theorem AllR.nil {R : Nat → V → Prop} : AllR R [] [] := ⟨rfl, fun k i v h => by simp at h⟩
theorem AllR.mono {R R' : Nat → V → Prop} {js : List Nat} {bs : List V} (h : AllR R js bs) (m : ∀ i v, R i v → R' i v) : AllR R' js bs := ⟨h.1, fun k i v a b => m _ _ (h.2 k i v a b)⟩
theorem AllR.snoc {R : Nat → V → Prop} {js : List Nat} {bs : List V} {i : Nat} {v : V} (h : AllR R js bs) (q : R i v) : AllR R (js ++ [i]) (bs ++ [v]) := by
  refine ⟨by simp [h.1], fun k j u a b => ?_⟩
  by_cases c : k < js.length
  · rw [List.getElem?_append_left c] at a
    rw [List.getElem?_append_left (by rw [h.1]; exact c)] at b
    exact h.2 k j u a b
  · have k1 := (List.getElem?_eq_some_iff.mp a).1
    rw [List.length_append, List.length_singleton] at k1
    obtain rfl : k = js.length := by omega
    rw [List.getElem?_append_right (Nat.le_refl _), Nat.sub_self] at a
    rw [← h.1, List.getElem?_append_right (Nat.le_refl _), Nat.sub_self] at b
    cases a
    cases b
    exact q
/-- all of the first n -/
theorem AllR.all {R : Nat → V → Prop} {n : Nat} {bs : List V} (h : AllR R ((List.range n).filter fun _ => true) bs) : bs.length = n ∧ ∀ (i : Nat) (v : V), bs[i]? = some v → R i v := by
  have e : ((List.range n).filter fun _ => true) = List.range n := List.filter_eq_self.mpr fun _ _ => rfl
  rw [e] at h
  refine ⟨by rw [h.1, List.length_range], fun i v hv => h.2 i i v ?_ hv⟩
  have := (List.getElem?_eq_some_iff.mp hv).1
  rw [h.1, List.length_range] at this
  rw [List.getElem?_range this]
/-- an expression makes a value of this kind, and leaves the list at D alone -/
abbrev Gives (te : TE) (σ : St) (H : Hp) (D : Addr) (R : V → Hp → Prop) : Prop := ∀ Q : VK, (∀ y H', But D H H' → H' D = H D → R y H' → Q y H') → te σ H Q
theorem Gives.val {te : TE} {σ : St} {H : Hp} {D : Addr} {R : V → Hp → Prop} {v : V} (h : Val te σ H v) (r : R v H) : Gives te σ H D R := fun Q q => h _ (q v H (But.refl _ _) rfl r)
/-- a new pair -/
theorem Gives.pair {ta tb : TE} {σ : St} {H : Hp} {D : Addr} {x y : V} {xs : List V} (hD : H D = some (.lst xs)) (ha : Val ta σ H x) (hb : Val tb σ H y) {R : V → Hp → Prop} (r : ∀ t, H t = none → t ≠ D → R (.ref t) (upd H t (.tup [x, y]))) : Gives (tTup (tCons ta (tCons tb tNil))) σ H D R := fun Q q =>
  ha _ (hb _ ⟨by show 2 ≤ sizeLine; decide, fun t ht => by
    have n : t ≠ D := fun z => by rw [z, hD] at ht; cases ht
    exact q _ _ (fun b o e hb => Same.new ht _ _ e) (upd_ne n.symm) (r t ht n)⟩)
/-- one turn of a comprehension: the item's names, its test, its element -/
abbrev Item (g : TG) (tt : TT) (te : TE) (vs : List Nat) (σ : St) (D : Addr) (x : V) (H : Hp) (keep : Bool) (R : V → Hp → Prop) : Prop :=
  ∀ C : St → Hp → Prop, (∀ σ2 H2, But D H H2 → H2 D = H D → wipe σ2 vs = wipe σ vs → Ans tt σ2 H2 keep → (keep = true → Gives te σ2 H2 D R) → C σ2 H2) → g x (wipe σ vs) H C
section
variable {K : PySem.W.Frag} {a b : Addr} {xs ys : List V} {g : TG} {tt : TT} {te : TE} {vs : List Nat} {σ : St} {H1 : Hp} {Q : VK} {Rel : Addr → Nat → V → Hp → Prop} {keep : Nat → Bool}
def Gv (Rel : Addr → Nat → V → Hp → Prop) (keep : Nat → Bool) (H1 : Hp) (D : Addr) (i : Nat) (H : Hp) : Prop := ∃ bs, H D = some (.lst bs) ∧ AllR (fun i v => Rel D i v H) ((List.range i).filter keep) bs ∧ Same H1 H
theorem gv_zero {D : Addr} (hD : H1 D = none) : Gv Rel keep H1 D 0 (upd H1 D (.lst [])) := ⟨[], upd_same, .nil, Same.new hD⟩
theorem gv_step (mono : ∀ D i v H H', Rel D i v H → But D H H' → Rel D i v H') {D : Addr} (hD : H1 D = none) {i : Nat} (hi : i ≤ 1000000) {x : V} {H : Hp} (p : Gv Rel keep H1 D i H)
    (it : ∀ bs, H D = some (.lst bs) → Same H1 H → Item g tt te vs σ D x H (keep i) (Rel D i)) :
    g x (wipe σ vs) H fun σ2 H2 => wipe σ2 vs = wipe σ vs ∧ tt σ2 H2 fun b H3 => if b = true then te σ2 H3 fun y H4 => ∃ acc, H4 D = some (.lst acc) ∧ acc.length < sizeLine ∧ Gv Rel keep H1 D (i + 1) (upd H4 D (.lst (acc ++ [y]))) else Gv Rel keep H1 D (i + 1) H3 := by
  obtain ⟨bs, e, ar, sm⟩ := p
  have lb : bs.length ≤ i := by
    rw [ar.1]
    exact Nat.le_trans (List.length_filter_le _ _) (by rw [List.length_range]; exact Nat.le_refl _)
  have er : (List.range (i + 1)).filter keep = (List.range i).filter keep ++ (if keep i = true then [i] else []) := by
    rw [List.range_succ, List.filter_append]
    congr 1
    simp [List.filter]
    cases keep i <;> rfl
  refine it bs e sm _ fun σ2 H2 b2 e2 w2 an gi => ⟨w2, an _ ?_⟩
  have s2 : ∀ H', But D H2 H' → Same H1 H' := fun H' b' => But.new hD (But.trans (But.same sm b2) b')
  by_cases c : keep i = true
  · rw [if_pos c]
    refine gi c _ fun y H4 b4 e4 r => ⟨bs, by rw [e4, e2, e], by
      have : 1000000 < sizeLine := by decide
      omega, bs ++ [y], upd_same, ?_, ?_⟩
    · have bu : But D H4 (upd H4 D (.lst (bs ++ [y]))) := (But.refl D H4).upd
      rw [er, if_pos c]
      exact (ar.mono fun j v q => mono _ _ _ _ _ q ((b2.trans b4).trans bu)).snoc (mono _ _ _ _ _ r bu)
    · exact s2 _ (b4.trans (But.refl D H4).upd)
  · rw [if_neg c]
    refine ⟨bs, by rw [e2, e], ?_, s2 _ (But.refl _ _)⟩
    rw [er, if_neg c, List.append_nil]
    exact ar.mono fun j v q => mono _ _ _ _ _ q b2
/-- over a list -/
theorem cg_L (keep : Nat → Bool) (Rel : Addr → Nat → V → Hp → Prop) (mono : ∀ D i v H H', Rel D i v H → But D H H' → Rel D i v H') (hp : SqL K H1 a xs) (hz : xs.length ≤ 1000000)
    (it : ∀ D (i : Nat) x H bs, H1 D = none → xs[i]? = some x → H D = some (.lst bs) → Same H1 H → Item g tt te vs σ D x H (keep i) (Rel D i))
    (hd : ∀ D bs H', H1 D = none → H' D = some (.lst bs) → AllR (fun i v => Rel D i v H') ((List.range xs.length).filter keep) bs → Same H1 H' → Q (.ref D) H') : tLc (iList K (tC (.ref a))) g tt te vs σ H1 Q :=
  ⟨a, rfl, ⟨_, hp⟩, fun D hD => lc_list (xs := xs) (Gv Rel keep H1 D) (gv_zero hD) (fun i H _ p => p.choose_spec.2.2.seq hp) (fun i x H hx p => gv_step mono hD (by have := (List.getElem?_eq_some_iff.mp hx).1; omega) p fun bs e s => it D i x H bs hD hx e s) fun H ⟨bs, e, ar, s⟩ => hd D bs H hD e ar s⟩
/-- over a tuple -/
theorem cg_T (keep : Nat → Bool) (Rel : Addr → Nat → V → Hp → Prop) (mono : ∀ D i v H H', Rel D i v H → But D H H' → Rel D i v H') (hp : SqT K H1 a xs) (hz : xs.length ≤ 1000000)
    (it : ∀ D (i : Nat) x H bs, H1 D = none → xs[i]? = some x → H D = some (.lst bs) → Same H1 H → Item g tt te vs σ D x H (keep i) (Rel D i))
    (hd : ∀ D bs H', H1 D = none → H' D = some (.lst bs) → AllR (fun i v => Rel D i v H') ((List.range xs.length).filter keep) bs → Same H1 H' → Q (.ref D) H') : tLc (iTup K (tC (.ref a))) g tt te vs σ H1 Q :=
  ⟨a, rfl, ⟨_, hp⟩, fun D hD => lc_tup (xs := xs) (Gv Rel keep H1 D) (gv_zero hD) (fun i H _ p => p.choose_spec.2.2.sqT hp) (fun i x H hx p => gv_step mono hD (by have := (List.getElem?_eq_some_iff.mp hx).1; omega) p fun bs e s => it D i x H bs hD hx e s) fun H ⟨bs, e, ar, s⟩ => hd D bs H hD e ar s⟩
/-- over either -/
theorem cg_A (keep : Nat → Bool) (Rel : Addr → Nat → V → Hp → Prop) (mono : ∀ D i v H H', Rel D i v H → But D H H' → Rel D i v H') (hp : SqA K H1 a xs) (hz : xs.length ≤ 1000000)
    (it : ∀ D (i : Nat) x H bs, H1 D = none → xs[i]? = some x → H D = some (.lst bs) → Same H1 H → Item g tt te vs σ D x H (keep i) (Rel D i))
    (hd : ∀ D bs H', H1 D = none → H' D = some (.lst bs) → AllR (fun i v => Rel D i v H') ((List.range xs.length).filter keep) bs → Same H1 H' → Q (.ref D) H') : tLc (fun σ H R => iList K (tC (.ref a)) σ H R ∨ iTup K (tC (.ref a)) σ H R) g tt te vs σ H1 Q := by
  rcases hp with hp | hp
  · exact Or.inl (cg_L keep Rel mono hp hz it hd)
  · exact Or.inr (cg_T keep Rel mono hp hz it hd)
/-- over a range -/
theorem cg_R (keep : Nat → Bool) (Rel : Addr → Nat → V → Hp → Prop) (mono : ∀ D i v H H', Rel D i v H → But D H H' → Rel D i v H') {lo : Int} {n : Nat} (hz : n ≤ 1000000)
    (it : ∀ D (i : Nat) H bs, H1 D = none → i < n → H D = some (.lst bs) → Same H1 H → Item g tt te vs σ D (.int (lo + i)) H (keep i) (Rel D i))
    (hd : ∀ D bs H', H1 D = none → H' D = some (.lst bs) → AllR (fun i v => Rel D i v H') ((List.range n).filter keep) bs → Same H1 H' → Q (.ref D) H') : tLc (fun _ H R => R (Itr lo n) H) g tt te vs σ H1 Q :=
  fun D hD => lc_range (Gv Rel keep H1 D) (gv_zero hD) (fun i H hi p => gv_step mono hD (by omega) p fun bs e s => it D i H bs hD hi e s) fun H ⟨bs, e, ar, s⟩ => hd D bs H hD e ar s
/-- over zip of two lists of one length -/
theorem cg_Z (keep : Nat → Bool) (Rel : Addr → Nat → V → Hp → Prop) (mono : ∀ D i v H H', Rel D i v H → But D H H' → Rel D i v H') (hp : SqL K H1 a xs) (hq : SqL K H1 b ys) (hl : xs.length = ys.length) (hz : xs.length ≤ 1000000)
    (it : ∀ D (i : Nat) x y T H bs, H1 D = none → xs[i]? = some x → ys[i]? = some y → H T = some (.tup [x, y]) → H D = some (.lst bs) → Same H1 H → Item g tt te vs σ D (.ref T) H (keep i) (Rel D i))
    (hd : ∀ D bs H', H1 D = none → H' D = some (.lst bs) → AllR (fun i v => Rel D i v H') ((List.range xs.length).filter keep) bs → Same H1 H' → Q (.ref D) H') {ta : TA} (ha : ∀ R : List V → Hp → Prop, R [.ref a, .ref b] H1 → ta σ H1 R) : tLc (iZip K ta) g tt te vs σ H1 Q := by
  refine ha _ ⟨a, b, xs, ys, rfl, hp, hq, fun D hD => ?_⟩
  refine ⟨fun i m H => m = xs.length - i ∧ i ≤ xs.length ∧ Gv Rel keep H1 D i H, ⟨xs.length, rfl, Nat.zero_le _, gv_zero hD⟩, ?_⟩
  rintro i m H ⟨rfl, hi, p⟩
  have qx := p.choose_spec.2.2.seq hp
  have qy := p.choose_spec.2.2.seq hq
  by_cases hlt : i < xs.length
  · have hx : xs[i]? = some xs[i] := List.getElem?_eq_getElem hlt
    have hlt2 : i < ys.length := by omega
    have hy : ys[i]? = some ys[i] := List.getElem?_eq_getElem hlt2
    refine .inr ⟨⟨xs, ys, _, _, qx, qy, hx, hy⟩, Gv Rel keep H1 D (i + 1), fun H' p' => ⟨xs.length - (i + 1), by omega, rfl, hlt, p'⟩, fun v H' y => ?_⟩
    obtain ⟨T, x', y', rfl, hT, rfl, f1, f2⟩ := y
    have hx' := f1 xs qx
    have hy' := f2 ys qy
    obtain ⟨bs, e, ar, s⟩ := p
    have sT := Same.new (o := .tup [x', y']) hT
    exact gv_step mono hD (by omega) ⟨bs, sT _ _ e, ar.mono fun j v q => mono _ _ _ _ _ q (fun b o z _ => sT _ _ z), s.trans sT⟩ fun bs e s => it D i x' y' T _ bs hD hx' hy' upd_same e s
  · have e : i = xs.length := by omega
    subst e
    obtain ⟨bs, e, ar, s⟩ := p
    exact .inl ⟨⟨xs, ys, qx, qy, Or.inl (Nat.le_refl _)⟩, hd D bs H hD e ar s⟩
end
end L2
namespace L2
open PySem PySem.Spec PyProof.Rows
section
variable {K : PySem.W.Frag} {tl : TE} {g : TG} {tt : TT} {te : TE} {vs : List Nat} {σ : St} {H : Hp} {Q : VK}
theorem lcT (h : tl σ H fun v H1 => tLc (iTup K (tC v)) g tt te vs σ H1 Q) : tLc (iTup K tl) g tt te vs σ H Q := h
theorem lcL (h : tl σ H fun v H1 => tLc (iList K (tC v)) g tt te vs σ H1 Q) : tLc (iList K tl) g tt te vs σ H Q := h
theorem lcA {v : V} (hv : Val tl σ H v) (h : tLc (fun σ H R => iList K (tC v) σ H R ∨ iTup K (tC v) σ H R) g tt te vs σ H Q) : tLc (fun σ H R => iList K tl σ H R ∨ iTup K tl σ H R) g tt te vs σ H Q := h.imp (fun h => hv _ h) fun h => hv _ h
end
/-- a slice of a list -/
theorem v_slL {K : PySem.W.Frag} {te : TE} {tl th : TO} {σ : St} {H : Hp} {Q : VK} {l : Addr} {xs : List V} (h : te σ H fun x H1 => tl σ H1 fun lo H2 => th σ H2 fun hi H3 => rSlL K x lo hi H3 Q) : tSl (rSlL K) te tl th σ H Q := h
theorem cut1 {v : V} {ds : List V} : cutV (v :: ds) (some 1) none = ds := by
  unfold cutV
  have e1 : HT.sIx (v :: ds).length 0 (some 1) = 1 := by
    show (if (1 : Int) < 0 then ((1 : Int) + ((v :: ds).length : Nat)).toNat else min ((1 : Int).toNat) (ds.length + 1)) = 1
    rw [if_neg (by decide)]
    show min 1 (ds.length + 1) = 1
    omega
  have e2 : HT.sIx (v :: ds).length (v :: ds).length none = (v :: ds).length := rfl
  rw [e1, e2]
  simp
theorem cut1m {v : V} {ds : List V} : cutV (v :: ds) (some 1) (some (-1)) = ds.dropLast := by
  unfold cutV
  have e1 : HT.sIx (v :: ds).length 0 (some 1) = 1 := by
    show (if (1 : Int) < 0 then ((1 : Int) + ((v :: ds).length : Nat)).toNat else min ((1 : Int).toNat) (ds.length + 1)) = 1
    rw [if_neg (by decide)]
    show min 1 (ds.length + 1) = 1
    omega
  have e2 : HT.sIx (v :: ds).length (v :: ds).length (some (-1)) = ds.length := by
    show (if (-1 : Int) < 0 then ((-1 : Int) + ((v :: ds).length : Nat)).toNat else min ((-1 : Int).toNat) (v :: ds).length) = ds.length
    rw [if_pos (by decide), List.length_cons]
    omega
  rw [e1, e2, List.dropLast_eq_take]
  rfl
end L2
namespace L2
open PySem PySem.Spec PyProof.Rows
section
variable {K : PySem.W.Frag} {te ta tb : TE} {tlo thi : TO} {lo hi : Option Int} {σ : St} {H : Hp} {Q : VK} {l : Addr} {xs : List V} {x y : V}
/-- xs[lo:hi] + [(x, y)] -/
theorem sl_pair (ht : Val te σ H (.ref l)) (hl : SqL K H l xs) (h1 : ∀ H (Q : Option Int → Hp → Prop), Q lo H → tlo σ H Q) (h2 : ∀ H (Q : Option Int → Hp → Prop), Q hi H → thi σ H Q) (hz : xs.length ≤ 1000000)
    (ha : ∀ H', Same H H' → Val ta σ H' x) (hb : ∀ H', Same H H' → Val tb σ H' y)
    (q : ∀ D u H', Same H H' → H' u = some (.tup [x, y]) → H' D = some (.lst (cutV xs lo hi ++ [.ref u])) → H D = none → Q (.ref D) H') :
    tOp rCat (tSl (rSlL K) te tlo thi) (tLst (tCons (tTup (tCons ta (tCons tb tNil))) tNil)) σ H Q := by
  refine ht _ (h1 _ _ (h2 _ _ ⟨l, xs, rfl, hl, fun p hp => ?_⟩))
  have s1 := Same.new (o := .lst (cutV xs lo hi)) hp
  refine ha _ s1 _ (hb _ s1 _ ⟨by show 2 ≤ sizeLine; decide, fun u hu => ?_⟩)
  have s2 := Same.new (o := .tup [x, y]) hu
  refine ⟨by show 1 ≤ sizeLine; decide, fun r hr => ?_⟩
  have s3 := Same.new (o := .lst [V.ref u]) hr
  refine ⟨p, r, _, _, rfl, rfl, s3 _ _ (s2 _ _ upd_same), upd_same, by
    have := cutV_length xs lo hi
    have : 1000001 ≤ sizeLine := by decide
    rw [List.length_singleton]
    omega, fun D hD => ?_⟩
  have s4 := Same.new (o := .lst (cutV xs lo hi ++ [V.ref u])) hD
  refine q D u _ (s1.trans (s2.trans (s3.trans s4))) (s4 _ _ (s3 _ _ upd_same)) upd_same ?_
  cases e : H D with
  | none => rfl
  | some o => exact absurd ((s1.trans (s2.trans s3)) _ _ e) (by rw [hD]; exact fun z => nomatch z)
end
end L2
namespace L2
open PySem PySem.Spec PyProof.Rows
/-! ### pairs as data -/
def pdata (a : Int × Int) : PyData := .tuple [.int a.1, .int a.2]
def prow (L : List (Int × Int)) : List PyData := L.map pdata
theorem pdata_dp {K : PySem.W.Frag} {H : Hp} {t : Addr} {a : Int × Int} (h : H t = some (.tup [.int a.1, .int a.2])) : Dp K H (.ref t) (pdata a) := .tup (SqT.of h) (.cons (.int _) (.cons (.int _) .nil))
theorem pdata_eqv (a b : Int × Int) : PyData.eqv (pdata a) (pdata b) = decide (a = b) := by
  unfold pdata
  rw [PyData.eqv, PyData.eqvAll, PyData.eqvAll, PyData.eqvAll, PyData.eqv, PyData.eqv]
  obtain ⟨a1, a2⟩ := a
  obtain ⟨b1, b2⟩ := b
  simp [Prod.ext_iff]
  by_cases c : a1 = b1 <;> by_cases d : a2 = b2 <;> simp [c, d]
theorem prow_eqv : ∀ L M : List (Int × Int), PyData.eqvAll (prow L) (prow M) = decide (L = M)
  | [], [] => by simp [prow, PyData.eqvAll]
  | [], _ :: _ => by simp [prow, PyData.eqvAll]
  | _ :: _, [] => by simp [prow, PyData.eqvAll]
  | a :: L, b :: M => by
    have i := prow_eqv L M
    unfold prow at i ⊢
    rw [List.map_cons, List.map_cons, PyData.eqvAll, i, pdata_eqv]
    by_cases c : a = b <;> by_cases d : L = M <;> simp [c, d]
theorem prow_lay : ∀ L : List (Int × Int), PyData.canLayAll0 (prow L) = true
  | [] => by simp [prow, PyData.canLayAll0]
  | a :: L => by
    have i := prow_lay L
    unfold prow at i ⊢
    simp only [List.map_cons, PyData.canLayAll0, pdata, PyData.canLay0, i]
    rfl
theorem prow_depth : ∀ L : List (Int × Int), PyData.depthAll (prow L) ≤ 1
  | [] => by simp [prow, PyData.depthAll]
  | a :: L => by
    have i := prow_depth L
    unfold prow at i ⊢
    simp only [List.map_cons, PyData.depthAll, pdata, PyData.depth]
    omega
theorem pdata_shaped (a : Int × Int) : SeqAt.shaped (pdata a) = true := rfl
theorem prow_shapedL (L : List (Int × Int)) : SeqAt.shaped (.list (prow L)) = true := by
  have h1 := prow_depth L
  have h2 : PyData.depth (.list (prow L)) ≤ 64 := by simp only [PyData.depth]; omega
  show (PyData.canLay0 (.list (prow L)) && decide (PyData.depth (.list (prow L)) ≤ 64)) = true
  rw [Bool.and_eq_true]
  exact ⟨by simp only [PyData.canLay0]; exact prow_lay L, decide_eq_true h2⟩
theorem prow_shapedT (L : List (Int × Int)) : SeqAt.shaped (.tuple (prow L)) = true := by
  have h1 := prow_depth L
  have h2 : PyData.depth (.tuple (prow L)) ≤ 64 := by simp only [PyData.depth]; omega
  show (PyData.canLay0 (.tuple (prow L)) && decide (PyData.depth (.tuple (prow L)) ≤ 64)) = true
  rw [Bool.and_eq_true]
  exact ⟨by simp only [PyData.canLay0]; exact prow_lay L, decide_eq_true h2⟩
section
variable {K : PySem.W.Frag} {t u : TT} {ta t1 t2 : TE} {σ : St} {H : Hp} {QT : Bool → Hp → Prop}
theorem t_or_no (h : Ans t σ H false) (k : u σ H QT) : tOr t u σ H QT := h _ k
theorem t_and_yes (h : Ans t σ H true) (k : u σ H QT) : tAnd t u σ H QT := h _ k
theorem t_and_not (h : Ans t σ H false) (k : QT false H) : tAnd t u σ H QT := h _ k
/-- x == (i, j) -/
theorem eq_pair {p : Addr} {x y : Int × Int} (ha : Val ta σ H (.ref p)) (hp : H p = some (.tup [.int x.1, .int x.2])) (h1 : Val t1 σ H (.int y.1)) (h2 : Val t2 σ H (.int y.2)) (q : ∀ H', Same H H' → QT (decide (x = y)) H') :
    tTest (tOp (rEqD K) ta (tTup (tCons t1 (tCons t2 tNil)))) σ H QT := by
  refine ha _ (h1 _ (h2 _ ⟨by show 2 ≤ sizeLine; decide, fun u hu => ?_⟩))
  have s := Same.new (o := .tup [V.int y.1, V.int y.2]) hu
  refine ⟨_, _, pdata_dp (s _ _ hp), pdata_dp (a := y) upd_same, pdata_shaped _, pdata_shaped _, _, rfl, ?_⟩
  rw [pdata_eqv]
  exact q _ s
end
end L2
namespace L2
open PySem PySem.Spec PyProof.Rows
section
variable {K : PySem.W.Frag} {c : TT} {t1 t2 : TS} {D : Ends} {σ : St} {H : Hp}
theorem st_ifX (h : c σ H fun b H1 => if b = true then t1 D σ H1 else t2 D σ H1) : tIfS c t1 t2 D σ H := h
theorem g_name {i : Nat} {x : V} {C : St → Hp → Prop} (h : C (σ.set i (some x)) H) : gName i x σ H C := h
end
end L2
namespace L2
open PySem PySem.Spec PyProof.Rows
section
variable {K : PySem.W.Frag} {a : Addr} {xs : List V} {g : TG} {tb : TS} {D : Ends} {σ : St} {H : Hp} {ta : TA}
/-- for k, x in enumerate(tuple) -/
theorem st_forET0' (Pv : Nat → St → Hp → Prop) (h0 : Pv 0 σ H) (hk : ∀ i σ H, i ≤ xs.length → Pv i σ H → SqT K H a xs)
    (hs : ∀ (i : Nat) x T σ H, xs[i]? = some x → Pv i σ H → H T = none → g (.ref T) σ (upd H T (.tup [.int (i : Nat), x])) fun σ2 H2 => tb { D with nx := Pv (i + 1), ct := Pv (i + 1), bk := D.nx } σ2 H2) (hd : ∀ σ H, Pv xs.length σ H → D.nx σ H) : tFor (fun _ H R => R (Itte K a) H) g tb D σ H := by
  refine ⟨fun i m σ H => m = xs.length - i ∧ i ≤ xs.length ∧ Pv i σ H, ⟨_, rfl, Nat.zero_le _, h0⟩, ?_⟩
  rintro i m σ H ⟨rfl, hi, p⟩
  have sq := hk i σ H hi p
  rcases Nat.lt_or_eq_of_le hi with lt | rfl
  · obtain ⟨x, hx⟩ : ∃ x, xs[i]? = some x := ⟨_, List.getElem?_eq_getElem lt⟩
    refine Or.inr ⟨⟨xs, x, sq, hx⟩, Pv (i + 1), fun σ' H' p' => ⟨_, by omega, rfl, lt, p'⟩, ?_⟩
    rintro y H' ⟨T, z, rfl, hT, rfl, hz⟩
    have e := hz xs sq
    rw [hx] at e
    cases e
    exact hs i x T σ H hx p hT
  · exact Or.inl ⟨⟨xs, sq, Nat.le_refl _⟩, hd σ H p⟩
theorem st_forET' (hl : ∀ R : List V → Hp → Prop, R [.ref a] H → ta σ H R) (hp : SqT K H a xs) (Pv : Nat → St → Hp → Prop) (h0 : Pv 0 σ H) (hk : ∀ i σ' H', Pv i σ' H' → Same H H')
    (hs : ∀ (i : Nat) x T σ H, xs[i]? = some x → Pv i σ H → H T = none → g (.ref T) σ (upd H T (.tup [.int (i : Nat), x])) fun σ2 H2 => tb { D with nx := Pv (i + 1), ct := Pv (i + 1), bk := D.nx } σ2 H2) (hd : ∀ σ H, Pv xs.length σ H → D.nx σ H) : tFor (iEnumT K ta) g tb D σ H :=
  hl _ ⟨a, xs, rfl, hp, st_forET0' Pv h0 (fun i σ' H' _ z => (hk i σ' H' z).sqT hp) hs hd⟩
theorem st_forEA' (hl : ∀ R : List V → Hp → Prop, R [.ref a] H → ta σ H R) (hp : SqA K H a xs) (Pv : Nat → St → Hp → Prop) (h0 : Pv 0 σ H) (hk : ∀ i σ' H', Pv i σ' H' → Same H H')
    (hs : ∀ (i : Nat) x T σ H, xs[i]? = some x → Pv i σ H → H T = none → g (.ref T) σ (upd H T (.tup [.int (i : Nat), x])) fun σ2 H2 => tb { D with nx := Pv (i + 1), ct := Pv (i + 1), bk := D.nx } σ2 H2) (hd : ∀ σ H, Pv xs.length σ H → D.nx σ H) : tFor (fun σ H R => iEnum K ta σ H R ∨ iEnumT K ta σ H R) g tb D σ H := by
  rcases hp with hp | hp
  · exact Or.inl (hl _ ⟨a, xs, rfl, hp, st_forE Pv h0 (fun i σ' H' _ z => (hk i σ' H' z).seq hp) hs hd⟩)
  · exact Or.inr (hl _ ⟨a, xs, rfl, hp, st_forET0' Pv h0 (fun i σ' H' _ z => (hk i σ' H' z).sqT hp) hs hd⟩)
end
/-- a pair, a tuple or a list, is read into two names -/
theorem g_pairA {K : PySem.W.Frag} {i j n : Nat} {t : Addr} {x y : V} {σ : St} {H : Hp} {C : St → Hp → Prop} (hn : n = 2) (h : SqA K H t [x, y]) (c : C ((σ.set i (some x)).set j (some y)) H) : gTup K n (gCons (gName i) (gCons (gName j) gNil)) (.ref t) σ H C ∨ gLst K n (gCons (gName i) (gCons (gName j) gNil)) (.ref t) σ H C := by
  subst hn
  rcases h with h | h
  · exact Or.inr ⟨t, _, rfl, h, rfl, _, _, rfl, _, _, rfl, rfl, c⟩
  · exact Or.inl ⟨t, _, rfl, h, rfl, _, _, rfl, _, _, rfl, rfl, c⟩
section
variable {C : Addr} {sp : Sp} {ta tb : TE} {σ : St} {H : Hp} {R : XK} {x y : V}
theorem mkO1 (ha : Val ta σ H x) (h : [x].length ≤ 1000 ∧ ∀ a, H a = none → sp (.ref a :: ([x] ++ [])) (upd H a (exo a C none)) (fun v H2 => v = .non ∧ ∃ (d : Addr) (fs : List (Str × V)), H2 a = some (exo a C (some d)) ∧ H2 d = some (exd d fs) ∧ H d = none ∧ R (.ref C) (some d) (upd (del H2 a) d (.xd fs))) (fun _ _ _ => False)) : tMkO C sp [] (tCons ta tNil) σ H R := ha _ h
theorem mkO2 (ha : Val ta σ H x) (hb : Val tb σ H y) (h : [x, y].length ≤ 1000 ∧ ∀ a, H a = none → sp (.ref a :: ([x, y] ++ [])) (upd H a (exo a C none)) (fun v H2 => v = .non ∧ ∃ (d : Addr) (fs : List (Str × V)), H2 a = some (exo a C (some d)) ∧ H2 d = some (exd d fs) ∧ H d = none ∧ R (.ref C) (some d) (upd (del H2 a) d (.xd fs))) (fun _ _ _ => False)) : tMkO C sp [] (tCons ta (tCons tb tNil)) σ H R := ha _ (hb _ h)
end
end L2
namespace L2
open PySem PySem.Spec PyProof.Rows
section
variable {C : Addr} {sp : Sp} {dvs : List V} {E : XK} {ta tb tc te : TE} {σ : St} {H : Hp} {Q : VK} {D : Ends} {x y : V}
theorem st_ret0 (h : te σ H D.rt) : tRet te D σ H := h
/-- C(e, e', e''), the first two known -/
theorem mk3 (ha : Val ta σ H x) (hb : Val tb σ H y) (hc : tc σ H fun z H1 => ∀ a dx, H1 a = none → H1 dx = none → dx ≠ a → sp (.ref a :: ([x, y, z] ++ dvs)) (upd (upd H1 dx (.own a)) a (.ins C dx [])) (fun v H2 => v = .non ∧ Q (.ref a) H2) E) :
    tMake C sp dvs E (tCons ta (tCons tb (tCons tc tNil))) σ H Q := ha _ (hb _ hc)
/-- ((x, y),) -/
theorem tup_pair (ha : Val ta σ H x) (hb : Val tb σ H y) (q : ∀ t u H', H' t = some (.tup [.ref u]) → H' u = some (.tup [x, y]) → Same H H' → Q (.ref t) H') : tTup (tCons (tTup (tCons ta (tCons tb tNil))) tNil) σ H Q :=
  ha _ (hb _ ⟨by show 2 ≤ sizeLine; decide, fun u hu => ⟨by show 1 ≤ sizeLine; decide, fun t ht => q t u _ upd_same (Same.new ht _ _ upd_same) ((Same.new hu).trans (Same.new ht))⟩⟩)
theorem tup_nil (q : ∀ t H', H' t = some (.tup []) → Same H H' → Q (.ref t) H') : tTup tNil σ H Q := ⟨by show 0 ≤ sizeLine; decide, fun t ht => q t _ upd_same (Same.new ht)⟩
theorem t_if (c : TT) {b : Bool} (h : Ans c σ H b) (hy : b = true → ta σ H Q) (hn : b = false → tb σ H Q) : tIf c ta tb σ H Q := by
  refine h _ ?_
  cases b with
  | true => exact iteT (hy rfl)
  | false => exact iteF (hn rfl)
end
end L2
namespace L2
open PySem PySem.Spec PyProof.Rows
section
variable {K : PySem.W.Frag} {r : R2} {tb ta te : TE} {g : TG} {b1 : TS} {σ : St} {H : Hp} {Q : VK} {D : Ends} {x y : V}
theorem op_c (h : tb σ H fun y H2 => r x y H2 Q) : tOp r (tC x) tb σ H Q := h
theorem op_v (ha : Val ta σ H x) (h : tb σ H fun y H2 => r x y H2 Q) : tOp r ta tb σ H Q := ha _ h
theorem rng1X (h : te σ H fun v H1 => tFor (iRng1 (tCons (tC v) tNil)) g b1 D σ H1) : tFor (iRng1 (tCons te tNil)) g b1 D σ H := h
/-- l.append((x, y)) -/
theorem app_pair {i : Nat} {pl : Addr} {as : List V} (hi : σ[i]? = some (some (V.ref pl))) (e : H pl = some (.lst as)) (hz : as.length ≤ 1000000) (ha : Val ta σ H x) (hb : Val tb σ H y)
    (q : ∀ u H', H' u = some (.tup [x, y]) → H' pl = some (.lst (as ++ [.ref u])) → But pl H H' → H u = none → D.nx σ H') : tDrop (tBM K "list" rAppend (tVar i) (tCons (tTup (tCons ta (tCons tb tNil))) tNil)) D σ H :=
  ⟨_, hi, tyL e, ha _ (hb _ ⟨by show 2 ≤ sizeLine; decide, fun u hu => by
    have n : u ≠ pl := fun z => by rw [z, e] at hu; cases hu
    exact ⟨pl, as, .ref u, rfl, rfl, Same.new hu _ _ e, by
      have : 1000000 < sizeLine := by decide
      omega, q u _ ((upd_ne n).trans upd_same) upd_same (fun b o z m => by rw [upd_ne m]; exact Same.new hu _ _ z) hu⟩⟩)⟩
/-- l.append(x) -/
theorem app_val {i : Nat} {pl : Addr} {as : List V} (hi : σ[i]? = some (some (V.ref pl))) (e : H pl = some (.lst as)) (hz : as.length ≤ 1000000) (ha : Val ta σ H x)
    (q : ∀ H', H' pl = some (.lst (as ++ [x])) → But pl H H' → D.nx σ H') : tDrop (tBM K "list" rAppend (tVar i) (tCons ta tNil)) D σ H :=
  ⟨_, hi, tyL e, ha _ ⟨pl, as, x, rfl, rfl, e, by
      have : 1000000 < sizeLine := by decide
      omega, q _ upd_same (fun b o z m => by rw [upd_ne m]; exact z)⟩⟩
end
end L2
namespace L2
open PySem PySem.Spec PyProof.Rows
section
variable {K : PySem.W.Frag} {te : TE} {σ : St} {H : Hp} {D : Ends}
/-- l.append(e), e any expression -/
theorem app_te {i : Nat} {pl : Addr} {as : List V} (hi : σ[i]? = some (some (V.ref pl))) (e : H pl = some (.lst as)) (h : te σ H fun v H1 => rAppend (.ref pl) [v] H1 fun _ H2 => D.nx σ H2) : tDrop (tBM K "list" rAppend (tVar i) (tCons te tNil)) D σ H := ⟨_, hi, tyL e, h⟩
theorem app_is {pl : Addr} {as : List V} {v : V} {N : Hp → Prop} (e : H pl = some (.lst as)) (hz : as.length ≤ 1000000) (q : ∀ H', H' pl = some (.lst (as ++ [v])) → But pl H H' → N H') : rAppend (.ref pl) [v] H fun _ H2 => N H2 :=
  ⟨pl, as, v, rfl, rfl, e, by
    have : 1000000 < sizeLine := by decide
    omega, q _ upd_same (fun b o z m => by rw [upd_ne m]; exact z)⟩
end
end L2
namespace L2
open PySem PySem.Spec PyProof.Rows
/-! ### rows of truth values as data -/
def bdata (L : List Bool) : List PyData := L.map .bool
theorem bdata_dp {K : PySem.W.Frag} {H : Hp} : ∀ L : List Bool, DpAll K H (L.map V.bl) (bdata L)
  | [] => .nil
  | b :: r => .cons (.bl b) (bdata_dp r)
theorem bdata_eqv : ∀ L M : List Bool, PyData.eqvAll (bdata L) (bdata M) = decide (L = M)
  | [], [] => by simp [bdata, PyData.eqvAll]
  | [], _ :: _ => by simp [bdata, PyData.eqvAll]
  | _ :: _, [] => by simp [bdata, PyData.eqvAll]
  | a :: L, b :: M => by
    have i := bdata_eqv L M
    unfold bdata at i ⊢
    rw [List.map_cons, List.map_cons, PyData.eqvAll, i, PyData.eqv]
    by_cases d : L = M <;> cases a <;> cases b <;> simp [d]
theorem bdata_lay : ∀ L : List Bool, PyData.canLayAll0 (bdata L) = true
  | [] => by simp [bdata, PyData.canLayAll0]
  | a :: L => by
    have i := bdata_lay L
    unfold bdata at i ⊢
    simp only [List.map_cons, PyData.canLayAll0, PyData.canLay0, i]
    rfl
theorem bdata_depth : ∀ L : List Bool, PyData.depthAll (bdata L) ≤ 1
  | [] => by simp [bdata, PyData.depthAll]
  | a :: L => by
    have i := bdata_depth L
    unfold bdata at i ⊢
    simp only [List.map_cons, PyData.depthAll, PyData.depth]
    omega
theorem bdata_shaped (L : List Bool) : SeqAt.shaped (.list (bdata L)) = true := by
  have h1 := bdata_depth L
  have h2 : PyData.depth (.list (bdata L)) ≤ 64 := by simp only [PyData.depth]; omega
  show (PyData.canLay0 (.list (bdata L)) && decide (PyData.depth (.list (bdata L)) ≤ 64)) = true
  rw [Bool.and_eq_true]
  exact ⟨by simp only [PyData.canLay0]; exact bdata_lay L, decide_eq_true h2⟩
section
variable {ta tb tc : TE} {g : TG} {b1 : TS} {σ : St} {H : Hp} {D : Ends} {hi lo : Int} {n : Nat} {b c : Bool}
theorem a_eqB (ha : Val ta σ H (.bl b)) (hb : Val tb σ H (.bl c)) : Ans (tTest (tOp rEq ta tb)) σ H (decide (b = c)) := ans_eq ha hb rfl (by rw [dec_bl]; cases b <;> cases c <;> rfl)
theorem a_bl (ha : Val ta σ H (.bl b)) : Ans (tB ta) σ H b := fun Q q => ha _ ⟨_, rfl, q⟩
/-- for x in range(hi, lo, -1) -/
theorem st_forDown (ha : Val ta σ H (.int hi)) (hb : Val tb σ H (.int lo)) (hc : Val tc σ H (.int (-1))) (hn : (hi - lo).toNat = n) (b1' : -1000000 ≤ lo) (b2 : lo ≤ 1000000) (b3 : -1000000 ≤ hi) (b4 : hi ≤ 1000000) (Pv : Nat → St → Hp → Prop) (h0 : Pv 0 σ H)
    (hs : ∀ i σ H, i < n → Pv i σ H → g (.int (hi - i)) σ H fun σ2 H2 => b1 { D with nx := Pv (i + 1), ct := Pv (i + 1), bk := D.nx } σ2 H2) (hd : ∀ σ H, Pv n σ H → D.nx σ H) : tFor (iRng3 (tCons ta (tCons tb (tCons tc tNil)))) g b1 D σ H := by
  refine ha _ (hb _ (hc _ ⟨hi, lo, -1, n, rfl, by rw [← hn]; exact RgC.neg (by omega) (by omega) (by omega) (by omega), ?_⟩))
  exact for_rangeC Pv h0 (fun i σ' H' hi' p => by rw [show hi + (i : Nat) * (-1 : Int) = hi - i by omega]; exact hs i σ' H' hi' p) hd
end
end L2
namespace L2
open PySem PySem.Spec PyProof.Rows
section
variable {r : R2} {ta tb : TE} {σ : St} {H : Hp} {QT : Bool → Hp → Prop} {i : Int} {x : V}
theorem t_op (ha : Val ta σ H x) (h : tb σ H fun y H2 => r x y H2 fun z H3 => ∃ k, z = .bl k ∧ QT k H3) : tTest (tOp r ta tb) σ H QT := ha _ h
theorem a_neS (ha : Val ta σ H (.int i)) (hb : Val tb σ H (.int i)) : Ans (tTest (tOp rNe ta tb)) σ H false := by
  have := a_ne ha hb
  rw [decide_eq_true rfl] at this
  exact this
end
end L2
namespace L2
open PySem PySem.Spec PyProof.Rows
section
variable {r : R2} {ta tb te : TE} {σ : St} {H : Hp} {Q : VK} {QA : List V → Hp → Prop} {x y : V}
theorem lst2 (ha : Val ta σ H x) (hb : Val tb σ H y) (q : ∀ p, H p = none → Q (.ref p) (upd H p (.lst [x, y]))) : tLst (tCons ta (tCons tb tNil)) σ H Q := ha _ (hb _ ⟨by show 2 ≤ sizeLine; decide, q⟩)
theorem lst1 (h : te σ H fun x H1 => ∀ p, H1 p = none → Q (.ref p) (upd H1 p (.lst [x]))) (mono : ∀ R R' : V → Hp → Prop, (∀ v H, R v H → R' v H) → te σ H R → te σ H R') : tLst (tCons te tNil) σ H Q := mono _ _ (fun v H1 q => ⟨by show 1 ≤ sizeLine; decide, q⟩) h
theorem lst1' (h : te σ H fun x H1 => [x].length ≤ sizeLine ∧ ∀ p, H1 p = none → Q (.ref p) (upd H1 p (.lst [x]))) : tLst (tCons te tNil) σ H Q := h
theorem op_te (h : ta σ H fun x H1 => tb σ H1 fun y H2 => r x y H2 Q) : tOp r ta tb σ H Q := h
theorem cons1 (h : te σ H fun x H1 => QA [x] H1) : tCons te tNil σ H QA := h
end
end L2
namespace L2
open PySem PySem.Spec PyProof.Rows
section
variable {K : PySem.W.Frag} {tr te : TE} {g : TG} {tt : TT} {vs : List Nat} {σ : St} {H1 : Hp} {Q : VK} {i : Int} {P : V → Prop}
theorem lcR1V (hv : Val tr σ H1 (.int i)) (b1 : -1000000 ≤ i) (b2 : i ≤ 1000000) (h : tLc (fun _ H R => R (Itr 0 i.toNat) H) g tt te vs σ H1 Q) : tLc (iRng1 (tCons tr tNil)) g tt te vs σ H1 Q := hv _ ⟨i, rfl, by omega, by omega, h⟩
/-- values of a kind, one for each of a range -/
theorem comp_vals {i0 n : Nat} (hz : n ≤ 1000000) (hw : ∀ x, wipe ((wipe σ vs).set i0 (some x)) vs = wipe σ vs) (f : Nat → V)
    (he : ∀ (i : Nat) H, i < n → Same H1 H → Val te ((wipe σ vs).set i0 (some (.int (i : Int)))) H (f i))
    (hd : ∀ D H', H1 D = none → H' D = some (.lst ((List.range n).map f)) → Same H1 H' → Q (.ref D) H') : tLc (fun _ H R => R (Itr 0 n) H) (gName i0) tYes te vs σ H1 Q := by
  refine cg_R (fun _ => true) (fun _ i v _ => v = f i) (fun _ _ _ _ _ h _ => h) hz (fun D i H bs hD hi eD s C q => ?_) fun D bs H' hD eD ar s => ?_
  · have e : (0 : Int) + (i : Int) = i := by omega
    rw [e]
    exact g_name (q _ _ (But.refl _ _) rfl (hw _) (fun _ z => z) fun _ => Gives.val (he i H hi s) rfl)
  · obtain ⟨h1, h2⟩ := ar.all
    have eb : bs = (List.range n).map f := by
      refine List.ext_getElem? fun j => ?_
      rw [List.getElem?_map]
      by_cases c : j < n
      · rw [List.getElem?_range c, List.getElem?_eq_getElem (by omega), h2 j _ (List.getElem?_eq_getElem (by omega))]
        rfl
      · rw [List.getElem?_eq_none (by omega), List.getElem?_eq_none (by simp; omega)]
        rfl
    rw [eb] at eD
    exact hd D H' hD eD s
/-- l + m -/
theorem cat_is {l b : Addr} {xs zs : List V} {H : Hp} (e1 : H l = some (.lst xs)) (e2 : H b = some (.lst zs)) (hz : xs.length + zs.length ≤ 1000000) (q : ∀ p, H p = none → Q (.ref p) (upd H p (.lst (xs ++ zs)))) : rCat (.ref l) (.ref b) H Q :=
  ⟨l, b, xs, zs, rfl, rfl, e1, e2, by have : 1000000 ≤ sizeLine := by decide
                                      omega, q⟩
end
end L2
namespace L2
open PySem PySem.Spec PyProof.Rows
section
variable {ta tb tc : TE} {σ : St} {H : Hp} {Q : VK} {x y z : V}
theorem lst3 (ha : Val ta σ H x) (hb : Val tb σ H y) (hc : Val tc σ H z) (q : ∀ p, H p = none → Q (.ref p) (upd H p (.lst [x, y, z]))) : tLst (tCons ta (tCons tb (tCons tc tNil))) σ H Q := ha _ (hb _ (hc _ ⟨by show 3 ≤ sizeLine; decide, q⟩))
theorem tup3 (ha : Val ta σ H x) (hb : Val tb σ H y) (hc : Val tc σ H z) (q : ∀ p, H p = none → Q (.ref p) (upd H p (.tup [x, y, z]))) : tTup (tCons ta (tCons tb (tCons tc tNil))) σ H Q := ha _ (hb _ (hc _ ⟨by show 3 ≤ sizeLine; decide, q⟩))
/-- (x, y, [..]), the list made there -/
theorem tup3L (ha : Val ta σ H x) (hb : Val tb σ H y) (h : tc σ H fun z H1 => ∀ p, H1 p = none → Q (.ref p) (upd H1 p (.tup [x, y, z]))) (mono : ∀ R R' : V → Hp → Prop, (∀ v H, R v H → R' v H) → tc σ H R → tc σ H R') : tTup (tCons ta (tCons tb (tCons tc tNil))) σ H Q := ha _ (hb _ (mono _ _ (fun v H1 q => ⟨by show 3 ≤ sizeLine; decide, q⟩) h))
/-- [(x, y)] -/
theorem lst_pair (ha : Val ta σ H x) (hb : Val tb σ H y) (q : ∀ t u H', H' t = some (.lst [.ref u]) → H' u = some (.tup [x, y]) → H t = none → Same H H' → Q (.ref t) H') : tLst (tCons (tTup (tCons ta (tCons tb tNil))) tNil) σ H Q :=
  ha _ (hb _ ⟨by show 2 ≤ sizeLine; decide, fun u hu => ⟨by show 1 ≤ sizeLine; decide, fun t ht => by
    have s := Same.new (o := .tup [x, y]) hu
    have ht0 : H t = none := by
      cases e : H t with
      | none => rfl
      | some o => exact absurd (s _ _ e) (by rw [ht]; exact fun z => nomatch z)
    exact q t u _ upd_same (Same.new ht _ _ upd_same) ht0 (s.trans (Same.new ht))⟩⟩)
end
end L2
namespace L2
open PySem PySem.Spec PyProof.Rows
section
variable {ta tc : TE} {g : TG} {tb : TS} {D : Ends} {σ : St} {H : Hp} {hi lo : Int} {n : Nat} {t u : TT} {QT : Bool → Hp → Prop}
theorem st_forR2W (ha : Val ta σ H (.int lo)) (hc : Val tc σ H (.int hi)) (hn : hi - lo = (n : Int)) (b1 : -(2 ^ 61) ≤ lo) (b2 : hi ≤ 2 ^ 61) (Pv : Nat → St → Hp → Prop) (h0 : Pv 0 σ H)
    (hs : ∀ i σ H, i < n → Pv i σ H → g (.int (lo + i)) σ H fun σ2 H2 => tb { D with nx := Pv (i + 1), ct := Pv (i + 1), bk := D.nx } σ2 H2) (hd : ∀ σ H, Pv n σ H → D.nx σ H) : tFor (iRng2 (tCons ta (tCons tc tNil))) g tb D σ H := by
  refine ha _ (hc _ ⟨_, _, rfl, ⟨by omega, by omega, by omega, by omega⟩, ?_⟩)
  have e : (hi - lo).toNat = n := by omega
  rw [e]
  exact for_range Pv h0 hs hd
/-- a test that is surely true, whatever it lays -/
abbrev Sure (t : TT) (σ : St) (H : Hp) : Prop := ∀ QT : Bool → Hp → Prop, (∀ H', Same H H' → QT true H') → t σ H QT
theorem or_sure (h : Sure t σ H) (k : ∀ H', Same H H' → u σ H' QT) : tOr (tNot t) u σ H QT := h _ fun H' s => iteF (k H' s)
theorem not_sure (h : Sure t σ H) (k : ∀ H', Same H H' → QT false H') : tNot t σ H QT := h _ fun H' s => k H' s
theorem guard_sure {t1 t3 : TS} (h : Sure t σ H) (k : ∀ H', Same H H' → t3 D σ H') : tSeq (tIfS (tNot t) t1 tNext) t3 D σ H := st_seq (st_ifX (not_sure h fun H' s => iteF (k H' s)))
theorem guard_sure2 {t1 t3 : TS} (h : Sure t σ H) (h2 : ∀ H', Same H H' → Sure u σ H') (k : ∀ H', Same H H' → t3 D σ H') : tSeq (tIfS (tOr (tNot t) (tNot u)) t1 tNext) t3 D σ H := st_seq (st_ifX (or_sure h fun H' s => not_sure (h2 H' s) fun H'' s' => iteF (k H'' (s.trans s'))))
end
end L2

namespace L2
open PySem PySem.Spec PyProof.Rows GenW
section
variable {M : Model} {A : Around} {R : GenEnd} {Y : Protocol} {n : Nat} {s₀ s : Shared} {c : Code} {fs : List Frame} {env : Env} {K : Flow → Sem PySem.Fin} {J : Value → Sem PySem.Fin} {gd : Bool → Bool} {lv : List Value → List Value}
theorem seg_For {target iter : Expr} {body orelse : List Stmt} {pos : Pos} (hs : ∀ x, foldedSetIterable iter env x = pure x)
    (h : wpAny M (A.over c fs) (eval iter env) (fun x s1 => wpAny M (A.over c fs) (pyIter x) (fun it s2 => ∀ p, Seg M A R Y n s₀ (.forLoop target it body orelse env) (M.den (.forLoop target it body orelse env))
      (.ret (fun r => ((match r with | .ok f => (.pure f : Sem Flow) | .error e => .raise e).onRaise (cameBack env)).wrap K J gd lv) none (gd false) (lv []) c p [] :: fs) s2) (fun x s' => Seg M A R Y n s₀ c (J x) fs s') s1) (fun x s' => Seg M A R Y n s₀ c (J x) fs s') s) :
    Seg M A R Y n s₀ c ((exec (.For target iter body orelse pos) env).wrap K J gd lv) fs s := by
  rw [exec_For]
  show Seg M A R Y n s₀ c (.at pos fun _ => ((eval iter env >>= fun e => foldedSetIterable iter env e >>= fun x => standAt iter.pos >>= fun _ => holding [x] (pyIter x) >>= fun it => runOwn (.forLoop target it body orelse env) env).wrap K J gd lv)) fs s
  refine seg_at ?_
  refine seg_bind_wrap (wpAny_mono h (fun x s1 h1 => ?_) fun _ _ h => h)
  rw [hs x]
  show Seg M A R Y n s₀ c (.at iter.pos fun _ => ((holding [x] (pyIter x) >>= fun it => runOwn (.forLoop target it body orelse env) env).wrap K J gd lv)) fs s1
  refine seg_at ?_
  refine seg_bind_wrap (wpAny_holding (wpAny_mono h1 (fun it s2 h2 => ?_) fun _ _ h => h))
  exact seg_call h2
end
section
variable {prog : Program} {w : World} {A : Around} {R : GenEnd} {Y : Protocol} {n : Nat} {s₀ : Shared} {fs : List Frame} {s : Shared} {env : Env}
abbrev notedGo (env : Env) (x : Value) : Sem PySem.Fin := (do noteFrame x env; theTreesLotGoes x : Sem Unit).wrap (fun _ => .raise x) .raise id id
theorem seg_forLoop {target : Expr} {it : Value} {body : List Stmt} {c0 : Code} (hc0 : c0 = .forLoop target it body [] env)
    (h : wpAny (model prog w) (A.over c0 fs) (pyNext it) (fun r s1 => match r with
      | none => Seg (model prog w) A R Y n s₀ (.block [] env) (.pure (.done .next)) fs s1
      | some v => wpAny (model prog w) (A.over c0 fs) (letOwnedTupleGo target it v) (fun _ s2 => wpAny (model prog w) (A.over c0 fs) (assign target env v) (fun _ s3 =>
          Seg (model prog w) A R Y n s₀ c0 ((execs body env).wrap (fun f => match f with
            | .next | .cont => .pure (.again c0)
            | .brk => .pure (.done .next)
            | .ret v => .pure (.done (.ret v))) (notedGo env) id id) fs s3) (fun x s' => Seg (model prog w) A R Y n s₀ c0 (notedGo env x) fs s') s2) (fun x s' => Seg (model prog w) A R Y n s₀ c0 (notedGo env x) fs s') s1)
      (fun x s' => Seg (model prog w) A R Y n s₀ c0 (notedGo env x) fs s') s) :
    Seg (model prog w) A R Y n s₀ c0 ((model prog w).den c0) fs s := by
  subst hc0
  show Seg _ A R Y n s₀ _ ((forTurn target it body [] env).onRaise (fun x => do noteFrame x env; theTreesLotGoes x)) fs s
  rw [Sem.onRaise_eq_wrap]
  show Seg _ A R Y n s₀ _ (.at target.pos fun _ => (((pyNext it).onRaise (fun _ => standAt { target.pos with line := 0 }) >>= fun r => match r with
    | none => again (.block [] env)
    | some v => letOwnedTupleGo target it v >>= fun _ => assign target env v >>= fun _ => execs body env >>= fun f => match f with
      | .next | .cont => again (.forLoop target it body [] env)
      | .brk => pure (.done .next)
      | .ret v => pure (.done (.ret v))).wrap _ _ _ _)) fs s
  refine seg_at ?_
  have hH : ∀ x : Value, ((do noteFrame x env; theTreesLotGoes x : Sem Unit).bind fun _ => (.raise x : Sem PySem.Fin)) = notedGo env x := fun x => Sem.bind_eq_wrap _ _
  have hE : ∀ (x : Value) (s' : Shared), Seg (model prog w) A R Y n s₀ (.forLoop target it body [] env) (notedGo env x) fs s' → Seg (model prog w) A R Y n s₀ (.forLoop target it body [] env) ((do noteFrame x env; theTreesLotGoes x : Sem Unit).bind fun _ => (.raise x : Sem PySem.Fin)) fs s' := fun x s' h => by rw [hH]; exact h
  refine seg_bind_wrap (wpAny_onRaise (wpAny_mono h (fun r s1 h1 => ?_) fun x s' hx => wpAny_standAt (hE x s' hx)))
  cases r with
  | none => exact seg_again rfl h1
  | some v =>
    refine seg_bind_wrap (wpAny_mono h1 (fun _ s2 h2 => ?_) hE)
    refine seg_bind_wrap (wpAny_mono h2 (fun _ s3 h3 => ?_) hE)
    rw [Sem.bind_eq_wrap', Sem.wrap_wrap]
    refine Eq.mpr (congrArg (fun t => Seg (model prog w) A R Y n s₀ (.forLoop target it body [] env) t fs s3) (Sem.wrap_congr (execs body env) id id (fun f => ?_) (fun e => ?_))) h3
    · cases f <;> rfl
    · exact hH e
end
section
variable {X : Cx} {tg iter : Expr} {body : List Stmt} {wi : TI} {g : TG} {tb : TGn} {pos : Pos}
/-- for .. in ..: a loop of a generator's body that may hand out -/
def tGFor (wi : TI) (g : TG) (tb : TGn) : TGn := fun D ys σ H => wi σ H fun J H1 => ∃ W : Nat → Nat → List V → St → Hp → Prop, (∃ m, W 0 m ys σ H1) ∧ ∀ i m ys σ H, W i m ys σ H →
  (J.stop i H ∧ D.nx ys σ H) ∨ (J.go i H ∧ ∃ N : List V → St → Hp → Prop, (∀ ys' σ' H', N ys' σ' H' → ∃ m', m' < m ∧ W (i + 1) m' ys' σ' H') ∧ ∀ x H', J.yld i H x H' → g x σ H' fun σ2 H2 => tb { D with nx := N, ct := N, bk := D.nx } ys σ2 H2)
theorem gs_for (hp : PassesOwn (model X.prog X.w) X.A X.env X.xe) (hc : X.calm = true) (hi : PI X tg iter wi) (hg : PG X tg g) (hb : GSs X body tb) (hs : ∀ x, foldedSetIterable iter X.env x = pure x := by intro _; rfl) : GS X (.For tg iter body [] pos) (tGFor wi g tb) := by
  refine ⟨fun A S ip R n ys s₀ c fs K J gd lv s σ H D gc hn k hI ht => ?_⟩
  obtain ⟨acc, cc, r, I⟩ := hI
  refine seg_For hs ?_
  rw [gc.over]
  refine wpAny_mono (hi.run _ s σ H _ I ht) (fun v s1 h1 => wpAny_mono h1 (fun itv s2 h2 p => ?_) fun x s' hx => k.exc n s₀ x s' hx) fun x s' hx => k.exc n s₀ x s' hx
  obtain ⟨it, fp, tn, Jt, H2, e, I2, T, st2, f2, W, ⟨m0, w0⟩, turn⟩ := h2
  subst e
  have gl := fun (kk : Result → Sem PySem.Fin) => gc_loop (k := kk) (c' := .forLoop tg (.ref it) body [] X.env) (l := lv []) (kp := []) (p := p) gc rfl rfl
  have stat : ∀ {acc : Array Value} {cc : Nat} {H' : Hp}, (∀ b ∈ fp, H' b = none) → ∀ b ∈ fp, FpOk X ((S, lstObj acc cc) :: ip) H' b := fun {acc' cc' H'} hn b hb => by
    obtain ⟨_, f1, f3, f4, f5, f6⟩ := f2 b hb
    refine ⟨hn b hb, f1, f3, f4, f5, fun q hq => ?_⟩
    rcases List.mem_append.mp hq with hq | hq
    · exact f6 q (List.mem_append_left _ hq)
    · rcases List.mem_cons.mp hq with hq | hq
      · rw [hq]
        exact f6 (S, lstObj acc cc) (List.mem_append_right _ List.mem_cons_self)
      · exact f6 q (List.mem_append_right _ (List.mem_cons_of_mem _ hq))
  have nS : ∀ b ∈ fp, b ≠ S := fun b hb z => (f2 b hb).2.2.2.2.2 (S, lstObj acc cc) (List.mem_append_right _ List.mem_cons_self) z.symm
  have loop : ∀ (m n : Nat) (ys : List V) (s₀ s : Shared) (σ : St) (H : Hp) (i : Nat), n + ys.length = sizeLine → W i m ys σ H → tn i s.heap → (∀ b ∈ fp, H b = none) → GI X S ip ys σ H s →
      Seg (model X.prog X.w) A R (GY X S) n s₀ (.forLoop tg (.ref it) body [] X.env) ((model X.prog X.w).den (.forLoop tg (.ref it) body [] X.env))
        (.ret (fun r => ((match r with | .ok f => (.pure f : Sem Flow) | .error e => .raise e).onRaise (cameBack X.env)).wrap K J gd lv) none (gd false) (lv []) c p [] :: fs) s := by
    intro m
    induction m using Nat.strongRecOn with
    | ind m ih =>
      intro n ys s₀ s σ H i hn w st fr hI
      have ee : ∀ (n : Nat) (s₀ : Shared) (x : Value) (s' : Shared), X.xe x s' → Seg (model X.prog X.w) A R (GY X S) n s₀ (.forLoop tg (.ref it) body [] X.env)
          (notedGo X.env x)
          (.ret (fun r => ((match r with | .ok f => (.pure f : Sem Flow) | .error e => .raise e).onRaise (cameBack X.env)).wrap K J gd lv) none (gd false) (lv []) c p [] :: fs) s' := fun n s₀ x s' hx => by
        refine seg_wrap ?_
        rw [(gl _).over]
        refine wpAny_bind (wpAny_mono (hp x s' hx) (fun _ s'' hcb => wpAny_theTreesLotGoes ?_) fun y s'' hcb => ?_)
        · exact seg_leaf (.error x) (seg_cameBack gc k hcb)
        · exact seg_leaf (.error y) (seg_cameBack gc k hcb)
      refine seg_forLoop rfl ?_
      rw [(gl _).over]
      obtain ⟨acc, cc, r, I⟩ := hI
      rcases turn i m ys σ H w with ⟨stop, qn⟩ | ⟨go, N, hN, step⟩
      · refine wpAny_mono (T.done X rfl rfl rfl hc i _ s σ H X.xe I (stat fr) st stop) (fun u s' hu => ?_) fun x s' hx => ee n s₀ x s' hx
        obtain ⟨rfl, I'⟩ := hu
        exact seg_leaf (.ok .next) (k.ok n ys s₀ s' .next hn ⟨σ, H, ⟨acc, cc, r, I'⟩, qn⟩)
      · refine wpAny_mono (T.item X rfl rfl rfl hc i _ s σ H X.xe I (stat fr) st go) (fun u s4 hu => ?_) fun x s' hx => ee n s₀ x s' hx
        obtain ⟨u, rfl, h4⟩ := hu
        refine wpAny_mono h4 (fun _ s5 h5 => ?_) fun x s' hx => ee n s₀ x s' hx
        obtain ⟨x, H5, I5, r5, y5, st5, fr5⟩ := h5
        have I5' := I5.pinned (stat fr5) (T.obj _ _ st5)
        refine wpAny_mono (hg.run _ s5 σ H5 x u _ I5' r5 (step x H5 y5)) (fun _ s6 h6 => ?_) fun x s' hx => ee n s₀ x s' hx
        obtain ⟨σ6, H6, I6, q6⟩ := h6
        have gl' : GC X S (ip ++ pinsAt fp s5.heap) A (.forLoop tg (.ref it) body [] X.env) (.ret (fun r => ((match r with | .ok f => (.pure f : Sem Flow) | .error e => .raise e).onRaise (cameBack X.env)).wrap K J gd lv) none (gd false) (lv []) c p [] :: fs) id :=
          ⟨gc.pn, fun q hq => (List.mem_append.mp hq).elim (gc.ip q) fun z => nS _ (of_pinsAt z).1, gc.apart, (gl _).over, (gl _).split, (gl _).guard, rfl⟩
        have again : ∀ {n' : Nat} {ys' : List V} {s₀' s7 : Shared} {σ7 : St} {H7 : Hp}, n' + ys'.length = sizeLine → GI X S (ip ++ pinsAt fp s5.heap) ys' σ7 H7 s7 → N ys' σ7 H7 →
            Seg (model X.prog X.w) A R (GY X S) n' s₀' (.forLoop tg (.ref it) body [] X.env) (.pure (.again (.forLoop tg (.ref it) body [] X.env)))
              (.ret (fun r => ((match r with | .ok f => (.pure f : Sem Flow) | .error e => .raise e).onRaise (cameBack X.env)).wrap K J gd lv) none (gd false) (lv []) c p [] :: fs) s7 := fun {n' ys' s₀' s7 σ7 H7} hn' hI7 n7 => by
          obtain ⟨m', hm, w7⟩ := hN ys' σ7 H7 n7
          obtain ⟨acc7, cc7, r7, I7⟩ := hI7
          refine seg_again rfl (ih m' hm n' ys' s₀' s7 σ7 H7 (i + 1) hn' w7 (T.keep _ _ _ st5 fun b hb o e => (I7.pin (b, o) (List.mem_append_right _ (List.mem_cons_of_mem _ (List.mem_append_right _ (mem_pinsAt hb e))))).1) (fun b hb => ?_) ⟨acc7, cc7, r7, I7.pins_of fun q hq => ?_⟩)
          · obtain ⟨o, e, d⟩ := T.obj _ _ st5 b hb
            exact (I7.pin (b, o) (List.mem_append_right _ (List.mem_cons_of_mem _ (List.mem_append_right _ (mem_pinsAt hb e))))).2.1
          · rcases List.mem_cons.mp hq with hq | hq
            · exact I7.pin q (List.mem_append_right _ (hq ▸ List.mem_cons_self))
            · exact I7.pin q (List.mem_append_right _ (List.mem_cons_of_mem _ (List.mem_append_left _ hq)))
        have down : ∀ {ys' : List V} {s7 : Shared} {σ7 : St} {H7 : Hp}, GI X S (ip ++ pinsAt fp s5.heap) ys' σ7 H7 s7 → GI X S ip ys' σ7 H7 s7 := fun {ys' s7 σ7 H7} ⟨acc7, cc7, r7, I7⟩ => ⟨acc7, cc7, r7, I7.pins_of fun q hq => by
          rcases List.mem_cons.mp hq with hq | hq
          · exact I7.pin q (List.mem_append_right _ (hq ▸ List.mem_cons_self))
          · exact I7.pin q (List.mem_append_right _ (List.mem_cons_of_mem _ (List.mem_append_left _ hq)))⟩
        refine hb.run A S (ip ++ pinsAt fp s5.heap) R n ys s₀ _ _ _ _ id id s6 σ6 H6 { D with nx := N, ct := N, bk := D.nx } gl' hn ⟨fun n' ys' s₀' s7 f hn' hs => ?_, fun n' s₀' x s7 hx => ee n' s₀' x s7 hx⟩ ⟨acc, cc, r, I6⟩ q6
        cases f with
        | next => obtain ⟨σ7, H7, I7, n7⟩ := hs; exact again hn' I7 n7
        | cont => obtain ⟨σ7, H7, I7, n7⟩ := hs; exact again hn' I7 n7
        | brk => obtain ⟨σ7, H7, I7, q7⟩ := hs; exact seg_leaf (.ok .next) (k.ok n' ys' s₀' s7 .next hn' ⟨σ7, H7, down I7, q7⟩)
        | ret v => obtain ⟨x7, σ7, H7, I7, r7, q7⟩ := hs; exact seg_leaf (.ok (.ret v)) (k.ok n' ys' s₀' s7 (.ret v) hn' ⟨x7, σ7, H7, down I7, r7, q7⟩)
  exact loop m0 n ys s₀ s2 σ H2 0 hn w0 st2 (fun b hb => (f2 b hb).1) ⟨acc, cc, r, I2⟩
end
end L2
namespace L2
open PySem PySem.Spec PyProof.Rows GenW
theorem Fun.okG {P : Program} {w : World} {K : PySem.W.Frag} {mg : Str → Option Value} {base : Heap} {x qual : Str} {st : Stmt} {f : Addr} {fd : FuncData} {N ps : List Str} {k : Nat} {sp : SpG} (F : Fun K x qual st f fd) (S : GScope N ps (defScope st)) (len : ∀ vs H Q E, sp vs H Q E → vs.length = ps.length)
    (hbody : ∀ (cdv : Value) (A : Around) (outer : List Env) (s : Shared) (H : Hp) (vs : List V) (Q : List V → Hp → Prop) (E : XK) (pn : List (Addr × Obj)), Room k (A.deeper (envOfC qual (defScope st) s.heap.objs.size f cdv)) → sp vs H Q E →
      ∃ t, GSs (gcxOf P w K mg base N qual (defScope st) f cdv A outer s H E pn) (defBody st) t ∧ t { nx := fun ys _ H' => Q ys H', rt := fun ys v H' => v = .non ∧ Q ys H' } [] (start N vs) H) : GFn P w K mg base (k + 1) f fd ps sp := by
  obtain ⟨oc, od, kV, doc, pm, an, cdv, ct, osl, rfl, lk, hcd⟩ := F.ex
  exact gfn_of lk hcd S len fun A outer s H vs Q E pn hr hsp => hbody cdv A outer s H vs Q E pn hr hsp
theorem gss_one {X : Cx} {st : Stmt} {t : TGn} (a : GS X st t) : GSs X [st] (tGThen t tG0) := gss_cons a gss_nil
theorem noStop0 {K : PySem.W.Frag} : NoStop K E0 := fun _ _ _ h => False.elim h
/-- only this class leaves -/
def XOnly (c : Addr) (E : XK) : XK := fun cls d H => cls = .ref c ∧ E cls d H
theorem noStop_only {K : PySem.W.Frag} {c : Addr} {E : XK} (h : PySem.W.subIn K (.ref c) (.type "StopIteration") = some false) : NoStop K (XOnly c E) := fun cls d H z => by
  rw [z.1]
  exact h
end L2

namespace L2
open PySem PySem.Spec PyProof.Rows GenW SeqAt
open PySem.W (dataLt minD AlikeAll alike alikeAll dataLt_pair dataLt_int min_list_data)
section
variable {X : Cx}
def rCountB (K : PySem.W.Frag) : V → List V → Hp → VK → Prop := fun x vs H Q => ∃ (l : Addr) (bs : List Bool) (b : Bool), x = .ref l ∧ vs = [.bl b] ∧ SqL K H l (bs.map V.bl) ∧ Q (.int (bs.countP fun y => y == b : Nat)) H
theorem bools_all {K : PySem.W.Frag} {H : Hp} : ∀ bs : List Bool, DpAll K H (bs.map V.bl) (bs.map PyData.bool)
  | [] => .nil
  | b :: r => .cons (.bl b) (bools_all r)
theorem bools_plain : ∀ bs : List Bool, PyData.plainAll (bs.map PyData.bool) = true
  | [] => by simp [PyData.plainAll]
  | b :: r => by simp [PyData.plainAll, PyData.plain, bools_plain r]
theorem bools_depth : ∀ bs : List Bool, PyData.depthAll (bs.map PyData.bool) ≤ 1
  | [] => by simp [PyData.depthAll]
  | b :: r => by
    have := bools_depth r
    simp only [List.map_cons, PyData.depthAll, PyData.depth]
    omega
theorem mt_countB (hu : X.A.units + 64 < cLine) : MtR X "list.count" (rCountB X.K) := by
  intro pins s σ H x vs v us Q I rx rv h
  obtain ⟨l, bs, b, rfl, rfl, hS, q⟩ := h
  cases rx
  obtain ⟨u, rfl, ru⟩ := rv.one
  cases ru
  obtain ⟨its, rv2, hl, _⟩ := I.list hS
  obtain ⟨as, hr⟩ := Dp.readsAll I _ _ _ (bools_all bs) rv2
  refine count_list_data hl.isList (by simpa using hr) (Reads.bool b) (bools_plain bs) (by simp [PyData.plain]) (by have := bools_depth bs; omega) ⟨.int _, H, I.tok _, ⟨_, rfl⟩, ?_⟩
  have e : ((bs.map PyData.bool).countP fun y => PyData.eqv y (.bool b)) = bs.countP fun y => y == b := by
    rw [List.countP_map]
    refine List.countP_congr fun y _ => ?_
    simp [PyData.eqv]
  rw [e]
  exact q
def pd (p : Int × Int) : PyData := .tuple [.int p.1, .int p.2]
def leP (p q : Int × Int) : Prop := p.1 < q.1 ∨ (p.1 = q.1 ∧ p.2 ≤ q.2)
theorem pd_lt (p q : Int × Int) : dataLt (pd p) (pd q) = decide (p.1 < q.1 ∨ (p.1 = q.1 ∧ p.2 < q.2)) := by
  unfold pd
  rw [dataLt_pair (by simp [alike]) (by simp [alike])]
  simp only [PyData.eqv, dataLt_int]
  by_cases c : p.1 = q.1
  · rw [if_pos (by simpa using c)]
    by_cases d : p.2 = q.2
    · rw [if_pos (by simpa using d)]
      symm
      apply decide_eq_false
      omega
    · rw [if_neg (by simpa using d)]
      by_cases e : p.2 < q.2
      · rw [decide_eq_true e, decide_eq_true (by omega)]
      · rw [decide_eq_false e, decide_eq_false (by omega)]
  · rw [if_neg (by simpa using c)]
    by_cases e : p.1 < q.1
    · rw [decide_eq_true e, decide_eq_true (by omega)]
    · rw [decide_eq_false e, decide_eq_false (by omega)]
theorem pd_min : ∀ (L : List (Int × Int)) (p : Int × Int), ∃ m, m ∈ p :: L ∧ minD (pd p) (L.map pd) = pd m ∧ ∀ q ∈ p :: L, leP m q
  | [], p => ⟨p, by simp, rfl, fun q hq => by rw [List.mem_singleton.mp hq]; exact Or.inr ⟨rfl, Int.le_refl _⟩⟩
  | a :: L, p => by
    have e : minD (pd p) ((a :: L).map pd) = minD (if dataLt (pd a) (pd p) then pd a else pd p) (L.map pd) := rfl
    rw [e, pd_lt]
    by_cases c : a.1 < p.1 ∨ (a.1 = p.1 ∧ a.2 < p.2)
    · rw [decide_eq_true c, if_pos rfl]
      obtain ⟨m, h1, h2, h3⟩ := pd_min L a
      refine ⟨m, List.mem_cons_of_mem _ h1, h2, fun q hq => ?_⟩
      rcases List.mem_cons.mp hq with rfl | hq
      · have := h3 a List.mem_cons_self
        unfold leP at this ⊢
        omega
      · exact h3 q hq
    · rw [decide_eq_false c, if_neg Bool.false_ne_true]
      obtain ⟨m, h1, h2, h3⟩ := pd_min L p
      refine ⟨m, ?_, h2, fun q hq => ?_⟩
      · rcases List.mem_cons.mp h1 with rfl | h1
        · exact List.mem_cons_self
        · exact List.mem_cons_of_mem _ (List.mem_cons_of_mem _ h1)
      · rcases List.mem_cons.mp hq with rfl | hq
        · exact h3 q List.mem_cons_self
        · rcases List.mem_cons.mp hq with rfl | hq
          · have := h3 p List.mem_cons_self
            unfold leP at this ⊢
            omega
          · exact h3 q (List.mem_cons_of_mem _ hq)
theorem pds_depth : ∀ L : List (Int × Int), PyData.depthAll (L.map pd) ≤ 3
  | [] => by simp [PyData.depthAll]
  | b :: r => by
    have := pds_depth r
    have e : PyData.depth (pd b) ≤ 3 := by simp [pd, PyData.depth, PyData.depthAll]
    rw [List.map_cons, PyData.depthAll]
    omega
theorem pds_alike (L : List (Int × Int)) : AlikeAll (L.map pd) := by
  refine ⟨fun x hx y hy => ?_, fun x hx => ?_⟩
  · obtain ⟨p, _, rfl⟩ := List.mem_map.mp hx
    obtain ⟨q, _, rfl⟩ := List.mem_map.mp hy
    simp [pd, alike, alikeAll]
  · obtain ⟨p, _, rfl⟩ := List.mem_map.mp hx
    intro z
    cases z
theorem Vals.at : ∀ {xs : List V} {us : List Value} {i : Nat} {u : Value}, Vals xs us → us[i]? = some u → ∃ x, xs[i]? = some x ∧ RelV x u
  | _, _, _, _, .nil, e => by simp at e
  | _, _, 0, _, .cons r _, e => by simp at e; subst e; exact ⟨_, rfl, r⟩
  | _, _, i + 1, u, .cons _ t, e => by
    obtain ⟨x, h1, h2⟩ := Vals.at (i := i) (u := u) t (by simpa using e)
    exact ⟨x, by simpa using h1, h2⟩
def rMinP (K : PySem.W.Frag) : List V → Hp → VK → Prop := fun vs H Q => ∃ (a : Addr) (xs : List V) (L : List (Int × Int)), vs = [.ref a] ∧ SqL K H a xs ∧ DpAll K H xs (L.map pd) ∧ 0 < L.length ∧ ∀ (i : Nat) (v : V) (p : Int × Int), xs[i]? = some v → L[i]? = some p → (∀ q ∈ L, leP p q) → Q v H
theorem cr_minP (hc : X.calm = true) (hu : X.A.units + 64 < cLine) : CallR X (.builtin "min") (rMinP X.K) := by
  intro pins s σ H vs us Q I r h
  obtain ⟨a, xs, L, rfl, hs, hd, hne, q⟩ := h
  obtain ⟨its, rv, hl, _⟩ := I.list hs
  rw [Vals.ref1 r]
  obtain ⟨as, hr⟩ := Dp.readsAll I _ _ _ hd rv
  cases L with
  | nil => cases hne
  | cons p0 L =>
    have al := pds_alike (p0 :: L)
    have dp := pds_depth (p0 :: L)
    rw [List.map_cons] at hr al dp
    refine min_list_data (I.ok.hd hc) hl.isList (by simpa using hr) al (by omega) fun i v h' tk bs hv hR hk => ?_
    have hv' : its[i]? = some v := by simpa using hv
    obtain ⟨x, hx, rx⟩ := rv.at hv'
    obtain ⟨bs', r1, hi, _⟩ := PySem.W.readsAll_at hr i v hv'
    obtain ⟨m, m1, m2, m3⟩ := pd_min L p0
    rw [m2] at hR
    have e := (PySem.Reads.unique hR _ _ (PySem.W.reads_keeps hk r1)).1
    obtain ⟨p, hp⟩ : ∃ p, (p0 :: L)[i]? = some p := ⟨_, List.getElem?_eq_getElem (by simpa using hi)⟩
    have ep : m = p := by
      rw [List.getD_eq_getElem?_getD, ← List.map_cons, List.getElem?_map, hp] at e
      have e : pd m = pd p := e
      unfold pd at e
      injection e with e
      injection e with e1 e2
      injection e2 with e2
      injection e1 with e1
      injection e2 with e2
      exact Prod.ext e1 e2
    exact ⟨x, H, I.kept hk, rx, q i x p hx hp (ep ▸ m3)⟩
end
end L2

/-! ranges of whole numbers of any size, walked -/
namespace L2
open PySem PySem.Spec PyProof.Rows
theorem turn_long {P : Program} {w : World} {K : PySem.W.Frag} {tg : Expr} (it : Addr) (lo : Int) (n : Nat) : Turn P w K tg (Itr lo n) [it] it (fun i h => IsLongIter h it (lo + (i : Nat) * 1) ((n : Int) - (i : Nat)) 1) where
  mem := by simp
  obj := fun i h st b hb => by
    have e : b = it := by simpa using hb
    subst e
    exact ⟨_, st, fun v z => by
      have z' : Data.fields _ = Data.cell v := z
      cases z'⟩
  keep := fun i h h' st k => k it (by simp) _ st
  item := by
    intro X hP hw hK hc i pins s σ H E I hf st hg
    subst hP hw hK
    obtain ⟨f0, f1, f2, f3, f4, f5⟩ := hf it (by simp)
    have W := Walks.longrange (prog := X.prog) (w := X.w) (I.ok.hd hc) it lo 1 n
    refine W.item i s _ _ hg st fun v h' tk hv st' kk => ?_
    obtain ⟨t, rfl⟩ := hv
    have I1 : Inv X pins σ H { s with heap := h', toks := tk } := I.turned (fun b o hb e => kk b o (by simpa using hb) e) f0 f1 f3 f4 f5
    refine ⟨_, rfl, go_of (s := { s with heap := h', toks := tk }) (n := "longrange_iterator") st' rfl rfl (by decide) ⟨.int (lo + i), H, I1, ⟨t, ?_⟩, ⟨rfl, rfl⟩, st', fun b hb => (hf b hb).1⟩⟩
    rw [Int.mul_one]
  done := by
    intro X hP hw hK hc i pins s σ H E I hf st hg
    subst hP hw hK
    obtain ⟨f0, f1, f2, f3, f4, f5⟩ := hf it (by simp)
    exact wpAny_pyNext_long_end (I.ok.hd hc) st (by have : n ≤ i := hg; omega) fun h' eb => ⟨rfl, I.turned (t' := s.toks) (fun b o hb e => eb b o hb e) f0 f1 f3 f4 f5⟩
  self := fun _ _ _ _ _ st h => wpAny_pyIter_longiter st h
section
variable {X : Cx} {tg : Expr}
theorem range_itW {pins : List (Addr × Obj)} {σ : St} {H : Hp} {s : Shared} {R : It → Hp → Prop} {E : Value → Shared → Prop} {lo hi : Int} {t u v : Tok} {tk : Nat} (I : Inv X pins σ H s)
    (q : R (Itr lo (hi - lo).toNat) H) : wpAny (model X.prog X.w) X.A (pyIter (.ref s.heap.objs.size)) (PIE X pins σ tg R) E { s with heap := s.heap.push { cls := .type "range", data := .fields #[.int lo t, .int hi u, .int 1 v] }, toks := tk } := by
  have I1 : Inv X pins σ H { s with heap := s.heap.push { cls := .type "range", data := .fields #[.int lo t, .int hi u, .int 1 v] }, toks := tk } := I.kept fun b o e => Heap.get?_push_of_some _ e
  have e1 : lo + ((0 : Nat) : Int) * 1 = lo := by simp
  have e2 : (((hi - lo).toNat : Nat) : Int) - ((0 : Nat) : Int) = Builtin.Range.rangeSize lo hi 1 := by rw [rangeSize_one]; split <;> omega
  have fp : ∀ b ∈ [(s.heap.push { cls := .type "range", data := .fields #[.int lo t, .int hi u, .int 1 v] }).objs.size], FpOk X pins H b := fun b hb => by
    have e : b = (s.heap.push { cls := .type "range", data := .fields #[.int lo t, .int hi u, .int 1 v] }).objs.size := by simpa using hb
    subst e
    exact I1.fpOk (Nat.le_refl _) (I1.hok.fresh (Nat.le_refl _))
  cases hs : Builtin.Range.small lo hi 1 with
  | true =>
    refine wpAny_pyIter_range (IsRange.new ..) hs ?_
    refine ⟨_, [(s.heap.push { cls := .type "range", data := .fields #[.int lo t, .int hi u, .int 1 v] }).objs.size], _, _, H, rfl,
      I1.kept (t' := tk) fun b o e => Heap.get?_push_of_some _ e, turn_range _ lo (hi - lo).toNat, ?_, fp, q⟩
    show IsRangeIter _ _ (lo + ((0 : Nat) : Int) * 1) ((((hi - lo).toNat : Nat) : Int) - ((0 : Nat) : Int)) 1
    rw [e1, e2]
    exact Heap.get?_push_size _ rfl
  | false =>
    refine wpAny_pyIter_longrange (IsRange.new ..) hs ?_
    refine ⟨_, [(s.heap.push { cls := .type "range", data := .fields #[.int lo t, .int hi u, .int 1 v] }).objs.size], _, _, H, rfl,
      I1.kept (t' := tk) fun b o e => Heap.get?_push_of_some _ e, turn_long _ lo (hi - lo).toNat, ?_, fp, q⟩
    show IsLongIter _ _ (lo + ((0 : Nat) : Int) * 1) ((((hi - lo).toNat : Nat) : Int) - ((0 : Nat) : Int)) 1
    rw [e1, e2]
    exact Heap.get?_push_size _ rfl
def iRng2W (ta : TA) : TI := fun σ H R => ta σ H fun vs H1 => ∃ i j : Int, vs = [.int i, .int j] ∧ R (Itr i (j - i).toNat) H1
theorem pi_range2W {a b : Expr} {ta : TA} {p pos : Pos} (hg : Gl X "range") (hm : X.mg "range" = none) (ha : PA X [a, b] ta) (hs : starEach [a, b] X.env = [(false, eval a X.env), (false, eval b X.env)] := by rfl) (hs2 : starEach [b] X.env = [(false, eval b X.env)] := by rfl) :
    PI X tg (.Call (.Name "range" p) [a, b] [] pos) (iRng2W ta) := by
  refine ⟨fun pins s σ H R I h => ?_⟩
  refine Call_ (ld_blt I hg hm boot_range (PyProof.Rows.callWith_type1 (thn (ha.run pos pins s σ H _ I h) fun us s1 ⟨vs, H1, I1, r1, q1⟩ => ?_) (by rw [hs, hs2]) (by rw [hs2]; rfl)))
  obtain ⟨i, j, e, q⟩ := q1
  subst e
  cases r1 with
  | cons r rr =>
    cases rr with
    | cons r' rr =>
      cases rr
      obtain ⟨t, rfl⟩ := r
      obtain ⟨t', rfl⟩ := r'
      exact call_range_2 (range_itW I1 q)
end
end L2

/-! a lean head: one kernel run of the top, and the facts that Tx wants by one Bool over what the names reach -/
namespace Hm
open PySem PySem.Spec PyProof.Rows L2 He
/-- one level: the addresses not seen yet -/
def stepL {β : Type} : List Addr → Nat → List Addr → (Nat → List Addr → β) → β
  | [], seen, acc, k => k seen acc
  | a :: r, seen, acc, k => match Nat.testBit seen a with
    | true => stepL r seen acc k
    | false => HandSHeadRun.frNat a fun a => HandSHeadRun.frNat (Nat.lor seen (Nat.shiftLeft 1 a)) fun s => stepL r s (a :: acc) k
def lvl (g : Addr → Option Obj) : Nat → List Addr → Nat → List Addr → List Addr
  | 0, _, _, all => all
  | n + 1, fr, seen, all => stepL (fr.flatMap fun a => match g a with
    | some o => refsD o
    | none => []) seen [] fun seen nf => lvl g n nf seen (all ++ nf)
/-- what the module's names reach in n steps -/
def asM (g : Addr → Option Obj) (n : Nat) : List Addr := lvl g n [mainGlobals] (Nat.shiftLeft 1 mainGlobals) [mainGlobals] ++ [cStatics]
abbrev AlM : Type := Bool × List He.FnW
def obsM (ex : List (PySem.W.Frag → Bool)) (fn : List He5.DefA) (K : PySem.W.Frag) : AlM := ((ex.all fun f => f K) && fn.all fun d => d.ok K, fn.map fun d => He5.fnA K (d.at_ K))
def valM (fn : List He5.DefA) : AlM := (true, fn.map He5.DefA.val)
def SaysM (ex : List (PySem.W.Frag → Bool)) (fn : List He5.DefA) (K : PySem.W.Frag) : Prop := obsM ex fn K = valM fn
def obsMG (n : Nat) (ex : List (PySem.W.Frag → Bool)) (fn : List He5.DefA) (g : Addr → Option Obj) : AlM := obsM ex fn (frG g (asM g n))
def hookM (n : Nat) (ex : List (PySem.W.Frag → Bool)) (fn : List He5.DefA) : PySem.W.Hook where
  α := AlM
  obs := fun s => obsMG n ex fn s.heap.get?
  val := fun _ => valM fn
  says := fun _ h => ∃ K : PySem.W.Frag, K.In h ∧ SaysM ex fn K
  of := fun _ _ e => ⟨_, frG_in, e⟩
  keeps := fun _ _ _ ⟨K, hK, c⟩ k => ⟨K, PySem.W.Frag.In.keeps hK k, c⟩
def obM (n : Nat) (ex : List (PySem.W.Frag → Bool)) (fn : List He5.DefA) (s : PySem.W.SharedT) : AlM := obsMG n ex fn (HandSHeadRun.getT s)
theorem obM_eq {n : Nat} {ex : List (PySem.W.Frag → Bool)} {fn : List He5.DefA} (s : PySem.W.SharedT) : obM n ex fn s = (hookM n ex fn).obs s.abs := by
  have e : HandSHeadRun.getT s = s.abs.heap.get? := funext (HandSHeadRun.getT_eq s)
  unfold obM
  rw [e] <;> rfl
section
variable {ex : List (PySem.W.Frag → Bool)} {fn : List He5.DefA} {K : PySem.W.Frag}
theorem SaysM.fact (c : SaysM ex fn K) (i : Nat) {f : PySem.W.Frag → Bool} (h : ex[i]? = some f) : f K = true := by
  have c1 := (ba (show ((ex.all fun f => f K) && fn.all fun d => d.ok K) = true from congrArg (fun z : AlM => z.1) c)).1
  exact List.all_eq_true.mp c1 f (List.mem_of_getElem? h)
theorem SaysM.def_ (c : SaysM ex fn K) (i : Nat) {d : He5.DefA} (h : fn[i]? = some d) : ∃ fd, L2.FunD K d.name d.qual d.params d.body d.scope (d.dvs K) (d.kws K) (d.at_ K) fd := by
  have c2 := (ba (show ((ex.all fun f => f K) && fn.all fun d => d.ok K) = true from congrArg (fun z : AlM => z.1) c)).2
  have e : fn.map (fun d => He5.fnA K (d.at_ K)) = fn.map He5.DefA.val := congrArg (fun z : AlM => z.2) c
  have e2 : (fn.map fun d => He5.fnA K (d.at_ K))[i]? = (fn.map He5.DefA.val)[i]? := by rw [e]
  rw [List.getElem?_map, List.getElem?_map, h] at e2
  exact He5.DefA.funD (Option.some.inj e2) (List.all_eq_true.mp c2 d (List.mem_of_getElem? h))
end
/-! an own exception class -/
def oexB (K : PySem.W.Frag) (C : Addr) : Bool := match K.lookup C with
  | some ⟨.type "type", _, .cls cd, sl⟩ => (match cd.mro, sl.toList with
    | .ref C' :: bm, [_, _, _, _, some (.builtin n), _] => C' == C && n == "ValueError.__new__" && !cd.hasDel && cd.hasDict && PySem.HandSPX.refsVE bm
    | _, _ => false)
  | _ => false
theorem oexB_ok {K : PySem.W.Frag} {C : Addr} (q : oexB K C = true) : ∃ nm qn N bs bm sn sub ab col dd k0 k1 k2 k3 k5, K.lookup C = some (PySem.excClassObj nm qn C N bs bm true sn sub ab col dd k0 k1 k2 k3 k5 "ValueError.__new__") ∧ PySem.HandSPX.refsVE bm = true := by
  unfold oexB at q
  split at q
  · rename_i dd cd sl ho
    split at q
    · rename_i C' bm k0 k1 k2 k3 n k5 hm hs
      simp only [Bool.and_eq_true, beq_iff_eq, Bool.not_eq_true'] at q
      obtain ⟨⟨⟨⟨rfl, rfl⟩, hdel⟩, hd⟩, ht⟩ := q
      obtain ⟨nm, bs, mro, ns, qn, hd', sn, sub, ab, col, del⟩ := cd
      dsimp only at hm hdel hd
      subst hm hdel hd
      have hsl : sl = #[k0, k1, k2, k3, some (.builtin "ValueError.__new__"), k5] := by
        obtain ⟨l⟩ := sl
        simp only at hs
        rw [hs]
      subst hsl
      exact ⟨nm, qn, ns, bs, bm, sn, sub, ab, col, dd, k0, k1, k2, k3, k5, ho, ht⟩
    · cases q
  · cases q
/-- the record at p of the type T: its first place -/
def rc1 (K : PySem.W.Frag) (p : Addr) (T : String) : Addr := match PySem.W.recIn K p T with
  | some (.ref f :: _) => f
  | _ => 0
def rcB (K : PySem.W.Frag) (p : Addr) (T : String) : Bool := match PySem.W.recIn K p T with
  | some (.ref _ :: _) => true
  | _ => false
theorem rcB_ok {K : PySem.W.Frag} {p : Addr} {T : String} (h : rcB K p T = true) : ∃ rest, PySem.W.recIn K p T = some (.ref (rc1 K p T) :: rest) := by
  unfold rcB at h
  unfold rc1
  split at h
  · rename_i f r e
    exact ⟨r, by rw [e]⟩
  · cases h
/-- a module's name: an int -/
def gInt (K : PySem.W.Frag) (x : Str) (i : Int) : Bool := (Fa.int x i).ok K
theorem gInt_ok {K : PySem.W.Frag} {h : Heap} {mg : Str → Option Value} (X : K.In h) (G : h.Ns mainGlobals mg) {x : Str} {i : Int} (c : gInt K x i = true) : ∃ t, mg x = some (.int i t) := int_ok X G c
/-- the tuple at a is empty -/
def tup0B (K : PySem.W.Frag) (a : Addr) : Bool := match K.lookup a with
  | some ⟨.type c, _, .seq its _, _⟩ => decide (c = "tuple") && its.isEmpty
  | _ => false
theorem tup0B_ok {K : PySem.W.Frag} {a : Addr} (h : tup0B K a = true) (H : Hp) : SqT K H a [] := by
  unfold tup0B at h
  cases q : K.lookup a with
  | none =>
    rw [q] at h
    cases h
  | some o =>
    obtain ⟨oc, od, dt, osl⟩ := o
    rw [q] at h
    cases oc with
    | type c =>
      cases dt with
      | seq its n =>
        obtain ⟨h1, h2⟩ := ba (show (decide (c = "tuple") && its.isEmpty) = true from h)
        have e : its = #[] := Array.isEmpty_iff.mp h2
        subst e
        exact .inr ⟨_, _, n, q, congrArg Value.type (of_decide_eq_true h1), rfl, by decide, .nil⟩
      | _ => cases h
    | _ => cases dt <;> cases h
/-- the keyword-only default x of the def at f, if it is an object -/
def kwAt (f : PySem.W.Frag → Addr) (x : Str) (K : PySem.W.Frag) : Addr := match K.lookup (f K) with
  | some ⟨_, _, .func fd, _⟩ => (match fd.kwdefaults with
    | .ref D => (match PySem.W.nsIn K D x with
      | some (some (.ref b)) => b
      | _ => 0)
    | _ => 0)
  | _ => 0
/-- the i-th default of the def at f, if it is an object -/
def dfAt (f : PySem.W.Frag → Addr) (i : Nat) (K : PySem.W.Frag) : Addr := match K.lookup (f K) with
  | some ⟨_, _, .func fd, _⟩ => (match fd.defaults with
    | .ref T => (match K.lookup T with
      | some ⟨_, _, .seq its _, _⟩ => (match its.toList[i]? with
        | some (.ref a) => a
        | _ => 0)
      | _ => 0)
    | _ => 0)
  | _ => 0
end Hm
namespace Hm
open PySem PySem.Spec PyProof.Rows L2 He
theorem fc_ok {K : PySem.W.Frag} {C P : Addr} {m : Str} (h : (match PySem.W.findCls K (.ref C) (.type "type") m with
    | some (.get (.builtin g) (.ref p) .none (.ref D)) => decide (g = "staticmethod.__get__") && (decide (p = P) && decide (D = C))
    | _ => false) = true) : PySem.W.findCls K (.ref C) (.type "type") m = some (.get (.builtin "staticmethod.__get__") (.ref P) .none (.ref C)) := by
  split at h
  · rename_i g p D e
    obtain ⟨k1, k⟩ := ba h
    obtain ⟨k2, k3⟩ := ba k
    rw [e, of_decide_eq_true k1, of_decide_eq_true k2, of_decide_eq_true k3]
  · cases h
end Hm

namespace My
/-! ### plain law: rows of stretches -/
abbrev Iv := Int × Int
def inL (L : List Iv) (t : Int) : Bool := L.any fun a => decide (a.1 ≤ t ∧ t < a.2)
def Tidy (L : List Iv) : Prop := (∀ a ∈ L, a.1 < a.2) ∧ L.Pairwise fun a b => a.2 < b.1
theorem inL_iff {L : List Iv} {t : Int} : inL L t = true ↔ ∃ a ∈ L, a.1 ≤ t ∧ t < a.2 := by
  unfold inL
  rw [List.any_eq_true]
  constructor
  · rintro ⟨a, h, e⟩
    exact ⟨a, h, of_decide_eq_true e⟩
  · rintro ⟨a, h, e⟩
    exact ⟨a, h, decide_eq_true e⟩
theorem Tidy.nil : Tidy [] := ⟨(fun a h => nomatch h), .nil⟩
theorem Tidy.cons {a : Iv} {r : List Iv} : Tidy (a :: r) ↔ a.1 < a.2 ∧ (∀ b ∈ r, a.2 < b.1) ∧ Tidy r := by
  unfold Tidy
  rw [List.pairwise_cons]
  constructor
  · rintro ⟨h1, h2, h3⟩
    exact ⟨h1 a (by simp), h2, fun b hb => h1 b (by simp [hb]), h3⟩
  · rintro ⟨h1, h2, h3, h4⟩
    refine ⟨fun b hb => ?_, h2, h4⟩
    rcases List.mem_cons.mp hb with rfl | hb
    · exact h1
    · exact h3 b hb
theorem inL_cons {a : Iv} {r : List Iv} {t : Int} : inL (a :: r) t = true ↔ (a.1 ≤ t ∧ t < a.2) ∨ inL r t = true := by
  rw [inL_iff, inL_iff]
  constructor
  · rintro ⟨b, hb, h⟩
    rcases List.mem_cons.mp hb with rfl | hb
    · exact Or.inl h
    · exact Or.inr ⟨b, hb, h⟩
  · rintro (h | ⟨b, hb, h⟩)
    · exact ⟨a, by simp, h⟩
    · exact ⟨b, by simp [hb], h⟩
theorem bool_ext {a b : Bool} (h : a = true ↔ b = true) : a = b := by
  cases a <;> cases b <;> simp_all
theorem inL_gt {a : Iv} {r : List Iv} {t : Int} (h : ∀ b ∈ r, a.2 < b.1) (hr : inL r t = true) : a.2 < t := by
  obtain ⟨b, hb, h1, h2⟩ := inL_iff.mp hr
  have := h b hb
  omega
theorem tidy_unique : ∀ {L M : List Iv}, Tidy L → Tidy M → (∀ t, inL L t = true ↔ inL M t = true) → L = M
  | [], [], _, _, _ => rfl
  | [], b :: s, _, hM, h => by
    obtain ⟨h1, _⟩ := Tidy.cons.mp hM
    have := (h b.1).mpr (inL_cons.mpr (Or.inl ⟨Int.le_refl _, h1⟩))
    cases this
  | a :: r, [], hL, _, h => by
    obtain ⟨h1, _⟩ := Tidy.cons.mp hL
    have := (h a.1).mp (inL_cons.mpr (Or.inl ⟨Int.le_refl _, h1⟩))
    cases this
  | a :: r, b :: s, hL, hM, h => by
    obtain ⟨a1, a2, a3⟩ := Tidy.cons.mp hL
    obtain ⟨b1, b2, b3⟩ := Tidy.cons.mp hM
    have e1 : a.1 = b.1 := by
      have x := (h a.1).mp (inL_cons.mpr (Or.inl ⟨Int.le_refl _, a1⟩))
      have y := (h b.1).mpr (inL_cons.mpr (Or.inl ⟨Int.le_refl _, b1⟩))
      rcases inL_cons.mp x with x | x
      · rcases inL_cons.mp y with y | y
        · omega
        · have := inL_gt a2 y
          omega
      · have := inL_gt b2 x
        rcases inL_cons.mp y with y | y
        · omega
        · have := inL_gt a2 y
          omega
    have e2 : a.2 = b.2 := by
      have na : ¬ inL (a :: r) a.2 = true := fun z => by
        rcases inL_cons.mp z with z | z
        · omega
        · have := inL_gt a2 z
          omega
      have nb : ¬ inL (b :: s) b.2 = true := fun z => by
        rcases inL_cons.mp z with z | z
        · omega
        · have := inL_gt b2 z
          omega
      rcases Int.lt_trichotomy a.2 b.2 with c | c | c
      · exact absurd ((h a.2).mpr (inL_cons.mpr (Or.inl ⟨by omega, c⟩))) na
      · exact c
      · exact absurd ((h b.2).mp (inL_cons.mpr (Or.inl ⟨by omega, c⟩))) nb
    have e : a = b := Prod.ext e1 e2
    subst e
    rw [tidy_unique a3 b3 fun t => ?_]
    constructor
    · intro z
      have g := inL_gt a2 z
      rcases inL_cons.mp ((h t).mp (inL_cons.mpr (Or.inr z))) with y | y
      · omega
      · exact y
    · intro z
      have g := inL_gt b2 z
      rcases inL_cons.mp ((h t).mpr (inL_cons.mpr (Or.inr z))) with y | y
      · omega
      · exact y
/-! edges -/
def edges (L : List Iv) : List Int := L.flatMap fun a => [a.1, a.2]
theorem edges_cons {a : Iv} {r : List Iv} : edges (a :: r) = a.1 :: a.2 :: edges r := rfl
theorem mem_edges {L : List Iv} {e : Int} : e ∈ edges L ↔ ∃ a ∈ L, e = a.1 ∨ e = a.2 := by
  unfold edges
  simp [List.mem_flatMap]
theorem edges_up : ∀ {L : List Iv}, Tidy L → (edges L).Pairwise (· < ·)
  | [], _ => .nil
  | a :: r, h => by
    obtain ⟨h1, h2, h3⟩ := Tidy.cons.mp h
    rw [edges_cons]
    have hr : ∀ e ∈ edges r, a.2 < e := fun e he => by
      obtain ⟨b, hb, z⟩ := mem_edges.mp he
      have := h2 b hb
      have := h3.1 b hb
      rcases z with rfl | rfl <;> omega
    refine List.pairwise_cons.mpr ⟨fun e he => ?_, List.pairwise_cons.mpr ⟨fun e he => hr e he, edges_up h3⟩⟩
    rcases List.mem_cons.mp he with rfl | he
    · exact h1
    · have := hr e he
      omega
/-- how many edges lie behind t -/
def over (es : List Int) (t : Int) : Nat := es.countP fun e => decide (t < e)
theorem over_cons {e : Int} {es : List Int} {t : Int} : over (e :: es) t = over es t + if t < e then 1 else 0 := by
  unfold over
  rw [List.countP_cons]
  by_cases h : t < e
  · simp [h]
  · simp [h]
theorem over_append {es fs : List Int} {t : Int} : over (es ++ fs) t = over es t + over fs t := by
  unfold over
  rw [List.countP_append]
theorem over_edges : ∀ {L : List Iv} {t : Int}, Tidy L → (inL L t = true ↔ over (edges L) t % 2 = 1)
  | [], t, _ => by simp [inL, edges, over]
  | a :: r, t, h => by
    obtain ⟨h1, h2, h3⟩ := Tidy.cons.mp h
    have ih := over_edges (t := t) h3
    rw [inL_cons, edges_cons, over_cons, over_cons]
    have all : t < a.2 → over (edges r) t % 2 = 0 := fun z => by
      have : ¬ inL r t = true := fun y => by
        have := inL_gt h2 y
        omega
      have : ¬ over (edges r) t % 2 = 1 := fun y => this (ih.mpr y)
      omega
    by_cases c1 : t < a.1
    · rw [if_pos c1, if_pos (by omega)]
      have := all (by omega)
      constructor
      · rintro (y | y)
        · omega
        · have := ih.mp y; omega
      · intro y
        omega
    · by_cases c2 : t < a.2
      · rw [if_neg c1, if_pos c2]
        have := all c2
        constructor
        · intro _
          omega
        · intro _
          exact Or.inl ⟨by omega, c2⟩
      · rw [if_neg c1, if_neg c2]
        constructor
        · rintro (y | y)
          · omega
          · have := ih.mp y; omega
        · intro y
          exact Or.inr (ih.mpr (by omega))
end My

namespace My
/-! ### the least head: equal last edges go -/
def trim : List Int → List Int → List Int × List Int
  | x :: a, y :: b => if x = y then trim a b else (x :: a, y :: b)
  | a, b => (a, b)
def topE (a b : List Int) : Int := max 0 (max (a.headD 0) (b.headD 0))
theorem over_zero {es : List Int} {t : Int} (h : ∀ e ∈ es, e ≤ t) : over es t = 0 := by
  unfold over
  rw [List.countP_eq_zero]
  intro e he
  have := h e he
  simp
  omega
theorem trim_spec : ∀ (ra rb : List Int), ra.Pairwise (· > ·) → rb.Pairwise (· > ·) →
    (∀ t, topE (trim ra rb).1 (trim ra rb).2 ≤ t → over ra t = over rb t) ∧ (0 < topE (trim ra rb).1 (trim ra rb).2 → over ra (topE (trim ra rb).1 (trim ra rb).2 - 1) % 2 ≠ over rb (topE (trim ra rb).1 (trim ra rb).2 - 1) % 2)
  | [], [], _, _ => by simp [trim, topE, over]
  | [], y :: b, _, hb => by
    have hy := List.pairwise_cons.mp hb
    simp only [trim, topE, List.headD_nil, List.headD_cons]
    refine ⟨fun t ht => ?_, fun h => ?_⟩
    · rw [over_zero (es := y :: b) fun e he => ?_]
      · rfl
      · rcases List.mem_cons.mp he with rfl | he
        · omega
        · have := hy.1 e he; omega
    · have e : max 0 (max 0 y) = y := by omega
      rw [e, over_cons, if_pos (by omega), over_zero (es := b) fun e he => by have := hy.1 e he; omega]
      simp [over]
  | x :: a, [], ha, _ => by
    have hx := List.pairwise_cons.mp ha
    simp only [trim, topE, List.headD_nil, List.headD_cons]
    refine ⟨fun t ht => ?_, fun h => ?_⟩
    · rw [over_zero (es := x :: a) fun e he => ?_]
      · rfl
      · rcases List.mem_cons.mp he with rfl | he
        · omega
        · have := hx.1 e he; omega
    · have e : max 0 (max x 0) = x := by omega
      rw [e, over_cons, if_pos (by omega), over_zero (es := a) fun e he => by have := hx.1 e he; omega]
      simp [over]
  | x :: a, y :: b, ha, hb => by
    have hx := List.pairwise_cons.mp ha
    have hy := List.pairwise_cons.mp hb
    by_cases c : x = y
    · obtain ⟨h1, h2⟩ := trim_spec a b hx.2 hy.2
      have e : trim (x :: a) (y :: b) = trim a b := by rw [trim, if_pos c]
      rw [e]
      subst c
      refine ⟨fun t ht => by rw [over_cons, over_cons, h1 t ht], fun h => ?_⟩
      have := h2 h
      rw [over_cons, over_cons]
      omega
    · have e : trim (x :: a) (y :: b) = (x :: a, y :: b) := by rw [trim, if_neg c]
      rw [e]
      simp only [topE, List.headD_cons]
      refine ⟨fun t ht => ?_, fun h => ?_⟩
      · rw [over_zero (es := x :: a) fun e he => ?_, over_zero (es := y :: b) fun e he => ?_]
        · rcases List.mem_cons.mp he with rfl | he
          · omega
          · have := hy.1 e he; omega
        · rcases List.mem_cons.mp he with rfl | he
          · omega
          · have := hx.1 e he; omega
      · rcases Int.lt_or_gt_of_ne c with z | z
        · have e : max 0 (max x y) = y := by omega
          rw [e, over_zero (es := x :: a) fun e he => ?_, over_cons (e := y), if_pos (by omega), over_zero (es := b) fun e he => by have := hy.1 e he; omega]
          · simp
          · rcases List.mem_cons.mp he with rfl | he
            · omega
            · have := hx.1 e he; omega
        · have e : max 0 (max x y) = x := by omega
          rw [e, over_cons (e := x), if_pos (by omega), over_zero (es := a) fun e he => by have := hx.1 e he; omega, over_zero (es := y :: b) fun e he => ?_]
          · simp
          · rcases List.mem_cons.mp he with rfl | he
            · omega
            · have := hy.1 e he; omega
theorem over_reverse {es : List Int} {t : Int} : over es.reverse t = over es t := by
  unfold over
  rw [List.countP_reverse]
/-! ### stretches put in order become tidy -/
def tStep : List Iv → Iv → List Iv
  | [], a => [a]
  | (s, e) :: r, a => if e < a.1 then a :: (s, e) :: r else if e < a.2 then (s, a.2) :: r else (s, e) :: r
/-- told from its end -/
def RTidy (T : List Iv) : Prop := (∀ a ∈ T, a.1 < a.2) ∧ T.Pairwise fun a b => b.2 < a.1
theorem RTidy.rev {T : List Iv} (h : RTidy T) : Tidy T.reverse := ⟨fun a ha => h.1 a (List.mem_reverse.mp ha), List.pairwise_reverse.mpr h.2⟩
theorem inL_reverse {T : List Iv} {t : Int} : inL T.reverse t = inL T t := by
  unfold inL
  rw [List.any_reverse]
theorem inL_append {S T : List Iv} {t : Int} : inL (S ++ T) t = (inL S t || inL T t) := by
  unfold inL
  rw [List.any_append]
theorem tStep_ok {T : List Iv} {a : Iv} (h : RTidy T) (ha : a.1 < a.2) (hs : ∀ b ∈ T, b.1 ≤ a.1) : RTidy (tStep T a) ∧ (∀ t, inL (tStep T a) t = true ↔ inL T t = true ∨ (a.1 ≤ t ∧ t < a.2)) ∧ ∀ b ∈ tStep T a, b.1 ≤ a.1 := by
  rcases T with _ | ⟨⟨s, e⟩, r⟩
  · refine ⟨⟨fun b hb => ?_, List.pairwise_singleton _ _⟩, fun t => ?_, fun b hb => ?_⟩
    · rw [List.mem_singleton.mp hb]; exact ha
    · simp [tStep, inL]
    · rw [List.mem_singleton.mp hb]; exact Int.le_refl _
  · obtain ⟨h1, h2⟩ := h
    have hp := List.pairwise_cons.mp h2
    have se := h1 (s, e) (by simp)
    have ss := hs (s, e) (by simp)
    dsimp only at se ss
    have eT : tStep ((s, e) :: r) a = if e < a.1 then a :: (s, e) :: r else if e < a.2 then (s, a.2) :: r else (s, e) :: r := rfl
    rw [eT]
    by_cases c1 : e < a.1
    · rw [if_pos c1]
      refine ⟨⟨fun b hb => ?_, List.pairwise_cons.mpr ⟨fun b hb => ?_, h2⟩⟩, fun t => ?_, fun b hb => ?_⟩
      · rcases List.mem_cons.mp hb with rfl | hb
        · exact ha
        · exact h1 b hb
      · rcases List.mem_cons.mp hb with rfl | hb
        · exact c1
        · have := hp.1 b hb
          dsimp only at this
          omega
      · rw [inL_cons]
        constructor
        · rintro (z | z)
          · exact Or.inr z
          · exact Or.inl z
        · rintro (z | z)
          · exact Or.inr z
          · exact Or.inl z
      · rcases List.mem_cons.mp hb with rfl | hb
        · exact Int.le_refl _
        · exact hs b hb
    · rw [if_neg c1]
      by_cases c2 : e < a.2
      · rw [if_pos c2]
        refine ⟨⟨fun b hb => ?_, List.pairwise_cons.mpr ⟨fun b hb => hp.1 b hb, hp.2⟩⟩, fun t => ?_, fun b hb => ?_⟩
        · rcases List.mem_cons.mp hb with rfl | hb
          · dsimp only; omega
          · exact h1 b (by simp [hb])
        · rw [inL_cons, inL_cons]
          dsimp only
          constructor
          · rintro (z | z)
            · by_cases y : t < e
              · exact Or.inl (Or.inl ⟨z.1, y⟩)
              · exact Or.inr ⟨by omega, z.2⟩
            · exact Or.inl (Or.inr z)
          · rintro ((z | z) | z)
            · exact Or.inl ⟨z.1, by omega⟩
            · exact Or.inr z
            · exact Or.inl ⟨by omega, z.2⟩
        · rcases List.mem_cons.mp hb with rfl | hb
          · exact ss
          · exact hs b (by simp [hb])
      · rw [if_neg c2]
        refine ⟨⟨h1, h2⟩, fun t => ?_, hs⟩
        constructor
        · exact Or.inl
        · rintro (z | z)
          · exact z
          · exact inL_cons.mpr (Or.inl ⟨by dsimp only; omega, by dsimp only; omega⟩)
theorem tidy_fold : ∀ (xs : List Iv) (T : List Iv), RTidy T → (∀ a ∈ xs, a.1 < a.2) → xs.Pairwise (fun a b => a.1 ≤ b.1) → (∀ b ∈ T, ∀ a ∈ xs, b.1 ≤ a.1) → RTidy (xs.foldl tStep T) ∧ ∀ t, inL (xs.foldl tStep T) t = true ↔ inL T t = true ∨ inL xs t = true
  | [], T, h, _, _, _ => ⟨h, fun t => by simp [inL]⟩
  | a :: r, T, h, ha, hs, hT => by
    have hp := List.pairwise_cons.mp hs
    obtain ⟨h1, h2, h3⟩ := tStep_ok h (ha a (by simp)) fun b hb => hT b hb a (by simp)
    obtain ⟨g1, g2⟩ := tidy_fold r (tStep T a) h1 (fun b hb => ha b (by simp [hb])) hp.2 fun b hb c hc => Int.le_trans (h3 b hb) (hp.1 c hc)
    refine ⟨g1, fun t => ?_⟩
    rw [List.foldl_cons, g2 t, h2 t, inL_cons]
    constructor
    · rintro ((z | z) | z)
      · exact Or.inl z
      · exact Or.inr (Or.inl z)
      · exact Or.inr (Or.inr z)
    · rintro (z | z | z)
      · exact Or.inl (Or.inl z)
      · exact Or.inl (Or.inr z)
      · exact Or.inr z
end My

namespace My
/-! ### runs round and round -/
theorem gcd_per {α : Type} {f : Nat → α} : ∀ (a b : Nat), (∀ i, f (i + a) = f i) → (∀ i, f (i + b) = f i) → ∀ i, f (i + Nat.gcd a b) = f i := by
  intro a b
  induction a, b using Nat.gcd.induction with
  | H0 b =>
    intro _ hb i
    rw [Nat.gcd_zero_left]
    exact hb i
  | H1 a b ha ih =>
    intro h1 h2 i
    rw [Nat.gcd_rec]
    refine ih (fun i => ?_) h1 i
    have mul : ∀ k i, f (i + a * k) = f i := fun k => by
      induction k with
      | zero => intro i; rfl
      | succ k ihk => intro i; rw [Nat.mul_succ, ← Nat.add_assoc, h1, ihk]
    have e := mul (b / a) (i + b % a)
    rw [← e, Nat.add_assoc, Nat.mod_add_div, h2]
structure Cyc (p : Int) (S W : Nat → Int) (m : Nat) : Prop where
  m1 : 1 ≤ m
  p1 : 1 ≤ p
  per : ∀ i, S (i + m) = S i + p
  perW : ∀ i, W (i + m) = W i
  pos : ∀ i, 0 < W i
  gap : ∀ i, S i + W i < S (i + 1)
def InC (S W : Nat → Int) (t : Int) : Prop := ∃ i, S i ≤ t ∧ t < S i + W i
section
variable {p : Int} {S W : Nat → Int} {m : Nat}
theorem Cyc.lt (c : Cyc p S W m) (i : Nat) : S i < S (i + 1) := by have := c.pos i; have := c.gap i; omega
theorem Cyc.mono (c : Cyc p S W m) {i j : Nat} (h : i < j) : S i + W i < S j := by
  obtain ⟨d, rfl⟩ : ∃ d, j = i + 1 + d := ⟨j - (i + 1), by omega⟩
  clear h
  induction d with
  | zero => exact c.gap i
  | succ d ih => have := c.lt (i + 1 + d); rw [← Nat.add_assoc]; omega
theorem Cyc.le (c : Cyc p S W m) {i j : Nat} (h : i ≤ j) : S i ≤ S j := by
  rcases Nat.lt_or_eq_of_le h with h | rfl
  · have := c.mono h; have := c.pos i; omega
  · exact Int.le_refl _
theorem Cyc.lt_iff (c : Cyc p S W m) {i j : Nat} : S i < S j ↔ i < j := by
  constructor
  · intro h
    exact Nat.lt_of_not_le fun z => by have := c.le z; omega
  · intro h
    have := c.mono h; have := c.pos i; omega
theorem Cyc.inj (c : Cyc p S W m) {i j : Nat} (h : S i = S j) : i = j := by
  rcases Nat.lt_trichotomy i j with z | z | z
  · have := c.lt_iff.mpr z; omega
  · exact z
  · have := c.lt_iff.mpr z; omega
/-- what stands right ahead of a start, or behind a run, is out -/
theorem Cyc.out (c : Cyc p S W m) (i : Nat) : ¬ InC S W (S (i + 1) - 1) := by
  rintro ⟨j, h1, h2⟩
  rcases Nat.lt_or_ge i j with z | z
  · have := c.le (show i + 1 ≤ j from z); omega
  · have := c.mono (show j < i + 1 by omega); omega
theorem Cyc.out2 (c : Cyc p S W m) (i : Nat) : ¬ InC S W (S i + W i) := by
  rintro ⟨j, h1, h2⟩
  have g := c.gap i
  have w := c.pos i
  rcases Nat.lt_trichotomy i j with z | rfl | z
  · have := c.mono z; omega
  · omega
  · have := c.mono z; omega
theorem Cyc.start (c : Cyc p S W m) {x : Int} (h1 : InC S W x) (h2 : ¬ InC S W (x - 1)) : ∃ j, x = S j := by
  obtain ⟨j, a, b⟩ := h1
  refine ⟨j, ?_⟩
  rcases Int.lt_or_eq_of_le a with z | z
  · exact absurd ⟨j, by omega, by omega⟩ h2
  · exact z.symm
/-- a shift of the places is a shift of the minutes -/
theorem Cyc.shift (c : Cyc p S W m) {k : Nat} {d : Int} (h1 : ∀ i, S (i + k) = S i + d) (h2 : ∀ i, W (i + k) = W i) {t : Int} (ht : S 0 ≤ t) : InC S W (t + d) ↔ InC S W t := by
  constructor
  · rintro ⟨j, a, b⟩
    have hk : k ≤ j := Nat.le_of_not_lt fun z => by
      have := c.mono z
      have := h1 0
      rw [Nat.zero_add] at this
      omega
    obtain ⟨i, rfl⟩ : ∃ i, j = i + k := ⟨j - k, by omega⟩
    rw [h1] at a b
    rw [h2] at b
    exact ⟨i, by omega, by omega⟩
  · rintro ⟨i, a, b⟩
    exact ⟨i + k, by rw [h1]; omega, by rw [h1, h2]; omega⟩
/-- a shift of the minutes is a shift of the places -/
theorem Cyc.places (c : Cyc p S W m) {q : Int} (hq : 1 ≤ q) (h : ∀ t, S 0 ≤ t → (InC S W (t + q) ↔ InC S W t)) : ∃ k, 1 ≤ k ∧ (∀ i, S (i + k) = S i + q) ∧ ∀ i, W (i + k) = W i := by
  have img : ∀ i, ∃ j, S j = S (i + 1) + q := fun i => by
    have a : InC S W (S (i + 1) + q) := (h _ (c.le (Nat.zero_le _))).mpr ⟨i + 1, Int.le_refl _, by have := c.pos (i + 1); omega⟩
    have b : ¬ InC S W (S (i + 1) + q - 1) := fun z => by
      have e : S (i + 1) + q - 1 = S (i + 1) - 1 + q := by omega
      rw [e] at z
      have : S 0 < S (i + 1) := c.lt_iff.mpr (Nat.succ_pos i)
      exact c.out i ((h _ (by omega)).mp z)
    obtain ⟨j, e⟩ := c.start a b
    exact ⟨j, e.symm⟩
  obtain ⟨j1, e1⟩ := img 0
  rw [Nat.zero_add] at e1
  have j1g : 1 < j1 := c.lt_iff.mp (by omega)
  obtain ⟨k, rfl⟩ : ∃ k, j1 = 1 + k := ⟨j1 - 1, by omega⟩
  have step : ∀ i, S (i + 1 + k) = S (i + 1) + q := fun i => by
    induction i with
    | zero => rw [Nat.zero_add]; exact e1
    | succ i ih =>
      obtain ⟨j, ej⟩ := img (i + 1)
      have g1 : i + 1 + k < j := c.lt_iff.mp (by rw [ih, ej]; have := c.lt (i + 1); omega)
      -- the next start behind S (i+1+k) comes from a start behind S (i+1)
      have a : InC S W (S (i + 1 + k + 1) - q) := by
        have z : InC S W (S (i + 1 + k + 1) - q + q) := by
          rw [Int.sub_add_cancel]
          exact ⟨_, Int.le_refl _, by have := c.pos (i + 1 + k + 1); omega⟩
        have := c.lt (i + 1 + k)
        have := c.le (Nat.zero_le (i + 1))
        exact (h _ (by omega)).mp z
      have b : ¬ InC S W (S (i + 1 + k + 1) - q - 1) := fun z => by
        have := c.lt (i + 1 + k)
        have := c.le (Nat.zero_le (i + 1))
        have y := (h _ (by omega)).mpr z
        rw [show S (i + 1 + k + 1) - q - 1 + q = S (i + 1 + k + 1) - 1 by omega] at y
        exact c.out (i + 1 + k) y
      obtain ⟨i', e'⟩ := c.start a b
      have g2 : i + 1 < i' := c.lt_iff.mp (by have := c.lt (i + 1 + k); omega)
      have g3 := c.le (show i + 1 + 1 ≤ i' from g2)
      have g4 := c.le (show i + 1 + k + 1 ≤ j from g1)
      have : S j = S (i + 1 + k + 1) := by omega
      have := c.inj this
      subst this
      rw [show i + 1 + 1 + k = i + 1 + k + 1 by omega, ej]
  have all : ∀ i, S (i + k) = S i + q := fun i => by
    have a := step (i + m - 1)
    have := c.m1
    rw [show i + m - 1 + 1 = i + m by omega, c.per] at a
    have b := c.per (i + k)
    rw [show i + k + m = i + m + k by omega] at b
    omega
  have k1 : 1 ≤ k := Nat.pos_of_ne_zero fun z => by
    subst z
    have := all 0
    rw [Nat.add_zero] at this
    omega
  refine ⟨k, k1, all, fun i => ?_⟩
  -- the ends
  have s0 := c.le (Nat.zero_le i)
  have w1 := c.pos i
  have w2 := c.pos (i + k)
  have ei := all i
  rcases Int.lt_trichotomy (W (i + k)) (W i) with z | z | z
  · have a : InC S W (S i + W (i + k)) := ⟨i, by omega, by omega⟩
    have b := (h _ (by omega)).mpr a
    rw [show S i + W (i + k) + q = S (i + k) + W (i + k) by omega] at b
    exact absurd b (c.out2 _)
  · exact z
  · have a : InC S W (S i + W i + q) := ⟨i + k, by omega, by omega⟩
    exact absurd ((h _ (by omega)).mp a) (c.out2 _)
end
end My

namespace My
/-! ### the least period, from the steps round -/
def stp (S W : Nat → Int) (i : Nat) : Int × Int := (S (i + 1) - S i, W i)
def stL (S W : Nat → Int) (m : Nat) : List (Int × Int) := (List.range m).map (stp S W)
theorem inv_of_list {st : Nat → Int × Int} {m size : Nat} (m1 : 1 ≤ m) (hm : ∀ i, st (i + m) = st i) (h1 : 1 ≤ size) (hd : size ∣ m) (h : ((List.range m).map st).drop size = ((List.range m).map st).take (m - size)) : ∀ i, st (i + size) = st i := by
  have low : ∀ j, j + size < m → st (j + size) = st j := fun j hj => by
    have e := congrArg (fun l => l[j]?) h
    simp only [List.getElem?_drop, List.getElem?_take, List.getElem?_map] at e
    rw [if_pos (by omega), List.getElem?_range (by omega), List.getElem?_range (by omega)] at e
    have e := Option.some.inj e
    rw [Nat.add_comm]
    exact e
  have red : ∀ j, j < m → st j = st (j % size) := fun j => by
    induction j using Nat.strongRecOn with
    | ind j ih =>
      intro hj
      by_cases c : j < size
      · rw [Nat.mod_eq_of_lt c]
      · have e := ih (j - size) (by omega) (by omega)
        have l := low (j - size) (by omega)
        rw [show j - size + size = j by omega] at l
        rw [l, e, Nat.mod_eq_sub_mod (by omega : size ≤ j)]
  have mul : ∀ k i, st (i + m * k) = st i := fun k => by
    induction k with
    | zero => intro i; rfl
    | succ k ihk => intro i; rw [Nat.mul_succ, ← Nat.add_assoc, hm, ihk]
  have all : ∀ i, st i = st (i % size) := fun i => by
    have e := mul (i / m) (i % m)
    rw [Nat.mod_add_div] at e
    rw [e, red (i % m) (Nat.mod_lt _ (by omega)), Nat.mod_mod_of_dvd _ hd]
  intro i
  rw [all (i + size), all i, Nat.add_mod_right]
theorem list_of_inv {st : Nat → Int × Int} {m size : Nat} (h : ∀ i, st (i + size) = st i) (hs : size ≤ m) : ((List.range m).map st).drop size = ((List.range m).map st).take (m - size) := by
  refine List.ext_getElem? fun j => ?_
  rw [List.getElem?_drop, List.getElem?_take, List.getElem?_map, List.getElem?_map]
  by_cases c : j < m - size
  · rw [if_pos c, List.getElem?_range (by omega), List.getElem?_range (by omega)]
    show some (st (size + j)) = some (st j)
    rw [Nat.add_comm, h]
  · rw [if_neg c, List.getElem?_eq_none (by simp; omega)]
    rfl
/-- the first size that divides the number of runs and leaves the steps as they are -/
def sizeOk (L : List (Int × Int)) (size : Nat) : Bool := decide (L.length % size = 0) && decide (L.drop size = L.take (L.length - size))
section
variable {p : Int} {S W : Nat → Int} {m : Nat}
theorem stp_per (c : Cyc p S W m) (i : Nat) : stp S W (i + m) = stp S W i := by
  have e : S (i + m + 1) - S (i + m) = S (i + 1) - S i := by
    rw [show i + m + 1 = i + 1 + m by omega, c.per, c.per]
    omega
  unfold stp
  rw [c.perW, e]
theorem stL_len : (stL S W m).length = m := by simp [stL]
theorem inv_shift (h : ∀ i, stp S W (i + k) = stp S W i) (i : Nat) : S (i + k) = S i + (S k - S 0) := by
  induction i with
  | zero => rw [Nat.zero_add]; omega
  | succ i ih =>
    have e : S (i + k + 1) - S (i + k) = S (i + 1) - S i := congrArg Prod.fst (h i)
    rw [show i + 1 + k = i + k + 1 by omega]
    omega
theorem shift_inv {d : Int} (h1 : ∀ i, S (i + k) = S i + d) (h2 : ∀ i, W (i + k) = W i) (i : Nat) : stp S W (i + k) = stp S W i := by
  have e : S (i + k + 1) - S (i + k) = S (i + 1) - S i := by
    rw [show i + k + 1 = i + 1 + k by omega, h1, h1]
    omega
  unfold stp
  rw [h2, e]
/-- the period told by the steps -/
theorem Cyc.size_spec (c : Cyc p S W m) {size : Nat} (h1 : 1 ≤ size) (hm : size ≤ m) (ok : size = m ∨ sizeOk (stL S W m) size = true) (first : ∀ k, 1 ≤ k → k < size → sizeOk (stL S W m) k = false) :
    (∀ t, S 0 ≤ t → (InC S W (t + p * size / m) ↔ InC S W t)) ∧ 1 ≤ p * size / m ∧ p * size / m ≤ p ∧ ∀ q, 1 ≤ q → (∀ t, S 0 ≤ t → (InC S W (t + q) ↔ InC S W t)) → p * size / m ≤ q := by
  have m1 := c.m1
  have inv : size ∣ m ∧ ∀ i, stp S W (i + size) = stp S W i := by
    rcases ok with rfl | ok
    · exact ⟨Nat.dvd_refl _, stp_per c⟩
    · unfold sizeOk at ok
      rw [stL_len, Bool.and_eq_true, decide_eq_true_eq, decide_eq_true_eq] at ok
      have hd := Nat.dvd_of_mod_eq_zero ok.1
      exact ⟨hd, inv_of_list m1 (stp_per c) h1 hd ok.2⟩
  obtain ⟨⟨r, er⟩, iv⟩ := inv
  have sh := inv_shift iv
  have rounds : ∀ k : Nat, S (size * k) = S 0 + k * (S size - S 0) := fun k => by
    induction k with
    | zero => simp
    | succ k ih =>
      rw [Nat.mul_succ, sh, ih]
      have : ((k + 1 : Nat) : Int) * (S size - S 0) = k * (S size - S 0) + (S size - S 0) := by
        rw [Int.natCast_add, Int.add_mul]
        simp
      rw [this]
      omega
  have ep : p = r * (S size - S 0) := by
    have a := rounds r
    have b := c.per 0
    rw [Nat.zero_add] at b
    rw [← er] at a
    omega
  have ed : p * size / m = S size - S 0 := by
    have hm0 : (m : Int) ≠ 0 := by omega
    have e : p * size = (S size - S 0) * m := by
      rw [er, Int.natCast_mul, ep]
      rw [Int.mul_comm (r : Int), Int.mul_assoc, Int.mul_comm (r : Int)]
    rw [e]
    exact Int.mul_ediv_cancel _ hm0
  rw [ed]
  have w : ∀ i, W (i + size) = W i := fun i => congrArg Prod.snd (iv i)
  have up : ∀ i j, i ≤ j → S i ≤ S j := fun i j => c.le
  have per0 := c.per 0
  rw [Nat.zero_add] at per0
  refine ⟨fun t ht => c.shift sh w ht, ?_, ?_, fun q hq hper => ?_⟩
  · have := c.lt_iff.mpr (show 0 < size from h1)
    omega
  · have := up _ _ hm
    omega
  · obtain ⟨k, k1, hk, wk⟩ := c.places hq hper
    have ik := shift_inv hk wk
    have ig := gcd_per k m ik (stp_per c)
    have g1 : 1 ≤ Nat.gcd k m := Nat.gcd_pos_of_pos_left _ k1
    have gk : Nat.gcd k m ≤ k := Nat.gcd_le_left _ k1
    have gm : Nat.gcd k m ≤ m := Nat.gcd_le_right _ m1
    have sg : size ≤ Nat.gcd k m := Nat.le_of_not_lt fun z => by
      have f := first _ g1 z
      unfold sizeOk at f
      rw [stL_len, decide_eq_true (Nat.mod_eq_zero_of_dvd (Nat.gcd_dvd_right k m)), Bool.true_and, decide_eq_false_iff_not] at f
      exact f (list_of_inv ig gm)
    have a := hk 0
    rw [Nat.zero_add] at a
    have := up _ _ (Nat.le_trans sg gk)
    omega
end
end My

namespace My
/-! ### the runs of one round -/
abbrev Rn := Int × Int
/-- starts and lengths round a period -/
structure RunsOk (p : Int) (L : List Rn) : Prop where
  ne : 1 ≤ L.length
  pos : ∀ a ∈ L, 0 < a.2
  gap : ∀ i a b, L[i]? = some a → L[i + 1]? = some b → a.1 + a.2 < b.1
  last : ∀ a b, L[0]? = some a → L[L.length - 1]? = some b → b.1 + b.2 < a.1 + p
def rS (p : Int) (L : List Rn) (i : Nat) : Int := (L.getD (i % L.length) (0, 0)).1 + p * (i / L.length : Nat)
def rW (L : List Rn) (i : Nat) : Int := (L.getD (i % L.length) (0, 0)).2
theorem getD_some {α : Type} {L : List α} {i : Nat} {a d : α} (h : L[i]? = some a) : L.getD i d = a := by
  rw [List.getD_eq_getElem?_getD, h]
  rfl
theorem RunsOk.at {p : Int} {L : List Rn} (h : RunsOk p L) (i : Nat) : ∃ a, L[i % L.length]? = some a ∧ a ∈ L ∧ rS p L i = a.1 + p * (i / L.length : Nat) ∧ rW L i = a.2 := by
  have l := h.ne
  have b := Nat.mod_lt i (show 0 < L.length by omega)
  have e := List.getElem?_eq_getElem b
  exact ⟨_, e, List.getElem_mem _, by unfold rS; rw [getD_some e], by unfold rW; rw [getD_some e]⟩
theorem RunsOk.cyc {p : Int} {L : List Rn} (h : RunsOk p L) : Cyc p (rS p L) (rW L) L.length := by
  have l := h.ne
  have l0 : 0 < L.length := by omega
  have up : ∀ (i : Nat) a b, L[0]? = some a → L[i]? = some b → a.1 ≤ b.1 := fun i => by
    induction i with
    | zero => intro a b ha hb; rw [ha] at hb; cases hb; exact Int.le_refl _
    | succ i ih =>
      intro a b ha hb
      have hi : i < L.length := by have := (List.getElem?_eq_some_iff.mp hb).1; omega
      have e := List.getElem?_eq_getElem hi
      have := ih a _ ha e
      have := h.gap i _ _ e hb
      have := h.pos _ (List.getElem_mem hi)
      omega
  have p1 : 1 ≤ p := by
    have e0 := List.getElem?_eq_getElem l0
    have e1 := List.getElem?_eq_getElem (show L.length - 1 < L.length by omega)
    have := h.last _ _ e0 e1
    have := up _ _ _ e0 e1
    have := h.pos _ (List.getElem_mem (show L.length - 1 < L.length by omega))
    omega
  refine ⟨l, p1, fun i => ?_, fun i => ?_, fun i => ?_, fun i => ?_⟩
  · unfold rS
    rw [Nat.add_mod_right, Nat.add_div_right _ l0]
    have : p * ((i / L.length).succ : Nat) = p * (i / L.length : Nat) + p := by
      rw [Nat.succ_eq_add_one, Int.natCast_add, Int.mul_add]
      simp
    rw [this]
    omega
  · unfold rW
    rw [Nat.add_mod_right]
  · obtain ⟨a, _, ha, _, e⟩ := h.at i
    rw [e]
    exact h.pos a ha
  · obtain ⟨a, ha, _, e1, e2⟩ := h.at i
    obtain ⟨b, hb, _, e3, _⟩ := h.at (i + 1)
    rw [e1, e2, e3]
    have b1 := Nat.mod_lt i l0
    by_cases c : i % L.length + 1 < L.length
    · have m : (i + 1) % L.length = i % L.length + 1 := by
        rw [Nat.add_mod]
        by_cases c1 : L.length = 1
        · omega
        · rw [Nat.mod_eq_of_lt (show 1 < L.length by omega), Nat.mod_eq_of_lt c]
      have d : (i + 1) / L.length = i / L.length := by
        have a1 := Nat.div_add_mod i L.length
        have a2 := Nat.div_add_mod (i + 1) L.length
        rw [m] at a2
        have : L.length * ((i + 1) / L.length) = L.length * (i / L.length) := by omega
        exact Nat.eq_of_mul_eq_mul_left l0 this
      rw [m] at hb
      rw [d]
      have := h.gap _ _ _ ha hb
      omega
    · have m0 : i % L.length = L.length - 1 := by omega
      have a1 := Nat.div_add_mod i L.length
      have e : i + 1 = L.length * (i / L.length + 1) := by rw [Nat.mul_add]; omega
      have m : (i + 1) % L.length = 0 := by rw [e]; exact Nat.mul_mod_right _ _
      have d : (i + 1) / L.length = i / L.length + 1 := by rw [e]; exact Nat.mul_div_cancel_left _ l0
      rw [m] at hb
      rw [m0] at ha
      rw [d]
      have := h.last _ _ hb ha
      have e2 : p * ((i / L.length + 1 : Nat) : Int) = p * (i / L.length : Nat) + p := by
        rw [Int.natCast_add, Int.mul_add]
        simp
      rw [e2]
      omega
theorem RunsOk.up {p : Int} {L : List Rn} (h : RunsOk p L) {a b : Rn} {i j : Nat} (hij : i < j) (ha : L[i]? = some a) (hb : L[j]? = some b) : a.1 + a.2 < b.1 := by
  obtain ⟨d, rfl⟩ : ∃ d, j = i + 1 + d := ⟨j - (i + 1), by omega⟩
  clear hij
  induction d generalizing b with
  | zero => exact h.gap _ _ _ ha hb
  | succ d ih =>
    have hi : i + 1 + d < L.length := by have := (List.getElem?_eq_some_iff.mp hb).1; omega
    have e := List.getElem?_eq_getElem hi
    have := ih e
    have := h.gap _ _ _ e hb
    have := h.pos _ (List.getElem_mem hi)
    omega
/-- in a run, read round the period -/
theorem RunsOk.inC {p : Int} {L : List Rn} (h : RunsOk p L) {t : Int} (ht : rS p L 0 ≤ t) : InC (rS p L) (rW L) t ↔ ∃ a ∈ L, (t - a.1) % p < a.2 := by
  have l := h.ne
  have l0 : 0 < L.length := by omega
  have p1 := h.cyc.p1
  have e0 := List.getElem?_eq_getElem l0
  have z0 : rS p L 0 = (L[0]).1 := by
    unfold rS
    rw [Nat.zero_mod, Nat.zero_div, getD_some e0]
    simp
  have short : ∀ a ∈ L, a.2 < p ∧ a.1 + a.2 < (L[0]).1 + p := fun a ha => by
    obtain ⟨i, hi, rfl⟩ := List.mem_iff_getElem.mp ha
    have ei := List.getElem?_eq_getElem hi
    have e1 := List.getElem?_eq_getElem (show L.length - 1 < L.length by omega)
    have g := h.last _ _ e0 e1
    have w := h.pos _ (List.getElem_mem (show L.length - 1 < L.length by omega))
    have a0 : (L[0]).1 ≤ (L[i]).1 := by
      by_cases c : i = 0
      · subst c; exact Int.le_refl _
      · have := h.up (show 0 < i by omega) e0 ei
        have := h.pos _ (List.getElem_mem l0)
        omega
    by_cases c : i = L.length - 1
    · subst c
      omega
    · have := h.up (show i < L.length - 1 by omega) ei e1
      omega
  constructor
  · rintro ⟨i, h1, h2⟩
    obtain ⟨a, _, ha, e1, e2⟩ := h.at i
    rw [e1] at h1 h2
    rw [e2] at h2
    refine ⟨a, ha, ?_⟩
    have := (short a ha).1
    have e : t - a.1 = (t - a.1 - p * (i / L.length : Nat)) + p * (i / L.length : Nat) := by omega
    rw [e, Int.add_mul_emod_self_left, Int.emod_eq_of_lt (by omega) (by omega)]
    omega
  · rintro ⟨a, ha, hm⟩
    obtain ⟨j, hj, ej⟩ := List.mem_iff_getElem.mp ha
    have dm := Int.mul_ediv_add_emod (t - a.1) p
    have r0 := Int.emod_nonneg (t - a.1) (show p ≠ 0 by omega)
    have sh := short a ha
    by_cases c : 0 ≤ (t - a.1) / p
    · obtain ⟨k, hk⟩ := Int.eq_ofNat_of_zero_le c
      refine ⟨j + L.length * k, ?_, ?_⟩
      · unfold rS
        rw [Nat.add_mul_mod_self_left, Nat.add_mul_div_left _ _ l0, Nat.mod_eq_of_lt hj, Nat.div_eq_of_lt hj, getD_some (List.getElem?_eq_getElem hj), ej, Nat.zero_add]
        rw [hk] at dm
        omega
      · unfold rS rW
        rw [Nat.add_mul_mod_self_left, Nat.add_mul_div_left _ _ l0, Nat.mod_eq_of_lt hj, Nat.div_eq_of_lt hj, getD_some (List.getElem?_eq_getElem hj), ej, Nat.zero_add]
        rw [hk] at dm
        omega
    · have : p * ((t - a.1) / p) ≤ p * (-1) := Int.mul_le_mul_of_nonneg_left (by omega) (by omega)
      rw [z0] at ht
      omega
end My

namespace My
/-! ### the runs of a round, from its stretches -/
def rl (a : Iv) : Rn := (a.1, a.2 - a.1)
def runsOf (h p : Int) (R : List Iv) : List Rn :=
  if (R.headD (0, 0)).1 = h ∧ (R.getLastD (0, 0)).2 = h + p then ((R.map rl).drop 1).dropLast ++ [((R.getLastD (0, 0)).1, ((R.getLastD (0, 0)).2 - (R.getLastD (0, 0)).1) + ((R.headD (0, 0)).2 - (R.headD (0, 0)).1))] else R.map rl
theorem runs_mk {p : Int} {L : List Rn} (ne : 1 ≤ L.length) (pos : ∀ a ∈ L, 0 < a.2) (pw : L.Pairwise fun a b => a.1 + a.2 < b.1) (last : ∀ a b, L[0]? = some a → L[L.length - 1]? = some b → b.1 + b.2 < a.1 + p) : RunsOk p L := by
  refine ⟨ne, pos, fun i a b ha hb => ?_, last⟩
  obtain ⟨hi, rfl⟩ := List.getElem?_eq_some_iff.mp ha
  obtain ⟨hj, rfl⟩ := List.getElem?_eq_some_iff.mp hb
  exact List.pairwise_iff_getElem.mp pw i (i + 1) hi hj (by omega)
theorem split_last {α : Type} {L : List α} (h : L ≠ []) : ∃ M z, L = M ++ [z] := ⟨L.dropLast, L.getLast h, (List.dropLast_concat_getLast h).symm⟩
theorem last_snoc {α : Type} {M : List α} {z d : α} : (M ++ [z]).getLastD d = z := by
  rw [List.getLastD_eq_getLast?, List.getLast?_append]
  rfl
structure Tail (h p : Int) (R : List Iv) : Prop where
  p1 : 1 ≤ p
  td : Tidy R
  box : ∀ a ∈ R, h ≤ a.1 ∧ a.2 ≤ h + p
  ne : R ≠ []
  nf : R.headD (0, 0) ≠ (h, h + p)
theorem Tail.spec {h p : Int} {R : List Iv} (T : Tail h p R) : RunsOk p (runsOf h p R) ∧ (∀ t, (∃ a ∈ runsOf h p R, (t - a.1) % p < a.2) ↔ inL R (h + (t - h) % p) = true) ∧ ∀ a ∈ runsOf h p R, h ≤ a.1 ∧ a.1 < h + p := by
  obtain ⟨p1, td, box, ne, nf⟩ := T
  have sub : ∀ t (a : Iv), h ≤ a.1 → a.2 ≤ h + p → a.1 < a.2 → ∀ x : Int, ((t - a.1) % p < x ↔ if a.1 ≤ h + (t - h) % p then h + (t - h) % p - a.1 < x else h + (t - h) % p - a.1 + p < x) := fun t a b1 b2 b3 x => by
    have r0 := Int.emod_nonneg (t - h) (show p ≠ 0 by omega)
    have r1 := Int.emod_lt_of_pos (t - h) (show 0 < p by omega)
    have dm := Int.mul_ediv_add_emod (t - h) p
    by_cases c : a.1 ≤ h + (t - h) % p
    · rw [if_pos c]
      have e : t - a.1 = (h + (t - h) % p - a.1) + p * ((t - h) / p) := by omega
      rw [e, Int.add_mul_emod_self_left, Int.emod_eq_of_lt (by omega) (by omega)]
    · rw [if_neg c]
      have e : t - a.1 = (h + (t - h) % p - a.1 + p) + p * ((t - h) / p - 1) := by
        rw [Int.mul_sub]
        omega
      rw [e, Int.add_mul_emod_self_left, Int.emod_eq_of_lt (by omega) (by omega)]
  by_cases c : (R.headD (0, 0)).1 = h ∧ (R.getLastD (0, 0)).2 = h + p
  · -- the last run goes on into the first one
    obtain ⟨c1, c2⟩ := c
    rcases R with _ | ⟨⟨s0, e0⟩, r⟩
    · exact absurd rfl ne
    replace c1 : s0 = h := c1
    have rne : r ≠ [] := fun z => by
      subst z
      have c2 : e0 = h + p := c2
      exact nf (Prod.ext c1 c2)
    obtain ⟨M, ⟨s1, e1⟩, rfl⟩ := split_last rne
    replace c2 : e1 = h + p := by
      have : ((s0, e0) :: (M ++ [(s1, e1)])).getLastD (0, 0) = (s1, e1) := last_snoc (M := (s0, e0) :: M)
      rw [this] at c2
      exact c2
    subst c1
    subst c2
    have er : runsOf s0 p ((s0, e0) :: (M ++ [(s1, s0 + p)])) = M.map rl ++ [(s1, (s0 + p - s1) + (e0 - s0))] := by
      unfold runsOf
      have e : ((s0, e0) :: (M ++ [(s1, s0 + p)])).getLastD (0, 0) = (s1, s0 + p) := last_snoc (M := (s0, e0) :: M)
      rw [e, if_pos ⟨rfl, rfl⟩]
      simp
    rw [er]
    obtain ⟨a1, a2, a3⟩ := Tidy.cons.mp td
    dsimp only at a1 a2
    have pw := List.pairwise_append.mp a3.2
    have z1 := a3.1 (s1, s0 + p) (by simp)
    have zb := a2 (s1, s0 + p) (by simp)
    dsimp only at z1 zb
    refine ⟨runs_mk (by simp) ?_ ?_ ?_, fun t => ?_, ?_⟩
    · intro a ha
      rcases List.mem_append.mp ha with ha | ha
      · obtain ⟨b, hb, rfl⟩ := List.mem_map.mp ha
        have := a3.1 b (by simp [hb])
        show 0 < b.2 - b.1
        omega
      · rw [List.mem_singleton.mp ha]
        dsimp only
        omega
    · refine List.pairwise_append.mpr ⟨?_, List.pairwise_singleton _ _, fun a ha b hb => ?_⟩
      · refine List.pairwise_map.mpr (pw.1.imp fun {a b} z => ?_)
        show a.1 + (a.2 - a.1) < b.1
        omega
      · obtain ⟨x, hx, rfl⟩ := List.mem_map.mp ha
        rw [List.mem_singleton.mp hb]
        have := pw.2.2 x hx (s1, s0 + p) (by simp)
        dsimp only at this
        show x.1 + (x.2 - x.1) < s1
        omega
    · intro a b ha hb
      have hb2 : b = (s1, (s0 + p - s1) + (e0 - s0)) := by
        have : (M.map rl ++ [(s1, (s0 + p - s1) + (e0 - s0))]).length - 1 = (M.map rl).length := by simp
        rw [this, List.getElem?_append_right (Nat.le_refl _), Nat.sub_self] at hb
        cases hb
        rfl
      subst hb2
      have : e0 < a.1 := by
        have ha := List.mem_of_getElem? ha
        rcases List.mem_append.mp ha with ha | ha
        · obtain ⟨x, hx, rfl⟩ := List.mem_map.mp ha
          exact a2 x (by simp [hx])
        · rw [List.mem_singleton.mp ha]
          exact zb
      dsimp only
      omega
    · have r0 := Int.emod_nonneg (t - s0) (show p ≠ 0 by omega)
      have r1 := Int.emod_lt_of_pos (t - s0) (show 0 < p by omega)
      have hz := sub t (s1, s0 + p) (by dsimp only; omega) (Int.le_refl _) z1
      dsimp only at hz
      constructor
      · rintro ⟨a, ha, hm⟩
        rcases List.mem_append.mp ha with ha | ha
        · obtain ⟨x, hx, rfl⟩ := List.mem_map.mp ha
          have bx := box x (by simp [hx])
          have lx := a3.1 x (by simp [hx])
          have := (sub t x bx.1 bx.2 lx (x.2 - x.1)).mp hm
          split at this
          · exact inL_iff.mpr ⟨x, by simp [hx], by omega, by omega⟩
          · omega
        · rw [List.mem_singleton.mp ha] at hm
          have := (hz _).mp hm
          split at this
          · exact inL_iff.mpr ⟨(s1, s0 + p), by simp, by dsimp only; omega, by dsimp only; omega⟩
          · exact inL_iff.mpr ⟨(s0, e0), by simp, by dsimp only; omega, by dsimp only; omega⟩
      · intro hu
        obtain ⟨x, hx, u1, u2⟩ := inL_iff.mp hu
        rcases List.mem_cons.mp hx with rfl | hx
        · refine ⟨_, List.mem_append_right _ (List.mem_singleton.mpr rfl), (hz _).mpr ?_⟩
          dsimp only at u1 u2
          rw [if_neg (by omega)]
          omega
        · rcases List.mem_append.mp hx with hx | hx
          · have bx := box x (by simp [hx])
            have lx := a3.1 x (by simp [hx])
            refine ⟨rl x, List.mem_append_left _ (List.mem_map.mpr ⟨x, hx, rfl⟩), (sub t x bx.1 bx.2 lx _).mpr ?_⟩
            rw [if_pos u1]
            show _ < x.2 - x.1
            omega
          · rw [List.mem_singleton.mp hx] at u1 u2
            refine ⟨_, List.mem_append_right _ (List.mem_singleton.mpr rfl), (hz _).mpr ?_⟩
            dsimp only at u1 u2
            rw [if_pos u1]
            omega
    · intro a ha
      rcases List.mem_append.mp ha with ha | ha
      · obtain ⟨x, hx, rfl⟩ := List.mem_map.mp ha
        have bx := box x (by simp [hx])
        have lx := a3.1 x (by simp [hx])
        exact ⟨bx.1, by show x.1 < _; omega⟩
      · rw [List.mem_singleton.mp ha]
        exact ⟨by dsimp only; omega, z1⟩
  · have er : runsOf h p R = R.map rl := by
      unfold runsOf
      rw [if_neg c]
    rw [er]
    have ln : 1 ≤ R.length := by
      rcases R with _ | ⟨x, r⟩
      · exact absurd rfl ne
      · simp
    refine ⟨runs_mk (by simpa using ln) ?_ ?_ ?_, fun t => ?_, ?_⟩
    · intro a ha
      obtain ⟨b, hb, rfl⟩ := List.mem_map.mp ha
      have := td.1 b hb
      show 0 < b.2 - b.1
      omega
    · refine List.pairwise_map.mpr (td.2.imp fun {a b} z => ?_)
      show a.1 + (a.2 - a.1) < b.1
      omega
    · intro a b ha hb
      rw [List.getElem?_map] at ha hb
      obtain ⟨x, hx, rfl⟩ := Option.map_eq_some_iff.mp ha
      obtain ⟨y, hy, rfl⟩ := Option.map_eq_some_iff.mp hb
      have e1 : R.headD (0, 0) = x := by
        rcases R with _ | ⟨x', r⟩
        · cases hx
        · cases hx; rfl
      have e2 : R.getLastD (0, 0) = y := by
        rw [List.length_map] at hy
        rw [List.getLastD_eq_getLast?, List.getLast?_eq_getElem?, hy]
        rfl
      rw [e1, e2] at c
      have bx := box x (List.mem_of_getElem? hx)
      have by' := box y (List.mem_of_getElem? hy)
      show y.1 + (y.2 - y.1) < x.1 + p
      by_cases z : x.1 = h
      · have : y.2 ≠ h + p := fun w => c ⟨z, w⟩
        omega
      · omega
    · constructor
      · rintro ⟨a, ha, hm⟩
        obtain ⟨x, hx, rfl⟩ := List.mem_map.mp ha
        have bx := box x hx
        have lx := td.1 x hx
        have r0 := Int.emod_nonneg (t - h) (show p ≠ 0 by omega)
        have := (sub t x bx.1 bx.2 lx (x.2 - x.1)).mp hm
        split at this
        · exact inL_iff.mpr ⟨x, hx, by omega, by omega⟩
        · omega
      · intro hu
        obtain ⟨x, hx, u1, u2⟩ := inL_iff.mp hu
        have bx := box x hx
        have lx := td.1 x hx
        refine ⟨rl x, List.mem_map.mpr ⟨x, hx, rfl⟩, (sub t x bx.1 bx.2 lx _).mpr ?_⟩
        rw [if_pos u1]
        show _ < x.2 - x.1
        omega
    · intro a ha
      obtain ⟨x, hx, rfl⟩ := List.mem_map.mp ha
      have bx := box x hx
      have lx := td.1 x hx
      exact ⟨bx.1, by show x.1 < _; omega⟩
end My

namespace My
/-! ### the least period of a set of minutes that comes round -/
def stepsOf (p : Int) (L : List Rn) : List (Int × Int) := List.zipWith (fun a b => (b.1 - a.1, a.2)) L (L.drop 1 ++ [((L.headD (0, 0)).1 + p, 0)])
theorem RunsOk.steps {p : Int} {L : List Rn} (h : RunsOk p L) : stepsOf p L = stL (rS p L) (rW L) L.length := by
  have l := h.ne
  have e0 := List.getElem?_eq_getElem (show 0 < L.length by omega)
  have hd : L.headD (0, 0) = L[0] := by
    rcases L with _ | ⟨a, r⟩
    · simp at l
    · rfl
  refine List.ext_getElem? fun i => ?_
  unfold stepsOf stL
  rw [List.getElem?_zipWith, List.getElem?_map]
  by_cases c : i < L.length
  · rw [List.getElem?_eq_getElem c, List.getElem?_range c]
    have w : rW L i = (L[i]).2 := by
      unfold rW
      rw [Nat.mod_eq_of_lt c, getD_some (List.getElem?_eq_getElem c)]
    have s : rS p L i = (L[i]).1 := by
      unfold rS
      rw [Nat.mod_eq_of_lt c, Nat.div_eq_of_lt c, getD_some (List.getElem?_eq_getElem c)]
      simp
    by_cases c2 : i + 1 < L.length
    · rw [List.getElem?_append_left (by rw [List.length_drop]; omega), List.getElem?_drop, Nat.add_comm 1 i, List.getElem?_eq_getElem c2]
      have s2 : rS p L (i + 1) = (L[i + 1]).1 := by
        unfold rS
        rw [Nat.mod_eq_of_lt c2, Nat.div_eq_of_lt c2, getD_some (List.getElem?_eq_getElem c2)]
        simp
      show some ((L[i + 1]).1 - (L[i]).1, (L[i]).2) = some (rS p L (i + 1) - rS p L i, rW L i)
      rw [w, s, s2]
    · have e : i + 1 = L.length := by omega
      rw [List.getElem?_append_right (by rw [List.length_drop]; omega), List.length_drop, show i - (L.length - 1) = 0 by omega]
      have s2 : rS p L (i + 1) = (L[0]).1 + p := by
        unfold rS
        rw [e, Nat.mod_self, Nat.div_self (by omega), getD_some e0]
        simp
      show some ((L.headD (0, 0)).1 + p - (L[i]).1, (L[i]).2) = some (rS p L (i + 1) - rS p L i, rW L i)
      rw [w, s, s2, hd]
  · rw [List.getElem?_eq_none (by omega), List.getElem?_eq_none (by simp; omega), List.getElem?_eq_none (l := List.range L.length) (by simp; omega)]
    rfl
/-- P comes round from h on -/
def Ev (h p : Int) (P : Int → Prop) : Prop := ∀ t, h ≤ t → (P (t + p) ↔ P t)
theorem Ev.mul {h p : Int} {P : Int → Prop} (e : Ev h p P) (hp : 0 ≤ p) (k : Nat) {t : Int} (ht : h ≤ t) : P (t + p * k) ↔ P t := by
  induction k with
  | zero => simp
  | succ k ih =>
    have : t + p * ((k + 1 : Nat) : Int) = t + p * (k : Nat) + p := by
      rw [Int.natCast_add, Int.mul_add]
      simp
      omega
    rw [this, e _ (by have := Int.mul_nonneg hp (Int.natCast_nonneg k); omega), ih]
theorem far_up {p t x : Int} (hp : 1 ≤ p) : ∃ k : Nat, x ≤ t + p * k := by
  refine ⟨(x - t).toNat, ?_⟩
  by_cases c : x ≤ t
  · have := Int.mul_nonneg (show 0 ≤ p by omega) (Int.natCast_nonneg (x - t).toNat)
    omega
  · have e : (((x - t).toNat : Nat) : Int) = x - t := by omega
    rw [e]
    have : 1 * (x - t) ≤ p * (x - t) := Int.mul_le_mul_of_nonneg_right hp (by omega)
    omega
/-- a period from anywhere on is a period from h on -/
theorem Ev.back {h p q h' : Int} {P : Int → Prop} (e : Ev h p P) (hp : 1 ≤ p) (hq : 0 ≤ q) (e' : Ev h' q P) : Ev h q P := fun t ht => by
  obtain ⟨k, hk⟩ := far_up (t := t) (x := h') hp
  have a := e.mul (by omega) k ht
  have b := e.mul (by omega) k (t := t + q) (by omega)
  have c := e' _ hk
  rw [show t + p * k + q = t + q + p * k by omega] at c
  rw [← b, c, a]
/-- the tail read round -/
def rnd (h p : Int) (R : List Iv) (t : Int) : Prop := inL R (h + (t - h) % p) = true
theorem rnd_ev {h p : Int} {R : List Iv} : Ev h p (rnd h p R) := fun t _ => by
  unfold rnd
  rw [show t + p - h = (t - h) + p by omega, Int.add_emod_right]
theorem Tail.least {h p : Int} {R : List Iv} (T : Tail h p R) {size : Nat} (h1 : 1 ≤ size) (hm : size ≤ (runsOf h p R).length) (ok : size = (runsOf h p R).length ∨ sizeOk (stepsOf p (runsOf h p R)) size = true)
    (first : ∀ k, 1 ≤ k → k < size → sizeOk (stepsOf p (runsOf h p R)) k = false) :
    Ev h (p * size / (runsOf h p R).length) (rnd h p R) ∧ 1 ≤ p * size / (runsOf h p R).length ∧ p * size / (runsOf h p R).length ≤ p ∧ ∀ q h', 1 ≤ q → Ev h' q (rnd h p R) → p * size / (runsOf h p R).length ≤ q := by
  obtain ⟨ro, rd, bx⟩ := T.spec
  have p1 := T.p1
  rw [ro.steps] at ok first
  obtain ⟨s1, s2, s3, s4⟩ := ro.cyc.size_spec h1 hm ok first
  have S0 : h ≤ rS p (runsOf h p R) 0 ∧ rS p (runsOf h p R) 0 < h + p := by
    have l := ro.ne
    have e0 := List.getElem?_eq_getElem (show 0 < (runsOf h p R).length by omega)
    have : rS p (runsOf h p R) 0 = ((runsOf h p R)[0]).1 := by
      unfold rS
      rw [Nat.zero_mod, Nat.zero_div, getD_some e0]
      simp
    rw [this]
    exact bx _ (List.getElem_mem _)
  have same : ∀ t, rS p (runsOf h p R) 0 ≤ t → (InC (rS p (runsOf h p R)) (rW (runsOf h p R)) t ↔ rnd h p R t) := fun t ht => by
    rw [ro.inC ht, rd t]
    rfl
  refine ⟨fun t ht => ?_, s2, s3, fun q h' hq e => ?_⟩
  · have a := s1 (t + p) (by omega)
    rw [same _ (by omega), same _ (by omega)] at a
    have b := rnd_ev (h := h) (p := p) (R := R) t ht
    have c := rnd_ev (h := h) (p := p) (R := R) (t + p * size / (runsOf h p R).length) (by omega)
    rw [show t + p + p * size / (runsOf h p R).length = t + p * size / (runsOf h p R).length + p by omega] at a
    rw [← c, a, b]
  · refine s4 q hq fun t ht => ?_
    rw [same t ht, same _ (by omega)]
    exact (rnd_ev (h := h) (p := p) (R := R)).back p1 (by omega) e t (by omega)
end My

namespace My
/-! ### the one form of a set of minutes -/
structure Canon (P : Int → Prop) (h p : Int) (L : List Iv) : Prop where
  h0 : 0 ≤ h
  p1 : 1 ≤ p
  ev : Ev h p P
  least : ∀ q h', 1 ≤ q → Ev h' q P → p ≤ q
  lh : 0 < h → ¬ (P (h - 1 + p) ↔ P (h - 1))
  td : Tidy L
  inl : ∀ t, inL L t = true ↔ P t ∧ 0 ≤ t ∧ t < h + p
theorem Canon.unique {P : Int → Prop} {h p h' p' : Int} {L L' : List Iv} (a : Canon P h p L) (b : Canon P h' p' L') : h = h' ∧ p = p' ∧ L = L' := by
  have e1 : p = p' := Int.le_antisymm (a.least _ _ b.p1 b.ev) (b.least _ _ a.p1 a.ev)
  subst e1
  have e2 : h = h' := by
    have a0 := a.h0
    have b0 := b.h0
    rcases Int.lt_trichotomy h h' with z | z | z
    · exact absurd (a.ev (h' - 1) (by omega)) (b.lh (by omega))
    · exact z
    · exact absurd (b.ev (h - 1) (by omega)) (a.lh (by omega))
  subst e2
  exact ⟨rfl, rfl, tidy_unique a.td b.td fun t => by rw [a.inl, b.inl]⟩
/-- a cut of a row -/
def Cut (L : List Iv) (a b : Int) (R : List Iv) : Prop := Tidy R ∧ ∀ t, inL R t = true ↔ inL L t = true ∧ a ≤ t ∧ t < b
theorem Cut.box {L R : List Iv} {a b : Int} (c : Cut L a b R) : ∀ x ∈ R, a ≤ x.1 ∧ x.2 ≤ b := fun x hx => by
  have w := c.1.1 x hx
  have u := (c.2 x.1).mp (inL_iff.mpr ⟨x, hx, Int.le_refl _, w⟩)
  have v := (c.2 (x.2 - 1)).mp (inL_iff.mpr ⟨x, hx, by omega, by omega⟩)
  omega
/-- carried on by its period -/
def ext (h p : Int) (X : Int → Prop) (t : Int) : Prop := X (if t < h + p then t else h + (t - h) % p)
theorem ext_low {h p : Int} {X : Int → Prop} {t : Int} (ht : t < h + p) : ext h p X t ↔ X t := by
  unfold ext
  rw [if_pos ht]
theorem ext_tail {h p : Int} {X : Int → Prop} {t : Int} (ht : h ≤ t) : ext h p X t ↔ X (h + (t - h) % p) := by
  unfold ext
  by_cases c : t < h + p
  · rw [if_pos c, Int.emod_eq_of_lt (by omega) (by omega), show h + (t - h) = t by omega]
  · rw [if_neg c]
theorem shift_tidy {L : List Iv} {d : Int} (h : Tidy L) : Tidy (L.map fun a => (a.1 - d, a.2 - d)) := by
  refine ⟨fun a ha => ?_, List.pairwise_map.mpr (h.2.imp fun {a b} z => ?_)⟩
  · obtain ⟨b, hb, rfl⟩ := List.mem_map.mp ha
    have := h.1 b hb
    dsimp only
    omega
  · dsimp only
    omega
theorem shift_in {L : List Iv} {d t : Int} : inL (L.map fun a => (a.1 - d, a.2 - d)) t = true ↔ inL L (t + d) = true := by
  rw [inL_iff, inL_iff]
  constructor
  · rintro ⟨a, ha, h1, h2⟩
    obtain ⟨b, hb, rfl⟩ := List.mem_map.mp ha
    dsimp only at h1 h2
    exact ⟨b, hb, by omega, by omega⟩
  · rintro ⟨b, hb, h1, h2⟩
    exact ⟨_, List.mem_map.mpr ⟨b, hb, rfl⟩, by dsimp only; omega, by dsimp only; omega⟩
theorem shift_edges {L : List Iv} {d : Int} : edges (L.map fun a => (a.1 - d, a.2 - d)) = (edges L).map fun e => e - d := by
  induction L with
  | nil => rfl
  | cons a r ih =>
    rw [List.map_cons, edges_cons, edges_cons, ih]
    rfl
/-- the head that the edges tell -/
theorem head_spec {P : Int → Prop} {h p : Int} {A B : List Iv} (h0 : 0 ≤ h) (p1 : 1 ≤ p) (ev : Ev h p P) (ta : Tidy A) (tb : Tidy B) (ia : ∀ t, inL A t = true ↔ P t ∧ 0 ≤ t ∧ t < h) (ib : ∀ t, inL B t = true ↔ P (t + p) ∧ 0 ≤ t ∧ t < h) :
    0 ≤ topE (trim (edges A).reverse (edges B).reverse).1 (trim (edges A).reverse (edges B).reverse).2 ∧ topE (trim (edges A).reverse (edges B).reverse).1 (trim (edges A).reverse (edges B).reverse).2 ≤ h ∧
    Ev (topE (trim (edges A).reverse (edges B).reverse).1 (trim (edges A).reverse (edges B).reverse).2) p P ∧
    (0 < topE (trim (edges A).reverse (edges B).reverse).1 (trim (edges A).reverse (edges B).reverse).2 → ¬ (P (topE (trim (edges A).reverse (edges B).reverse).1 (trim (edges A).reverse (edges B).reverse).2 - 1 + p) ↔ P (topE (trim (edges A).reverse (edges B).reverse).1 (trim (edges A).reverse (edges B).reverse).2 - 1))) := by
  have sp := trim_spec (edges A).reverse (edges B).reverse (List.pairwise_reverse.mpr (edges_up ta)) (List.pairwise_reverse.mpr (edges_up tb))
  have m0 : 0 ≤ topE (trim (edges A).reverse (edges B).reverse).1 (trim (edges A).reverse (edges B).reverse).2 := by unfold topE; omega
  generalize topE (trim (edges A).reverse (edges B).reverse).1 (trim (edges A).reverse (edges B).reverse).2 = m at sp m0 ⊢
  obtain ⟨s1, s2⟩ := sp
  rw [over_reverse, over_reverse] at s2
  have pa := fun t => over_edges (t := t) ta
  have pb := fun t => over_edges (t := t) tb
  have mh : m ≤ h := Int.not_lt.mp fun z => by
    have d := s2 (by omega)
    have na : ¬ over (edges A) (m - 1) % 2 = 1 := fun y => by have := (ia _).mp ((pa _).mpr y); omega
    have nb : ¬ over (edges B) (m - 1) % 2 = 1 := fun y => by have := (ib _).mp ((pb _).mpr y); omega
    omega
  refine ⟨m0, mh, fun t ht => ?_, fun hm => ?_⟩
  · by_cases c : t < h
    · have e := s1 t ht
      rw [over_reverse, over_reverse] at e
      have a := ia t
      have b := ib t
      rw [pa t, e, ← pb t, b] at a
      constructor
      · intro z
        exact (a.mp ⟨z, by omega, c⟩).1
      · intro z
        exact (a.mpr ⟨z, by omega, c⟩).1
    · exact ev t (by omega)
  · intro iff
    have d := s2 hm
    have a := ia (m - 1)
    have b := ib (m - 1)
    rw [pa] at a
    rw [pb] at b
    have ab : over (edges A) (m - 1) % 2 = 1 ↔ over (edges B) (m - 1) % 2 = 1 := by
      rw [a, b, iff]
    omega
/-- what least_period tells of the tail -/
inductive LeastP (h p : Int) (R : List Iv) : Int → Prop
  | one : R = [] ∨ R.headD (0, 0) = (h, h + p) → LeastP h p R 1
  | steps {size : Nat} : R ≠ [] → R.headD (0, 0) ≠ (h, h + p) → 1 ≤ size → size ≤ (runsOf h p R).length → (size = (runsOf h p R).length ∨ sizeOk (stepsOf p (runsOf h p R)) size = true) → (∀ k, 1 ≤ k → k < size → sizeOk (stepsOf p (runsOf h p R)) k = false) →
      LeastP h p R (p * size / (runsOf h p R).length)
theorem LeastP.spec {h p q : Int} {R : List Iv} (p1 : 1 ≤ p) (td : Tidy R) (box : ∀ a ∈ R, h ≤ a.1 ∧ a.2 ≤ h + p) (l : LeastP h p R q) : Ev h q (rnd h p R) ∧ 1 ≤ q ∧ q ≤ p ∧ ∀ q' h', 1 ≤ q' → Ev h' q' (rnd h p R) → q ≤ q' := by
  cases l with
  | one e =>
    have u := fun t => Int.emod_nonneg (t - h) (show p ≠ 0 by omega)
    have v := fun t => Int.emod_lt_of_pos (t - h) (show 0 < p by omega)
    refine ⟨fun t _ => ?_, Int.le_refl _, p1, fun q' _ hq _ => hq⟩
    rcases e with rfl | e
    · simp [rnd, inL]
    · have all : ∀ t, rnd h p R t := fun t => by
        rcases R with _ | ⟨a, r⟩
        · have : (0 : Int) = h := congrArg Prod.fst e
          have : (0 : Int) = h + p := congrArg Prod.snd e
          omega
        · have e : a = (h, h + p) := e
          have := u t
          have := v t
          exact inL_cons.mpr (Or.inl ⟨by rw [e]; dsimp only; omega, by rw [e]; dsimp only; omega⟩)
      exact ⟨fun _ => all _, fun _ => all _⟩
  | steps ne nf h1 hm ok first => exact (Tail.mk p1 td box ne nf).least h1 hm ok first
/-- the whole form -/
theorem form_canon {h p q : Int} {U R W N Th L : List Iv} (h0 : 0 ≤ h) (p1 : 1 ≤ p) (tu : Tidy U) (bu : ∀ a ∈ U, 0 ≤ a.1 ∧ a.2 ≤ h + p) (cr : Cut U h (h + p) R) (lp : LeastP h p R q) (cw : Cut U 0 (h + q) W) (cn : Cut W 0 h N) (ct : Cut W q (h + q) Th)
    (cl : ∀ m, m = topE (trim (edges N).reverse ((edges Th).map fun e => e - q).reverse).1 (trim (edges N).reverse ((edges Th).map fun e => e - q).reverse).2 → Cut W 0 (m + q) L) :
    Canon (ext h p fun t => inL U t = true) (topE (trim (edges N).reverse ((edges Th).map fun e => e - q).reverse).1 (trim (edges N).reverse ((edges Th).map fun e => e - q).reverse).2) q L := by
  obtain ⟨ev, q1, qp, le⟩ := lp.spec p1 cr.1 cr.box
  have same : ∀ t, h ≤ t → (ext h p (fun t => inL U t = true) t ↔ rnd h p R t) := fun t ht => by
    rw [ext_tail ht]
    unfold rnd
    have u := Int.emod_nonneg (t - h) (show p ≠ 0 by omega)
    have v := Int.emod_lt_of_pos (t - h) (show 0 < p by omega)
    rw [cr.2]
    exact ⟨fun z => ⟨z, by omega, by omega⟩, fun z => z.1⟩
  have evP : Ev h q (ext h p fun t => inL U t = true) := fun t ht => by
    rw [same t ht, same _ (by omega)]
    exact ev t ht
  have low : ∀ t, t < h + q → (ext h p (fun t => inL U t = true) t ↔ inL U t = true) := fun t ht => ext_low (by omega)
  have hs := head_spec (A := N) (B := Th.map fun a => (a.1 - q, a.2 - q)) h0 q1 evP cn.1 (shift_tidy ct.1) (fun t => by
      rw [cn.2, cw.2]
      constructor
      · rintro ⟨⟨a, b, c⟩, d, e⟩
        exact ⟨(low t (by omega)).mpr a, d, e⟩
      · rintro ⟨a, b, c⟩
        exact ⟨⟨(low t (by omega)).mp a, b, by omega⟩, b, c⟩) (fun t => by
      rw [shift_in, ct.2, cw.2]
      constructor
      · rintro ⟨⟨a, b, c⟩, d, e⟩
        exact ⟨(low _ (by omega)).mpr a, by omega, by omega⟩
      · rintro ⟨a, b, c⟩
        exact ⟨⟨(low _ (by omega)).mp a, by omega, by omega⟩, by omega, by omega⟩)
  rw [shift_edges] at hs
  obtain ⟨m0, mh, em, lh⟩ := hs
  have cl := cl _ rfl
  refine ⟨m0, q1, em, fun q' h' hq e => ?_, lh, cl.1, fun t => ?_⟩
  · refine le q' (max h h') hq fun t ht => ?_
    rw [← same t (by omega), ← same (t + q') (by omega)]
    exact e t (by omega)
  · rw [cl.2, cw.2]
    constructor
    · rintro ⟨⟨a, b, c⟩, d, e⟩
      exact ⟨(low t (by omega)).mpr a, d, e⟩
    · rintro ⟨a, b, c⟩
      exact ⟨⟨(low t (by omega)).mp a, b, by omega⟩, b, c⟩
end My

namespace My
/-! ### the form of minutes that are taken by as times as long -/
def scaleL (b top : Int) (L : List Iv) : List Iv := L.map fun a => (a.1 * b, min (a.2 * b) top)
theorem div_range {t b x y : Int} (hb : 1 ≤ b) : (x ≤ t / b ∧ t / b < y) ↔ (x * b ≤ t ∧ t < y * b) := by
  constructor
  · rintro ⟨h1, h2⟩
    exact ⟨(Int.le_ediv_iff_mul_le (by omega)).mp h1, (Int.ediv_lt_iff_lt_mul (by omega)).mp h2⟩
  · rintro ⟨h1, h2⟩
    exact ⟨(Int.le_ediv_iff_mul_le (by omega)).mpr h1, (Int.ediv_lt_iff_lt_mul (by omega)).mpr h2⟩
theorem div_pred {u b : Int} (hb : 1 ≤ b) (h : u % b ≠ 0) : (u - 1) / b = u / b := by
  have s1 := Int.mul_ediv_add_emod u b
  have r0 := Int.emod_nonneg u (show b ≠ 0 by omega)
  have r1 := Int.emod_lt_of_pos u (show 0 < b by omega)
  have e : u / b * b = b * (u / b) := Int.mul_comm _ _
  have := (div_range (t := u - 1) (x := u / b) (y := u / b + 1) hb).mpr ⟨by omega, by rw [Int.add_mul]; omega⟩
  omega
theorem Canon.const {P : Int → Prop} {h : Int} {L : List Iv} (c : Canon P h 1 L) {x : Int} (hx : h ≤ x) : P x ↔ P h := by
  have e := c.ev.mul (by decide) (x - h).toNat (t := h) (Int.le_refl _)
  rw [show h + 1 * (((x - h).toNat : Nat) : Int) = x by omega] at e
  exact e
theorem Canon.box {P : Int → Prop} {h p : Int} {L : List Iv} (c : Canon P h p L) : ∀ a ∈ L, 0 ≤ a.1 ∧ a.2 ≤ h + p := fun a ha => by
  have w := c.td.1 a ha
  have u := (c.inl a.1).mp (inL_iff.mpr ⟨a, ha, Int.le_refl _, w⟩)
  have v := (c.inl (a.2 - 1)).mp (inL_iff.mpr ⟨a, ha, by omega, by omega⟩)
  omega
theorem Canon.scale {P : Int → Prop} {h p b : Int} {L : List Iv} (c : Canon P h p L) (hb : 1 ≤ b) : Canon (fun t => P (t / b)) (h * b) (if p > 1 then p * b else 1) (scaleL b (h * b + if p > 1 then p * b else 1) L) := by
  have h0 := c.h0
  have p1 := c.p1
  have hm := Int.mul_nonneg h0 (show 0 ≤ b by omega)
  have top : ∀ t, 0 ≤ t → t < h * b + (if p > 1 then p * b else 1) → t / b < h + p := fun t t0 ht => by
    by_cases z : p > 1
    · rw [if_pos z] at ht
      exact (Int.ediv_lt_iff_lt_mul (by omega)).mpr (by rw [Int.add_mul]; exact ht)
    · rw [if_neg z] at ht
      have : t / b ≤ h := by
        have : t / b < h + 1 := (Int.ediv_lt_iff_lt_mul (by omega)).mpr (by rw [Int.add_mul]; omega)
        omega
      omega
  refine ⟨hm, ?_, fun t ht => ?_, fun q h' hq e => ?_, fun hp => ?_, ⟨fun a ha => ?_, List.pairwise_map.mpr ?_⟩, fun t => ?_⟩
  · by_cases z : p > 1
    · rw [if_pos z]
      have : 1 * 1 ≤ p * b := Int.mul_le_mul p1 hb (by decide) (by omega)
      omega
    · rw [if_neg z]
      exact Int.le_refl _
  · have g : h ≤ t / b := (Int.le_ediv_iff_mul_le (by omega)).mpr ht
    by_cases z : p > 1
    · rw [if_pos z]
      show P ((t + p * b) / b) ↔ P (t / b)
      rw [Int.add_mul_ediv_right _ _ (show b ≠ 0 by omega)]
      exact c.ev _ g
    · rw [if_neg z]
      have e1 : p = 1 := by omega
      subst e1
      have g2 : h ≤ (t + 1) / b := (Int.le_ediv_iff_mul_le (by omega)).mpr (by omega)
      show P ((t + 1) / b) ↔ P (t / b)
      rw [c.const g, c.const g2]
  · by_cases z : p > 1
    case neg => rw [if_neg z]; exact hq
    rw [if_pos z]
    -- the set turns somewhere far out
    have far : ∃ x, 0 ≤ x ∧ h' ≤ x ∧ ¬ (P (x + 1) ↔ P x) := Classical.byContradiction fun no => by
      have : Ev (max 0 h') 1 P := fun t ht => Classical.byContradiction fun y => no ⟨t, by omega, by omega, y⟩
      have := c.least 1 _ (Int.le_refl _) this
      omega
    obtain ⟨x, x0, x1, turn⟩ := far
    have xb : x ≤ x * b := by
      have : x * 1 ≤ x * b := Int.mul_le_mul_of_nonneg_left hb x0
      omega
    have t1 : ((x + 1) * b - 1) / b = x := by
      have := (div_range (t := (x + 1) * b - 1) (x := x) (y := x + 1) hb).mpr ⟨by rw [Int.add_mul]; omega, by omega⟩
      omega
    have t2 : ((x + 1) * b) / b = x + 1 := Int.mul_ediv_cancel _ (by omega)
    have e1 := e ((x + 1) * b - 1) (by rw [Int.add_mul]; omega)
    have e2 := e ((x + 1) * b) (by rw [Int.add_mul]; omega)
    dsimp only at e1 e2
    rw [t1] at e1
    rw [t2] at e2
    have dv : b ∣ q := by
      have ne : ((x + 1) * b - 1 + q) / b ≠ ((x + 1) * b + q) / b := fun y => turn (by rw [← e2, ← e1, y])
      have z0 : ((x + 1) * b + q) % b = 0 := Classical.byContradiction fun y => ne (by
        have := div_pred hb y
        rw [← this]
        congr 1
        omega)
      have := Int.dvd_of_emod_eq_zero z0
      exact (Int.dvd_add_right ⟨x + 1, Int.mul_comm _ _⟩).mp this
    obtain ⟨q1, rfl⟩ := dv
    have q1p : 1 ≤ q1 := by
      have : 0 < q1 := Int.pos_of_mul_pos_right (a := b) (by omega) (by omega) |> fun f => f
      omega
    have : p ≤ q1 := c.least q1 (max 0 h') q1p fun y hy => by
      have yb : y ≤ y * b := by
        have : y * 1 ≤ y * b := Int.mul_le_mul_of_nonneg_left hb (by omega)
        omega
      have w := e (y * b) (by omega)
      dsimp only at w
      rw [show y * b + b * q1 = (y + q1) * b by rw [Int.add_mul, Int.mul_comm b q1], Int.mul_ediv_cancel _ (by omega), Int.mul_ediv_cancel _ (by omega)] at w
      exact w
    rw [Int.mul_comm]
    exact Int.mul_le_mul_of_nonneg_left this (by omega)
  · have hp1 : 0 < h := by
      by_cases z : h = 0
      · subst z
        simp at hp
      · omega
    have t1 : (h * b - 1) / b = h - 1 := by
      have := (div_range (t := h * b - 1) (x := h - 1) (y := h) hb).mpr ⟨by rw [Int.sub_mul]; omega, by omega⟩
      omega
    have lh := c.lh hp1
    show ¬ (P ((h * b - 1 + if p > 1 then p * b else 1) / b) ↔ P ((h * b - 1) / b))
    rw [t1]
    by_cases z : p > 1
    · rw [if_pos z, Int.add_mul_ediv_right _ _ (show b ≠ 0 by omega), t1]
      exact lh
    · rw [if_neg z, show h * b - 1 + 1 = h * b by omega, Int.mul_ediv_cancel _ (by omega)]
      have e1 : p = 1 := by omega
      rw [e1, show h - 1 + 1 = h by omega] at lh
      exact lh
  · obtain ⟨x, hx, rfl⟩ := List.mem_map.mp ha
    have w := c.td.1 x hx
    have bx := c.box x hx
    have a1 : x.1 * b < x.2 * b := Int.mul_lt_mul_of_pos_right w (by omega)
    have a2 : x.1 * b ≤ (h + p - 1) * b := Int.mul_le_mul_of_nonneg_right (by omega) (by omega)
    dsimp only
    by_cases z : p > 1
    · rw [if_pos z]
      rw [Int.sub_mul, Int.add_mul] at a2
      omega
    · rw [if_neg z]
      have e1 : p = 1 := by omega
      rw [e1, show h + 1 - 1 = h by omega] at a2
      omega
  · refine c.td.2.imp fun {x y} g => ?_
    have : x.2 * b < y.1 * b := Int.mul_lt_mul_of_pos_right g (by omega)
    dsimp only
    omega
  · rw [inL_iff]
    constructor
    · rintro ⟨a, ha, u1, u2⟩
      obtain ⟨x, hx, rfl⟩ := List.mem_map.mp ha
      dsimp only at u1 u2
      have bx := c.box x hx
      have x0 := Int.mul_nonneg bx.1 (show 0 ≤ b by omega)
      have d := (div_range (t := t) (x := x.1) (y := x.2) hb).mpr ⟨u1, by omega⟩
      exact ⟨((c.inl _).mp (inL_iff.mpr ⟨x, hx, d.1, d.2⟩)).1, by omega, by omega⟩
    · rintro ⟨pt, t0, tt⟩
      have d0 : 0 ≤ t / b := Int.ediv_nonneg t0 (by omega)
      obtain ⟨x, hx, v1, v2⟩ := inL_iff.mp ((c.inl (t / b)).mpr ⟨pt, d0, top t t0 tt⟩)
      have d := (div_range (t := t) (x := x.1) (y := x.2) hb).mp ⟨v1, v2⟩
      exact ⟨_, List.mem_map.mpr ⟨x, hx, rfl⟩, d.1, by dsimp only; omega⟩
end My

namespace My
/-! ### the form that the law reads off its row of minutes -/
def bt (bits : List Bool) (t : Int) : Prop := bits.getD t.toNat false = true
def turnOk (tail : List Bool) (p : Nat) : Prop := tail.length % p = 0 ∧ tail = tail.drop p ++ tail.take p
def tf (tail : List Bool) (i : Nat) : Bool := tail.getD (i % tail.length) false
theorem tf_per {tail : List Bool} (i : Nat) : tf tail (i + tail.length) = tf tail i := by
  unfold tf
  rw [Nat.add_mod_right]
theorem tf_mod {tail : List Bool} (i : Nat) : tf tail (i % tail.length) = tf tail i := by
  unfold tf
  rw [Nat.mod_mod]
theorem turn_per {tail : List Bool} {p : Nat} (l : 1 ≤ tail.length) (hp : p ≤ tail.length) (h : tail = tail.drop p ++ tail.take p) (i : Nat) : tf tail (i + p) = tf tail i := by
  have low : ∀ i, i < tail.length → tf tail (i + p) = tf tail i := fun i hi => by
    have e : tail[i]? = (tail.drop p ++ tail.take p)[i]? := congrArg (fun l => l[i]?) h
    unfold tf
    rw [Nat.mod_eq_of_lt hi, List.getD_eq_getElem?_getD, List.getD_eq_getElem?_getD, e]
    by_cases c : i + p < tail.length
    · rw [Nat.mod_eq_of_lt c, List.getElem?_append_left (by rw [List.length_drop]; omega), List.getElem?_drop, Nat.add_comm]
    · have m : (i + p) % tail.length = i + p - tail.length := by
        rw [Nat.mod_eq_sub_mod (by omega)]
        by_cases z : i + p - tail.length < tail.length
        · exact Nat.mod_eq_of_lt z
        · omega
      rw [m, List.getElem?_append_right (by rw [List.length_drop]; omega), List.length_drop, List.getElem?_take, if_pos (by omega)]
      congr 2
      omega
  have a := low (i % tail.length) (Nat.mod_lt _ (by omega))
  rw [tf_mod] at a
  rw [← a]
  unfold tf
  rw [Nat.mod_add_mod]
theorem per_turn {tail : List Bool} {p : Nat} (l : 1 ≤ tail.length) (hp : p ≤ tail.length) (h : ∀ i, tf tail (i + p) = tf tail i) : tail = tail.drop p ++ tail.take p := by
  refine List.ext_getElem? fun i => ?_
  by_cases c : i < tail.length
  · have e := h i
    unfold tf at e
    rw [Nat.mod_eq_of_lt c] at e
    have gi := List.getElem?_eq_getElem c
    rw [getD_some gi] at e
    rw [gi]
    by_cases c2 : i + p < tail.length
    · rw [Nat.mod_eq_of_lt c2] at e
      have g2 := List.getElem?_eq_getElem c2
      rw [getD_some g2] at e
      rw [List.getElem?_append_left (by rw [List.length_drop]; omega), List.getElem?_drop, Nat.add_comm p i, g2, e]
    · have m : (i + p) % tail.length = i + p - tail.length := by
        rw [Nat.mod_eq_sub_mod (by omega)]
        exact Nat.mod_eq_of_lt (by omega)
      rw [m] at e
      have g2 := List.getElem?_eq_getElem (show i + p - tail.length < tail.length by omega)
      rw [getD_some g2] at e
      rw [List.getElem?_append_right (by rw [List.length_drop]; omega), List.length_drop, List.getElem?_take, if_pos (by omega), show i - (tail.length - p) = i + p - tail.length by omega, g2, e]
  · rw [List.getElem?_eq_none (by omega), List.getElem?_eq_none (by simp; omega)]
theorem law_canon {bits : List Bool} {head : Nat} {least start : Nat} {L : List Iv} (ln : head < bits.length) (l1 : 1 ≤ least) (l2 : least ≤ bits.length - head) (ok : turnOk (bits.drop head) least) (first : ∀ k, 1 ≤ k → k < least → ¬ turnOk (bits.drop head) k)
    (sh : start ≤ head) (same : ∀ t, start ≤ t → t < head → bits.getD t false = bits.getD (t + least) false) (diff : 0 < start → bits.getD (start - 1) false ≠ bits.getD (start - 1 + least) false)
    (td : Tidy L) (inl : ∀ t, inL L t = true ↔ bt bits t ∧ 0 ≤ t ∧ t < (start : Int) + least) :
    Canon (ext head ((bits.length - head : Nat) : Int) (bt bits)) start least L := by
  have tl : (bits.drop head).length = bits.length - head := List.length_drop
  have tl1 : 1 ≤ (bits.drop head).length := by omega
  -- the tail, place by place
  have at_ : ∀ i : Nat, ext head ((bits.length - head : Nat) : Int) (bt bits) ((head : Int) + i) ↔ tf (bits.drop head) i = true := fun i => by
    rw [ext_tail (by omega)]
    unfold bt tf
    rw [tl, List.getD_eq_getElem?_getD, List.getD_eq_getElem?_getD, List.getElem?_drop]
    have e : ((head : Int) + ((head : Int) + i - head) % ((bits.length - head : Nat) : Int)).toNat = head + i % (bits.length - head) := by
      rw [show (head : Int) + i - head = (i : Int) by omega, ← Int.natCast_emod]
      omega
    rw [e]
  have evL : Ev head ((bits.length - head : Nat) : Int) (ext head ((bits.length - head : Nat) : Int) (bt bits)) := fun t ht => by
    obtain ⟨i, rfl⟩ : ∃ i : Nat, t = (head : Int) + i := ⟨(t - head).toNat, by omega⟩
    have a := at_ (i + (bits.length - head))
    rw [show (head : Int) + ((i + (bits.length - head) : Nat) : Int) = (head : Int) + i + ((bits.length - head : Nat) : Int) by omega] at a
    rw [a, at_ i, ← tl, tf_per]
  have per : ∀ (q : Nat), (∀ i, tf (bits.drop head) (i + q) = tf (bits.drop head) i) → Ev head q (ext head ((bits.length - head : Nat) : Int) (bt bits)) := fun q hq t ht => by
    obtain ⟨i, rfl⟩ : ∃ i : Nat, t = (head : Int) + i := ⟨(t - head).toNat, by omega⟩
    have a := at_ (i + q)
    rw [show (head : Int) + ((i + q : Nat) : Int) = (head : Int) + i + q by omega] at a
    rw [a, at_ i, hq]
  have lowP : ∀ t : Int, t < bits.length → (ext head ((bits.length - head : Nat) : Int) (bt bits) t ↔ bt bits t) := fun t ht => ext_low (by omega)
  have evH := per least fun i => turn_per tl1 (by omega) ok.2 i
  refine ⟨by omega, by omega, fun t ht => ?_, fun q h' hq e => ?_, fun hs => ?_, td, fun t => ?_⟩
  · by_cases c : (head : Int) ≤ t
    · exact evH t c
    · obtain ⟨i, rfl⟩ : ∃ i : Nat, t = (i : Int) := ⟨t.toNat, by omega⟩
      rw [lowP _ (by omega), lowP _ (by omega)]
      unfold bt
      have e : ((i : Int) + least).toNat = i + least := by omega
      rw [e, Int.toNat_natCast, same i (by omega) (by omega)]
  · have eb := evL.back (by omega) (by omega) e
    have hf : ∀ i, tf (bits.drop head) (i + q.toNat) = tf (bits.drop head) i := fun i => by
      have a := eb ((head : Int) + i) (by omega)
      rw [show (head : Int) + i + q = (head : Int) + ((i + q.toNat : Nat) : Int) by omega, at_, at_] at a
      exact bool_ext a
    have hg := gcd_per q.toNat (bits.drop head).length hf tf_per
    have g1 : 1 ≤ Nat.gcd q.toNat (bits.drop head).length := Nat.gcd_pos_of_pos_right _ (by omega)
    have gl : Nat.gcd q.toNat (bits.drop head).length ≤ (bits.drop head).length := Nat.gcd_le_right _ (by omega)
    have gq : Nat.gcd q.toNat (bits.drop head).length ≤ q.toNat := Nat.gcd_le_left _ (by omega)
    have : least ≤ Nat.gcd q.toNat (bits.drop head).length := Nat.le_of_not_lt fun z => first _ g1 z ⟨Nat.mod_eq_zero_of_dvd (Nat.gcd_dvd_right _ _), per_turn tl1 gl hg⟩
    omega
  · have d := diff (by omega)
    rw [lowP _ (by omega), lowP _ (by omega)]
    unfold bt
    have e1 : ((start : Int) - 1).toNat = start - 1 := by omega
    have e2 : ((start : Int) - 1 + least).toNat = start - 1 + least := by omega
    rw [e1, e2]
    intro z
    exact d (bool_ext z).symm
  · rw [inl]
    constructor
    · rintro ⟨a, b, c⟩
      exact ⟨(lowP t (by omega)).mpr a, b, c⟩
    · rintro ⟨a, b, c⟩
      exact ⟨(lowP t (by omega)).mp a, b, c⟩
end My

namespace My
theorem Ev.congr {h p : Int} {P Q : Int → Prop} (hp : 0 ≤ p) (h0 : 0 ≤ h) (e : ∀ t, 0 ≤ t → (P t ↔ Q t)) (a : Ev h p P) : Ev h p Q := fun t ht => by
  rw [← e t (by omega), ← e (t + p) (by omega)]
  exact a t ht
theorem Canon.congr {P Q : Int → Prop} {h p : Int} {L : List Iv} (c : Canon P h p L) (e : ∀ t, 0 ≤ t → (P t ↔ Q t)) : Canon Q h p L := by
  have h0 := c.h0
  have p1 := c.p1
  refine ⟨h0, p1, c.ev.congr (by omega) h0 e, fun q h' hq a => ?_, fun hh => ?_, c.td, fun t => ?_⟩
  · refine c.least q (max 0 h') hq (Ev.congr (P := Q) (by omega) (by omega) (fun t ht => (e t ht).symm) fun t ht => a t (by omega))
  · rw [← e _ (by omega), ← e _ (by omega)]
    exact c.lh hh
  · rw [c.inl]
    constructor
    · rintro ⟨a, b, d⟩
      exact ⟨(e t b).mp a, b, d⟩
    · rintro ⟨a, b, d⟩
      exact ⟨(e t b).mpr a, b, d⟩
/-- minutes by as times as long, carried on -/
theorem ext_scale {h p b : Int} {X Y : Int → Prop} (hb : 1 ≤ b) (h0 : 0 ≤ h) (p1 : 1 ≤ p) (e : ∀ t, 0 ≤ t → (X t ↔ Y (t / b))) {t : Int} (ht : 0 ≤ t) : ext (h * b) (p * b) X t ↔ ext h p Y (t / b) := by
  have hm := Int.mul_nonneg h0 (show 0 ≤ b by omega)
  by_cases c : t < h * b + p * b
  · have c2 : t / b < h + p := (Int.ediv_lt_iff_lt_mul (by omega)).mpr (by rw [Int.add_mul]; exact c)
    rw [ext_low c, ext_low c2, e t ht]
  · have c1 : h * b ≤ t := by
      have := Int.mul_nonneg (show 0 ≤ p by omega) (show 0 ≤ b by omega)
      omega
    have c2 : h ≤ t / b := (Int.le_ediv_iff_mul_le (by omega)).mpr c1
    rw [ext_tail c1, ext_tail c2]
    have pb : 0 < p * b := Int.mul_pos (by omega) (by omega)
    have r0 := Int.emod_nonneg (t - h * b) (show p * b ≠ 0 by omega)
    rw [e _ (by omega)]
    have key : (h * b + (t - h * b) % (p * b)) / b = h + (t / b - h) % p := by
      have d1 := Int.mul_ediv_add_emod t b
      have m0 := Int.emod_nonneg t (show b ≠ 0 by omega)
      have m1 := Int.emod_lt_of_pos t (show 0 < b by omega)
      have d2 := Int.mul_ediv_add_emod (t / b - h) p
      have n0 := Int.emod_nonneg (t / b - h) (show p ≠ 0 by omega)
      have n1 := Int.emod_lt_of_pos (t / b - h) (show 0 < p by omega)
      have e1 : t - h * b = ((t / b - h) % p * b + t % b) + p * b * ((t / b - h) / p) := by
        have x1 : b * (t / b) = t / b * b := Int.mul_comm _ _
        have x2 : (t / b - h) * b = t / b * b - h * b := Int.sub_mul _ _ _
        have x3 : (p * ((t / b - h) / p) + (t / b - h) % p) * b = p * ((t / b - h) / p) * b + (t / b - h) % p * b := Int.add_mul _ _ _
        have x4 : p * ((t / b - h) / p) * b = p * b * ((t / b - h) / p) := by rw [Int.mul_assoc, Int.mul_comm ((t / b - h) / p) b, ← Int.mul_assoc]
        rw [d2] at x3
        omega
      have u0 := Int.mul_nonneg n0 (show 0 ≤ b by omega)
      have u1 : (t / b - h) % p * b ≤ (p - 1) * b := Int.mul_le_mul_of_nonneg_right (by omega) (by omega)
      have u2 : (p - 1) * b = p * b - 1 * b := Int.sub_mul _ _ _
      rw [e1, Int.add_mul_emod_self_left, Int.emod_eq_of_lt (by omega) (by omega)]
      have := (div_range (t := h * b + ((t / b - h) % p * b + t % b)) (x := h + (t / b - h) % p) (y := h + (t / b - h) % p + 1) hb).mpr ⟨by rw [Int.add_mul]; omega, by rw [Int.add_mul, Int.add_mul]; omega⟩
      omega
    rw [key]
end My

namespace My
/-! ### cutting out a part -/
def below (L : List Iv) (m : Int) : Nat := L.countP fun a => decide (a.1 < m)
theorem below_cons {a : Iv} {r : List Iv} {m : Int} : below (a :: r) m = below r m + if a.1 < m then 1 else 0 := by
  unfold below
  rw [List.countP_cons]
  simp
theorem below_le {L : List Iv} {m : Int} : below L m ≤ L.length := List.countP_le_length
theorem below_spec : ∀ {L : List Iv} {m : Int} {i : Nat} {a : Iv}, Tidy L → L[i]? = some a → (i < below L m ↔ a.1 < m)
  | [], _, _, _, _, h => by simp at h
  | b :: r, m, i, a, td, h => by
    obtain ⟨t1, t2, t3⟩ := Tidy.cons.mp td
    rw [below_cons]
    cases i with
    | zero =>
      simp at h
      subst h
      by_cases c : b.1 < m
      · simp [c]
      · have : below r m = 0 := by
          unfold below
          refine List.countP_eq_zero.mpr fun x hx => ?_
          have := t2 x hx
          simp
          omega
        simp [c, this]
    | succ j =>
      rw [List.getElem?_cons_succ] at h
      have ih := below_spec (m := m) t3 h
      have := t2 a (List.mem_of_getElem? h)
      by_cases c : b.1 < m
      · rw [if_pos c]
        omega
      · rw [if_neg c]
        omega
def firstC (L : List Iv) (s : Int) : Nat := if 0 < below L s ∧ s < (L.getD (below L s - 1) (0, 0)).2 then below L s - 1 else below L s
def cutC (L : List Iv) (s e : Int) : List Iv := (L.drop (firstC L s)).take (below L e - firstC L s)
def clamp (s e : Int) (a : Iv) : Iv := (max a.1 s, min a.2 e)
theorem cutC_get {L : List Iv} {s e : Int} {i : Nat} {a : Iv} : (cutC L s e)[i]? = some a ↔ i < below L e - firstC L s ∧ L[firstC L s + i]? = some a := by
  unfold cutC
  rw [List.getElem?_take]
  by_cases c : i < below L e - firstC L s
  · rw [if_pos c, List.getElem?_drop]
    exact ⟨fun h => ⟨c, h⟩, fun h => h.2⟩
  · rw [if_neg c]
    exact ⟨fun h => (nomatch h), fun h => absurd h.1 c⟩
theorem cut_len {L : List Iv} {s e : Int} : (cutC L s e).length = below L e - firstC L s := by
  unfold cutC
  rw [List.length_take, List.length_drop]
  have := below_le (L := L) (m := e)
  omega
theorem tidy_lt {L : List Iv} (h : Tidy L) {i j : Nat} {a b : Iv} (hij : i < j) (ha : L[i]? = some a) (hb : L[j]? = some b) : a.2 < b.1 := by
  obtain ⟨hi, rfl⟩ := List.getElem?_eq_some_iff.mp ha
  obtain ⟨hj, rfl⟩ := List.getElem?_eq_some_iff.mp hb
  exact List.pairwise_iff_getElem.mp h.2 i j hi hj hij
theorem cut_in {L : List Iv} {s e : Int} (td : Tidy L) (lt : s < e) {i : Nat} {a : Iv} (h : (cutC L s e)[i]? = some a) : a.1 < e ∧ s < a.2 ∧ (0 < i → s ≤ a.1) ∧ (i + 1 < (cutC L s e).length → a.2 ≤ e) ∧ a.1 < a.2 := by
  obtain ⟨h1, h2⟩ := cutC_get.mp h
  have ma := td.1 a (List.mem_of_getElem? h2)
  have b1 := below_spec (m := e) td h2
  have b2 := below_spec (m := s) td h2
  have hf : below L s ≤ firstC L s + 1 := by unfold firstC; split <;> omega
  refine ⟨by omega, ?_, fun z => by omega, fun z => ?_, ma⟩
  · by_cases c : firstC L s + i < below L s
    · have e1 : firstC L s = below L s - 1 ∧ i = 0 := by unfold firstC at c ⊢; split at c <;> split <;> omega
      have e2 : 0 < below L s ∧ s < (L.getD (below L s - 1) (0, 0)).2 := by
        by_cases z : 0 < below L s ∧ s < (L.getD (below L s - 1) (0, 0)).2
        · exact z
        · unfold firstC at c
          rw [if_neg z] at c
          omega
      have e3 : firstC L s + i = below L s - 1 := by omega
      rw [e3] at h2
      have := e2.2
      rw [List.getD_eq_getElem?_getD, h2] at this
      exact this
    · omega
  · rw [cut_len] at z
    have hb := below_le (L := L) (m := e)
    obtain ⟨b, hb⟩ : ∃ b, L[firstC L s + i + 1]? = some b := ⟨_, List.getElem?_eq_getElem (by omega)⟩
    have b3 := (below_spec (m := e) td hb).mp (by omega)
    have := tidy_lt td (show firstC L s + i < firstC L s + i + 1 by omega) h2 hb
    omega
theorem cut_ok {L : List Iv} {s e : Int} (td : Tidy L) (lt : s < e) : Cut L s e ((cutC L s e).map (clamp s e)) := by
  refine ⟨⟨fun a ha => ?_, ?_⟩, fun t => ?_⟩
  · obtain ⟨b, hb, rfl⟩ := List.mem_map.mp ha
    obtain ⟨i, hi⟩ := List.mem_iff_getElem?.mp hb
    obtain ⟨h1, h2, _, _, h5⟩ := cut_in td lt hi
    unfold clamp
    dsimp only
    omega
  · rw [List.pairwise_map]
    refine List.Pairwise.imp (R := fun (a b : Iv) => a.2 < b.1) (fun {a b} z => ?_) ?_
    · unfold clamp
      dsimp only
      omega
    · unfold cutC
      exact (td.2.sublist (List.drop_sublist _ _)).sublist (List.take_sublist _ _)
  · rw [inL_iff, inL_iff]
    constructor
    · rintro ⟨a, ha, z1, z2⟩
      obtain ⟨b, hb, rfl⟩ := List.mem_map.mp ha
      have hb' : b ∈ L := List.mem_of_mem_drop (List.mem_of_mem_take hb)
      unfold clamp at z1 z2
      dsimp only at z1 z2
      exact ⟨⟨b, hb', by omega, by omega⟩, by omega, by omega⟩
    · rintro ⟨⟨a, ha, z1, z2⟩, z3, z4⟩
      obtain ⟨j, hj⟩ := List.mem_iff_getElem?.mp ha
      have b1 := (below_spec (m := e) td hj).mpr (by omega)
      have hf : firstC L s ≤ j := by
        have b2 := below_spec (m := s) td hj
        unfold firstC
        by_cases c : j < below L s
        · have e1 : j = below L s - 1 := by
            by_cases c2 : j = below L s - 1
            · exact c2
            · have hl := below_le (L := L) (m := s)
              obtain ⟨b, hb⟩ : ∃ b, L[below L s - 1]? = some b := ⟨_, List.getElem?_eq_getElem (by omega)⟩
              have b3 := (below_spec (m := s) td hb).mp (by omega)
              have := tidy_lt td (show j < below L s - 1 by omega) hj hb
              omega
          rw [if_pos ⟨by omega, by rw [← e1, List.getD_eq_getElem?_getD, hj]; show s < a.2; omega⟩]
          omega
        · split <;> omega
      refine ⟨clamp s e a, List.mem_map.mpr ⟨a, List.mem_of_getElem? (i := j - firstC L s) (cutC_get.mpr ⟨by omega, by rw [show firstC L s + (j - firstC L s) = j by omega]; exact hj⟩), rfl⟩, ?_, ?_⟩
      · unfold clamp; dsimp only; omega
      · unfold clamp; dsimp only; omega
theorem cut_none {L : List Iv} {s e : Int} (h : e ≤ s) : Cut L s e [] := ⟨.nil, fun t => ⟨fun z => (nomatch z), fun ⟨_, _, _⟩ => by omega⟩⟩
/-- the two ends set: what the program does -/
theorem cut_ends {L : List Iv} {s e : Int} (td : Tidy L) (lt : s < e) {a z : Iv} {C M : List Iv} (h : cutC L s e = a :: C) (h2 : (max a.1 s, a.2) :: C = M ++ [z]) : M ++ [(z.1, min z.2 e)] = (cutC L s e).map (clamp s e) := by
  refine List.ext_getElem? fun i => ?_
  have lM : M.length = C.length := by have := congrArg List.length h2; simp at this; omega
  have key : ∀ (j : Nat) (b : Iv), (cutC L s e)[j]? = some b → ((max a.1 s, a.2) :: C)[j]? = some (max b.1 s, b.2) := fun j b hb => by
    have q := cut_in td lt hb
    rw [h] at hb
    cases j with
    | zero => simp at hb; subst hb; rfl
    | succ j =>
      rw [List.getElem?_cons_succ] at hb ⊢
      have := q.2.2.1 (by omega)
      rw [hb, show max b.1 s = b.1 by omega]
  rw [List.getElem?_map]
  by_cases c : i < C.length + 1
  · obtain ⟨b, hb⟩ : ∃ b, (cutC L s e)[i]? = some b := ⟨_, List.getElem?_eq_getElem (by rw [h, List.length_cons]; exact c)⟩
    have k := key i b hb
    rw [h2] at k
    have q := cut_in td lt hb
    rw [hb]
    by_cases c2 : i < M.length
    · rw [List.getElem?_append_left c2] at k ⊢
      rw [k]
      have := q.2.2.2.1 (by rw [h, List.length_cons]; omega)
      show some (max b.1 s, b.2) = some (max b.1 s, min b.2 e)
      rw [show min b.2 e = b.2 by omega]
    · rw [List.getElem?_append_right (by omega)] at k ⊢
      rw [show i - M.length = 0 by omega] at k ⊢
      simp at k
      subst k
      rfl
  · rw [List.getElem?_eq_none (by simp; omega), List.getElem?_eq_none (by rw [h, List.length_cons]; omega)]
    rfl
end My

namespace My
/-! ### the sums of a row -/
def tot (S : List Iv) : Int := (S.map fun a => a.2 - a.1).sum
def sumsOf (S : List Iv) : List Int := (List.range (S.length + 1)).map fun i => tot (S.take i)
def nearOf (S : List Iv) (m : Int) : Int := match below S m with
  | 0 => 0
  | b + 1 => tot (S.take b) + min m (S.getD b (0, 0)).2 - (S.getD b (0, 0)).1
theorem tot_append {S U : List Iv} : tot (S ++ U) = tot S + tot U := by
  unfold tot
  rw [List.map_append, List.sum_append]
theorem tot_one {a : Iv} : tot [a] = a.2 - a.1 := by simp [tot]
theorem tot_nil : tot [] = 0 := rfl
theorem sums_get {S : List Iv} {i : Nat} (h : i ≤ S.length) : (sumsOf S)[i]? = some (tot (S.take i)) := by
  unfold sumsOf
  rw [List.getElem?_map, List.getElem?_range (by omega)]
  rfl
theorem sums_len {S : List Iv} : (sumsOf S).length = S.length + 1 := by simp [sumsOf]
theorem sums_snoc {S : List Iv} {i : Nat} {a : Iv} (h : S[i]? = some a) : sumsOf (S.take (i + 1)) = sumsOf (S.take i) ++ [tot (S.take i) + (a.2 - a.1)] := by
  have hi := (List.getElem?_eq_some_iff.mp h).1
  have e : S.take (i + 1) = S.take i ++ [a] := by
    rw [List.take_add_one, h]
    rfl
  unfold sumsOf
  have l1 : (S.take (i + 1)).length = i + 1 := by rw [List.length_take]; omega
  have l0 : (S.take i).length = i := by rw [List.length_take]; omega
  rw [l1, l0, List.range_succ, List.map_append]
  congr 1
  · refine List.map_congr_left fun j hj => ?_
    have := List.mem_range.mp hj
    rw [List.take_take, List.take_take, Nat.min_eq_left (by omega), Nat.min_eq_left (by omega)]
  · rw [List.map_singleton, List.take_take, Nat.min_self, e, tot_append, tot_one]
theorem tot_nonneg : ∀ {S : List Iv}, (∀ a ∈ S, a.1 < a.2) → 0 ≤ tot S
  | [], _ => Int.le_refl _
  | a :: r, h => by
    have := tot_nonneg (S := r) fun b hb => h b (List.mem_cons_of_mem _ hb)
    have := h a List.mem_cons_self
    rw [show tot (a :: r) = (a.2 - a.1) + tot r by simp [tot]]
    omega
theorem tot_pos {S : List Iv} (h : ∀ a ∈ S, a.1 < a.2) (ne : S ≠ []) : 0 < tot S := by
  rcases S with _ | ⟨a, r⟩
  · exact absurd rfl ne
  · have := tot_nonneg (S := r) fun b hb => h b (List.mem_cons_of_mem _ hb)
    have := h a List.mem_cons_self
    rw [show tot (a :: r) = (a.2 - a.1) + tot r by simp [tot]]
    omega
theorem tot_zero {S : List Iv} (h : Tidy S) : tot S = 0 ↔ S = [] := by
  constructor
  · intro e
    by_cases c : S = []
    · exact c
    · have := tot_pos h.1 c
      omega
  · rintro rfl
    rfl
theorem near_fin {S : List Iv} {h : Int} (td : Tidy S) : tot S = nearOf S h ↔ S = [] ∨ (S.getLastD (0, 0)).2 ≤ h := by
  unfold nearOf
  by_cases c : S = []
  · subst c
    simp [tot, below]
  obtain ⟨M, z, e⟩ := split_last c
  have hz : S[M.length]? = some z := by rw [e, List.getElem?_append_right (Nat.le_refl _), Nat.sub_self]; rfl
  have hl : S.getLastD (0, 0) = z := by rw [e, last_snoc]
  have ln : S.length = M.length + 1 := by rw [e]; simp
  have mz := td.1 z (List.mem_of_getElem? hz)
  have hb := below_spec (m := h) td hz
  have ble := below_le (L := S) (m := h)
  rw [hl]
  have tS : tot S = tot M + (z.2 - z.1) := by rw [e, tot_append, tot_one]
  have tk : ∀ k, k ≤ M.length → S.take k = M.take k := fun k hk => by rw [e, List.take_append_of_le_length hk]
  have pM : ∀ k, tot M = tot (M.take k) + tot (M.drop k) := fun k => by rw [← tot_append, List.take_append_drop]
  have pos : ∀ k, 0 ≤ tot (M.drop k) := fun k => tot_nonneg fun a ha => td.1 a (by rw [e]; exact List.mem_append_left _ (List.mem_of_mem_drop ha))
  cases hbk : below S h with
  | zero =>
    have h0 : 0 < tot S := tot_pos td.1 c
    show tot S = 0 ↔ _
    have : ¬ z.1 < h := by
      intro q
      have := hb.mpr q
      omega
    constructor
    · intro q; omega
    · rintro (q | q)
      · exact absurd q c
      · omega
  | succ b =>
    show tot S = tot (S.take b) + min h (S.getD b (0, 0)).2 - (S.getD b (0, 0)).1 ↔ _
    have hbl : b < S.length := by omega
    obtain ⟨y, hy⟩ : ∃ y, S[b]? = some y := ⟨_, List.getElem?_eq_getElem hbl⟩
    have my := td.1 y (List.mem_of_getElem? hy)
    have hg : S.getD b (0, 0) = y := by rw [List.getD_eq_getElem?_getD, hy]; rfl
    rw [hg]
    have yb := (below_spec (m := h) td hy).mp (by omega)
    by_cases cb : b = M.length
    · subst cb
      rw [hz] at hy
      cases hy
      rw [tk _ (Nat.le_refl _), List.take_length, tS]
      constructor
      · intro q
        right
        omega
      · rintro (q | q)
        · exact absurd q c
        · omega
    · have b1 : b < M.length := by omega
      have hyM : M[b]? = some y := by rw [e, List.getElem?_append_left b1] at hy; exact hy
      have e2 : M.take (b + 1) = M.take b ++ [y] := by rw [List.take_add_one, hyM]; rfl
      have p1 := pM (b + 1)
      have p2 := pos (b + 1)
      rw [e2, tot_append, tot_one] at p1
      rw [tk _ (by omega)]
      have nz : ¬ z.1 < h := by
        intro q
        have := hb.mpr q
        omega
      constructor
      · intro q
        omega
      · rintro (q | q)
        · exact absurd q c
        · omega
end My

namespace My
/-- the runs of the first n bits -/
def runStep (bits : List Bool) (L : List Iv) (t : Nat) : List Iv :=
  if bits.getD t false = true then (if L ≠ [] ∧ (L.getLastD (0, 0)).2 = (t : Int) then L.dropLast ++ [((L.getLastD (0, 0)).1, (t : Int) + 1)] else L ++ [((t : Int), (t : Int) + 1)]) else L
theorem runStep_ok {bits : List Bool} {L : List Iv} {t : Nat} (td : Tidy L) (le : ∀ a ∈ L, a.2 ≤ t) (inl : ∀ u, inL L u = true ↔ bt bits u ∧ 0 ≤ u ∧ u < (t : Int)) :
    Tidy (runStep bits L t) ∧ (∀ a ∈ runStep bits L t, a.2 ≤ (t : Int) + 1) ∧ ∀ u, inL (runStep bits L t) u = true ↔ bt bits u ∧ 0 ≤ u ∧ u < (t : Int) + 1 := by
  have bit : ∀ u : Int, u = t → (bt bits u ↔ bits.getD t false = true) := fun u e => by unfold bt; rw [e]; rfl
  unfold runStep
  by_cases c : bits.getD t false = true
  · rw [if_pos c]
    by_cases c2 : L ≠ [] ∧ (L.getLastD (0, 0)).2 = (t : Int)
    · rw [if_pos c2]
      obtain ⟨M, z, e⟩ := split_last c2.1
      subst e
      rw [last_snoc] at c2 ⊢
      rw [List.dropLast_concat]
      obtain ⟨t1, t2⟩ := td
      rw [List.pairwise_append] at t2
      have z1 := t1 z (by simp)
      refine ⟨⟨fun a ha => ?_, ?_⟩, fun a ha => ?_, fun u => ?_⟩
      · rcases List.mem_append.mp ha with h | h
        · exact t1 a (by simp [h])
        · obtain rfl := List.mem_singleton.mp h
          dsimp only
          omega
      · rw [List.pairwise_append]
        refine ⟨t2.1, by simp, fun a ha b hb => ?_⟩
        obtain rfl := List.mem_singleton.mp hb
        exact t2.2.2 a ha z (by simp)
      · rcases List.mem_append.mp ha with h | h
        · have := le a (by simp [h])
          omega
        · obtain rfl := List.mem_singleton.mp h
          exact Int.le_refl _
      · have i := inl u
        rw [inL_append] at i ⊢
        rw [Bool.or_eq_true] at i ⊢
        have e1 : inL [z] u = true ↔ z.1 ≤ u ∧ u < z.2 := by rw [inL_iff]; simp
        have e2 : inL [(z.1, (t : Int) + 1)] u = true ↔ z.1 ≤ u ∧ u < (t : Int) + 1 := by rw [inL_iff]; simp
        rw [e1] at i
        rw [e2]
        by_cases cu : u = t
        · have := bit u cu
          constructor
          · intro _
            exact ⟨this.mpr c, by omega, by omega⟩
          · intro _
            exact Or.inr ⟨by omega, by omega⟩
        · constructor
          · rintro (h | h)
            · have := i.mp (Or.inl h)
              exact ⟨this.1, this.2.1, by omega⟩
            · have := i.mp (Or.inr ⟨h.1, by omega⟩)
              exact ⟨this.1, this.2.1, by omega⟩
          · rintro ⟨h1, h2, h3⟩
            rcases i.mpr ⟨h1, h2, by omega⟩ with h | h
            · exact Or.inl h
            · exact Or.inr ⟨h.1, by omega⟩
    · rw [if_neg c2]
      have lt : ∀ a ∈ L, a.2 < (t : Int) := fun a ha => by
        by_cases hn : L = []
        · subst hn
          nomatch ha
        · obtain ⟨M, z, e⟩ := split_last hn
          have hz : z.2 ≠ (t : Int) := fun q => c2 ⟨hn, by rw [e, last_snoc]; exact q⟩
          have hz2 := le z (by rw [e]; simp)
          rw [e] at ha td
          rcases List.mem_append.mp ha with h | h
          · have := (List.pairwise_append.mp td.2).2.2 a h z (by simp)
            have := td.1 z (by simp)
            omega
          · obtain rfl := List.mem_singleton.mp h
            omega
      refine ⟨⟨fun a ha => ?_, ?_⟩, fun a ha => ?_, fun u => ?_⟩
      · rcases List.mem_append.mp ha with h | h
        · exact td.1 a h
        · obtain rfl := List.mem_singleton.mp h
          dsimp only
          omega
      · rw [List.pairwise_append]
        refine ⟨td.2, by simp, fun a ha b hb => ?_⟩
        obtain rfl := List.mem_singleton.mp hb
        exact lt a ha
      · rcases List.mem_append.mp ha with h | h
        · have := le a h
          omega
        · obtain rfl := List.mem_singleton.mp h
          exact Int.le_refl _
      · have i := inl u
        rw [inL_append, Bool.or_eq_true]
        have e2 : inL [((t : Int), (t : Int) + 1)] u = true ↔ (t : Int) ≤ u ∧ u < (t : Int) + 1 := by rw [inL_iff]; simp
        rw [e2, i]
        constructor
        · rintro (h | h)
          · exact ⟨h.1, h.2.1, by omega⟩
          · exact ⟨(bit u (by omega)).mpr c, by omega, by omega⟩
        · rintro ⟨h1, h2, h3⟩
          by_cases cu : u = t
          · exact Or.inr ⟨by omega, by omega⟩
          · exact Or.inl ⟨h1, h2, by omega⟩
  · rw [if_neg c]
    refine ⟨td, fun a ha => by have := le a ha; omega, fun u => ?_⟩
    rw [inl u]
    constructor
    · rintro ⟨h1, h2, h3⟩
      exact ⟨h1, h2, by omega⟩
    · rintro ⟨h1, h2, h3⟩
      refine ⟨h1, h2, ?_⟩
      by_cases cu : u = t
      · exact absurd ((bit u cu).mp h1) c
      · omega
theorem runStep_len {bits : List Bool} {L : List Iv} {t : Nat} : (runStep bits L t).length ≤ L.length + 1 := by
  unfold runStep
  split
  · split
    · rw [List.length_append, List.length_dropLast, List.length_singleton]
      omega
    · simp
  · omega
end My

namespace My
def onceStep (L : List Iv) (t : Int) : List Iv :=
  if L ≠ [] ∧ t ≤ (L.getLastD (0, 0)).2 then L.dropLast ++ [((L.getLastD (0, 0)).1, max (L.getLastD (0, 0)).2 (t + 1))] else L ++ [(t, t + 1)]
theorem onceStep_ok {L : List Iv} {t : Int} {S : List Int} (td : Tidy L) (le : ∀ a ∈ L, a.2 ≤ t + 1) (inl : ∀ u, inL L u = true ↔ u ∈ S) :
    Tidy (onceStep L t) ∧ (∀ a ∈ onceStep L t, a.2 ≤ t + 1) ∧ ∀ u, inL (onceStep L t) u = true ↔ u ∈ S ++ [t] := by
  unfold onceStep
  have mem : ∀ u, u ∈ S ++ [t] ↔ u ∈ S ∨ u = t := fun u => by simp
  by_cases c2 : L ≠ [] ∧ t ≤ (L.getLastD (0, 0)).2
  · rw [if_pos c2]
    obtain ⟨M, z, e⟩ := split_last c2.1
    subst e
    rw [last_snoc] at c2 ⊢
    rw [List.dropLast_concat]
    obtain ⟨t1, t2⟩ := td
    rw [List.pairwise_append] at t2
    have z1 := t1 z (by simp)
    have z2 := le z (by simp)
    have mx : max z.2 (t + 1) = t + 1 := by omega
    rw [mx]
    refine ⟨⟨fun a ha => ?_, ?_⟩, fun a ha => ?_, fun u => ?_⟩
    · rcases List.mem_append.mp ha with h | h
      · exact t1 a (by simp [h])
      · obtain rfl := List.mem_singleton.mp h
        dsimp only
        omega
    · rw [List.pairwise_append]
      refine ⟨t2.1, by simp, fun a ha b hb => ?_⟩
      obtain rfl := List.mem_singleton.mp hb
      exact t2.2.2 a ha z (by simp)
    · rcases List.mem_append.mp ha with h | h
      · exact le a (by simp [h])
      · obtain rfl := List.mem_singleton.mp h
        exact Int.le_refl _
    · have i := inl u
      rw [inL_append] at i ⊢
      rw [Bool.or_eq_true] at i ⊢
      have e1 : inL [z] u = true ↔ z.1 ≤ u ∧ u < z.2 := by rw [inL_iff]; simp
      have e2 : inL [(z.1, t + 1)] u = true ↔ z.1 ≤ u ∧ u < t + 1 := by rw [inL_iff]; simp
      rw [e1] at i
      rw [e2, mem]
      constructor
      · rintro (h | h)
        · exact Or.inl (i.mp (Or.inl h))
        · by_cases cu : u = t
          · exact Or.inr cu
          · exact Or.inl (i.mp (Or.inr ⟨h.1, by omega⟩))
      · rintro (h | h)
        · rcases i.mpr h with h | h
          · exact Or.inl h
          · exact Or.inr ⟨h.1, by omega⟩
        · exact Or.inr ⟨by omega, by omega⟩
  · rw [if_neg c2]
    have lt : ∀ a ∈ L, a.2 < t := fun a ha => by
      by_cases hn : L = []
      · subst hn
        nomatch ha
      · obtain ⟨M, z, e⟩ := split_last hn
        have hz : z.2 < t := by
          by_cases q : t ≤ z.2
          · exact absurd ⟨hn, by rw [e, last_snoc]; exact q⟩ c2
          · omega
        rw [e] at ha td
        rcases List.mem_append.mp ha with h | h
        · have := (List.pairwise_append.mp td.2).2.2 a h z (by simp)
          have := td.1 z (by simp)
          omega
        · obtain rfl := List.mem_singleton.mp h
          exact hz
    refine ⟨⟨fun a ha => ?_, ?_⟩, fun a ha => ?_, fun u => ?_⟩
    · rcases List.mem_append.mp ha with h | h
      · exact td.1 a h
      · obtain rfl := List.mem_singleton.mp h
        dsimp only
        omega
    · rw [List.pairwise_append]
      refine ⟨td.2, by simp, fun a ha b hb => ?_⟩
      obtain rfl := List.mem_singleton.mp hb
      exact lt a ha
    · rcases List.mem_append.mp ha with h | h
      · have := lt a h
        omega
      · obtain rfl := List.mem_singleton.mp h
        exact Int.le_refl _
    · have i := inl u
      rw [inL_append, Bool.or_eq_true, mem]
      have e2 : inL [(t, t + 1)] u = true ↔ t ≤ u ∧ u < t + 1 := by rw [inL_iff]; simp
      rw [e2, i]
      constructor
      · rintro (h | h)
        · exact Or.inl h
        · exact Or.inr (by omega)
      · rintro (h | h)
        · exact Or.inl h
        · exact Or.inr ⟨by omega, by omega⟩
theorem onceStep_len {L : List Iv} {t : Int} : (onceStep L t).length ≤ L.length + 1 := by
  unfold onceStep
  split
  · rw [List.length_append, List.length_dropLast, List.length_singleton]
    omega
  · simp
end My

namespace My
def placeOf (h p m : Int) : Int := if m < h + p then m else h + (m - h) % p
theorem place_range {h p m : Int} (h0 : 0 ≤ h) (p1 : 1 ≤ p) (hm : 0 ≤ m) : 0 ≤ placeOf h p m ∧ placeOf h p m < h + p := by
  have r0 := Int.emod_nonneg (m - h) (show p ≠ 0 by omega)
  have r1 := Int.emod_lt_of_pos (m - h) (show 0 < p by omega)
  unfold placeOf
  split <;> omega
theorem ev_down {h p : Int} {P : Int → Prop} (e : Ev h p P) (p1 : 1 ≤ p) {m : Int} (hm : h ≤ m) : P (h + (m - h) % p) ↔ P m := by
  have r0 := Int.emod_nonneg (m - h) (show p ≠ 0 by omega)
  have dm := Int.mul_ediv_add_emod (m - h) p
  have q0 : 0 ≤ (m - h) / p := Int.ediv_nonneg (by omega) (by omega)
  have := e.mul (by omega) ((m - h) / p).toNat (t := h + (m - h) % p) (by omega)
  rw [show ((((m - h) / p).toNat : Nat) : Int) = (m - h) / p by omega, show h + (m - h) % p + p * ((m - h) / p) = m by omega] at this
  exact this.symm
theorem canon_in {P : Int → Prop} {h p : Int} {S : List Iv} (c : Canon P h p S) {m : Int} (hm : 0 ≤ m) : inL S (placeOf h p m) = true ↔ P m := by
  have pr := place_range c.h0 c.p1 hm
  rw [c.inl]
  have e : P (placeOf h p m) ↔ P m := by
    unfold placeOf
    split
    · exact Iff.rfl
    · exact ev_down c.ev c.p1 (by have := c.p1; omega)
  exact ⟨fun z => e.mp z.1, fun z => ⟨e.mpr z, pr⟩⟩
theorem canon_in' {P : Int → Prop} {h p : Int} {S : List Iv} (c : Canon P h p S) {m : Int} : (decide (0 ≤ m) && inL S (placeOf h p m)) = true ↔ 0 ≤ m ∧ P m := by
  rw [Bool.and_eq_true, decide_eq_true_eq]
  exact ⟨fun z => ⟨z.1, (canon_in c z.1).mp z.2⟩, fun z => ⟨z.1, (canon_in c z.1).mpr z.2⟩⟩
theorem canon_none {P : Int → Prop} (h : ∀ t, 0 ≤ t → ¬ P t) : Canon P 0 1 [] where
  h0 := by omega
  p1 := by omega
  ev := fun t ht => ⟨fun z => absurd z (h _ (by omega)), fun z => absurd z (h _ ht)⟩
  least := fun q h' hq _ => hq
  lh := fun z => by omega
  td := .nil
  inl := fun t => ⟨fun z => (nomatch z), fun z => absurd z.1 (h t z.2.1)⟩
theorem canon_all {P : Int → Prop} (h : ∀ t, 0 ≤ t → P t) : Canon P 0 1 [(0, 1)] where
  h0 := by omega
  p1 := by omega
  ev := fun t ht => ⟨fun z => h _ ht, fun z => h _ (by omega)⟩
  least := fun q h' hq _ => hq
  lh := fun z => by omega
  td := Tidy.cons.mpr ⟨by decide, (fun b hb => nomatch hb), .nil⟩
  inl := fun t => by
    rw [inL_iff]
    constructor
    · rintro ⟨a, ha, a1, a2⟩
      obtain rfl := List.mem_singleton.mp ha
      exact ⟨h t a1, a1, a2⟩
    · rintro ⟨_, a1, a2⟩
      exact ⟨(0, 1), by simp, a1, a2⟩
theorem never_canon {h p : Int} (h0 : 0 ≤ h) (p1 : 1 ≤ p) : Canon (ext h p fun t => inL [] t = true) 0 1 [] := canon_none fun t _ z => (nomatch (show inL [] _ = true from z))
theorem always_canon : Canon (ext 0 1 fun t => inL [(0, 1)] t = true) 0 1 [(0, 1)] := canon_all fun t ht => by
  unfold ext
  show inL [(0, 1)] _ = true
  rw [inL_iff]
  refine ⟨(0, 1), by simp, ?_⟩
  split <;> constructor <;> omega
theorem span_canon {s e : Int} (h0 : 0 ≤ s) (h1 : s < e) : Canon (ext e 1 fun t => inL [(s, e)] t = true) e 1 [(s, e)] := by
  have P : ∀ t, ext e 1 (fun t => inL [(s, e)] t = true) t ↔ s ≤ t ∧ t < e := fun t => by
    unfold ext
    show inL [(s, e)] _ = true ↔ _
    rw [inL_iff]
    simp
    split <;> omega
  refine { h0 := by omega, p1 := by omega, ev := fun t ht => ?_, least := fun q h' hq _ => hq, lh := fun z => ?_, td := Tidy.cons.mpr ⟨h1, (fun b hb => nomatch hb), .nil⟩, inl := fun t => ?_ }
  · rw [P, P]; omega
  · rw [P, P]; omega
  · rw [P, inL_iff]
    simp
    omega
theorem every_P {f p : Int} (h0 : 0 ≤ f) (p1 : 1 ≤ p) (t : Int) : ext f p (fun t => inL [(f, f + 1)] t = true) t ↔ f ≤ t ∧ (t - f) % p = 0 := by
  have r0 := Int.emod_nonneg (t - f) (show p ≠ 0 by omega)
  unfold ext
  show inL [(f, f + 1)] _ = true ↔ _
  rw [inL_iff]
  simp
  split
  · rename_i c
    constructor
    · intro z
      have : t = f := by omega
      rw [this, Int.sub_self]
      exact ⟨by omega, by simp⟩
    · rintro ⟨z1, z2⟩
      rw [Int.emod_eq_of_lt (by omega) (by omega)] at z2
      omega
  · rename_i c
    constructor
    · intro z
      exact ⟨by omega, by omega⟩
    · rintro ⟨z1, z2⟩
      omega
theorem every_canon {f p : Int} (h0 : 0 ≤ f) (p1 : 1 ≤ p) : Canon (ext f p fun t => inL [(f, f + 1)] t = true) (max 0 (f - p + 1)) p [(f, f + 1)] := by
  have P := every_P h0 p1
  refine { h0 := by omega, p1 := p1, ev := fun t ht => ?_, least := fun q h' hq ev => ?_, lh := fun z => ?_, td := Tidy.cons.mpr ⟨by dsimp only; omega, (fun b hb => nomatch hb), .nil⟩, inl := fun t => ?_ }
  · rw [P, P]
    by_cases c : f ≤ t
    · rw [show t + p - f = t - f + p by omega, Int.add_emod_right]
      constructor
      · rintro ⟨_, z⟩; exact ⟨c, z⟩
      · rintro ⟨_, z⟩; exact ⟨by omega, z⟩
    · rw [Int.emod_eq_of_lt (a := t + p - f) (by omega) (by omega)]
      constructor
      · rintro ⟨_, z⟩; omega
      · rintro ⟨z, _⟩; omega
  · obtain ⟨k, hk⟩ := far_up (p := p) (t := f) (x := h') p1
    have k0 : 0 ≤ p * (k : Int) := Int.mul_nonneg (by omega) (by omega)
    have a1 : ext f p (fun t => inL [(f, f + 1)] t = true) (f + p * k) := (P _).mpr ⟨by omega, by rw [show f + p * (k : Int) - f = p * k by omega]; exact Int.mul_emod_right p k⟩
    have a2 := (P _).mp ((ev _ hk).mpr a1)
    rw [show f + p * (k : Int) + q - f = q + p * k by omega, Int.add_mul_emod_self_left] at a2
    by_cases c : q < p
    · rw [Int.emod_eq_of_lt (by omega) c] at a2
      omega
    · omega
  · rw [P, P]
    have e : max 0 (f - p + 1) - 1 = f - p := by omega
    rw [e, show f - p + p = f by omega, Int.sub_self]
    intro w
    have := (w.mp ⟨by omega, by simp⟩).1
    omega
  · rw [P, inL_iff]
    simp
    constructor
    · intro z
      have : t = f := by omega
      rw [this, Int.sub_self]
      exact ⟨⟨by omega, by simp⟩, by omega, by omega⟩
    · rintro ⟨⟨z1, z2⟩, z3, z4⟩
      rw [Int.emod_eq_of_lt (by omega) (by omega)] at z2
      omega
def OnceOf (ks : List Int) (h : Int) (L : List Iv) : Prop := Tidy L ∧ (∀ u, inL L u = true ↔ u ∈ ks) ∧ h = (if L = [] then 0 else (L.getLastD (0, 0)).2)
theorem once_h {ks : List Int} {h : Int} {L : List Iv} (o : OnceOf ks h L) (k0 : ∀ k ∈ ks, 0 ≤ k) : 0 ≤ h ∧ (∀ k ∈ ks, k < h) ∧ (0 < h → h - 1 ∈ ks) := by
  obtain ⟨td, inl, eh⟩ := o
  by_cases c : L = []
  · subst c
    rw [if_pos rfl] at eh
    refine ⟨by omega, fun k hk => (nomatch (inl k).mpr hk), fun z => by omega⟩
  · rw [if_neg c] at eh
    obtain ⟨M, z, e⟩ := split_last c
    rw [e, last_snoc] at eh
    have mz : z ∈ L := by rw [e]; simp
    have z1 := td.1 z mz
    have hz : h - 1 ∈ ks := (inl _).mp (inL_iff.mpr ⟨z, mz, by omega, by omega⟩)
    have := k0 _ hz
    refine ⟨by omega, fun k hk => ?_, fun _ => hz⟩
    obtain ⟨a, ha, a1, a2⟩ := inL_iff.mp ((inl k).mpr hk)
    rw [e] at ha td
    rcases List.mem_append.mp ha with w | w
    · have := (List.pairwise_append.mp td.2).2.2 a w z (by simp)
      omega
    · obtain rfl := List.mem_singleton.mp w
      omega
theorem once_P {ks : List Int} (k0 : ∀ k ∈ ks, 0 ≤ k ∧ k < 10 ^ 12) (t : Int) : ext (10 ^ 12) 1 (fun t => inL (ks.map fun k => (k, k + 1)) t = true) t ↔ t ∈ ks := by
  have inl : ∀ u, inL (ks.map fun k => (k, k + 1)) u = true ↔ u ∈ ks := fun u => by
    rw [inL_iff]
    constructor
    · rintro ⟨a, ha, a1, a2⟩
      obtain ⟨k, hk, rfl⟩ := List.mem_map.mp ha
      dsimp only at a1 a2
      rw [show u = k by omega]
      exact hk
    · intro hu
      exact ⟨(u, u + 1), List.mem_map.mpr ⟨u, hu, rfl⟩, by dsimp only; omega, by dsimp only; omega⟩
  unfold ext
  show inL (ks.map fun k => (k, k + 1)) _ = true ↔ _
  rw [inl]
  split
  · exact Iff.rfl
  · rename_i c
    constructor
    · intro z
      have := k0 _ z
      omega
    · intro z
      have := k0 _ z
      omega
theorem once_canon {ks : List Int} {h : Int} {L : List Iv} (o : OnceOf ks h L) (k0 : ∀ k ∈ ks, 0 ≤ k ∧ k < 10 ^ 12) : Canon (ext (10 ^ 12) 1 fun t => inL (ks.map fun k => (k, k + 1)) t = true) h 1 L := by
  obtain ⟨h0, h1, h2⟩ := once_h o fun k hk => (k0 k hk).1
  have P := once_P k0
  refine { h0 := h0, p1 := by omega, ev := fun t ht => ?_, least := fun q h' hq _ => hq, lh := fun z => ?_, td := o.1, inl := fun t => ?_ }
  · rw [P, P]
    constructor
    · intro z; have := h1 _ z; omega
    · intro z; have := h1 _ z; omega
  · rw [P, P, show h - 1 + 1 = h by omega]
    intro w
    have := h1 _ (w.mpr (h2 z))
    omega
  · rw [P, o.2.1 t]
    constructor
    · intro z
      have := h1 _ z
      exact ⟨z, (k0 t z).1, by omega⟩
    · exact fun z => z.1
end My

namespace My
/-- how many minutes lie below m -/
def belowP (S : List Iv) (h p m : Int) : Int := if m ≤ h + p then nearOf S m else (m - h) / p * (tot S - nearOf S h) + nearOf S (h + (m - h) % p)
/-- the minute at the place i of one row -/
def Pick (S : List Iv) (i t : Int) : Prop := ∃ (low : Nat) (z : Iv), S[low]? = some z ∧ tot (S.take low) ≤ i ∧ i < tot (S.take low) + (z.2 - z.1) ∧ t = z.1 + (i - tot (S.take low))
/-- the minute at the place i, if there is one -/
def Nth (S : List Iv) (h p i : Int) (r : Option Int) : Prop :=
  if i < tot S then ∃ t, r = some t ∧ Pick S i t
  else if tot S = nearOf S h then r = none
  else ∃ t, r = some (t + (i - nearOf S h) / (tot S - nearOf S h) * p) ∧ Pick S (nearOf S h + (i - nearOf S h) % (tot S - nearOf S h)) t

/-! ### counting -/
def ov (S : List Iv) (m : Int) : Int := (S.map fun a => max 0 (min m a.2 - a.1)).sum
theorem ov_cons {a : Iv} {r : List Iv} {m : Int} : ov (a :: r) m = max 0 (min m a.2 - a.1) + ov r m := by simp [ov]
theorem tot_cons {a : Iv} {r : List Iv} : tot (a :: r) = (a.2 - a.1) + tot r := by simp [tot]
theorem ov_none : ∀ {S : List Iv} {m : Int}, (∀ a ∈ S, m ≤ a.1) → ov S m = 0
  | [], _, _ => rfl
  | a :: r, m, h => by
    rw [ov_cons, ov_none fun b hb => h b (List.mem_cons_of_mem _ hb)]
    have := h a List.mem_cons_self
    omega
theorem below_none {S : List Iv} {m : Int} (h : ∀ a ∈ S, m ≤ a.1) : below S m = 0 := by
  unfold below
  rw [List.countP_eq_zero]
  intro a ha
  have := h a ha
  simp
  omega
theorem near_ov : ∀ {S : List Iv} {m : Int}, Tidy S → nearOf S m = ov S m
  | [], _, _ => rfl
  | a :: r, m, td => by
    obtain ⟨a1, a2, tr⟩ := Tidy.cons.mp td
    rw [ov_cons]
    by_cases c : a.1 < m
    · have e : below (a :: r) m = below r m + 1 := by rw [below_cons, if_pos c]
      have ih := near_ov (m := m) tr
      unfold nearOf at ih ⊢
      rw [e]
      show tot ((a :: r).take (below r m)) + min m ((a :: r).getD (below r m) (0, 0)).2 - ((a :: r).getD (below r m) (0, 0)).1 = _
      cases hb : below r m with
      | zero =>
        rw [hb] at ih
        have ih : 0 = ov r m := ih
        show tot [] + min m a.2 - a.1 = _
        rw [tot_nil, ← ih]
        omega
      | succ b =>
        rw [hb] at ih
        have ih : tot (r.take b) + min m (r.getD b (0, 0)).2 - (r.getD b (0, 0)).1 = ov r m := ih
        show tot (a :: r.take b) + min m (r.getD b (0, 0)).2 - (r.getD b (0, 0)).1 = _
        rw [tot_cons]
        have bl := below_le (L := r) (m := m)
        obtain ⟨z, hz⟩ : ∃ z, r[b]? = some z := ⟨_, List.getElem?_eq_getElem (by omega)⟩
        have z1 := (below_spec (m := m) tr hz).mp (by omega)
        have z2 := a2 z (List.mem_of_getElem? hz)
        omega
    · have g : ∀ b ∈ r, m ≤ b.1 := fun b hb => by have := a2 b hb; omega
      have e : below (a :: r) m = 0 := by rw [below_cons, if_neg c, below_none g]
      rw [ov_none g]
      unfold nearOf
      rw [e]
      show (0 : Int) = _
      omega
theorem ov_bounds : ∀ {S : List Iv} {m : Int}, (∀ a ∈ S, a.1 < a.2) → 0 ≤ ov S m ∧ ov S m ≤ tot S
  | [], _, _ => ⟨Int.le_refl _, Int.le_refl _⟩
  | a :: r, m, h => by
    have i := ov_bounds (S := r) (m := m) fun b hb => h b (List.mem_cons_of_mem _ hb)
    have := h a List.mem_cons_self
    rw [ov_cons, tot_cons]
    omega
theorem near_le {S : List Iv} {m : Int} (td : Tidy S) : 0 ≤ nearOf S m ∧ nearOf S m ≤ tot S := by
  rw [near_ov td]
  exact ov_bounds td.1
theorem ov_step : ∀ {S : List Iv} {m : Int}, Tidy S → ov S (m + 1) = ov S m + if inL S m = true then 1 else 0
  | [], _, _ => rfl
  | a :: r, m, td => by
    obtain ⟨a1, a2, tr⟩ := Tidy.cons.mp td
    have ih := ov_step (m := m) tr
    rw [ov_cons, ov_cons, ih]
    by_cases c : a.1 ≤ m ∧ m < a.2
    · have n : ¬ inL r m = true := fun z => by
        obtain ⟨b, hb, b1, b2⟩ := inL_iff.mp z
        have := a2 b hb
        omega
      rw [if_neg n, if_pos (inL_cons.mpr (Or.inl c))]
      omega
    · have e : (inL (a :: r) m = true) ↔ (inL r m = true) := by
        rw [inL_cons]
        exact ⟨fun z => z.elim (fun z => absurd z c) id, Or.inr⟩
      by_cases d : inL r m = true
      · rw [if_pos d, if_pos (e.mpr d)]
        omega
      · rw [if_neg d, if_neg fun z => d (e.mp z)]
        omega
/-- how many of 0 .. n - 1 are in -/
def cntN (f : Int → Bool) : Nat → Int
  | 0 => 0
  | n + 1 => cntN f n + if f n = true then 1 else 0
def cnt (f : Int → Bool) (m : Int) : Int := cntN f m.toNat
theorem near_cnt {S : List Iv} (td : Tidy S) (h0 : ∀ a ∈ S, 0 ≤ a.1) : ∀ n : Nat, nearOf S n = cntN (inL S) n
  | 0 => by
    rw [near_ov td]
    exact ov_none h0
  | n + 1 => by
    have ih := near_cnt td h0 n
    rw [near_ov td] at ih ⊢
    have s := ov_step (m := (n : Int)) td
    rw [show ((n + 1 : Nat) : Int) = (n : Int) + 1 by omega, s, ih]
    rfl
theorem cntN_congr {f g : Int → Bool} : ∀ n : Nat, (∀ t : Nat, t < n → f t = g t) → cntN f n = cntN g n
  | 0, _ => rfl
  | n + 1, h => by
    rw [cntN, cntN, cntN_congr n fun t ht => h t (by omega), h n (by omega)]
theorem cntN_add (f : Int → Bool) (a : Nat) : ∀ b : Nat, cntN f (a + b) = cntN f a + cntN (fun t => f (a + t)) b
  | 0 => by simp [cntN]
  | b + 1 => by
    rw [show a + (b + 1) = (a + b) + 1 by omega, cntN, cntN_add f a b, cntN]
    rw [show ((a + b : Nat) : Int) = (a : Int) + b by omega]
    omega
end My

namespace My
theorem cntN_per {f : Int → Bool} {h p : Nat} (per : ∀ t : Nat, h ≤ t → f ((t + p : Nat) : Int) = f t) (r : Nat) : ∀ k : Nat, cntN f (h + p * k + r) = cntN f h + (k : Int) * (cntN f (h + p) - cntN f h) + (cntN f (h + r) - cntN f h)
  | 0 => by
    rw [Nat.mul_zero, Nat.add_zero]
    omega
  | k + 1 => by
    have ih := cntN_per per r k
    have e : h + p * (k + 1) + r = (h + p) + (p * k + r) := by rw [Nat.mul_add]; omega
    have c : cntN (fun t => f (((h + p : Nat) : Int) + t)) (p * k + r) = cntN (fun t => f ((h : Int) + t)) (p * k + r) := cntN_congr _ fun t _ => by
      have := per (h + t) (by omega)
      rw [show (((h + t) + p : Nat) : Int) = ((h + p : Nat) : Int) + t by omega, show ((h + t : Nat) : Int) = (h : Int) + t by omega] at this
      exact this
    have a1 := cntN_add f h (p * k + r)
    have a2 := cntN_add f (h + p) (p * k + r)
    rw [e, a2, c]
    rw [show h + (p * k + r) = h + p * k + r by omega] at a1
    have d : ((k + 1 : Nat) : Int) * (cntN f (h + p) - cntN f h) = (k : Int) * (cntN f (h + p) - cntN f h) + (cntN f (h + p) - cntN f h) := by
      rw [show ((k + 1 : Nat) : Int) = (k : Int) + 1 by omega, Int.add_mul, Int.one_mul]
    rw [d]
    omega
/-- what a pattern's minutes are -/
def mem (S : List Iv) (h p t : Int) : Bool := inL S (placeOf h p t)
theorem ov_all : ∀ {S : List Iv} {m : Int}, (∀ a ∈ S, a.1 < a.2 ∧ a.2 ≤ m) → ov S m = tot S
  | [], _, _ => rfl
  | a :: r, m, h => by
    rw [ov_cons, tot_cons, ov_all fun b hb => h b (List.mem_cons_of_mem _ hb)]
    have := h a List.mem_cons_self
    omega
theorem below_cnt {S : List Iv} {h p m : Int} (td : Tidy S) (h0 : 0 ≤ h) (p1 : 1 ≤ p) (box : ∀ a ∈ S, 0 ≤ a.1 ∧ a.2 ≤ h + p) (m0 : 0 ≤ m) : belowP S h p m = cnt (mem S h p) m := by
  have n0 : ∀ a ∈ S, 0 ≤ a.1 := fun a ha => (box a ha).1
  have low : ∀ n : Nat, (n : Int) ≤ h + p → nearOf S n = cntN (mem S h p) n := fun n hn => by
    rw [near_cnt td n0]
    refine cntN_congr _ fun t ht => ?_
    unfold mem placeOf
    rw [if_pos (by omega)]
  unfold belowP cnt
  by_cases c : m ≤ h + p
  · rw [if_pos c]
    have := low m.toNat (by omega)
    rw [show ((m.toNat : Nat) : Int) = m by omega] at this
    exact this
  · rw [if_neg c]
    obtain ⟨hn, rfl⟩ := Int.eq_ofNat_of_zero_le h0
    obtain ⟨pn, rfl⟩ := Int.eq_ofNat_of_zero_le (show 0 ≤ p by omega)
    have dm := Int.mul_ediv_add_emod (m - hn) pn
    have r0 := Int.emod_nonneg (m - hn) (show (pn : Int) ≠ 0 by omega)
    have r1 := Int.emod_lt_of_pos (m - hn) (show (0 : Int) < pn by omega)
    have q0 : 0 ≤ (m - hn) / pn := Int.ediv_nonneg (by omega) (by omega)
    obtain ⟨k, hk⟩ := Int.eq_ofNat_of_zero_le q0
    obtain ⟨r, hr⟩ := Int.eq_ofNat_of_zero_le r0
    rw [hk, hr] at dm ⊢
    rw [hr] at r1
    have per : ∀ t : Nat, hn ≤ t → mem S hn pn ((t + pn : Nat) : Int) = mem S hn pn t := fun t ht => by
      unfold mem placeOf
      rw [if_neg (by omega)]
      congr 1
      have e : ((t + pn : Nat) : Int) - hn = ((t : Int) - hn) + pn := by omega
      rw [e, Int.add_emod_right]
      by_cases d : (t : Int) < hn + pn
      · rw [if_pos d, Int.emod_eq_of_lt (by omega) (by omega)]
        omega
      · rw [if_neg d]
    have em : m.toNat = hn + pn * k + r := by
      have : ((hn + pn * k + r : Nat) : Int) = m := by
        rw [Int.natCast_add, Int.natCast_add, Int.natCast_mul]
        omega
      omega
    rw [em, cntN_per per]
    have t1 : tot S = cntN (mem S hn pn) (hn + pn) := by
      rw [← low _ (by omega), near_ov td, ov_all fun a ha => ⟨td.1 a ha, by have := (box a ha).2; omega⟩]
    have t2 := low hn (by omega)
    have t3 := low (hn + r) (by omega)
    rw [show ((hn + r : Nat) : Int) = (hn : Int) + r by omega] at t3
    rw [t1, t2, t3]
    omega
end My

namespace My
def IsNth (f : Int → Bool) (i : Int) : Option Int → Prop
  | some t => 0 ≤ t ∧ f t = true ∧ cnt f t = i
  | none => ∀ t, 0 ≤ t → f t = true → cnt f t ≠ i
theorem cntN_mono (f : Int → Bool) {a b : Nat} (h : a ≤ b) : cntN f a ≤ cntN f b := by
  induction b with
  | zero => rw [show a = 0 by omega]; exact Int.le_refl _
  | succ b ih =>
    by_cases c : a = b + 1
    · rw [c]; exact Int.le_refl _
    · have := ih (by omega)
      rw [cntN]
      split <;> omega
theorem cntN_lt (f : Int → Bool) {a b : Nat} (h : a < b) (m : f a = true) : cntN f a < cntN f b := by
  have := cntN_mono f (show a + 1 ≤ b by omega)
  rw [cntN, if_pos m] at this
  omega
theorem IsNth.unique {f : Int → Bool} {i : Int} : ∀ {r r' : Option Int}, IsNth f i r → IsNth f i r' → r = r'
  | none, none, _, _ => rfl
  | some t, none, h, h' => absurd h.2.2 (h' t h.1 h.2.1)
  | none, some t, h, h' => absurd h'.2.2 (h t h'.1 h'.2.1)
  | some t, some u, ⟨a, b, c⟩, ⟨a', b', c'⟩ => by
    obtain ⟨t, rfl⟩ := Int.eq_ofNat_of_zero_le a
    obtain ⟨u, rfl⟩ := Int.eq_ofNat_of_zero_le a'
    unfold cnt at c c'
    rw [Int.toNat_natCast] at c c'
    rcases Nat.lt_trichotomy t u with z | z | z
    · have := cntN_lt f z b
      omega
    · rw [z]
    · have := cntN_lt f z b'
      omega
theorem cntN_nonneg (f : Int → Bool) (n : Nat) : 0 ≤ cntN f n := cntN_mono f (Nat.zero_le n)
theorem ov_mono {S : List Iv} {a b : Int} (h : a ≤ b) : ov S a ≤ ov S b := by
  induction S with
  | nil => exact Int.le_refl _
  | cons x r ih =>
    rw [ov_cons, ov_cons]
    omega
theorem ov_pick : ∀ {S : List Iv} {low : Nat} {z : Iv} {t : Int}, Tidy S → S[low]? = some z → z.1 ≤ t → t ≤ z.2 → ov S t = tot (S.take low) + (t - z.1)
  | [], _, _, _, _, h, _, _ => by simp at h
  | a :: r, 0, z, t, td, h, z1, z2 => by
    obtain ⟨a1, a2, tr⟩ := Tidy.cons.mp td
    have e : a = z := by simpa using h
    subst e
    rw [ov_cons, ov_none fun b hb => by have := a2 b hb; omega]
    show _ = tot [] + _
    rw [tot_nil]
    omega
  | a :: r, low + 1, z, t, td, h, z1, z2 => by
    obtain ⟨a1, a2, tr⟩ := Tidy.cons.mp td
    have h : r[low]? = some z := by simpa using h
    have := a2 z (List.mem_of_getElem? h)
    rw [ov_cons, ov_pick tr h z1 z2]
    show _ = tot (a :: r.take low) + _
    rw [tot_cons]
    omega
theorem Pick.spec {S : List Iv} {i t : Int} (td : Tidy S) (k : Pick S i t) : inL S t = true ∧ ov S t = i := by
  obtain ⟨low, z, hz, k1, k2, rfl⟩ := k
  have w := td.1 z (List.mem_of_getElem? hz)
  refine ⟨inL_iff.mpr ⟨z, List.mem_of_getElem? hz, by omega, by omega⟩, ?_⟩
  rw [ov_pick td hz (by omega) (by omega)]
  omega
theorem nth_is {S : List Iv} {h p i : Int} {r : Option Int} (td : Tidy S) (h0 : 0 ≤ h) (p1 : 1 ≤ p) (box : ∀ a ∈ S, 0 ≤ a.1 ∧ a.2 ≤ h + p) (n : Nth S h p i r) : IsNth (mem S h p) i r := by
  have inb : ∀ {t : Int}, inL S t = true → 0 ≤ t ∧ t < h + p := fun {t} z => by
    obtain ⟨a, ha, a1, a2⟩ := inL_iff.mp z
    have := box a ha
    omega
  have mlow : ∀ {t : Int}, t < h + p → mem S h p t = inL S t := fun {t} z => by unfold mem placeOf; rw [if_pos z]
  have step : ∀ {t : Int}, inL S t = true → ov S (t + 1) = ov S t + 1 := fun {t} z => by rw [ov_step td, if_pos z]
  have cl : ∀ {t : Int}, 0 ≤ t → t ≤ h + p → cnt (mem S h p) t = ov S t := fun {t} t0 t1 => by
    rw [← below_cnt td h0 p1 box t0, ← near_ov td]
    unfold belowP
    rw [if_pos t1]
  unfold Nth at n
  by_cases c : i < tot S
  · rw [if_pos c] at n
    obtain ⟨t, rfl, pk⟩ := n
    obtain ⟨k1, k2⟩ := pk.spec td
    obtain ⟨b0, b1⟩ := inb k1
    exact ⟨b0, by rw [mlow b1]; exact k1, by rw [cl b0 (by omega)]; exact k2⟩
  · rw [if_neg c] at n
    by_cases d : tot S = nearOf S h
    · rw [if_pos d] at n
      subst n
      intro t t0 mt e
      rw [near_ov td] at d
      have bd := fun u => ov_bounds (m := u) td.1
      by_cases g : t < h + p
      · rw [mlow g] at mt
        rw [cl t0 (by omega)] at e
        have := step mt
        have := (bd (t + 1)).2
        omega
      · unfold mem placeOf at mt
        rw [if_neg g] at mt
        have r0 := Int.emod_nonneg (t - h) (show p ≠ 0 by omega)
        have := step mt
        have := (bd (h + (t - h) % p + 1)).2
        have := ov_mono (S := S) (show h ≤ h + (t - h) % p by omega)
        omega
    · rw [if_neg d] at n
      obtain ⟨t, rfl, pk⟩ := n
      obtain ⟨k1, k2⟩ := pk.spec td
      obtain ⟨b0, b1⟩ := inb k1
      rw [near_ov td] at d k2 ⊢
      have bd := (ov_bounds (m := h) td.1).2
      have r0 := Int.emod_nonneg (i - ov S h) (show tot S - ov S h ≠ 0 by omega)
      have dm := Int.mul_ediv_add_emod (i - ov S h) (tot S - ov S h)
      have q0 : 0 ≤ (i - ov S h) / (tot S - ov S h) := Int.ediv_nonneg (by omega) (by omega)
      have th : h ≤ t := by
        refine Classical.byContradiction fun z => ?_
        have := step k1
        have := ov_mono (S := S) (show t + 1 ≤ h by omega)
        omega
      obtain ⟨k, hk⟩ := Int.eq_ofNat_of_zero_le q0
      rw [hk] at dm ⊢
      obtain ⟨hn, rfl⟩ := Int.eq_ofNat_of_zero_le h0
      obtain ⟨pn, rfl⟩ := Int.eq_ofNat_of_zero_le (show 0 ≤ p by omega)
      obtain ⟨tn, rfl⟩ := Int.eq_ofNat_of_zero_le b0
      have per : ∀ t : Nat, hn ≤ t → mem S hn pn ((t + pn : Nat) : Int) = mem S hn pn t := fun t ht => by
        unfold mem placeOf
        rw [if_neg (by omega)]
        congr 1
        have e : ((t + pn : Nat) : Int) - hn = ((t : Int) - hn) + pn := by omega
        rw [e, Int.add_emod_right]
        by_cases d : (t : Int) < hn + pn
        · rw [if_pos d, Int.emod_eq_of_lt (by omega) (by omega)]
          omega
        · rw [if_neg d]
      have perk : ∀ k : Nat, mem S hn pn ((tn + pn * k : Nat) : Int) = mem S hn pn tn := fun k => by
        induction k with
        | zero => rfl
        | succ k ih => rw [show tn + pn * (k + 1) = (tn + pn * k) + pn by rw [Nat.mul_add]; omega, per _ (by omega), ih]
      have et : (tn : Int) + (k : Int) * pn = ((tn + pn * k : Nat) : Int) := by rw [Int.natCast_add, Int.natCast_mul, Int.mul_comm]
      rw [et]
      refine ⟨by omega, by rw [perk, mlow b1]; exact k1, ?_⟩
      unfold cnt
      rw [Int.toNat_natCast, show tn + pn * k = hn + pn * k + (tn - hn) by omega, cntN_per per]
      have c1 := cl (t := (hn : Int)) (by omega) (by omega)
      have c2 := cl (t := (tn : Int)) (by omega) (by omega)
      have c3 := cl (t := ((hn + pn : Nat) : Int)) (by omega) (by omega)
      unfold cnt at c1 c2 c3
      rw [Int.toNat_natCast] at c1 c2 c3
      have c4 := ov_all (m := ((hn + pn : Nat) : Int)) fun a ha => ⟨td.1 a ha, by have := (box a ha).2; omega⟩
      have e := Int.mul_comm (k : Int) (tot S - ov S hn)
      rw [show hn + (tn - hn) = tn by omega, c1, c2, c3, c4, e]
      omega
end My

namespace My
theorem cnt_none {f : Int → Bool} {a : Int} (a0 : 0 ≤ a) : ∀ n : Nat, (∀ t, a ≤ t → t < a + n → f t = false) → cnt f (a + n) = cnt f a
  | 0, _ => by rw [show a + ((0 : Nat) : Int) = a by omega]
  | n + 1, h => by
    have ih := cnt_none a0 n fun t t0 t1 => h t t0 (by omega)
    rw [← ih]
    unfold cnt
    rw [show (a + ((n + 1 : Nat) : Int)).toNat = (a + (n : Int)).toNat + 1 by omega, cntN]
    have e : (((a + (n : Int)).toNat : Nat) : Int) = a + n := by omega
    rw [e, h (a + n) (by omega) (by omega)]
    simp
theorem cnt_run {f : Int → Bool} {a : Int} (a0 : 0 ≤ a) : ∀ n : Nat, (∀ t, a ≤ t → t < a + n → f t = true) → cnt f (a + n) = cnt f a + n
  | 0, _ => by rw [show a + ((0 : Nat) : Int) = a by omega]; omega
  | n + 1, h => by
    have ih := cnt_run a0 n fun t t0 t1 => h t t0 (by omega)
    have e0 : cnt f (a + ((n + 1 : Nat) : Int)) = cnt f (a + (n : Int)) + 1 := by
      unfold cnt
      rw [show (a + ((n + 1 : Nat) : Int)).toNat = (a + (n : Int)).toNat + 1 by omega, cntN]
      have e : (((a + (n : Int)).toNat : Nat) : Int) = a + n := by omega
      rw [e, h (a + n) (by omega) (by omega)]
      simp
    rw [e0, ih]
    omega
theorem cnt_mono {f : Int → Bool} {a b : Int} (h : a ≤ b) : cnt f a ≤ cnt f b := cntN_mono f (by omega)
theorem cnt_lt {f : Int → Bool} {a b : Int} (a0 : 0 ≤ a) (h : a < b) (m : f a = true) : cnt f a < cnt f b := by
  refine cntN_lt f (by omega) ?_
  rw [show ((a.toNat : Nat) : Int) = a by omega]
  exact m
theorem nth_ge {f : Int → Bool} {c t : Int} (c0 : 0 ≤ c) (h : IsNth f (cnt f c) (some t)) : c ≤ t ∧ f t = true ∧ ∀ u, c ≤ u → u < t → f u = false := by
  obtain ⟨t0, m, e⟩ := h
  refine ⟨?_, m, fun u u0 u1 => ?_⟩
  · refine Classical.byContradiction fun z => ?_
    have := cnt_lt t0 (show t < c by omega) m
    omega
  · cases hu : f u with
    | false => rfl
    | true =>
      have a := cnt_lt (show 0 ≤ u by omega) u1 hu
      have b := cnt_mono (f := f) u0
      omega
theorem nth_none {f : Int → Bool} {c : Int} (c0 : 0 ≤ c) (h : IsNth f (cnt f c) none) : ∀ u, c ≤ u → f u = false := by
  have k : ∀ (n : Nat) (u : Int), u = c + n → f u = false := fun n => by
    induction n using Nat.strongRecOn with
    | ind n ih =>
      intro u hu
      cases e : f u with
      | false => rfl
      | true =>
        refine absurd ?_ (h u (by omega) e)
        rw [hu]
        refine cnt_none c0 n fun t t0 t1 => ih (t - c).toNat (by omega) t (by omega)
  exact fun u hu => k (u - c).toNat u (by omega)
/-- the members of s .. e - 1 in order -/
def Listed (f : Int → Bool) (s e : Int) (ms : List Int) : Prop := ms.Pairwise (· < ·) ∧ ∀ t, t ∈ ms ↔ s ≤ t ∧ t < e ∧ f t = true
theorem Listed.nil {f : Int → Bool} {s e : Int} (h : e ≤ s) : Listed f s e [] := ⟨.nil, fun t => ⟨fun z => (nomatch z), fun ⟨_, _, _⟩ => by omega⟩⟩
theorem Listed.run {f : Int → Bool} {s c t : Int} {ms : List Int} {n : Nat} (l : Listed f s c ms) (sc : s ≤ c) (ct : c ≤ t) (no : ∀ u, c ≤ u → u < t → f u = false) (yes : ∀ u, t ≤ u → u < t + n → f u = true) : Listed f s (t + n) (ms ++ (List.range n).map fun (i : Nat) => t + (i : Int)) := by
  refine ⟨List.pairwise_append.mpr ⟨l.1, ?_, fun a ha b hb => ?_⟩, fun u => ?_⟩
  · rw [List.pairwise_map]
    exact List.pairwise_lt_range.imp fun h => by omega
  · have := (l.2 a).mp ha
    obtain ⟨i, hi, rfl⟩ := List.mem_map.mp hb
    omega
  · rw [List.mem_append, l.2, List.mem_map]
    constructor
    · rintro (⟨a, b, d⟩ | ⟨i, hi, rfl⟩)
      · exact ⟨a, by omega, d⟩
      · have := List.mem_range.mp hi
        exact ⟨by omega, by omega, yes _ (by omega) (by omega)⟩
    · rintro ⟨a, b, d⟩
      by_cases z : u < c
      · exact Or.inl ⟨a, z, d⟩
      · by_cases y : u < t
        · rw [no u (by omega) y] at d
          cases d
        · exact Or.inr ⟨(u - t).toNat, List.mem_range.mpr (by omega), by omega⟩
theorem Listed.ext {f : Int → Bool} {s c e : Int} {ms : List Int} (l : Listed f s c ms) (ce : c ≤ e) (no : ∀ u, c ≤ u → u < e → f u = false) : Listed f s e ms := ⟨l.1, fun t => by
  rw [l.2]
  constructor
  · rintro ⟨a, b, d⟩
    exact ⟨a, by omega, d⟩
  · rintro ⟨a, b, d⟩
    refine ⟨a, Classical.byContradiction fun z => ?_, d⟩
    rw [no t (by omega) b] at d
    cases d⟩
/-- the run that goes on -/
theorem mem_run {S : List Iv} {h p t : Int} {z : Iv} (h0 : 0 ≤ h) (p1 : 1 ≤ p) (hz : z ∈ S) (zb : z.2 ≤ h + p) (z1 : z.1 ≤ placeOf h p t) (z2 : placeOf h p t < z.2) : ∀ u, t ≤ u → u < t + (z.2 - placeOf h p t) → mem S h p u = true := fun u u0 u1 => by
  have e : placeOf h p u = placeOf h p t + (u - t) := by
    unfold placeOf at z1 z2 u1 ⊢
    by_cases c : t < h + p
    · rw [if_pos c] at z1 z2 u1 ⊢
      rw [if_pos (by omega)]
      omega
    · rw [if_neg c] at z1 z2 u1 ⊢
      rw [if_neg (by omega)]
      have r0 := Int.emod_nonneg (t - h) (show p ≠ 0 by omega)
      have e1 : (u - h) % p = (t - h) % p + (u - t) := by
        have dm := Int.mul_ediv_add_emod (t - h) p
        rw [show u - h = ((t - h) % p + (u - t)) + p * ((t - h) / p) by omega, Int.add_mul_emod_self_left, Int.emod_eq_of_lt (by omega) (by omega)]
      rw [e1]
      omega
  unfold mem
  rw [e, inL_iff]
  exact ⟨z, hz, by omega, by omega⟩
end My

namespace My
theorem cntN_const {f : Int → Bool} {c : Bool} : ∀ n : Nat, (∀ t : Nat, t < n → f t = c) → cntN f n = if c = true then (n : Int) else 0
  | 0, _ => by cases c <;> rfl
  | n + 1, h => by
    rw [cntN, cntN_const n fun t ht => h t (by omega), h n (by omega)]
    cases c
    · rfl
    · rw [if_pos rfl, if_pos rfl, if_pos rfl]
      omega
theorem cntN_by {f g : Int → Bool} {b : Nat} (b1 : 1 ≤ b) (e : ∀ t : Nat, f t = g ((t / b : Nat) : Int)) : ∀ (q r : Nat), r ≤ b → cntN f (b * q + r) = cntN g q * b + if g (q : Int) = true then (r : Int) else 0 := by
  have part : ∀ (q r : Nat), r ≤ b → cntN f (b * q + r) = cntN f (b * q) + if g (q : Int) = true then (r : Int) else 0 := fun q r hr => by
    rw [cntN_add]
    congr 1
    refine cntN_const r fun t ht => ?_
    rw [show ((b * q : Nat) : Int) + (t : Int) = ((b * q + t : Nat) : Int) by omega, e, Nat.mul_add_div (by omega), Nat.div_eq_of_lt (show t < b by omega)]
    rfl
  have whole : ∀ q : Nat, cntN f (b * q) = cntN g q * b := fun q => by
    induction q with
    | zero => simp [cntN]
    | succ q ih =>
      rw [Nat.mul_add, Nat.mul_one, part q b (Nat.le_refl _), ih, cntN, Int.add_mul]
      split <;> omega
  intro q r hr
  rw [part q r hr, whole]
/-- how many minutes of a set that is taken by as times as long lie below m -/
theorem cnt_by {f g : Int → Bool} {b m : Int} (b1 : 1 ≤ b) (m0 : 0 ≤ m) (e : ∀ t, 0 ≤ t → f t = g (t / b)) : cnt f m = cnt g (m / b) * b + if g (m / b) = true then m % b else 0 := by
  obtain ⟨bn, rfl⟩ := Int.eq_ofNat_of_zero_le (show 0 ≤ b by omega)
  obtain ⟨mn, rfl⟩ := Int.eq_ofNat_of_zero_le m0
  have k := cntN_by (f := f) (g := g) (b := bn) (by omega) (fun t => by rw [e t (by omega)]; rfl) (mn / bn) (mn % bn) (Nat.le_of_lt (Nat.mod_lt _ (by omega)))
  rw [Nat.div_add_mod] at k
  unfold cnt
  rw [show ((mn : Int)).toNat = mn from rfl, show ((mn : Int) / (bn : Int)) = ((mn / bn : Nat) : Int) from rfl, show ((mn : Int) % (bn : Int)) = ((mn % bn : Nat) : Int) from rfl, Int.toNat_natCast]
  exact k
end My

namespace My
def countT (bs : List Bool) : Nat := bs.countP fun y => y == true
/-- the law's row carried on by its period -/
def gq (head : Nat) (bits : List Bool) (t : Int) : Bool := bits.getD (placeOf head ((bits.length - head : Nat) : Int) t).toNat false
def lawCount (head : Nat) (bits : List Bool) (u : Int) : Int :=
  if u > bits.length then (countT (bits.take head) : Int) + countT ((bits.drop head).take ((u - head) % ((bits.length - head : Nat) : Int)).toNat) + (u - head) / ((bits.length - head : Nat) : Int) * countT (bits.drop head)
  else countT (bits.take u.toNat)
theorem countT_append (a b : List Bool) : countT (a ++ b) = countT a + countT b := List.countP_append
theorem cnt_take {head : Nat} {bits : List Bool} (ln : head < bits.length) : ∀ n : Nat, n ≤ bits.length → cntN (gq head bits) n = countT (bits.take n)
  | 0, _ => rfl
  | n + 1, h => by
    have hn : n < bits.length := by omega
    rw [cntN, cnt_take ln n (by omega), List.take_add_one, List.getElem?_eq_getElem hn, countT_append]
    have e : gq head bits (n : Int) = bits[n] := by
      unfold gq placeOf
      rw [if_pos (by omega), Int.toNat_natCast, List.getD_eq_getElem?_getD, List.getElem?_eq_getElem hn]
      rfl
    rw [e]
    cases bits[n] <;> simp [countT]
theorem cnt_law {head : Nat} {bits : List Bool} {u : Int} (ln : head < bits.length) (u0 : 0 ≤ u) : cnt (gq head bits) u = lawCount head bits u := by
  unfold lawCount cnt
  by_cases c : u > bits.length
  · rw [if_pos c]
    obtain ⟨p, hp⟩ : ∃ p : Nat, p = bits.length - head := ⟨_, rfl⟩
    rw [← hp]
    have r0 := Int.emod_nonneg (u - head) (show (p : Int) ≠ 0 by omega)
    have r1 := Int.emod_lt_of_pos (u - head) (show (0 : Int) < p by omega)
    have dm := Int.mul_ediv_add_emod (u - head) p
    have q0 : 0 ≤ (u - head) / p := Int.ediv_nonneg (by omega) (by omega)
    obtain ⟨k, hk⟩ := Int.eq_ofNat_of_zero_le q0
    obtain ⟨r, hr⟩ := Int.eq_ofNat_of_zero_le r0
    rw [hk, hr] at dm ⊢
    rw [hr] at r1
    have per : ∀ t : Nat, head ≤ t → gq head bits ((t + p : Nat) : Int) = gq head bits t := fun t ht => by
      unfold gq placeOf
      rw [← hp, if_neg (by omega)]
      have e : ((t + p : Nat) : Int) - head = ((t : Int) - head) + p := by omega
      rw [e, Int.add_emod_right]
      by_cases d : (t : Int) < head + p
      · rw [if_pos d, Int.emod_eq_of_lt (by omega) (by omega)]
        rw [show (head : Int) + ((t : Int) - head) = t by omega]
      · rw [if_neg d]
    have em : u.toNat = head + p * k + r := by
      have : ((head + p * k + r : Nat) : Int) = u := by
        rw [Int.natCast_add, Int.natCast_add, Int.natCast_mul]
        omega
      omega
    have t1 := cnt_take ln head (by omega)
    have t2 := cnt_take ln (head + p) (by omega)
    have t3 := cnt_take ln (head + r) (by omega)
    have e2 : bits.take (head + p) = bits := by rw [show head + p = bits.length by omega, List.take_length]
    have e3 : countT (bits.take (head + r)) = countT (bits.take head) + countT ((bits.drop head).take r) := by rw [List.take_add, countT_append]
    have e4 : countT bits = countT (bits.take head) + countT (bits.drop head) := by rw [← countT_append, List.take_append_drop]
    rw [em, cntN_per per, t1, t2, t3, e2, e3, e4, Int.toNat_natCast]
    rw [show ((countT (bits.take head) + countT (bits.drop head) : Nat) : Int) - (countT (bits.take head) : Int) = countT (bits.drop head) by omega]
    omega
  · rw [if_neg c]
    exact cnt_take ln u.toNat (by omega)
end My

namespace My
/-- the members of 0 .. n - 1 in order -/
def memN (f : Int → Bool) (n : Nat) : List Nat := (List.range n).filter fun i => f (i : Nat)
theorem memN_succ (f : Int → Bool) (n : Nat) : memN f (n + 1) = memN f n ++ if f (n : Nat) = true then [n] else [] := by
  unfold memN
  rw [List.range_succ, List.filter_append]
  congr 1
  by_cases c : f (n : Nat) = true
  · rw [if_pos c, List.filter_cons_of_pos (by exact c), List.filter_nil]
  · rw [if_neg c, List.filter_cons_of_neg (by exact c), List.filter_nil]
theorem memN_len (f : Int → Bool) : ∀ n : Nat, cntN f n = ((memN f n).length : Int)
  | 0 => rfl
  | n + 1 => by
    rw [cntN, memN_succ, List.length_append, memN_len f n]
    split <;> simp
theorem memN_get {f : Int → Bool} : ∀ {n k t : Nat}, (memN f n)[k]? = some t → t < n ∧ f (t : Nat) = true ∧ cntN f t = (k : Int)
  | 0, k, t, h => by simp [memN] at h
  | n + 1, k, t, h => by
    rw [memN_succ] at h
    by_cases c : k < (memN f n).length
    · rw [List.getElem?_append_left c] at h
      obtain ⟨a, b, d⟩ := memN_get h
      exact ⟨by omega, b, d⟩
    · rw [List.getElem?_append_right (by omega)] at h
      by_cases d : f (n : Nat) = true
      · rw [if_pos d] at h
        cases e : k - (memN f n).length with
        | zero =>
          rw [e] at h
          have h : n = t := by simpa using h
          subst h
          refine ⟨by omega, d, ?_⟩
          rw [memN_len]
          omega
        | succ j =>
          rw [e] at h
          simp at h
      · rw [if_neg d] at h
        simp at h
theorem memN_at {f : Int → Bool} {n t : Nat} (h : t < n) (m : f (t : Nat) = true) : ∃ k : Nat, (memN f n)[k]? = some t ∧ cntN f t = (k : Int) := by
  have : t ∈ memN f n := List.mem_filter.mpr ⟨List.mem_range.mpr h, m⟩
  obtain ⟨k, hk⟩ := List.mem_iff_getElem?.mp this
  exact ⟨k, hk, (memN_get hk).2.2⟩
theorem memN_split (f : Int → Bool) (h p : Nat) : memN f (h + p) = memN f h ++ ((List.range p).map fun i => h + i).filter fun i => f (i : Nat) := by
  unfold memN
  rw [List.range_add, List.filter_append]
/-- the law's place -/
def frontL (head : Nat) (bits : List Bool) : List Nat := memN (gq head bits) head
def backL (head : Nat) (bits : List Bool) : List Nat := ((List.range (bits.length - head)).map fun i => head + i).filter fun i => gq head bits (i : Nat)
theorem front_back {head : Nat} {bits : List Bool} (ln : head < bits.length) : memN (gq head bits) bits.length = frontL head bits ++ backL head bits := by
  have := memN_split (gq head bits) head (bits.length - head)
  rw [show head + (bits.length - head) = bits.length by omega] at this
  exact this
theorem gq_per {head : Nat} {bits : List Bool} (ln : head < bits.length) : ∀ t : Nat, head ≤ t → gq head bits ((t + (bits.length - head) : Nat) : Int) = gq head bits t := fun t ht => by
  obtain ⟨p, hp⟩ : ∃ p : Nat, p = bits.length - head := ⟨_, rfl⟩
  unfold gq placeOf
  rw [← hp, if_neg (by omega)]
  have e : ((t + p : Nat) : Int) - head = ((t : Int) - head) + p := by omega
  rw [e, Int.add_emod_right]
  by_cases d : (t : Int) < head + p
  · rw [if_pos d, Int.emod_eq_of_lt (by omega) (by omega)]
    rw [show (head : Int) + ((t : Int) - head) = t by omega]
  · rw [if_neg d]
theorem per_mul {f : Int → Bool} {h p : Nat} (per : ∀ t : Nat, h ≤ t → f ((t + p : Nat) : Int) = f t) {t : Nat} (ht : h ≤ t) : ∀ k : Nat, f ((t + p * k : Nat) : Int) = f t
  | 0 => by rw [Nat.mul_zero, Nat.add_zero]
  | k + 1 => by rw [show t + p * (k + 1) = (t + p * k) + p by rw [Nat.mul_add]; omega, per _ (by omega), per_mul per ht k]
theorem front_nth {head : Nat} {bits : List Bool} (ln : head < bits.length) {k t : Nat} (h : (frontL head bits)[k]? = some t) : IsNth (gq head bits) (k : Nat) (some (t : Nat)) := by
  obtain ⟨a, b, d⟩ := memN_get h
  refine ⟨by omega, b, ?_⟩
  unfold cnt
  rw [Int.toNat_natCast]
  exact d
theorem back_nth {head : Nat} {bits : List Bool} (ln : head < bits.length) {k q t : Nat} (h : (backL head bits)[k]? = some t) : IsNth (gq head bits) (((frontL head bits).length + (backL head bits).length * q + k : Nat) : Int) (some ((t + (bits.length - head) * q : Nat) : Int)) := by
  have fb := front_back ln
  have hk := (List.getElem?_eq_some_iff.mp h).1
  have g : (memN (gq head bits) bits.length)[(frontL head bits).length + k]? = some t := by
    rw [fb, List.getElem?_append_right (by omega), show (frontL head bits).length + k - (frontL head bits).length = k by omega]
    exact h
  obtain ⟨a, b, d⟩ := memN_get g
  have th : head ≤ t := by
    have := List.mem_of_getElem? h
    obtain ⟨hm, _⟩ := List.mem_filter.mp this
    obtain ⟨i, _, rfl⟩ := List.mem_map.mp hm
    omega
  have per := gq_per ln
  refine ⟨by omega, by rw [per_mul per th]; exact b, ?_⟩
  unfold cnt
  rw [Int.toNat_natCast, show t + (bits.length - head) * q = head + (bits.length - head) * q + (t - head) by omega, cntN_per per, show head + (t - head) = t by omega, d, show head + (bits.length - head) = bits.length by omega, memN_len, memN_len, fb, List.length_append]
  have e : memN (gq head bits) head = frontL head bits := rfl
  have c := Int.mul_comm (q : Int) (backL head bits).length
  rw [e, show (((frontL head bits).length + (backL head bits).length : Nat) : Int) - (frontL head bits).length = (backL head bits).length by omega, c]
  rw [Int.natCast_add, Int.natCast_add, Int.natCast_add, Int.natCast_mul]
  omega
theorem back_none {head : Nat} {bits : List Bool} (ln : head < bits.length) {i : Int} (hb : (backL head bits).length = 0) (hi : (frontL head bits).length ≤ i) : IsNth (gq head bits) i none := by
  intro t t0 m e
  obtain ⟨t, rfl⟩ := Int.eq_ofNat_of_zero_le t0
  unfold cnt at e
  rw [Int.toNat_natCast] at e
  have fb := front_back ln
  have bn : backL head bits = [] := List.length_eq_zero_iff.mp hb
  rw [bn, List.append_nil] at fb
  by_cases c : t < head
  · obtain ⟨k, hk, ek⟩ := memN_at (f := gq head bits) c m
    have hl := (List.getElem?_eq_some_iff.mp hk).1
    have e2 : memN (gq head bits) head = frontL head bits := rfl
    rw [e2] at hl
    omega
  · have per := gq_per ln
    have p1 : 0 < bits.length - head := by omega
    have dm := Nat.mod_add_div (t - head) (bits.length - head)
    have ml := Nat.mod_lt (t - head) p1
    have m' : gq head bits ((head + (t - head) % (bits.length - head) : Nat) : Int) = true := by
      rw [← per_mul per (t := head + (t - head) % (bits.length - head)) (by omega) ((t - head) / (bits.length - head)), show head + (t - head) % (bits.length - head) + (bits.length - head) * ((t - head) / (bits.length - head)) = t by omega]
      exact m
    have : head + (t - head) % (bits.length - head) ∈ backL head bits := by
      refine List.mem_filter.mpr ⟨List.mem_map.mpr ⟨_, List.mem_range.mpr ml, rfl⟩, m'⟩
    rw [bn] at this
    cases this
/-- a set that is taken by as times as long -/
theorem nth_by {f g : Int → Bool} {b i : Int} (b1 : 1 ≤ b) (i0 : 0 ≤ i) (e : ∀ t, 0 ≤ t → f t = g (t / b)) : ∀ {r : Option Int}, IsNth g (i / b) r → IsNth f i (r.map fun u => u * b + i % b)
  | some u, h => by
    obtain ⟨u0, m, c⟩ := h
    have r0 := Int.emod_nonneg i (show b ≠ 0 by omega)
    have r1 := Int.emod_lt_of_pos i (show 0 < b by omega)
    have dm := Int.mul_ediv_add_emod i b
    have t0 : 0 ≤ u * b := Int.mul_nonneg u0 (by omega)
    have d1 : (u * b + i % b) / b = u := by rw [Int.add_comm, Int.add_mul_ediv_right _ _ (by omega), Int.ediv_eq_zero_of_lt r0 r1, Int.zero_add]
    have d2 : (u * b + i % b) % b = i % b := by rw [Int.add_comm, Int.add_mul_emod_self_right, Int.emod_eq_of_lt r0 r1]
    have t2 : 0 ≤ u * b + i % b := by omega
    refine ⟨t2, by show f (u * b + i % b) = true; rw [e _ t2, d1]; exact m, ?_⟩
    show cnt f (u * b + i % b) = i
    rw [cnt_by b1 t2 e, d1, d2, c, if_pos m, Int.mul_comm]
    exact dm
  | none, h => by
    intro t t0 m c
    have t1 : 0 ≤ t / b := Int.ediv_nonneg t0 (by omega)
    rw [e t t0] at m
    refine h (t / b) t1 m ?_
    rw [cnt_by b1 t0 e, if_pos m] at c
    have r0 := Int.emod_nonneg t (show b ≠ 0 by omega)
    have r1 := Int.emod_lt_of_pos t (show 0 < b by omega)
    rw [← c, Int.add_comm, Int.add_mul_ediv_right _ _ (by omega), Int.ediv_eq_zero_of_lt r0 r1, Int.zero_add]
theorem nth_neg {f : Int → Bool} {i : Int} (h : i < 0) : IsNth f i none := fun t t0 m c => by
  have := cntN_nonneg f t.toNat
  unfold cnt at c
  omega
end My

namespace My
/-- the minute t is in, and the next one is t + g -/
def IsGap (f : Int → Bool) (g t : Int) : Prop := 0 ≤ t ∧ f t = true ∧ 1 ≤ g ∧ f (t + g) = true ∧ ∀ u, t < u → u < t + g → f u = false
structure Covers (f : Int → Bool) (L : List (Int × Int)) : Prop where
  sound : ∀ p ∈ L, IsGap f p.1 p.2
  cover : ∀ g t, IsGap f g t → ∃ t0, (g, t0) ∈ L ∧ t0 ≤ t
def IsShort (f : Int → Bool) : Option (Int × Int) → Prop
  | none => ∀ g t, ¬ IsGap f g t
  | some p => IsGap f p.1 p.2 ∧ ∀ g t, IsGap f g t → p.1 < g ∨ (p.1 = g ∧ p.2 ≤ t)
def IsLong (f : Int → Bool) : Option (Int × Int) → Prop
  | none => ∀ g t, ¬ IsGap f g t
  | some p => IsGap f p.1 p.2 ∧ ∀ g t, IsGap f g t → g < p.1 ∨ (p.1 = g ∧ p.2 ≤ t)
theorem IsShort.unique {f : Int → Bool} : ∀ {a b : Option (Int × Int)}, IsShort f a → IsShort f b → a = b
  | none, none, _, _ => rfl
  | none, some q, h, k => absurd k.1 (h _ _)
  | some p, none, h, k => absurd h.1 (k _ _)
  | some (p, s), some (q, t), h, k => by
    have a := h.2 _ _ k.1
    have b := k.2 _ _ h.1
    dsimp only at a b
    rw [show p = q by omega, show s = t by omega]
theorem IsLong.unique {f : Int → Bool} : ∀ {a b : Option (Int × Int)}, IsLong f a → IsLong f b → a = b
  | none, none, _, _ => rfl
  | none, some q, h, k => absurd k.1 (h _ _)
  | some p, none, h, k => absurd h.1 (k _ _)
  | some (p, s), some (q, t), h, k => by
    have a := h.2 _ _ k.1
    have b := k.2 _ _ h.1
    dsimp only at a b
    rw [show p = q by omega, show s = t by omega]
theorem Covers.none {f : Int → Bool} (c : Covers f []) : ∀ g t, ¬ IsGap f g t := fun g t h => by
  obtain ⟨_, m, _⟩ := c.cover g t h
  cases m
theorem Covers.short {f : Int → Bool} {L : List (Int × Int)} (c : Covers f L) {p : Int × Int} (hp : p ∈ L) (h : ∀ q ∈ L, p.1 < q.1 ∨ (p.1 = q.1 ∧ p.2 ≤ q.2)) : IsShort f (some p) := ⟨c.sound p hp, fun g t hg => by
  obtain ⟨t0, m, le⟩ := c.cover g t hg
  have := h _ m
  dsimp only at this
  omega⟩
theorem Covers.long {f : Int → Bool} {L : List (Int × Int)} (c : Covers f L) {p : Int × Int} (hp : p ∈ L) (h : ∀ q ∈ L, q.1 < p.1 ∨ (p.1 = q.1 ∧ p.2 ≤ q.2)) : IsLong f (some p) := ⟨c.sound p hp, fun g t hg => by
  obtain ⟨t0, m, le⟩ := c.cover g t hg
  have := h _ m
  dsimp only at this
  omega⟩
/-! ### the program's pairs -/
theorem mem_low {S : List Iv} {h p t : Int} (c : t < h + p) : mem S h p t = inL S t := by unfold mem placeOf; rw [if_pos c]
theorem mem_shift {S : List Iv} {h p : Int} (p1 : 1 ≤ p) {t : Int} (ht : h ≤ t) (k : Int) (k0 : 0 ≤ k) : mem S h p (t + p * k) = mem S h p t := by
  have e : placeOf h p (t + p * k) = placeOf h p t := by
    unfold placeOf
    have e1 : (t + p * k - h) % p = (t - h) % p := by rw [show t + p * k - h = (t - h) + p * k by omega, Int.add_mul_emod_self_left]
    have pk : k = 0 ∨ p ≤ p * k := by
      by_cases c : k = 0
      · exact Or.inl c
      · have : p * 1 ≤ p * k := Int.mul_le_mul_of_nonneg_left (by omega) (by omega)
        omega
    rcases pk with rfl | pk
    · rw [Int.mul_zero, Int.add_zero]
    rw [e1]
    by_cases c : t < h + p
    · have e2 : (t - h) % p = t - h := Int.emod_eq_of_lt (by omega) (by omega)
      rw [if_pos c]
      split <;> omega
    · rw [if_neg c, if_neg (by omega)]
  unfold mem
  rw [e]
theorem gap_sound1 {S : List Iv} {h p : Int} {z : Iv} (td : Tidy S) (box : ∀ a ∈ S, 0 ≤ a.1 ∧ a.2 ≤ h + p) (hz : z ∈ S) (w : z.2 - z.1 > 1) : IsGap (mem S h p) 1 z.1 := by
  have b := box z hz
  exact ⟨b.1, by rw [mem_low (by omega), inL_iff]; exact ⟨z, hz, by omega, by omega⟩, by omega, by rw [mem_low (by omega), inL_iff]; exact ⟨z, hz, by omega, by omega⟩, fun u _ _ => by omega⟩
theorem gap_sound2 {S : List Iv} {h p t : Int} {z : Iv} (td : Tidy S) (box : ∀ a ∈ S, 0 ≤ a.1 ∧ a.2 ≤ h + p) (hz : z ∈ S) (n : IsNth (mem S h p) (cnt (mem S h p) z.2) (some t)) : IsGap (mem S h p) (t - z.2 + 1) (z.2 - 1) := by
  have b := box z hz
  have w := td.1 z hz
  obtain ⟨g1, g2, g3⟩ := nth_ge (by omega) n
  exact ⟨by omega, by rw [mem_low (by omega), inL_iff]; exact ⟨z, hz, by omega, by omega⟩, by omega, by rw [show z.2 - 1 + (t - z.2 + 1) = t by omega]; exact g2, fun u u0 u1 => g3 u (by omega) (by omega)⟩
theorem gap_covers {S : List Iv} {h p : Int} {L : List (Int × Int)} (td : Tidy S) (h0 : 0 ≤ h) (p1 : 1 ≤ p) (box : ∀ a ∈ S, 0 ≤ a.1 ∧ a.2 ≤ h + p) (so : ∀ q ∈ L, IsGap (mem S h p) q.1 q.2) (w1 : ∀ z ∈ S, z.2 - z.1 > 1 → (1, z.1) ∈ L)
    (w2 : ∀ z ∈ S, ∃ r, IsNth (mem S h p) (cnt (mem S h p) z.2) r ∧ ∀ t, r = some t → (t - z.2 + 1, z.2 - 1) ∈ L) : Covers (mem S h p) L := by
  refine ⟨so, fun g t hg => ?_⟩
  obtain ⟨t0, m, g1, m2, no⟩ := hg
  have pr := place_range h0 p1 t0
  have m' : inL S (placeOf h p t) = true := m
  obtain ⟨z, hz, z1, z2⟩ := inL_iff.mp m'
  have bz := box z hz
  have run := mem_run h0 p1 hz bz.2 z1 z2
  have ple : placeOf h p t ≤ t := by
    unfold placeOf
    split
    · omega
    · have dm := Int.mul_ediv_add_emod (t - h) p
      have : 0 ≤ p * ((t - h) / p) := Int.mul_nonneg (by omega) (Int.ediv_nonneg (by omega) (by omega))
      omega
  by_cases c : placeOf h p t + 1 < z.2
  · have r1 := run (t + 1) (by omega) (by omega)
    have e1 : g = 1 := by
      refine Classical.byContradiction fun x => ?_
      have := no (t + 1) (by omega) (by omega)
      rw [r1] at this
      cases this
    subst e1
    exact ⟨z.1, w1 z hz (by omega), by omega⟩
  · have e : placeOf h p t = z.2 - 1 := by omega
    have tr : ∀ d, 0 ≤ d → mem S h p (z.2 - 1 + d) = mem S h p (t + d) := fun d d0 => by
      by_cases c : t < h + p
      · have : placeOf h p t = t := by unfold placeOf; rw [if_pos c]
        rw [← e, this]
      · have e3 : placeOf h p t = h + (t - h) % p := by unfold placeOf; rw [if_neg c]
        have dm := Int.mul_ediv_add_emod (t - h) p
        have r0 := Int.emod_nonneg (t - h) (show p ≠ 0 by omega)
        rw [← mem_shift p1 (t := z.2 - 1 + d) (by omega) ((t - h) / p) (Int.ediv_nonneg (by omega) (by omega))]
        congr 1
        omega
    obtain ⟨r, n, k⟩ := w2 z hz
    have m3 : mem S h p (z.2 - 1 + g) = true := by rw [tr g (by omega)]; exact m2
    cases r with
    | none =>
      have := nth_none (by omega) n (z.2 - 1 + g) (by omega)
      rw [m3] at this
      cases this
    | some t' =>
      obtain ⟨g1', g2', g3'⟩ := nth_ge (by omega) n
      have et : t' = z.2 - 1 + g := by
        rcases Int.lt_trichotomy t' (z.2 - 1 + g) with x | x | x
        · have := no (t + (t' - (z.2 - 1))) (by omega) (by omega)
          rw [← tr _ (by omega), show z.2 - 1 + (t' - (z.2 - 1)) = t' by omega, g2'] at this
          cases this
        · exact x
        · have := g3' _ (by omega) x
          rw [m3] at this
          cases this
      have := k t' rfl
      rw [show t' - z.2 + 1 = g by omega] at this
      exact ⟨_, this, by omega⟩
/-! ### the law's pairs -/
def gapStep (b : Int) (us : List Nat) (k : Nat) : List (Int × Int) :=
  (if b > 1 then [(1, ((us.getD k 0 : Nat) : Int) * b)] else []) ++ (if k + 1 < us.length then [((((us.getD (k + 1) 0 : Nat) : Int) - (us.getD k 0 : Nat) - 1) * b + 1, ((us.getD k 0 : Nat) : Int) * b + b - 1)] else [])
def gapsTo (b : Int) (us : List Nat) (k : Nat) : List (Int × Int) := (List.range k).flatMap (gapStep b us)
theorem gapsTo_succ {b : Int} {us : List Nat} {k : Nat} : gapsTo b us (k + 1) = gapsTo b us k ++ gapStep b us k := by
  unfold gapsTo
  rw [List.range_succ, List.flatMap_append]
  simp
theorem memN_lt {f : Int → Bool} {n j k s t : Nat} (hj : (memN f n)[j]? = some s) (hk : (memN f n)[k]? = some t) (jk : j < k) : s < t := by
  obtain ⟨_, _, a⟩ := memN_get hj
  obtain ⟨_, _, b⟩ := memN_get hk
  refine Classical.byContradiction fun z => ?_
  have := cntN_mono f (show t ≤ s by omega)
  omega
theorem gapStep_mem {b : Int} {us : List Nat} {k u : Nat} (hu : us[k]? = some u) {q : Int × Int} (h : q ∈ gapStep b us k) : (b > 1 ∧ q = (1, (u : Int) * b)) ∨ (∃ v, us[k + 1]? = some v ∧ q = (((v : Int) - u - 1) * b + 1, (u : Int) * b + b - 1)) := by
  unfold gapStep at h
  rw [List.getD_eq_getElem?_getD, List.getD_eq_getElem?_getD, hu] at h
  rcases List.mem_append.mp h with h | h
  · by_cases c : b > 1
    · rw [if_pos c] at h
      exact Or.inl ⟨c, List.mem_singleton.mp h⟩
    · rw [if_neg c] at h
      cases h
  · by_cases c : k + 1 < us.length
    · rw [if_pos c, List.getElem?_eq_getElem c] at h
      exact Or.inr ⟨_, List.getElem?_eq_getElem c, List.mem_singleton.mp h⟩
    · rw [if_neg c] at h
      cases h
theorem gapStep_one {b : Int} {us : List Nat} {k u : Nat} (hu : us[k]? = some u) (c : b > 1) : (1, (u : Int) * b) ∈ gapStep b us k := by
  unfold gapStep
  rw [List.getD_eq_getElem?_getD, hu, if_pos c]
  exact List.mem_append.mpr (Or.inl (List.mem_singleton.mpr rfl))
theorem gapStep_two {b : Int} {us : List Nat} {k u v : Nat} (hu : us[k]? = some u) (hv : us[k + 1]? = some v) : (((v : Int) - u - 1) * b + 1, (u : Int) * b + b - 1) ∈ gapStep b us k := by
  unfold gapStep
  have c := (List.getElem?_eq_some_iff.mp hv).1
  rw [List.getD_eq_getElem?_getD, List.getD_eq_getElem?_getD, hu, hv, if_pos c]
  exact List.mem_append.mpr (Or.inr (List.mem_singleton.mpr rfl))
theorem gaps_sorted {f : Int → Bool} {b : Int} {n : Nat} (b1 : 1 ≤ b) : (gapsTo b (memN f n) (memN f n).length).Pairwise fun a c => a.2 ≤ c.2 := by
  have rng : ∀ k u : Nat, (memN f n)[k]? = some u → ∀ q ∈ gapStep b (memN f n) k, (u : Int) * b ≤ q.2 ∧ q.2 ≤ (u : Int) * b + b - 1 := fun k u hu q hq => by
    rcases gapStep_mem hu hq with ⟨_, rfl⟩ | ⟨v, _, rfl⟩ <;> dsimp only <;> omega
  unfold gapsTo
  rw [List.pairwise_flatMap]
  refine ⟨fun k hk => ?_, ?_⟩
  · unfold gapStep
    split <;> split <;> simp
    omega
  · refine List.Pairwise.imp_of_mem ?_ List.pairwise_lt_range
    intro i j hi hj ij x hx y hy
    have hi := List.mem_range.mp hi
    have hj := List.mem_range.mp hj
    have gi := List.getElem?_eq_getElem hi
    have gj := List.getElem?_eq_getElem hj
    have a := rng _ _ gi x hx
    have c := rng _ _ gj y hy
    have l := memN_lt gi gj ij
    have : ((memN f n)[i] + 1 : Int) * b ≤ ((memN f n)[j] : Int) * b := Int.mul_le_mul_of_nonneg_right (by omega) (by omega)
    rw [Int.add_mul, Int.one_mul] at this
    omega
theorem law_covers {head : Nat} {bits : List Bool} {b : Int} {f : Int → Bool} (ln : head < bits.length) (b1 : 1 ≤ b) (e : ∀ t, 0 ≤ t → f t = gq head bits (t / b)) : Covers f (gapsTo b (memN (gq head bits) (3 * bits.length - 2 * head)) (memN (gq head bits) (3 * bits.length - 2 * head)).length) := by
  obtain ⟨g, hg⟩ : ∃ g, g = gq head bits := ⟨_, rfl⟩
  obtain ⟨p, hp⟩ : ∃ p, p = bits.length - head := ⟨_, rfl⟩
  have per := gq_per ln
  rw [← hg, ← hp] at per
  rw [← hg] at e ⊢
  obtain ⟨n, hn⟩ : ∃ n, n = 3 * bits.length - 2 * head := ⟨_, rfl⟩
  rw [← hn]
  have dv : ∀ (u : Nat) (r : Int), 0 ≤ r → r < b → ((u : Int) * b + r) / b = u := fun u r r0 r1 => by rw [Int.add_comm, Int.add_mul_ediv_right _ _ (by omega), Int.ediv_eq_zero_of_lt r0 r1, Int.zero_add]
  have ub0 : ∀ u : Nat, 0 ≤ (u : Int) * b := fun u => Int.mul_nonneg (by omega) (by omega)
  have fu : ∀ (u : Nat) (r : Int), 0 ≤ r → r < b → f ((u : Int) * b + r) = g u := fun u r r0 r1 => by rw [e _ (by have := ub0 u; omega), dv u r r0 r1]
  refine ⟨fun q hq => ?_, fun gp t hgp => ?_⟩
  · obtain ⟨k, hk, hq⟩ := List.mem_flatMap.mp hq
    have hk := List.mem_range.mp hk
    obtain ⟨u, hu⟩ : ∃ u, (memN g n)[k]? = some u := ⟨_, List.getElem?_eq_getElem hk⟩
    obtain ⟨_, mu, cu⟩ := memN_get hu
    have u0 := ub0 u
    rcases gapStep_mem hu hq with ⟨c, rfl⟩ | ⟨v, hv, rfl⟩
    · refine ⟨u0, ?_, by show (1 : Int) ≤ 1; omega, ?_, fun w _ _ => ?_⟩
      · have := fu u 0 (by omega) (by omega)
        rw [Int.add_zero] at this
        show f ((u : Int) * b) = true
        rw [this]; exact mu
      · show f ((u : Int) * b + 1) = true
        rw [fu u 1 (by omega) (by omega)]; exact mu
      · dsimp only at *
        omega
    · obtain ⟨_, mv, cv⟩ := memN_get hv
      have lt := memN_lt hu hv (by omega)
      have x1 : (((v : Int) - u - 1) * b + 1) = (v : Int) * b - (u : Int) * b - b + 1 := by rw [Int.sub_mul, Int.sub_mul, Int.one_mul]
      have x2 : ((u : Int) + 1) * b ≤ (v : Int) * b := Int.mul_le_mul_of_nonneg_right (by omega) (by omega)
      rw [Int.add_mul, Int.one_mul] at x2
      dsimp only
      refine ⟨by omega, ?_, by omega, ?_, fun w w0 w1 => ?_⟩
      · rw [show (u : Int) * b + b - 1 = (u : Int) * b + (b - 1) by omega, fu u _ (by omega) (by omega)]; exact mu
      · rw [show (u : Int) * b + b - 1 + (((v : Int) - u - 1) * b + 1) = (v : Int) * b + 0 by omega, fu v _ (by omega) (by omega)]; exact mv
      · rw [x1] at w1
        rw [e w (by omega)]
        have w2 : 0 ≤ w / b := Int.ediv_nonneg (by omega) (by omega)
        obtain ⟨y, hy⟩ := Int.eq_ofNat_of_zero_le w2
        have dm := Int.mul_ediv_add_emod w b
        have r0 := Int.emod_nonneg w (show b ≠ 0 by omega)
        have r1 := Int.emod_lt_of_pos w (show 0 < b by omega)
        rw [hy, Int.mul_comm] at dm
        rw [hy]
        have y1 : u < y := by
          refine Classical.byContradiction fun z => ?_
          have : (y : Int) * b ≤ (u : Int) * b := Int.mul_le_mul_of_nonneg_right (by omega) (by omega)
          omega
        have y2 : y < v := by
          refine Classical.byContradiction fun z => ?_
          have : (v : Int) * b ≤ (y : Int) * b := Int.mul_le_mul_of_nonneg_right (by omega) (by omega)
          omega
        cases hz : g y with
        | false => rfl
        | true =>
          have c1 := cntN_lt g y1 mu
          have c2 := cntN_lt g y2 hz
          omega
  · obtain ⟨t0, mt, g1, mt2, no⟩ := hgp
    have w2 : 0 ≤ t / b := Int.ediv_nonneg t0 (by omega)
    obtain ⟨u, hu⟩ := Int.eq_ofNat_of_zero_le w2
    have dm := Int.mul_ediv_add_emod t b
    have r0 := Int.emod_nonneg t (show b ≠ 0 by omega)
    have r1 := Int.emod_lt_of_pos t (show 0 < b by omega)
    rw [hu, Int.mul_comm] at dm
    generalize t % b = r at dm r0 r1
    have mu : g u = true := by
      rw [e t t0, hu] at mt
      exact mt
    -- back into the first row
    obtain ⟨u0, q, e0, mle, mu0, sh⟩ : ∃ u0 q : Nat, u = u0 + p * q ∧ u0 < head + p ∧ g u0 = true ∧ ∀ d : Nat, g ((u0 + d : Nat) : Int) = g ((u + d : Nat) : Int) := by
      by_cases c : u < head + p
      · exact ⟨u, 0, by simp, c, mu, fun d => rfl⟩
      · have dm := Nat.mod_add_div (u - head) p
        have ml := Nat.mod_lt (u - head) (show 0 < p by omega)
        have sh : ∀ d : Nat, g ((head + (u - head) % p + d : Nat) : Int) = g ((u + d : Nat) : Int) := fun d => by
          have := per_mul per (t := head + (u - head) % p + d) (by omega) ((u - head) / p)
          rw [← this]
          congr 2
          omega
        exact ⟨head + (u - head) % p, (u - head) / p, by omega, by omega, by have := sh 0; rw [Nat.add_zero, Nat.add_zero] at this; rw [this]; exact mu, sh⟩
    have u0n : u0 < n := by omega
    obtain ⟨k, hk, ck⟩ := memN_at u0n mu0
    have hkl := (List.getElem?_eq_some_iff.mp hk).1
    have le0 : (u0 : Int) * b ≤ (u : Int) * b := Int.mul_le_mul_of_nonneg_right (by rw [e0]; omega) (by omega)
    by_cases c : r < b - 1
    · have f1 : f (t + 1) = true := by rw [← dm, Int.add_assoc, fu u (r + 1) (by omega) (by omega)]; exact mu
      have e1 : gp = 1 := by
        refine Classical.byContradiction fun x => ?_
        have := no (t + 1) (by omega) (by omega)
        rw [f1] at this
        cases this
      subst e1
      exact ⟨_, List.mem_flatMap.mpr ⟨k, List.mem_range.mpr hkl, gapStep_one hk (by omega)⟩, by omega⟩
    · have er : r = b - 1 := by omega
      subst er
      have v0 : 0 ≤ (t + gp) / b := Int.ediv_nonneg (by omega) (by omega)
      obtain ⟨v, hv⟩ := Int.eq_ofNat_of_zero_le v0
      have dm2 := Int.mul_ediv_add_emod (t + gp) b
      have s0 := Int.emod_nonneg (t + gp) (show b ≠ 0 by omega)
      have s1 := Int.emod_lt_of_pos (t + gp) (show 0 < b by omega)
      rw [hv, Int.mul_comm] at dm2
      have mv : g v = true := by
        rw [e _ (by omega), hv] at mt2
        exact mt2
      have uv : u < v := by
        refine Classical.byContradiction fun z => ?_
        have : (v : Int) * b ≤ (u : Int) * b := Int.mul_le_mul_of_nonneg_right (by omega) (by omega)
        omega
      have x2 : ((u : Int) + 1) * b ≤ (v : Int) * b := Int.mul_le_mul_of_nonneg_right (by omega) (by omega)
      rw [Int.add_mul, Int.one_mul] at x2
      have ev : t + gp = (v : Int) * b := by
        refine Classical.byContradiction fun z => ?_
        have := no ((v : Int) * b + 0) (by omega) (by omega)
        rw [fu v 0 (by omega) (by omega), mv] at this
        cases this
      have nob : ∀ y : Nat, u < y → y < v → g y = false := fun y y1 y2 => by
        have z1 : ((u : Int) + 1) * b ≤ (y : Int) * b := Int.mul_le_mul_of_nonneg_right (by omega) (by omega)
        have z2 : ((y : Int) + 1) * b ≤ (v : Int) * b := Int.mul_le_mul_of_nonneg_right (by omega) (by omega)
        rw [Int.add_mul, Int.one_mul] at z1 z2
        have := no ((y : Int) * b + 0) (by omega) (by omega)
        rw [fu y 0 (by omega) (by omega)] at this
        exact this
      have mv0 : g ((u0 + (v - u) : Nat) : Int) = true := by rw [sh, show u + (v - u) = v by omega]; exact mv
      have nob0 : ∀ y : Nat, u0 < y → y < u0 + (v - u) → g y = false := fun y y1 y2 => by
        have := sh (y - u0)
        rw [show u0 + (y - u0) = y by omega] at this
        rw [this]
        exact nob _ (by omega) (by omega)
      have v0n : u0 + (v - u) < n := by
        refine Classical.byContradiction fun z => ?_
        have a := nob0 (u0 + (v - u) - p) (by omega) (by omega)
        have b' := per (u0 + (v - u) - p) (by omega)
        rw [show u0 + (v - u) - p + p = u0 + (v - u) by omega, mv0, a] at b'
        cases b'
      obtain ⟨k', hk', ck'⟩ := memN_at v0n mv0
      have kk : k' = k + 1 := by
        have c1 := cntN_add g (u0 + 1) (v - u - 1)
        have c2 := cntN_const (f := fun t => g (((u0 + 1 : Nat) : Int) + t)) (c := false) (v - u - 1) fun t ht => by
          rw [← Int.natCast_add]
          exact nob0 _ (by omega) (by omega)
        rw [if_neg (by simp)] at c2
        rw [c2, show u0 + 1 + (v - u - 1) = u0 + (v - u) by omega, cntN, if_pos mu0] at c1
        omega
      subst kk
      refine ⟨_, List.mem_flatMap.mpr ⟨k, List.mem_range.mpr hkl, ?_⟩, show (u0 : Int) * b + b - 1 ≤ t by omega⟩
      have := gapStep_two (b := b) hk hk'
      have x1 : ((((u0 + (v - u) : Nat) : Int) - u0 - 1) * b + 1) = gp := by
        rw [show (((u0 + (v - u) : Nat) : Int) - u0 - 1) = (v : Int) - u - 1 by omega, Int.sub_mul, Int.sub_mul, Int.one_mul]
        omega
      rw [x1] at this
      exact this
end My

namespace My
theorem ext_ev {h p : Int} {X : Int → Prop} (p1 : 1 ≤ p) : Ev h p (ext h p X) := fun t ht => by
  rw [ext_tail (by omega), ext_tail ht, show t + p - h = (t - h) + p by omega, Int.add_emod_right]
theorem Canon.le {P : Int → Prop} {h p hd q : Int} {S : List Iv} (c : Canon P hd q S) (e : Ev h p P) (h0 : 0 ≤ h) (p1 : 1 ≤ p) : hd ≤ h ∧ q ≤ p := by
  have q1 := c.p1
  refine ⟨?_, c.least p h p1 e⟩
  refine Classical.byContradiction fun z => ?_
  exact c.lh (by omega) (e.back p1 (by omega) c.ev (hd - 1) (by omega))
theorem cnt_congr {f g : Int → Bool} (e : ∀ t, 0 ≤ t → f t = g t) (m : Int) : cnt f m = cnt g m := cntN_congr _ fun t _ => e _ (by omega)
theorem IsNth.congr {f g : Int → Bool} {i : Int} (e : ∀ t, 0 ≤ t → f t = g t) : ∀ {r : Option Int}, IsNth f i r → IsNth g i r
  | some t, ⟨a, b, c⟩ => ⟨a, by rw [← e t a]; exact b, by rw [← cnt_congr e]; exact c⟩
  | none, h => fun t t0 m c => h t t0 (by rw [e t t0]; exact m) (by rw [cnt_congr e]; exact c)
theorem Listed.congr {f g : Int → Bool} {s n : Int} {ms : List Int} (e : ∀ t, 0 ≤ t → f t = g t) (s0 : 0 ≤ s) (h : Listed f s n ms) : Listed g s n ms := ⟨h.1, fun t => by
  rw [h.2]
  constructor
  · rintro ⟨a, b, c⟩
    exact ⟨a, b, by rw [← e t (by omega)]; exact c⟩
  · rintro ⟨a, b, c⟩
    exact ⟨a, b, by rw [e t (by omega)]; exact c⟩⟩
theorem IsGap.congr {f g : Int → Bool} (e : ∀ t, 0 ≤ t → f t = g t) {d t : Int} (h : IsGap f d t) : IsGap g d t :=
  ⟨h.1, by rw [← e t h.1]; exact h.2.1, h.2.2.1, by rw [← e _ (by have := h.1; have := h.2.2.1; omega)]; exact h.2.2.2.1, fun u a b => by rw [← e u (by have := h.1; omega)]; exact h.2.2.2.2 u a b⟩
theorem IsShort.congr {f g : Int → Bool} (e : ∀ t, 0 ≤ t → f t = g t) : ∀ {r : Option (Int × Int)}, IsShort f r → IsShort g r
  | none, h => fun d t z => h d t (z.congr fun t h => (e t h).symm)
  | some p, h => ⟨h.1.congr e, fun d t z => h.2 d t (z.congr fun t h => (e t h).symm)⟩
theorem IsLong.congr {f g : Int → Bool} (e : ∀ t, 0 ≤ t → f t = g t) : ∀ {r : Option (Int × Int)}, IsLong f r → IsLong g r
  | none, h => fun d t z => h d t (z.congr fun t h => (e t h).symm)
  | some p, h => ⟨h.1.congr e, fun d t z => h.2 d t (z.congr fun t h => (e t h).symm)⟩
theorem listed_unique {f : Int → Bool} {s n : Int} : ∀ {xs ys : List Int}, Listed f s n xs → Listed f s n ys → xs = ys := fun {xs ys} a b => by
  have sub : ∀ (xs ys : List Int), xs.Pairwise (· < ·) → ys.Pairwise (· < ·) → (∀ t, t ∈ xs ↔ t ∈ ys) → xs = ys := by
    intro xs
    induction xs with
    | nil =>
      intro ys _ _ h
      cases ys with
      | nil => rfl
      | cons y r => exact absurd ((h y).mpr List.mem_cons_self) (fun z => nomatch z)
    | cons x r ih =>
      intro ys px py h
      cases ys with
      | nil => exact absurd ((h x).mp List.mem_cons_self) (fun z => nomatch z)
      | cons y q =>
        obtain ⟨p1, p2⟩ := List.pairwise_cons.mp px
        obtain ⟨q1, q2⟩ := List.pairwise_cons.mp py
        have e : x = y := by
          rcases List.mem_cons.mp ((h x).mp List.mem_cons_self) with z | z
          · exact z
          · rcases List.mem_cons.mp ((h y).mpr List.mem_cons_self) with w | w
            · exact w.symm
            · have := q1 x z
              have := p1 y w
              omega
        subst e
        congr 1
        refine ih q p2 q2 fun t => ?_
        constructor
        · intro m
          rcases List.mem_cons.mp ((h t).mp (List.mem_cons_of_mem _ m)) with z | z
          · have := p1 t m
            omega
          · exact z
        · intro m
          rcases List.mem_cons.mp ((h t).mpr (List.mem_cons_of_mem _ m)) with z | z
          · have := q1 t m
            omega
          · exact z
  exact sub xs ys a.1 b.1 fun t => by rw [a.2, b.2]
/-! ### the law's pattern -/
def trueAt (bits : List Bool) : List Nat := (List.range bits.length).filter fun i => bits.getD i false
def pairsBy (bits : List Bool) (b : Int) : List Iv := (trueAt bits).map fun (u : Nat) => ((u : Int) * b, (u : Int) * b + b)
theorem inL_pairs {bits : List Bool} {b t : Int} (b1 : 1 ≤ b) (t0 : 0 ≤ t) : inL (pairsBy bits b) t = bits.getD (t / b).toNat false := by
  refine bool_ext ?_
  rw [inL_iff]
  have q0 : 0 ≤ t / b := Int.ediv_nonneg t0 (by omega)
  obtain ⟨u, hu⟩ := Int.eq_ofNat_of_zero_le q0
  have dm := Int.mul_ediv_add_emod t b
  have r0 := Int.emod_nonneg t (show b ≠ 0 by omega)
  have r1 := Int.emod_lt_of_pos t (show 0 < b by omega)
  rw [hu, Int.mul_comm] at dm
  rw [hu, show ((u : Int)).toNat = u from rfl]
  constructor
  · rintro ⟨a, ha, a1, a2⟩
    obtain ⟨v, hv, rfl⟩ := List.mem_map.mp ha
    dsimp only at a1 a2
    have e : v = u := by
      rcases Nat.lt_trichotomy v u with z | z | z
      · have : ((v : Int) + 1) * b ≤ (u : Int) * b := Int.mul_le_mul_of_nonneg_right (by omega) (by omega)
        rw [Int.add_mul, Int.one_mul] at this
        omega
      · exact z
      · have : ((u : Int) + 1) * b ≤ (v : Int) * b := Int.mul_le_mul_of_nonneg_right (by omega) (by omega)
        rw [Int.add_mul, Int.one_mul] at this
        omega
    subst e
    exact (List.mem_filter.mp hv).2
  · intro m
    have ul : u < bits.length := by
      refine Classical.byContradiction fun z => ?_
      rw [List.getD_eq_getElem?_getD, List.getElem?_eq_none (by omega)] at m
      cases m
    exact ⟨_, List.mem_map.mpr ⟨u, List.mem_filter.mpr ⟨List.mem_range.mpr ul, m⟩, rfl⟩, by dsimp only; omega, by dsimp only; omega⟩
theorem pairs_len {bits : List Bool} {b : Int} : (pairsBy bits b).length ≤ bits.length := by
  unfold pairsBy trueAt
  rw [List.length_map]
  exact Nat.le_trans (List.length_filter_le _ _) (by rw [List.length_range]; exact Nat.le_refl _)
theorem pairs_ok {bits : List Bool} {b : Int} (b1 : 1 ≤ b) : ∀ a ∈ pairsBy bits b, 0 ≤ a.1 ∧ a.1 < a.2 ∧ a.2 ≤ (bits.length : Int) * b := fun a ha => by
  obtain ⟨v, hv, rfl⟩ := List.mem_map.mp ha
  have := List.mem_range.mp (List.mem_filter.mp hv).1
  have z1 : ((v : Int) + 1) * b ≤ (bits.length : Int) * b := Int.mul_le_mul_of_nonneg_right (by omega) (by omega)
  have z2 : 0 ≤ (v : Int) * b := Int.mul_nonneg (by omega) (by omega)
  rw [Int.add_mul, Int.one_mul] at z1
  dsimp only
  omega
/-- the law's row, carried on, of minutes by as times as long -/
def gv (head : Nat) (bits : List Bool) (b m : Int) : Bool := bits.getD (placeOf head ((bits.length - head : Nat) : Int) (m / b)).toNat false
theorem law_ext {head : Nat} {bits : List Bool} {b t : Int} (ln : head < bits.length) (b1 : 1 ≤ b) (t0 : 0 ≤ t) : ext ((head : Int) * b) (((bits.length - head : Nat) : Int) * b) (fun t => inL (pairsBy bits b) t = true) t ↔ gv head bits b t = true :=
  (ext_scale (X := fun t => inL (pairsBy bits b) t = true) (Y := bt bits) b1 (by omega) (by omega) (fun u u0 => by rw [inL_pairs b1 u0]; exact Iff.rfl) t0)
theorem law_mem {head : Nat} {bits : List Bool} {b hd q : Int} {S : List Iv} (ln : head < bits.length) (b1 : 1 ≤ b) (c : Canon (ext ((head : Int) * b) (((bits.length - head : Nat) : Int) * b) fun t => inL (pairsBy bits b) t = true) hd q S) : ∀ t, 0 ≤ t → mem S hd q t = gv head bits b t := fun t t0 => bool_ext (by
  rw [← law_ext ln b1 t0]
  exact canon_in c t0)
/-! ### finite and empty -/
theorem cntN_zero {f : Int → Bool} : ∀ {n : Nat}, cntN f n = 0 → ∀ t : Nat, t < n → f t = false
  | n + 1, h, t, ht => by
    rw [cntN] at h
    have := cntN_nonneg f n
    by_cases c : f (n : Nat) = true
    · rw [if_pos c] at h
      omega
    · by_cases d : t = n
      · subst d
        cases z : f (t : Nat) with
        | false => rfl
        | true => exact absurd z c
      · rw [if_neg c] at h
        exact cntN_zero (f := f) (n := n) (by omega) t (by omega)
theorem fin_mem {S : List Iv} {h p : Int} (td : Tidy S) (h0 : 0 ≤ h) (p1 : 1 ≤ p) (box : ∀ a ∈ S, 0 ≤ a.1 ∧ a.2 ≤ h + p) : (tot S = nearOf S h) ↔ ∀ t, h ≤ t → mem S h p t = false := by
  have e1 := below_cnt td h0 p1 box (m := h) h0
  have e2 := below_cnt td h0 p1 box (m := h + p) (by omega)
  unfold belowP at e1 e2
  rw [if_pos (by omega)] at e1
  rw [if_pos (by omega), near_ov td, ov_all fun a ha => ⟨td.1 a ha, (box a ha).2⟩] at e2
  rw [e1, e2]
  have base : (∀ t, h ≤ t → t < h + p → mem S h p t = false) ↔ cnt (mem S h p) (h + p) = cnt (mem S h p) h := by
    constructor
    · intro z
      have := cnt_none (f := mem S h p) h0 p.toNat fun t a b => z t a (by omega)
      rw [show h + ((p.toNat : Nat) : Int) = h + p by omega] at this
      exact this
    · intro z t a b
      cases m : mem S h p t with
      | false => rfl
      | true =>
        have x := cnt_lt (f := mem S h p) (show 0 ≤ t by omega) b m
        have y := cnt_mono (f := mem S h p) a
        omega
  rw [← base]
  constructor
  · intro z t ht
    have dm := Int.mul_ediv_add_emod (t - h) p
    have r0 := Int.emod_nonneg (t - h) (show p ≠ 0 by omega)
    have r1 := Int.emod_lt_of_pos (t - h) (show 0 < p by omega)
    have := mem_shift p1 (S := S) (h := h) (t := h + (t - h) % p) (by omega) ((t - h) / p) (Int.ediv_nonneg (by omega) (by omega))
    rw [show h + (t - h) % p + p * ((t - h) / p) = t by omega] at this
    rw [this]
    exact z _ (by omega) (by omega)
  · intro z t ht _
    exact z t ht
theorem emp_mem {S : List Iv} {h p : Int} (td : Tidy S) (h0 : 0 ≤ h) (p1 : 1 ≤ p) (box : ∀ a ∈ S, 0 ≤ a.1 ∧ a.2 ≤ h + p) : (tot S = 0) ↔ ∀ t, 0 ≤ t → mem S h p t = false := by
  have e2 := below_cnt td h0 p1 box (m := h + p) (by omega)
  unfold belowP at e2
  rw [if_pos (by omega), near_ov td, ov_all fun a ha => ⟨td.1 a ha, (box a ha).2⟩] at e2
  constructor
  · intro z
    have nl := near_le (m := h) td
    have f := (fin_mem td h0 p1 box).mp (by omega)
    intro t t0
    by_cases c : t < h
    · have : cntN (mem S h p) (h + p).toNat = 0 := by
        unfold cnt at e2
        omega
      have := cntN_zero this t.toNat (by omega)
      rw [show ((t.toNat : Nat) : Int) = t by omega] at this
      exact this
    · exact f t (by omega)
  · intro z
    rw [e2]
    have := cnt_none (f := mem S h p) (a := 0) (by omega) (h + p).toNat fun t a b => z t a
    rw [show (0 : Int) + (((h + p).toNat : Nat) : Int) = h + p by omega] at this
    rw [this]
    rfl
theorem countT_zero {bs : List Bool} : countT bs = 0 ↔ ∀ b ∈ bs, b = false := by
  unfold countT
  rw [List.countP_eq_zero]
  constructor
  · intro h b hb
    have := h b hb
    cases b <;> simp_all
  · intro h b hb
    rw [h b hb]
    decide
theorem law_fin {head : Nat} {bits : List Bool} {b : Int} (ln : head < bits.length) (b1 : 1 ≤ b) : countT (bits.drop head) = 0 ↔ ∀ t, (head : Int) * b ≤ t → gv head bits b t = false := by
  rw [countT_zero]
  constructor
  · intro h t ht
    have u0 : (head : Int) ≤ t / b := (Int.le_ediv_iff_mul_le (by omega)).mpr ht
    obtain ⟨v, e1, v1, v2⟩ : ∃ v : Nat, placeOf head ((bits.length - head : Nat) : Int) (t / b) = (v : Int) ∧ head ≤ v ∧ v < bits.length := by
      have r0 := Int.emod_nonneg (t / b - head) (show ((bits.length - head : Nat) : Int) ≠ 0 by omega)
      have r1 := Int.emod_lt_of_pos (t / b - head) (show 0 < ((bits.length - head : Nat) : Int) by omega)
      refine ⟨(placeOf head ((bits.length - head : Nat) : Int) (t / b)).toNat, ?_, ?_, ?_⟩ <;> unfold placeOf <;> split <;> omega
    unfold gv
    rw [e1, show ((v : Int)).toNat = v from rfl, List.getD_eq_getElem?_getD, List.getElem?_eq_getElem v2]
    refine h _ (List.mem_iff_getElem?.mpr ⟨v - head, ?_⟩)
    rw [List.getElem?_drop, show head + (v - head) = v by omega, List.getElem?_eq_getElem v2]
    rfl
  · intro h y hy
    obtain ⟨i, hi⟩ := List.mem_iff_getElem?.mp hy
    rw [List.getElem?_drop] at hi
    have il := (List.getElem?_eq_some_iff.mp hi).1
    have z0 : (head : Int) * b ≤ ((head + i : Nat) : Int) * b := Int.mul_le_mul_of_nonneg_right (by omega) (by omega)
    have := h (((head + i : Nat) : Int) * b) z0
    unfold gv at this
    rw [Int.mul_ediv_cancel _ (by omega)] at this
    unfold placeOf at this
    rw [if_pos (by omega), show (((head + i : Nat) : Int)).toNat = head + i from rfl, List.getD_eq_getElem?_getD, hi] at this
    exact this
theorem law_emp {head : Nat} {bits : List Bool} {b : Int} (ln : head < bits.length) (b1 : 1 ≤ b) : countT bits = 0 ↔ ∀ t, 0 ≤ t → gv head bits b t = false := by
  rw [countT_zero]
  constructor
  · intro h t ht
    have u0 : 0 ≤ t / b := Int.ediv_nonneg ht (by omega)
    have pr := place_range (h := (head : Int)) (p := ((bits.length - head : Nat) : Int)) (m := t / b) (by omega) (by omega) u0
    unfold gv
    generalize placeOf (head : Int) ((bits.length - head : Nat) : Int) (t / b) = v at pr
    rw [List.getD_eq_getElem?_getD, List.getElem?_eq_getElem (show v.toNat < bits.length by omega)]
    exact h _ (List.getElem_mem _)
  · intro h y hy
    obtain ⟨i, hi⟩ := List.mem_iff_getElem?.mp hy
    have il := (List.getElem?_eq_some_iff.mp hi).1
    have := h ((i : Int) * b) (Int.mul_nonneg (by omega) (by omega))
    unfold gv at this
    rw [Int.mul_ediv_cancel _ (by omega)] at this
    unfold placeOf at this
    rw [if_pos (by omega), show ((i : Int)).toNat = i from rfl, List.getD_eq_getElem?_getD, hi] at this
    exact this
/-- no minute from some minute on -/
theorem fin_iff {f : Int → Bool} {h p h' p' : Int} (h0 : 0 ≤ h) (h0' : 0 ≤ h') (p1 : 1 ≤ p) (p1' : 1 ≤ p') (e : Ev h p fun t => f t = true) (e' : Ev h' p' fun t => f t = true) : (∀ t, h ≤ t → f t = false) ↔ ∀ t, h' ≤ t → f t = false := by
  have one : ∀ {h p h' : Int}, 1 ≤ p → (Ev h' p fun t => f t = true) → (∀ t, h ≤ t → f t = false) → ∀ t, h' ≤ t → f t = false := fun {h p h'} p1 e a t ht => by
    obtain ⟨k, hk⟩ := far_up (t := t) (x := h) p1
    have m := e.mul (by omega) k ht
    have n := a _ hk
    cases z : f t with
    | false => rfl
    | true => rw [m.mpr z] at n; cases n
  exact ⟨one p1' e', one p1 e⟩
end My

namespace My
/-- the members of s .. s + n - 1 -/
def listOf (f : Int → Bool) (s : Int) (n : Nat) : List Int := ((List.range n).filter fun i => f (s + (i : Nat))).map fun (i : Nat) => s + (i : Int)
theorem listOf_succ {f : Int → Bool} {s : Int} {n : Nat} : listOf f s (n + 1) = listOf f s n ++ if f (s + n) = true then [s + (n : Int)] else [] := by
  unfold listOf
  rw [List.range_succ, List.filter_append, List.map_append]
  congr 1
  by_cases c : f (s + n) = true
  · rw [if_pos c, List.filter_cons_of_pos (by exact c), List.filter_nil, List.map_singleton]
  · rw [if_neg c, List.filter_cons_of_neg (by exact c), List.filter_nil, List.map_nil]
theorem listOf_ok {f : Int → Bool} {s : Int} : ∀ n : Nat, Listed f s (s + n) (listOf f s n)
  | 0 => .nil (by omega)
  | n + 1 => by
    have ih := listOf_ok (f := f) (s := s) n
    rw [listOf_succ]
    by_cases c : f (s + n) = true
    · rw [if_pos c]
      have := ih.run (t := s + n) (n := 1) (by omega) (Int.le_refl _) (fun u _ _ => by omega) fun u a b => by
        rw [show u = s + n by omega]
        exact c
      rw [show s + ((n + 1 : Nat) : Int) = s + n + ((1 : Nat) : Int) by omega]
      simpa using this
    · rw [if_neg c, List.append_nil]
      refine ih.ext (by omega) fun u a b => ?_
      rw [show u = s + n by omega]
      cases z : f (s + n) with
      | false => rfl
      | true => exact absurd z c
theorem listOf_cnt {f : Int → Bool} {s : Int} (s0 : 0 ≤ s) : ∀ n : Nat, cnt f (s + n) - cnt f s = (listOf f s n).length
  | 0 => by
    rw [show s + ((0 : Nat) : Int) = s by omega]
    simp [listOf]
  | n + 1 => by
    have ih := listOf_cnt (f := f) s0 n
    rw [listOf_succ, List.length_append, show (((listOf f s n).length + (if f (s + ↑n) = true then [s + (n : Int)] else []).length : Nat) : Int) = ((listOf f s n).length : Int) + ((if f (s + ↑n) = true then [s + (n : Int)] else []).length : Int) from rfl, ← ih]
    by_cases c : f (s + n) = true
    · have := cnt_run (f := f) (a := s + n) (by omega) 1 fun u a b => by
        rw [show u = s + n by omega]
        exact c
      rw [if_pos c, show s + ((n + 1 : Nat) : Int) = s + n + ((1 : Nat) : Int) by omega, this]
      simp
      omega
    · have := cnt_none (f := f) (a := s + n) (by omega) 1 fun u a b => by
        rw [show u = s + n by omega]
        cases z : f (s + n) with
        | false => rfl
        | true => exact absurd z c
      rw [if_neg c, show s + ((n + 1 : Nat) : Int) = s + n + ((1 : Nat) : Int) by omega, this]
      simp
theorem listOf_len {f : Int → Bool} {s : Int} {n : Nat} : (listOf f s n).length ≤ n := by
  unfold listOf
  rw [List.length_map]
  exact Nat.le_trans (List.length_filter_le _ _) (by rw [List.length_range]; exact Nat.le_refl _)
theorem listed_cnt {f : Int → Bool} {s e : Int} {ms : List Int} (s0 : 0 ≤ s) (le : s ≤ e) (l : Listed f s e ms) : cnt f e - cnt f s = ms.length := by
  have o := listOf_ok (f := f) (s := s) (e - s).toNat
  have c := listOf_cnt (f := f) s0 (e - s).toNat
  rw [show s + (((e - s).toNat : Nat) : Int) = e by omega] at o c
  rw [c, listed_unique o l]
/-! ### one minute in each of some -/
theorem every_in {p f t : Int} (p1 : 1 ≤ p) (t0 : 0 ≤ t) : ext f p (fun t => inL [(f, f + 1)] t = true) t ↔ f ≤ t ∧ (t - f) % p = 0 := by
  have one : ∀ u : Int, inL [(f, f + 1)] u = true ↔ u = f := fun u => by
    rw [inL_iff]
    constructor
    · rintro ⟨a, ha, a1, a2⟩
      obtain rfl := List.mem_singleton.mp ha
      dsimp only at a1 a2
      omega
    · rintro rfl
      exact ⟨_, List.mem_singleton.mpr rfl, by dsimp only; omega, by dsimp only; omega⟩
  unfold ext
  dsimp only
  rw [one]
  by_cases c : t < f + p
  · rw [if_pos c]
    constructor
    · rintro rfl
      exact ⟨Int.le_refl _, by simp⟩
    · rintro ⟨a, b⟩
      rw [Int.emod_eq_of_lt (by omega) (by omega)] at b
      omega
  · rw [if_neg c]
    constructor
    · intro h
      exact ⟨by omega, by omega⟩
    · rintro ⟨a, b⟩
      omega
/-- the first of them from a minute on -/
def oneOf (p f s : Int) : Int := if s > f then f + (s - f + p - 1) / p * p else f
theorem oneOf_ok {p f s : Int} (p1 : 1 ≤ p) : f ≤ oneOf p f s ∧ s ≤ oneOf p f s ∧ (oneOf p f s - f) % p = 0 ∧ (oneOf p f s < s + p ∨ oneOf p f s = f) := by
  unfold oneOf
  by_cases c : s > f
  · rw [if_pos c]
    have dm := Int.mul_ediv_add_emod (s - f + p - 1) p
    have r0 := Int.emod_nonneg (s - f + p - 1) (show p ≠ 0 by omega)
    have r1 := Int.emod_lt_of_pos (s - f + p - 1) (show 0 < p by omega)
    rw [Int.mul_comm] at dm
    refine ⟨by omega, by omega, ?_, by omega⟩
    rw [show f + (s - f + p - 1) / p * p - f = (s - f + p - 1) / p * p by omega]
    exact Int.mul_emod_left _ _
  · rw [if_neg c]
    exact ⟨by omega, by omega, by simp, Or.inr rfl⟩
def dueOf (p one e : Int) : List Int := ((List.range 6).filter fun k => decide (one + (k : Nat) * p < e)).map fun (k : Nat) => one + (k : Int) * p
theorem due_listed {g : Int → Bool} {p f s e : Int} (p1 : 1 ≤ p) (f0 : 0 ≤ f) (s0 : 0 ≤ s) (se : s ≤ e) (e1 : e ≤ s + 5 * p) (hg : ∀ t, 0 ≤ t → (g t = true ↔ f ≤ t ∧ (t - f) % p = 0)) : Listed g s e (dueOf p (oneOf p f s) e) := by
  obtain ⟨o1, o2, o3, o4⟩ := oneOf_ok (p := p) (f := f) (s := s) p1
  generalize oneOf p f s = one at o1 o2 o3 o4
  refine ⟨?_, fun t => ?_⟩
  · unfold dueOf
    rw [List.pairwise_map]
    refine (List.pairwise_lt_range.filter _).imp fun {a b} h => ?_
    have : ((a : Int) + 1) * p ≤ (b : Int) * p := Int.mul_le_mul_of_nonneg_right (by omega) (by omega)
    rw [Int.add_mul, Int.one_mul] at this
    omega
  · unfold dueOf
    rw [List.mem_map]
    constructor
    · rintro ⟨k, hk, rfl⟩
      obtain ⟨_, k2⟩ := List.mem_filter.mp hk
      have k2 := of_decide_eq_true k2
      have kp : 0 ≤ (k : Int) * p := Int.mul_nonneg (by omega) (by omega)
      refine ⟨by omega, k2, (hg _ (by omega)).mpr ⟨by omega, ?_⟩⟩
      rw [show one + (k : Int) * p - f = (one - f) + (k : Int) * p by omega, Int.add_mul_emod_self_right]
      exact o3
    · rintro ⟨a, b, c⟩
      obtain ⟨c1, c2⟩ := (hg t (by omega)).mp c
      have d1 := Int.mul_ediv_add_emod (t - f) p
      have d2 := Int.mul_ediv_add_emod (one - f) p
      rw [c2, Int.mul_comm] at d1
      rw [o3, Int.mul_comm] at d2
      generalize (t - f) / p = x at d1
      generalize (one - f) / p = y at d2
      have xy : y ≤ x := by
        refine Classical.byContradiction fun z => ?_
        have : (x + 1) * p ≤ y * p := Int.mul_le_mul_of_nonneg_right (by omega) (by omega)
        rw [Int.add_mul, Int.one_mul] at this
        rcases o4 with o4 | o4
        · omega
        · have : 0 ≤ x * p := by omega
          omega
      have x5 : x < y + 5 := by
        refine Classical.byContradiction fun z => ?_
        have : (y + 5) * p ≤ x * p := Int.mul_le_mul_of_nonneg_right (by omega) (by omega)
        rw [Int.add_mul] at this
        omega
      have et : t = one + (((x - y).toNat : Nat) : Int) * p := by
        rw [show (((x - y).toNat : Nat) : Int) = x - y by omega, Int.sub_mul]
        omega
      exact ⟨(x - y).toNat, List.mem_filter.mpr ⟨List.mem_range.mpr (by omega), decide_eq_true (by rw [← et]; exact b)⟩, et.symm⟩
end My

namespace My
def gL (u : Int) : Bool := decide (u % 7 < 1 + u / 7 % 5)
def fL (t : Int) : Bool := decide (t < 35000) && gL t
def pairL (k : Nat) : Iv := (7 * (k : Int), 7 * (k : Int) + 1 + (k : Int) % 5)
def pairsL (N : Nat) : List Iv := (List.range N).map pairL
theorem pairsL_in {N : Nat} {t : Int} (t0 : 0 ≤ t) : inL (pairsL N) t = true ↔ t < 7 * (N : Int) ∧ gL t = true := by
  rw [inL_iff]
  unfold gL
  rw [decide_eq_true_eq]
  constructor
  · rintro ⟨a, ha, a1, a2⟩
    obtain ⟨k, hk, rfl⟩ := List.mem_map.mp ha
    have := List.mem_range.mp hk
    unfold pairL at a1 a2
    dsimp only at a1 a2
    have e : t / 7 = k := by omega
    omega
  · rintro ⟨h1, h2⟩
    obtain ⟨k, hk⟩ := Int.eq_ofNat_of_zero_le (show 0 ≤ t / 7 by omega)
    refine ⟨pairL k, List.mem_map.mpr ⟨k, List.mem_range.mpr (by omega), rfl⟩, ?_, ?_⟩ <;> unfold pairL <;> dsimp only <;> omega
theorem pairsL_len {N : Nat} : (pairsL N).length = N := by unfold pairsL; rw [List.length_map, List.length_range]
theorem pairsL_ok {N : Nat} : ∀ a ∈ pairsL N, 0 ≤ a.1 ∧ a.1 < a.2 ∧ a.2 ≤ 7 * (N : Int) := fun a ha => by
  obtain ⟨k, hk, rfl⟩ := List.mem_map.mp ha
  have := List.mem_range.mp hk
  unfold pairL
  dsimp only
  omega
theorem large_ext {N : Nat} (hN : N = 5000) {t : Int} (t0 : 0 ≤ t) : ext 35000 1 (fun t => inL (pairsL N) t = true) t ↔ fL t = true := by
  unfold ext
  dsimp only
  by_cases c : t < 35000 + 1
  · rw [if_pos c, pairsL_in t0]
    unfold fL
    rw [Bool.and_eq_true, decide_eq_true_eq, show 7 * (N : Int) = 35000 by omega]
  · rw [if_neg c, pairsL_in (by omega)]
    unfold fL
    rw [Bool.and_eq_true, decide_eq_true_eq]
    constructor
    · rintro ⟨a, _⟩
      omega
    · rintro ⟨a, _⟩
      omega
theorem gL_per : ∀ t : Nat, 0 ≤ t → gL ((t + 35 : Nat) : Int) = gL t := fun t _ => by
  unfold gL
  apply decide_eq_decide.mpr
  omega
def againL : List Nat := [0, 7, 8, 14, 15, 16, 21, 22, 23, 24, 28, 29, 30, 31, 32]
theorem again_is : memN gL 35 = againL := by decide +kernel
theorem again_lt : ∀ r : Fin 36, (againL.filter fun t => decide (t < r.1)).length = (memN gL r.1).length := by decide +kernel
theorem again_cnt {r : Nat} (h : r < 36) : cntN gL r = ((againL.filter fun t => decide (t < r)).length : Int) := by
  rw [memN_len, ← again_lt ⟨r, h⟩]
theorem cnt_gL {m : Nat} : cntN gL m = 15 * ((m / 35 : Nat) : Int) + cntN gL (m % 35) := by
  have := cntN_per (h := 0) (p := 35) gL_per (m % 35) (m / 35)
  rw [show 0 + 35 * (m / 35) + m % 35 = m by omega, show 0 + 35 = 35 from rfl, Nat.zero_add] at this
  have z : cntN gL 0 = 0 := rfl
  have e : cntN gL 35 = 15 := by decide +kernel
  rw [this, z, e]
  omega
theorem cnt_low {m : Int} (m0 : 0 ≤ m) (m1 : m ≤ 35000) : cnt fL m = 15 * (m / 35) + cntN gL (m % 35).toNat := by
  obtain ⟨n, rfl⟩ := Int.eq_ofNat_of_zero_le m0
  unfold cnt
  rw [Int.toNat_natCast, cntN_congr (g := gL) n fun t ht => by
    unfold fL
    rw [decide_eq_true (by omega), Bool.true_and], cnt_gL]
  rfl
theorem cnt_high {m : Int} (m1 : 35000 ≤ m) : cnt fL m = 15000 := by
  have a := cnt_none (f := fL) (a := 35000) (by omega) (m - 35000).toNat fun t t0 _ => by
    unfold fL
    rw [decide_eq_false (by omega), Bool.false_and]
  rw [show (35000 : Int) + (((m - 35000).toNat : Nat) : Int) = m by omega] at a
  rw [a, cnt_low (by omega) (by omega)]
  rfl
def countL (m : Int) : Int := if m < 35000 then m / 35 * 15 + ((againL.filter fun (t : Nat) => decide ((t : Int) < m % 35)).length : Int) else 15000
theorem cnt_fL {m : Int} (m0 : 0 ≤ m) : cnt fL m = countL m := by
  unfold countL
  by_cases c : m < 35000
  · rw [if_pos c, cnt_low m0 (by omega), again_cnt (by omega), Int.mul_comm]
    have e : (againL.filter fun t => decide (t < (m % 35).toNat)) = againL.filter fun (t : Nat) => decide ((t : Int) < m % 35) := List.filter_congr fun t _ => decide_eq_decide.mpr (by omega)
    rw [e]
  · rw [if_neg c, cnt_high (by omega)]
def placeL (i : Int) : Option Int := if i < 15000 then some (i / 15 * 35 + (againL.getD (i % 15).toNat 0 : Nat)) else none
theorem nth_fL {i : Int} (i0 : 0 ≤ i) : IsNth fL i (placeL i) := by
  unfold placeL
  by_cases c : i < 15000
  · rw [if_pos c]
    obtain ⟨j, hj⟩ := Int.eq_ofNat_of_zero_le (show 0 ≤ i % 15 by omega)
    have jl : j < againL.length := by show j < 15; omega
    have e : againL.getD (i % 15).toNat 0 = againL[j] := by
      rw [hj, Int.toNat_natCast, List.getD_eq_getElem?_getD, List.getElem?_eq_getElem jl]
      rfl
    have g : (memN gL 35)[j]? = some againL[j] := by rw [again_is, List.getElem?_eq_getElem jl]
    obtain ⟨u1, u2, u3⟩ := memN_get g
    rw [e]
    generalize againL[j] = u at u1 u2 u3
    have gt : gL (i / 15 * 35 + (u : Int)) = true := by
      unfold gL at u2 ⊢
      rw [decide_eq_true_eq] at u2 ⊢
      omega
    refine ⟨by omega, ?_, ?_⟩
    · unfold fL
      rw [decide_eq_true (by omega), gt]
      rfl
    · rw [cnt_low (by omega) (by omega), show (i / 15 * 35 + (u : Int)) / 35 = i / 15 by omega, show ((i / 15 * 35 + (u : Int)) % 35).toNat = u by omega, u3]
      omega
  · rw [if_neg c]
    intro t t0 m e
    have tl : t < 35000 := by
      unfold fL at m
      rw [Bool.and_eq_true, decide_eq_true_eq] at m
      exact m.1
    have := cnt_lt t0 tl m
    rw [cnt_high (m := 35000) (by omega), e] at this
    omega
theorem fL_iff {t : Int} : fL t = true ↔ t < 35000 ∧ t % 7 < 1 + t / 7 % 5 := by
  unfold fL gL
  rw [Bool.and_eq_true, decide_eq_true_eq, decide_eq_true_eq]
theorem fL_not {t : Int} (h : ¬ (t < 35000 ∧ t % 7 < 1 + t / 7 % 5)) : fL t = false := by
  cases z : fL t with
  | false => rfl
  | true => exact absurd (fL_iff.mp z) h
theorem short_fL : IsShort fL (some (1, 7)) := by
  refine ⟨⟨by decide, by decide +kernel, by decide, by decide +kernel, fun u a b => by dsimp only at a b; omega⟩, fun g t h => ?_⟩
  obtain ⟨t0, m, g1, m2, no⟩ := h
  have m := fL_iff.mp m
  by_cases c : g = 1
  · subst c
    have m2 := fL_iff.mp m2
    exact Or.inr ⟨rfl, by dsimp only; omega⟩
  · exact Or.inl (by dsimp only; omega)
theorem long_fL : IsLong fL (some (7, 0)) := by
  refine ⟨⟨by decide, by decide +kernel, by decide, by decide +kernel, fun u a b => fL_not (by dsimp only at a b; omega)⟩, fun g t h => ?_⟩
  obtain ⟨t0, m, g1, m2, no⟩ := h
  have m2 := fL_iff.mp m2
  by_cases c : g ≤ 7
  · dsimp only
    omega
  · have := no (7 * (t / 7) + 7) (by omega) (by omega)
    have y : fL (7 * (t / 7) + 7) = true := fL_iff.mpr ⟨by omega, by omega⟩
    rw [y] at this
    cases this
theorem last_fL : placeL 14999 = some 34997 := by decide +kernel
end My

namespace My
open PySem L2
def top (i : Nat) : Stmt := PySem.Challenge.pw_duejobs_k03_counts_and_places_far.main.body.getD i (.Pass ⟨0, 0, 0, 0⟩)
abbrev s__wall : Stmt := top 1
abbrev s_tidy : Stmt := top 3
abbrev s_starts_below : Stmt := top 4
abbrev s_clip : Stmt := top 5
abbrev s_rest : Stmt := top 6
abbrev s_joined : Stmt := top 7
abbrev s_common : Stmt := top 8
abbrev s_without : Stmt := top 9
abbrev s_odd : Stmt := top 10
abbrev s_moved : Stmt := top 11
abbrev s_round_steps : Stmt := top 13
abbrev s_least_period : Stmt := top 14
abbrev s_least_head : Stmt := top 15
abbrev s_Form_init : Stmt := inClass (top 16) 0
abbrev s_OutOfRange_init : Stmt := inClass (top 19) 0
abbrev s_TooMany_init : Stmt := inClass (top 20) 0
abbrev s_BadStretch_init : Stmt := inClass (top 21) 0
abbrev s_in_range : Stmt := top 25
abbrev s_spread : Stmt := top 27
abbrev s_stretches_below : Stmt := top 28
abbrev s_common_window : Stmt := top 29
abbrev s_both_spread : Stmt := top 30
abbrev s_Pattern_init : Stmt := inClass (top 34) 0
abbrev s_Pattern_never : Stmt := inClass (top 34) 1
abbrev s_Pattern_always : Stmt := inClass (top 34) 2
abbrev s_Pattern_once : Stmt := inClass (top 34) 3
abbrev s_Pattern_every : Stmt := inClass (top 34) 4
abbrev s_Pattern_span : Stmt := inClass (top 34) 5
abbrev s_Pattern_eq : Stmt := inClass (top 34) 6
abbrev s_Pattern_or : Stmt := inClass (top 34) 7
abbrev s_Pattern_and : Stmt := inClass (top 34) 8
abbrev s_Pattern_sub : Stmt := inClass (top 34) 9
abbrev s_Pattern_xor : Stmt := inClass (top 34) 10
abbrev s_Pattern_invert : Stmt := inClass (top 34) 11
abbrev s_Pattern_contains : Stmt := inClass (top 34) 12
abbrev s_Pattern_finite : Stmt := inClass (top 34) 13
abbrev s_Pattern_empty : Stmt := inClass (top 34) 14
abbrev s_Pattern_number_in : Stmt := inClass (top 34) 15
abbrev s_Pattern_minute_at : Stmt := inClass (top 34) 16
abbrev s_Pattern_first_from : Stmt := inClass (top 34) 17
abbrev s_Pattern_last_before : Stmt := inClass (top 34) 18
abbrev s_Pattern_each_minute : Stmt := inClass (top 34) 19
abbrev s_Pattern_run_end : Stmt := inClass (top 34) 20
abbrev s_Pattern_near : Stmt := inClass (top 34) 21
abbrev s_Pattern_below : Stmt := inClass (top 34) 22
abbrev s_Pattern_nth : Stmt := inClass (top 34) 23
abbrev s_built_pattern : Stmt := top 35
abbrev s_gaps : Stmt := top 37
abbrev s_shortest_gap : Stmt := top 38
abbrev s_longest_gap : Stmt := top 39
abbrev s__law_start : Stmt := top 41
abbrev s__law_draw : Stmt := top 42
abbrev s__law_far : Stmt := top 43
abbrev s__law_drawn : Stmt := top 44
abbrev s__law_pick_factor : Stmt := top 45
abbrev s__law_pattern : Stmt := top 46
abbrev s__law_is_in : Stmt := top 47
abbrev s__law_below : Stmt := top 48
abbrev s__law_place : Stmt := top 49
abbrev s__law_gaps : Stmt := top 50
abbrev s__law_int : Stmt := top 51
abbrev s__law_same : Stmt := top 52
abbrev s__law_pair : Stmt := top 53
abbrev s__law_row : Stmt := top 54
abbrev s__law_made : Stmt := top 55
abbrev s__law_asked : Stmt := top 56
abbrev s__law_looks : Stmt := top 57
abbrev s__law_spans : Stmt := top 58
abbrev s__law_refused : Stmt := top 59
abbrev s__law_large : Stmt := top 60
abbrev s__law_whole : Stmt := top 61
abbrev s_law : Stmt := top 62
theorem sc_tidy : FnScope ["pairs", "told", "start", "end"] ["pairs"] (defScope s_tidy) := ⟨rfl, rfl, rfl, by decide +kernel, rfl, by decide +kernel, by decide +kernel⟩
theorem sc_starts_below : FnScope ["pairs", "minute", "low", "high", "middle"] ["pairs", "minute"] (defScope s_starts_below) := ⟨rfl, rfl, rfl, by decide +kernel, rfl, by decide +kernel, by decide +kernel⟩
theorem sc_clip : FnScope ["pairs", "start", "end", "first", "cut"] ["pairs", "start", "end"] (defScope s_clip) := ⟨rfl, rfl, rfl, by decide +kernel, rfl, by decide +kernel, by decide +kernel⟩
theorem sc_round_steps : FnScope ["head", "period", "tail", "runs", "start", "end", "following", "run", "then"] ["head", "period", "tail"] (defScope s_round_steps) := ⟨rfl, rfl, rfl, by decide +kernel, rfl, by decide +kernel, by decide +kernel⟩
theorem sc_least_period : FnScope ["head", "period", "pairs", "tail", "steps", "many", "size"] ["head", "period", "pairs"] (defScope s_least_period) := ⟨rfl, rfl, rfl, by decide +kernel, rfl, by decide +kernel, by decide +kernel⟩
theorem sc_least_head : FnScope ["head", "period", "pairs", "now", "pair", "edge", "then"] ["head", "period", "pairs"] (defScope s_least_head) := ⟨rfl, rfl, rfl, by decide +kernel, rfl, by decide +kernel, by decide +kernel⟩
theorem sc_Form_init : FnScope ["self", "head", "period", "pairs", "whole"] ["self", "head", "period", "pairs"] (defScope s_Form_init) := ⟨rfl, rfl, rfl, by decide +kernel, rfl, by decide +kernel, by decide +kernel⟩
theorem sc_OutOfRange_init : FnScope ["self", "what", "value"] ["self", "what", "value"] (defScope s_OutOfRange_init) := ⟨rfl, rfl, rfl, by decide +kernel, rfl, by decide +kernel, by decide +kernel⟩
theorem sc_TooMany_init : FnScope ["self", "what", "many"] ["self", "what", "many"] (defScope s_TooMany_init) := ⟨rfl, rfl, rfl, by decide +kernel, rfl, by decide +kernel, by decide +kernel⟩
theorem sc_BadStretch_init : FnScope ["self", "at"] ["self", "at"] (defScope s_BadStretch_init) := ⟨rfl, rfl, rfl, by decide +kernel, rfl, by decide +kernel, by decide +kernel⟩
theorem sc_in_range : FnScope ["what", "value", "low", "high"] ["what", "value", "low", "high"] (defScope s_in_range) := ⟨rfl, rfl, rfl, by decide +kernel, rfl, by decide +kernel, by decide +kernel⟩
theorem sc_Pattern_init : FnScope ["self", "head", "period", "stretches", "at", "start", "end", "form", "sums"] ["self", "head", "period", "stretches"] (defScope s_Pattern_init) := ⟨rfl, rfl, rfl, by decide +kernel, rfl, by decide +kernel, by decide +kernel⟩
theorem sc_Pattern_never : FnScope [] [] (defScope s_Pattern_never) := ⟨rfl, rfl, rfl, by decide +kernel, rfl, by decide +kernel, by decide +kernel⟩
theorem sc_Pattern_every : FnScope ["period", "first"] ["period", "first"] (defScope s_Pattern_every) := ⟨rfl, rfl, rfl, by decide +kernel, rfl, by decide +kernel, by decide +kernel⟩
theorem sc_Pattern_contains : FnScope ["self", "minute"] ["self", "minute"] (defScope s_Pattern_contains) := ⟨rfl, rfl, rfl, by decide +kernel, rfl, by decide +kernel, by decide +kernel⟩
theorem sc_Pattern_finite : FnScope ["self"] ["self"] (defScope s_Pattern_finite) := ⟨rfl, rfl, rfl, by decide +kernel, rfl, by decide +kernel, by decide +kernel⟩
theorem sc_Pattern_empty : FnScope ["self"] ["self"] (defScope s_Pattern_empty) := ⟨rfl, rfl, rfl, by decide +kernel, rfl, by decide +kernel, by decide +kernel⟩
theorem sc_Pattern_number_in : FnScope ["self", "start", "end"] ["self", "start", "end"] (defScope s_Pattern_number_in) := ⟨rfl, rfl, rfl, by decide +kernel, rfl, by decide +kernel, by decide +kernel⟩
theorem sc_Pattern_minute_at : FnScope ["self", "index"] ["self", "index"] (defScope s_Pattern_minute_at) := ⟨rfl, rfl, rfl, by decide +kernel, rfl, by decide +kernel, by decide +kernel⟩
theorem sc_Pattern_first_from : FnScope ["self", "minute"] ["self", "minute"] (defScope s_Pattern_first_from) := ⟨rfl, rfl, rfl, by decide +kernel, rfl, by decide +kernel, by decide +kernel⟩
theorem sc_Pattern_last_before : FnScope ["self", "minute", "many"] ["self", "minute"] (defScope s_Pattern_last_before) := ⟨rfl, rfl, rfl, by decide +kernel, rfl, by decide +kernel, by decide +kernel⟩
theorem sc_Pattern_each_minute : GScope ["self", "start", "end", "low", "high", "minute"] ["self", "start", "end"] (defScope s_Pattern_each_minute) := ⟨rfl, rfl, rfl, by decide +kernel, rfl, by decide +kernel, by decide +kernel⟩
theorem sc_Pattern_run_end : FnScope ["self", "minute", "edge", "place", "at"] ["self", "minute"] (defScope s_Pattern_run_end) := ⟨rfl, rfl, rfl, by decide +kernel, rfl, by decide +kernel, by decide +kernel⟩
theorem sc_Pattern_near : FnScope ["self", "minute", "at", "start", "end"] ["self", "minute"] (defScope s_Pattern_near) := ⟨rfl, rfl, rfl, by decide +kernel, rfl, by decide +kernel, by decide +kernel⟩
theorem sc_Pattern_below : FnScope ["self", "minute", "rounds", "over"] ["self", "minute"] (defScope s_Pattern_below) := ⟨rfl, rfl, rfl, by decide +kernel, rfl, by decide +kernel, by decide +kernel⟩
theorem sc_Pattern_nth : FnScope ["self", "index", "each", "by", "rounds", "over", "low", "high", "middle"] ["self", "index"] (defScope s_Pattern_nth) := ⟨rfl, rfl, rfl, by decide +kernel, rfl, by decide +kernel, by decide +kernel⟩
theorem sc_gaps : FnScope ["pattern", "found", "start", "end", "then"] ["pattern"] (defScope s_gaps) := ⟨rfl, rfl, rfl, by decide +kernel, rfl, by decide +kernel, by decide +kernel⟩
theorem sc_shortest_gap : FnScope ["pattern", "found"] ["pattern"] (defScope s_shortest_gap) := ⟨rfl, rfl, rfl, by decide +kernel, rfl, by decide +kernel, by decide +kernel⟩
theorem sc_longest_gap : FnScope ["pattern", "found", "most", "gap", "_", "minute"] ["pattern"] (defScope s_longest_gap) := ⟨rfl, rfl, rfl, by decide +kernel, rfl, by decide +kernel, by decide +kernel⟩
theorem sc__law_start : FnScope ["script", "cells", "k", "cell", "one", "two", "three"] ["script"] (defScope s__law_start) := ⟨rfl, rfl, rfl, by decide +kernel, rfl, by decide +kernel, by decide +kernel⟩
theorem sc__law_draw : FnScope ["pool", "many", "one"] ["pool", "many"] (defScope s__law_draw) := ⟨rfl, rfl, rfl, by decide +kernel, rfl, by decide +kernel, by decide +kernel⟩
theorem sc__law_far : FnScope ["pool", "shape"] ["pool"] (defScope s__law_far) := ⟨rfl, rfl, rfl, by decide +kernel, rfl, by decide +kernel, by decide +kernel⟩
theorem sc__law_drawn : FnScope ["pool", "most", "head", "size", "bits", "k", "start", "end"] ["pool", "most"] (defScope s__law_drawn) := ⟨rfl, rfl, rfl, by decide +kernel, rfl, by decide +kernel, by decide +kernel⟩
theorem sc__law_pick_factor : FnScope ["pool", "most", "shape"] ["pool", "most"] (defScope s__law_pick_factor) := ⟨rfl, rfl, rfl, by decide +kernel, rfl, by decide +kernel, by decide +kernel⟩
theorem sc__law_pattern : FnScope ["w", "head", "bits", "by", "pairs", "t"] ["w"] (defScope s__law_pattern) := ⟨rfl, rfl, rfl, by decide +kernel, rfl, by decide +kernel, by decide +kernel⟩
theorem sc__law_is_in : FnScope ["w", "minute", "head", "bits", "by", "unit"] ["w", "minute"] (defScope s__law_is_in) := ⟨rfl, rfl, rfl, by decide +kernel, rfl, by decide +kernel, by decide +kernel⟩
theorem sc__law_below : FnScope ["w", "minute", "head", "bits", "by", "unit", "count", "tail", "rounds", "left"] ["w", "minute"] (defScope s__law_below) := ⟨rfl, rfl, rfl, by decide +kernel, rfl, by decide +kernel, by decide +kernel⟩
theorem sc__law_place : FnScope ["w", "index", "head", "bits", "by", "front", "t", "back", "at", "unit"] ["w", "index"] (defScope s__law_place) := ⟨rfl, rfl, rfl, by decide +kernel, rfl, by decide +kernel, by decide +kernel⟩
theorem sc__law_gaps : FnScope ["w", "head", "bits", "by", "top", "units", "t", "found", "k", "free", "least", "most", "one"] ["w"] (defScope s__law_gaps) := ⟨rfl, rfl, rfl, by decide +kernel, rfl, by decide +kernel, by decide +kernel⟩
theorem sc__law_int : FnScope ["one"] ["one"] (defScope s__law_int) := ⟨rfl, rfl, rfl, by decide +kernel, rfl, by decide +kernel, by decide +kernel⟩
theorem sc__law_same : FnScope ["told", "due"] ["told", "due"] (defScope s__law_same) := ⟨rfl, rfl, rfl, by decide +kernel, rfl, by decide +kernel, by decide +kernel⟩
theorem sc__law_pair : FnScope ["told", "due"] ["told", "due"] (defScope s__law_pair) := ⟨rfl, rfl, rfl, by decide +kernel, rfl, by decide +kernel, by decide +kernel⟩
theorem sc__law_row : FnScope ["told", "due", "k"] ["told", "due"] (defScope s__law_row) := ⟨rfl, rfl, rfl, by decide +kernel, rfl, by decide +kernel, by decide +kernel⟩
theorem sc__law_made : FnScope ["kind", "told", "one", "two"] ["kind", "told", "one", "two"] (defScope s__law_made) := ⟨rfl, rfl, rfl, by decide +kernel, rfl, by decide +kernel, by decide +kernel⟩
theorem sc__law_asked : FnScope ["kind", "told", "one", "two", "e", "fine", "other"] ["kind", "told", "one", "two"] (defScope s__law_asked) := ⟨rfl, rfl, rfl, by decide +kernel, rfl, by decide +kernel, by decide +kernel⟩
theorem sc__law_looks : FnScope ["told", "w", "minute", "other", "below", "between"] ["told", "w", "minute", "other"] (defScope s__law_looks) := ⟨rfl, rfl, rfl, by decide +kernel, rfl, by decide +kernel, by decide +kernel⟩
theorem sc__law_spans : FnScope ["pool", "told", "w", "k", "start", "end", "due", "t", "step", "first", "one", "thin"] ["pool", "told", "w"] (defScope s__law_spans) := ⟨rfl, rfl, rfl, by decide +kernel, rfl, by decide +kernel, by decide +kernel⟩
theorem sc__law_refused : FnScope ["pool", "told", "d", "one", "wrong", "kind", "due"] ["pool", "told"] (defScope s__law_refused) := ⟨rfl, rfl, rfl, by decide +kernel, rfl, by decide +kernel, by decide +kernel⟩
theorem sc__law_large : FnScope ["pool", "told", "k", "again", "t", "minute", "count", "left", "place", "due"] ["pool"] (defScope s__law_large) := ⟨rfl, rfl, rfl, by decide +kernel, rfl, by decide +kernel, by decide +kernel⟩
theorem sc__law_whole : FnScope ["told", "w", "least", "most", "finite", "empty", "tail"] ["told", "w"] (defScope s__law_whole) := ⟨rfl, rfl, rfl, by decide +kernel, rfl, by decide +kernel, by decide +kernel⟩
theorem sc_law : FnScope ["script", "pool", "head", "bits", "w", "told", "other", "row", "v", "second", "points", "t", "k", "one"] ["script"] (defScope s_law) := ⟨rfl, rfl, rfl, by decide +kernel, rfl, by decide +kernel, by decide +kernel⟩
structure Ad where
  (c_Form c_DueError c_OutOfRange c_TooMany c_BadStretch c_Pattern f_tidy f_starts_below f_clip f_round_steps f_least_period f_least_head f_Form_init f_OutOfRange_init f_TooMany_init f_BadStretch_init f_in_range f_Pattern_init f_Pattern_never f_Pattern_every f_Pattern_contains f_Pattern_finite f_Pattern_empty f_Pattern_number_in f_Pattern_minute_at f_Pattern_first_from f_Pattern_last_before f_Pattern_each_minute f_Pattern_run_end f_Pattern_near f_Pattern_below f_Pattern_nth f_gaps f_shortest_gap f_longest_gap f__law_start f__law_draw f__law_far f__law_drawn f__law_pick_factor f__law_pattern f__law_is_in f__law_below f__law_place f__law_gaps f__law_int f__law_same f__law_pair f__law_row f__law_made f__law_asked f__law_looks f__law_spans f__law_refused f__law_large f__law_whole f_law : Addr)
  (p_Pattern_never p_Pattern_every p_Pattern_finite p_Pattern_empty : Addr)
  (d_tidy d_starts_below d_clip d_round_steps d_least_period d_least_head d_Form_init d_OutOfRange_init d_TooMany_init d_BadStretch_init d_in_range d_Pattern_init d_Pattern_never d_Pattern_every d_Pattern_contains d_Pattern_finite d_Pattern_empty d_Pattern_number_in d_Pattern_minute_at d_Pattern_first_from d_Pattern_last_before d_Pattern_each_minute d_Pattern_run_end d_Pattern_near d_Pattern_below d_Pattern_nth d_gaps d_shortest_gap d_longest_gap d__law_start d__law_draw d__law_far d__law_drawn d__law_pick_factor d__law_pattern d__law_is_in d__law_below d__law_place d__law_gaps d__law_int d__law_same d__law_pair d__law_row d__law_made d__law_asked d__law_looks d__law_spans d__law_refused d__law_large d__law_whole d_law : FuncData)
structure Tx (K : PySem.W.Frag) (mg : Str → Option Value) (a : Ad) : Prop where
  g_Form : mg "Form" = some (.ref a.c_Form)
  cl_Form : Cls K a.c_Form
  no_Form_period : NoAttr K a.c_Form "period"
  no_Form_head : NoAttr K a.c_Form "head"
  no_Form_stretches : NoAttr K a.c_Form "stretches"
  M_Form : Mk K a.c_Form a.f_Form_init
  g_DueError : mg "DueError" = some (.ref a.c_DueError)
  ox_DueError : OexC K a.c_DueError
  xc_DueError : ExcC K a.c_DueError
  xf_DueError : XfC K a.c_DueError
  sub_DueError_DueError : PySem.W.subIn K (.ref a.c_DueError) (.ref a.c_DueError) = some true
  exm_DueError_DueError : PySem.W.exmOne K (.ref a.c_DueError) (.ref a.c_DueError) = some true
  kit_DueError_DueError : PySem.W.kitOne K (.ref a.c_DueError) (.ref a.c_DueError) = some true
  sub_DueError_OutOfRange : PySem.W.subIn K (.ref a.c_DueError) (.ref a.c_OutOfRange) = some false
  exm_DueError_OutOfRange : PySem.W.exmOne K (.ref a.c_DueError) (.ref a.c_OutOfRange) = some false
  kit_DueError_OutOfRange : PySem.W.kitOne K (.ref a.c_DueError) (.ref a.c_OutOfRange) = some false
  sub_DueError_TooMany : PySem.W.subIn K (.ref a.c_DueError) (.ref a.c_TooMany) = some false
  exm_DueError_TooMany : PySem.W.exmOne K (.ref a.c_DueError) (.ref a.c_TooMany) = some false
  kit_DueError_TooMany : PySem.W.kitOne K (.ref a.c_DueError) (.ref a.c_TooMany) = some false
  sub_DueError_BadStretch : PySem.W.subIn K (.ref a.c_DueError) (.ref a.c_BadStretch) = some false
  exm_DueError_BadStretch : PySem.W.exmOne K (.ref a.c_DueError) (.ref a.c_BadStretch) = some false
  kit_DueError_BadStretch : PySem.W.kitOne K (.ref a.c_DueError) (.ref a.c_BadStretch) = some false
  kitV_DueError : PySem.W.kitOne K (.ref a.c_DueError) (.type "ValueError") = some true
  g_OutOfRange : mg "OutOfRange" = some (.ref a.c_OutOfRange)
  ox_OutOfRange : OexC K a.c_OutOfRange
  xc_OutOfRange : ExcC K a.c_OutOfRange
  xf_OutOfRange : XfC K a.c_OutOfRange
  no_OutOfRange_what : PySem.W.findIn K (.ref a.c_OutOfRange) "what" = some none
  no_OutOfRange_value : PySem.W.findIn K (.ref a.c_OutOfRange) "value" = some none
  i_OutOfRange : PySem.W.findIn K (.ref a.c_OutOfRange) "__init__" = some (some (.ref a.f_OutOfRange_init))
  t_OutOfRange : PySem.W.typeIn K (.ref a.f_OutOfRange_init) = some (.type "function")
  sub_OutOfRange_DueError : PySem.W.subIn K (.ref a.c_OutOfRange) (.ref a.c_DueError) = some true
  exm_OutOfRange_DueError : PySem.W.exmOne K (.ref a.c_OutOfRange) (.ref a.c_DueError) = some true
  kit_OutOfRange_DueError : PySem.W.kitOne K (.ref a.c_OutOfRange) (.ref a.c_DueError) = some true
  sub_OutOfRange_OutOfRange : PySem.W.subIn K (.ref a.c_OutOfRange) (.ref a.c_OutOfRange) = some true
  exm_OutOfRange_OutOfRange : PySem.W.exmOne K (.ref a.c_OutOfRange) (.ref a.c_OutOfRange) = some true
  kit_OutOfRange_OutOfRange : PySem.W.kitOne K (.ref a.c_OutOfRange) (.ref a.c_OutOfRange) = some true
  sub_OutOfRange_TooMany : PySem.W.subIn K (.ref a.c_OutOfRange) (.ref a.c_TooMany) = some false
  exm_OutOfRange_TooMany : PySem.W.exmOne K (.ref a.c_OutOfRange) (.ref a.c_TooMany) = some false
  kit_OutOfRange_TooMany : PySem.W.kitOne K (.ref a.c_OutOfRange) (.ref a.c_TooMany) = some false
  sub_OutOfRange_BadStretch : PySem.W.subIn K (.ref a.c_OutOfRange) (.ref a.c_BadStretch) = some false
  exm_OutOfRange_BadStretch : PySem.W.exmOne K (.ref a.c_OutOfRange) (.ref a.c_BadStretch) = some false
  kit_OutOfRange_BadStretch : PySem.W.kitOne K (.ref a.c_OutOfRange) (.ref a.c_BadStretch) = some false
  stop_OutOfRange : PySem.W.subIn K (.ref a.c_OutOfRange) (.type "StopIteration") = some false
  kitV_OutOfRange : PySem.W.kitOne K (.ref a.c_OutOfRange) (.type "ValueError") = some true
  g_TooMany : mg "TooMany" = some (.ref a.c_TooMany)
  ox_TooMany : OexC K a.c_TooMany
  xc_TooMany : ExcC K a.c_TooMany
  xf_TooMany : XfC K a.c_TooMany
  no_TooMany_what : PySem.W.findIn K (.ref a.c_TooMany) "what" = some none
  no_TooMany_many : PySem.W.findIn K (.ref a.c_TooMany) "many" = some none
  i_TooMany : PySem.W.findIn K (.ref a.c_TooMany) "__init__" = some (some (.ref a.f_TooMany_init))
  t_TooMany : PySem.W.typeIn K (.ref a.f_TooMany_init) = some (.type "function")
  sub_TooMany_DueError : PySem.W.subIn K (.ref a.c_TooMany) (.ref a.c_DueError) = some true
  exm_TooMany_DueError : PySem.W.exmOne K (.ref a.c_TooMany) (.ref a.c_DueError) = some true
  kit_TooMany_DueError : PySem.W.kitOne K (.ref a.c_TooMany) (.ref a.c_DueError) = some true
  sub_TooMany_OutOfRange : PySem.W.subIn K (.ref a.c_TooMany) (.ref a.c_OutOfRange) = some false
  exm_TooMany_OutOfRange : PySem.W.exmOne K (.ref a.c_TooMany) (.ref a.c_OutOfRange) = some false
  kit_TooMany_OutOfRange : PySem.W.kitOne K (.ref a.c_TooMany) (.ref a.c_OutOfRange) = some false
  sub_TooMany_TooMany : PySem.W.subIn K (.ref a.c_TooMany) (.ref a.c_TooMany) = some true
  exm_TooMany_TooMany : PySem.W.exmOne K (.ref a.c_TooMany) (.ref a.c_TooMany) = some true
  kit_TooMany_TooMany : PySem.W.kitOne K (.ref a.c_TooMany) (.ref a.c_TooMany) = some true
  sub_TooMany_BadStretch : PySem.W.subIn K (.ref a.c_TooMany) (.ref a.c_BadStretch) = some false
  exm_TooMany_BadStretch : PySem.W.exmOne K (.ref a.c_TooMany) (.ref a.c_BadStretch) = some false
  kit_TooMany_BadStretch : PySem.W.kitOne K (.ref a.c_TooMany) (.ref a.c_BadStretch) = some false
  kitV_TooMany : PySem.W.kitOne K (.ref a.c_TooMany) (.type "ValueError") = some true
  g_BadStretch : mg "BadStretch" = some (.ref a.c_BadStretch)
  ox_BadStretch : OexC K a.c_BadStretch
  xc_BadStretch : ExcC K a.c_BadStretch
  xf_BadStretch : XfC K a.c_BadStretch
  no_BadStretch_at : PySem.W.findIn K (.ref a.c_BadStretch) "at" = some none
  i_BadStretch : PySem.W.findIn K (.ref a.c_BadStretch) "__init__" = some (some (.ref a.f_BadStretch_init))
  t_BadStretch : PySem.W.typeIn K (.ref a.f_BadStretch_init) = some (.type "function")
  sub_BadStretch_DueError : PySem.W.subIn K (.ref a.c_BadStretch) (.ref a.c_DueError) = some true
  exm_BadStretch_DueError : PySem.W.exmOne K (.ref a.c_BadStretch) (.ref a.c_DueError) = some true
  kit_BadStretch_DueError : PySem.W.kitOne K (.ref a.c_BadStretch) (.ref a.c_DueError) = some true
  sub_BadStretch_OutOfRange : PySem.W.subIn K (.ref a.c_BadStretch) (.ref a.c_OutOfRange) = some false
  exm_BadStretch_OutOfRange : PySem.W.exmOne K (.ref a.c_BadStretch) (.ref a.c_OutOfRange) = some false
  kit_BadStretch_OutOfRange : PySem.W.kitOne K (.ref a.c_BadStretch) (.ref a.c_OutOfRange) = some false
  sub_BadStretch_TooMany : PySem.W.subIn K (.ref a.c_BadStretch) (.ref a.c_TooMany) = some false
  exm_BadStretch_TooMany : PySem.W.exmOne K (.ref a.c_BadStretch) (.ref a.c_TooMany) = some false
  kit_BadStretch_TooMany : PySem.W.kitOne K (.ref a.c_BadStretch) (.ref a.c_TooMany) = some false
  sub_BadStretch_BadStretch : PySem.W.subIn K (.ref a.c_BadStretch) (.ref a.c_BadStretch) = some true
  exm_BadStretch_BadStretch : PySem.W.exmOne K (.ref a.c_BadStretch) (.ref a.c_BadStretch) = some true
  kit_BadStretch_BadStretch : PySem.W.kitOne K (.ref a.c_BadStretch) (.ref a.c_BadStretch) = some true
  kitV_BadStretch : PySem.W.kitOne K (.ref a.c_BadStretch) (.type "ValueError") = some true
  g_Pattern : mg "Pattern" = some (.ref a.c_Pattern)
  cl_Pattern : Cls K a.c_Pattern
  kit_Pattern : PySem.W.kitOne K (.ref a.c_Pattern) (.ref a.c_Pattern) = some true
  ia_Pattern : PySem.W.findIn K (.ref a.c_Pattern) "__class__" = some (some (.builtin "object.__class__"))
  im_Pattern : PySem.W.mroIn K a.c_Pattern (.type "object") = some true
  in_Pattern : PySem.W.specialIn K (.builtin "object.__class__") "__get__" = some (some (.builtin "getset_descriptor.__get__"))
  it_Pattern : PySem.W.takesIn K (.builtin "object.__class__") = some true
  no_Pattern_head : NoAttr K a.c_Pattern "head"
  no_Pattern_period : NoAttr K a.c_Pattern "period"
  no_Pattern_stretches : NoAttr K a.c_Pattern "stretches"
  no_Pattern__sums : NoAttr K a.c_Pattern "_sums"
  no_Pattern__front : NoAttr K a.c_Pattern "_front"
  M_Pattern : Mk K a.c_Pattern a.f_Pattern_init
  cr_Pattern : ClX.CRead K a.c_Pattern (.type "type")
  sm_Pattern_never : SMet K a.c_Pattern (.type "type") "never" a.p_Pattern_never a.f_Pattern_never
  sm_Pattern_every : SMet K a.c_Pattern (.type "type") "every" a.p_Pattern_every a.f_Pattern_every
  m_Pattern_contains : Meth K a.c_Pattern "__contains__" a.f_Pattern_contains
  pr_Pattern_finite : PropOf K a.c_Pattern "finite" a.p_Pattern_finite a.f_Pattern_finite
  pr_Pattern_empty : PropOf K a.c_Pattern "empty" a.p_Pattern_empty a.f_Pattern_empty
  m_Pattern_number_in : Meth K a.c_Pattern "number_in" a.f_Pattern_number_in
  m_Pattern_minute_at : Meth K a.c_Pattern "minute_at" a.f_Pattern_minute_at
  m_Pattern_first_from : Meth K a.c_Pattern "first_from" a.f_Pattern_first_from
  m_Pattern_last_before : Meth K a.c_Pattern "last_before" a.f_Pattern_last_before
  m_Pattern_each_minute : Meth K a.c_Pattern "each_minute" a.f_Pattern_each_minute
  m_Pattern_run_end : Meth K a.c_Pattern "_run_end" a.f_Pattern_run_end
  m_Pattern_near : Meth K a.c_Pattern "_near" a.f_Pattern_near
  m_Pattern_below : Meth K a.c_Pattern "_below" a.f_Pattern_below
  m_Pattern_nth : Meth K a.c_Pattern "_nth" a.f_Pattern_nth
  F_tidy : Fun K "tidy" "tidy" s_tidy a.f_tidy a.d_tidy
  b_tidy : Binds K a.d_tidy ["pairs"] []
  g_tidy : mg "tidy" = some (.ref a.f_tidy)
  F_starts_below : Fun K "starts_below" "starts_below" s_starts_below a.f_starts_below a.d_starts_below
  b_starts_below : Binds K a.d_starts_below ["pairs", "minute"] []
  g_starts_below : mg "starts_below" = some (.ref a.f_starts_below)
  F_clip : Fun K "clip" "clip" s_clip a.f_clip a.d_clip
  b_clip : Binds K a.d_clip ["pairs", "start", "end"] []
  g_clip : mg "clip" = some (.ref a.f_clip)
  F_round_steps : Fun K "round_steps" "round_steps" s_round_steps a.f_round_steps a.d_round_steps
  b_round_steps : Binds K a.d_round_steps ["head", "period", "tail"] []
  g_round_steps : mg "round_steps" = some (.ref a.f_round_steps)
  F_least_period : Fun K "least_period" "least_period" s_least_period a.f_least_period a.d_least_period
  b_least_period : Binds K a.d_least_period ["head", "period", "pairs"] []
  g_least_period : mg "least_period" = some (.ref a.f_least_period)
  F_least_head : Fun K "least_head" "least_head" s_least_head a.f_least_head a.d_least_head
  b_least_head : Binds K a.d_least_head ["head", "period", "pairs"] []
  g_least_head : mg "least_head" = some (.ref a.f_least_head)
  F_Form_init : Fun K "__init__" "Form.__init__" s_Form_init a.f_Form_init a.d_Form_init
  b_Form_init : Binds K a.d_Form_init ["self", "head", "period", "pairs"] []
  F_OutOfRange_init : Fun K "__init__" "OutOfRange.__init__" s_OutOfRange_init a.f_OutOfRange_init a.d_OutOfRange_init
  b_OutOfRange_init : Binds K a.d_OutOfRange_init ["self", "what", "value"] []
  F_TooMany_init : Fun K "__init__" "TooMany.__init__" s_TooMany_init a.f_TooMany_init a.d_TooMany_init
  b_TooMany_init : Binds K a.d_TooMany_init ["self", "what", "many"] []
  F_BadStretch_init : Fun K "__init__" "BadStretch.__init__" s_BadStretch_init a.f_BadStretch_init a.d_BadStretch_init
  b_BadStretch_init : Binds K a.d_BadStretch_init ["self", "at"] []
  F_in_range : Fun K "in_range" "in_range" s_in_range a.f_in_range a.d_in_range
  b_in_range : Binds K a.d_in_range ["what", "value", "low", "high"] []
  g_in_range : mg "in_range" = some (.ref a.f_in_range)
  F_Pattern_init : Fun K "__init__" "Pattern.__init__" s_Pattern_init a.f_Pattern_init a.d_Pattern_init
  b_Pattern_init : Binds K a.d_Pattern_init ["self", "head", "period", "stretches"] []
  F_Pattern_never : Fun K "never" "Pattern.never" s_Pattern_never a.f_Pattern_never a.d_Pattern_never
  b_Pattern_never : Binds K a.d_Pattern_never [] []
  F_Pattern_every : FunD K "every" "Pattern.every" (defArgs s_Pattern_every) (defBody s_Pattern_every) (defScope s_Pattern_every) [.int 0] [] a.f_Pattern_every a.d_Pattern_every
  bP_Pattern_every_0 : ∃ ds, Vals [.int 0] ds ∧ Binds K a.d_Pattern_every ["period", "first"] ds
  bP_Pattern_every_1 : ∃ ds, Vals [] ds ∧ Binds K a.d_Pattern_every ["period", "first"] ds
  F_Pattern_contains : Fun K "__contains__" "Pattern.__contains__" s_Pattern_contains a.f_Pattern_contains a.d_Pattern_contains
  b_Pattern_contains : Binds K a.d_Pattern_contains ["self", "minute"] []
  F_Pattern_finite : Fun K "finite" "Pattern.finite" s_Pattern_finite a.f_Pattern_finite a.d_Pattern_finite
  b_Pattern_finite : Binds K a.d_Pattern_finite ["self"] []
  F_Pattern_empty : Fun K "empty" "Pattern.empty" s_Pattern_empty a.f_Pattern_empty a.d_Pattern_empty
  b_Pattern_empty : Binds K a.d_Pattern_empty ["self"] []
  F_Pattern_number_in : Fun K "number_in" "Pattern.number_in" s_Pattern_number_in a.f_Pattern_number_in a.d_Pattern_number_in
  b_Pattern_number_in : Binds K a.d_Pattern_number_in ["self", "start", "end"] []
  F_Pattern_minute_at : Fun K "minute_at" "Pattern.minute_at" s_Pattern_minute_at a.f_Pattern_minute_at a.d_Pattern_minute_at
  b_Pattern_minute_at : Binds K a.d_Pattern_minute_at ["self", "index"] []
  F_Pattern_first_from : Fun K "first_from" "Pattern.first_from" s_Pattern_first_from a.f_Pattern_first_from a.d_Pattern_first_from
  b_Pattern_first_from : Binds K a.d_Pattern_first_from ["self", "minute"] []
  F_Pattern_last_before : Fun K "last_before" "Pattern.last_before" s_Pattern_last_before a.f_Pattern_last_before a.d_Pattern_last_before
  b_Pattern_last_before : Binds K a.d_Pattern_last_before ["self", "minute"] []
  F_Pattern_each_minute : Fun K "each_minute" "Pattern.each_minute" s_Pattern_each_minute a.f_Pattern_each_minute a.d_Pattern_each_minute
  b_Pattern_each_minute : Binds K a.d_Pattern_each_minute ["self", "start", "end"] []
  F_Pattern_run_end : Fun K "_run_end" "Pattern._run_end" s_Pattern_run_end a.f_Pattern_run_end a.d_Pattern_run_end
  b_Pattern_run_end : Binds K a.d_Pattern_run_end ["self", "minute"] []
  F_Pattern_near : Fun K "_near" "Pattern._near" s_Pattern_near a.f_Pattern_near a.d_Pattern_near
  b_Pattern_near : Binds K a.d_Pattern_near ["self", "minute"] []
  F_Pattern_below : Fun K "_below" "Pattern._below" s_Pattern_below a.f_Pattern_below a.d_Pattern_below
  b_Pattern_below : Binds K a.d_Pattern_below ["self", "minute"] []
  F_Pattern_nth : Fun K "_nth" "Pattern._nth" s_Pattern_nth a.f_Pattern_nth a.d_Pattern_nth
  b_Pattern_nth : Binds K a.d_Pattern_nth ["self", "index"] []
  F_gaps : Fun K "gaps" "gaps" s_gaps a.f_gaps a.d_gaps
  b_gaps : Binds K a.d_gaps ["pattern"] []
  g_gaps : mg "gaps" = some (.ref a.f_gaps)
  F_shortest_gap : Fun K "shortest_gap" "shortest_gap" s_shortest_gap a.f_shortest_gap a.d_shortest_gap
  b_shortest_gap : Binds K a.d_shortest_gap ["pattern"] []
  g_shortest_gap : mg "shortest_gap" = some (.ref a.f_shortest_gap)
  F_longest_gap : Fun K "longest_gap" "longest_gap" s_longest_gap a.f_longest_gap a.d_longest_gap
  b_longest_gap : Binds K a.d_longest_gap ["pattern"] []
  g_longest_gap : mg "longest_gap" = some (.ref a.f_longest_gap)
  F__law_start : Fun K "_law_start" "_law_start" s__law_start a.f__law_start a.d__law_start
  b__law_start : Binds K a.d__law_start ["script"] []
  g__law_start : mg "_law_start" = some (.ref a.f__law_start)
  F__law_draw : Fun K "_law_draw" "_law_draw" s__law_draw a.f__law_draw a.d__law_draw
  b__law_draw : Binds K a.d__law_draw ["pool", "many"] []
  g__law_draw : mg "_law_draw" = some (.ref a.f__law_draw)
  F__law_far : Fun K "_law_far" "_law_far" s__law_far a.f__law_far a.d__law_far
  b__law_far : Binds K a.d__law_far ["pool"] []
  g__law_far : mg "_law_far" = some (.ref a.f__law_far)
  F__law_drawn : Fun K "_law_drawn" "_law_drawn" s__law_drawn a.f__law_drawn a.d__law_drawn
  b__law_drawn : Binds K a.d__law_drawn ["pool", "most"] []
  g__law_drawn : mg "_law_drawn" = some (.ref a.f__law_drawn)
  F__law_pick_factor : Fun K "_law_pick_factor" "_law_pick_factor" s__law_pick_factor a.f__law_pick_factor a.d__law_pick_factor
  b__law_pick_factor : Binds K a.d__law_pick_factor ["pool", "most"] []
  g__law_pick_factor : mg "_law_pick_factor" = some (.ref a.f__law_pick_factor)
  F__law_pattern : Fun K "_law_pattern" "_law_pattern" s__law_pattern a.f__law_pattern a.d__law_pattern
  b__law_pattern : Binds K a.d__law_pattern ["w"] []
  g__law_pattern : mg "_law_pattern" = some (.ref a.f__law_pattern)
  F__law_is_in : Fun K "_law_is_in" "_law_is_in" s__law_is_in a.f__law_is_in a.d__law_is_in
  b__law_is_in : Binds K a.d__law_is_in ["w", "minute"] []
  g__law_is_in : mg "_law_is_in" = some (.ref a.f__law_is_in)
  F__law_below : Fun K "_law_below" "_law_below" s__law_below a.f__law_below a.d__law_below
  b__law_below : Binds K a.d__law_below ["w", "minute"] []
  g__law_below : mg "_law_below" = some (.ref a.f__law_below)
  F__law_place : Fun K "_law_place" "_law_place" s__law_place a.f__law_place a.d__law_place
  b__law_place : Binds K a.d__law_place ["w", "index"] []
  g__law_place : mg "_law_place" = some (.ref a.f__law_place)
  F__law_gaps : Fun K "_law_gaps" "_law_gaps" s__law_gaps a.f__law_gaps a.d__law_gaps
  b__law_gaps : Binds K a.d__law_gaps ["w"] []
  g__law_gaps : mg "_law_gaps" = some (.ref a.f__law_gaps)
  F__law_int : Fun K "_law_int" "_law_int" s__law_int a.f__law_int a.d__law_int
  b__law_int : Binds K a.d__law_int ["one"] []
  g__law_int : mg "_law_int" = some (.ref a.f__law_int)
  F__law_same : Fun K "_law_same" "_law_same" s__law_same a.f__law_same a.d__law_same
  b__law_same : Binds K a.d__law_same ["told", "due"] []
  g__law_same : mg "_law_same" = some (.ref a.f__law_same)
  F__law_pair : Fun K "_law_pair" "_law_pair" s__law_pair a.f__law_pair a.d__law_pair
  b__law_pair : Binds K a.d__law_pair ["told", "due"] []
  g__law_pair : mg "_law_pair" = some (.ref a.f__law_pair)
  F__law_row : Fun K "_law_row" "_law_row" s__law_row a.f__law_row a.d__law_row
  b__law_row : Binds K a.d__law_row ["told", "due"] []
  g__law_row : mg "_law_row" = some (.ref a.f__law_row)
  F__law_made : Fun K "_law_made" "_law_made" s__law_made a.f__law_made a.d__law_made
  b__law_made : Binds K a.d__law_made ["kind", "told", "one", "two"] []
  g__law_made : mg "_law_made" = some (.ref a.f__law_made)
  F__law_asked : Fun K "_law_asked" "_law_asked" s__law_asked a.f__law_asked a.d__law_asked
  b__law_asked : Binds K a.d__law_asked ["kind", "told", "one", "two"] []
  g__law_asked : mg "_law_asked" = some (.ref a.f__law_asked)
  F__law_looks : Fun K "_law_looks" "_law_looks" s__law_looks a.f__law_looks a.d__law_looks
  b__law_looks : Binds K a.d__law_looks ["told", "w", "minute", "other"] []
  g__law_looks : mg "_law_looks" = some (.ref a.f__law_looks)
  F__law_spans : Fun K "_law_spans" "_law_spans" s__law_spans a.f__law_spans a.d__law_spans
  b__law_spans : Binds K a.d__law_spans ["pool", "told", "w"] []
  g__law_spans : mg "_law_spans" = some (.ref a.f__law_spans)
  F__law_refused : Fun K "_law_refused" "_law_refused" s__law_refused a.f__law_refused a.d__law_refused
  b__law_refused : Binds K a.d__law_refused ["pool", "told"] []
  g__law_refused : mg "_law_refused" = some (.ref a.f__law_refused)
  F__law_large : Fun K "_law_large" "_law_large" s__law_large a.f__law_large a.d__law_large
  b__law_large : Binds K a.d__law_large ["pool"] []
  g__law_large : mg "_law_large" = some (.ref a.f__law_large)
  F__law_whole : Fun K "_law_whole" "_law_whole" s__law_whole a.f__law_whole a.d__law_whole
  b__law_whole : Binds K a.d__law_whole ["told", "w"] []
  g__law_whole : mg "_law_whole" = some (.ref a.f__law_whole)
  F_law : Fun K "law" "law" s_law a.f_law a.d_law
  b_law : Binds K a.d_law ["script"] []
  g_law : mg "law" = some (.ref a.f_law)
  g_MOST_STRETCHES : ∃ t, mg "MOST_STRETCHES" = some (.int 5000 t)
  g_FAR : ∃ t, mg "FAR" = some (.int (10 ^ 40) t)
  g_LONG : ∃ t, mg "LONG" = some (.int (10 ^ 12) t)
  n_ValueError : mg "ValueError" = none
  n_bool : mg "bool" = none
  n_divmod : mg "divmod" = none
  n_enumerate : mg "enumerate" = none
  n_int : mg "int" = none
  n_isinstance : mg "isinstance" = none
  n_len : mg "len" = none
  n_list : mg "list" = none
  n_max : mg "max" = none
  n_min : mg "min" = none
  n_property : mg "property" = none
  n_range : mg "range" = none
  n_sorted : mg "sorted" = none
  n_staticmethod : mg "staticmethod" = none
  n_tuple : mg "tuple" = none
  n_zip : mg "zip" = none
end My

namespace My
open PySem L2
/-! ### 1. errors -/
/-- an own error's __init__ with two fields -/
def spX2 (C : Addr) (f g : Str) : Sp := fun vs H Q _ => ∃ (x : Addr) (v w : V), vs = [.ref x, v, w] ∧ H x = some (exo x C none) ∧
  ∀ d H', H d = none → d ≠ x → H' x = some (exo x C (some d)) → H' d = some (exd d [(g, w), (f, v)]) → But x H H' → Q .non H'
section
variable {P : Program} {w : World} {K : PySem.W.Frag} {mg : Str → Option Value} {base : Heap} {a : Ad}
theorem x2_read {K : PySem.W.Frag} {C : Addr} {f g : Str} (ox : OexC K C) (nf : PySem.W.findIn K (.ref C) f = some none) (ng : PySem.W.findIn K (.ref C) g = some none) {x : Addr} {v w : V} {H : Hp} {D : Ends} (hx : H x = some (exo x C none))
    (h : ∀ d H', H d = none → d ≠ x → H' x = some (exo x C (some d)) → H' d = some (exd d [(g, w), (f, v)]) → But x H H' → D.nx [some (.ref x), some v, some w] H') :
    tAsg (tTup (tCons (tVar 1) (tCons (tVar 2) tNil))) (gTup K 2 (gCons (gOst K f (tVar 0)) (gCons (gOst K g (tVar 0)) gNil))) D [some (.ref x), some v, some w] H := by
  refine ⟨_, rfl, _, rfl, (by show 2 ≤ sizeLine; decide), fun p hp => ?_⟩
  have npx : p ≠ x := (ne_of_none hx hp).symm
  refine ⟨p, [v, w], rfl, SqT.of upd_same, rfl, _, _, rfl, _, rfl, x, C, rfl, ox, nf, Or.inl ⟨(upd_ne npx.symm).trans hx, fun d hd hdx => ?_⟩⟩
  have ndp : d ≠ p := fun z => by rw [z, upd_same] at hd; cases hd
  have hd0 : H d = none := by rw [← hd, upd_ne ndp]
  refine ⟨_, _, rfl, _, rfl, x, C, rfl, ox, ng, Or.inr ⟨d, _, upd_same, (upd_ne hdx).trans upd_same, (by show 1 ≤ 900; decide), rfl, ?_⟩⟩
  refine h d _ hd0 hdx ((upd_ne hdx.symm).trans upd_same) upd_same fun b o e hb => ?_
  rw [upd_ne (ne_of_none e hd0), upd_ne hb, upd_ne (ne_of_none e hd0), upd_ne (ne_of_none e hp)]
  exact e
theorem G_OutOfRange_init (T : Tx K mg a) : FnOk P w K mg base CX0 1 a.f_OutOfRange_init a.d_OutOfRange_init ["self", "what", "value"] (spX2 a.c_OutOfRange "what" "value") := by
  refine T.F_OutOfRange_init.ok sc_OutOfRange_init (fun vs H Q E h => ?_) (fun cdv A outer s H vs Q E hr h => ?_)
  · obtain ⟨x, v, w, rfl, _⟩ := h
    rfl
  · obtain ⟨x, v, w, rfl, hx, k⟩ := h
    refine ⟨_, (pss_one (ps_asg (pe_tup (pa_cons (pv 1) (pa_cons (pv 2) pa_nil))) (pg_tup rfl (pgs_cons (pg_ost (pv 0)) (pgs_cons (pg_ost (pv 0)) pgs_nil))))), ?_⟩
    exact x2_read T.ox_OutOfRange T.no_OutOfRange_what T.no_OutOfRange_value hx k
/-- an own error's __init__ with one field -/
def spX1 (C : Addr) (f : Str) : Sp := fun vs H Q _ => ∃ (x : Addr) (v : V), vs = [.ref x, v] ∧ H x = some (exo x C none) ∧
  ∀ d H', H d = none → d ≠ x → H' x = some (exo x C (some d)) → H' d = some (exd d [(f, v)]) → But x H H' → Q .non H'
theorem G_BadStretch_init (T : Tx K mg a) : FnOk P w K mg base CX0 1 a.f_BadStretch_init a.d_BadStretch_init ["self", "at"] (spX1 a.c_BadStretch "at") := by
  refine T.F_BadStretch_init.ok sc_BadStretch_init (fun vs H Q E h => ?_) (fun cdv A outer s H vs Q E hr h => ?_)
  · obtain ⟨x, v, rfl, _⟩ := h
    rfl
  · obtain ⟨x, v, rfl, hx, k⟩ := h
    refine ⟨_, (pss_one (ps_ost (pv 0) (pv 1))), ?_⟩
    refine ⟨_, rfl, _, rfl, x, a.c_BadStretch, rfl, T.ox_BadStretch, T.no_BadStretch_at, Or.inl ⟨hx, fun d hd hdx => ?_⟩⟩
    refine k d _ hd hdx upd_same ((upd_ne hdx).trans upd_same) fun b o e hb => ?_
    rw [upd_ne hb, upd_ne (ne_of_none e hd)]
    exact e
theorem x1_made {C : Addr} {f : Str} {v : V} {H : Hp} {Q : XK} (h : ∀ d H', H' d = some (.xd [(f, v)]) → Same H H' → Q (.ref C) (some d) H') :
    [v].length ≤ 1000 ∧ ∀ x, H x = none → spX1 C f (.ref x :: ([v] ++ [])) (upd H x (exo x C none))
      (fun v H2 => v = .non ∧ ∃ (d : Addr) (fs : List (Str × V)), H2 x = some (exo x C (some d)) ∧ H2 d = some (exd d fs) ∧ H d = none ∧ Q (.ref C) (some d) (upd (del H2 x) d (.xd fs))) (fun _ _ _ => False) := by
  refine ⟨by show 1 ≤ 1000; decide, fun x hx => ⟨x, v, rfl, upd_same, fun d H' hd hdx e1 e2 bt => ⟨rfl, d, _, e1, e2, ?_, ?_⟩⟩⟩
  · rw [← hd, upd_ne hdx]
  · refine h d _ upd_same fun b o e => ?_
    have hbx : b ≠ x := ne_of_none e hx
    have hbd : b ≠ d := fun z => by rw [z] at e; rw [upd_ne hdx, e] at hd; cases hd
    rw [upd_ne hbd, del_ne hbx]
    exact bt b o (by rw [upd_ne hbx]; exact e) hbx
/-- C(v, w) is made: what its raising asks -/
theorem x2_made {C : Addr} {f g : Str} {v w : V} {H : Hp} {Q : XK} (h : ∀ d H', H' d = some (.xd [(g, w), (f, v)]) → Same H H' → Q (.ref C) (some d) H') :
    [v, w].length ≤ 1000 ∧ ∀ x, H x = none → spX2 C f g (.ref x :: ([v, w] ++ [])) (upd H x (exo x C none))
      (fun v H2 => v = .non ∧ ∃ (d : Addr) (fs : List (Str × V)), H2 x = some (exo x C (some d)) ∧ H2 d = some (exd d fs) ∧ H d = none ∧ Q (.ref C) (some d) (upd (del H2 x) d (.xd fs))) (fun _ _ _ => False) := by
  refine ⟨by show 2 ≤ 1000; decide, fun x hx => ⟨x, v, w, rfl, upd_same, fun d H' hd hdx e1 e2 bt => ⟨rfl, d, _, e1, e2, ?_, ?_⟩⟩⟩
  · rw [← hd, upd_ne hdx]
  · refine h d _ upd_same fun b o e => ?_
    have hbx : b ≠ x := ne_of_none e hx
    have hbd : b ≠ d := fun z => by rw [z] at e; rw [upd_ne hdx, e] at hd; cases hd
    rw [upd_ne hbd, del_ne hbx]
    exact bt b o (by rw [upd_ne hbx]; exact e) hbx
/-! ### 2. checks -/
def spRange (a : Ad) : Sp := fun vs H Q E => ∃ (s : Str) (v lo hi : Int), vs = [.str s, .int v, .int lo, .int hi] ∧
  ((lo ≤ v ∧ v ≤ hi) → Q .non H) ∧ (¬ (lo ≤ v ∧ v ≤ hi) → ∀ d H', H' d = some (.xd [("value", .int v), ("what", .str s)]) → Same H H' → E (.ref a.c_OutOfRange) (some d) H')
theorem G_in_range (T : Tx K mg a) : FnOk P w K mg base (L2.CX P w) 3 a.f_in_range a.d_in_range ["what", "value", "low", "high"] (spRange a) := by
  refine T.F_in_range.okX sc_in_range (fun vs H Q E h => ?_) (fun cdv A outer s H vs Q E hr h => ?_)
  · obtain ⟨s, v, lo, hi, rfl, _⟩ := h
    rfl
  · obtain ⟨s, v, lo, hi, rfl, k1, k2⟩ := h
    refine ⟨_, (pss_one (ps_if (pt_not (pt_chain op_le op_le (pv 2) (pv 1) (pv 3))) (pss_one (ps_raise rfl (takes_of rfl rfl rfl rfl) (pmk_oex T.ox_OutOfRange T.i_OutOfRange T.t_OutOfRange (G_OutOfRange_init T) (hr.mono (by decide)) T.b_OutOfRange_init .nil pass0 rfl T.g_OutOfRange (pa_cons (pv 0) (pa_cons (pv 1) pa_nil))))) pss_nil)), ?_⟩
    refine ⟨_, rfl, _, rfl, _, _, rfl, rfl, _, rfl, ?_⟩
    by_cases c1 : lo ≤ v
    · rw [decide_eq_true c1]
      refine ⟨_, rfl, _, _, rfl, rfl, _, rfl, ?_⟩
      by_cases c2 : v ≤ hi
      · rw [decide_eq_true c2]
        exact k1 ⟨c1, c2⟩
      · rw [decide_eq_false c2]
        refine ⟨_, rfl, _, rfl, ?_⟩
        exact x2_made (k2 fun z => c2 z.2)
    · rw [decide_eq_false c1]
      refine ⟨_, rfl, ?_⟩
      refine ⟨_, rfl, _, rfl, ?_⟩
      exact x2_made (k2 fun z => c1 z.1)
theorem G_TooMany_init (T : Tx K mg a) : FnOk P w K mg base CX0 1 a.f_TooMany_init a.d_TooMany_init ["self", "what", "many"] (spX2 a.c_TooMany "what" "many") := by
  refine T.F_TooMany_init.ok sc_TooMany_init (fun vs H Q E h => ?_) (fun cdv A outer s H vs Q E hr h => ?_)
  · obtain ⟨x, v, w, rfl, _⟩ := h
    rfl
  · obtain ⟨x, v, w, rfl, hx, k⟩ := h
    refine ⟨_, (pss_one (ps_asg (pe_tup (pa_cons (pv 1) (pa_cons (pv 2) pa_nil))) (pg_tup rfl (pgs_cons (pg_ost (pv 0)) (pgs_cons (pg_ost (pv 0)) pgs_nil))))), ?_⟩
    exact x2_read T.ox_TooMany T.no_TooMany_what T.no_TooMany_many hx k
def Out (a : Ad) (E : XK) (H : Hp) (s : Str) (v : Int) : Prop := ∀ dd H2, H2 dd = some (.xd [("value", .int v), ("what", .str s)]) → Same H H2 → E (.ref a.c_OutOfRange) (some dd) H2
def OutM (a : Ad) (E : XK) (H : Hp) (s : Str) (n : Int) : Prop := ∀ dd H2, H2 dd = some (.xd [("many", .int n), ("what", .str s)]) → Same H H2 → E (.ref a.c_TooMany) (some dd) H2
def OutB (a : Ad) (E : XK) (H : Hp) (i : Int) : Prop := ∀ dd H2, H2 dd = some (.xd [("at", .int i)]) → Same H H2 → E (.ref a.c_BadStretch) (some dd) H2
end
end My

namespace My
open PySem L2
/-! ### 3. rows of stretches -/
/-- a row of pairs: tuples of two whole numbers -/
def Rw (H : Hp) (as : List V) (L : List Iv) : Prop := as.length = L.length ∧ ∀ (i : Nat) (a : Iv), L[i]? = some a → ∃ t : Addr, as[i]? = some (V.ref t) ∧ H t = some (.tup [.int a.1, .int a.2])
theorem Rw.same {H H' : Hp} {as : List V} {L : List Iv} (h : Rw H as L) (s : Same H H') : Rw H' as L := ⟨h.1, fun i a e => let ⟨t, x, y⟩ := h.2 i a e; ⟨t, x, s _ _ y⟩⟩
theorem below_of {L : List Iv} {m : Int} : ∀ {k : Nat}, k ≤ L.length → (∀ (i : Nat) a, i < k → L[i]? = some a → a.1 < m) → (∀ (i : Nat) a, k ≤ i → L[i]? = some a → m ≤ a.1) → below L m = k := by
  intro k hk lo hi
  unfold below
  rw [← List.take_append_drop k L, List.countP_append]
  have e1 : (L.take k).countP (fun a => decide (a.1 < m)) = k := by
    have : (L.take k).countP (fun a => decide (a.1 < m)) = (L.take k).length := List.countP_eq_length.mpr fun a ha => by
      obtain ⟨i, hi', e⟩ := List.mem_iff_getElem?.mp ha |> fun ⟨i, e⟩ => (⟨i, (List.getElem?_eq_some_iff.mp e).1, e⟩ : ∃ i, i < (L.take k).length ∧ (L.take k)[i]? = some a)
      rw [List.length_take] at hi'
      rw [List.getElem?_take, if_pos (by omega)] at e
      exact decide_eq_true (lo i a (by omega) e)
    rw [this, List.length_take]
    omega
  have e2 : (L.drop k).countP (fun a => decide (a.1 < m)) = 0 := List.countP_eq_zero.mpr fun a ha => by
    obtain ⟨i, e⟩ := List.mem_iff_getElem?.mp ha
    rw [List.getElem?_drop] at e
    have := hi (k + i) a (by omega) e
    simp
    omega
  omega
end My

namespace My
open PySem L2
theorem tidy_up {L : List Iv} (h : Tidy L) {i j : Nat} {a b : Iv} (hij : i < j) (ha : L[i]? = some a) (hb : L[j]? = some b) : a.2 < b.1 := by
  obtain ⟨hi, rfl⟩ := List.getElem?_eq_some_iff.mp ha
  obtain ⟨hj, rfl⟩ := List.getElem?_eq_some_iff.mp hb
  exact List.pairwise_iff_getElem.mp h.2 i j hi hj hij
def spBelow (K : PySem.W.Frag) : Sp := fun vs H Q _ => ∃ (t : Addr) (as : List V) (L : List Iv) (m : Int), vs = [.ref t, .int m] ∧ SqT K H t as ∧ Rw H as L ∧ Tidy L ∧ L.length ≤ 1000000 ∧ Q (.int (below L m : Nat)) H
section
variable {P : Program} {w : World} {K : PySem.W.Frag} {mg : Str → Option Value} {base : Heap} {a : Ad}
theorem G_starts_below (T : Tx K mg a) : FnOk P w K mg base CX0 1 a.f_starts_below a.d_starts_below ["pairs", "minute"] (spBelow K) := by
  refine T.F_starts_below.ok sc_starts_below (fun vs H Q E h => ?_) (fun cdv A outer s H vs Q E hr h => ?_)
  · obtain ⟨t, as, L, m, rfl, _⟩ := h
    rfl
  · obtain ⟨t, as, L, m, rfl, ht, hrw, td, hz, k⟩ := h
    refine ⟨_, (pss_cons (ps_set (i := 2) sc_starts_below.nd rfl (Or.inl rfl) pe_int)
      (pss_cons (ps_set (i := 3) sc_starts_below.nd rfl (Or.inl rfl) (pe_callB call_len_seq (by rfl) T.n_len (by decide +kernel) (pa_cons (pv 0) pa_nil)))
      (pss_cons (ps_while PassesOwn.never (pt_cmpR op_lt (pv 2) (pv 3) (nomark _)) (pss_cons (ps_set (i := 4) sc_starts_below.nd rfl (Or.inl rfl) (pe_op op_fdivW (pe_op op_add (pv 2) (pv 3)) pe_int))
      (pss_one (ps_if (pt_cmpR op_lt (pe_ix ix_tup (pe_ix ix_tup (pv 0) (pv 4) (fun _ _ => rfl)) pe_int (fun _ _ => rfl)) (pv 1) (nomark _)) (pss_one (ps_set (i := 2) sc_starts_below.nd rfl (Or.inl rfl) (pe_op op_add (pv 4) pe_int))) (pss_one (ps_set (i := 3) sc_starts_below.nd rfl (Or.inl rfl) (pv 4)))))))
      (pss_one (ps_ret (pv 2)))))), ?_⟩
    have la := hrw.1
    refine st_let val_c ?_
    refine st_let (v := .int (L.length : Nat)) (v_cb (val_var (i := 0) rfl) fun Q q => ⟨t, as, rfl, Or.inr ht, by rw [la]; exact q⟩) ?_
    refine st_seq ?_
    refine st_whileb (fun σ H' => ∃ (lo hi : Nat) (v4 : Option V), σ = [some (.ref t), some (.int m), some (.int (lo : Nat)), some (.int (hi : Nat)), v4] ∧ H' = H ∧ lo ≤ hi ∧ hi ≤ L.length ∧ (∀ (i : Nat) a, i < lo → L[i]? = some a → a.1 < m) ∧ ∀ (i : Nat) a, hi ≤ i → L[i]? = some a → m ≤ a.1)
      (fun σ _ => match σ with | [_, _, some (.int lo), some (.int hi), _] => (hi - lo).toNat | _ => 0) ⟨0, L.length, none, rfl, rfl, Nat.zero_le _, Nat.le_refl _, fun i a z => absurd z (Nat.not_lt_zero _), fun i a z e => by have := (List.getElem?_eq_some_iff.mp e).1; omega⟩ ?_
    rintro σ H' ⟨lo, hi, v4, rfl, rfl, h1, h2, low, high⟩
    refine ⟨_, a_cmp (f := fun i j => decide (i < j)) (val_var (i := 2) rfl) (val_var (i := 3) rfl), fun c => ?_, fun c => ?_⟩
    · have c : (lo : Int) < hi := of_decide_eq_true c
      have c' : lo < hi := by omega
      have hm : (lo + hi) / 2 < L.length := by omega
      obtain ⟨x, hx⟩ : ∃ x, L[(lo + hi) / 2]? = some x := ⟨_, List.getElem?_eq_getElem hm⟩
      obtain ⟨u, w1, w2⟩ := hrw.2 _ x hx
      refine st_let (v := .int (((lo + hi) / 2 : Nat) : Int)) ?_ ?_
      · have e : (((lo + hi) / 2 : Nat) : Int) = ((lo : Int) + hi) / 2 := by omega
        rw [e]
        exact v_rI (g := fun i j => .int (i / j)) (v_rI0 (g := fun i j => .int (i + j)) (val_var (i := 2) rfl) (val_var (i := 3) rfl)) val_c (wide_div (b := 40) (by omega) (by omega) (by decide) (by decide))
      refine st_ifp (q := x.1 < m) (a_cmp (f := fun i j => decide (i < j)) (v_ixT (v_ixT (p := t) (val_var (i := 0) rfl) (val_var (i := 4) (v := .int (((lo + hi) / 2 : Nat) : Int)) rfl) ht (at_of (j := (lo + hi) / 2) rfl w1)) val_c (SqT.of w2) (show atI [V.int x.1, .int x.2] 0 = some (V.int x.1) from rfl)) (val_var (i := 1) rfl)) (by simp) (fun z => ?_) fun z => ?_
      · refine ⟨_, rfl, _, _, rfl, rfl, ?_⟩
        refine ⟨⟨(lo + hi) / 2 + 1, hi, _, rfl, rfl, by omega, h2, fun i b hi' e => ?_, high⟩, by show ((hi : Int) - ((((lo + hi) / 2 : Nat) : Int) + 1)).toNat < ((hi : Int) - lo).toNat; omega⟩
        by_cases y : i = (lo + hi) / 2
        · subst y
          rw [hx] at e
          cases e
          exact z
        · have := tidy_up td (show i < (lo + hi) / 2 by omega) e hx
          have := td.1 b (List.mem_of_getElem? e)
          omega
      · refine ⟨_, rfl, ?_⟩
        refine ⟨⟨lo, (lo + hi) / 2, _, rfl, rfl, by omega, by omega, low, fun i b hi' e => ?_⟩, by show ((((lo + hi) / 2 : Nat) : Int) - lo).toNat < ((hi : Int) - lo).toNat; omega⟩
        by_cases y : i = (lo + hi) / 2
        · subst y
          rw [hx] at e
          cases e
          omega
        · have := tidy_up td (show (lo + hi) / 2 < i by omega) hx e
          have := td.1 x (List.mem_of_getElem? hx)
          omega
    · have c : ¬ (lo : Int) < hi := of_decide_eq_false c
      have e : below L m = lo := below_of (by omega) low (fun i a z => high i a (by omega))
      refine ⟨_, rfl, ?_⟩
      rw [← e]
      exact k
end
end My

namespace L2
open PySem PySem.Spec PyProof.Rows
section
variable {K : PySem.W.Frag} {a : Addr} {xs : List V} {g : TG} {tt : TT} {te : TE} {vs : List Nat} {σ : St} {H1 : Hp} {Q : VK}
/-- a comprehension over a list or a tuple, any target -/
theorem comp_gA {tl : TE} (Pv : Addr → Nat → Hp → Prop) (hl : ∀ R : V → Hp → Prop, R (.ref a) H1 → tl σ H1 R) (hp : SqA K H1 a xs) (h0 : ∀ D, H1 D = none → Pv D 0 (upd H1 D (.lst []))) (hk : ∀ D i H, Pv D i H → Same H1 H)
    (hs : ∀ D (i : Nat) x H, H1 D = none → xs[i]? = some x → Pv D i H → g x (wipe σ vs) H fun σ2 H2 => wipe σ2 vs = wipe σ vs ∧ tt σ2 H2 fun b H3 => if b = true then te σ2 H3 fun y H4 => ∃ acc, H4 D = some (.lst acc) ∧ acc.length < sizeLine ∧ Pv D (i + 1) (upd H4 D (.lst (acc ++ [y]))) else Pv D (i + 1) H3)
    (hd : ∀ D H, H1 D = none → Pv D xs.length H → Q (.ref D) H) : tLc (fun σ H R => iList K tl σ H R ∨ iTup K tl σ H R) g tt te vs σ H1 Q := by
  rcases hp with hp | hp
  · exact Or.inl (hl _ ⟨a, rfl, ⟨_, hp⟩, fun D hD => lc_list (xs := xs) (Pv D) (h0 D hD) (fun i H _ p => (hk D i H p).seq hp) (fun i x H hx p => hs D i x H hD hx p) fun H p => hd D H hD p⟩)
  · exact Or.inr (hl _ ⟨a, rfl, ⟨_, hp⟩, fun D hD => lc_tup (xs := xs) (Pv D) (h0 D hD) (fun i H _ p => (hk D i H p).sqT hp) (fun i x H hx p => hs D i x H hD hx p) fun H p => hd D H hD p⟩)
end
end L2
namespace My
open PySem L2
/-- a row of pairs as handed: each a tuple or a list -/
def RwA (K : PySem.W.Frag) (H : Hp) (as : List V) (L : List Iv) : Prop := as.length = L.length ∧ ∀ (i : Nat) (a : Iv), L[i]? = some a → ∃ t : Addr, as[i]? = some (V.ref t) ∧ SqA K H t [.int a.1, .int a.2]
theorem RwA.same {K : PySem.W.Frag} {H H' : Hp} {as : List V} {L : List Iv} (h : RwA K H as L) (s : Same H H') : RwA K H' as L := ⟨h.1, fun i a e => let ⟨t, x, y⟩ := h.2 i a e; ⟨t, x, s.sqA y⟩⟩
theorem Rw.toA {K : PySem.W.Frag} {H : Hp} {as : List V} {L : List Iv} (h : Rw H as L) : RwA K H as L := ⟨h.1, fun i a e => let ⟨t, x, y⟩ := h.2 i a e; ⟨t, x, Or.inr (SqT.of y)⟩⟩
end My

namespace L2
open PySem PySem.Spec PyProof.Rows
/-- a for over what an expression makes -/
theorem st_forX {K : PySem.W.Frag} {te : TE} {g : TG} {tb : TS} {D : Ends} {σ : St} {H : Hp} (h : te σ H fun v H1 => tFor (iList K (tC v)) g tb D σ H1) : tFor (iList K te) g tb D σ H := h
end L2
namespace My
open PySem L2
/-- a pair read off the heap -/
def kP (H : Hp) (x : V) : Int × Int := match x with
  | .ref t => match H t with
    | some (.tup [.int i, .int j]) => (i, j)
    | _ => (0, 0)
  | _ => (0, 0)
theorem kP_of {H : Hp} {t : Addr} {a : Iv} (h : H t = some (.tup [.int a.1, .int a.2])) : kP H (.ref t) = a := by
  show (match H t with
    | some (.tup [.int i, .int j]) => (i, j)
    | _ => ((0, 0) : Int × Int)) = a
  rw [h]
theorem rw_map {H : Hp} {as : List V} {L : List Iv} (h : Rw H as L) : as.map (kP H) = L := by
  refine List.ext_getElem? fun i => ?_
  rw [List.getElem?_map]
  by_cases c : i < L.length
  · obtain ⟨t, x, y⟩ := h.2 i _ (List.getElem?_eq_getElem c)
    rw [x, List.getElem?_eq_getElem c]
    show some (kP H (.ref t)) = _
    rw [kP_of y]
  · rw [List.getElem?_eq_none (by rw [h.1]; omega), List.getElem?_eq_none (by omega)]
    rfl
theorem rw_of {H : Hp} : ∀ {as : List V}, (∀ x ∈ as, ∃ t : Addr, x = V.ref t ∧ H t = some (.tup [.int (kP H x).1, .int (kP H x).2])) → Rw H as (as.map (kP H)) := fun {as} h => ⟨by simp, fun i a e => by
  rw [List.getElem?_map] at e
  obtain ⟨x, hx, rfl⟩ := Option.map_eq_some_iff.mp e
  obtain ⟨t, rfl, ht⟩ := h x (List.mem_of_getElem? hx)
  exact ⟨t, hx, ht⟩⟩
theorem Rw.items {H : Hp} {as : List V} {L : List Iv} (h : Rw H as L) : ∀ x ∈ as, ∃ t : Addr, x = V.ref t ∧ H t = some (.tup [.int (kP H x).1, .int (kP H x).2]) := fun x hx => by
  obtain ⟨i, hi⟩ := List.mem_iff_getElem?.mp hx
  have c : i < L.length := by rw [← h.1]; exact (List.getElem?_eq_some_iff.mp hi).1
  obtain ⟨t, y, z⟩ := h.2 i _ (List.getElem?_eq_getElem c)
  rw [hi] at y
  cases y
  exact ⟨t, rfl, by rw [kP_of z]; exact z⟩
theorem Rw.snoc {H : Hp} {as : List V} {L : List Iv} {t : Addr} {a : Iv} (h : Rw H as L) (ht : H t = some (.tup [.int a.1, .int a.2])) : Rw H (as ++ [.ref t]) (L ++ [a]) := by
  refine ⟨by simp [h.1], fun i b e => ?_⟩
  by_cases c : i < L.length
  · rw [List.getElem?_append_left c] at e
    obtain ⟨u, x, y⟩ := h.2 i b e
    exact ⟨u, by rw [List.getElem?_append_left (by rw [h.1]; exact c)]; exact x, y⟩
  · have : i = L.length := by
      have := (List.getElem?_eq_some_iff.mp e).1
      simp at this
      omega
    subst this
    rw [List.getElem?_append_right (Nat.le_refl _), Nat.sub_self] at e
    cases e
    exact ⟨t, by rw [← h.1, List.getElem?_append_right (Nat.le_refl _), Nat.sub_self]; rfl, ht⟩
/-- the last pair of a row -/
theorem Rw.last {H : Hp} {as : List V} {R : List Iv} {z : Iv} (h : Rw H as (R ++ [z])) : ∃ bs u, as = bs ++ [.ref u] ∧ Rw H bs R ∧ H u = some (.tup [.int z.1, .int z.2]) := by
  have l := h.1
  rw [List.length_append, List.length_singleton] at l
  obtain ⟨u, x, y⟩ := h.2 R.length z (by rw [List.getElem?_append_right (Nat.le_refl _), Nat.sub_self]; rfl)
  refine ⟨as.take R.length, u, List.ext_getElem? fun i => ?_, ⟨by rw [List.length_take]; omega, fun i b e => ?_⟩, y⟩
  · by_cases c : i < R.length
    · rw [List.getElem?_append_left (by rw [List.length_take]; omega), List.getElem?_take, if_pos c]
    · rw [List.getElem?_append_right (by rw [List.length_take]; omega)]
      have e : (as.take R.length).length = R.length := by rw [List.length_take]; omega
      rw [e]
      by_cases c2 : i = R.length
      · rw [c2, x, Nat.sub_self]
        rfl
      · rw [List.getElem?_eq_none (by omega), List.getElem?_eq_none (by simp; omega)]
  · have c := (List.getElem?_eq_some_iff.mp e).1
    obtain ⟨v, x', y'⟩ := h.2 i b (by rw [List.getElem?_append_left c]; exact e)
    exact ⟨v, by rw [List.getElem?_take, if_pos c]; exact x', y'⟩
/-- put in order of the starts -/
def Srted (M : List Iv) : Prop := M.Pairwise fun a b => a.1 ≤ b.1
theorem srted_of {ys : List V} {k : V → Int × Int} (h : SrtO.Srtd (ltP k) ys) : Srted (ys.map k) := by
  refine List.pairwise_map.mpr (List.Pairwise.imp (fun {x y} z => ?_) h)
  have := SrtO.lexB_no.mp z
  omega
theorem atI_last {bs : List V} {v : V} : atI (bs ++ [v]) (-1) = some v := by
  have e : ixN (bs ++ [v]).length (-1) = some bs.length := by
    unfold ixN
    rw [if_neg (by decide), if_pos (by rw [List.length_append, List.length_singleton]; omega), List.length_append, List.length_singleton]
    exact congrArg some (by omega)
  unfold atI
  rw [e]
  show (bs ++ [v])[bs.length]? = some v
  rw [List.getElem?_append_right (Nat.le_refl _), Nat.sub_self]
  rfl
theorem ixN_last {bs : List V} {v : V} : ixN (bs ++ [v]).length (-1) = some bs.length := by
  unfold ixN
  rw [if_neg (by decide), if_pos (by rw [List.length_append, List.length_singleton]; omega), List.length_append, List.length_singleton]
  exact congrArg some (by omega)
theorem set_last {bs : List V} {v w : V} : (bs ++ [v]).set bs.length w = bs ++ [w] := by simp
theorem tStep_len (T : List Iv) (a : Iv) : (tStep T a).length ≤ T.length + 1 := by
  rcases T with _ | ⟨⟨s, e⟩, r⟩
  · simp [tStep]
  · show (if e < a.1 then a :: (s, e) :: r else if e < a.2 then (s, a.2) :: r else (s, e) :: r : List Iv).length ≤ _
    split
    · simp
    · split <;> simp
/-- a row stays where its list is no pair -/
theorem Rw.upd {H : Hp} {as xs ys : List V} {L : List Iv} {D : Addr} (h : Rw H as L) (e : H D = some (.lst xs)) : Rw (upd H D (.lst ys)) as L := ⟨h.1, fun i a z => let ⟨t, x, y⟩ := h.2 i a z; ⟨t, x, (upd_ne (ne_of y e (by intro z; cases z))).trans y⟩⟩
def spTidy (K : PySem.W.Frag) : Sp := fun vs H Q _ => ∃ (m : Addr) (as : List V) (L : List Iv), vs = [.ref m] ∧ SqA K H m as ∧ RwA K H as L ∧ L.length ≤ 100000 ∧ ∀ (t : Addr) (bs : List V) (M : List Iv) H', H' t = some (.tup bs) → Rw H' bs M → Tidy M → (∀ u, inL M u = true ↔ inL L u = true) → M.length ≤ L.length → Same H H' → Q (.ref t) H'
section
variable {P : Program} {w : World} {K : PySem.W.Frag} {mg : Str → Option Value} {base : Heap} {a : Ad}
theorem G_tidy (T : Tx K mg a) : FnOk P w K mg base CX0 1 a.f_tidy a.d_tidy ["pairs"] (spTidy K) := by
  refine T.F_tidy.ok sc_tidy (fun vs H Q E h => ?_) (fun cdv A outer s H vs Q E hr h => ?_)
  · obtain ⟨m, as, L, rfl, _⟩ := h
    rfl
  · obtain ⟨m, as, L, rfl, hm, hrw, hz, k⟩ := h
    refine ⟨_, (pss_cons (ps_set (i := 1) sc_tidy.nd rfl (Or.inl rfl) (pe_lst pa_nil))
      (pss_cons (ps_for PassesOwn.never rfl (pi_list (pe_callB cr_sortedPO (by rfl) T.n_sorted (by decide +kernel) (pa_cons (pe_lc (own := [("start", 2), ("end", 3)]) (g := fun v σ H Q => gTup K 2 (gCons (gName 2) (gCons (gName 3) gNil)) v σ H Q ∨ gLst K 2 (gCons (gName 2) (gCons (gName 3) gNil)) v σ H Q) (tt := _) rfl sc_tidy.nd (pi_seq (pv 0)) (blkOk_by (own := [("start", 2), ("end", 3)]) (N := ["pairs", "told", "start", "end"]) (sc := defScope s_tidy) (by decide +kernel)) (fun _ _ _ _ _ => (pg_alt (pg_tup rfl (pgs_cons (pg_name (i := 2) sc_tidy.nd rfl (Or.inl rfl)) (pgs_cons (pg_name (i := 3) sc_tidy.nd rfl (Or.inl rfl)) pgs_nil))) (pg_lst rfl (pgs_cons (pg_name (i := 2) sc_tidy.nd rfl (Or.inl rfl)) (pgs_cons (pg_name (i := 3) sc_tidy.nd rfl (Or.inl rfl)) pgs_nil))))) (fun _ _ _ _ _ => (pts_one (pt_cmpR op_lt (pv 2) (pv 3) (nomark _)))) (fun _ _ _ _ _ => (pe_tup (pa_cons (pv 2) (pa_cons (pv 3) pa_nil))))) pa_nil))) (pg_alt (pg_tup rfl (pgs_cons (pg_name (i := 2) sc_tidy.nd rfl (Or.inl rfl)) (pgs_cons (pg_name (i := 3) sc_tidy.nd rfl (Or.inl rfl)) pgs_nil))) (pg_lst rfl (pgs_cons (pg_name (i := 2) sc_tidy.nd rfl (Or.inl rfl)) (pgs_cons (pg_name (i := 3) sc_tidy.nd rfl (Or.inl rfl)) pgs_nil)))) (pss_one (ps_if (PW.pt (pw_or (pt_not (pt_truth (pv 1) (by intro _; rfl))) (pw_or1 (pt_cmpR op_lt (pe_ix ix_tup (pe_ix ix_list (pv 1) (pe_un un_neg pe_int) (fun _ _ => rfl)) pe_int (fun _ _ => rfl)) (pv 2) (nomark _))))) (pss_one (ps_expr (pe_bm PySem.F.plainAttrs_list PySem.F.slot_list_append PySem.F.type_list_append mt_append (pv 1) (pa_cons (pe_tup (pa_cons (pv 2) (pa_cons (pv 3) pa_nil))) pa_nil)))) (pss_one (ps_if (pt_cmpR op_lt (pe_ix ix_tup (pe_ix ix_list (pv 1) (pe_un un_neg pe_int) (fun _ _ => rfl)) pe_int (fun _ _ => rfl)) (pv 3) (nomark _)) (pss_one (ps_asg (pe_tup (pa_cons (pe_ix ix_tup (pe_ix ix_list (pv 1) (pe_un un_neg pe_int) (fun _ _ => rfl)) pe_int (fun _ _ => rfl)) (pa_cons (pv 3) pa_nil))) (pg_sub (pv 1) (pe_un un_neg pe_int) set_list))) pss_nil)))))
      (pss_one (ps_ret (pe_callTy call_tuple_of (by rfl) T.n_tuple (by decide +kernel) (pa_cons (pv 1) pa_nil)))))), ?_⟩
    have la := hrw.1
    refine st_letX ⟨by show 0 ≤ sizeLine; decide, fun tl htl => ?_⟩
    have s1 := Same.new (o := .lst []) htl
    have e1 : upd H tl (.lst []) tl = some (.lst []) := upd_same
    generalize upd H tl (.lst []) = H1 at s1 e1
    refine st_seq (st_forX (v_cb1 ?_))
    refine comp_gA (a := m) (xs := as) (fun D i H' => ∃ bs, H' D = some (.lst bs) ∧ Rw H' bs ((L.take i).filter fun a => decide (a.1 < a.2)) ∧ Same H1 H') (fun R q => ⟨_, rfl, q⟩) (s1.sqA hm) (fun D hD => ⟨[], upd_same, ⟨by simp, fun i q e => by simp at e⟩, Same.new hD⟩) (fun D i H' ⟨_, _, _, s⟩ => s) (fun D i x H' hD hx ⟨bs, e2, rw2, s2⟩ => ?_) fun D H2 hD ⟨bs, e2, rw2, s2⟩ => ?_
    · have hi : i < L.length := by rw [← la]; exact (List.getElem?_eq_some_iff.mp hx).1
      obtain ⟨t, w1, w2⟩ := (hrw.same (s1.trans s2)).2 i _ (List.getElem?_eq_getElem hi)
      rw [hx] at w1
      cases w1
      have et : L.take (i + 1) = L.take i ++ [L[i]] := take_snoc (List.getElem?_eq_getElem hi)
      have lb : bs.length ≤ i := by
        rw [rw2.1]
        exact Nat.le_trans (List.length_filter_le _ _) (by rw [List.length_take]; omega)
      have put : ∀ (u : Addr), H' u = none → L[i].1 < L[i].2 → Rw (upd (upd H' u (.tup [.int L[i].1, .int L[i].2])) D (.lst (bs ++ [.ref u]))) (bs ++ [.ref u]) ((L.take (i + 1)).filter fun a => decide (a.1 < a.2)) ∧ Same H1 (upd (upd H' u (.tup [.int L[i].1, .int L[i].2])) D (.lst (bs ++ [.ref u]))) := fun u hu c => by
        have su := Same.new (o := .tup [.int L[i].1, .int L[i].2]) hu
        have r := (rw2.same su).snoc (a := L[i]) (t := u) upd_same
        rw [et, List.filter_append, show [L[i]].filter (fun a => decide (a.1 < a.2)) = [L[i]] by simp [c]]
        refine ⟨⟨r.1, fun j a e => ?_⟩, fun b o e => by
          rw [upd_ne (ne_of_none e hD)]
          exact su _ _ (s2 _ _ e)⟩
        obtain ⟨v, x, y⟩ := r.2 j a e
        exact ⟨v, x, (upd_ne (ne_of y (su _ _ e2) (by intro z; cases z))).trans y⟩
      have skip : ¬ L[i].1 < L[i].2 → Rw H' bs ((L.take (i + 1)).filter fun a => decide (a.1 < a.2)) := fun c => by
        rw [et, List.filter_append, show [L[i]].filter (fun a => decide (a.1 < a.2)) = [] by simp [c], List.append_nil]
        exact rw2
      rcases w2 with w2 | w2
      · refine Or.inr ⟨t, _, rfl, w2, rfl, _, _, rfl, _, _, rfl, rfl, rfl, ?_⟩
        refine ⟨_, rfl, _, rfl, _, _, rfl, rfl, _, rfl, ?_⟩
        by_cases c : L[i].1 < L[i].2
        · rw [decide_eq_true c]
          exact iteT ⟨_, rfl, _, rfl, by show 2 ≤ sizeLine; decide, fun u hu => ⟨bs, Same.new hu _ _ e2, Nat.lt_of_le_of_lt lb (Nat.lt_of_lt_of_le hi (Nat.le_trans hz (by decide))), bs ++ [.ref u], upd_same, put u hu c⟩⟩
        · rw [decide_eq_false c]
          exact iteF ⟨bs, e2, skip c, s2⟩
      · refine Or.inl ⟨t, _, rfl, w2, rfl, _, _, rfl, _, _, rfl, rfl, rfl, ?_⟩
        refine ⟨_, rfl, _, rfl, _, _, rfl, rfl, _, rfl, ?_⟩
        by_cases c : L[i].1 < L[i].2
        · rw [decide_eq_true c]
          exact iteT ⟨_, rfl, _, rfl, by show 2 ≤ sizeLine; decide, fun u hu => ⟨bs, Same.new hu _ _ e2, Nat.lt_of_le_of_lt lb (Nat.lt_of_lt_of_le hi (Nat.le_trans hz (by decide))), bs ++ [.ref u], upd_same, put u hu c⟩⟩
        · rw [decide_eq_false c]
          exact iteF ⟨bs, e2, skip c, s2⟩
    · rw [la, List.take_length] at rw2
      refine ⟨D, bs, kP H2, rfl, SqL.of e2, rw2.items, fun ys p srt stb hp => ?_⟩
      have srt1 : Srted (ys.map (kP H2)) := srted_of srt
      have rwy : Rw H2 ys (ys.map (kP H2)) := rw_of fun x hx => rw2.items x (stb.perm.mem_iff.mp hx)
      have eb : bs.map (kP H2) = L.filter fun a => decide (a.1 < a.2) := rw_map rw2
      have mm : ∀ c, c ∈ ys.map (kP H2) ↔ c ∈ L ∧ c.1 < c.2 := fun c => by
        rw [(stb.perm.map (kP H2)).mem_iff, eb]
        simp
      have ml : (ys.map (kP H2)).length ≤ L.length := by
        rw [(stb.perm.map (kP H2)).length_eq, eb]
        exact List.length_filter_le _ _
      have s3 := Same.new (o := .lst ys) hp
      have ntl : tl ≠ p := fun z => by rw [← z] at hp; rw [s2 _ _ e1] at hp; cases hp
      have rwy3 := rwy.same s3
      have etl := s3 _ _ (s2 _ _ e1)
      have s03 : Same H (upd H2 p (.lst ys)) := s1.trans (s2.trans s3)
      have ep : upd H2 p (.lst ys) p = some (.lst ys) := upd_same
      generalize upd H2 p (.lst ys) = H3 at rwy3 etl s03 ep ⊢
      clear rw2 s2 rwy hp s3
      generalize ys.map (kP H2) = M at srt1 mm ml rwy3
      have ly := rwy3.1
      refine st_forL (a := p) (xs := ys) (tl := tC (.ref p)) (fun R q => q) (fun i σ H' => ∃ v2 v3 cs, σ = [some (.ref m), some (.ref tl), v2, v3] ∧ H' tl = some (.lst cs) ∧ Rw H' cs ((M.take i).foldl tStep []).reverse ∧ cs.length ≤ i ∧ Rw H' ys M ∧ H' p = some (.lst ys) ∧ Same H H') ⟨none, none, [], rfl, etl, ⟨by simp, fun i q e => by simp at e⟩, Nat.le_refl _, rwy3, ep, s03⟩ (fun i σ H' _ ⟨_, _, _, _, _, _, _, _, q, _⟩ => SqL.of q) ?_ ?_
      · rintro i x σ H' hx ⟨v2, v3, cs, rfl, q1, q2, q3, q4, q5, q6⟩
        have hi : i < M.length := by rw [← ly]; exact (List.getElem?_eq_some_iff.mp hx).1
        have hM := List.getElem?_eq_getElem hi
        obtain ⟨t, w1, w2⟩ := q4.2 i _ hM
        rw [hx] at w1
        cases w1
        have ef : (M.take (i + 1)).foldl tStep [] = tStep ((M.take i).foldl tStep []) M[i] := by
          rw [take_snoc hM, List.foldl_append]
          rfl
        refine Or.inl ⟨t, _, rfl, SqT.of w2, rfl, _, _, rfl, _, _, rfl, rfl, ?_⟩
        have app : ∀ (u : Addr), H' u = none → tStep ((M.take i).foldl tStep []) M[i] = M[i] :: (M.take i).foldl tStep [] → ∃ v2 v3 cs', [some (V.ref m), some (.ref tl), some (.int M[i].1), some (.int M[i].2)] = [some (V.ref m), some (.ref tl), v2, v3] ∧ upd (upd H' u (.tup [.int M[i].1, .int M[i].2])) tl (.lst (cs ++ [.ref u])) tl = some (.lst cs') ∧ Rw (upd (upd H' u (.tup [.int M[i].1, .int M[i].2])) tl (.lst (cs ++ [.ref u]))) cs' ((M.take (i + 1)).foldl tStep []).reverse ∧ cs'.length ≤ i + 1 ∧ Rw (upd (upd H' u (.tup [.int M[i].1, .int M[i].2])) tl (.lst (cs ++ [.ref u]))) ys M ∧ upd (upd H' u (.tup [.int M[i].1, .int M[i].2])) tl (.lst (cs ++ [.ref u])) p = some (.lst ys) ∧ Same H (upd (upd H' u (.tup [.int M[i].1, .int M[i].2])) tl (.lst (cs ++ [.ref u]))) := fun u hu es => by
          have su := Same.new (o := .tup [.int M[i].1, .int M[i].2]) hu
          refine ⟨_, _, _, rfl, upd_same, ?_, by simp; omega, (q4.same su).upd (su _ _ q1), (upd_ne ntl.symm).trans (su _ _ q5), fun b o e => ?_⟩
          · rw [ef, es, List.reverse_cons]
            exact ((q2.same su).snoc (a := M[i]) upd_same).upd (su _ _ q1)
          · rw [upd_ne (ne_of_none e htl)]
            exact su _ _ (q6 _ _ e)
        rcases hT : (M.take i).foldl tStep [] with _ | ⟨z, r⟩
        · rw [hT] at q2 app
          obtain rfl : cs = [] := List.length_eq_zero_iff.mp q2.1
          refine st_ifb (b := true) (a_or (b := true) (c := true) (ans_not (b := false) (ans_tru (val_var (i := 1) rfl) (Or.inl ⟨[], SqL.of q1, rfl⟩))) (fun z => nomatch z)) (fun _ => ?_) fun z => nomatch z
          refine ⟨_, rfl, tyL q1, _, rfl, _, rfl, by show 2 ≤ sizeLine; decide, fun u hu => ⟨tl, [], .ref u, rfl, rfl, Same.new hu _ _ q1, (by show 0 < sizeLine; decide), app u hu rfl⟩⟩
        · rw [hT, List.reverse_cons] at q2
          rw [hT] at app
          obtain ⟨cs0, u0, rfl, q21, q22⟩ := q2.last
          have rd : ∀ {σ : St}, σ[1]? = some (some (V.ref tl)) → Val (tOp (rIxL K) (tVar 1) (tUn (rU fun i => V.int (-i)) (tC (V.int 1)))) σ H' (.ref u0) := fun {σ} e => v_ixL (val_var (i := 1) e) (v_un (g := fun i => V.int (-i)) val_c) (SqL.of q1) atI_last
          have c1 : TruV K (.ref tl) H' true := Or.inl ⟨_, SqL.of q1, by cases cs0 <;> rfl⟩
          refine st_ifp (q := z.2 < M[i].1) (a_or (ans_not (ans_tru (val_var (i := 1) rfl) c1)) (fun _ => a_cmp (f := fun i j => decide (i < j)) (v_ixT (rd rfl) val_c (SqT.of q22) (show atI [V.int z.1, .int z.2] 1 = some (V.int z.2) from rfl)) (val_var (i := 2) rfl))) (by simp) (fun c => ?_) fun c => ?_
          · refine ⟨_, rfl, tyL q1, _, rfl, _, rfl, by show 2 ≤ sizeLine; decide, fun u hu => ⟨tl, _, .ref u, rfl, rfl, Same.new hu _ _ q1, (Nat.lt_of_le_of_lt q3 (Nat.lt_of_lt_of_le hi (Nat.le_trans ml (Nat.le_trans hz (by decide))))), app u hu ?_⟩⟩
            show (if z.2 < M[i].1 then _ else _) = _
            rw [if_pos c]
          · refine st_ifp (q := z.2 < M[i].2) (a_cmp (f := fun i j => decide (i < j)) (v_ixT (rd rfl) val_c (SqT.of q22) (show atI [V.int z.1, .int z.2] 1 = some (V.int z.2) from rfl)) (val_var (i := 3) rfl)) (by simp) (fun c2 => ?_) fun c2 => ?_
            · refine v_ixT (rd rfl) val_c (SqT.of q22) (show atI [V.int z.1, .int z.2] 0 = some (V.int z.1) from rfl) _ ⟨_, rfl, by show 2 ≤ sizeLine; decide, fun u hu => ?_⟩
              have su := Same.new (o := .tup [.int z.1, .int M[i].2]) hu
              refine ⟨_, rfl, _, rfl, tl, _, -1, cs0.length, rfl, rfl, su _ _ q1, ixN_last, ?_⟩
              rw [set_last]
              refine ⟨_, _, _, rfl, upd_same, ?_, by rw [List.length_append, List.length_singleton] at q3 ⊢; omega, (q4.same su).upd (su _ _ q1), (upd_ne ntl.symm).trans (su _ _ q5), fun b o e => ?_⟩
              · have es : tStep (z :: r) M[i] = (z.1, M[i].2) :: r := by
                  show (if z.2 < M[i].1 then _ else if z.2 < M[i].2 then _ else _) = _
                  rw [if_neg c, if_pos c2]
                rw [ef, hT, es, List.reverse_cons]
                exact ((q21.same su).snoc (a := (z.1, M[i].2)) upd_same).upd (su _ _ q1)
              · rw [upd_ne (ne_of_none e htl)]
                exact su _ _ (q6 _ _ e)
            · refine ⟨_, _, _, rfl, q1, ?_, Nat.le_succ_of_le q3, q4, q5, q6⟩
              have es : tStep (z :: r) M[i] = z :: r := by
                show (if z.2 < M[i].1 then _ else if z.2 < M[i].2 then _ else _) = _
                rw [if_neg c, if_neg c2]
              rw [ef, hT, es, List.reverse_cons]
              exact q21.snoc q22
      · rintro σ H' ⟨v2, v3, cs, rfl, q1, q2, q3, q4, q5, q6⟩
        dsimp only
        rw [ly, List.take_length] at q2
        obtain ⟨f1, f2⟩ := tidy_fold M [] ⟨fun a h => (nomatch h), .nil⟩ (fun c hc => ((mm c).mp hc).2) srt1 fun b hb => nomatch hb
        refine st_ret1 ⟨_, rfl, tl, cs, rfl, Or.inl ⟨SqL.of q1, fun t ht => ?_⟩⟩
        have su := Same.new (o := .tup cs) ht
        refine k t cs _ _ upd_same (q2.same su) f1.rev (fun u => ?_) (by rw [← q2.1]; omega) (q6.trans su)
        rw [inL_reverse, f2 u, inL_iff (L := M), inL_iff (L := L)]
        constructor
        · rintro (z | ⟨c, hc, z⟩)
          · nomatch z
          · exact ⟨c, ((mm c).mp hc).1, z⟩
        · rintro ⟨c, hc, z⟩
          exact Or.inr ⟨c, (mm c).mpr ⟨hc, by omega⟩, z⟩
end
end My

namespace L2
open PySem PySem.Spec PyProof.Rows
section
variable {K : PySem.W.Frag} {H : Hp} {a : Addr} {xs : List V} {lo hi : Option Int} {Q : VK}
theorem cutV_whole (w : HT.sIx xs.length 0 lo = 0 ∧ HT.sIx xs.length xs.length hi = xs.length) : cutV xs lo hi = xs := by
  unfold cutV
  rw [w.1, w.2]
  simp
/-- a tuple's slice: some tuple of these items, nothing else is new to see -/
theorem slA (h : SqT K H a xs) (q : ∀ p H', SqT K H' p (cutV xs lo hi) → Same H H' → Q (.ref p) H') : rSlA K (.ref a) lo hi H Q :=
  ⟨a, xs, rfl, h, fun w => q a H (by rw [cutV_whole w]; exact h) (fun _ _ e => e), fun _ p hp => q p _ (SqT.of upd_same) (Same.new hp)⟩
theorem v_max {ta tb : TE} {σ : St} {H : Hp} {i j : Int} (ha : Val ta σ H (.int i)) (hb : Val tb σ H (.int j)) : Val (tCB (fun xs H Q => ∃ i j, xs = [V.int i, V.int j] ∧ Q (V.int (if j > i then j else i)) H) (tCons ta (tCons tb tNil))) σ H (.int (max i j)) := fun Q q => ha _ (hb _ ⟨i, j, rfl, by
  have e : (if j > i then j else i) = max i j := by split <;> omega
  rw [e]; exact q⟩)
theorem v_min {ta tb : TE} {σ : St} {H : Hp} {i j : Int} (ha : Val ta σ H (.int i)) (hb : Val tb σ H (.int j)) : Val (tCB (fun xs H Q => ∃ i j, xs = [V.int i, V.int j] ∧ Q (V.int (if j < i then j else i)) H) (tCons ta (tCons tb tNil))) σ H (.int (min i j)) := fun Q q => ha _ (hb _ ⟨i, j, rfl, by
  have e : (if j < i then j else i) = min i j := by split <;> omega
  rw [e]; exact q⟩)
end
section
variable {K : PySem.W.Frag} {ta tb tl ti : TE} {t3 : TS} {D : Ends} {σ : St} {H : Hp} {x y : V} {l : Addr} {xs : List V} {i : Int} {j : Nat}
/-- l[i] = (x, y), a new pair -/
theorem st_putPair (ha : Val ta σ H x) (hb : Val tb σ H y) (hl : ∀ H', Val tl σ H' (.ref l)) (hi : ∀ H', Val ti σ H' (.int i)) (e : H l = some (.lst xs)) (hj : ixN xs.length i = some j)
    (q : ∀ u, H u = none → D.nx σ (upd (upd H u (.tup [x, y])) l (.lst (xs.set j (.ref u))))) : tAsg (tTup (tCons ta (tCons tb tNil))) (gSub tl ti rSetL) D σ H :=
  ha _ (hb _ ⟨by show 2 ≤ sizeLine; decide, fun u hu => hl _ _ (hi _ _ ⟨l, xs, i, j, rfl, rfl, Same.new hu _ _ e, hj, q u hu⟩)⟩)
end
theorem atI_head {v : V} {ds : List V} : atI (v :: ds) 0 = some v := by
  unfold atI ixN
  simp
theorem ixN_head {v : V} {ds : List V} : ixN (v :: ds).length 0 = some 0 := by
  unfold ixN
  simp
theorem sIx_nat {n : Nat} {d : Nat} {i : Nat} : HT.sIx n d (some (i : Int)) = min i n := by
  show (if (i : Int) < 0 then ((i : Int) + (n : Int)).toNat else min ((i : Int).toNat) n) = _
  rw [if_neg (by omega)]
  omega
end L2
namespace My
open PySem L2
theorem Rw.drop {H : Hp} {as : List V} {L : List Iv} (h : Rw H as L) (k : Nat) : Rw H (as.drop k) (L.drop k) := ⟨by simp [h.1], fun i a e => by
  rw [List.getElem?_drop] at e ⊢
  exact h.2 _ a e⟩
theorem Rw.take {H : Hp} {as : List V} {L : List Iv} (h : Rw H as L) (k : Nat) : Rw H (as.take k) (L.take k) := ⟨by simp [h.1], fun i a e => by
  rw [List.getElem?_take] at e ⊢
  by_cases c : i < k
  · rw [if_pos c] at e ⊢
    exact h.2 _ a e
  · rw [if_neg c] at e
    cases e⟩
theorem Rw.nil {H : Hp} : Rw H [] [] := ⟨rfl, fun i a e => by simp at e⟩
theorem Rw.cons {H : Hp} {as : List V} {L : List Iv} {t : Addr} {a : Iv} (ht : H t = some (.tup [.int a.1, .int a.2])) (h : Rw H as L) : Rw H (.ref t :: as) (a :: L) := ⟨by simp [h.1], fun i b e => by
  cases i with
  | zero => simp at e; subst e; exact ⟨t, rfl, ht⟩
  | succ j => rw [List.getElem?_cons_succ] at e ⊢; exact h.2 j b e⟩
theorem Rw.uncons {H : Hp} {as : List V} {L : List Iv} {a : Iv} (h : Rw H as (a :: L)) : ∃ t bs, as = V.ref t :: bs ∧ H t = some (.tup [.int a.1, .int a.2]) ∧ Rw H bs L := by
  obtain ⟨t, x, y⟩ := h.2 0 a rfl
  rcases as with _ | ⟨v, bs⟩
  · simp at x
  · simp at x
    subst x
    exact ⟨t, bs, rfl, y, by have := h.1; simp at this; exact this, fun i b e => by
      have := h.2 (i + 1) b (by rw [List.getElem?_cons_succ]; exact e)
      rw [List.getElem?_cons_succ] at this
      exact this⟩
def spClip (K : PySem.W.Frag) : Sp := fun vs H Q _ => ∃ (t : Addr) (as : List V) (L : List Iv) (s e : Int), vs = [.ref t, .int s, .int e] ∧ SqT K H t as ∧ Rw H as L ∧ Tidy L ∧ L.length ≤ 200000 ∧ ∀ (p : Addr) (bs : List V) (R : List Iv) H', H' p = some (.tup bs) → Rw H' bs R → Cut L s e R → R.length ≤ L.length → Same H H' → Q (.ref p) H'
section
variable {P : Program} {w : World} {K : PySem.W.Frag} {mg : Str → Option Value} {base : Heap} {a : Ad}
theorem G_clip (T : Tx K mg a) : FnOk P w K mg base CX0 2 a.f_clip a.d_clip ["pairs", "start", "end"] (spClip K) := by
  refine T.F_clip.ok sc_clip (fun vs H Q E h => ?_) (fun cdv A outer s H vs Q E hr h => ?_)
  · obtain ⟨t, as, L, st, en, rfl, _⟩ := h
    rfl
  · obtain ⟨t, as, L, st, en, rfl, ht, hrw, td, hz, k⟩ := h
    refine ⟨_, (pss_cons (ps_if (pt_cmpR op_ge (pv 1) (pv 2) (nomark _)) (pss_one (ps_ret (pe_tup pa_nil))) pss_nil)
      (pss_cons (ps_set (i := 3) sc_clip.nd rfl (Or.inl rfl) (pe_call (G_starts_below T) (hr.mono (by decide)) rfl T.g_starts_below T.F_starts_below.kp T.b_starts_below .nil pass0 (pa_cons (pv 0) (pa_cons (pv 1) pa_nil))))
      (pss_cons (ps_if (PW.pt (pw_and (pt_cmpR op_gt (pv 3) pe_int (nomark _)) (pw_and1 (pt_cmpR op_gt (pe_ix ix_tup (pe_ix ix_tup (pv 0) (pe_op op_sub (pv 3) pe_int) (fun _ _ => rfl)) pe_int (fun _ _ => rfl)) (pv 1) (nomark _))))) (pss_one (ps_aug (i := 3) sc_clip.nd rfl (Or.inl rfl) pe_int ip_sub)) pss_nil)
      (pss_cons (ps_set (i := 4) sc_clip.nd rfl (Or.inl rfl) (pe_callTy call_list_of (by rfl) T.n_list (by decide +kernel) (pa_cons (pe_slice sl_tupA (pv 0) (po_some (pv 3)) (po_some (pe_call (G_starts_below T) (hr.mono (by decide)) rfl T.g_starts_below T.F_starts_below.kp T.b_starts_below .nil pass0 (pa_cons (pv 0) (pa_cons (pv 2) pa_nil))))) pa_nil)))
      (pss_cons (ps_if (pt_truth (pv 4) (by intro _; rfl)) (pss_cons (ps_asg (pe_tup (pa_cons (pe_callB (call_max2 rfl) (by rfl) T.n_max (by decide +kernel) (pa_cons (pe_ix ix_tup (pe_ix ix_list (pv 4) pe_int (fun _ _ => rfl)) pe_int (fun _ _ => rfl)) (pa_cons (pv 1) pa_nil))) (pa_cons (pe_ix ix_tup (pe_ix ix_list (pv 4) pe_int (fun _ _ => rfl)) pe_int (fun _ _ => rfl)) pa_nil))) (pg_sub (pv 4) pe_int set_list))
      (pss_one (ps_asg (pe_tup (pa_cons (pe_ix ix_tup (pe_ix ix_list (pv 4) (pe_un un_neg pe_int) (fun _ _ => rfl)) pe_int (fun _ _ => rfl)) (pa_cons (pe_callB (call_min2 rfl) (by rfl) T.n_min (by decide +kernel) (pa_cons (pe_ix ix_tup (pe_ix ix_list (pv 4) (pe_un un_neg pe_int) (fun _ _ => rfl)) pe_int (fun _ _ => rfl)) (pa_cons (pv 2) pa_nil))) pa_nil))) (pg_sub (pv 4) (pe_un un_neg pe_int) set_list)))) pss_nil)
      (pss_one (ps_ret (pe_callTy call_tuple_of (by rfl) T.n_tuple (by decide +kernel) (pa_cons (pv 4) pa_nil))))))))), ?_⟩
    have la := hrw.1
    refine st_guard (q := en ≤ st) (a_cmp (f := fun i j => decide (j ≤ i)) (val_var (i := 1) rfl) (val_var (i := 2) rfl)) (by simp) (fun c => ?_) fun c => ?_
    · refine ⟨by show 0 ≤ sizeLine; decide, fun p hp => k p [] [] _ upd_same .nil (cut_none c) (Nat.zero_le _) (Same.new hp)⟩
    · have lt : st < en := by omega
      have bl : ∀ {m : Int} {σ : St} {H : Hp} {i : Nat}, SqT K H t as → Rw H as L → σ[0]? = some (some (.ref t)) → σ[i]? = some (some (.int m)) → Val (tCall (spBelow K) [] E0 (tCons (tVar 0) (tCons (tVar i) tNil))) σ H (.int (below L m : Nat)) := fun x y e1 e2 => v_call2 (val_var (i := 0) e1) (val_var e2) fun Q q => ⟨t, as, L, _, rfl, x, y, td, by omega, q⟩
      have hl := below_le (L := L) (m := st)
      refine st_let (bl ht hrw rfl rfl) ?_
      refine st_shareS (fun σ' H' => σ' = [some (.ref t), some (.int st), some (.int en), some (.int (firstC L st : Nat)), none] ∧ H' = H) ?_ fun N hN => ?_
      case refine_2 =>
        rcases Nat.eq_zero_or_pos (below L st) with z | z
        · refine st_ifp (q := False) (a_and (c := true) (a_cmp (f := fun i j => decide (j < i)) (val_var (i := 3) rfl) val_c) (fun h => absurd (of_decide_eq_true h) (by omega))) (by simp; omega) (fun h => h.elim) (fun _ => hN _ _ ⟨?_, rfl⟩)
          have e : firstC L st = below L st := if_neg (by omega)
          rw [e]
          rfl
        · obtain ⟨x, hx⟩ : ∃ x, L[below L st - 1]? = some x := ⟨_, List.getElem?_eq_getElem (by omega)⟩
          obtain ⟨u, w1, w2⟩ := hrw.2 _ x hx
          have gd : (L.getD (below L st - 1) (0, 0)).2 = x.2 := by rw [List.getD_eq_getElem?_getD, hx]; rfl
          refine st_ifp (q := 0 < below L st ∧ st < x.2) (a_and (a_cmp (f := fun i j => decide (j < i)) (val_var (i := 3) rfl) val_c) (fun _ => a_cmp (f := fun i j => decide (j < i)) (v_ixT (v_ixT (p := t) (val_var (i := 0) rfl) (v_rI0 (g := fun i j => .int (i - j)) (val_var (i := 3) rfl) val_c) ht (at_of (j := below L st - 1) (by omega) w1)) val_c (SqT.of w2) (show atI [V.int x.1, .int x.2] 1 = some (V.int x.2) from rfl)) (val_var (i := 1) rfl))) (by simp) (fun c2 => ?_) fun c2 => ?_
          · refine ⟨_, rfl, _, _, rfl, rfl, hN _ _ ⟨?_, rfl⟩⟩
            have e : firstC L st = below L st - 1 := if_pos (by rw [gd]; exact c2)
            rw [e, show ((below L st - 1 : Nat) : Int) = (below L st : Nat) - 1 by omega]
            rfl
          · refine hN _ _ ⟨?_, rfl⟩
            have e : firstC L st = below L st := if_neg (by rw [gd]; exact c2)
            rw [e]
            rfl
      rintro σ' H' ⟨rfl, rfl⟩
      have hc := cut_len (L := L) (s := st) (e := en)
      have lc : (cutC L st en).length ≤ L.length := by have := below_le (L := L) (m := en); omega
      refine st_letX (v_cb1 ?_)
      refine ⟨_, rfl, _, rfl, _, rfl, ?_⟩
      refine bl ht hrw rfl rfl _ ⟨_, rfl, ?_⟩
      refine slA ht fun p H1 hp s1 => ?_
      have ec : cutV as (some (firstC L st : Nat)) (some (below L en : Nat)) = (as.drop (firstC L st)).take (below L en - firstC L st) := by
        unfold cutV
        rw [sIx_nat, sIx_nat, la]
        have h1 : below L en ≤ L.length := below_le
        have h2 : firstC L st ≤ L.length := by have := below_le (L := L) (m := st); unfold firstC; split <;> omega
        rw [Nat.min_eq_left h1, Nat.min_eq_left h2]
      rw [ec] at hp
      have rw1 : Rw H1 ((as.drop (firstC L st)).take (below L en - firstC L st)) (cutC L st en) := ((hrw.same s1).drop _).take _
      generalize (as.drop (firstC L st)).take (below L en - firstC L st) = cs at hp rw1
      refine ⟨p, cs, rfl, Or.inr hp, fun l hl => ?_⟩
      have s2 := Same.new (o := .lst cs) hl
      have e2 : upd H1 l (.lst cs) l = some (.lst cs) := upd_same
      have s02 := s1.trans s2
      have rw2 := rw1.same s2
      generalize upd H1 l (.lst cs) = H2 at s2 e2 s02 rw2
      refine st_shareS (fun σ' H' => ∃ bs, σ' = [some (.ref t), some (.int st), some (.int en), some (.int (firstC L st : Nat)), some (.ref l)] ∧ H' l = some (.lst bs) ∧ Rw H' bs ((cutC L st en).map (clamp st en)) ∧ But l H2 H') ?_ fun N hN => ?_
      case refine_2 =>
        rcases hC : cutC L st en with _ | ⟨b, C⟩
        · rw [hC] at rw2 hN
          obtain rfl : cs = [] := List.length_eq_zero_iff.mp rw2.1
          exact st_ifb (b := false) (ans_tru (val_var (i := 4) rfl) (Or.inl ⟨_, SqL.of e2, rfl⟩)) (fun h => nomatch h) (fun _ => hN _ _ ⟨[], rfl, e2, .nil, But.refl _ _⟩)
        · rw [hC] at rw2
          obtain ⟨u, ds, rfl, eu, rwd⟩ := rw2.uncons
          refine st_ifb (b := true) (ans_tru (val_var (i := 4) rfl) (Or.inl ⟨_, SqL.of e2, rfl⟩)) (fun _ => ?_) (fun h => nomatch h)
          have lu : ∀ {σ : St} {H' : Hp} {r}, σ[4]? = some (some (V.ref l)) → H' l = some (.lst (V.ref r :: ds)) → Val (tOp (rIxL K) (tVar 4) (tC (V.int 0))) σ H' (.ref r) := fun e f => v_ixL (val_var (i := 4) e) val_c (SqL.of f) atI_head
          refine st_seq (st_putPair (xs := V.ref u :: ds) (j := 0) (v_max (v_ixT (lu rfl e2) val_c (SqT.of eu) (show atI [V.int b.1, .int b.2] 0 = some (V.int b.1) from rfl)) (val_var (i := 1) rfl)) (v_ixT (lu rfl e2) val_c (SqT.of eu) (show atI [V.int b.1, .int b.2] 1 = some (V.int b.2) from rfl)) (fun _ => val_var (i := 4) rfl) (fun _ => val_c) e2 ixN_head fun u1 h1 => ?_)
          have s3 := Same.new (o := .tup [.int (max b.1 st), .int b.2]) h1
          have rw3 : Rw (upd (upd H2 u1 (.tup [.int (max b.1 st), .int b.2])) l (.lst (.ref u1 :: ds))) (.ref u1 :: ds) ((max b.1 st, b.2) :: C) := (Rw.cons (a := (max b.1 st, b.2)) upd_same (rwd.same s3)).upd (s3 _ _ e2)
          have b3 : But l H2 (upd (upd H2 u1 (.tup [.int (max b.1 st), .int b.2])) l (.lst (.ref u1 :: ds))) := fun c o e n => by rw [upd_ne n]; exact s3 _ _ e
          have e3 : upd (upd H2 u1 (.tup [.int (max b.1 st), .int b.2])) l (.lst (.ref u1 :: ds)) l = some (.lst (.ref u1 :: ds)) := upd_same
          rw [show (V.ref u :: ds).set 0 (V.ref u1) = V.ref u1 :: ds from rfl]
          dsimp only
          generalize upd (upd H2 u1 (.tup [.int (max b.1 st), .int b.2])) l (.lst (.ref u1 :: ds)) = H3 at rw3 b3 e3 ⊢
          obtain ⟨M, z, hM⟩ : ∃ M z, (max b.1 st, b.2) :: C = M ++ [z] := ⟨_, _, (List.dropLast_concat_getLast (List.cons_ne_nil _ _)).symm⟩
          rw [hM] at rw3
          obtain ⟨cs0, u0, ecs, rw4, e4⟩ := rw3.last
          rw [ecs] at e3 rw3
          have lz : ∀ {σ : St} {H' : Hp} {r}, σ[4]? = some (some (V.ref l)) → H' l = some (.lst (cs0 ++ [V.ref r])) → Val (tOp (rIxL K) (tVar 4) (tUn (rU fun i => V.int (-i)) (tC (V.int 1)))) σ H' (.ref r) := fun e f => v_ixL (val_var (i := 4) e) (v_un (g := fun i => V.int (-i)) val_c) (SqL.of f) atI_last
          refine st_putPair (i := -1) (v_ixT (lz rfl e3) val_c (SqT.of e4) (show atI [V.int z.1, .int z.2] 0 = some (V.int z.1) from rfl)) (v_min (v_ixT (lz rfl e3) val_c (SqT.of e4) (show atI [V.int z.1, .int z.2] 1 = some (V.int z.2) from rfl)) (val_var (i := 2) rfl)) (fun _ => val_var (i := 4) rfl) (fun _ => v_un (g := fun i => V.int (-i)) val_c) e3 ixN_last fun u2 h2 => ?_
          have s5 := Same.new (o := .tup [.int z.1, .int (min z.2 en)]) h2
          refine hN _ _ ⟨_, rfl, upd_same, ?_, ?_⟩
          · rw [set_last, ← cut_ends td lt hC hM]
            exact ((rw4.same s5).snoc (a := (z.1, min z.2 en)) upd_same).upd (s5 _ _ e3)
          · exact fun c o e n => by rw [upd_ne n]; exact s5 _ _ (b3 _ _ e n)
      rintro σ' H3 ⟨bs, rfl, e3, rw3, b3⟩
      refine st_ret1 ⟨_, rfl, l, bs, rfl, Or.inl ⟨SqL.of e3, fun q hq => ?_⟩⟩
      have s4 := Same.new (o := .tup bs) hq
      exact k q bs _ _ upd_same (rw3.same s4) (cut_ok td lt) (by rw [List.length_map]; exact lc) (s1.trans ((But.new hl (But.same s2 b3)).trans s4))
end
end My

namespace My
open PySem L2
/-- the i-th of a comprehension: a pair -/
def RelP (M : List Iv) (D : Addr) (i : Nat) (v : V) (H : Hp) : Prop := ∃ (t : Addr) (y : Iv), v = .ref t ∧ t ≠ D ∧ M[i]? = some y ∧ H t = some (.tup [.int y.1, .int y.2])
theorem RelP.mono {M : List Iv} (D : Addr) (i : Nat) (v : V) (H H' : Hp) (h : RelP M D i v H) (b : But D H H') : RelP M D i v H' := let ⟨t, y, e, n, m, z⟩ := h; ⟨t, y, e, n, m, b _ _ z n⟩
theorem pairs_of {M : List Iv} {D : Addr} {H : Hp} {n : Nat} {bs : List V} (h : AllR (fun i v => RelP M D i v H) ((List.range n).filter fun _ => true) bs) (e : n = M.length) : Rw H bs M := by
  obtain ⟨h1, h2⟩ := h.all
  refine ⟨by omega, fun i a ha => ?_⟩
  have hi := (List.getElem?_eq_some_iff.mp ha).1
  have hb := List.getElem?_eq_getElem (l := bs) (i := i) (by omega)
  obtain ⟨t, y, e1, _, m, z⟩ := h2 i _ hb
  rw [ha] at m
  cases m
  exact ⟨t, by rw [hb, e1], z⟩
/-- a pair is read into two names -/
theorem g_pair {K : PySem.W.Frag} {i j : Nat} {t : Addr} {x y : V} {σ : St} {H : Hp} {C : St → Hp → Prop} (h : H t = some (.tup [x, y])) (c : C ((σ.set i (some x)).set j (some y)) H) : gTup K 2 (gCons (gName i) (gCons (gName j) gNil)) (.ref t) σ H C :=
  ⟨t, _, rfl, SqT.of h, rfl, _, _, rfl, _, _, rfl, rfl, c⟩
theorem Rw.head {H : Hp} {as : List V} {L : List Iv} (h : Rw H as L) (ne : L ≠ []) : ∃ t ds, as = V.ref t :: ds ∧ H t = some (.tup [.int (L.headD (0, 0)).1, .int (L.headD (0, 0)).2]) ∧ Rw H ds (L.drop 1) := by
  rcases L with _ | ⟨a, r⟩
  · exact absurd rfl ne
  · exact h.uncons
theorem Rw.lastD {H : Hp} {as : List V} {L : List Iv} (h : Rw H as L) (ne : L ≠ []) : ∃ bs u, as = bs ++ [V.ref u] ∧ Rw H bs L.dropLast ∧ H u = some (.tup [.int (L.getLastD (0, 0)).1, .int (L.getLastD (0, 0)).2]) := by
  obtain ⟨M, z, e⟩ := split_last ne
  rw [e] at h
  obtain ⟨bs, u, e1, e2, e3⟩ := h.last
  exact ⟨bs, u, e1, by rw [e, List.dropLast_concat]; exact e2, by rw [e, last_snoc]; exact e3⟩
theorem Rw.dropLast {H : Hp} {as : List V} {L : List Iv} (h : Rw H as L) : Rw H as.dropLast L.dropLast := by
  rw [List.dropLast_eq_take, List.dropLast_eq_take, h.1]
  exact h.take _
def spRound (K : PySem.W.Frag) : Sp := fun vs H Q _ => ∃ (t : Addr) (as : List V) (R : List Iv) (h p : Int), vs = [.int h, .int p, .ref t] ∧ SqT K H t as ∧ Rw H as R ∧ Tail h p R ∧ R.length ≤ 200000 ∧ ∀ (l : Addr) (bs : List V) H', H' l = some (.lst bs) → Rw H' bs (stepsOf p (runsOf h p R)) → H l = none → Same H H' → Q (.ref l) H'
section
variable {P : Program} {w : World} {K : PySem.W.Frag} {mg : Str → Option Value} {base : Heap} {a : Ad}
theorem G_round_steps (T : Tx K mg a) : FnOk P w K mg base CX0 1 a.f_round_steps a.d_round_steps ["head", "period", "tail"] (spRound K) := by
  refine T.F_round_steps.ok sc_round_steps (fun vs H Q E h => ?_) (fun cdv A outer s H vs Q E hr h => ?_)
  · obtain ⟨t, as, R, hh, p, rfl, _⟩ := h
    rfl
  · obtain ⟨t, as, R, hh, p, rfl, ht, hrw, tl, hz, k⟩ := h
    refine ⟨_, (pss_cons (ps_setLc (i := 3) (own := [("start", 4), ("end", 5)]) (g := gTup K 2 (gCons (gName 4) (gCons (gName 5) gNil))) (tt := tYes) rfl sc_round_steps.nd rfl rfl (sw_true rfl rfl rfl (by decide +kernel)) (pi_tup (pv 2)) (blkOk_by (own := [("start", 4), ("end", 5)]) (N := ["head", "period", "tail", "runs", "start", "end", "following", "run", "then"]) (sc := defScope s_round_steps) (by decide +kernel)) (fun _ _ _ _ _ => (pg_tup rfl (pgs_cons (pg_name (i := 4) sc_round_steps.nd rfl (Or.inl rfl)) (pgs_cons (pg_name (i := 5) sc_round_steps.nd rfl (Or.inl rfl)) pgs_nil)))) (fun _ _ _ _ _ => pts_nil) (fun _ _ _ _ _ => (pe_tup (pa_cons (pv 4) (pa_cons (pe_op op_sub (pv 5) (pv 4)) pa_nil)))))
      (pss_cons (ps_if (PW.pt (pw_and (pt_cmpR op_eq (pe_ix ix_tup (pe_ix ix_tup (pv 2) pe_int (fun _ _ => rfl)) pe_int (fun _ _ => rfl)) (pv 0) (nomark _)) (pw_and1 (pt_cmpR op_eq (pe_ix ix_tup (pe_ix ix_tup (pv 2) (pe_un un_neg pe_int) (fun _ _ => rfl)) pe_int (fun _ _ => rfl)) (pe_op op_add (pv 0) (pv 1)) (nomark _))))) (pss_one (ps_set (i := 3) sc_round_steps.nd rfl (Or.inl rfl) (pe_op op_cat (pe_slice sl_list (pv 3) (po_some pe_int) (po_some (pe_un un_neg pe_int))) (pe_lst (pa_cons (pe_tup (pa_cons (pe_ix ix_tup (pe_ix ix_list (pv 3) (pe_un un_neg pe_int) (fun _ _ => rfl)) pe_int (fun _ _ => rfl)) (pa_cons (pe_op op_add (pe_ix ix_tup (pe_ix ix_list (pv 3) (pe_un un_neg pe_int) (fun _ _ => rfl)) pe_int (fun _ _ => rfl)) (pe_ix ix_tup (pe_ix ix_list (pv 3) pe_int (fun _ _ => rfl)) pe_int (fun _ _ => rfl))) pa_nil))) pa_nil))))) pss_nil)
      (pss_cons (ps_set (i := 6) sc_round_steps.nd rfl (Or.inl rfl) (pe_op op_cat (pe_slice sl_list (pv 3) (po_some pe_int) po_none) (pe_lst (pa_cons (pe_tup (pa_cons (pe_op op_add (pe_ix ix_tup (pe_ix ix_list (pv 3) pe_int (fun _ _ => rfl)) pe_int (fun _ _ => rfl)) (pv 1)) (pa_cons pe_int pa_nil))) pa_nil))))
      (pss_one (ps_ret (pe_lc (own := [("run", 7), ("then", 8)]) (g := gTup K 2 (gCons (gName 7) (gCons (gName 8) gNil))) (tt := tYes) rfl sc_round_steps.nd (pi_zip (by rfl) T.n_zip (pa_cons (pv 3) (pa_cons (pv 6) pa_nil))) (blkOk_by (own := [("run", 7), ("then", 8)]) (N := ["head", "period", "tail", "runs", "start", "end", "following", "run", "then"]) (sc := defScope s_round_steps) (by decide +kernel)) (fun _ _ _ _ _ => (pg_tup rfl (pgs_cons (pg_name (i := 7) sc_round_steps.nd rfl (Or.inl rfl)) (pgs_cons (pg_name (i := 8) sc_round_steps.nd rfl (Or.inl rfl)) pgs_nil)))) (fun _ _ _ _ _ => pts_nil) (fun _ _ _ _ _ => (pe_tup (pa_cons (pe_op op_sub (pe_ix (ix_tupK K) (pv 8) pe_int (fun _ _ => rfl)) (pe_ix (ix_tupK K) (pv 7) pe_int (fun _ _ => rfl))) (pa_cons (pe_ix (ix_tupK K) (pv 7) pe_int (fun _ _ => rfl)) pa_nil)))))))))), ?_⟩
    obtain ⟨ro, _, _⟩ := tl.spec
    have rne : runsOf hh p R ≠ [] := fun z => by have := ro.ne; rw [z] at this; exact absurd this (by decide)
    have la := hrw.1
    refine st_letX (lcT ⟨_, rfl, ?_⟩)
    refine cg_T (fun _ => true) (RelP (R.map rl)) RelP.mono ht (by omega) (fun D i x H2 bs hD hx eD s2 C q => ?_) fun D bs H2 hD eD ar s2 => ?_
    · have hi : i < R.length := by rw [← la]; exact (List.getElem?_eq_some_iff.mp hx).1
      obtain ⟨u, w1, w2⟩ := (hrw.same s2).2 i _ (List.getElem?_eq_getElem hi)
      rw [hx] at w1
      cases w1
      refine g_pair w2 (q _ _ (But.refl _ _) rfl rfl (fun _ z => z) fun _ => Gives.pair (y := .int (R[i].2 - R[i].1)) eD (val_var rfl) (v_rI0 (g := fun i j => .int (i - j)) (val_var rfl) (val_var rfl)) fun t ht n => ⟨t, rl R[i], rfl, n, by rw [List.getElem?_map, List.getElem?_eq_getElem hi]; rfl, upd_same⟩)
    have rw1 := pairs_of ar (by rw [la, List.length_map])
    have hrw2 := hrw.same s2
    have ht2 := s2.sqT ht
    obtain ⟨t0, ds, e0, h0, _⟩ := hrw2.head tl.ne
    obtain ⟨cs, tz, ez, _, hz2⟩ := hrw2.lastD tl.ne
    refine st_shareS (fun σ' H' => ∃ v4 v5 l bs, σ' = [some (.int hh), some (.int p), some (.ref t), some (.ref l), v4, v5, none, none, none] ∧ H' l = some (.lst bs) ∧ Rw H' bs (runsOf hh p R) ∧ Same H H') ?_ fun N hN => ?_
    case refine_2 =>
      refine st_ifp (q := (R.headD (0, 0)).1 = hh ∧ (R.getLastD (0, 0)).2 = hh + p) (a_and (a_eq (v_ixT (v_ixT (p := t) (val_var rfl) val_c ht2 (by rw [e0]; exact atI_head)) val_c (SqT.of h0) rfl) (val_var rfl)) fun _ => a_eq (v_ixT (v_ixT (p := t) (val_var rfl) (v_un (g := fun i => V.int (-i)) val_c) ht2 (by rw [ez]; exact atI_last)) val_c (SqT.of hz2) rfl) (v_rI0 (g := fun i j => .int (i + j)) (val_var rfl) (val_var rfl))) (by simp) (fun c => ?_) fun c => ?_
      · have lz : ∀ {H' : Hp}, Same H2 H' → ∃ u0 uz, H' u0 = some (.tup [.int (rl (R.headD (0, 0))).1, .int (rl (R.headD (0, 0))).2]) ∧ H' uz = some (.tup [.int (rl (R.getLastD (0, 0))).1, .int (rl (R.getLastD (0, 0))).2]) ∧ (∀ {σ : St}, σ[3]? = some (some (V.ref D)) → Val (tOp (rIxL K) (tVar 3) (tC (V.int 0))) σ H' (.ref u0)) ∧ (∀ {σ : St}, σ[3]? = some (some (V.ref D)) → Val (tOp (rIxL K) (tVar 3) (tUn (rU fun i => V.int (-i)) (tC (V.int 1)))) σ H' (.ref uz)) := fun s => by
          have r := rw1.same s
          have ne : R.map rl ≠ [] := fun z => tl.ne (List.map_eq_nil_iff.mp z)
          obtain ⟨u0, d0, e0, h0, _⟩ := r.head ne
          obtain ⟨c0, uz, ez, _, hz⟩ := r.lastD ne
          have m1 : (R.map rl).headD (0, 0) = rl (R.headD (0, 0)) := by cases R <;> rfl
          have m2 : (R.map rl).getLastD (0, 0) = rl (R.getLastD (0, 0)) := by
            obtain ⟨M, z, e⟩ := split_last tl.ne
            rw [e, List.map_append, List.map_singleton, last_snoc, last_snoc]
          rw [m1] at h0
          rw [m2] at hz
          exact ⟨u0, uz, h0, hz, fun e => v_ixL (val_var e) val_c (SqL.of (s _ _ eD)) (by rw [e0]; exact atI_head), fun e => v_ixL (val_var e) (v_un (g := fun i => V.int (-i)) val_c) (SqL.of (s _ _ eD)) (by rw [ez]; exact atI_last)⟩
        refine sl_pair (lo := some 1) (hi := some (-1)) (x := .int (R.getLastD (0, 0)).1) (y := .int (((R.getLastD (0, 0)).2 - (R.getLastD (0, 0)).1) + ((R.headD (0, 0)).2 - (R.headD (0, 0)).1))) (val_var rfl) (SqL.of eD) (fun _ _ q => ⟨_, rfl, q⟩) (fun _ _ q => ⟨_, rfl, _, rfl, q⟩) (by rw [rw1.1, List.length_map]; omega) (fun H' s => ?_) (fun H' s => ?_) fun D2 u H' s eu e2 _ => ?_
        · obtain ⟨u0, uz, h0, hz, v0, vz⟩ := lz s
          exact v_ixT (vz rfl) val_c (SqT.of hz) rfl
        · obtain ⟨u0, uz, h0, hz, v0, vz⟩ := lz s
          exact v_rI0 (g := fun i j => .int (i + j)) (v_ixT (vz rfl) val_c (SqT.of hz) rfl) (v_ixT (v0 rfl) val_c (SqT.of h0) rfl)
        · obtain ⟨u0, d0, e0, _, rd⟩ := rw1.head fun z => tl.ne (List.map_eq_nil_iff.mp z)
          have er : runsOf hh p R = ((R.map rl).drop 1).dropLast ++ [((R.getLastD (0, 0)).1, ((R.getLastD (0, 0)).2 - (R.getLastD (0, 0)).1) + ((R.headD (0, 0)).2 - (R.headD (0, 0)).1))] := if_pos c
          rw [e0, cut1m] at e2
          refine hN _ _ ⟨_, _, D2, _, rfl, e2, ?_, s2.trans s⟩
          rw [er]
          exact ((rd.dropLast).same s).snoc eu
      · have e : runsOf hh p R = R.map rl := if_neg c
        exact hN _ _ ⟨_, _, D, bs, rfl, eD, by rw [e]; exact rw1, s2⟩
    rintro σ' H3 ⟨v4, v5, l, cs, rfl, e3, rw3, s3⟩
    obtain ⟨u0, d0, e0, h0, rd⟩ := rw3.head rne
    have lcs := rw3.1
    have lr : (runsOf hh p R).length ≤ 200001 := by
      unfold runsOf
      split
      · rw [List.length_append, List.length_dropLast, List.length_drop, List.length_map, List.length_singleton]
        omega
      · rw [List.length_map]
        omega
    refine st_letX ?_
    refine sl_pair (lo := some 1) (hi := none) (x := .int (((runsOf hh p R).headD (0, 0)).1 + p)) (y := .int 0) (val_var rfl) (SqL.of e3) (fun _ _ q => ⟨_, rfl, q⟩) (fun _ _ q => q) (by omega) (fun H' s => v_rI0 (g := fun i j => .int (i + j)) (v_ixT (v_ixL (val_var rfl) val_c (SqL.of (s _ _ e3)) (by rw [e0]; exact atI_head)) val_c (SqT.of (s _ _ h0)) rfl) (val_var rfl)) (fun H' s => val_c) fun D2 u H' s eu e2 _ => ?_
    rw [e0, cut1] at e2
    have rw2 : Rw H' (d0 ++ [.ref u]) ((runsOf hh p R).drop 1 ++ [(((runsOf hh p R).headD (0, 0)).1 + p, 0)]) := (rd.same s).snoc eu
    have rw4 := rw3.same s
    have e4 := s _ _ e3
    have s4 := s3.trans s
    have ls : (stepsOf p (runsOf hh p R)).length = (runsOf hh p R).length := by
      unfold stepsOf
      rw [List.length_zipWith, List.length_append, List.length_drop, List.length_singleton]
      have := ro.ne
      omega
    refine cg_Z (fun _ => true) (RelP (stepsOf p (runsOf hh p R))) RelP.mono (SqL.of e4) (SqL.of e2) (by rw [rw4.1, rw2.1, List.length_append, List.length_drop, List.length_singleton]; have := ro.ne; omega) (by omega) (fun D i x y Tn H5 bs hD hx hy eT eD s5 C q => ?_) (fun D bs H5 hD eD ar s5 => ?_) (fun R q => ⟨_, rfl, _, rfl, q⟩)
    · have hi : i < (runsOf hh p R).length := by rw [← lcs]; exact (List.getElem?_eq_some_iff.mp hx).1
      have hm := List.getElem?_eq_getElem (l := stepsOf p (runsOf hh p R)) (i := i) (by omega)
      obtain ⟨b1, hl⟩ : ∃ a, (runsOf hh p R)[i]? = some a := ⟨_, List.getElem?_eq_getElem hi⟩
      obtain ⟨b2, hl2⟩ : ∃ a, ((runsOf hh p R).drop 1 ++ [(((runsOf hh p R).headD (0, 0)).1 + p, 0)])[i]? = some a := ⟨_, List.getElem?_eq_getElem (by rw [List.length_append, List.length_drop, List.length_singleton]; omega)⟩
      obtain ⟨t1, w1, w2⟩ := (rw4.same s5).2 i _ hl
      obtain ⟨t2, w3, w4⟩ := (rw2.same s5).2 i _ hl2
      rw [hx] at w1
      cases w1
      rw [hy] at w3
      cases w3
      have hm2 : (stepsOf p (runsOf hh p R))[i]? = some (b2.1 - b1.1, b1.2) := by
        unfold stepsOf
        rw [List.getElem?_zipWith, hl, hl2]
      refine g_pair eT (q _ _ (But.refl _ _) rfl rfl (fun _ z => z) fun _ => Gives.pair eD (v_rI0 (g := fun i j => .int (i - j)) (v_ixT (val_var rfl) val_c (SqT.of w4) rfl) (v_ixT (val_var rfl) val_c (SqT.of w2) rfl)) (v_ixT (val_var rfl) val_c (SqT.of w2) rfl) fun t ht n => ⟨t, _, rfl, n, hm2, upd_same⟩)
    · refine k D bs H5 eD (pairs_of ar (by rw [ls, lcs])) ?_ (s4.trans s5)
      cases e : H D with
      | none => rfl
      | some o => exact absurd (s4 _ _ e) (by rw [hD]; exact fun z => nomatch z)
end
end My

namespace My
open PySem L2
theorem Rw.dp {K : PySem.W.Frag} {H : Hp} : ∀ {as : List V} {L : List Iv}, Rw H as L → DpAll K H as (prow L)
  | as, [], h => by
    obtain rfl : as = [] := List.length_eq_zero_iff.mp h.1
    exact .nil
  | as, a :: L, h => by
    obtain ⟨t, bs, rfl, ht, r⟩ := h.uncons
    exact .cons (pdata_dp ht) (Rw.dp r)
theorem cut_drop {xs : List V} {k : Nat} : cutV xs (some (k : Int)) none = xs.drop k := by
  unfold cutV
  rw [HT.sIx_nat]
  show (xs.drop (min k xs.length)).take (xs.length - min k xs.length) = _
  rw [← List.length_drop, List.take_length]
  by_cases c : k ≤ xs.length
  · rw [Nat.min_eq_left c]
  · rw [Nat.min_eq_right (by omega), List.drop_eq_nil_of_le (Nat.le_refl _), List.drop_eq_nil_of_le (by omega)]
theorem cut_take {xs : List V} {k : Nat} : cutV xs none (some (k : Int)) = xs.take k := by
  unfold cutV
  rw [HT.sIx_nat]
  show (xs.drop 0).take (min k xs.length - 0) = _
  rw [List.drop_zero, Nat.sub_zero]
  by_cases c : k ≤ xs.length
  · rw [Nat.min_eq_left c]
  · rw [Nat.min_eq_right (by omega), List.take_length, List.take_of_length_le (by omega)]
def spLeast (K : PySem.W.Frag) : Sp := fun vs H Q _ => ∃ (t : Addr) (as : List V) (L : List Iv) (h p : Int), vs = [.int h, .int p, .ref t] ∧ SqT K H t as ∧ Rw H as L ∧ Tidy L ∧ 1 ≤ p ∧ L.length ≤ 100000 ∧ ∀ (R : List Iv) (q : Int) H', Cut L h (h + p) R → LeastP h p R q → Same H H' → Q (.int q) H'
section
variable {P : Program} {w : World} {K : PySem.W.Frag} {mg : Str → Option Value} {base : Heap} {a : Ad}
theorem G_least_period (T : Tx K mg a) : FnOk P w K mg base CX0 3 a.f_least_period a.d_least_period ["head", "period", "pairs"] (spLeast K) := by
  refine T.F_least_period.ok sc_least_period (fun vs H Q E h => ?_) (fun cdv A outer s H vs Q E hr h => ?_)
  · obtain ⟨t, as, L, hh, p, rfl, _⟩ := h
    rfl
  · obtain ⟨t, as, L, hh, p, rfl, ht, hrw, td, p1, hz, k⟩ := h
    refine ⟨_, (pss_cons (ps_set (i := 3) sc_least_period.nd rfl (Or.inl rfl) (pe_call (G_clip T) (hr.mono (by decide)) rfl T.g_clip T.F_clip.kp T.b_clip .nil pass0 (pa_cons (pv 2) (pa_cons (pv 0) (pa_cons (pe_op op_add (pv 0) (pv 1)) pa_nil)))))
      (pss_cons (ps_if (PW.pt (pw_or (pt_not (pt_truth (pv 3) (by intro _; rfl))) (pw_or1 (pt_cmpR (op_eqD hr.units) (pe_ix ix_tup (pv 3) pe_int (fun _ _ => rfl)) (pe_tup (pa_cons (pv 0) (pa_cons (pe_op op_add (pv 0) (pv 1)) pa_nil))) (nomark _))))) (pss_one (ps_ret pe_int)) pss_nil)
      (pss_cons (ps_set (i := 4) sc_least_period.nd rfl (Or.inl rfl) (pe_call (G_round_steps T) (hr.mono (by decide)) rfl T.g_round_steps T.F_round_steps.kp T.b_round_steps .nil pass0 (pa_cons (pv 0) (pa_cons (pv 1) (pa_cons (pv 3) pa_nil)))))
      (pss_cons (ps_set (i := 5) sc_least_period.nd rfl (Or.inl rfl) (pe_callB call_len_seq (by rfl) T.n_len (by decide +kernel) (pa_cons (pv 4) pa_nil)))
      (pss_cons (ps_for PassesOwn.never rfl (pi_range2 rfl T.n_range (pa_cons pe_int (pa_cons (pv 5) pa_nil))) (pg_name (i := 6) sc_least_period.nd rfl (Or.inl rfl)) (pss_one (ps_if (PW.pt (pw_and (pt_cmpR op_eq (pe_op op_mod (pv 5) (pv 6)) pe_int (nomark _)) (pw_and1 (pt_cmpR (op_eqD hr.units) (pe_slice sl_list (pv 4) (po_some (pv 6)) po_none) (pe_slice sl_list (pv 4) po_none (po_some (pe_op op_sub (pv 5) (pv 6)))) (nomark _))))) (pss_one (ps_ret (pe_op op_fdivW (pe_op op_mul (pv 1) (pv 6)) (pv 5)))) pss_nil)))
      (pss_one (ps_ret (pv 1)))))))), ?_⟩
    refine st_letX ⟨_, rfl, _, rfl, _, rfl, _, rfl, _, _, rfl, rfl, t, as, L, hh, hh + p, rfl, ht, hrw, td, by omega, fun t2 bs R H1 e1 rw1 cut le s1 => ?_⟩
    have hR := k R
    have tru : ∀ {σ : St} {b : Bool}, σ[3]? = some (some (V.ref t2)) → b = !bs.isEmpty → Ans (fun σ H Q => tVar 3 σ H fun x H' => ∃ k, TruV K x H' k ∧ Q k H') σ H1 b := fun e eb => ans_tru (val_var e) (Or.inr (Or.inl ⟨bs, SqT.of e1, eb⟩))
    by_cases hn : R = []
    · subst hn
      obtain rfl : bs = [] := List.length_eq_zero_iff.mp rw1.1
      refine st_guard (q := True) (a_or (b := true) (c := true) (ans_not (b := false) (tru rfl rfl)) (fun z => nomatch z)) (by simp) (fun _ => ?_) (fun z => absurd trivial z)
      exact hR 1 H1 cut (.one (Or.inl rfl)) s1
    obtain ⟨u0, ds, e0, h0, _⟩ := rw1.head hn
    refine st_guardX (t_or_no (ans_not (b := true) (tru rfl (by rw [e0]; rfl))) (eq_pair (y := (hh, hh + p)) (v_ixT (val_var rfl) val_c (SqT.of e1) (by rw [e0]; exact atI_head)) h0 (val_var rfl) (v_rI0 (g := fun i j => .int (i + j)) (val_var rfl) (val_var rfl)) fun H2 s2 => ?_))
    by_cases hf : R.headD (0, 0) = (hh, hh + p)
    · rw [if_pos (decide_eq_true hf)]
      exact hR 1 H2 cut (.one (Or.inr hf)) (s1.trans s2)
    rw [if_neg (by rw [decide_eq_true_eq]; exact hf)]
    have box := cut.box
    have tl : Tail hh p R := ⟨p1, cut.1, box, hn, hf⟩
    obtain ⟨ro, _, _⟩ := tl.spec
    have ls : (stepsOf p (runsOf hh p R)).length = (runsOf hh p R).length := by
      rw [ro.steps, stL_len]
    have lr : (runsOf hh p R).length ≤ 100001 := by
      unfold runsOf
      split
      · rw [List.length_append, List.length_dropLast, List.length_drop, List.length_map, List.length_singleton]
        omega
      · rw [List.length_map]
        omega
    have r1 := ro.ne
    refine st_letX ⟨_, rfl, _, rfl, _, rfl, t2, bs, R, hh, p, rfl, SqT.of (s2 _ _ e1), rw1.same s2, tl, by omega, fun l cs H3 e3 rw3 _ s3 => ?_⟩
    have s03 := s1.trans (s2.trans s3)
    have lc := rw3.1
    refine st_let (v := .int ((runsOf hh p R).length : Nat)) (v_cb (val_var (i := 4) rfl) fun Q q => ⟨l, cs, rfl, Or.inl (SqL.of e3), by rw [lc, ls]; exact q⟩) ?_
    refine st_seq (st_forR2 (lo := 1) (hi := ((runsOf hh p R).length : Nat)) (n := (runsOf hh p R).length - 1) val_c (val_var (i := 5) rfl) (by omega) (by omega) (by omega) (fun i σ H' => ∃ v6, σ = [some (.int hh), some (.int p), some (.ref t), some (.ref t2), some (.ref l), some (.int ((runsOf hh p R).length : Nat)), v6] ∧ Same H3 H' ∧ ∀ k, 1 ≤ k → k < 1 + i → sizeOk (stepsOf p (runsOf hh p R)) k = false) ⟨none, rfl, fun _ _ e => e, fun k a b => by omega⟩ ?_ ?_)
    · rintro i σ H4 hi ⟨v6, rfl, s4, no⟩
      refine g_name (st_ifX ?_)
      have nx : ∀ H5, Same H4 H5 → sizeOk (stepsOf p (runsOf hh p R)) (1 + i) = false → ∃ v6, [some (V.int hh), some (.int p), some (.ref t), some (.ref t2), some (.ref l), some (.int ((runsOf hh p R).length : Nat)), some (.int (1 + (i : Int)))] = [some (.int hh), some (.int p), some (.ref t), some (.ref t2), some (.ref l), some (.int ((runsOf hh p R).length : Nat)), v6] ∧ Same H3 H5 ∧ ∀ k, 1 ≤ k → k < 1 + (i + 1) → sizeOk (stepsOf p (runsOf hh p R)) k = false := fun H5 s5 z => ⟨_, rfl, s4.trans s5, fun k a b => by
        by_cases e : k = 1 + i
        · rw [e]; exact z
        · exact no k a (by omega)⟩
      have md := a_eq (σ := [some (V.int hh), some (.int p), some (.ref t), some (.ref t2), some (.ref l), some (.int ((runsOf hh p R).length : Nat)), some (.int (1 + (i : Int)))]) (H := H4) (v_rI (C := fun _ j => 0 < j) (g := fun i j => .int (i % j)) (val_var (i := 5) rfl) (val_var (i := 6) rfl) (by omega)) (val_c (v := .int 0))
      have cast : ((runsOf hh p R).length : Int) % (1 + (i : Int)) = (((runsOf hh p R).length % (1 + i) : Nat) : Int) := by
        rw [show (1 + (i : Int)) = ((1 + i : Nat) : Int) by omega]
        rfl
      by_cases c : (runsOf hh p R).length % (1 + i) = 0
      · rw [decide_eq_true (by rw [cast, c]; rfl)] at md
        refine t_and_yes md ?_
        have e4 := s4 _ _ e3
        have rw4 := rw3.same s4
        refine ⟨_, rfl, _, rfl, _, rfl, l, cs, rfl, SqL.of e4, fun q1 hq1 => ?_⟩
        have s5 := Same.new (o := .lst (cutV cs (some (1 + (i : Int))) none)) hq1
        refine ⟨_, rfl, _, rfl, _, rfl, _, _, rfl, rfl, _, rfl, l, cs, rfl, SqL.of (s5 _ _ e4), fun q2 hq2 => ?_⟩
        have s6 := Same.new (o := .lst (cutV cs none (some (((runsOf hh p R).length : Nat) - (1 + (i : Int)))))) hq2
        have c1 : cutV cs (some (1 + (i : Int))) none = cs.drop (1 + i) := by
          rw [show (1 + (i : Int)) = ((1 + i : Nat) : Int) by omega]
          exact cut_drop
        have c2 : cutV cs none (some (((runsOf hh p R).length : Nat) - (1 + (i : Int)))) = cs.take ((runsOf hh p R).length - (1 + i)) := by
          rw [show (((runsOf hh p R).length : Nat) - (1 + (i : Int)) : Int) = (((runsOf hh p R).length - (1 + i) : Nat) : Int) by omega]
          exact cut_take
        refine ⟨.list (prow ((stepsOf p (runsOf hh p R)).drop (1 + i))), .list (prow ((stepsOf p (runsOf hh p R)).take ((runsOf hh p R).length - (1 + i)))), .lst (SqL.of (s6 _ _ upd_same)) (by have := ((rw4.drop (1 + i)).same (s5.trans s6)).dp (K := K); rw [← c1] at this; exact this), .lst (SqL.of upd_same) (by have := ((rw4.take ((runsOf hh p R).length - (1 + i))).same (s5.trans s6)).dp (K := K); rw [← c2] at this; exact this), prow_shapedL _, prow_shapedL _, _, rfl, ?_⟩
        rw [PyData.eqv, prow_eqv]
        have ok : sizeOk (stepsOf p (runsOf hh p R)) (1 + i) = decide ((stepsOf p (runsOf hh p R)).drop (1 + i) = (stepsOf p (runsOf hh p R)).take ((runsOf hh p R).length - (1 + i))) := by
          unfold sizeOk
          rw [ls, decide_eq_true c, Bool.true_and]
        rw [← ok]
        cases eo : sizeOk (stepsOf p (runsOf hh p R)) (1 + i) with
        | true =>
          refine iteT ?_
          refine st_ret (v_rI (g := fun i j => .int (i / j)) (v_rI (g := fun i j => .int (i * j)) (val_var (i := 1) rfl) (val_var (i := 6) rfl) (Or.inr ⟨by omega, by omega⟩)) (val_var (i := 5) rfl) (wide_div (b := 40) (by omega) (by omega) (by decide) (by decide))) ?_
          have := hR (p * ((1 + i : Nat) : Int) / (runsOf hh p R).length) _ cut (.steps hn hf (by omega) (by omega) (Or.inr eo) fun k a b => no k a b) (s03.trans (s4.trans (s5.trans s6)))
          rw [show ((1 + i : Nat) : Int) = 1 + (i : Int) by omega] at this
          exact this
        | false =>
          refine iteF ?_
          exact nx _ (s5.trans s6) eo
      · rw [decide_eq_false (by rw [cast]; omega)] at md
        refine t_and_not md ?_
        refine iteF ?_
        exact nx H4 (fun _ _ e => e) (by unfold sizeOk; rw [ls, decide_eq_false c, Bool.false_and])
    · rintro σ H4 ⟨v6, rfl, s4, no⟩
      refine ⟨_, rfl, ?_⟩
      have := hR (p * ((runsOf hh p R).length : Int) / (runsOf hh p R).length) H4 cut (.steps hn hf r1 (Nat.le_refl _) (Or.inl rfl) fun k a b => no k a (by omega)) (s03.trans s4)
      rw [Int.mul_ediv_cancel _ (by omega)] at this
      exact this
end
end My

namespace My
open PySem L2
section
variable {K : PySem.W.Frag} {a : Addr} {xs : List V} {te : TE} {vs vs1 : List Nat} {σ : St} {H1 : Hp} {Q : VK} {i4 i5 : Nat}
/-- the edges of a row, one by one -/
theorem comp_edges (f : Int → Int) {R : List Iv} (hp : SqT K H1 a xs) (hr : Rw H1 xs R) (hz : R.length ≤ 400000)
    (hw : ∀ x, wipe ((wipe σ vs).set i4 (some x)) vs = wipe σ vs) (h4 : ∀ x, ((wipe σ vs).set i4 (some x))[i4]? = some (some x)) (hw1 : ∀ x y, wipe ((wipe ((wipe σ vs).set i4 (some x)) vs1).set i5 (some y)) vs1 = wipe ((wipe σ vs).set i4 (some x)) vs1)
    (hte : ∀ (x : V) (e : Int) H, Val te ((wipe ((wipe σ vs).set i4 (some x)) vs1).set i5 (some (.int e))) H (.int (f e)))
    (hd : ∀ D H', H1 D = none → H' D = some (.lst ((edges R).map fun e => V.int (f e))) → Same H1 H' → Q (.ref D) H') : tLc2 (iTup K (tC (.ref a))) (gName i4) tYes (iTup K (tVar i4)) (gName i5) tYes te vs vs1 σ H1 Q := by
  have lx := hr.1
  refine ⟨a, rfl, ⟨_, hp⟩, fun D hD => ?_⟩
  refine ⟨fun i m H => m = R.length - i ∧ i ≤ R.length ∧ H D = some (.lst ((edges (R.take i)).map fun e => V.int (f e))) ∧ Same H1 H, ⟨_, rfl, Nat.zero_le _, upd_same, Same.new hD⟩, ?_⟩
  rintro i m H ⟨rfl, hi, eD, sm⟩
  have q := sm.sqT hp
  by_cases hlt : i < R.length
  · obtain ⟨r, hR⟩ : ∃ r, R[i]? = some r := ⟨_, List.getElem?_eq_getElem hlt⟩
    obtain ⟨t, w1, w2⟩ := (hr.same sm).2 i r hR
    refine .inr ⟨⟨xs, .ref t, q, w1⟩, fun H' => H' D = some (.lst ((edges (R.take (i + 1))).map fun e => V.int (f e))) ∧ Same H1 H', fun H' p' => ⟨R.length - (i + 1), by omega, rfl, hlt, p'⟩, fun x H' y => ?_⟩
    obtain ⟨e, y⟩ := y
    subst e
    have e1 := y xs q
    rw [w1] at e1
    cases e1
    have ln : ((edges (R.take i)).map fun e => V.int (f e)).length ≤ 2 * i := by
      rw [List.length_map]
      unfold edges
      rw [List.length_flatMap]
      have : ∀ M : List Iv, (M.map fun a => [a.1, a.2].length).sum = 2 * M.length := fun M => by
        induction M with
        | nil => rfl
        | cons a r ih =>
          rw [List.map_cons, List.sum_cons, ih]
          simp only [List.length_cons, List.length_nil]
          omega
      rw [this, List.length_take]
      omega
    refine ⟨hw _, ⟨_, h4 _, t, rfl, ⟨_, SqT.of w2⟩, ?_⟩⟩
    refine ⟨fun j k H => k = 2 - j ∧ j ≤ 2 ∧ H D = some (.lst (((edges (R.take i)).map fun e => V.int (f e)) ++ [V.int (f r.1), V.int (f r.2)].take j)) ∧ Same H1 H, ⟨_, rfl, Nat.zero_le _, by rw [eD]; simp, sm⟩, ?_⟩
    rintro j k H2 ⟨rfl, hj, eD2, sm2⟩
    obtain ⟨t', w1', w2'⟩ := (hr.same sm2).2 i r hR
    rw [w1] at w1'
    cases w1'
    have qt := SqT.of (K := K) w2'
    by_cases hj2 : j < 2
    · have hx : [V.int r.1, V.int r.2][j]? = some (.int (if j = 0 then r.1 else r.2)) := by
        rcases j with _ | _ | j
        · rfl
        · rfl
        · omega
      refine .inr ⟨⟨_, _, qt, hx⟩, fun H' => H' D = some (.lst (((edges (R.take i)).map fun e => V.int (f e)) ++ [V.int (f r.1), V.int (f r.2)].take (j + 1))) ∧ Same H1 H', fun H' p' => ⟨2 - (j + 1), by omega, rfl, hj2, p'⟩, fun x H' y => ?_⟩
      obtain ⟨e, y⟩ := y
      subst e
      have e1 := y _ qt
      rw [hx] at e1
      cases e1
      refine ⟨hw1 _ _, hte _ _ _ _ ⟨_, eD2, ?_, ?_, fun b o e => ?_⟩⟩
      · rw [List.length_append, List.length_take]
        have : 1000000 ≤ sizeLine := by decide
        show _ + min j 2 < _
        omega
      · rw [upd_same]
        congr 2
        rcases j with _ | _ | j
        · simp
        · simp
        · omega
      · rw [upd_ne (ne_of_none e hD)]
        exact sm2 _ _ e
    · obtain rfl : j = 2 := by omega
      refine .inl ⟨⟨_, qt, Nat.le_refl _⟩, ?_, sm2⟩
      rw [eD2, take_snoc hR]
      unfold edges
      rw [List.flatMap_append, List.map_append]
      rfl
  · obtain rfl : i = R.length := by omega
    rw [List.take_length] at eD
    exact .inl ⟨⟨xs, q, by rw [lx]; exact Nat.le_refl _⟩, hd D H hD eD sm⟩
theorem ne_snoc {bs : List V} {v : V} : (!(bs ++ [v]).isEmpty) = true := by cases bs <;> rfl
theorem cut_last {xs : List Int} : cutV (xs.reverse.map V.int) (some (-1)) none = (xs.take 1).map V.int := by
  unfold cutV
  rcases xs with _ | ⟨x, r⟩
  · rfl
  · have e1 : HT.sIx ((x :: r).reverse.map V.int).length 0 (some (-1)) = r.length := by
      show (if (-1 : Int) < 0 then ((-1 : Int) + (((x :: r).reverse.map V.int).length : Nat)).toNat else min ((-1 : Int).toNat) ((x :: r).reverse.map V.int).length) = r.length
      rw [if_pos (by decide), List.length_map, List.length_reverse, List.length_cons]
      omega
    have e2 : HT.sIx ((x :: r).reverse.map V.int).length ((x :: r).reverse.map V.int).length none = r.length + 1 := by
      show ((x :: r).reverse.map V.int).length = _
      simp
    rw [e1, e2, List.reverse_cons, List.map_append]
    have : r.length = (r.reverse.map V.int).length := by simp
    rw [show r.length + 1 - r.length = 1 by omega]
    rw [List.drop_append_of_le_length (by rw [← this]; exact Nat.le_refl _), List.drop_of_length_le (by rw [← this]; exact Nat.le_refl _)]
    rfl
theorem lc2T {tl : TE} {g g1 : TG} {tt tt1 : TT} {wi1 : TI} (h : tl σ H1 fun v H2 => tLc2 (iTup K (tC v)) g tt wi1 g1 tt1 te vs vs1 σ H2 Q) : tLc2 (iTup K tl) g tt wi1 g1 tt1 te vs vs1 σ H1 Q := h
end
def headOf (N Th : List Iv) (p : Int) : Int := topE (trim (edges N).reverse ((edges Th).map fun e => e - p).reverse).1 (trim (edges N).reverse ((edges Th).map fun e => e - p).reverse).2
def spHead (K : PySem.W.Frag) : Sp := fun vs H Q _ => ∃ (t : Addr) (as : List V) (L : List Iv) (h p : Int), vs = [.int h, .int p, .ref t] ∧ SqT K H t as ∧ Rw H as L ∧ Tidy L ∧ L.length ≤ 100000 ∧ ∀ (N Th : List Iv) H', Cut L 0 h N → Cut L p (h + p) Th → Same H H' → Q (.int (headOf N Th p)) H'
section
variable {P : Program} {w : World} {K : PySem.W.Frag} {mg : Str → Option Value} {base : Heap} {a : Ad}
theorem G_least_head (T : Tx K mg a) : FnOk P w K mg base CX0 3 a.f_least_head a.d_least_head ["head", "period", "pairs"] (spHead K) := by
  refine T.F_least_head.ok sc_least_head (fun vs H Q E h => ?_) (fun cdv A outer s H vs Q E hr h => ?_)
  · obtain ⟨t, as, L, hh, p, rfl, _⟩ := h
    rfl
  · obtain ⟨t, as, L, hh, p, rfl, ht, hrw, td, hz, k⟩ := h
    refine ⟨_, (pss_cons (ps_setLc2 (i := 3) (own := [("pair", 4), ("edge", 5)]) (vs1 := [5]) (g := gName 4) (g1 := gName 5) (tt := tYes) (tt1 := tYes) (wi1 := iTup K (tVar 4)) rfl sc_least_head.nd rfl rfl (sw_true rfl rfl rfl (by decide +kernel)) (pi_tup (pe_call (G_clip T) (hr.mono (by decide)) rfl T.g_clip T.F_clip.kp T.b_clip .nil pass0 (pa_cons (pv 2) (pa_cons pe_int (pa_cons (pv 0) pa_nil))))) (blkOk_by (own := [("pair", 4), ("edge", 5)]) (N := ["head", "period", "pairs", "now", "pair", "edge", "then"]) (sc := defScope s_least_head) (by decide +kernel)) (by decide) (fun _ _ _ _ _ => (pg_name (i := 4) sc_least_head.nd rfl (Or.inl rfl))) (fun _ _ _ _ _ => pts_nil) (fun _ _ _ _ _ => (pi_tup (pv 4))) (fun _ _ _ _ _ => (pg_name (i := 5) sc_least_head.nd rfl (Or.inl rfl))) (fun _ _ _ _ _ => pts_nil) (fun _ _ _ _ _ => (pv 5)))
      (pss_cons (ps_setLc2 (i := 6) (own := [("pair", 4), ("edge", 5)]) (vs1 := [5]) (g := gName 4) (g1 := gName 5) (tt := tYes) (tt1 := tYes) (wi1 := iTup K (tVar 4)) rfl sc_least_head.nd rfl rfl (sw_true rfl rfl rfl (by decide +kernel)) (pi_tup (pe_call (G_clip T) (hr.mono (by decide)) rfl T.g_clip T.F_clip.kp T.b_clip .nil pass0 (pa_cons (pv 2) (pa_cons (pv 1) (pa_cons (pe_op op_add (pv 0) (pv 1)) pa_nil))))) (blkOk_by (own := [("pair", 4), ("edge", 5)]) (N := ["head", "period", "pairs", "now", "pair", "edge", "then"]) (sc := defScope s_least_head) (by decide +kernel)) (by decide) (fun _ _ _ _ _ => (pg_name (i := 4) sc_least_head.nd rfl (Or.inl rfl))) (fun _ _ _ _ _ => pts_nil) (fun _ _ _ _ _ => (pi_tup (pv 4))) (fun _ _ _ _ _ => (pg_name (i := 5) sc_least_head.nd rfl (Or.inl rfl))) (fun _ _ _ _ _ => pts_nil) (fun _ _ _ _ _ => (pe_op op_sub (pv 5) (pv 1))))
      (pss_cons (ps_while PassesOwn.never (PW.pt (pw_and (pt_truth (pv 3) (by intro _; rfl)) (pw_and (pt_truth (pv 6) (by intro _; rfl)) (pw_and1 (pt_cmpR op_eq (pe_ix ix_list (pv 3) (pe_un un_neg pe_int) (fun _ _ => rfl)) (pe_ix ix_list (pv 6) (pe_un un_neg pe_int) (fun _ _ => rfl)) (nomark _)))))) (pss_cons (ps_expr (pe_bm0 PySem.F.plainAttrs_list PySem.F.slot_list_pop PySem.F.type_list_pop mt_pop (pv 3)))
      (pss_one (ps_expr (pe_bm0 PySem.F.plainAttrs_list PySem.F.slot_list_pop PySem.F.type_list_pop mt_pop (pv 6))))))
      (pss_one (ps_ret (pe_callB (cr_max rfl) (by rfl) T.n_max (by decide +kernel) (pa_cons (pe_lst (pa_cons pe_int (StX.pa_star (pe_slice sl_list (pv 3) (po_some (pe_un un_neg pe_int)) po_none) (StX.pa_star (pe_slice sl_list (pv 6) (po_some (pe_un un_neg pe_int)) po_none) pa_nil)))) pa_nil))))))), ?_⟩
    refine st_letX (lc2T ⟨_, rfl, _, rfl, t, as, L, 0, hh, rfl, ht, hrw, td, by omega, fun t2 bs N H1 e1 rw1 cN le1 s1 => ?_⟩)
    refine comp_edges (fun e => e) (SqT.of e1) rw1 (by omega) (fun _ => rfl) (fun _ => rfl) (fun _ _ => rfl) (fun x e H => val_var rfl) fun l1 H2 hl1 e2 s2 => ?_
    have s02 := s1.trans s2
    refine st_letX (lc2T ⟨_, rfl, _, rfl, _, rfl, _, rfl, _, _, rfl, rfl, t, as, L, p, hh + p, rfl, s02.sqT ht, hrw.same s02, td, by omega, fun t3 cs Th H3 e3 rw3 cT le3 s3 => ?_⟩)
    refine comp_edges (fun e => e - p) (SqT.of e3) rw3 (by omega) (fun _ => rfl) (fun _ => rfl) (fun _ _ => rfl) (fun x e H => v_rI0 (g := fun i j => .int (i - j)) (val_var rfl) (val_var rfl)) fun l2 H4 hl2 e4 s4 => ?_
    have kk := k N Th
    have e2' := s4 _ _ (s3 _ _ e2)
    have n12 : l1 ≠ l2 := fun z => by rw [← z, s3 _ _ e2] at hl2; cases hl2
    have r1 : (edges N).map (fun e => V.int e) = ((edges N).reverse).reverse.map V.int := by rw [List.reverse_reverse]
    have r2 : (edges Th).map (fun e => V.int (e - p)) = (((edges Th).map fun e => e - p).reverse).reverse.map V.int := by rw [List.reverse_reverse, List.map_map]; rfl
    rw [r1] at e2'
    rw [r2] at e4
    have hd : headOf N Th p = topE (trim (edges N).reverse ((edges Th).map fun e => e - p).reverse).1 (trim (edges N).reverse ((edges Th).map fun e => e - p).reverse).2 := rfl
    rw [hd] at kk
    have s04 : Same H H4 := s02.trans (s3.trans s4)
    have f1 : H l1 = none := by
      cases e : H l1 with
      | none => rfl
      | some o => exact absurd (s1 _ _ e) (by rw [hl1]; exact fun z => nomatch z)
    have f2 : H l2 = none := by
      cases e : H l2 with
      | none => rfl
      | some o => exact absurd (s3 _ _ (s02 _ _ e)) (by rw [hl2]; exact fun z => nomatch z)
    have ln1 : (edges N).reverse.length ≤ 500000 := by
      rw [List.length_reverse]
      unfold edges
      rw [List.length_flatMap]
      have : ∀ M : List Iv, (M.map fun a => [a.1, a.2].length).sum = 2 * M.length := fun M => by
        induction M with
        | nil => rfl
        | cons a r ih =>
          rw [List.map_cons, List.sum_cons, ih]
          simp only [List.length_cons, List.length_nil]
          omega
      rw [this]
      omega
    generalize (edges N).reverse = ra at e2' kk ln1
    generalize ((edges Th).map fun e => e - p).reverse = rb at e4 kk
    clear e2 r1 r2 hd e1 rw1 e3 rw3
    refine st_seq (st_whileb (fun σ H' => ∃ (xa xb : List Int) (v4 v5 : Option V), σ = [some (.int hh), some (.int p), some (.ref t), some (.ref l1), v4, v5, some (.ref l2)] ∧ H' l1 = some (.lst (xa.reverse.map V.int)) ∧ H' l2 = some (.lst (xb.reverse.map V.int)) ∧ trim xa xb = trim ra rb ∧ Same H H' ∧ xa.length ≤ ra.length)
      (fun _ H' => match H' l1 with | some (.lst xs) => xs.length | _ => 0) ⟨ra, rb, _, _, rfl, e2', e4, rfl, s04, Nat.le_refl _⟩ ?_)
    rintro σ H5 ⟨xa, xb, v4, v5, rfl, q1, q2, q3, q4, q5⟩
    have lx : ∀ (xs : List Int) (x : Int), ((x :: xs).reverse.map V.int) = xs.reverse.map V.int ++ [.int x] := fun xs x => by simp
    have t1 : Ans (fun σ H Q => tVar 3 σ H fun x H' => ∃ k, TruV K x H' k ∧ Q k H') [some (.int hh), some (.int p), some (.ref t), some (.ref l1), v4, v5, some (.ref l2)] H5 (!(xa.reverse.map V.int).isEmpty) := ans_tru (val_var rfl) (Or.inl ⟨_, SqL.of q1, rfl⟩)
    have t2 : Ans (fun σ H Q => tVar 6 σ H fun x H' => ∃ k, TruV K x H' k ∧ Q k H') [some (.int hh), some (.int p), some (.ref t), some (.ref l1), v4, v5, some (.ref l2)] H5 (!(xb.reverse.map V.int).isEmpty) := ans_tru (val_var rfl) (Or.inl ⟨_, SqL.of q2, rfl⟩)
    have fin : trim xa xb = (xa, xb) → tRet (tCB (rMax K) (tCons (tLst (tCons (tC (V.int 0)) (StX.tStar K (tSl (rSlL K) (tVar 3) (tPart (tUn (rU fun i => V.int (-i)) (tC (V.int 1)))) tNoPart) (StX.tStar K (tSl (rSlL K) (tVar 6) (tPart (tUn (rU fun i => V.int (-i)) (tC (V.int 1)))) tNoPart) tNil)))) tNil)) { nx := fun x H' => Q V.non H', rt := Q } [some (.int hh), some (.int p), some (.ref t), some (.ref l1), v4, v5, some (.ref l2)] H5 := fun et => by
      rw [et] at q3
      rw [← q3] at kk
      refine st_ret1 ⟨_, rfl, _, rfl, _, rfl, l1, _, rfl, SqL.of q1, fun p1 hp1 => ⟨p1, _, rfl, Or.inr (SqL.of upd_same), ?_⟩⟩
      have s5 := Same.new (o := .lst (cutV (xa.reverse.map V.int) (some (-1)) none)) hp1
      refine ⟨_, rfl, _, rfl, _, rfl, l2, _, rfl, SqL.of (s5 _ _ q2), fun p2 hp2 => ⟨p2, _, rfl, Or.inr (SqL.of upd_same), ?_⟩⟩
      have s6 := Same.new (o := .lst (cutV (xb.reverse.map V.int) (some (-1)) none)) hp2
      have em : (V.int 0 :: (cutV (xa.reverse.map V.int) (some (-1)) none ++ (cutV (xb.reverse.map V.int) (some (-1)) none ++ []))) = (0 :: (xa.take 1 ++ xb.take 1)).map V.int := by
        rw [cut_last, cut_last]
        simp
      refine ⟨?_, fun p3 hp3 => ?_⟩
      · rw [em]
        simp
        have : 1000000 ≤ sizeLine := by decide
        omega
      · have s7 := Same.new (o := .lst (V.int 0 :: (cutV (xa.reverse.map V.int) (some (-1)) none ++ (cutV (xb.reverse.map V.int) (some (-1)) none ++ [])))) hp3
        refine ⟨p3, 0 :: (xa.take 1 ++ xb.take 1), rfl, by rw [← em]; exact SqL.of upd_same, by simp, fun m hm le => ?_⟩
        have e : m = topE xa xb := by
          unfold topE
          have l0 := le 0 (by simp)
          rcases xa with _ | ⟨x, xa⟩
          · rcases xb with _ | ⟨y, xb⟩
            · simp at hm; simp [hm]
            · have := le y (by simp)
              simp at hm
              simp
              omega
          · have := le x (by simp)
            rcases xb with _ | ⟨y, xb⟩
            · simp at hm
              simp
              omega
            · have := le y (by simp)
              simp at hm
              simp
              omega
        rw [e]
        exact kk _ cN cT (q4.trans (s5.trans (s6.trans s7)))
    rcases xa with _ | ⟨x, xa⟩
    · exact ⟨false, a_and (b := false) (c := true) t1 (fun z => nomatch z), (fun z => nomatch z), fun _ => fin (by simp [trim])⟩
    rcases xb with _ | ⟨y, xb⟩
    · refine ⟨false, ?_, (fun z => nomatch z), fun _ => fin (by simp [trim])⟩
      have t1' : Ans (fun σ H Q => tVar 3 σ H fun x H' => ∃ k, TruV K x H' k ∧ Q k H') [some (.int hh), some (.int p), some (.ref t), some (.ref l1), v4, v5, some (.ref l2)] H5 true := by
        rw [lx, ne_snoc] at t1
        exact t1
      exact a_and (b := true) (c := false) t1' fun _ => a_and (b := false) (c := true) t2 (fun z => nomatch z)
    rw [lx] at q1 q2
    rw [lx, ne_snoc] at t1 t2
    have t1' : Ans (fun σ H Q => tVar 3 σ H fun x H' => ∃ k, TruV K x H' k ∧ Q k H') [some (.int hh), some (.int p), some (.ref t), some (.ref l1), v4, v5, some (.ref l2)] H5 true := t1
    have t2' : Ans (fun σ H Q => tVar 6 σ H fun x H' => ∃ k, TruV K x H' k ∧ Q k H') [some (.int hh), some (.int p), some (.ref t), some (.ref l1), v4, v5, some (.ref l2)] H5 true := t2
    refine ⟨decide (x = y), a_and (b := true) (c := decide (x = y)) t1' fun _ => a_and (b := true) (c := decide (x = y)) t2' fun _ => a_eq (v_ixL (val_var rfl) (v_un (g := fun i => V.int (-i)) val_c) (SqL.of q1) atI_last) (v_ixL (val_var rfl) (v_un (g := fun i => V.int (-i)) val_c) (SqL.of q2) atI_last), fun e => ?_, fun e => ?_⟩
    · obtain rfl := of_decide_eq_true e
      have et : trim (x :: xa) (x :: xb) = trim xa xb := by rw [trim, if_pos rfl]
      refine st_do ⟨_, rfl, tyL q1, l1, _, .int x, rfl, rfl, q1, by simp, ?_⟩
      refine ⟨_, rfl, tyL ((upd_ne n12.symm).trans q2), l2, _, .int x, rfl, rfl, (upd_ne n12.symm).trans q2, by simp, ?_⟩
      rw [List.dropLast_concat, List.dropLast_concat]
      refine ⟨⟨xa, xb, v4, v5, rfl, (upd_ne n12).trans upd_same, upd_same, by rw [← et]; exact q3, fun b o e => ?_, by simp at q5; omega⟩, ?_⟩
      · rw [upd_ne (ne_of_none e f2), upd_ne (ne_of_none e f1)]
        exact q4 _ _ e
      · rw [show (upd (upd H5 l1 (.lst (xa.reverse.map V.int))) l2 (.lst (xb.reverse.map V.int))) l1 = some (.lst (xa.reverse.map V.int)) from (upd_ne n12).trans upd_same, q1]
        simp
    · have ne := of_decide_eq_false e
      refine fin ?_
      rw [trim, if_neg ne]
end
end My

namespace My
open PySem L2
/-- the fields of a Form -/
def ffm (h q : Int) (s : Addr) : List (Str × V) := putF "stretches" (.ref s) (putF "head" (.int h) (putF "period" (.int q) []))
theorem Rw.but {H H' : Hp} {as : List V} {L : List Iv} {x : Addr} {o : HO} (h : Rw H as L) (b : But x H H') (hx : H x = some o) (no : ∀ xs, o ≠ .tup xs) : Rw H' as L := ⟨h.1, fun i a e => let ⟨t, y, z⟩ := h.2 i a e; ⟨t, y, b _ _ z fun q => by rw [q, hx] at z; exact no _ (Option.some.inj z)⟩⟩
theorem ext_cut {h p : Int} {L U : List Iv} (h0 : 0 ≤ h) (p1 : 1 ≤ p) (e : ∀ t, inL U t = true ↔ inL L t = true ∧ 0 ≤ t ∧ t < h + p) {t : Int} (ht : 0 ≤ t) : ext h p (fun t => inL U t = true) t ↔ ext h p (fun t => inL L t = true) t := by
  unfold ext
  show inL U _ = true ↔ inL L _ = true
  rw [e]
  refine ⟨fun z => z.1, fun z => ⟨z, ?_⟩⟩
  have r0 := Int.emod_nonneg (t - h) (show p ≠ 0 by omega)
  have r1 := Int.emod_lt_of_pos (t - h) (show 0 < p by omega)
  split <;> omega
def spForm (a : Ad) (K : PySem.W.Frag) : Sp := fun vs H Q _ => ∃ (x dx m : Addr) (as : List V) (L : List Iv) (h p : Int), vs = [.ref x, .int h, .int p, .ref m] ∧ H x = some (.ins a.c_Form dx []) ∧ SqA K H m as ∧ RwA K H as L ∧ 0 ≤ h ∧ 1 ≤ p ∧ L.length ≤ 100000 ∧
  ∀ (hd q : Int) (S : List Iv) (s : Addr) (bs : List V) H', Canon (ext h p fun t => inL L t = true) hd q S → H' x = some (.ins a.c_Form dx (ffm hd q s)) → H' s = some (.tup bs) → Rw H' bs S → S.length ≤ L.length → But x H H' → Q .non H'
section
variable {P : Program} {w : World} {K : PySem.W.Frag} {mg : Str → Option Value} {base : Heap} {a : Ad}
theorem G_Form_init (T : Tx K mg a) : FnOk P w K mg base CX0 4 a.f_Form_init a.d_Form_init ["self", "head", "period", "pairs"] (spForm a K) := by
  refine T.F_Form_init.ok sc_Form_init (fun vs H Q E h => ?_) (fun cdv A outer s H vs Q E hr h => ?_)
  · obtain ⟨x, dx, m, as, L, hh, p, rfl, _⟩ := h
    rfl
  · obtain ⟨x, dx, m, as, L, hh, p, rfl, hx, hm, hrw, h0, p1, hz, k⟩ := h
    refine ⟨_, (pss_cons (ps_set (i := 4) sc_Form_init.nd rfl (Or.inl rfl) (pe_call (G_clip T) (hr.mono (by decide)) rfl T.g_clip T.F_clip.kp T.b_clip .nil pass0 (pa_cons (pe_call (G_tidy T) (hr.mono (by decide)) rfl T.g_tidy T.F_tidy.kp T.b_tidy .nil pass0 (pa_cons (pv 3) pa_nil)) (pa_cons pe_int (pa_cons (pe_op op_add (pv 1) (pv 2)) pa_nil)))))
      (pss_cons (ps_fld (pv 0) (pe_call (G_least_period T) (hr.mono (by decide)) rfl T.g_least_period T.F_least_period.kp T.b_least_period .nil pass0 (pa_cons (pv 1) (pa_cons (pv 2) (pa_cons (pv 4) pa_nil)))) rfl)
      (pss_cons (ps_set (i := 4) sc_Form_init.nd rfl (Or.inl rfl) (pe_call (G_clip T) (hr.mono (by decide)) rfl T.g_clip T.F_clip.kp T.b_clip .nil pass0 (pa_cons (pv 4) (pa_cons pe_int (pa_cons (pe_op op_add (pv 1) (pe_fld (pv 0) rfl)) pa_nil)))))
      (pss_cons (ps_fld (pv 0) (pe_call (G_least_head T) (hr.mono (by decide)) rfl T.g_least_head T.F_least_head.kp T.b_least_head .nil pass0 (pa_cons (pv 1) (pa_cons (pe_fld (pv 0) rfl) (pa_cons (pv 4) pa_nil)))) rfl)
      (pss_one (ps_fld (pv 0) (pe_call (G_clip T) (hr.mono (by decide)) rfl T.g_clip T.F_clip.kp T.b_clip .nil pass0 (pa_cons (pv 4) (pa_cons pe_int (pa_cons (pe_op op_add (pe_fld (pv 0) rfl) (pe_fld (pv 0) rfl)) pa_nil)))) rfl)))))), ?_⟩
    refine st_letX ⟨_, rfl, m, as, L, rfl, hm, hrw, hz, fun t1 bs1 M H1 e1 rw1 tm im lm s1 => ⟨_, rfl, _, rfl, _, _, rfl, rfl, t1, bs1, M, 0, hh + p, rfl, SqT.of e1, rw1, tm, by omega, fun t2 bs2 U H2 e2 rw2 cU lU s2 => ?_⟩⟩
    have s12 := s1.trans s2
    clear e1 rw1 tm s1 s2
    have bU := cU.box
    refine st_mkH (PV := fun y H' => ∃ (q : Int) (R : List Iv), y = .int q ∧ Cut U hh (hh + p) R ∧ LeastP hh p R q ∧ Same H2 H') (fun Q q => ⟨_, rfl, _, rfl, _, rfl, t2, bs2, U, hh, p, rfl, SqT.of e2, rw2, cU.1, p1, by omega, fun R qq H3 cR lq s3 => q _ _ ⟨qq, R, rfl, cR, lq, s3⟩⟩) (fun _ => val_var rfl) (fun y H' z => let ⟨_, _, _, _, _, s⟩ := z; s _ _ (s12 _ _ hx)) T.cl_Form T.no_Form_period (by show 0 < 1000; decide) ?_
    rintro _ H3 H4 ⟨q, R, rfl, cR, lq, s3⟩ x4 b4
    obtain ⟨_, q1, qp, _⟩ := lq.spec p1 cR.1 cR.box
    have hx3 := s3 _ _ (s12 _ _ hx)
    have e4 := b4 _ _ (s3 _ _ e2) (ne_of (s3 _ _ e2) hx3 (by intro z; cases z))
    have rw4 := (rw2.same s3).but b4 hx3 (by intro xs z; cases z)
    have b04 : But x H H4 := But.same (s12.trans s3) b4
    refine st_letX ⟨_, rfl, _, rfl, _, rfl, x, _, dx, _, _, rfl, x4, T.cl_Form, T.no_Form_period, (by kernel_rfl : List.lookup _ _ = some (V.int q)), _, _, rfl, rfl, t2, bs2, U, 0, hh + q, rfl, SqT.of e4, rw4, cU.1, by omega, fun t5 bs5 W H5 e5 rw5 cW lW s5 => ?_⟩
    have x5 := s5 _ _ x4
    refine st_mkH (PV := fun y H' => ∃ (N Th : List Iv), y = .int (headOf N Th q) ∧ Cut W 0 hh N ∧ Cut W q (hh + q) Th ∧ Same H5 H') (fun Q qq => ⟨_, rfl, _, rfl, x, _, dx, _, _, rfl, x5, T.cl_Form, T.no_Form_period, (by kernel_rfl : List.lookup _ _ = some (V.int q)), _, rfl, t5, bs5, W, hh, q, rfl, SqT.of e5, rw5, cW.1, by omega, fun N Th H6 cN cT s6 => qq _ _ ⟨N, Th, rfl, cN, cT, s6⟩⟩) (fun _ => val_var rfl) (fun y H' z => let ⟨_, _, _, _, _, s⟩ := z; s _ _ x5) T.cl_Form T.no_Form_head (by show 1 < 1000; decide) ?_
    rintro _ H6 H7 ⟨N, Th, rfl, cN, cT, s6⟩ x7 b7
    have x6 := s6 _ _ x5
    have e7 := b7 _ _ (s6 _ _ e5) (ne_of (s6 _ _ e5) x6 (by intro z; cases z))
    have rw7 := (rw5.same s6).but b7 x6 (by intro xs z; cases z)
    have b07 : But x H H7 := (b04.thenS (s5.trans s6)).trans b7
    refine ⟨_, rfl, _, rfl, x, _, dx, _, _, rfl, x7, T.cl_Form, T.no_Form_head, (by kernel_rfl : List.lookup _ _ = some (V.int (headOf N Th q))), _, rfl, x, _, dx, _, _, rfl, x7, T.cl_Form, T.no_Form_period, (by kernel_rfl : List.lookup _ _ = some (V.int q)), _, _, rfl, rfl, t5, bs5, W, 0, headOf N Th q + q, rfl, SqT.of e7, rw7, cW.1, by omega, fun t8 bs8 S H8 e8 rw8 cS lS s8 => ?_⟩
    have x8 := s8 _ _ x7
    refine ⟨_, rfl, x, _, dx, _, rfl, x8, T.cl_Form, T.no_Form_stretches, by show 2 < 1000; decide, ?_⟩
    have can := form_canon h0 p1 cU.1 bU cR lq cW cN cT (L := S) (fun m e => by rw [e]; exact cS)
    have b9 : But x H8 (upd H8 x (.ins a.c_Form dx (ffm (headOf N Th q) q t8))) := (But.refl x H8).upd
    refine k (headOf N Th q) q S t8 bs8 _ (can.congr fun t ht => ?_) upd_same (b9 _ _ e8 (ne_of e8 x8 (by intro z; cases z))) (rw8.but b9 x8 (by intro xs z; cases z)) (by omega) ((b07.thenS s8).trans b9)
    refine ext_cut h0 p1 (fun u => ?_) ht
    rw [cU.2 u, im u]
end
end My

namespace My
open PySem L2
/-- the fields of a Pattern -/
def pf4 (h q : Int) (s u : Addr) : List (Str × V) := putF "_sums" (.ref u) (putF "stretches" (.ref s) (putF "period" (.int q) (putF "head" (.int h) [])))
def pfs (h q : Int) (s u : Addr) (fr : Int) : List (Str × V) := putF "_front" (.int fr) (pf4 h q s u)
def PatAt (a : Ad) (H : Hp) (x : Addr) (h q : Int) (S : List Iv) : Prop := ∃ (dx s : Addr) (bs : List V) (u : Addr), H x = some (.ins a.c_Pattern dx (pfs h q s u (nearOf S h))) ∧ H s = some (.tup bs) ∧ Rw H bs S ∧ H u = some (.tup ((sumsOf S).map V.int)) ∧ Tidy S ∧ S.length ≤ 5000
theorem PatAt.same {a : Ad} {H H' : Hp} {x : Addr} {h q : Int} {S : List Iv} (c : PatAt a H x h q S) (s : Same H H') : PatAt a H' x h q S := let ⟨dx, t, bs, u, e1, e2, e3, e4, e5, e6⟩ := c; ⟨dx, t, bs, u, s _ _ e1, s _ _ e2, e3.same s, s _ _ e4, e5, e6⟩
def spNear (a : Ad) (K : PySem.W.Frag) : Sp := fun vs H Q _ => ∃ (x dx s u : Addr) (fs : List (Str × V)) (bs : List V) (S : List Iv) (m : Int), vs = [.ref x, .int m] ∧ H x = some (.ins a.c_Pattern dx fs) ∧ fs.lookup ("stretches" : Str) = some (.ref s) ∧ fs.lookup ("_sums" : Str) = some (.ref u) ∧ H s = some (.tup bs) ∧ Rw H bs S ∧ H u = some (.tup ((sumsOf S).map V.int)) ∧ Tidy S ∧ S.length ≤ 100000 ∧ Q (.int (nearOf S m)) H
section
variable {P : Program} {w : World} {K : PySem.W.Frag} {mg : Str → Option Value} {base : Heap} {a : Ad}
theorem G_Pattern_near (T : Tx K mg a) : FnOk P w K mg base CX0 2 a.f_Pattern_near a.d_Pattern_near ["self", "minute"] (spNear a K) := by
  refine T.F_Pattern_near.ok sc_Pattern_near (fun vs H Q E h => ?_) (fun cdv A outer s H vs Q E hr h => ?_)
  · obtain ⟨x, dx, s, u, fs, bs, S, m, rfl, _⟩ := h
    rfl
  · obtain ⟨x, dx, t, u, fs, bs, S, m, rfl, hx, f1, f2, ht, hrw, hu, td, hz, k⟩ := h
    refine ⟨_, (pss_cons (ps_set (i := 2) sc_Pattern_near.nd rfl (Or.inl rfl) (pe_call (G_starts_below T) (hr.mono (by decide)) rfl T.g_starts_below T.F_starts_below.kp T.b_starts_below .nil pass0 (pa_cons (pe_fld (pv 0) rfl) (pa_cons (pv 1) pa_nil))))
      (pss_cons (ps_if (pt_cmpR op_eq (pv 2) pe_int (nomark _)) (pss_one (ps_ret pe_int)) pss_nil)
      (pss_cons (ps_asg (pe_ix ix_tup (pe_fld (pv 0) rfl) (pe_op op_sub (pv 2) pe_int) (fun _ _ => rfl)) (pg_tup rfl (pgs_cons (pg_name (i := 3) sc_Pattern_near.nd rfl (Or.inl rfl)) (pgs_cons (pg_name (i := 4) sc_Pattern_near.nd rfl (Or.inl rfl)) pgs_nil))))
      (pss_one (ps_ret (pe_op op_sub (pe_op op_add (pe_ix ix_tup (pe_fld (pv 0) rfl) (pe_op op_sub (pv 2) pe_int) (fun _ _ => rfl)) (pe_callB (call_min2 rfl) (by rfl) T.n_min (by decide +kernel) (pa_cons (pv 1) (pa_cons (pv 4) pa_nil)))) (pv 3))))))), ?_⟩
    have v1 : ∀ {σ : St}, σ[0]? = some (some (V.ref x)) → Val (tFld K (tVar 0) "stretches") σ H (.ref t) := fun e => val_fld (val_var e) hx T.cl_Pattern T.no_Pattern_stretches f1
    have v2 : ∀ {σ : St}, σ[0]? = some (some (V.ref x)) → Val (tFld K (tVar 0) "_sums") σ H (.ref u) := fun e => val_fld (val_var e) hx T.cl_Pattern T.no_Pattern__sums f2
    refine st_let (v_call2 (v1 rfl) (val_var rfl) fun Q q => ⟨t, bs, S, m, rfl, SqT.of ht, hrw, td, by omega, q⟩) ?_
    refine st_guard (q := below S m = 0) (a_eq (val_var (i := 2) rfl) val_c) (by simp) (fun c => ?_) fun c => ?_
    · have e : nearOf S m = 0 := by unfold nearOf; rw [c]
      rw [e] at k
      exact k
    obtain ⟨b, hb⟩ : ∃ b, below S m = b + 1 := ⟨below S m - 1, by omega⟩
    have bl := below_le (L := S) (m := m)
    obtain ⟨z, hz2⟩ : ∃ z, S[b]? = some z := ⟨_, List.getElem?_eq_getElem (by omega)⟩
    obtain ⟨r, w1, w2⟩ := hrw.2 b z hz2
    have en : nearOf S m = tot (S.take b) + min m z.2 - z.1 := by
      unfold nearOf
      rw [hb]
      show tot (S.take b) + min m (S.getD b (0, 0)).2 - (S.getD b (0, 0)).1 = _
      rw [List.getD_eq_getElem?_getD, hz2]
      rfl
    rw [en] at k
    have ix : ∀ {σ : St} {H : Hp}, σ[2]? = some (some (V.int (below S m : Nat))) → Val (tOp (rI0 fun i j => V.int (i - j)) (tVar 2) (tC (V.int 1))) σ H (.int (b : Nat)) := fun {σ H} e => by
      have := v_rI0 (H := H) (g := fun i j => .int (i - j)) (val_var e) (val_c (v := .int 1))
      rw [show ((below S m : Nat) : Int) - 1 = (b : Nat) by omega] at this
      exact this
    refine st_seq ?_
    refine v_ixT (v1 rfl) (ix rfl) (SqT.of ht) (at_of (j := b) rfl w1) _ ?_
    refine g_pair w2 ?_
    refine st_ret (v_rI0 (g := fun i j => .int (i - j)) (v_rI0 (g := fun i j => .int (i + j)) (v_ixT (v2 rfl) (ix rfl) (SqT.of hu) (at_of (j := b) rfl (by rw [List.getElem?_map, sums_get (by omega)]; rfl))) (v_min (val_var rfl) (val_var rfl))) (val_var rfl)) k
/-- what Pattern(h, p, L) tells -/
def PatRes (a : Ad) (E : XK) (H : Hp) (h p : Int) (L : List Iv) (Q : Hp → Int → Int → List Iv → Prop) : Prop :=
  (¬ (0 ≤ h ∧ h ≤ 10 ^ 12) → Out a E H "head" h) ∧ ((0 ≤ h ∧ h ≤ 10 ^ 12) → ¬ (1 ≤ p ∧ p ≤ 10 ^ 12) → Out a E H "period" p) ∧
  ((0 ≤ h ∧ h ≤ 10 ^ 12) → (1 ≤ p ∧ p ≤ 10 ^ 12) → 5000 < L.length → OutM a E H "stretches" L.length) ∧
  ((0 ≤ h ∧ h ≤ 10 ^ 12) → (1 ≤ p ∧ p ≤ 10 ^ 12) → L.length ≤ 5000 → ∀ (i : Nat) (b : Iv), L[i]? = some b → ¬ (0 ≤ b.1 ∧ b.1 < b.2 ∧ b.2 ≤ h + p) → (∀ (j : Nat) b', j < i → L[j]? = some b' → 0 ≤ b'.1 ∧ b'.1 < b'.2 ∧ b'.2 ≤ h + p) → OutB a E H i) ∧
  ((0 ≤ h ∧ h ≤ 10 ^ 12) → (1 ≤ p ∧ p ≤ 10 ^ 12) → L.length ≤ 5000 → (∀ b ∈ L, 0 ≤ b.1 ∧ b.1 < b.2 ∧ b.2 ≤ h + p) → ∀ hd q S H', Canon (ext h p fun t => inL L t = true) hd q S → Q H' hd q S)
def spPat (a : Ad) (K : PySem.W.Frag) : Sp := fun vs H Q E => ∃ (x dx m : Addr) (as : List V) (L : List Iv) (h p : Int), vs = [.ref x, .int h, .int p, .ref m] ∧ H x = some (.ins a.c_Pattern dx []) ∧ SqA K H m as ∧ RwA K H as L ∧ L.length ≤ 100000 ∧
  PatRes a E H h p L fun H' hd q S => PatAt a H' x hd q S → But x H H' → Q .non H'
theorem G_Pattern_init (T : Tx K mg a) : FnOk P w K mg base (L2.CX P w) 6 a.f_Pattern_init a.d_Pattern_init ["self", "head", "period", "stretches"] (spPat a K) := by
  refine T.F_Pattern_init.okX sc_Pattern_init (fun vs H Q E h => ?_) (fun cdv A outer s H vs Q E hr h => ?_)
  · obtain ⟨x, dx, m, as, L, hh, p, rfl, _⟩ := h
    rfl
  · obtain ⟨x, dx, m, as, L, hh, p, rfl, hx, hm, hrw, hz, k1, k2, k3, k4, k5⟩ := h
    refine ⟨_, (pss_cons (ps_expr (pe_call (G_in_range T) (hr.mono (by decide)) rfl T.g_in_range T.F_in_range.kp T.b_in_range .nil (passes_call (takes_of rfl rfl rfl rfl) (fun _ _ _ _ h => h)) (pa_cons pe_str (pa_cons (pv 1) (pa_cons pe_int (pa_cons (pe_glob (v := .int (10 ^ 12)) rfl T.g_LONG.choose_spec ⟨_, rfl⟩) pa_nil))))))
      (pss_cons (ps_expr (pe_call (G_in_range T) (hr.mono (by decide)) rfl T.g_in_range T.F_in_range.kp T.b_in_range .nil (passes_call (takes_of rfl rfl rfl rfl) (fun _ _ _ _ h => h)) (pa_cons pe_str (pa_cons (pv 2) (pa_cons pe_int (pa_cons (pe_glob (v := .int (10 ^ 12)) rfl T.g_LONG.choose_spec ⟨_, rfl⟩) pa_nil))))))
      (pss_cons (ps_if (pt_cmpR op_gt (pe_callB call_len_seq (by rfl) T.n_len (by decide +kernel) (pa_cons (pv 3) pa_nil)) (pe_glob (v := .int 5000) rfl T.g_MOST_STRETCHES.choose_spec ⟨_, rfl⟩) (nomark _)) (pss_one (ps_raise rfl (takes_of rfl rfl rfl rfl) (pmk_oex T.ox_TooMany T.i_TooMany T.t_TooMany (G_TooMany_init T) (hr.mono (by decide)) T.b_TooMany_init .nil pass0 rfl T.g_TooMany (pa_cons pe_str (pa_cons (pe_callB call_len_seq (by rfl) T.n_len (by decide +kernel) (pa_cons (pv 3) pa_nil)) pa_nil))))) pss_nil)
      (pss_cons (ps_for (passes_of rfl) rfl (pi_enumA (by rfl) T.n_enumerate (pa_cons (pv 3) pa_nil)) (pg_tup rfl (pgs_cons (pg_name (i := 4) sc_Pattern_init.nd rfl (Or.inl rfl)) (pgs_cons (pg_alt (pg_tup rfl (pgs_cons (pg_name (i := 5) sc_Pattern_init.nd rfl (Or.inl rfl)) (pgs_cons (pg_name (i := 6) sc_Pattern_init.nd rfl (Or.inl rfl)) pgs_nil))) (pg_lst rfl (pgs_cons (pg_name (i := 5) sc_Pattern_init.nd rfl (Or.inl rfl)) (pgs_cons (pg_name (i := 6) sc_Pattern_init.nd rfl (Or.inl rfl)) pgs_nil)))) pgs_nil))) (pss_one (ps_if (pt_not (pt_chain3 op_le op_lt op_le pe_int (pv 5) (pv 6) (pe_op op_add (pv 1) (pv 2)))) (pss_one (ps_raise rfl (takes_of rfl rfl rfl rfl) (pmk_oex T.ox_BadStretch T.i_BadStretch T.t_BadStretch (G_BadStretch_init T) (hr.mono (by decide)) T.b_BadStretch_init .nil pass0 rfl T.g_BadStretch (pa_cons (pv 4) pa_nil)))) pss_nil)))
      (pss_cons (ps_set (i := 7) sc_Pattern_init.nd rfl (Or.inl rfl) (pe_make T.M_Form (G_Form_init T) (hr.mono (by decide)) rfl T.g_Form T.b_Form_init .nil pass0 (pa_cons (pv 1) (pa_cons (pv 2) (pa_cons (pv 3) pa_nil)))))
      (pss_cons (ps_fld (pv 0) (pe_fld (pv 7) rfl) rfl)
      (pss_cons (ps_fld (pv 0) (pe_fld (pv 7) rfl) rfl)
      (pss_cons (ps_fld (pv 0) (pe_fld (pv 7) rfl) rfl)
      (pss_cons (ps_set (i := 8) sc_Pattern_init.nd rfl (Or.inl rfl) (pe_lst (pa_cons pe_int pa_nil)))
      (pss_cons (ps_for (passes_of rfl) rfl (pi_tup (pe_fld (pv 7) rfl)) (pg_alt (pg_tup rfl (pgs_cons (pg_name (i := 5) sc_Pattern_init.nd rfl (Or.inl rfl)) (pgs_cons (pg_name (i := 6) sc_Pattern_init.nd rfl (Or.inl rfl)) pgs_nil))) (pg_lst rfl (pgs_cons (pg_name (i := 5) sc_Pattern_init.nd rfl (Or.inl rfl)) (pgs_cons (pg_name (i := 6) sc_Pattern_init.nd rfl (Or.inl rfl)) pgs_nil)))) (pss_one (ps_expr (pe_bm PySem.F.plainAttrs_list PySem.F.slot_list_append PySem.F.type_list_append mt_append (pv 8) (pa_cons (pe_op op_sub (pe_op op_add (pe_ix ix_list (pv 8) (pe_un un_neg pe_int) (fun _ _ => rfl)) (pv 6)) (pv 5)) pa_nil)))))
      (pss_cons (ps_fld (pv 0) (pe_callTy call_tuple_of (by rfl) T.n_tuple (by decide +kernel) (pa_cons (pv 8) pa_nil)) rfl)
      (pss_one (ps_fld (pv 0) (pe_meth (pv 0) T.cl_Pattern T.m_Pattern_near (G_Pattern_near T) (hr.mono (by decide)) T.b_Pattern_near .nil pass0 (pa_cons (pe_fld (pv 7) rfl) pa_nil)) rfl))))))))))))), ?_⟩
    have la := hrw.1
    refine st_do ⟨_, rfl, "head", hh, 0, 10 ^ 12, rfl, fun c1 => ?_, k1⟩
    refine st_do ⟨_, rfl, "period", p, 1, 10 ^ 12, rfl, fun c2 => ?_, k2 c1⟩
    have vl : ∀ {σ : St}, σ[3]? = some (some (V.ref m)) → Val (tCB (fun xs H_1 Q => ∃ p ys, xs = [V.ref p] ∧ (SqL K H_1 p ys ∨ SqT K H_1 p ys) ∧ Q (V.int ↑ys.length) H_1) (tCons (tVar 3) tNil)) σ H (.int (L.length : Nat)) := fun e => v_cb (val_var e) fun Q q => ⟨m, as, rfl, hm, by rw [la]; exact q⟩
    refine st_guard (q := 5000 < L.length) (a_cmp (f := fun i j => decide (j < i)) (vl rfl) val_c) (by simp; omega) (fun c => ?_) fun c => ?_
    · exact mkO2 val_c (vl rfl) (x2_made (k3 c1 c2 c))
    have k4 := k4 c1 c2 (by omega)
    have k5 := k5 c1 c2 (by omega)
    refine st_seq (st_forEA' (a := m) (xs := as) (fun R q => ⟨_, rfl, q⟩) hm (fun i σ' H' => ∃ v4 v5 v6, σ' = [some (.ref x), some (.int hh), some (.int p), some (.ref m), v4, v5, v6, none, none] ∧ Same H H' ∧ ∀ (j : Nat) b', j < i → L[j]? = some b' → 0 ≤ b'.1 ∧ b'.1 < b'.2 ∧ b'.2 ≤ hh + p) ⟨none, none, none, rfl, Same.refl H, fun j b' z => by omega⟩ (fun i σ' H' z => let ⟨_, _, _, _, s, _⟩ := z; s) ?_ ?_)
    · rintro i y T σ H' hy ⟨v4, v5, v6, rfl, s1, ok⟩ hT
      have hi : i < L.length := by rw [← la]; exact (List.getElem?_eq_some_iff.mp hy).1
      obtain ⟨b, hb⟩ : ∃ b, L[i]? = some b := ⟨_, List.getElem?_eq_getElem hi⟩
      obtain ⟨t, w1, w2⟩ := hrw.2 i b hb
      rw [hy] at w1
      cases w1
      have sT := Same.new (o := .tup [V.int (i : Nat), V.ref t]) hT
      have s2 := s1.trans sT
      refine ⟨T, _, rfl, SqT.of upd_same, rfl, _, _, rfl, _, _, rfl, g_pairA rfl (sT.sqA (s1.sqA w2)) ⟨rfl, ?_⟩⟩
      refine st_ifp (q := ¬ (0 ≤ b.1 ∧ b.1 < b.2 ∧ b.2 ≤ hh + p)) (ans_not (a_val (v_chain3 (f := fun i j => decide (i ≤ j)) (g := fun i j => decide (i < j)) (h := fun i j => decide (i ≤ j)) val_c (val_var (i := 5) rfl) (val_var (i := 6) rfl) (v_rI0 (g := fun i j => .int (i + j)) (val_var (i := 1) rfl) (val_var (i := 2) rfl))))) (by simp; omega) (fun c => ?_) fun c => ?_
      · exact mkO1 (val_var rfl) (x1_made fun d H2 e s => k4 i b hb c ok d H2 e (s2.trans s))
      · refine ⟨_, _, _, rfl, s2, fun j b' hj hb' => ?_⟩
        by_cases e : j = i
        · subst e
          rw [hb] at hb'
          cases hb'
          exact Classical.not_not.mp c
        · exact ok j b' (by omega) hb'
    rintro σ' H1 ⟨v4, v5, v6, rfl, s1, ok⟩
    rw [la] at ok
    have all : ∀ b ∈ L, 0 ≤ b.1 ∧ b.1 < b.2 ∧ b.2 ≤ hh + p := fun b hb => by
      obtain ⟨j, hj⟩ := List.mem_iff_getElem?.mp hb
      exact ok j b (List.getElem?_eq_some_iff.mp hj).1 hj
    have k5 := k5 all
    have x1 := s1 _ _ hx
    dsimp only
    refine st_letX ⟨_, rfl, _, rfl, _, rfl, fun y dy hy hdy nyd => ⟨y, dy, m, as, L, hh, p, rfl, upd_same, ?_, ?_, by omega, by omega, by omega, fun hd q S st bs H2 can ey est rws lS b2 => ⟨rfl, ?_⟩⟩⟩
    case refine_1 => exact ((Same.new hdy).trans (Same.new ((upd_ne nyd.symm).trans hy))).sqA (s1.sqA hm)
    case refine_2 => exact hrw.same (s1.trans ((Same.new hdy).trans (Same.new ((upd_ne nyd.symm).trans hy))))
    have s2 : Same H1 H2 := fun b o e => b2 _ _ ((upd_ne (ne_of_none e hy)).trans ((upd_ne (ne_of_none e hdy)).trans e)) (ne_of_none e hy)
    have x2 := s2 _ _ x1
    have nyx : y ≠ x := (ne_of_none x1 hy).symm
    have td := can.td
    have fy : ∀ {H' : Hp} {σ : St} {f : Str} {v : V}, H' y = some (.ins a.c_Form dy (ffm hd q st)) → σ[7]? = some (some (V.ref y)) → NoAttr K a.c_Form f → (ffm hd q st).lookup f = some v → Val (tFld K (tVar 7) f) σ H' v := fun e1 e2 n l => val_fld (val_var e2) e1 T.cl_Form n l
    refine st_mk (fy ey rfl T.no_Form_head (by kernel_rfl : List.lookup _ _ = some (V.int hd))) (val_var rfl) x2 T.cl_Pattern T.no_Pattern_head (by show 0 < 1000; decide) fun H3 x3 b3 => ?_
    have y3 := b3 _ _ ey nyx
    refine st_mk (fy y3 rfl T.no_Form_period (by kernel_rfl : List.lookup _ _ = some (V.int q))) (val_var rfl) x3 T.cl_Pattern T.no_Pattern_period (by show 1 < 1000; decide) fun H4 x4 b4 => ?_
    have y4 := b4 _ _ y3 nyx
    refine st_mk (fy y4 rfl T.no_Form_stretches (by kernel_rfl : List.lookup _ _ = some (V.ref st))) (val_var rfl) x4 T.cl_Pattern T.no_Pattern_stretches (by show 2 < 1000; decide) fun H5 x5 b5 => ?_
    have y5 := b5 _ _ y4 nyx
    have b25 : But x H2 H5 := (b3.trans b4).trans b5
    have est5 := b25 _ _ est (ne_of est x2 (by intro z; cases z))
    have rws5 := rws.but b25 x2 (by intro xs z; cases z)
    have b05 : But x H H5 := But.same (s1.trans s2) b25
    clear b3 b4 b5 y3 y4 x3 x4 ey est rws b25 b2
    refine st_letX ⟨by show 1 ≤ sizeLine; decide, fun l hl => ?_⟩
    have s6 := Same.new (o := .lst [V.int 0]) hl
    have lb := rws5.1
    refine st_seq (st_forT (a := st) (xs := bs) (fun R q => fy (s6 _ _ y5) rfl T.no_Form_stretches (by kernel_rfl : List.lookup _ _ = some (V.ref st)) _ q) (fun i σ' H' => ∃ v5 v6, σ' = [some (.ref x), some (.int hh), some (.int p), some (.ref m), v4, v5, v6, some (.ref y), some (.ref l)] ∧ H' l = some (.lst ((sumsOf (S.take i)).map V.int)) ∧ Same H5 H') ⟨_, _, rfl, upd_same, s6⟩ (fun i σ' H' _ z => let ⟨_, _, _, _, s⟩ := z; SqT.of (s _ _ est5)) ?_ ?_)
    · rintro i v σ' H' hv ⟨v5, v6, rfl, el, s7⟩
      have hi : i < S.length := by rw [← lb]; exact (List.getElem?_eq_some_iff.mp hv).1
      obtain ⟨b, hb⟩ : ∃ b, S[i]? = some b := ⟨_, List.getElem?_eq_getElem hi⟩
      obtain ⟨t, w1, w2⟩ := (rws5.same s7).2 i b hb
      rw [hv] at w1
      cases w1
      refine g_pairA rfl (Or.inr (SqT.of w2)) ?_
      have el2 : (sumsOf (S.take i)).map V.int = ((List.range i).map fun j => V.int (tot ((S.take i).take j))) ++ [V.int (tot (S.take i))] := by
        unfold sumsOf
        have l0 : (S.take i).length = i := by rw [List.length_take]; omega
        rw [l0, List.range_succ, List.map_append, List.map_append, List.map_map, List.map_singleton, List.map_singleton, List.take_take, Nat.min_self]
        rfl
      refine ⟨_, rfl, tyL el, ?_⟩
      refine v_rI0 (g := fun i j => .int (i - j)) (v_rI0 (g := fun i j => .int (i + j)) (v_ixL (val_var rfl) (v_un (g := fun i => V.int (-i)) val_c) (SqL.of el) (by rw [el2]; exact atI_last)) (val_var rfl)) (val_var rfl) _ ?_
      refine ⟨l, _, _, rfl, rfl, el, by
        rw [List.length_map, sums_len, List.length_take]
        have : 1000000 ≤ sizeLine := by decide
        omega, ⟨_, _, rfl, ?_, fun b o e => ?_⟩⟩
      · rw [upd_same, sums_snoc hb, List.map_append]
        rw [show tot (S.take i) + b.2 - b.1 = tot (S.take i) + (b.2 - b.1) by omega]
        rfl
      · rw [upd_ne (ne_of_none e hl)]
        exact s7 _ _ e
    rintro σ' H6 ⟨v5, v6, rfl, el, s7⟩
    rw [lb, List.take_length] at el
    have x6 := s7 _ _ x5
    have y6 := s7 _ _ y5
    dsimp only
    refine st_mkH (PV := fun v H' => ∃ u, v = .ref u ∧ H' u = some (.tup ((sumsOf S).map V.int)) ∧ Same H6 H') (fun Q qq => ⟨_, rfl, l, _, rfl, Or.inl ⟨SqL.of el, fun u hu => qq _ _ ⟨u, rfl, upd_same, Same.new hu⟩⟩⟩) (fun _ => val_var rfl) (fun v H' z => let ⟨_, _, _, s⟩ := z; s _ _ x6) T.cl_Pattern T.no_Pattern__sums (by show 3 < 1000; decide) ?_
    rintro _ H7 H8 ⟨u, rfl, eu, s8⟩ x8 b8
    have x7 := s8 _ _ x6
    have eu8 := b8 _ _ eu (ne_of eu x7 (by intro z; cases z))
    have est7 := s8 _ _ (s7 _ _ est5)
    have est8 := b8 _ _ est7 (ne_of est7 x7 (by intro z; cases z))
    have rws8 := (rws5.same (s7.trans s8)).but b8 x7 (by intro xs z; cases z)
    have y8 := b8 _ _ (s8 _ _ y6) nyx
    refine ⟨_, rfl, x, dx, _, rfl, x8, (by kernel_rfl : List.lookup _ _ = (none : Option V)), _, rfl, y, _, dy, _, _, rfl, y8, T.cl_Form, T.no_Form_head, (by kernel_rfl : List.lookup _ _ = some (V.int hd)), x, dx, st, u, _, bs, S, hd, rfl, x8, (by kernel_rfl : List.lookup _ _ = some (V.ref st)), (by kernel_rfl : List.lookup _ _ = some (V.ref u)), est8, rws8, eu8, td, by omega, ?_⟩
    refine ⟨_, rfl, x, _, dx, _, rfl, x8, T.cl_Pattern, T.no_Pattern__front, by show 4 < 1000; decide, ?_⟩
    have b9 : But x H8 (upd H8 x (.ins a.c_Pattern dx (pfs hd q st u (nearOf S hd)))) := (But.refl x H8).upd
    exact k5 hd q S _ can ⟨dx, st, bs, u, upd_same, b9 _ _ est8 (ne_of est8 x8 (by intro z; cases z)), rws8.but b9 x8 (by intro xs z; cases z), b9 _ _ eu8 (ne_of eu8 x8 (by intro z; cases z)), td, by omega⟩ (((b05.thenS (s7.trans s8)).trans b8).trans b9)
end
end My

namespace My
open PySem L2
/-- a new pattern of these minutes -/
def NewPat (a : Ad) (H : Hp) (P : Int → Prop) (Q : VK) : Prop := ∀ x hd q S H', Canon P hd q S → PatAt a H' x hd q S → Same H H' → Q (.ref x) H'
/-- Pattern(h, p, L) made where all is well -/
theorem newPat {a : Ad} {K : PySem.W.Frag} {H : Hp} {m : Addr} {as : List V} {L : List Iv} {h p : Int} {Q : VK} {E : XK} (hm : SqA K H m as) (hrw : RwA K H as L) (c1 : 0 ≤ h ∧ h ≤ 10 ^ 12) (c2 : 1 ≤ p ∧ p ≤ 10 ^ 12) (hl : L.length ≤ 5000) (ok : ∀ b ∈ L, 0 ≤ b.1 ∧ b.1 < b.2 ∧ b.2 ≤ h + p)
    (k : NewPat a H (ext h p fun t => inL L t = true) Q) : ∀ x dx, H x = none → H dx = none → dx ≠ x → spPat a K (.ref x :: ([.int h, .int p, .ref m] ++ [])) (upd (upd H dx (.own x)) x (.ins a.c_Pattern dx [])) (fun v H2 => v = .non ∧ Q (.ref x) H2) E := fun x dx hx hdx n => by
  have s1 : Same H (upd (upd H dx (.own x)) x (.ins a.c_Pattern dx [])) := (Same.new hdx).trans (Same.new ((upd_ne n.symm).trans hx))
  refine ⟨x, dx, m, as, L, h, p, rfl, upd_same, s1.sqA hm, hrw.same s1, by omega, fun z => absurd c1 z, fun _ z => absurd c2 z, fun _ _ z => by omega, fun _ _ _ i b hb nb _ => absurd (ok b (List.mem_of_getElem? hb)) nb, fun _ _ _ _ hd q S H' can pat bt => ⟨rfl, k x hd q S H' can pat fun b o e => bt _ _ ((upd_ne (ne_of_none e hx)).trans ((upd_ne (ne_of_none e hdx)).trans e)) (ne_of_none e hx)⟩⟩
theorem NewPat.same {a : Ad} {H H' : Hp} {P : Int → Prop} {Q : VK} (k : NewPat a H P Q) (s : Same H H') : NewPat a H' P Q := fun x hd q S H2 c p s2 => k x hd q S H2 c p (s.trans s2)
theorem in_below {S : List Iv} {t : Int} (td : Tidy S) : inL S t = match below S (t + 1) with
    | 0 => false
    | b + 1 => decide (t < (S.getD b (0, 0)).2) := by
  refine bool_ext ?_
  rw [inL_iff]
  have bl := below_le (L := S) (m := t + 1)
  cases hb : below S (t + 1) with
  | zero =>
    refine ⟨fun ⟨z, hz, z1, z2⟩ => ?_, fun z => nomatch z⟩
    obtain ⟨j, hj⟩ := List.mem_iff_getElem?.mp hz
    have := (below_spec (m := t + 1) td hj).mpr (by omega)
    omega
  | succ b =>
    obtain ⟨y, hy⟩ : ∃ y, S[b]? = some y := ⟨_, List.getElem?_eq_getElem (by omega)⟩
    have hg : S.getD b (0, 0) = y := by rw [List.getD_eq_getElem?_getD, hy]; rfl
    show _ ↔ decide (t < (S.getD b (0, 0)).2) = true
    rw [hg, decide_eq_true_eq]
    have yb := (below_spec (m := t + 1) td hy).mp (by omega)
    refine ⟨fun ⟨z, hz, z1, z2⟩ => ?_, fun z => ⟨y, List.mem_of_getElem? hy, by omega, z⟩⟩
    obtain ⟨j, hj⟩ := List.mem_iff_getElem?.mp hz
    have jb := (below_spec (m := t + 1) td hj).mpr (by omega)
    by_cases e : j = b
    · subst e
      rw [hy] at hj
      cases hj
      exact z2
    · have := tidy_lt td (show j < b by omega) hj hy
      omega
def spEvery (a : Ad) : Sp := fun vs H Q E => ∃ (p f : Int), vs = [.int p, .int f] ∧ (¬ (1 ≤ p ∧ p ≤ 10 ^ 12) → Out a E H "period" p) ∧ ((1 ≤ p ∧ p ≤ 10 ^ 12) → ¬ (0 ≤ f ∧ f ≤ 10 ^ 12) → Out a E H "first" f) ∧
  ((1 ≤ p ∧ p ≤ 10 ^ 12) → (0 ≤ f ∧ f ≤ 10 ^ 12) → NewPat a H (ext f p fun t => inL [(f, f + 1)] t = true) Q)
def spRunEnd (a : Ad) : Sp := fun vs H Q _ => ∃ (x : Addr) (h p : Int) (S : List Iv) (m : Int), vs = [.ref x, .int m] ∧ PatAt a H x h p S ∧ 1 ≤ p ∧ p ≤ 10 ^ 12 ∧ (∀ z ∈ S, z.1 ≤ placeOf h p m → placeOf h p m < z.2 → Q (.int (m + z.2 - placeOf h p m)) H) ∧ (inL S (placeOf h p m) = false → Q .non H)
def spFin (a : Ad) : Sp := fun vs H Q _ => ∃ (x : Addr) (h p : Int) (S : List Iv), vs = [.ref x] ∧ PatAt a H x h p S ∧ Q (.bl (decide (tot S = nearOf S h))) H
def spEmp (a : Ad) : Sp := fun vs H Q _ => ∃ (x : Addr) (h p : Int) (S : List Iv), vs = [.ref x] ∧ PatAt a H x h p S ∧ Q (.bl (decide (tot S = 0))) H
section
variable {P : Program} {w : World} {K : PySem.W.Frag} {mg : Str → Option Value} {base : Heap} {a : Ad}
theorem G_Pattern_every (T : Tx K mg a) : FnOk P w K mg base (L2.CX P w) 8 a.f_Pattern_every a.d_Pattern_every ["period", "first"] (spEvery a) := by
  refine T.F_Pattern_every.okX sc_Pattern_every (fun vs H Q E h => ?_) (fun cdv A outer s H vs Q E hr h => ?_)
  · obtain ⟨p, f, rfl, _⟩ := h
    rfl
  · obtain ⟨p, f, rfl, k1, k2, k3⟩ := h
    refine ⟨_, (pss_cons (ps_expr (pe_call (G_in_range T) (hr.mono (by decide)) rfl T.g_in_range T.F_in_range.kp T.b_in_range .nil (passes_call (takes_of rfl rfl rfl rfl) (fun _ _ _ _ h => h)) (pa_cons pe_str (pa_cons (pv 0) (pa_cons pe_int (pa_cons (pe_glob (v := .int (10 ^ 12)) rfl T.g_LONG.choose_spec ⟨_, rfl⟩) pa_nil))))))
      (pss_cons (ps_expr (pe_call (G_in_range T) (hr.mono (by decide)) rfl T.g_in_range T.F_in_range.kp T.b_in_range .nil (passes_call (takes_of rfl rfl rfl rfl) (fun _ _ _ _ h => h)) (pa_cons pe_str (pa_cons (pv 1) (pa_cons pe_int (pa_cons (pe_glob (v := .int (10 ^ 12)) rfl T.g_LONG.choose_spec ⟨_, rfl⟩) pa_nil))))))
      (pss_one (ps_ret (pe_make T.M_Pattern (G_Pattern_init T) (hr.mono (by decide)) rfl T.g_Pattern T.b_Pattern_init .nil (passes_call (takes_of rfl rfl rfl rfl) (fun _ _ _ _ h => h)) (pa_cons (pv 1) (pa_cons (pv 0) (pa_cons (pe_tup (pa_cons (pe_tup (pa_cons (pv 1) (pa_cons (pe_op op_add (pv 1) pe_int) pa_nil))) pa_nil)) pa_nil)))))))), ?_⟩
    refine st_do ⟨_, rfl, "period", p, 1, 10 ^ 12, rfl, fun c1 => ?_, k1⟩
    refine st_do ⟨_, rfl, "first", f, 0, 10 ^ 12, rfl, fun c2 => ?_, k2 c1⟩
    refine st_ret0 (mk3 (val_var rfl) (val_var rfl) (tup_pair (val_var rfl) (v_rI0 (g := fun i j => .int (i + j)) (val_var rfl) val_c) fun t u H' ht hu s' => ?_))
    exact newPat (Or.inr (SqT.of ht)) (Rw.cons (a := (f, f + 1)) hu Rw.nil).toA (by omega) (by omega) (by show 1 ≤ 5000; omega) (fun b hb => by
      obtain rfl := List.mem_singleton.mp hb
      dsimp only
      omega) ((k3 c1 c2).same s')
theorem G_Pattern_run_end (T : Tx K mg a) : FnOk P w K mg base CX0 2 a.f_Pattern_run_end a.d_Pattern_run_end ["self", "minute"] (spRunEnd a) := by
  refine T.F_Pattern_run_end.ok sc_Pattern_run_end (fun vs H Q E h => ?_) (fun cdv A outer s H vs Q E hr h => ?_)
  · obtain ⟨x, h, p, S, m, rfl, _⟩ := h
    rfl
  · obtain ⟨x, hh, p, S, m, rfl, ⟨dx, st, bs, u, hx, est, rws, eu, td, lS⟩, p1, p2, k1, k2⟩ := h
    refine ⟨_, (pss_cons (ps_set (i := 2) sc_Pattern_run_end.nd rfl (Or.inl rfl) (pe_op op_add (pe_fld (pv 0) rfl) (pe_fld (pv 0) rfl)))
      (pss_cons (ps_set (i := 3) sc_Pattern_run_end.nd rfl (Or.inl rfl) (pe_ifExp (pt_cmpR op_lt (pv 1) (pv 2) (nomark _)) (pv 1) (pe_op op_add (pe_fld (pv 0) rfl) (pe_op op_mod (pe_op op_sub (pv 1) (pe_fld (pv 0) rfl)) (pe_fld (pv 0) rfl)))))
      (pss_cons (ps_set (i := 4) sc_Pattern_run_end.nd rfl (Or.inl rfl) (pe_call (G_starts_below T) (hr.mono (by decide)) rfl T.g_starts_below T.F_starts_below.kp T.b_starts_below .nil pass0 (pa_cons (pe_fld (pv 0) rfl) (pa_cons (pe_op op_add (pv 3) pe_int) pa_nil))))
      (pss_cons (ps_if (PW.pt (pw_or (pt_cmpR op_eq (pv 4) pe_int (nomark _)) (pw_or1 (pt_cmpR op_le (pe_ix ix_tup (pe_ix ix_tup (pe_fld (pv 0) rfl) (pe_op op_sub (pv 4) pe_int) (fun _ _ => rfl)) pe_int (fun _ _ => rfl)) (pv 3) (nomark _))))) (pss_one (ps_ret pe_non)) pss_nil)
      (pss_one (ps_ret (pe_op op_sub (pe_op op_add (pv 1) (pe_ix ix_tup (pe_ix ix_tup (pe_fld (pv 0) rfl) (pe_op op_sub (pv 4) pe_int) (fun _ _ => rfl)) pe_int (fun _ _ => rfl))) (pv 3)))))))), ?_⟩
    have fh : ∀ {σ : St}, σ[0]? = some (some (V.ref x)) → Val (tFld K (tVar 0) "head") σ H (.int hh) := fun e => val_fld (val_var e) hx T.cl_Pattern T.no_Pattern_head (by kernel_rfl)
    have fp : ∀ {σ : St}, σ[0]? = some (some (V.ref x)) → Val (tFld K (tVar 0) "period") σ H (.int p) := fun e => val_fld (val_var e) hx T.cl_Pattern T.no_Pattern_period (by kernel_rfl)
    have fs : ∀ {σ : St}, σ[0]? = some (some (V.ref x)) → Val (tFld K (tVar 0) "stretches") σ H (.ref st) := fun e => val_fld (val_var e) hx T.cl_Pattern T.no_Pattern_stretches (by kernel_rfl)
    refine st_let (v_rI0 (g := fun i j => .int (i + j)) (fh rfl) (fp rfl)) ?_
    have hpl : Val (tIf (tTest (tOp (rI0 fun i j => V.bl (decide (i < j))) (tVar 1) (tVar 2))) (tVar 1) (tOp (rI0 fun i j => V.int (i + j)) (tFld K (tVar 0) "head") (tOp (rI (fun x j => 0 < j) fun i j => V.int (i % j)) (tOp (rI0 fun i j => V.int (i - j)) (tVar 1) (tFld K (tVar 0) "head")) (tFld K (tVar 0) "period")))) [some (.ref x), some (.int m), some (.int (hh + p)), none, none] H (.int (placeOf hh p m)) := by
      refine v_if (a_cmp (f := fun i j => decide (i < j)) (val_var (i := 1) rfl) (val_var (i := 2) rfl)) (fun c => ?_) fun c => ?_
      · unfold placeOf
        rw [if_pos (of_decide_eq_true c)]
        exact val_var rfl
      · unfold placeOf
        rw [if_neg (of_decide_eq_false c)]
        exact v_rI0 (g := fun i j => .int (i + j)) (fh rfl) (v_rI (g := fun i j => .int (i % j)) (v_rI0 (g := fun i j => .int (i - j)) (val_var rfl) (fh rfl)) (fp rfl) (by omega))
    refine st_let hpl ?_
    generalize placeOf hh p m = t at k1 k2
    refine st_let (v_call2 (fs rfl) (v_rI0 (g := fun i j => .int (i + j)) (val_var rfl) val_c) fun Q q => ⟨st, bs, S, t + 1, rfl, SqT.of est, rws, td, by omega, q⟩) ?_
    have ib := in_below (t := t) td
    cases hb : below S (t + 1) with
    | zero =>
      rw [hb] at ib
      exact st_guard (q := True) (a_or (b := true) (c := true) (a_eq (i := 0) (val_var (i := 4) rfl) val_c) (fun z => nomatch z)) (by simp) (fun _ => k2 ib) fun z => absurd trivial z
    | succ b =>
      rw [hb] at ib
      have bl := below_le (L := S) (m := t + 1)
      obtain ⟨z, hz⟩ : ∃ z, S[b]? = some z := ⟨_, List.getElem?_eq_getElem (by omega)⟩
      obtain ⟨r, w1, w2⟩ := rws.2 b z hz
      have hg : S.getD b (0, 0) = z := by rw [List.getD_eq_getElem?_getD, hz]; rfl
      have ib : inL S t = decide (t < z.2) := by rw [← hg]; exact ib
      have ve : ∀ {σ : St}, σ[0]? = some (some (V.ref x)) → σ[4]? = some (some (V.int ((b + 1 : Nat) : Int))) → Val (tOp (rIxT K) (tOp (rIxT K) (tFld K (tVar 0) "stretches") (tOp (rI0 fun i j => V.int (i - j)) (tVar 4) (tC (V.int 1)))) (tC (V.int 1))) σ H (.int z.2) := fun e e4 => v_ixT (v_ixT (fs e) (v_rI0 (g := fun i j => .int (i - j)) (val_var e4) val_c) (SqT.of est) (at_of (j := b) (by omega) w1)) val_c (SqT.of w2) rfl
      refine st_guard (q := ¬ t < z.2) (a_or (a_eq (val_var (i := 4) rfl) val_c) (fun _ => a_cmp (f := fun i j => decide (i ≤ j)) (ve rfl rfl) (val_var (i := 3) rfl))) (by simp; omega) (fun c => ?_) fun c => ?_
      · exact k2 (by rw [ib, decide_eq_false c])
      · exact st_ret (v_rI0 (g := fun i j => .int (i - j)) (v_rI0 (g := fun i j => .int (i + j)) (val_var rfl) (ve rfl rfl)) (val_var rfl)) (k1 z (List.mem_of_getElem? hz) (by have := (below_spec (m := t + 1) td hz).mp (by omega); omega) (Classical.not_not.mp c))
theorem G_Pattern_finite (T : Tx K mg a) : FnOk P w K mg base CX0 1 a.f_Pattern_finite a.d_Pattern_finite ["self"] (spFin a) := by
  refine T.F_Pattern_finite.ok sc_Pattern_finite (fun vs H Q E h => ?_) (fun cdv A outer s H vs Q E hr h => ?_)
  · obtain ⟨x, h, p, S, rfl, _⟩ := h
    rfl
  · obtain ⟨x, hh, p, S, rfl, ⟨dx, st, bs, u, hx, est, rws, eu, td, lS⟩, k⟩ := h
    refine ⟨_, (pss_one (ps_ret (pe_cmpR op_eq (pe_ix ix_tup (pe_fld (pv 0) rfl) (pe_un un_neg pe_int) (fun _ _ => rfl)) (pe_fld (pv 0) rfl) (nomark _)))), ?_⟩
    have vs : Val (tOp (rIxT K) (tFld K (tVar 0) "_sums") (tUn (rU fun i => V.int (-i)) (tC (V.int 1)))) (L2.start ["self"] [V.ref x]) H (.int (tot S)) := v_ixT (val_fld (val_var rfl) hx T.cl_Pattern T.no_Pattern__sums (by kernel_rfl : List.lookup _ _ = some (V.ref u))) (v_un (g := fun i => V.int (-i)) val_c) (SqT.of eu) (by
      unfold sumsOf
      rw [List.range_succ, List.map_append, List.map_append, List.map_singleton, List.map_singleton, List.take_length]
      exact atI_last)
    exact st_ret (v_eq vs (val_fld (val_var rfl) hx T.cl_Pattern T.no_Pattern__front (by kernel_rfl : List.lookup _ _ = some (V.int (nearOf S hh))))) k
theorem G_Pattern_empty (T : Tx K mg a) : FnOk P w K mg base CX0 1 a.f_Pattern_empty a.d_Pattern_empty ["self"] (spEmp a) := by
  refine T.F_Pattern_empty.ok sc_Pattern_empty (fun vs H Q E h => ?_) (fun cdv A outer s H vs Q E hr h => ?_)
  · obtain ⟨x, h, p, S, rfl, _⟩ := h
    rfl
  · obtain ⟨x, hh, p, S, rfl, ⟨dx, st, bs, u, hx, est, rws, eu, td, lS⟩, k⟩ := h
    refine ⟨_, (pss_one (ps_ret (pe_cmpR op_eq (pe_ix ix_tup (pe_fld (pv 0) rfl) (pe_un un_neg pe_int) (fun _ _ => rfl)) pe_int (nomark _)))), ?_⟩
    have vs : Val (tOp (rIxT K) (tFld K (tVar 0) "_sums") (tUn (rU fun i => V.int (-i)) (tC (V.int 1)))) (L2.start ["self"] [V.ref x]) H (.int (tot S)) := v_ixT (val_fld (val_var rfl) hx T.cl_Pattern T.no_Pattern__sums (by kernel_rfl : List.lookup _ _ = some (V.ref u))) (v_un (g := fun i => V.int (-i)) val_c) (SqT.of eu) (by
      unfold sumsOf
      rw [List.range_succ, List.map_append, List.map_append, List.map_singleton, List.map_singleton, List.take_length]
      exact atI_last)
    exact st_ret (v_eq vs val_c) k
end
end My

namespace My
open PySem L2
def spBelowM (a : Ad) : Sp := fun vs H Q _ => ∃ (x : Addr) (h p : Int) (S : List Iv) (m : Int), vs = [.ref x, .int m] ∧ PatAt a H x h p S ∧ 1 ≤ p ∧ p ≤ 10 ^ 12 ∧ 0 ≤ h ∧ h ≤ 10 ^ 12 ∧ tot S ≤ 10 ^ 13 ∧ -(10 ^ 41) ≤ m ∧ m ≤ 10 ^ 41 ∧ ∀ H', Same H H' → Q (.int (belowP S h p m)) H'
def optV : Option Int → V
  | none => .non
  | some i => .int i
def spNthM (a : Ad) : Sp := fun vs H Q _ => ∃ (x : Addr) (h p : Int) (S : List Iv) (i : Int), vs = [.ref x, .int i] ∧ PatAt a H x h p S ∧ 1 ≤ p ∧ p ≤ 10 ^ 12 ∧ 0 ≤ i ∧ i ≤ 10 ^ 60 ∧ 0 ≤ nearOf S h ∧ nearOf S h ≤ tot S ∧ tot S ≤ 10 ^ 13 ∧ ∀ r H', Nth S h p i r → Same H H' → Q (optV r) H'
theorem divp_big {i j : Int} (hj : 0 < j) (b0 : -(10 ^ 70) ≤ i) (b1 : i ≤ 10 ^ 70) : CDivP i j := by
  have h : i.natAbs < 2 ^ 300 := by omega
  have := PyProof.Rows.intBits_le h
  exact divp_ok hj (by omega)
theorem v_near {a : Ad} {K : PySem.W.Frag} {σ : St} {H : Hp} {te : TE} {x : Addr} {h p m : Int} {S : List Iv} {i : Nat} (c : PatAt a H x h p S) (hi : σ[i]? = some (some (V.ref x))) (ht : Val te σ H (.int m)) : Val (tMeth a.c_Pattern "_near" (spNear a K) [] E0 (tVar i) (tCons te tNil)) σ H (.int (nearOf S m)) := fun Q q => by
  obtain ⟨dx, st, bs, u, hx, est, rws, eu, td, lS⟩ := c
  exact ⟨_, hi, x, dx, _, rfl, hx, (by kernel_rfl : List.lookup _ _ = (none : Option V)), ht _ ⟨x, dx, st, u, _, bs, S, m, rfl, hx, (by kernel_rfl), (by kernel_rfl), est, rws, eu, td, by omega, q⟩⟩
theorem v_total {a : Ad} {K : PySem.W.Frag} {T : Cls K a.c_Pattern} {σ : St} {H : Hp} {x : Addr} {h p : Int} {S : List Iv} {i : Nat} (no : NoAttr K a.c_Pattern "_sums") (c : PatAt a H x h p S) (hi : σ[i]? = some (some (V.ref x))) : Val (tOp (rIxT K) (tFld K (tVar i) "_sums") (tUn (rU fun i => V.int (-i)) (tC (V.int 1)))) σ H (.int (tot S)) := by
  obtain ⟨dx, st, bs, u, hx, est, rws, eu, td, lS⟩ := c
  exact v_ixT (val_fld (val_var hi) hx T no (by kernel_rfl : List.lookup _ _ = some (V.ref u))) (v_un (g := fun i => V.int (-i)) val_c) (SqT.of eu) (by
      unfold sumsOf
      rw [List.range_succ, List.map_append, List.map_append, List.map_singleton, List.map_singleton, List.take_length]
      exact atI_last)
theorem st_asgX {te : TE} {D : Ends} {σ : St} {H : Hp} {i : Nat} (h : te σ H fun v H1 => D.nx (σ.set i (some v)) H1) : tAsg te (gName i) D σ H := h
theorem take_step {S : List Iv} {i : Nat} {z : Iv} (h : S[i]? = some z) : tot (S.take (i + 1)) = tot (S.take i) + (z.2 - z.1) := by
  rw [List.take_add_one, h]
  show tot (S.take i ++ [z]) = _
  rw [tot_append, tot_one]
section
variable {P : Program} {w : World} {K : PySem.W.Frag} {mg : Str → Option Value} {base : Heap} {a : Ad}
theorem G_Pattern_below (T : Tx K mg a) : FnOk P w K mg base CX0 3 a.f_Pattern_below a.d_Pattern_below ["self", "minute"] (spBelowM a) := by
  refine T.F_Pattern_below.ok sc_Pattern_below (fun vs H Q E h => ?_) (fun cdv A outer s H vs Q E hr h => ?_)
  · obtain ⟨x, h, p, S, m, rfl, _⟩ := h
    rfl
  · obtain ⟨x, hh, p, S, m, rfl, hp, p1, p2, h0, h1, t1, m0, m1, k⟩ := h
    refine ⟨_, (pss_cons (ps_if (pt_cmpR op_le (pv 1) (pe_op op_add (pe_fld (pv 0) rfl) (pe_fld (pv 0) rfl)) (nomark _)) (pss_one (ps_ret (pe_meth (pv 0) T.cl_Pattern T.m_Pattern_near (G_Pattern_near T) (hr.mono (by decide)) T.b_Pattern_near .nil pass0 (pa_cons (pv 1) pa_nil)))) pss_nil)
      (pss_cons (ps_asg (pe_callB call_divmodW (by rfl) T.n_divmod (by decide +kernel) (pa_cons (pe_op op_sub (pv 1) (pe_fld (pv 0) rfl)) (pa_cons (pe_fld (pv 0) rfl) pa_nil))) (pg_tup rfl (pgs_cons (pg_name (i := 2) sc_Pattern_below.nd rfl (Or.inl rfl)) (pgs_cons (pg_name (i := 3) sc_Pattern_below.nd rfl (Or.inl rfl)) pgs_nil))))
      (pss_one (ps_ret (pe_op op_add (pe_op op_mul (pv 2) (pe_op op_sub (pe_ix ix_tup (pe_fld (pv 0) rfl) (pe_un un_neg pe_int) (fun _ _ => rfl)) (pe_fld (pv 0) rfl))) (pe_meth (pv 0) T.cl_Pattern T.m_Pattern_near (G_Pattern_near T) (hr.mono (by decide)) T.b_Pattern_near .nil pass0 (pa_cons (pe_op op_add (pe_fld (pv 0) rfl) (pv 3)) pa_nil))))))), ?_⟩
    obtain ⟨dx, st, bs, u, hx, est, rws, eu, td, lS⟩ := id hp
    have fh : ∀ {σ : St} {H' : Hp}, Same H H' → σ[0]? = some (some (V.ref x)) → Val (tFld K (tVar 0) "head") σ H' (.int hh) := fun s e => val_fld (val_var e) (s _ _ hx) T.cl_Pattern T.no_Pattern_head (by kernel_rfl)
    have fp : ∀ {σ : St} {H' : Hp}, Same H H' → σ[0]? = some (some (V.ref x)) → Val (tFld K (tVar 0) "period") σ H' (.int p) := fun s e => val_fld (val_var e) (s _ _ hx) T.cl_Pattern T.no_Pattern_period (by kernel_rfl)
    have ff : ∀ {σ : St} {H' : Hp}, Same H H' → σ[0]? = some (some (V.ref x)) → Val (tFld K (tVar 0) "_front") σ H' (.int (nearOf S hh)) := fun s e => val_fld (val_var e) (s _ _ hx) T.cl_Pattern T.no_Pattern__front (by kernel_rfl : List.lookup _ _ = some (V.int (nearOf S hh)))
    have z := Same.refl H
    have ns := near_le (m := hh) td
    unfold belowP at k
    refine st_guard (q := m ≤ hh + p) (a_cmp (f := fun i j => decide (i ≤ j)) (val_var rfl) (v_rI0 (g := fun i j => .int (i + j)) (fh z rfl) (fp z rfl))) decide_eq_true_iff (fun c => ?_) fun c => ?_
    · rw [if_pos c] at k
      exact st_ret (v_near hp rfl (val_var rfl)) (k _ z)
    · rw [if_neg c] at k
      refine st_seq ((v_rI0 (g := fun i j => .int (i - j)) (val_var rfl) (fh z rfl)) _ ((fp z rfl) _ ⟨_, _, rfl, divp_big (by omega) (by omega) (by omega), fun t ht => ?_⟩))
      have s1 := Same.new (o := .tup [V.int ((m - hh) / p), V.int ((m - hh) % p)]) ht
      refine ⟨t, _, rfl, SqT.of upd_same, rfl, _, _, rfl, _, _, rfl, rfl, ?_⟩
      dsimp only
      refine st_ret (v_rI0 (g := fun i j => .int (i + j)) (v_rI (g := fun i j => .int (i * j)) (val_var rfl) (v_rI0 (g := fun i j => .int (i - j)) (v_total (T := T.cl_Pattern) T.no_Pattern__sums (hp.same s1) rfl) (ff s1 rfl)) (Or.inr ⟨by omega, by omega⟩)) (v_near (hp.same s1) rfl (v_rI0 (g := fun i j => .int (i + j)) (fh s1 rfl) (val_var rfl)))) (k _ s1)
theorem G_Pattern_nth (T : Tx K mg a) : FnOk P w K mg base CX0 1 a.f_Pattern_nth a.d_Pattern_nth ["self", "index"] (spNthM a) := by
  refine T.F_Pattern_nth.ok sc_Pattern_nth (fun vs H Q E h => ?_) (fun cdv A outer s H vs Q E hr h => ?_)
  · obtain ⟨x, h, p, S, m, rfl, _⟩ := h
    rfl
  · obtain ⟨x, hh, p, S, i, rfl, hp, p1, p2, i0, i1, n0, n1, t1, k⟩ := h
    refine ⟨_, (pss_cons (ps_set (i := 2) sc_Pattern_nth.nd rfl (Or.inl rfl) (pe_op op_sub (pe_ix ix_tup (pe_fld (pv 0) rfl) (pe_un un_neg pe_int) (fun _ _ => rfl)) (pe_fld (pv 0) rfl)))
      (pss_cons (ps_set (i := 3) sc_Pattern_nth.nd rfl (Or.inl rfl) pe_int)
      (pss_cons (ps_if (pt_cmpR op_ge (pv 1) (pe_ix ix_tup (pe_fld (pv 0) rfl) (pe_un un_neg pe_int) (fun _ _ => rfl)) (nomark _)) (pss_cons (ps_if (pt_cmpR op_eq (pv 2) pe_int (nomark _)) (pss_one (ps_ret pe_non)) pss_nil)
      (pss_cons (ps_asg (pe_callB call_divmodW (by rfl) T.n_divmod (by decide +kernel) (pa_cons (pe_op op_sub (pv 1) (pe_fld (pv 0) rfl)) (pa_cons (pv 2) pa_nil))) (pg_tup rfl (pgs_cons (pg_name (i := 4) sc_Pattern_nth.nd rfl (Or.inl rfl)) (pgs_cons (pg_name (i := 5) sc_Pattern_nth.nd rfl (Or.inl rfl)) pgs_nil))))
      (pss_cons (ps_set (i := 1) sc_Pattern_nth.nd rfl (Or.inl rfl) (pe_op op_add (pe_fld (pv 0) rfl) (pv 5)))
      (pss_one (ps_set (i := 3) sc_Pattern_nth.nd rfl (Or.inl rfl) (pe_op op_mul (pv 4) (pe_fld (pv 0) rfl))))))) pss_nil)
      (pss_cons (ps_set (i := 6) sc_Pattern_nth.nd rfl (Or.inl rfl) pe_int)
      (pss_cons (ps_set (i := 7) sc_Pattern_nth.nd rfl (Or.inl rfl) (pe_op op_sub (pe_callB call_len_seq (by rfl) T.n_len (by decide +kernel) (pa_cons (pe_fld (pv 0) rfl) pa_nil)) pe_int))
      (pss_cons (ps_while PassesOwn.never (pt_cmpR op_lt (pv 6) (pv 7) (nomark _)) (pss_cons (ps_set (i := 8) sc_Pattern_nth.nd rfl (Or.inl rfl) (pe_op op_fdivW (pe_op op_add (pe_op op_add (pv 6) (pv 7)) pe_int) pe_int))
      (pss_one (ps_if (pt_cmpR op_le (pe_ix ix_tup (pe_fld (pv 0) rfl) (pv 8) (fun _ _ => rfl)) (pv 1) (nomark _)) (pss_one (ps_set (i := 6) sc_Pattern_nth.nd rfl (Or.inl rfl) (pv 8))) (pss_one (ps_set (i := 7) sc_Pattern_nth.nd rfl (Or.inl rfl) (pe_op op_sub (pv 8) pe_int)))))))
      (pss_one (ps_ret (pe_op op_add (pe_op op_sub (pe_op op_add (pe_ix ix_tup (pe_ix ix_tup (pe_fld (pv 0) rfl) (pv 6) (fun _ _ => rfl)) pe_int (fun _ _ => rfl)) (pv 1)) (pe_ix ix_tup (pe_fld (pv 0) rfl) (pv 6) (fun _ _ => rfl))) (pv 3)))))))))), ?_⟩
    obtain ⟨dx, st, bs, u, hx, est, rws, eu, td, lS⟩ := id hp
    have fp : ∀ {σ : St} {H' : Hp}, Same H H' → σ[0]? = some (some (V.ref x)) → Val (tFld K (tVar 0) "period") σ H' (.int p) := fun s e => val_fld (val_var e) (s _ _ hx) T.cl_Pattern T.no_Pattern_period (by kernel_rfl)
    have ff : ∀ {σ : St} {H' : Hp}, Same H H' → σ[0]? = some (some (V.ref x)) → Val (tFld K (tVar 0) "_front") σ H' (.int (nearOf S hh)) := fun s e => val_fld (val_var e) (s _ _ hx) T.cl_Pattern T.no_Pattern__front (by kernel_rfl : List.lookup _ _ = some (V.int (nearOf S hh)))
    have fs : ∀ {σ : St} {H' : Hp}, Same H H' → σ[0]? = some (some (V.ref x)) → Val (tFld K (tVar 0) "stretches") σ H' (.ref st) := fun s e => val_fld (val_var e) (s _ _ hx) T.cl_Pattern T.no_Pattern_stretches (by kernel_rfl)
    have fu : ∀ {σ : St} {H' : Hp}, Same H H' → σ[0]? = some (some (V.ref x)) → Val (tFld K (tVar 0) "_sums") σ H' (.ref u) := fun s e => val_fld (val_var e) (s _ _ hx) T.cl_Pattern T.no_Pattern__sums (by kernel_rfl : List.lookup _ _ = some (V.ref u))
    have z0 := Same.refl H
    refine st_let (v_rI0 (g := fun i j => .int (i - j)) (v_total (T := T.cl_Pattern) T.no_Pattern__sums hp rfl) (ff z0 rfl)) ?_
    refine st_let val_c ?_
    refine st_shareS (fun σ' H' => ∃ (idx by' : Int) (s4 s5 : Option V), σ' = [some (.ref x), some (.int idx), some (.int (tot S - nearOf S hh)), some (.int by'), s4, s5, none, none, none] ∧ Same H H' ∧ 0 ≤ idx ∧ idx < tot S ∧ ∀ t, Pick S idx t → Nth S hh p i (some (t + by'))) ?_ fun N hN => ?_
    case refine_2 =>
      refine st_ifp (q := tot S ≤ i) (a_cmp (f := fun i j => decide (j ≤ i)) (val_var rfl) (v_total (T := T.cl_Pattern) T.no_Pattern__sums hp rfl)) decide_eq_true_iff (fun c => ?_) fun c => ?_
      · refine st_guard (q := tot S = nearOf S hh) (a_eq (val_var rfl) val_c) (by simp; omega) (fun d => ?_) fun d => ?_
        · refine st_ret (v := .non) val_c (k none H ?_ z0)
          unfold Nth
          rw [if_neg (by omega), if_pos d]
        · refine st_seq ((v_rI0 (g := fun i j => .int (i - j)) (val_var rfl) (ff z0 rfl)) _ ⟨_, rfl, _, _, rfl, divp_big (by omega) (by omega) (by omega), fun t ht => ?_⟩)
          have s1 := Same.new (o := .tup [V.int ((i - nearOf S hh) / (tot S - nearOf S hh)), V.int ((i - nearOf S hh) % (tot S - nearOf S hh))]) ht
          refine ⟨t, _, rfl, SqT.of upd_same, rfl, _, _, rfl, _, _, rfl, rfl, ?_⟩
          dsimp only
          have r0 := Int.emod_nonneg (i - nearOf S hh) (show tot S - nearOf S hh ≠ 0 by omega)
          have r1 := Int.emod_lt_of_pos (i - nearOf S hh) (show 0 < tot S - nearOf S hh by omega)
          refine st_let (v_rI0 (g := fun i j => .int (i + j)) (ff s1 rfl) (val_var rfl)) ?_
          refine st_asgX ((v_rI (g := fun i j => .int (i * j)) (val_var rfl) (fp s1 rfl) (Or.inr ⟨by omega, by omega⟩)) _ (hN _ _ ⟨_, _, _, _, rfl, s1, by omega, by omega, fun t pk => ?_⟩))
          unfold Nth
          rw [if_neg (by omega), if_neg d]
          exact ⟨t, rfl, pk⟩
      · refine hN _ _ ⟨i, 0, none, none, rfl, z0, i0, by omega, fun t pk => ?_⟩
        unfold Nth
        rw [if_pos (by omega)]
        exact ⟨t + 0, rfl, by rw [Int.add_zero]; exact pk⟩
    rintro σ' H1 ⟨idx, by', s4, s5, rfl, s1, j0, j1, kn⟩
    have k : ∀ t, Pick S idx t → Q (.int (t + by')) H1 := fun t pk => k _ H1 (kn t pk) s1
    clear kn
    have ne : 0 < S.length := by
      rcases S with _ | ⟨z, r⟩
      · rw [tot_nil] at j1
        omega
      · simp
    have lb : bs.length = S.length := rws.1
    refine st_let val_c ?_
    refine st_let (v := .int ((S.length - 1 : Nat) : Int)) (by
      rw [show ((S.length - 1 : Nat) : Int) = ((S.length : Nat) : Int) - 1 by omega]
      exact v_rI0 (g := fun i j => .int (i - j)) (v_cb (fs s1 rfl) fun Q q => ⟨st, bs, rfl, Or.inr (SqT.of (s1 _ _ est)), by rw [lb]; exact q⟩) val_c) ?_
    have su : ∀ {σ : St} {te : TE} {j : Nat}, σ[0]? = some (some (V.ref x)) → Val te σ H1 (.int (j : Nat)) → j ≤ S.length → Val (tOp (rIxT K) (tFld K (tVar 0) "_sums") te) σ H1 (.int (tot (S.take j))) := fun {σ te j} e h l => v_ixT (fu s1 e) h (SqT.of (s1 _ _ eu)) (at_of (j := j) rfl (by rw [List.getElem?_map, sums_get l]; rfl))
    refine st_seq ?_
    refine st_whileb (fun σ H' => ∃ (lo hi : Nat) (v8 : Option V), σ = [some (.ref x), some (.int idx), some (.int (tot S - nearOf S hh)), some (.int by'), s4, s5, some (.int (lo : Nat)), some (.int (hi : Nat)), v8] ∧ H' = H1 ∧ lo ≤ hi ∧ hi < S.length ∧ tot (S.take lo) ≤ idx ∧ idx < tot (S.take (hi + 1)))
      (fun σ _ => match σ with | [_, _, _, _, _, _, some (.int lo), some (.int hi), _] => (hi - lo).toNat | _ => 0) ⟨0, S.length - 1, none, rfl, rfl, Nat.zero_le _, by omega, j0, by rw [show S.length - 1 + 1 = S.length by omega, List.take_length]; exact j1⟩ ?_
    rintro σ H' ⟨lo, hi, v8, rfl, rfl, h1, h2, low, high⟩
    refine ⟨_, a_cmp (f := fun i j => decide (i < j)) (val_var (i := 6) rfl) (val_var (i := 7) rfl), fun c => ?_, fun c => ?_⟩
    · have c : (lo : Int) < hi := of_decide_eq_true c
      refine st_let (v := .int (((lo + hi + 1) / 2 : Nat) : Int)) ?_ ?_
      · have e : (((lo + hi + 1) / 2 : Nat) : Int) = ((lo : Int) + hi + 1) / 2 := by omega
        rw [e]
        exact v_rI (g := fun i j => .int (i / j)) (v_rI0 (g := fun i j => .int (i + j)) (v_rI0 (g := fun i j => .int (i + j)) (val_var (i := 6) rfl) (val_var (i := 7) rfl)) val_c) val_c (wide_div (b := 40) (by omega) (by omega) (by decide) (by decide))
      refine st_ifp (q := tot (S.take ((lo + hi + 1) / 2)) ≤ idx) (a_cmp (f := fun i j => decide (i ≤ j)) (su rfl (val_var rfl) (by omega)) (val_var rfl)) decide_eq_true_iff (fun z => ?_) fun z => ?_
      · refine ⟨_, rfl, ?_⟩
        exact ⟨⟨(lo + hi + 1) / 2, hi, _, rfl, rfl, by omega, h2, z, high⟩, by show ((hi : Int) - (((lo + hi + 1) / 2 : Nat) : Int)).toNat < ((hi : Int) - lo).toNat; omega⟩
      · refine ⟨_, rfl, _, _, rfl, rfl, ?_⟩
        refine ⟨⟨lo, (lo + hi + 1) / 2 - 1, some (.int (((lo + hi + 1) / 2 : Nat) : Int)), ?_, rfl, by omega, by omega, low, by rw [show (lo + hi + 1) / 2 - 1 + 1 = (lo + hi + 1) / 2 by omega]; omega⟩, ?_⟩
        · rw [show (((lo + hi + 1) / 2 - 1 : Nat) : Int) = (((lo + hi + 1) / 2 : Nat) : Int) - 1 by omega]
          rfl
        · show ((((lo + hi + 1) / 2 : Nat) : Int) - 1 - lo).toNat < ((hi : Int) - lo).toNat
          omega
    · have c : ¬ (lo : Int) < hi := of_decide_eq_false c
      have e : hi = lo := by omega
      subst e
      obtain ⟨z, hz⟩ : ∃ z, S[hi]? = some z := ⟨_, List.getElem?_eq_getElem h2⟩
      obtain ⟨v, w1, w2⟩ := rws.2 hi z hz
      rw [take_step hz] at high
      have kk := k (z.1 + (idx - tot (S.take hi))) ⟨hi, z, hz, low, high, rfl⟩
      have fin : Val (tOp (rI0 fun i j => V.int (i + j)) (tOp (rI0 fun i j => V.int (i - j)) (tOp (rI0 fun i j => V.int (i + j)) (tOp (rIxT K) (tOp (rIxT K) (tFld K (tVar 0) "stretches") (tVar 6)) (tC (V.int 0))) (tVar 1)) (tOp (rIxT K) (tFld K (tVar 0) "_sums") (tVar 6))) (tVar 3)) [some (.ref x), some (.int idx), some (.int (tot S - nearOf S hh)), some (.int by'), s4, s5, some (.int (hi : Nat)), some (.int (hi : Nat)), v8] H' (.int (z.1 + idx - tot (S.take hi) + by')) :=
        v_rI0 (g := fun i j => .int (i + j)) (v_rI0 (g := fun i j => .int (i - j)) (v_rI0 (g := fun i j => .int (i + j)) (v_ixT (v_ixT (fs s1 rfl) (val_var rfl) (SqT.of (s1 _ _ est)) (at_of (j := hi) rfl w1)) val_c (SqT.of (s1 _ _ w2)) rfl) (val_var rfl)) (su (j := hi) rfl (val_var rfl) (by omega))) (val_var rfl)
      rw [show z.1 + (idx - tot (S.take hi)) + by' = z.1 + idx - tot (S.take hi) + by' by omega] at kk
      exact st_ret fin kk
end
end My

namespace My
open PySem L2
/-- a pattern in its bounds -/
structure PatC (a : Ad) (H : Hp) (x : Addr) (h p : Int) (S : List Iv) : Prop where
  at' : PatAt a H x h p S
  h0 : 0 ≤ h
  h1 : h ≤ 10 ^ 12
  p1 : 1 ≤ p
  p2 : p ≤ 10 ^ 12
  box : ∀ a ∈ S, 0 ≤ a.1 ∧ a.2 ≤ h + p
theorem PatC.same {a : Ad} {H H' : Hp} {x : Addr} {h p : Int} {S : List Iv} (c : PatC a H x h p S) (s : Same H H') : PatC a H' x h p S := ⟨c.at'.same s, c.h0, c.h1, c.p1, c.p2, c.box⟩
theorem PatC.td {a : Ad} {H : Hp} {x : Addr} {h p : Int} {S : List Iv} (c : PatC a H x h p S) : Tidy S := by
  obtain ⟨_, _, _, _, _, _, _, _, td, _⟩ := c.at'
  exact td
theorem cntN_le (f : Int → Bool) : ∀ n : Nat, cntN f n ≤ n
  | 0 => Int.le_refl _
  | n + 1 => by
    have := cntN_le f n
    rw [cntN]
    split <;> omega
theorem cnt_bounds (f : Int → Bool) {m : Int} (m0 : 0 ≤ m) : 0 ≤ cnt f m ∧ cnt f m ≤ m := by
  unfold cnt
  have a := cntN_nonneg f m.toNat
  have b := cntN_le f m.toNat
  omega
theorem PatC.tot {a : Ad} {H : Hp} {x : Addr} {h p : Int} {S : List Iv} (c : PatC a H x h p S) : My.tot S ≤ h + p := by
  have td := c.td
  have e := near_cnt td (fun a ha => (c.box a ha).1) (h + p).toNat
  have b := cntN_le (inL S) (h + p).toNat
  have h0 := c.h0
  have p1 := c.p1
  rw [near_ov td, ov_all fun a ha => ⟨td.1 a ha, by have := (c.box a ha).2; omega⟩] at e
  omega
theorem PatC.hx {a : Ad} {H : Hp} {x : Addr} {h p : Int} {S : List Iv} (c : PatC a H x h p S) : ∃ dx s u, H x = some (.ins a.c_Pattern dx (pfs h p s u (nearOf S h))) := by
  obtain ⟨dx, st, bs, u, hx, _⟩ := c.at'
  exact ⟨dx, st, u, hx⟩
theorem PatC.m_below {a : Ad} {σ : St} {H : Hp} {Q : VK} {te : TE} {x : Addr} {h p m : Int} {S : List Iv} {i : Nat} (c : PatC a H x h p S) (hi : σ[i]? = some (some (V.ref x))) (ht : Val te σ H (.int m)) (m0 : 0 ≤ m) (m1 : m ≤ 10 ^ 41) (k : ∀ H', Same H H' → Q (.int (cnt (mem S h p) m)) H') : tMeth a.c_Pattern "_below" (spBelowM a) [] E0 (tVar i) (tCons te tNil) σ H Q := by
  obtain ⟨dx, st, u, hx⟩ := c.hx
  refine ⟨_, hi, x, dx, _, rfl, hx, (by kernel_rfl : List.lookup _ _ = (none : Option V)), ht _ ?_⟩
  refine ⟨x, h, p, S, m, rfl, c.at', c.p1, c.p2, c.h0, c.h1, by have := c.tot; have := c.h1; have := c.p2; omega, by omega, m1, fun H' s => ?_⟩
  rw [below_cnt c.td c.h0 c.p1 c.box m0]
  exact k H' s
theorem PatC.m_nth {a : Ad} {σ : St} {H : Hp} {Q : VK} {te : TE} {x : Addr} {h p j : Int} {S : List Iv} {i : Nat} (c : PatC a H x h p S) (hi : σ[i]? = some (some (V.ref x))) (ht : Val te σ H (.int j)) (i0 : 0 ≤ j) (i1 : j ≤ 10 ^ 60) (k : ∀ r H', IsNth (mem S h p) j r → Same H H' → Q (optV r) H') : tMeth a.c_Pattern "_nth" (spNthM a) [] E0 (tVar i) (tCons te tNil) σ H Q := by
  obtain ⟨dx, st, u, hx⟩ := c.hx
  have nl := near_le (m := h) c.td
  refine ⟨_, hi, x, dx, _, rfl, hx, (by kernel_rfl : List.lookup _ _ = (none : Option V)), ht _ ?_⟩
  exact ⟨x, h, p, S, j, rfl, c.at', c.p1, c.p2, i0, i1, nl.1, nl.2, by have := c.tot; have := c.h1; have := c.p2; omega, fun r H' n s => k r H' (nth_is c.td c.h0 c.p1 c.box n) s⟩
/-- self._nth(self._below(m)) -/
theorem PatC.m_nthb {a : Ad} {σ : St} {H : Hp} {Q : VK} {te : TE} {x : Addr} {h p m : Int} {S : List Iv} {i : Nat} (c : PatC a H x h p S) (hi : σ[i]? = some (some (V.ref x))) (ht : Val te σ H (.int m)) (m0 : 0 ≤ m) (m1 : m ≤ 10 ^ 41) (k : ∀ r H', IsNth (mem S h p) (cnt (mem S h p) m) r → Same H H' → Q (optV r) H') :
    tMeth a.c_Pattern "_nth" (spNthM a) [] E0 (tVar i) (tCons (tMeth a.c_Pattern "_below" (spBelowM a) [] E0 (tVar i) (tCons te tNil)) tNil) σ H Q := by
  obtain ⟨dx, st, u, hx⟩ := c.hx
  have nl := near_le (m := h) c.td
  have cb := cnt_bounds (mem S h p) m0
  refine ⟨_, hi, x, dx, _, rfl, hx, (by kernel_rfl : List.lookup _ _ = (none : Option V)), ?_⟩
  refine c.m_below hi ht m0 m1 fun H1 s1 => ?_
  have c1 := c.same s1
  exact ⟨x, h, p, S, _, rfl, c1.at', c.p1, c.p2, cb.1, by omega, nl.1, nl.2, by have := c.tot; have := c.h1; have := c.p2; omega, fun r H' n s => k r H' (nth_is c.td c.h0 c.p1 c.box n) (s1.trans s)⟩
def spNum (a : Ad) : Sp := fun vs H Q E => ∃ (x : Addr) (h p : Int) (S : List Iv) (s e : Int), vs = [.ref x, .int s, .int e] ∧ PatC a H x h p S ∧ (¬ (0 ≤ s ∧ s ≤ 10 ^ 40) → Out a E H "start" s) ∧ ((0 ≤ s ∧ s ≤ 10 ^ 40) → ¬ (0 ≤ e ∧ e ≤ 10 ^ 40) → Out a E H "end" e) ∧
  ((0 ≤ s ∧ s ≤ 10 ^ 40) → (0 ≤ e ∧ e ≤ 10 ^ 40) → ∀ H', Same H H' → Q (.int (if s < e then cnt (mem S h p) e - cnt (mem S h p) s else 0)) H')
def spMinAt (a : Ad) : Sp := fun vs H Q E => ∃ (x : Addr) (h p : Int) (S : List Iv) (i : Int), vs = [.ref x, .int i] ∧ PatC a H x h p S ∧ (¬ (0 ≤ i ∧ i ≤ 10 ^ 40) → Out a E H "index" i) ∧ ((0 ≤ i ∧ i ≤ 10 ^ 40) → ∀ r H', IsNth (mem S h p) i r → Same H H' → Q (optV r) H')
def spFirst (a : Ad) : Sp := fun vs H Q E => ∃ (x : Addr) (h p : Int) (S : List Iv) (m : Int), vs = [.ref x, .int m] ∧ PatC a H x h p S ∧ (¬ (0 ≤ m ∧ m ≤ 10 ^ 40) → Out a E H "minute" m) ∧ ((0 ≤ m ∧ m ≤ 10 ^ 40) → ∀ r H', IsNth (mem S h p) (cnt (mem S h p) m) r → Same H H' → Q (optV r) H')
def spLast (a : Ad) : Sp := fun vs H Q E => ∃ (x : Addr) (h p : Int) (S : List Iv) (m : Int), vs = [.ref x, .int m] ∧ PatC a H x h p S ∧ (¬ (0 ≤ m ∧ m ≤ 10 ^ 40) → Out a E H "minute" m) ∧ ((0 ≤ m ∧ m ≤ 10 ^ 40) → ∀ r H', (if 0 < cnt (mem S h p) m then IsNth (mem S h p) (cnt (mem S h p) m - 1) r else r = none) → Same H H' → Q (optV r) H')
section
variable {P : Program} {w : World} {K : PySem.W.Frag} {mg : Str → Option Value} {base : Heap} {a : Ad}
theorem G_Pattern_number_in (T : Tx K mg a) : FnOk P w K mg base (L2.CX P w) 4 a.f_Pattern_number_in a.d_Pattern_number_in ["self", "start", "end"] (spNum a) := by
  refine T.F_Pattern_number_in.okX sc_Pattern_number_in (fun vs H Q E h => ?_) (fun cdv A outer s H vs Q E hr h => ?_)
  · obtain ⟨x, h, p, S, s, e, rfl, _⟩ := h
    rfl
  · obtain ⟨x, hh, p, S, s, e, rfl, c, k1, k2, k3⟩ := h
    refine ⟨_, (pss_cons (ps_expr (pe_call (G_in_range T) (hr.mono (by decide)) rfl T.g_in_range T.F_in_range.kp T.b_in_range .nil (passes_call (takes_of rfl rfl rfl rfl) (fun _ _ _ _ h => h)) (pa_cons pe_str (pa_cons (pv 1) (pa_cons pe_int (pa_cons (pe_glob (v := .int (10 ^ 40)) rfl T.g_FAR.choose_spec ⟨_, rfl⟩) pa_nil))))))
      (pss_cons (ps_expr (pe_call (G_in_range T) (hr.mono (by decide)) rfl T.g_in_range T.F_in_range.kp T.b_in_range .nil (passes_call (takes_of rfl rfl rfl rfl) (fun _ _ _ _ h => h)) (pa_cons pe_str (pa_cons (pv 2) (pa_cons pe_int (pa_cons (pe_glob (v := .int (10 ^ 40)) rfl T.g_FAR.choose_spec ⟨_, rfl⟩) pa_nil))))))
      (pss_one (ps_ret (pe_ifExp (pt_cmpR op_lt (pv 1) (pv 2) (nomark _)) (pe_op op_sub (pe_meth (pv 0) T.cl_Pattern T.m_Pattern_below (G_Pattern_below T) (hr.mono (by decide)) T.b_Pattern_below .nil pass0 (pa_cons (pv 2) pa_nil)) (pe_meth (pv 0) T.cl_Pattern T.m_Pattern_below (G_Pattern_below T) (hr.mono (by decide)) T.b_Pattern_below .nil pass0 (pa_cons (pv 1) pa_nil))) pe_int))))), ?_⟩
    refine st_do ⟨_, rfl, "start", s, 0, 10 ^ 40, rfl, fun c1 => ?_, k1⟩
    refine st_do ⟨_, rfl, "end", e, 0, 10 ^ 40, rfl, fun c2 => ?_, k2 c1⟩
    have k := k3 c1 c2
    dsimp only
    refine st_ret0 (t_if _ (a_cmp (f := fun i j => decide (i < j)) (val_var rfl) (val_var rfl)) (fun z => ?_) fun z => ?_)
    · rw [if_pos (of_decide_eq_true z)] at k
      exact c.m_below rfl (val_var rfl) c2.1 (by omega) fun H1 s1 => (c.same s1).m_below rfl (val_var rfl) c1.1 (by omega) fun H2 s2 => ⟨_, _, rfl, rfl, k H2 (s1.trans s2)⟩
    · rw [if_neg (of_decide_eq_false z)] at k
      exact k H (Same.refl _)
theorem G_Pattern_minute_at (T : Tx K mg a) : FnOk P w K mg base (L2.CX P w) 4 a.f_Pattern_minute_at a.d_Pattern_minute_at ["self", "index"] (spMinAt a) := by
  refine T.F_Pattern_minute_at.okX sc_Pattern_minute_at (fun vs H Q E h => ?_) (fun cdv A outer s H vs Q E hr h => ?_)
  · obtain ⟨x, h, p, S, s, rfl, _⟩ := h
    rfl
  · obtain ⟨x, hh, p, S, i, rfl, c, k1, k2⟩ := h
    refine ⟨_, (pss_cons (ps_expr (pe_call (G_in_range T) (hr.mono (by decide)) rfl T.g_in_range T.F_in_range.kp T.b_in_range .nil (passes_call (takes_of rfl rfl rfl rfl) (fun _ _ _ _ h => h)) (pa_cons pe_str (pa_cons (pv 1) (pa_cons pe_int (pa_cons (pe_glob (v := .int (10 ^ 40)) rfl T.g_FAR.choose_spec ⟨_, rfl⟩) pa_nil))))))
      (pss_one (ps_ret (pe_meth (pv 0) T.cl_Pattern T.m_Pattern_nth (G_Pattern_nth T) (hr.mono (by decide)) T.b_Pattern_nth .nil pass0 (pa_cons (pv 1) pa_nil))))), ?_⟩
    refine st_do ⟨_, rfl, "index", i, 0, 10 ^ 40, rfl, fun c1 => ?_, k1⟩
    have k := k2 c1
    exact c.m_nth rfl (val_var rfl) c1.1 (by omega) k
theorem G_Pattern_first_from (T : Tx K mg a) : FnOk P w K mg base (L2.CX P w) 4 a.f_Pattern_first_from a.d_Pattern_first_from ["self", "minute"] (spFirst a) := by
  refine T.F_Pattern_first_from.okX sc_Pattern_first_from (fun vs H Q E h => ?_) (fun cdv A outer s H vs Q E hr h => ?_)
  · obtain ⟨x, h, p, S, s, rfl, _⟩ := h
    rfl
  · obtain ⟨x, hh, p, S, m, rfl, c, k1, k2⟩ := h
    refine ⟨_, (pss_cons (ps_expr (pe_call (G_in_range T) (hr.mono (by decide)) rfl T.g_in_range T.F_in_range.kp T.b_in_range .nil (passes_call (takes_of rfl rfl rfl rfl) (fun _ _ _ _ h => h)) (pa_cons pe_str (pa_cons (pv 1) (pa_cons pe_int (pa_cons (pe_glob (v := .int (10 ^ 40)) rfl T.g_FAR.choose_spec ⟨_, rfl⟩) pa_nil))))))
      (pss_one (ps_ret (pe_meth (pv 0) T.cl_Pattern T.m_Pattern_nth (G_Pattern_nth T) (hr.mono (by decide)) T.b_Pattern_nth .nil pass0 (pa_cons (pe_meth (pv 0) T.cl_Pattern T.m_Pattern_below (G_Pattern_below T) (hr.mono (by decide)) T.b_Pattern_below .nil pass0 (pa_cons (pv 1) pa_nil)) pa_nil))))), ?_⟩
    refine st_do ⟨_, rfl, "minute", m, 0, 10 ^ 40, rfl, fun c1 => ?_, k1⟩
    have k := k2 c1
    exact c.m_nthb rfl (val_var rfl) c1.1 (by omega) k
theorem G_Pattern_last_before (T : Tx K mg a) : FnOk P w K mg base (L2.CX P w) 4 a.f_Pattern_last_before a.d_Pattern_last_before ["self", "minute"] (spLast a) := by
  refine T.F_Pattern_last_before.okX sc_Pattern_last_before (fun vs H Q E h => ?_) (fun cdv A outer s H vs Q E hr h => ?_)
  · obtain ⟨x, h, p, S, s, rfl, _⟩ := h
    rfl
  · obtain ⟨x, hh, p, S, m, rfl, c, k1, k2⟩ := h
    refine ⟨_, (pss_cons (ps_expr (pe_call (G_in_range T) (hr.mono (by decide)) rfl T.g_in_range T.F_in_range.kp T.b_in_range .nil (passes_call (takes_of rfl rfl rfl rfl) (fun _ _ _ _ h => h)) (pa_cons pe_str (pa_cons (pv 1) (pa_cons pe_int (pa_cons (pe_glob (v := .int (10 ^ 40)) rfl T.g_FAR.choose_spec ⟨_, rfl⟩) pa_nil))))))
      (pss_cons (ps_set (i := 2) sc_Pattern_last_before.nd rfl (Or.inl rfl) (pe_meth (pv 0) T.cl_Pattern T.m_Pattern_below (G_Pattern_below T) (hr.mono (by decide)) T.b_Pattern_below .nil pass0 (pa_cons (pv 1) pa_nil)))
      (pss_one (ps_ret (pe_ifExp (pt_cmpR op_gt (pv 2) pe_int (nomark _)) (pe_meth (pv 0) T.cl_Pattern T.m_Pattern_nth (G_Pattern_nth T) (hr.mono (by decide)) T.b_Pattern_nth .nil pass0 (pa_cons (pe_op op_sub (pv 2) pe_int) pa_nil)) pe_non))))), ?_⟩
    refine st_do ⟨_, rfl, "minute", m, 0, 10 ^ 40, rfl, fun c1 => ?_, k1⟩
    have k := k2 c1
    dsimp only
    have cb := cnt_bounds (mem S hh p) c1.1
    refine st_letX (c.m_below rfl (val_var rfl) c1.1 (by omega) fun H1 s1 => ?_)
    refine st_ret0 (t_if _ (a_cmp (f := fun i j => decide (j < i)) (val_var rfl) val_c) (fun z => ?_) fun z => ?_)
    · have z := of_decide_eq_true z
      exact (c.same s1).m_nth rfl (v_rI0 (g := fun i j => .int (i - j)) (val_var rfl) val_c) (by omega) (by omega) fun r H' n s' => k r H' (by rw [if_pos z]; exact n) (s1.trans s')
    · have z := of_decide_eq_false z
      exact k none H1 (by rw [if_neg z]) s1
end
end My

namespace My
open PySem L2
theorem gfor_range {lo : Int} {n : Nat} {g : TG} {tb : TGn} {D : GEnds} {ys : List V} {σ : St} {H : Hp} (Pv : Nat → List V → St → Hp → Prop) (h0 : Pv 0 ys σ H)
    (hs : ∀ i ys σ H, i < n → Pv i ys σ H → g (.int (lo + i)) σ H fun σ2 H2 => tb { D with nx := Pv (i + 1), ct := Pv (i + 1), bk := D.nx } ys σ2 H2) (hd : ∀ ys σ H, Pv n ys σ H → D.nx ys σ H) :
    ∃ W : Nat → Nat → List V → St → Hp → Prop, (∃ m, W 0 m ys σ H) ∧ ∀ i m ys σ H, W i m ys σ H →
      ((Itr lo n).stop i H ∧ D.nx ys σ H) ∨ ((Itr lo n).go i H ∧ ∃ N : List V → St → Hp → Prop, (∀ ys' σ' H', N ys' σ' H' → ∃ m', m' < m ∧ W (i + 1) m' ys' σ' H') ∧ ∀ x H', (Itr lo n).yld i H x H' → g x σ H' fun σ2 H2 => tb { D with nx := N, ct := N, bk := D.nx } ys σ2 H2) := by
  refine ⟨fun i m ys σ H => m = n - i ∧ i ≤ n ∧ Pv i ys σ H, ⟨n, by simp, Nat.zero_le _, h0⟩, ?_⟩
  rintro i m ys σ H ⟨rfl, hi, p⟩
  by_cases hlt : i < n
  · refine .inr ⟨hlt, Pv (i + 1), fun ys' σ' H' p' => ⟨n - (i + 1), by omega, rfl, hlt, p'⟩, fun x H' y => ?_⟩
    obtain ⟨e, y⟩ := y
    subst e y
    exact hs i ys σ _ hlt p
  · have e : i = n := by omega
    subst e
    exact .inl ⟨Nat.le_refl _, hd ys σ H p⟩
theorem g_then {t u : TGn} {D : GEnds} {ys : List V} {σ : St} {H : Hp} (h : t { D with nx := fun ys' σ' H' => u D ys' σ' H' } ys σ H) : tGThen t u D ys σ H := h
theorem gs_forR {ta tc : TE} {g : TG} {tb : TGn} {D : GEnds} {ys : List V} {σ : St} {H : Hp} {lo hi : Int} {n : Nat} (ha : Val ta σ H (.int lo)) (hc : Val tc σ H (.int hi)) (hn : (hi - lo).toNat = n) (Pv : Nat → List V → St → Hp → Prop) (h0 : Pv 0 ys σ H)
    (hs : ∀ i ys σ H, i < n → Pv i ys σ H → g (.int (lo + i)) σ H fun σ2 H2 => tb { D with nx := Pv (i + 1), ct := Pv (i + 1), bk := D.nx } ys σ2 H2) (hd : ∀ ys σ H, Pv n ys σ H → D.nx ys σ H) : tGFor (iRng2W (tCons ta (tCons tc tNil))) g tb D ys σ H :=
  ha _ (hc _ ⟨lo, hi, rfl, by rw [hn]; exact gfor_range Pv h0 hs hd⟩)
def spEach (a : Ad) : SpG := fun vs H Q E => ∃ (x : Addr) (h p : Int) (S : List Iv) (s e : Int), vs = [.ref x, .int s, .int e] ∧ PatC a H x h p S ∧ (¬ (0 ≤ s ∧ s ≤ 10 ^ 40) → Out a E H "start" s) ∧ ((0 ≤ s ∧ s ≤ 10 ^ 40) → ¬ (0 ≤ e ∧ e ≤ 10 ^ 40) → Out a E H "end" e) ∧
  ((0 ≤ s ∧ s ≤ 10 ^ 40) → (0 ≤ e ∧ e ≤ 10 ^ 40) → cnt (mem S h p) e - cnt (mem S h p) s ≤ 1000 ∧ ∀ ms H', Listed (mem S h p) s e ms → Same H H' → Q (ms.map V.int) H')
section
variable {P : Program} {w : World} {K : PySem.W.Frag} {mg : Str → Option Value} {base : Heap} {a : Ad}
theorem G_Pattern_each_minute (T : Tx K mg a) : GFn P w K mg base 4 a.f_Pattern_each_minute a.d_Pattern_each_minute ["self", "start", "end"] (spEach a) := by
  refine T.F_Pattern_each_minute.okG sc_Pattern_each_minute (fun vs H Q E h => ?_) (fun cdv A outer s H vs Q E pn hr h => ?_)
  · obtain ⟨x, h, p, S, s, e, rfl, _⟩ := h
    rfl
  · obtain ⟨x, hh, p, S, st, en, rfl, c, k1, k2, k3⟩ := h
    refine ⟨_, (gss_cons (gs_ps (ps_expr (pe_call (G_in_range T) (hr.mono (by decide)) rfl T.g_in_range T.F_in_range.kp T.b_in_range .nil (passes_call takes_gcx (fun _ _ _ _ h => h)) (pa_cons pe_str (pa_cons (pv 1) (pa_cons pe_int (pa_cons (pe_glob (v := .int (10 ^ 40)) rfl T.g_FAR.choose_spec ⟨_, rfl⟩) pa_nil)))))))
      (gss_cons (gs_ps (ps_expr (pe_call (G_in_range T) (hr.mono (by decide)) rfl T.g_in_range T.F_in_range.kp T.b_in_range .nil (passes_call takes_gcx (fun _ _ _ _ h => h)) (pa_cons pe_str (pa_cons (pv 2) (pa_cons pe_int (pa_cons (pe_glob (v := .int (10 ^ 40)) rfl T.g_FAR.choose_spec ⟨_, rfl⟩) pa_nil)))))))
      (gss_cons (gs_ps (ps_set (i := 3) sc_Pattern_each_minute.nd rfl (Or.inl rfl) (pe_meth (pv 0) T.cl_Pattern T.m_Pattern_nth (G_Pattern_nth T) (hr.mono (by decide)) T.b_Pattern_nth .nil pass0 (pa_cons (pe_meth (pv 0) T.cl_Pattern T.m_Pattern_below (G_Pattern_below T) (hr.mono (by decide)) T.b_Pattern_below .nil pass0 (pa_cons (pv 1) pa_nil)) pa_nil))))
      (gss_one (gs_while owns_gcx (PW.pt (pw_and (pt_cmpR op_notN (pv 3) pe_non (nomark _)) (pw_and1 (pt_cmpR op_lt (pv 3) (pv 2) (nomark _))))) (gss_cons (gs_ps (ps_set (i := 4) sc_Pattern_each_minute.nd rfl (Or.inl rfl) (pe_callB (call_min2 rfl) (by rfl) T.n_min (by decide +kernel) (pa_cons (pv 2) (pa_cons (pe_meth (pv 0) T.cl_Pattern T.m_Pattern_run_end (G_Pattern_run_end T) (hr.mono (by decide)) T.b_Pattern_run_end .nil pass0 (pa_cons (pv 3) pa_nil)) pa_nil)))))
      (gss_cons (gs_for owns_gcx rfl (pi_range2W rfl T.n_range (pa_cons (pv 3) (pa_cons (pv 4) pa_nil))) (pg_name (i := 5) sc_Pattern_each_minute.nd rfl (Or.inl rfl)) (gss_one (gs_yield (pv 5))))
      (gss_one (gs_ps (ps_set (i := 3) sc_Pattern_each_minute.nd rfl (Or.inl rfl) (pe_meth (pv 0) T.cl_Pattern T.m_Pattern_nth (G_Pattern_nth T) (hr.mono (by decide)) T.b_Pattern_nth .nil pass0 (pa_cons (pe_meth (pv 0) T.cl_Pattern T.m_Pattern_below (G_Pattern_below T) (hr.mono (by decide)) T.b_Pattern_below .nil pass0 (pa_cons (pv 4) pa_nil)) pa_nil)))))))))))), ?_⟩
    refine ⟨_, rfl, "start", st, 0, 10 ^ 40, rfl, fun c1 => ?_, k1⟩
    refine ⟨_, rfl, "end", en, 0, 10 ^ 40, rfl, fun c2 => ?_, k2 c1⟩
    obtain ⟨many, k⟩ := k3 c1 c2
    clear k1 k2 k3
    obtain ⟨f, hf⟩ : ∃ f, f = mem S hh p := ⟨_, rfl⟩
    rw [← hf] at many k
    refine c.m_nthb rfl (val_var rfl) c1.1 (by omega) fun r0 H1 n0 s1 => ?_
    rw [← hf] at n0
    refine ⟨fun m ys σ' H' => ∃ (ms : List Int) (cu : Int) (r : Option Int) (v4 v5 : Option V), σ' = [some (.ref x), some (.int st), some (.int en), some (optV r), v4, v5] ∧ ys = ms.map V.int ∧ Same H H' ∧ Listed f st cu ms ∧ st ≤ cu ∧ (cu ≤ en ∨ (ms = [] ∧ cu = st)) ∧ IsNth f (cnt f cu) r ∧ (ms.length : Int) = cnt f cu - cnt f st ∧ m = (en - cu).toNat,
      ⟨_, [], st, r0, none, none, rfl, rfl, s1, .nil (Int.le_refl _), Int.le_refl _, Or.inr ⟨rfl, rfl⟩, n0, by simp, rfl⟩, ?_⟩
    rintro m ys σ' H' ⟨ms, cu, r, v4, v5, rfl, rfl, s', l, scu, cue, nr, ln, rfl⟩
    have cu0 : 0 ≤ cu := by omega
    have done : (∀ u, cu ≤ u → u < en → f u = false) → Q (ms.map V.int) H' := fun no => by
      refine k ms H' ?_ s'
      rcases cue with z | ⟨rfl, rfl⟩
      · exact l.ext z no
      · by_cases z : cu ≤ en
        · exact l.ext z no
        · exact .nil (by omega)
    cases r with
    | none =>
      refine (a_and (b := false) (c := false) (fun QT q => ⟨_, rfl, rfl, _, rfl, q⟩) (fun z => nomatch z)) _ (iteF ?_)
      exact done fun u u0 _ => nth_none cu0 nr u u0
    | some t =>
      obtain ⟨ct, ft, no⟩ := nth_ge cu0 nr
      refine (a_and (b := true) (c := decide (t < en)) (fun QT q => ⟨_, rfl, rfl, _, rfl, (by rw [show (!decide (optV (some t) = V.non)) = true by simp [optV]]; exact q)⟩) (fun _ => a_cmp (f := fun i j => decide (i < j)) (val_var rfl) (val_var rfl))) _ ?_
      by_cases te : t < en
      · rw [decide_eq_true te]
        refine iteT ?_
        refine ⟨_, fun ys' σ' H' z => z, ?_⟩
        have cc := c.same s'
        obtain ⟨dx, s0, u0, hx⟩ := cc.hx
        have ft' : inL S (placeOf hh p t) = true := by rw [hf] at ft; exact ft
        refine ⟨_, rfl, _, rfl, x, dx, _, rfl, hx, (by kernel_rfl : List.lookup _ _ = (none : Option V)), _, rfl, x, hh, p, S, t, rfl, cc.at', c.p1, c.p2, fun z hz z1 z2 => ⟨en, t + z.2 - placeOf hh p t, rfl, ?_⟩, fun z => by rw [ft'] at z; cases z⟩
        have run := mem_run c.h0 c.p1 hz (c.box z hz).2 z1 z2
        rw [← hf] at run
        obtain ⟨hv, ehv, hv1, hv2, hv3⟩ : ∃ hv : Int, hv = (if t + z.2 - placeOf hh p t < en then t + z.2 - placeOf hh p t else en) ∧ t < hv ∧ hv ≤ en ∧ hv ≤ t + (z.2 - placeOf hh p t) := ⟨_, rfl, by split <;> omega, by split <;> omega, by split <;> omega⟩
        rw [← ehv]
        clear ehv
        have run : ∀ u, t ≤ u → u < hv → f u = true := fun u a b => run u a (by omega)
        have ct0 : cnt f t = cnt f cu := by
          have := cnt_none cu0 (t - cu).toNat fun u a b => no u a (by omega)
          rw [show cu + (((t - cu).toNat : Nat) : Int) = t by omega] at this
          exact this
        dsimp only [gName, GEnds.at]
        have many' := many
        have n0 : (0 : Int) ≤ hv - t := by omega
        have bnd : ∀ i : Nat, i ≤ (hv - t).toNat → (ms.length : Int) + i ≤ 1000 := fun i hi => by
          have e1 := cnt_run (f := f) (show 0 ≤ t by omega) i fun u a b => run u a (by omega)
          have e2 := cnt_mono (f := f) (show t + (i : Int) ≤ en by omega)
          omega
        have big : 1001 ≤ sizeLine := by decide
        refine g_then (gs_forR (n := (hv - t).toNat) (val_var rfl) (val_var rfl) rfl (fun i ys σ' H2 => (∃ v5, σ' = [some (.ref x), some (.int st), some (.int en), some (.int t), some (.int hv), v5]) ∧ H2 = H' ∧ ys = (ms ++ (List.range i).map fun (i : Nat) => t + (i : Int)).map V.int) ⟨⟨_, rfl⟩, rfl, by simp⟩ ?_ ?_)
        · rintro i ys σ' H2 hi ⟨⟨v5', rfl⟩, rfl, rfl⟩
          have := bnd i (by omega)
          refine g_name (g_then ⟨by rw [List.length_map, List.length_append, List.length_map, List.length_range]; omega, _, rfl, ?_⟩)
          exact ⟨⟨_, rfl⟩, rfl, by rw [List.range_succ]; simp⟩
        · rintro ys σ' H2 ⟨⟨v5', rfl⟩, rfl, rfl⟩
          have l' := l.run scu ct no (n := (hv - t).toNat) fun u a b => run u a (by omega)
          rw [show t + (((hv - t).toNat : Nat) : Int) = hv by omega] at l'
          have e1 := cnt_run (f := f) (show 0 ≤ t by omega) (hv - t).toNat fun u a b => run u a (by omega)
          rw [show t + (((hv - t).toNat : Nat) : Int) = hv by omega] at e1
          refine g_then (cc.m_nthb rfl (val_var rfl) (by omega) (by omega) fun r1 H3 n1 s3 => ?_)
          rw [← hf] at n1
          refine ⟨(en - hv).toNat, by omega, _, hv, r1, _, _, rfl, rfl, s'.trans s3, l', by omega, Or.inl hv2, n1, ?_, rfl⟩
          rw [List.length_append, List.length_map, List.length_range]
          omega
      · rw [decide_eq_false te]
        exact iteF (done fun u u0 u1 => no u u0 (by omega))
end
end My

namespace My
open PySem L2
theorem divW {i d : Int} (h : 0 < d) (h2 : d ≤ 1000000) : CDivW i d := wide_div (b := 20) h (by omega) (by decide) (by decide)
/-! ### 8. the pool of draws: any whole numbers; what is drawn lies in its bounds -/
/-- the pool at l, its cells at cl, at most n draws behind it -/
def PoolAt (H : Hp) (l cl : Addr) (n : Nat) : Prop := ∃ (x b : Int) (ns : List Int), H l = some (.lst [.int x, .int b, .ref cl]) ∧ H cl = some (.lst (ns.map V.int)) ∧ 0 ≤ b ∧ b ≤ n
/-- only the pool may have changed -/
def Fr (l cl : Addr) (H H' : Hp) : Prop := ∀ b o, H b = some o → b ≠ l → b ≠ cl → H' b = some o
theorem Fr.refl (l cl : Addr) (H : Hp) : Fr l cl H H := fun _ _ h _ _ => h
theorem Fr.trans {l cl : Addr} {H H1 H2 : Hp} (a : Fr l cl H H1) (b : Fr l cl H1 H2) : Fr l cl H H2 := fun c o h n m => b c o (a c o h n m) n m
theorem Fr.of {l cl : Addr} {H H' : Hp} (s : Same H H') : Fr l cl H H' := fun c o h _ _ => s c o h
theorem PoolAt.ne {H : Hp} {l cl : Addr} {n : Nat} (h : PoolAt H l cl n) : l ≠ cl := by
  obtain ⟨x, b, ns, h1, h2, _⟩ := h
  intro z
  rw [z, h2] at h1
  injection h1 with h1
  injection h1 with h1
  rcases ns with _ | ⟨x1, _ | ⟨x2, _ | ⟨x3, ns⟩⟩⟩
  · cases h1
  · cases h1
  · cases h1
  · injection h1 with _ h1
    injection h1 with _ h1
    injection h1 with h1 _
    cases h1
theorem PoolAt.same {H H' : Hp} {l cl : Addr} {n : Nat} (h : PoolAt H l cl n) (s : Same H H') : PoolAt H' l cl n := by
  obtain ⟨x, b, ns, h1, h2, h3⟩ := h
  exact ⟨x, b, ns, s _ _ h1, s _ _ h2, h3⟩
theorem PoolAt.mono {H : Hp} {l cl : Addr} {n m : Nat} (h : PoolAt H l cl n) (e : n ≤ m) : PoolAt H l cl m := by
  obtain ⟨x, b, ns, h1, h2, h3, h4⟩ := h
  exact ⟨x, b, ns, h1, h2, h3, by omega⟩
/-- what is no list stays -/
theorem Fr.keep {H H' : Hp} {l cl b : Addr} {n : Nat} {o : HO} (f : Fr l cl H H') (h : PoolAt H l cl n) (hb : H b = some o) (ho : ∀ xs, o ≠ .lst xs) : H' b = some o := by
  obtain ⟨x, y, ns, h1, h2, _⟩ := h
  refine f b o hb (fun z => ?_) fun z => ?_
  · rw [z, h1] at hb
    cases hb
    exact ho _ rfl
  · rw [z, h2] at hb
    cases hb
    exact ho _ rfl
theorem Fr.tup {H H' : Hp} {l cl t : Addr} {n : Nat} {xs : List V} (f : Fr l cl H H') (h : PoolAt H l cl n) (ht : H t = some (.tup xs)) : H' t = some (.tup xs) := f.keep h ht fun _ z => by cases z
theorem Fr.sqT {K : PySem.W.Frag} {H H' : Hp} {l cl t : Addr} {n : Nat} {xs : List V} (f : Fr l cl H H') (h : PoolAt H l cl n) (ht : SqT K H t xs) : SqT K H' t xs := by
  rcases ht with (z | ⟨o, z⟩) | z
  · exact Or.inl (Or.inl (f.keep h z fun _ y => by cases y))
  · exact Or.inl (Or.inr ⟨o, f.keep h z fun _ y => by cases y⟩)
  · exact Or.inr z
def spDraw : Sp := fun vs H Q _ => ∃ (l cl : Addr) (m : Int) (n : Nat), vs = [.ref l, .int m] ∧ PoolAt H l cl n ∧ n < 2 ^ 40 ∧ 0 < m ∧ m < 2 ^ 200 ∧ ∀ (d : Int) H', 0 ≤ d → d < m → PoolAt H' l cl (n + 1) → Fr l cl H H' → Q (.int d) H'
theorem cut_ints (ns : List Int) (lo hi : Option Int) : ∃ ms : List Int, cutV (ns.map V.int) lo hi = ms.map V.int ∧ ms.length ≤ ns.length := by
  refine ⟨((ns.drop (HT.sIx ns.length 0 lo)).take (HT.sIx ns.length ns.length hi - HT.sIx ns.length 0 lo)), ?_, ?_⟩
  · unfold cutV
    simp only [List.length_map, List.map_take, List.map_drop]
  · simp only [List.length_take, List.length_drop]
    omega
section
variable {P : Program} {w : World} {K : PySem.W.Frag} {mg : Str → Option Value} {base : Heap} {a : Ad}
theorem G__law_draw (T : Tx K mg a) : FnOk P w K mg base CX0 1 a.f__law_draw a.d__law_draw ["pool", "many"] spDraw := by
  refine T.F__law_draw.ok sc__law_draw (fun vs H Q E h => ?_) (fun cdv A outer s H vs Q E hr h => ?_)
  · obtain ⟨l, cl, m, n, rfl, _⟩ := h
    rfl
  · obtain ⟨l, cl, m, n, rfl, hp, hn, m0, m1, k⟩ := h
    refine ⟨_, (pss_cons (ps_if (PW.pt (pw_and (pt_cmpR op_eq (pe_ix ix_list (pv 0) pe_int (fun _ _ => rfl)) pe_int (nomark _)) (pw_and1 (pt_cmpR op_gt (pe_callB call_len_seq (by rfl) T.n_len (by decide +kernel) (pa_cons (pe_ix ix_list (pv 0) pe_int (fun _ _ => rfl)) pa_nil)) pe_int (nomark _))))) (pss_one (ps_asg (pe_bm0 PySem.F.plainAttrs_list PySem.F.slot_list_pop PySem.F.type_list_pop mt_pop (pe_ix ix_list (pv 0) pe_int (fun _ _ => rfl))) (pg_sub (pv 0) pe_int set_list))) pss_nil)
      (pss_cons (ps_if (pt_cmpR op_eq (pe_ix ix_list (pv 0) pe_int (fun _ _ => rfl)) pe_int (nomark _)) (pss_cons (ps_asg (pe_op op_add (pe_ix ix_list (pv 0) pe_int (fun _ _ => rfl)) pe_int) (pg_sub (pv 0) pe_int set_list))
      (pss_one (ps_ret (pe_op op_mod (pe_callTy call_int1 (by rfl) T.n_int (by decide +kernel) (pa_cons (pe_op op_fdivW (pe_op op_mul (pe_ix ix_list (pv 0) pe_int (fun _ _ => rfl)) (pe_op op_add (pe_ix ix_list (pv 0) pe_int (fun _ _ => rfl)) pe_int)) pe_int) pa_nil)) (pv 1))))) pss_nil)
      (pss_cons (ps_set (i := 2) sc__law_draw.nd rfl (Or.inl rfl) (pe_op op_mod (pe_callTy call_int1 (by rfl) T.n_int (by decide +kernel) (pa_cons (pe_ix ix_list (pv 0) pe_int (fun _ _ => rfl)) pa_nil)) (pv 1)))
      (pss_cons (ps_asg (pe_op op_fdivW (pe_callTy call_int1 (by rfl) T.n_int (by decide +kernel) (pa_cons (pe_ix ix_list (pv 0) pe_int (fun _ _ => rfl)) pa_nil)) (pv 1)) (pg_sub (pv 0) pe_int set_list))
      (pss_one (ps_ret (pv 2))))))), ?_⟩
    have ne := hp.ne
    obtain ⟨x, b, ns, h1, h2, b0, bn⟩ := hp
    have i0 : ∀ {H : Hp} {σ : St} {x b : Int}, H l = some (.lst [.int x, .int b, .ref cl]) → σ[0]? = some (some (.ref l)) → Val (tOp (rIxL K) (tVar 0) (tC (.int 0))) σ H (.int x) := fun h e => v_ixL (val_var e) val_c (SqL.of h) rfl
    have i1 : ∀ {H : Hp} {σ : St} {x b : Int}, H l = some (.lst [.int x, .int b, .ref cl]) → σ[0]? = some (some (.ref l)) → Val (tOp (rIxL K) (tVar 0) (tC (.int 1))) σ H (.int b) := fun h e => v_ixL (val_var e) val_c (SqL.of h) rfl
    have i2 : ∀ {H : Hp} {σ : St} {x b : Int}, H l = some (.lst [.int x, .int b, .ref cl]) → σ[0]? = some (some (.ref l)) → Val (tOp (rIxL K) (tVar 0) (tC (.int 2))) σ H (.ref cl) := fun h e => v_ixL (val_var e) val_c (SqL.of h) rfl
    refine st_shareH (fun H' => ∃ (x : Int) (ns : List Int), H' l = some (.lst [.int x, .int b, .ref cl]) ∧ H' cl = some (.lst (ns.map V.int)) ∧ Fr l cl H H') ?_ fun N hN => ?_
    · rintro H' ⟨x, ns, h1, h2, f⟩
      refine st_guard (q := x = 0) (a_eq (i0 h1 rfl) val_c) (by simp) (fun z => ?_) fun z => ?_
      · refine st_puts (v := .int (b + 1)) (v_rI0 (g := fun i j => .int (i + j)) (i1 h1 rfl) val_c) (val_var (i := 0) rfl) val_c h1 (by rfl) ?_
        have u1 : upd H' l (.lst [.int x, .int (b + 1), .ref cl]) l = some (.lst [.int x, .int (b + 1), .ref cl]) := upd_same
        have u2 : upd H' l (.lst [.int x, .int (b + 1), .ref cl]) cl = some (.lst (ns.map V.int)) := (upd_ne ne.symm).trans h2
        have u3 : Fr l cl H (upd H' l (.lst [.int x, .int (b + 1), .ref cl])) := f.trans fun c o h n1 n2 => by rw [upd_ne n1]; exact h
        refine st_ret (v_rI (g := fun i j => .int (i % j)) (v_cb (v_rI (g := fun i j => .int (i / j)) (v_rI (g := fun i j => .int (i * j)) (i1 u1 rfl) (v_rI0 (g := fun i j => .int (i + j)) (i1 u1 rfl) val_c) (Or.inl (by omega))) val_c (divW (by decide) (by decide))) fun Q q => Or.inl ⟨_, rfl, q⟩) (val_var (i := 1) rfl) m0) ?_
        exact k _ _ (Int.emod_nonneg _ (by omega)) (Int.emod_lt_of_pos _ m0) ⟨x, b + 1, ns, u1, u2, by omega, by omega⟩ u3
      · refine st_let (v := .int (x % m)) (v_rI (g := fun i j => .int (i % j)) (v_cb (i0 h1 rfl) fun Q q => Or.inl ⟨_, rfl, q⟩) (val_var (i := 1) rfl) m0) ?_
        refine st_puts (v := .int (x / m)) (v_rI (g := fun i j => .int (i / j)) (v_cb (i0 h1 rfl) fun Q q => Or.inl ⟨_, rfl, q⟩) (val_var (i := 1) rfl) (wide_div (b := 200) m0 (by omega) (by decide) (by decide))) (val_var (i := 0) rfl) val_c h1 (by rfl) ?_
        refine st_ret (val_var (i := 2) rfl) ?_
        exact k _ _ (Int.emod_nonneg _ (by omega)) (Int.emod_lt_of_pos _ m0) ⟨x / m, b, ns, upd_same, (upd_ne ne.symm).trans h2, b0, by omega⟩ (f.trans fun c o h n1 n2 => by rw [upd_ne n1]; exact h)
    · refine st_ifp (q := x = 0 ∧ 0 < ns.length) (a_and (a_eq (i0 h1 rfl) val_c) fun _ => a_cmp (f := fun i j => decide (j < i)) (v_cb (i2 h1 rfl) fun Q q => ⟨cl, _, rfl, Or.inl (SqL.of h2), q⟩) val_c) (by simp) (fun z => ?_) fun z => hN H ⟨x, ns, h1, h2, Fr.refl _ _ _⟩
      have hl : ns.length - 1 < ns.length := by omega
      have e1 : (ns.map V.int)[(ns.map V.int).length - 1]? = some (.int ns[ns.length - 1]) := by
        rw [List.length_map]
        exact ints_at (List.getElem?_eq_getElem hl)
      refine i2 h1 rfl _ ⟨tyL h2, cl, _, _, rfl, rfl, h2, e1, ?_⟩
      refine ⟨_, rfl, l, _, _, 0, rfl, rfl, (upd_ne ne).trans h1, by rfl, ?_⟩
      refine hN _ ⟨ns[ns.length - 1], ns.dropLast, upd_same, ?_, fun c o h n1 n2 => by rw [upd_ne n1, upd_ne n2]; exact h⟩
      rw [upd_ne ne.symm, upd_same, List.map_dropLast]
end
end My

namespace My
open PySem L2
def spStart (K : PySem.W.Frag) : Sp := fun vs H Q _ => ∃ (s : Addr) (ns : List Int), vs = [.ref s] ∧ SqL K H s (ns.map V.int) ∧ ns.length ≤ 63 ∧ ∀ (l cl : Addr) H', PoolAt H' l cl 0 → H l = none → H cl = none → Same H H' → Q (.ref l) H'
def okF (n : Int) : Prop := 0 ≤ n ∧ n ≤ 10 ^ 40
def spFar : Sp := fun vs H Q _ => ∃ (l cl : Addr) (n : Nat), vs = [.ref l] ∧ PoolAt H l cl n ∧ n < 2 ^ 39 ∧ ∀ (d : Int) H', okF d → PoolAt H' l cl (n + 3) → Fr l cl H H' → Q (.int d) H'
theorem small64 {d : Int} (h0 : 0 ≤ d) (h1 : d < 10 ^ Int.toNat 6) : -(2 ^ 64) < d ∧ d < 2 ^ 64 := by
  have : (10 : Int) ^ Int.toNat 6 = 10 ^ 6 := by decide
  omega
/-- a draw -/
theorem draw {σ : St} {H : Hp} {Q : VK} {i : Nat} {tm : TE} {l cl : Addr} {n : Nat} {m : Int} (hp : PoolAt H l cl n) (hi : σ[i]? = some (some (V.ref l))) (hm : Val tm σ H (.int m)) (hn : n < 2 ^ 40) (m0 : 0 < m) (m1 : m < 2 ^ 200) (k : ∀ d H', 0 ≤ d → d < m → PoolAt H' l cl (n + 1) → Fr l cl H H' → Q (.int d) H') :
    tCall spDraw [] E0 (tCons (tVar i) (tCons tm tNil)) σ H Q := ⟨_, hi, hm _ ⟨l, cl, m, n, rfl, hp, hn, m0, m1, k⟩⟩
section
variable {P : Program} {w : World} {K : PySem.W.Frag} {mg : Str → Option Value} {base : Heap} {a : Ad}
theorem G__law_start (T : Tx K mg a) : FnOk P w K mg base CX0 1 a.f__law_start a.d__law_start ["script"] (spStart K) := by
  refine T.F__law_start.ok sc__law_start (fun vs H Q E h => ?_) (fun cdv A outer s H vs Q E hr h => ?_)
  · obtain ⟨l, m, rfl, _⟩ := h
    rfl
  · obtain ⟨sc, ns, rfl, hS, hn, k⟩ := h
    refine ⟨_, (pss_cons (ps_set (i := 1) sc__law_start.nd rfl (Or.inl rfl) (pe_lst pa_nil))
      (pss_cons (ps_for PassesOwn.never rfl (pi_enum (by rfl) T.n_enumerate (pa_cons (pe_slice sl_list (pv 0) po_none (po_some pe_int)) pa_nil)) (pg_tup rfl (pgs_cons (pg_name (i := 2) sc__law_start.nd rfl (Or.inl rfl)) (pgs_cons (pg_name (i := 3) sc__law_start.nd rfl (Or.inl rfl)) pgs_nil))) (pss_cons (ps_if (pt_cmpR op_lt (pv 3) (pe_op op_pow pe_int pe_int) (nomark _)) (pss_cons (ps_set (i := 4) sc__law_start.nd rfl (Or.inl rfl) (pe_op op_mod (pe_callTy call_int1 (by rfl) T.n_int (by decide +kernel) (pa_cons (pe_op op_add (pe_op op_mul (pv 3) pe_int) (pe_op op_mul (pe_op op_add (pv 2) pe_int) pe_int)) pa_nil)) pe_int))
      (pss_cons (ps_set (i := 5) sc__law_start.nd rfl (Or.inl rfl) (pe_op op_mod (pe_callTy call_int1 (by rfl) T.n_int (by decide +kernel) (pa_cons (pe_op op_add (pe_op op_add (pe_op op_mul (pv 4) (pv 4)) (pe_op op_mul pe_int (pv 4))) pe_int) pa_nil)) pe_int))
      (pss_cons (ps_set (i := 6) sc__law_start.nd rfl (Or.inl rfl) (pe_op op_mod (pe_callTy call_int1 (by rfl) T.n_int (by decide +kernel) (pa_cons (pe_op op_add (pe_op op_add (pe_op op_mul (pv 5) (pv 5)) (pe_op op_mul pe_int (pv 5))) (pv 4)) pa_nil)) pe_int))
      (pss_one (ps_set (i := 3) sc__law_start.nd rfl (Or.inl rfl) (pe_op op_add (pe_op op_mul (pe_op op_add (pe_op op_mul (pv 4) (pe_op op_pow pe_int pe_int)) (pv 5)) (pe_op op_pow pe_int pe_int)) (pv 6))))))) pss_nil)
      (pss_one (ps_expr (pe_bm PySem.F.plainAttrs_list PySem.F.slot_list_append PySem.F.type_list_append mt_append (pv 1) (pa_cons (pe_op op_mod (pe_callTy call_int1 (by rfl) T.n_int (by decide +kernel) (pa_cons (pv 3) pa_nil)) (pe_op op_powW (pe_op op_pow pe_int pe_int) pe_int)) pa_nil))))))
      (pss_one (ps_ret (pe_lst (pa_cons pe_int (pa_cons pe_int (pa_cons (pe_revL (pv 1)) pa_nil)))))))), ?_⟩
    refine st_letX ⟨(by show 0 ≤ sizeLine; decide), fun pl hpl => ?_⟩
    have s1 : Same H (upd H pl (.lst [])) := Same.new hpl
    obtain ⟨cs, ecs, hcs⟩ := cut_ints ns none (some 63)
    have npl : ∀ b o, H b = some o → b ≠ pl := fun b o e z => by rw [z, hpl] at e; cases e
    refine st_seq ?_
    refine ⟨_, rfl, _, rfl, sc, _, rfl, s1.seq hS, fun q hq => ?_⟩
    rw [ecs]
    have s2 : Same H (upd (upd H pl (.lst [])) q (.lst (cs.map V.int))) := s1.trans (Same.new hq)
    have nqp : q ≠ pl := (ne_of_none upd_same hq).symm
    have hpl2 : upd (upd H pl (.lst [])) q (.lst (cs.map V.int)) pl = some (.lst []) := (upd_ne nqp.symm).trans upd_same
    have hq2 : upd (upd H pl (.lst [])) q (.lst (cs.map V.int)) q = some (.lst (cs.map V.int)) := upd_same
    generalize upd (upd H pl (.lst [])) q (.lst (cs.map V.int)) = H2 at s2 hpl2 hq2
    refine ⟨q, cs.map V.int, rfl, SqL.of hq2, ?_⟩
    refine st_forE (xs := cs.map V.int) (fun i σ H' => ∃ (acc : List Int) (v2 v3 v4 v5 v6 : Option V), σ = [some (.ref sc), some (.ref pl), v2, v3, v4, v5, v6] ∧ H' pl = some (.lst (acc.map V.int)) ∧ acc.length = i ∧ But pl H2 H')
      ⟨[], none, none, none, none, none, rfl, hpl2, rfl, But.refl _ _⟩ (fun i σ H' _ ⟨_, _, _, _, _, _, _, _, _, b⟩ => SqL.of (b _ _ hq2 nqp)) ?_ ?_
    · rintro i x t σ H' hx ⟨acc, v2, v3, v4, v5, v6, rfl, h1, h2, bt⟩ ht
      obtain ⟨z, hz, rfl⟩ := ints_get hx
      have hi : i < cs.length := (List.getElem?_eq_some_iff.mp hz).1
      have ntp : t ≠ pl := (ne_of_none h1 ht).symm
      have h1' : upd H' t (.tup [.int (i : Nat), .int z]) pl = some (.lst (acc.map V.int)) := (upd_ne ntp.symm).trans h1
      have bt' : But pl H2 (upd H' t (.tup [.int (i : Nat), .int z])) := bt.thenS (Same.new ht)
      refine ⟨t, _, rfl, SqT.of upd_same, rfl, _, _, rfl, _, _, rfl, rfl, ?_⟩
      generalize upd H' t (.tup [.int (i : Nat), .int z]) = H3 at h1' bt'
      refine st_shareS (fun σ' H' => ∃ (c : Int) (v2 v4 v5 v6 : Option V), σ' = [some (.ref sc), some (.ref pl), v2, some (.int c), v4, v5, v6] ∧ H' = H3) ?_ fun N hN => ?_
      · rintro σ' H4 ⟨c, v2, v4, v5, v6, rfl, rfl⟩
        refine ⟨_, rfl, tyL h1', ?_⟩
        refine (v_rI (σ := [some (.ref sc), some (.ref pl), v2, some (.int c), v4, v5, v6]) (g := fun i j => .int (i % j)) (v_cb (val_var (i := 3) rfl) fun Q q => Or.inl ⟨_, rfl, q⟩) (v_rI (g := fun i j => .int (i ^ j.toNat)) (v_rI (g := fun i j => .int (i ^ j.toNat)) val_c val_c ⟨by decide, by decide, by decide⟩) val_c ⟨by decide, by decide +kernel⟩) (by decide +kernel)) _ ?_
        refine ⟨pl, _, _, rfl, rfl, h1', ?_, acc ++ [c % (10 ^ Int.toNat 64) ^ Int.toNat 6], v2, some (.int c), v4, v5, v6, rfl, ?_, ?_, But.upd bt'⟩
        · rw [List.length_map]
          exact small1000 (by omega)
        · rw [upd_same, List.map_append]
          rfl
        · simp [h2]
      · refine st_ifb (a_cmp (f := fun i j => decide (i < j)) (val_var (i := 3) (v := .int z) rfl) (v_rI (g := fun i j => .int (i ^ j.toNat)) val_c val_c ⟨by decide, by decide, by decide⟩)) (fun _ => ?_) fun _ => hN _ _ ⟨z, _, _, _, _, rfl, rfl⟩
        refine st_letP (fun z => 0 ≤ z ∧ z < 10 ^ 12) (v_rI (g := fun i j => .int (i % j)) (v_cb (v_rI0 (g := fun i j => .int (i + j)) (v_rI (g := fun i j => .int (i * j)) (val_var (i := 3) (v := .int z) rfl) val_c (Or.inr ⟨by decide, by decide⟩)) (v_rI (g := fun i j => .int (i * j)) (v_rI0 (g := fun i j => .int (i + j)) (val_var (i := 2) rfl) val_c) val_c (Or.inr ⟨by decide, by decide⟩))) fun Q q => Or.inl ⟨_, rfl, q⟩) val_c (by decide)) ⟨Int.emod_nonneg _ (by decide), Int.lt_trans (Int.emod_lt_of_pos _ (by decide)) (by decide)⟩ fun one b1 => ?_
        refine st_letP (fun z => 0 ≤ z ∧ z < 10 ^ 12) (v_rI (g := fun i j => .int (i % j)) (v_cb (v_rI0 (g := fun i j => .int (i + j)) (v_rI0 (g := fun i j => .int (i + j)) (v_rI (g := fun i j => .int (i * j)) (val_var (i := 4) rfl) (val_var (i := 4) rfl) (Or.inl ⟨by omega, by omega⟩)) (v_rI (g := fun i j => .int (i * j)) val_c (val_var (i := 4) rfl) (Or.inl ⟨by decide, by decide⟩))) val_c) fun Q q => Or.inl ⟨_, rfl, q⟩) val_c (by decide)) ⟨Int.emod_nonneg _ (by decide), Int.lt_trans (Int.emod_lt_of_pos _ (by decide)) (by decide)⟩ fun two b2 => ?_
        refine st_letP (fun z => 0 ≤ z ∧ z < 10 ^ 12) (v_rI (g := fun i j => .int (i % j)) (v_cb (v_rI0 (g := fun i j => .int (i + j)) (v_rI0 (g := fun i j => .int (i + j)) (v_rI (g := fun i j => .int (i * j)) (val_var (i := 5) rfl) (val_var (i := 5) rfl) (Or.inl ⟨by omega, by omega⟩)) (v_rI (g := fun i j => .int (i * j)) val_c (val_var (i := 5) rfl) (Or.inl ⟨by decide, by decide⟩))) (val_var (i := 4) rfl)) fun Q q => Or.inl ⟨_, rfl, q⟩) val_c (by decide)) ⟨Int.emod_nonneg _ (by decide), Int.lt_trans (Int.emod_lt_of_pos _ (by decide)) (by decide)⟩ fun three b3 => ?_
        exact st_set (v_rI0 (g := fun i j => .int (i + j)) (v_rI (g := fun i j => .int (i * j)) (v_rI0 (g := fun i j => .int (i + j)) (v_rI (g := fun i j => .int (i * j)) (val_var (i := 4) rfl) (v_rI (g := fun i j => .int (i ^ j.toNat)) val_c val_c ⟨by decide, by decide, by decide⟩) (Or.inr ⟨by decide, by decide⟩)) (val_var (i := 5) rfl)) (v_rI (g := fun i j => .int (i ^ j.toNat)) val_c val_c ⟨by decide, by decide, by decide⟩) (Or.inr ⟨by decide, by decide⟩)) (val_var (i := 6) rfl)) (hN _ _ ⟨_, _, _, _, _, rfl, rfl⟩)
    · rintro σ H' ⟨acc, v2, v3, v4, v5, v6, rfl, h1, h2, bt⟩
      have s4 : Same H H' := fun b o e => bt b o (s2 b o e) (npl b o e)
      refine ⟨_, rfl, pl, acc.map V.int, rfl, SqL.of h1, fun cl hcl => ?_⟩
      refine ⟨by show 3 ≤ sizeLine; decide, fun l hl => ?_⟩
      have s5 : Same H' (upd H' cl (.lst (acc.map V.int).reverse)) := Same.new hcl
      have ncl : cl ≠ l := ne_of_none upd_same hl
      refine k l cl _ ⟨0, 0, acc.reverse, upd_same, ?_, by omega, by omega⟩ ((s4.trans s5).free hl) (s4.free hcl) (s4.trans (s5.trans (Same.new hl)))
      rw [upd_ne ncl, upd_same, List.map_reverse]
theorem G__law_far (T : Tx K mg a) : FnOk P w K mg base CX0 2 a.f__law_far a.d__law_far ["pool"] spFar := by
  refine T.F__law_far.ok sc__law_far (fun vs H Q E h => ?_) (fun cdv A outer s H vs Q E hr h => ?_)
  · obtain ⟨l, cl, n, rfl, _⟩ := h
    rfl
  · obtain ⟨l, cl, n, rfl, hp, hn, k⟩ := h
    refine ⟨_, (pss_cons (ps_set (i := 1) sc__law_far.nd rfl (Or.inl rfl) (pe_call (G__law_draw T) (hr.mono (by decide)) rfl T.g__law_draw T.F__law_draw.kp T.b__law_draw .nil pass0 (pa_cons (pv 0) (pa_cons pe_int pa_nil))))
      (pss_cons (ps_if (pt_cmpR op_eq (pv 1) pe_int (nomark _)) (pss_one (ps_ret (pe_call (G__law_draw T) (hr.mono (by decide)) rfl T.g__law_draw T.F__law_draw.kp T.b__law_draw .nil pass0 (pa_cons (pv 0) (pa_cons pe_int pa_nil))))) pss_nil)
      (pss_cons (ps_if (pt_cmpR op_eq (pv 1) pe_int (nomark _)) (pss_one (ps_ret (pe_op op_sub (pe_op op_pow pe_int pe_int) (pe_call (G__law_draw T) (hr.mono (by decide)) rfl T.g__law_draw T.F__law_draw.kp T.b__law_draw .nil pass0 (pa_cons (pv 0) (pa_cons pe_int pa_nil)))))) pss_nil)
      (pss_cons (ps_if (pt_cmpR op_eq (pv 1) pe_int (nomark _)) (pss_one (ps_ret (pe_op op_add (pe_op op_mul (pe_call (G__law_draw T) (hr.mono (by decide)) rfl T.g__law_draw T.F__law_draw.kp T.b__law_draw .nil pass0 (pa_cons (pv 0) (pa_cons (pe_op op_pow pe_int pe_int) pa_nil))) (pe_op op_pow pe_int pe_int)) (pe_call (G__law_draw T) (hr.mono (by decide)) rfl T.g__law_draw T.F__law_draw.kp T.b__law_draw .nil pass0 (pa_cons (pv 0) (pa_cons pe_int pa_nil)))))) pss_nil)
      (pss_one (ps_ret (pe_call (G__law_draw T) (hr.mono (by decide)) rfl T.g__law_draw T.F__law_draw.kp T.b__law_draw .nil pass0 (pa_cons (pv 0) (pa_cons (pe_op op_add (pe_op op_pow pe_int pe_int) pe_int) pa_nil))))))))), ?_⟩
    refine st_letX (draw hp rfl val_c (by omega) (by decide) (by decide) fun sh H1 a0 a1 p1 f1 => ?_)
    refine st_guard (q := sh = 0) (a_eq (val_var (i := 1) rfl) val_c) (by simp) (fun c => ?_) fun c => ?_
    · exact draw p1 rfl val_c (by omega) (by decide) (by decide) fun d H2 d0 d1 p2 f2 => k d H2 ⟨d0, by omega⟩ (p2.mono (by omega)) (f1.trans f2)
    refine st_guard (q := sh = 1) (a_eq (val_var (i := 1) rfl) val_c) (by simp) (fun c => ?_) fun c => ?_
    · refine ⟨_, _, rfl, rfl, ⟨by decide, by decide, by decide⟩, ?_⟩
      exact draw p1 rfl val_c (by omega) (by decide) (by decide) fun d H2 d0 d1 p2 f2 => ⟨_, _, rfl, rfl, k _ H2 ⟨by show 0 ≤ (10 : Int) ^ 40 - d; omega, by show (10 : Int) ^ 40 - d ≤ 10 ^ 40; omega⟩ (p2.mono (by omega)) (f1.trans f2)⟩
    refine st_guard (q := sh = 2) (a_eq (val_var (i := 1) rfl) val_c) (by simp) (fun c => ?_) fun c => ?_
    · refine draw p1 rfl (v_rI (g := fun i j => .int (i ^ j.toNat)) val_c val_c ⟨by decide, by decide, by decide⟩) (by omega) (by decide) (by decide) fun d H2 d0 d1 p2 f2 => ⟨_, _, rfl, rfl, ⟨by decide, by decide, by decide⟩, _, _, rfl, rfl, Or.inl (small64 d0 d1), ?_⟩
      refine draw p2 rfl val_c (by omega) (by decide) (by decide) fun e H3 e0 e1 p3 f3 => ⟨_, _, rfl, rfl, k _ H3 ?_ (p3.mono (by omega)) ((f1.trans f2).trans f3)⟩
      have d2 : d ≤ 10 ^ 6 - 1 := by
        have : (10 : Int) ^ Int.toNat 6 = 10 ^ 6 := by decide
        omega
      have ee : (10 : Int) ^ Int.toNat 34 = 10 ^ 34 := by decide
      rw [ee]
      exact ⟨by omega, by omega⟩
    · exact draw p1 rfl (v_rI0 (g := fun i j => .int (i + j)) (v_rI (g := fun i j => .int (i ^ j.toNat)) val_c val_c ⟨by decide, by decide, by decide⟩) val_c) (by omega) (by decide) (by decide) fun d H2 d0 d1 p2 f2 => k d H2 ⟨d0, by
        have : (10 : Int) ^ Int.toNat 40 = 10 ^ 40 := by decide
        omega⟩ (p2.mono (by omega)) (f1.trans f2)
end
end My

namespace My
open PySem L2
theorem Rw.fr {H H' : Hp} {l cl : Addr} {n : Nat} {as : List V} {L : List Iv} (h : Rw H as L) (f : Fr l cl H H') (p : PoolAt H l cl n) : Rw H' as L := ⟨h.1, fun i a e => let ⟨t, x, y⟩ := h.2 i a e; ⟨t, x, f.tup p y⟩⟩
theorem Fr.free {H H' : Hp} {l cl b : Addr} {n : Nat} (f : Fr l cl H H') (p : PoolAt H l cl n) (h : H' b = none) (p' : PoolAt H' l cl n) : H b = none := by
  obtain ⟨x, y, ns, h1, h2, _⟩ := p'
  cases e : H b with
  | none => rfl
  | some o => exact absurd (f b o e (fun z => by rw [z, h1] at h; cases h) (fun z => by rw [z, h2] at h; cases h)) (by rw [h]; exact fun z => nomatch z)
theorem PoolAt.but {H H' : Hp} {l cl b : Addr} {n : Nat} (p : PoolAt H l cl n) (bt : But b H H') (h1 : l ≠ b) (h2 : cl ≠ b) : PoolAt H' l cl n := by
  obtain ⟨x, y, ns, e1, e2, e3⟩ := p
  exact ⟨x, y, ns, bt _ _ e1 h1, bt _ _ e2 h2, e3⟩
theorem PoolAt.off {H : Hp} {l cl b : Addr} {n : Nat} (p : PoolAt H l cl n) (h : H b = none) : b ≠ l ∧ b ≠ cl := by
  obtain ⟨x, y, ns, e1, e2, e3⟩ := p
  refine ⟨fun z => ?_, fun z => ?_⟩
  · rw [z, e1] at h
    cases h
  · rw [z, e2] at h
    cases h
/-- if a draw == c: .. -/
theorem if_draw {σ : St} {H : Hp} {D : Ends} {t1 t2 : TS} {i : Nat} {tm : TE} {l cl : Addr} {n : Nat} {m c : Int} (hp : PoolAt H l cl n) (hi : σ[i]? = some (some (V.ref l))) (hm : Val tm σ H (.int m)) (hn : n < 2 ^ 40) (m0 : 0 < m) (m1 : m < 2 ^ 200)
    (y : ∀ H', PoolAt H' l cl (n + 1) → Fr l cl H H' → t1 D σ H') (no : ∀ H', PoolAt H' l cl (n + 1) → Fr l cl H H' → t2 D σ H') :
    tIfS (tTest (tOp rEq (tCall spDraw [] E0 (tCons (tVar i) (tCons tm tNil))) (tC (.int c)))) t1 t2 D σ H := by
  refine st_ifX (draw hp hi hm hn m0 m1 fun e H2 e0 e1 p2 f2 => ⟨rfl, _, rfl, ?_⟩)
  rw [dec_int, Bool.beq_eq_decide_eq]
  by_cases z : e = c
  · rw [decide_eq_true z]
    exact iteT (y H2 p2 f2)
  · rw [decide_eq_false z]
    exact iteF (no H2 p2 f2)
/-- what _law_drawn draws -/
theorem flat1 {α : Type} (x : α) : ∀ n : Nat, (List.replicate n [x]).flatten = List.replicate n x
  | 0 => rfl
  | n + 1 => by rw [List.replicate_succ, List.replicate_succ, List.flatten_cons, flat1 x n, List.singleton_append]
/-- [b] * n -/
theorem rep_b {te : TE} {σ : St} {H : Hp} {Q : VK} (b : Bool) (n : Nat) {i : Int} (e : i = (n : Int)) (hn : n ≤ 1000000) (hk : ∀ H', Val te σ H' (.int i)) (q : ∀ p H', H p = none → H' p = some (.lst ((List.replicate n b).map V.bl)) → Same H H' → Q (.ref p) H') :
    tOp rRep (tLst (tCons (tC (.bl b)) tNil)) te σ H Q := by
  refine ⟨by show 1 ≤ sizeLine; decide, fun t ht => hk _ _ ?_⟩
  have z : 1000000 < sizeLine := by decide
  refine ⟨t, i, [.bl b], rfl, rfl, upd_same, by omega, by omega, by show 1 * i.toNat ≤ sizeLine; omega, fun p hp => ?_⟩
  rw [flat1, show i.toNat = n by omega]
  have s1 := Same.new (o := .lst [V.bl b]) ht
  refine q p _ ?_ (by rw [List.map_replicate]; exact upd_same) (s1.trans (Same.new hp))
  cases e : H p with
  | none => rfl
  | some o => rw [s1 _ _ e] at hp; cases hp
def spDrawnB : Sp := fun vs H Q _ => ∃ (l cl : Addr) (n : Nat) (most : Int), vs = [.ref l, .int most] ∧ PoolAt H l cl n ∧ n < 2 ^ 38 ∧ 1 ≤ most ∧ most ≤ 100 ∧ ∀ (t bl : Addr) (bits : List Bool) (head : Nat) H', H' t = some (.tup [.int head, .ref bl]) → H' bl = some (.lst (bits.map V.bl)) → head < bits.length → (bits.length : Int) ≤ most + 9 → head ≤ 9 → bl ≠ l → bl ≠ cl → PoolAt H' l cl (n + 20) → Fr l cl H H' → Q (.ref t) H'
section
variable {P : Program} {w : World} {K : PySem.W.Frag} {mg : Str → Option Value} {base : Heap} {a : Ad}
theorem G__law_drawn (T : Tx K mg a) : FnOk P w K mg base CX0 2 a.f__law_drawn a.d__law_drawn ["pool", "most"] spDrawnB := by
  refine T.F__law_drawn.ok sc__law_drawn (fun vs H Q E h => ?_) (fun cdv A outer s H vs Q E hr h => ?_)
  · obtain ⟨l, cl, n, m, rfl, _⟩ := h
    rfl
  · obtain ⟨l, cl, n, most, rfl, hp, hn, m1, m2, k⟩ := h
    refine ⟨_, (pss_cons (ps_set (i := 2) sc__law_drawn.nd rfl (Or.inl rfl) (pe_call (G__law_draw T) (hr.mono (by decide)) rfl T.g__law_draw T.F__law_draw.kp T.b__law_draw .nil pass0 (pa_cons (pv 0) (pa_cons pe_int pa_nil))))
      (pss_cons (ps_set (i := 3) sc__law_drawn.nd rfl (Or.inl rfl) (pe_op op_add (pe_op op_add (pv 2) pe_int) (pe_call (G__law_draw T) (hr.mono (by decide)) rfl T.g__law_draw T.F__law_draw.kp T.b__law_draw .nil pass0 (pa_cons (pv 0) (pa_cons (pv 1) pa_nil)))))
      (pss_cons (ps_set (i := 4) sc__law_drawn.nd rfl (Or.inl rfl) (pe_op op_rep (pe_lst (pa_cons pe_bl pa_nil)) (pv 3)))
      (pss_cons (ps_for PassesOwn.never rfl (pi_range1 rfl T.n_range (pa_cons (pe_call (G__law_draw T) (hr.mono (by decide)) rfl T.g__law_draw T.F__law_draw.kp T.b__law_draw .nil pass0 (pa_cons (pv 0) (pa_cons pe_int pa_nil))) pa_nil)) (pg_name (i := 5) sc__law_drawn.nd rfl (Or.inl rfl)) (pss_cons (ps_set (i := 6) sc__law_drawn.nd rfl (Or.inl rfl) (pe_call (G__law_draw T) (hr.mono (by decide)) rfl T.g__law_draw T.F__law_draw.kp T.b__law_draw .nil pass0 (pa_cons (pv 0) (pa_cons (pv 3) pa_nil))))
      (pss_cons (ps_set (i := 7) sc__law_drawn.nd rfl (Or.inl rfl) (pe_op op_add (pe_op op_add (pv 6) pe_int) (pe_call (G__law_draw T) (hr.mono (by decide)) rfl T.g__law_draw T.F__law_draw.kp T.b__law_draw .nil pass0 (pa_cons (pv 0) (pa_cons (pe_op op_sub (pv 3) (pv 6)) pa_nil)))))
      (pss_one (ps_set (i := 4) sc__law_drawn.nd rfl (Or.inl rfl) (pe_op op_cat (pe_op op_cat (pe_slice sl_list (pv 4) po_none (po_some (pv 6))) (pe_op op_rep (pe_lst (pa_cons pe_bl pa_nil)) (pe_op op_sub (pv 7) (pv 6)))) (pe_slice sl_list (pv 4) (po_some (pv 7)) po_none)))))))
      (pss_one (ps_ret (pe_tup (pa_cons (pv 2) (pa_cons (pv 4) pa_nil))))))))), ?_⟩
    refine st_letX (draw hp rfl val_c (by omega) (by decide) (by decide) fun hd H1 h0 h1 p1 f1 => ?_)
    refine st_letX (op_v (v_rI0 (g := fun i j => .int (i + j)) (val_var rfl) val_c) (draw p1 rfl (val_var rfl) (by omega) (by omega) (by omega) fun sz H2 s0 s1 p2 f2 => ⟨_, _, rfl, rfl, ?_⟩))
    dsimp only
    obtain ⟨hdn, rfl⟩ := Int.eq_ofNat_of_zero_le h0
    obtain ⟨szn, rfl⟩ := Int.eq_ofNat_of_zero_le s0
    refine st_letX (rep_b false (hdn + 1 + szn) (by omega) (by omega) (fun _ => val_var rfl) fun bl H3 blf ebl s3 => ?_)
    obtain ⟨bl1, bl2⟩ := p2.off blf
    refine st_seq (rng1X (draw (p2.same s3) rfl val_c (by omega) (by decide) (by decide) fun cn H4 c0 c1 p4 f4 => ?_))
    have e4 := f4 _ _ ebl bl1 bl2
    have f04 := (((f1.trans f2).trans (Fr.of s3)).trans f4)
    refine st_forR1 (n := cn.toNat) val_c (by omega) (by omega) (fun i σ' H' => ∃ (bl : Addr) (bits : List Bool) (v5 v6 v7 : Option V), σ' = [some (.ref l), some (.int most), some (.int hdn), some (.int (hdn + 1 + szn)), some (.ref bl), v5, v6, v7] ∧ H' bl = some (.lst (bits.map V.bl)) ∧ bits.length = hdn + 1 + szn ∧ bl ≠ l ∧ bl ≠ cl ∧ PoolAt H' l cl (n + 3 + 2 * i) ∧ Fr l cl H H') ⟨bl, _, none, none, none, rfl, e4, by simp, bl1, bl2, p4.mono (by omega), f04⟩ ?_ ?_
    · rintro i σ' H' hi ⟨bl, bits, v5, v6, v7, rfl, eb, lb, b1, b2, p5, f5⟩
      refine g_name ?_
      refine st_letX (draw p5 rfl (val_var rfl) (by omega) (by omega) (by omega) fun s0 H6 z0 z1 p6 f6 => ?_)
      refine st_letX (op_v (v_rI0 (g := fun i j => .int (i + j)) (val_var rfl) val_c) (draw p6 rfl (v_rI0 (g := fun i j => .int (i - j)) (val_var rfl) (val_var rfl)) (by omega) (by omega) (by omega) fun d H7 y0 y1 p7 f7 => ⟨_, _, rfl, rfl, ?_⟩))
      dsimp only
      have f57 := f6.trans f7
      have e7 := f57 _ _ eb b1 b2
      obtain ⟨sn, rfl⟩ := Int.eq_ofNat_of_zero_le z0
      obtain ⟨dn, rfl⟩ := Int.eq_ofNat_of_zero_le y0
      have lb2 : (bits.map V.bl).length = hdn + 1 + szn := by rw [List.length_map, lb]
      refine ⟨_, rfl, _, rfl, _, rfl, bl, _, rfl, SqL.of e7, fun a1 ha1 => ?_⟩
      have t1 := Same.new (o := .lst (cutV (bits.map V.bl) none (some (sn : Int)))) ha1
      have g1 : upd H7 a1 (.lst (cutV (bits.map V.bl) none (some (sn : Int)))) a1 = some (.lst ((bits.take sn).map V.bl)) := by rw [upd_same, My.cut_take, List.map_take]
      generalize upd H7 a1 (.lst (cutV (bits.map V.bl) none (some (sn : Int)))) = H8 at t1 g1 ⊢
      refine rep_b true (dn + 1) (i := (sn : Int) + 1 + dn - sn) (by omega) (by omega) (fun _ => v_rI0 (g := fun i j => .int (i - j)) (val_var rfl) (val_var rfl)) fun a2 H9 ha2 g2 t2 => ?_
      refine cat_is (t2 _ _ g1) g2 (by rw [List.length_map, List.length_map, List.length_take, List.length_replicate]; omega) fun a3 ha3 => ?_
      have t3 := Same.new (o := .lst ((bits.take sn).map V.bl ++ (List.replicate (dn + 1) true).map V.bl)) ha3
      have g3 : upd H9 a3 (.lst ((bits.take sn).map V.bl ++ (List.replicate (dn + 1) true).map V.bl)) a3 = some (.lst ((bits.take sn).map V.bl ++ (List.replicate (dn + 1) true).map V.bl)) := upd_same
      generalize upd H9 a3 (.lst ((bits.take sn).map V.bl ++ (List.replicate (dn + 1) true).map V.bl)) = H10 at t3 g3 ⊢
      have t13 := (t1.trans t2).trans t3
      refine ⟨_, rfl, _, rfl, _, rfl, bl, _, rfl, SqL.of (t13 _ _ e7), fun a4 ha4 => ?_⟩
      have e5 : (sn : Int) + 1 + dn = ((sn + 1 + dn : Nat) : Int) := by omega
      have g4 : upd H10 a4 (.lst (cutV (bits.map V.bl) (some ((sn : Int) + 1 + dn)) none)) a4 = some (.lst ((bits.drop (sn + 1 + dn)).map V.bl)) := by rw [upd_same, e5, My.cut_drop, List.map_drop]
      have t4 := Same.new (o := .lst (cutV (bits.map V.bl) (some ((sn : Int) + 1 + dn)) none)) ha4
      dsimp only
      generalize upd H10 a4 (.lst (cutV (bits.map V.bl) (some ((sn : Int) + 1 + dn)) none)) = H11 at t4 g4 ⊢
      refine cat_is (t4 _ _ g3) g4 (by rw [List.length_append, List.length_map, List.length_map, List.length_map, List.length_take, List.length_replicate, List.length_drop]; omega) fun a5 ha5 => ?_
      have t14 := t13.trans t4
      obtain ⟨o1, o2⟩ := (p7.same t14).off ha5
      have t5 := Same.new (o := .lst (((bits.take sn).map V.bl ++ (List.replicate (dn + 1) true).map V.bl) ++ (bits.drop (sn + 1 + dn)).map V.bl)) ha5
      exact ⟨a5, bits.take sn ++ List.replicate (dn + 1) true ++ bits.drop (sn + 1 + dn), _, _, _, rfl, by rw [List.map_append, List.map_append]; exact upd_same, by rw [List.length_append, List.length_append, List.length_take, List.length_replicate, List.length_drop]; omega, o1, o2, ((p7.same t14).same t5).mono (by omega), (f5.trans f57).trans (Fr.of (t14.trans t5))⟩
    · rintro σ' H' ⟨bl, bits, v5, v6, v7, rfl, eb, lb, b1, b2, p5, f5⟩
      refine ⟨_, rfl, _, rfl, by show 2 ≤ sizeLine; decide, fun t ht => ?_⟩
      have s6 := Same.new (o := .tup [.int hdn, .ref bl]) ht
      exact k t bl bits hdn _ upd_same (s6 _ _ eb) (by omega) (by omega) (by omega) b1 b2 ((p5.same s6).mono (by omega)) (f5.trans (Fr.of s6))
end
end My

namespace My
open PySem L2
def spFactor : Sp := fun vs H Q _ => ∃ (l cl : Addr) (n : Nat) (m : Int), vs = [.ref l, .int m] ∧ PoolAt H l cl n ∧ n < 2 ^ 39 ∧ 1 ≤ m ∧ m ≤ 100 ∧ ∀ (d : Int) H', 1 ≤ d → d * m ≤ 10 ^ 12 → PoolAt H' l cl (n + 3) → Fr l cl H H' → Q (.int d) H'
def spInt : Sp := fun vs H Q _ => ∃ i : Int, vs = [.int i] ∧ Q (.bl true) H
def spSame : Sp := fun vs H Q _ => ∃ o : Option Int, vs = [optV o, optV o] ∧ Q (.bl true) H
def spRowEq (K : PySem.W.Frag) : Sp := fun vs H Q _ => ∃ (x y : Addr) (ms : List Int), vs = [.ref x, .ref y] ∧ SqL K H x (ms.map V.int) ∧ SqL K H y (ms.map V.int) ∧ ms.length ≤ 100000 ∧ Q (.bl true) H
/-- a pair of minutes or None -/
def PrAt (K : PySem.W.Frag) (H : Hp) : Option (Int × Int) → V → Prop
  | none, v => v = .non
  | some p, v => ∃ t, v = .ref t ∧ SqT K H t [.int p.1, .int p.2] ∧ TyX K H (.ref t) (.type "tuple")
def spPair (K : PySem.W.Frag) : Sp := fun vs H Q _ => ∃ (x y : V) (o : Option (Int × Int)), vs = [x, y] ∧ PrAt K H o x ∧ PrAt K H o y ∧ Q (.bl true) H
section
variable {P : Program} {w : World} {K : PySem.W.Frag} {mg : Str → Option Value} {base : Heap} {a : Ad}
theorem isi_rd {K : PySem.W.Frag} {H : Hp} {Q : VK} {x : V} (tn : String) {cn : String} (b : Bool) (ty : TyX K H x (.type tn)) (h : kitB tn cn = some b) (q : Q (.bl b) H) : rIsi K [x, .ty cn] H Q := ⟨x, .ty cn, _, _, b, rfl, .ty _, ty, kit_ty h, q⟩
/-- isinstance(e, a built-in class) -/
theorem a_isi {K : PySem.W.Frag} {σ : St} {H : Hp} {ta : TE} {x : V} (tn : String) {cn : String} (b : Bool) (ha : Val ta σ H x) (ty : TyX K H x (.type tn)) (h : kitB tn cn = some b) : Ans (tB (tCB (rIsi K) (tCons ta (tCons (tC (.ty cn)) tNil)))) σ H b := fun Q q => ha _ (show rIsi K [x, .ty cn] H (fun y H1 => ∃ c, y = .bl c ∧ Q c H1) from isi_rd tn b ty h ⟨_, rfl, q⟩)
theorem a_int {σ : St} {H : Hp} {ta : TE} {i : Int} (ha : Val ta σ H (.int i)) : Ans (tB (tCall spInt [] E0 (tCons ta tNil))) σ H true := fun Q q => ha _ ⟨i, rfl, _, rfl, q⟩
theorem int_body {D : Ends} {i : Int} {H : Hp} (k : D.rt (.bl true) H) : tRet (tAndV (tCB (rIsi K) (tCons (tVar 0) (tCons (tC (.ty "int")) tNil))) (tNotV (tCB (rIsi K) (tCons (tVar 0) (tCons (tC (.ty "bool")) tNil))))) D [some (.int i)] H := by
  refine ⟨_, rfl, _, _, _, _, true, rfl, .ty _, .base (.int i), kit_ty (by decide +kernel), _, rfl, iteT ?_⟩
  exact ⟨_, rfl, _, _, _, _, false, rfl, .ty _, .base (.int i), kit_ty (by decide +kernel), _, rfl, k⟩
theorem G__law_int (T : Tx K mg a) : FnOk P w K mg base CX0 1 a.f__law_int a.d__law_int ["one"] spInt := by
  refine T.F__law_int.ok sc__law_int (fun vs H Q E h => ?_) (fun cdv A outer s H vs Q E hr h => ?_)
  · obtain ⟨i, rfl, _⟩ := h
    rfl
  · obtain ⟨i, rfl, k⟩ := h
    refine ⟨_, (pss_one (ps_ret (pe_and (pe_callB call_isi (by rfl) T.n_isinstance (by decide +kernel) (pa_cons (pv 0) (pa_cons (pe_bltn (v := .ty "int") rfl T.n_int (by decide +kernel) rfl) pa_nil))) (pe_one (pe_not (pe_callB call_isi (by rfl) T.n_isinstance (by decide +kernel) (pa_cons (pv 0) (pa_cons (pe_bltn (v := .ty "bool") rfl T.n_bool (by decide +kernel) rfl) pa_nil)))))))), ?_⟩
    exact int_body k
theorem G__law_pick_factor (T : Tx K mg a) : FnOk P w K mg base CX0 2 a.f__law_pick_factor a.d__law_pick_factor ["pool", "most"] spFactor := by
  refine T.F__law_pick_factor.ok sc__law_pick_factor (fun vs H Q E h => ?_) (fun cdv A outer s H vs Q E hr h => ?_)
  · obtain ⟨l, cl, n, m, rfl, _⟩ := h
    rfl
  · obtain ⟨l, cl, n, m, rfl, hp, hn, m0, m1, k⟩ := h
    refine ⟨_, (pss_cons (ps_set (i := 2) sc__law_pick_factor.nd rfl (Or.inl rfl) (pe_call (G__law_draw T) (hr.mono (by decide)) rfl T.g__law_draw T.F__law_draw.kp T.b__law_draw .nil pass0 (pa_cons (pv 0) (pa_cons pe_int pa_nil))))
      (pss_cons (ps_if (pt_cmpR op_eq (pv 2) pe_int (nomark _)) (pss_one (ps_ret (pe_op op_add pe_int (pe_call (G__law_draw T) (hr.mono (by decide)) rfl T.g__law_draw T.F__law_draw.kp T.b__law_draw .nil pass0 (pa_cons (pv 0) (pa_cons pe_int pa_nil)))))) pss_nil)
      (pss_cons (ps_if (pt_cmpR op_eq (pv 2) pe_int (nomark _)) (pss_one (ps_ret (pe_op op_sub (pe_op op_fdivW (pe_op op_pow pe_int pe_int) (pv 1)) (pe_call (G__law_draw T) (hr.mono (by decide)) rfl T.g__law_draw T.F__law_draw.kp T.b__law_draw .nil pass0 (pa_cons (pv 0) (pa_cons pe_int pa_nil)))))) pss_nil)
      (pss_cons (ps_if (pt_cmpR op_eq (pv 2) pe_int (nomark _)) (pss_one (ps_ret (pe_op op_add pe_int (pe_call (G__law_draw T) (hr.mono (by decide)) rfl T.g__law_draw T.F__law_draw.kp T.b__law_draw .nil pass0 (pa_cons (pv 0) (pa_cons (pe_op op_fdivW (pe_op op_pow pe_int pe_int) (pv 1)) pa_nil)))))) pss_nil)
      (pss_one (ps_ret pe_int)))))), ?_⟩
    refine st_letX (draw hp rfl val_c (by omega) (by decide) (by decide) fun sh H1 a0 a1 p1 f1 => ?_)
    refine st_guard (q := sh = 5) (a_eq (val_var (i := 2) rfl) val_c) (by simp) (fun c => ?_) fun c => ?_
    · exact op_c (draw p1 rfl val_c (by omega) (by decide) (by decide) fun d H2 d0 d1 p2 f2 => ⟨_, _, rfl, rfl, k _ H2 (by omega) (by
        have : (1 + d) * m ≤ 9 * 100 := Int.mul_le_mul (by omega) m1 (by omega) (by omega)
        omega) (p2.mono (by omega)) (f1.trans f2)⟩)
    have ed : (10 : Int) ^ Int.toNat 12 = 10 ^ 12 := by decide
    have vq : Val (tOp (rI CDivW fun i j => .int (i / j)) (tOp (rI CPow fun i j => .int (i ^ j.toNat)) (tC (.int 10)) (tC (.int 12))) (tVar 1)) [some (.ref l), some (.int m), some (.int sh)] H1 (.int (10 ^ 12 / m)) := by
      rw [← ed]
      exact v_rI (g := fun i j => .int (i / j)) (v_rI (g := fun i j => .int (i ^ j.toNat)) val_c val_c ⟨by decide, by decide, by decide⟩) (val_var rfl) (wide_div (b := 40) (by omega) (by omega) (by decide) (by decide))
    have qm : (10 ^ 12 / m) * m ≤ 10 ^ 12 := Int.ediv_mul_le _ (by omega)
    have q1 : 100 ≤ 10 ^ 12 / m := by
      have : 10 ^ 12 / 100 ≤ 10 ^ 12 / m := by
        refine Int.le_ediv_of_mul_le (by omega) ?_
        have : (10 ^ 12 / 100 : Int) * m ≤ 10 ^ 12 / 100 * 100 := Int.mul_le_mul_of_nonneg_left m1 (by decide)
        omega
      omega
    have le : ∀ x : Int, x ≤ 10 ^ 12 / m → x * m ≤ 10 ^ 12 := fun x h => Int.le_trans (Int.mul_le_mul_of_nonneg_right h (by omega)) qm
    refine st_guard (q := sh = 6) (a_eq (val_var (i := 2) rfl) val_c) (by simp) (fun c => ?_) fun c => ?_
    · exact op_v vq (draw p1 rfl val_c (by omega) (by decide) (by decide) fun d H2 d0 d1 p2 f2 => ⟨_, _, rfl, rfl, k _ H2 (by omega) (le _ (by omega)) (p2.mono (by omega)) (f1.trans f2)⟩)
    refine st_guard (q := sh = 7) (a_eq (val_var (i := 2) rfl) val_c) (by simp) (fun c => ?_) fun c => ?_
    · refine op_c (draw p1 rfl vq (by omega) (by omega) ?_ fun d H2 d0 d1 p2 f2 => ⟨_, _, rfl, rfl, k _ H2 (by omega) (le _ (by omega)) (p2.mono (by omega)) (f1.trans f2)⟩)
      have : 10 ^ 12 / m ≤ 10 ^ 12 := Int.ediv_le_self _ (by decide)
      omega
    · exact k 1 H1 (by omega) (by omega) (p1.mono (by omega)) f1
theorem G__law_same (T : Tx K mg a) : FnOk P w K mg base CX0 2 a.f__law_same a.d__law_same ["told", "due"] spSame := by
  refine T.F__law_same.ok sc__law_same (fun vs H Q E h => ?_) (fun cdv A outer s H vs Q E hr h => ?_)
  · obtain ⟨o, rfl, _⟩ := h
    rfl
  · obtain ⟨o, rfl, k⟩ := h
    refine ⟨_, (pss_cons (ps_if (pt_cmpR op_isN (pv 1) pe_non (nomark _)) (pss_one (ps_ret (pe_cmpR op_isN (pv 0) pe_non (nomark _)))) pss_nil)
      (pss_one (ps_ret (pe_and (pe_call (G__law_int T) (hr.mono (by decide)) rfl T.g__law_int T.F__law_int.kp T.b__law_int .nil pass0 (pa_cons (pv 0) pa_nil)) (pe_one (pe_cmpR op_eq (pv 0) (pv 1) (nomark _))))))), ?_⟩
    cases o with
    | none =>
      refine st_guard (q := True) (b := true) (fun QT q => ⟨_, rfl, rfl, _, rfl, q⟩) (by simp) (fun _ => ⟨_, rfl, rfl, ?_⟩) fun z => (z trivial).elim
      rw [show decide (optV none = V.non) = true from rfl]
      exact k
    | some i =>
      refine st_guard (q := False) (b := false) (fun QT q => ⟨_, rfl, rfl, _, rfl, q⟩) (by simp) (fun z => z.elim) fun _ => ?_
      refine st_ret0 ⟨_, rfl, i, rfl, _, rfl, iteT ⟨_, rfl, _, rfl, rfl, ?_⟩⟩
      rw [show decide (optV (some i) = optV (some i)) = true from decide_eq_true rfl]
      exact k
theorem G__law_row (T : Tx K mg a) : FnOk P w K mg base CX0 3 a.f__law_row a.d__law_row ["told", "due"] (spRowEq K) := by
  refine T.F__law_row.ok sc__law_row (fun vs H Q E h => ?_) (fun cdv A outer s H vs Q E hr h => ?_)
  · obtain ⟨x, y, ms, rfl, _⟩ := h
    rfl
  · obtain ⟨x, y, ms, rfl, hx, hy, hz, k⟩ := h
    refine ⟨_, (pss_cons (ps_if (pt_cmpR op_ne (pe_callB call_len_seq (by rfl) T.n_len (by decide +kernel) (pa_cons (pv 0) pa_nil)) (pe_callB call_len_seq (by rfl) T.n_len (by decide +kernel) (pa_cons (pv 1) pa_nil)) (nomark _)) (pss_one (ps_ret pe_bl)) pss_nil)
      (pss_cons (ps_for PassesOwn.never rfl (pi_range1 rfl T.n_range (pa_cons (pe_callB call_len_seq (by rfl) T.n_len (by decide +kernel) (pa_cons (pv 1) pa_nil)) pa_nil)) (pg_name (i := 2) sc__law_row.nd rfl (Or.inl rfl)) (pss_one (ps_if (pt_not (pt_val (pe_call (G__law_same T) (hr.mono (by decide)) rfl T.g__law_same T.F__law_same.kp T.b__law_same .nil pass0 (pa_cons (pe_ix ix_list (pv 0) (pv 2) (fun _ _ => rfl)) (pa_cons (pe_ix ix_list (pv 1) (pv 2) (fun _ _ => rfl)) pa_nil))))) (pss_one (ps_ret pe_bl)) pss_nil)))
      (pss_one (ps_ret pe_bl)))), ?_⟩
    have vl : ∀ {σ : St} {i : Nat} {z : Addr}, σ[i]? = some (some (V.ref z)) → SqL K H z (ms.map V.int) → Val (tCB (fun xs H_1 Q => ∃ p ys, xs = [V.ref p] ∧ (SqL K H_1 p ys ∨ SqT K H_1 p ys) ∧ Q (V.int ↑ys.length) H_1) (tCons (tVar i) tNil)) σ H (.int (ms.length : Nat)) := fun e h => v_cb (val_var e) fun Q q => ⟨_, _, rfl, Or.inl h, by rw [List.length_map]; exact q⟩
    refine st_guard (q := False) (b := false) (ans_ne (b := false) (vl rfl hx) (vl rfl hy) rfl (by simp)) (by simp) (fun z => z.elim) fun _ => ?_
    refine st_seq (st_forR1 (n := ms.length) (vl rfl hy) rfl (by omega) (fun i σ' H' => (∃ v2, σ' = [some (.ref x), some (.ref y), v2]) ∧ H' = H) ⟨⟨_, rfl⟩, rfl⟩ ?_ ?_)
    · rintro i σ' H' hi ⟨⟨v2, rfl⟩, rfl⟩
      refine g_name (st_ifX ?_)
      have e : (ms.map V.int)[i]? = some (V.int ms[i]) := by rw [List.getElem?_map, List.getElem?_eq_getElem hi]; rfl
      refine (v_ixL (val_var rfl) (val_var rfl) hx (at_of (j := i) rfl e)) _ ((v_ixL (val_var rfl) (val_var rfl) hy (at_of (j := i) rfl e)) _ ⟨some ms[i], rfl, _, rfl, iteF ⟨⟨_, rfl⟩, rfl⟩⟩)
    · rintro σ' H' ⟨⟨v2, rfl⟩, rfl⟩
      exact k
theorem G__law_pair (T : Tx K mg a) : FnOk P w K mg base CX0 3 a.f__law_pair a.d__law_pair ["told", "due"] (spPair K) := by
  refine T.F__law_pair.ok sc__law_pair (fun vs H Q E h => ?_) (fun cdv A outer s H vs Q E hr h => ?_)
  · obtain ⟨x, y, o, rfl, _⟩ := h
    rfl
  · obtain ⟨x, y, o, rfl, hx, hy, k⟩ := h
    refine ⟨_, (pss_cons (ps_if (PW.pt (pw_or (pt_cmpR op_isN (pv 1) pe_non (nomark _)) (pw_or1 (pt_cmpR op_isN (pv 0) pe_non (nomark _))))) (pss_one (ps_ret (pe_and (pe_cmpR op_isN (pv 1) pe_non (nomark _)) (pe_one (pe_cmpR op_isN (pv 0) pe_non (nomark _)))))) pss_nil)
      (pss_cons (ps_if (PW.pt (pw_or (pt_not (pt_val (pe_callB call_isi (by rfl) T.n_isinstance (by decide +kernel) (pa_cons (pv 0) (pa_cons (pe_bltn (v := .ty "tuple") rfl T.n_tuple (by decide +kernel) rfl) pa_nil))))) (pw_or1 (pt_cmpR op_ne (pe_callB call_len_seq (by rfl) T.n_len (by decide +kernel) (pa_cons (pv 0) pa_nil)) pe_int (nomark _))))) (pss_one (ps_ret pe_bl)) pss_nil)
      (pss_one (ps_ret (pe_and (pe_call (G__law_same T) (hr.mono (by decide)) rfl T.g__law_same T.F__law_same.kp T.b__law_same .nil pass0 (pa_cons (pe_ix ix_tup (pv 0) pe_int (fun _ _ => rfl)) (pa_cons (pe_ix ix_tup (pv 1) pe_int (fun _ _ => rfl)) pa_nil))) (pe_one (pe_call (G__law_same T) (hr.mono (by decide)) rfl T.g__law_same T.F__law_same.kp T.b__law_same .nil pass0 (pa_cons (pe_ix ix_tup (pv 0) pe_int (fun _ _ => rfl)) (pa_cons (pe_ix ix_tup (pv 1) pe_int (fun _ _ => rfl)) pa_nil))))))))), ?_⟩
    cases o with
    | none =>
      have hx : x = .non := hx
      have hy : y = .non := hy
      subst hx hy
      refine st_guard (q := True) (b := true) (a_or (b := true) (c := true) (fun QT q => ⟨_, rfl, rfl, _, rfl, q⟩) (fun z => nomatch z)) (by simp) (fun _ => ?_) fun z => (z trivial).elim
      exact ⟨_, rfl, rfl, _, rfl, iteT ⟨_, rfl, rfl, k⟩⟩
    | some p =>
      obtain ⟨t, rfl, h1, ty⟩ := hx
      obtain ⟨u, rfl, h2, _⟩ := hy
      refine st_guard (q := False) (b := false) (a_or (b := false) (c := false) (fun QT q => ⟨_, rfl, rfl, _, rfl, q⟩) fun _ => (fun QT q => ⟨_, rfl, rfl, _, rfl, q⟩)) (by simp) (fun z => z.elim) fun _ => ?_
      refine st_guard (q := False) (b := false) (a_or (b := false) (c := false) (fun QT q => (a_isi "tuple" (cn := "tuple") true (val_var rfl) ty (by decide +kernel)) _ q) fun _ => ans_ne (b := false) (v_cb (val_var rfl) fun Q q => ⟨t, _, rfl, Or.inr h1, q⟩) val_c rfl (by simp)) (by simp) (fun z => z.elim) fun _ => ?_
      refine st_ret0 ((v_ixT (v := .int p.1) (val_var rfl) val_c h1 rfl) _ ((v_ixT (v := .int p.1) (val_var rfl) val_c h2 rfl) _ ⟨some p.1, rfl, _, rfl, iteT ?_⟩))
      exact (v_ixT (v := .int p.2) (val_var rfl) val_c h1 rfl) _ ((v_ixT (v := .int p.2) (val_var rfl) val_c h2 rfl) _ ⟨some p.2, rfl, k⟩)
end
end My

namespace My
open PySem L2
/-- the law's row: (head, bits, by) -/
def WAt (H : Hp) (w bl : Addr) (head : Nat) (bits : List Bool) (b : Int) : Prop := H w = some (.tup [.int head, .ref bl, .int b]) ∧ H bl = some (.lst (bits.map V.bl))
theorem WAt.same {H H' : Hp} {w bl : Addr} {head : Nat} {bits : List Bool} {b : Int} (h : WAt H w bl head bits b) (s : Same H H') : WAt H' w bl head bits b := ⟨s _ _ h.1, s _ _ h.2⟩
theorem WAt.fr {H H' : Hp} {w bl l cl : Addr} {n : Nat} {head : Nat} {bits : List Bool} {b : Int} (h : WAt H w bl head bits b) (f : Fr l cl H H') (p : PoolAt H l cl n) (n1 : bl ≠ l) (n2 : bl ≠ cl) : WAt H' w bl head bits b := ⟨f.tup p h.1, f _ _ h.2 n1 n2⟩
def gw (head : Nat) (bits : List Bool) (b m : Int) : Bool := bits.getD (placeOf head ((bits.length - head : Nat) : Int) (m / b)).toNat false
def spIsInW : Sp := fun vs H Q _ => ∃ (w bl : Addr) (head : Nat) (bits : List Bool) (b m : Int), vs = [.ref w, .int m] ∧ WAt H w bl head bits b ∧ head < bits.length ∧ bits.length ≤ 1000 ∧ 1 ≤ b ∧ b ≤ 10 ^ 12 ∧ 0 ≤ m ∧ Q (.bl (gw head bits b m)) H
section
variable {P : Program} {w : World} {K : PySem.W.Frag} {mg : Str → Option Value} {base : Heap} {a : Ad}
theorem G__law_is_in (T : Tx K mg a) : FnOk P w K mg base CX0 1 a.f__law_is_in a.d__law_is_in ["w", "minute"] spIsInW := by
  refine T.F__law_is_in.ok sc__law_is_in (fun vs H Q E h => ?_) (fun cdv A outer s H vs Q E hr h => ?_)
  · obtain ⟨w, bl, hd, bits, b, m, rfl, _⟩ := h
    rfl
  · obtain ⟨wa, bl, hd, bits, b, m, rfl, ⟨ew, eb⟩, ln, lz, b1, b2, m0, k⟩ := h
    refine ⟨_, (pss_cons (ps_asg (pv 0) (pg_tup rfl (pgs_cons (pg_name (i := 2) sc__law_is_in.nd rfl (Or.inl rfl)) (pgs_cons (pg_name (i := 3) sc__law_is_in.nd rfl (Or.inl rfl)) (pgs_cons (pg_name (i := 4) sc__law_is_in.nd rfl (Or.inl rfl)) pgs_nil)))))
      (pss_cons (ps_set (i := 5) sc__law_is_in.nd rfl (Or.inl rfl) (pe_op op_fdivW (pv 1) (pv 4)))
      (pss_cons (ps_if (pt_cmpR op_ge (pv 5) (pe_callB call_len_seq (by rfl) T.n_len (by decide +kernel) (pa_cons (pv 3) pa_nil)) (nomark _)) (pss_one (ps_set (i := 5) sc__law_is_in.nd rfl (Or.inl rfl) (pe_op op_add (pv 2) (pe_op op_mod (pe_callTy call_int1 (by rfl) T.n_int (by decide +kernel) (pa_cons (pe_op op_sub (pv 5) (pv 2)) pa_nil)) (pe_op op_sub (pe_callB call_len_seq (by rfl) T.n_len (by decide +kernel) (pa_cons (pv 3) pa_nil)) (pv 2)))))) pss_nil)
      (pss_one (ps_ret (pe_ix ix_list (pv 3) (pv 5) (fun _ _ => rfl))))))), ?_⟩
    refine st_seq ⟨_, rfl, wa, _, rfl, SqT.of ew, rfl, _, _, rfl, _, _, rfl, _, _, rfl, rfl, ?_⟩
    dsimp only
    refine st_let (v_rI (g := fun i j => .int (i / j)) (val_var rfl) (val_var rfl) (wide_div (b := 50) (by omega) (by omega) (by decide) (by decide))) ?_
    unfold gw at k
    have u0 : 0 ≤ m / b := Int.ediv_nonneg (by omega) (by omega)
    generalize m / b = u at k u0
    have vl : ∀ {σ : St}, σ[3]? = some (some (V.ref bl)) → Val (tCB (fun xs H_1 Q => ∃ p ys, xs = [V.ref p] ∧ (SqL K H_1 p ys ∨ SqT K H_1 p ys) ∧ Q (V.int ↑ys.length) H_1) (tCons (tVar 3) tNil)) σ H (.int (bits.length : Nat)) := fun e => v_cb (val_var e) fun Q q => ⟨bl, _, rfl, Or.inl (SqL.of eb), by rw [List.length_map]; exact q⟩
    refine st_shareS (fun σ' H' => H' = H ∧ σ' = [some (.ref wa), some (.int m), some (.int hd), some (.ref bl), some (.int b), some (.int (placeOf hd ((bits.length - hd : Nat) : Int) u))]) ?_ fun N hN => ?_
    case refine_2 =>
      refine st_ifp (q := ¬ u < bits.length) (a_cmp (f := fun i j => decide (j ≤ i)) (val_var (i := 5) rfl) (vl rfl)) (by simp) (fun c => ?_) fun c => ?_
      · have ep : placeOf hd ((bits.length - hd : Nat) : Int) u = hd + (u - hd) % ((bits.length : Int) - hd) := by
          unfold placeOf
          rw [if_neg (by omega), show ((bits.length - hd : Nat) : Int) = (bits.length : Int) - hd by omega]
        refine v_rI0 (g := fun i j => .int (i + j)) (val_var (i := 2) rfl) (v_rI (g := fun i j => .int (i % j)) (v_cb (v_rI0 (g := fun i j => .int (i - j)) (val_var (i := 5) rfl) (val_var (i := 2) rfl)) fun Q q => Or.inl ⟨_, rfl, q⟩) (v_rI0 (g := fun i j => .int (i - j)) (vl rfl) (val_var (i := 2) rfl)) (by omega)) _ (hN _ _ ⟨rfl, ?_⟩)
        rw [ep]
        rfl
      · have ep : placeOf hd ((bits.length - hd : Nat) : Int) u = u := by
          unfold placeOf
          rw [if_pos (by omega)]
        refine hN _ _ ⟨rfl, ?_⟩
        rw [ep]
        rfl
    rintro σ' H' ⟨rfl, rfl⟩
    obtain ⟨v, hv⟩ : ∃ v : Nat, placeOf hd ((bits.length - hd : Nat) : Int) u = (v : Int) ∧ v < bits.length := by
      have r0 := Int.emod_nonneg (u - hd) (show ((bits.length - hd : Nat) : Int) ≠ 0 by omega)
      have r1 := Int.emod_lt_of_pos (u - hd) (show 0 < ((bits.length - hd : Nat) : Int) by omega)
      refine ⟨(placeOf hd ((bits.length - hd : Nat) : Int) u).toNat, ?_, ?_⟩ <;> unfold placeOf <;> split <;> omega
    rw [hv.1] at k ⊢
    refine st_ret (v_ixL (val_var rfl) (val_var rfl) (SqL.of eb) (at_of (z := (v : Int)) (j := v) rfl (by rw [List.getElem?_map, List.getElem?_eq_getElem hv.2]; rfl))) ?_
    rw [show ((v : Int)).toNat = v from rfl, List.getD_eq_getElem?_getD, List.getElem?_eq_getElem hv.2] at k
    exact k
end
end My

namespace My
open PySem L2
theorem count_sl {K : PySem.W.Frag} {σ : St} {H : Hp} {Q : VK} {te : TE} {i : Nat} {bl : Addr} {bits : List Bool} {u : Int} (hi : σ[i]? = some (some (V.ref bl))) (e : H bl = some (.lst (bits.map V.bl))) (ht : Val te σ H (.int u)) (u0 : 0 ≤ u) (q : ∀ H', Same H H' → Q (.int (countT (bits.take u.toNat) : Nat)) H') :
    tBM K "list" (rCountB K) (tSl (rSlL K) (tVar i) tNoPart (tPart te)) (tCons (tC (.bl true)) tNil) σ H Q := by
  refine ⟨_, hi, ht _ ⟨u, rfl, bl, _, rfl, SqL.of e, fun p hp => ?_⟩⟩
  have s := Same.new (o := .lst (cutV (bits.map V.bl) none (some u))) hp
  have g : upd H p (.lst (cutV (bits.map V.bl) none (some u))) p = some (.lst ((bits.take u.toNat).map V.bl)) := by
    rw [upd_same, show u = ((u.toNat : Nat) : Int) by omega, My.cut_take, List.map_take]
    rfl
  exact ⟨tyL g, p, bits.take u.toNat, true, rfl, rfl, SqL.of g, q _ s⟩
theorem count_v {K : PySem.W.Frag} {σ : St} {H : Hp} {i : Nat} {bl : Addr} {bits : List Bool} (hi : σ[i]? = some (some (V.ref bl))) (e : H bl = some (.lst (bits.map V.bl))) : Val (tBM K "list" (rCountB K) (tVar i) (tCons (tC (.bl true)) tNil)) σ H (.int (countT bits : Nat)) := fun Q q => ⟨_, hi, tyL e, bl, bits, true, rfl, rfl, SqL.of e, q⟩
def spBelowW : Sp := fun vs H Q _ => ∃ (w bl : Addr) (head : Nat) (bits : List Bool) (b m : Int), vs = [.ref w, .int m] ∧ WAt H w bl head bits b ∧ head < bits.length ∧ bits.length ≤ 1000 ∧ 1 ≤ b ∧ b ≤ 10 ^ 12 ∧ 0 ≤ m ∧ m ≤ 10 ^ 41 ∧ ∀ H', Same H H' → Q (.int (cnt (gw head bits b) m)) H'
section
variable {P : Program} {w : World} {K : PySem.W.Frag} {mg : Str → Option Value} {base : Heap} {a : Ad}
theorem G__law_below (T : Tx K mg a) : FnOk P w K mg base CX0 2 a.f__law_below a.d__law_below ["w", "minute"] spBelowW := by
  refine T.F__law_below.ok sc__law_below (fun vs H Q E h => ?_) (fun cdv A outer s H vs Q E hr h => ?_)
  · obtain ⟨w, bl, hd, bits, b, m, rfl, _⟩ := h
    rfl
  · obtain ⟨wa, bl, hd, bits, b, m, rfl, hw, ln, lz, b1, b2, m0, m1, k⟩ := h
    refine ⟨_, (pss_cons (ps_asg (pv 0) (pg_tup rfl (pgs_cons (pg_name (i := 2) sc__law_below.nd rfl (Or.inl rfl)) (pgs_cons (pg_name (i := 3) sc__law_below.nd rfl (Or.inl rfl)) (pgs_cons (pg_name (i := 4) sc__law_below.nd rfl (Or.inl rfl)) pgs_nil)))))
      (pss_cons (ps_set (i := 5) sc__law_below.nd rfl (Or.inl rfl) (pe_op op_fdivW (pv 1) (pv 4)))
      (pss_cons (ps_set (i := 6) sc__law_below.nd rfl (Or.inl rfl) (pe_bm PySem.F.plainAttrs_list PySem.F.slot_list_count PySem.F.type_list_count (mt_countB hr.units) (pe_slice sl_list (pv 3) po_none (po_some (pv 5))) (pa_cons pe_bl pa_nil)))
      (pss_cons (ps_if (pt_cmpR op_gt (pv 5) (pe_callB call_len_seq (by rfl) T.n_len (by decide +kernel) (pa_cons (pv 3) pa_nil)) (nomark _)) (pss_cons (ps_set (i := 7) sc__law_below.nd rfl (Or.inl rfl) (pe_slice sl_list (pv 3) (po_some (pv 2)) po_none))
      (pss_cons (ps_set (i := 8) sc__law_below.nd rfl (Or.inl rfl) (pe_op op_fdivW (pe_op op_sub (pv 5) (pv 2)) (pe_callB call_len_seq (by rfl) T.n_len (by decide +kernel) (pa_cons (pv 7) pa_nil))))
      (pss_cons (ps_set (i := 9) sc__law_below.nd rfl (Or.inl rfl) (pe_slice sl_list (pv 7) po_none (po_some (pe_op op_mod (pe_callTy call_int1 (by rfl) T.n_int (by decide +kernel) (pa_cons (pe_op op_sub (pv 5) (pv 2)) pa_nil)) (pe_callB call_len_seq (by rfl) T.n_len (by decide +kernel) (pa_cons (pv 7) pa_nil))))))
      (pss_cons (ps_set (i := 6) sc__law_below.nd rfl (Or.inl rfl) (pe_op op_add (pe_bm PySem.F.plainAttrs_list PySem.F.slot_list_count PySem.F.type_list_count (mt_countB hr.units) (pe_slice sl_list (pv 3) po_none (po_some (pv 2))) (pa_cons pe_bl pa_nil)) (pe_bm PySem.F.plainAttrs_list PySem.F.slot_list_count PySem.F.type_list_count (mt_countB hr.units) (pv 9) (pa_cons pe_bl pa_nil))))
      (pss_one (ps_set (i := 6) sc__law_below.nd rfl (Or.inl rfl) (pe_op op_add (pv 6) (pe_op op_mul (pv 8) (pe_bm PySem.F.plainAttrs_list PySem.F.slot_list_count PySem.F.type_list_count (mt_countB hr.units) (pv 7) (pa_cons pe_bl pa_nil)))))))))) pss_nil)
      (pss_cons (ps_if (pt_val (pe_call (G__law_is_in T) (hr.mono (by decide)) rfl T.g__law_is_in T.F__law_is_in.kp T.b__law_is_in .nil pass0 (pa_cons (pv 0) (pa_cons (pv 1) pa_nil)))) (pss_one (ps_ret (pe_op op_add (pe_op op_mul (pv 6) (pv 4)) (pe_op op_mod (pe_callTy call_int1 (by rfl) T.n_int (by decide +kernel) (pa_cons (pv 1) pa_nil)) (pv 4))))) pss_nil)
      (pss_one (ps_ret (pe_op op_mul (pv 6) (pv 4))))))))), ?_⟩
    refine st_seq ⟨_, rfl, wa, _, rfl, SqT.of hw.1, rfl, _, _, rfl, _, _, rfl, _, _, rfl, rfl, ?_⟩
    dsimp only
    have e : cnt (gw hd bits b) m = lawCount hd bits (m / b) * b + if gq hd bits (m / b) = true then m % b else 0 := by
      rw [cnt_by (f := gw hd bits b) (g := gq hd bits) b1 m0 fun t _ => rfl, cnt_law ln (Int.ediv_nonneg m0 (by omega))]
    rw [e] at k
    have u0 : 0 ≤ m / b := Int.ediv_nonneg m0 (by omega)
    have gi : gw hd bits b m = gq hd bits (m / b) := rfl
    refine st_let (v_rI (g := fun i j => .int (i / j)) (val_var rfl) (val_var rfl) (wide_div (b := 50) (by omega) (by omega) (by decide) (by decide))) ?_
    obtain ⟨u, hu⟩ : ∃ u, u = m / b := ⟨_, rfl⟩
    rw [← hu] at k u0 gi ⊢
    refine st_letX (count_sl rfl hw.2 (val_var rfl) u0 fun H1 s1 => ?_)
    have w1 := hw.same s1
    have vl : ∀ {σ : St} {H' : Hp} {i : Nat} {z : Addr} {bs : List Bool}, H' z = some (.lst (bs.map V.bl)) → σ[i]? = some (some (V.ref z)) → Val (tCB (fun xs H_1 Q => ∃ p ys, xs = [V.ref p] ∧ (SqL K H_1 p ys ∨ SqT K H_1 p ys) ∧ Q (V.int ↑ys.length) H_1) (tCons (tVar i) tNil)) σ H' (.int (bs.length : Nat)) := fun e h => v_cb (val_var h) fun Q q => ⟨_, _, rfl, Or.inl (SqL.of e), by rw [List.length_map]; exact q⟩
    refine st_shareS (fun σ' H' => ∃ v7 v8 v9, σ' = [some (.ref wa), some (.int m), some (.int hd), some (.ref bl), some (.int b), some (.int u), some (.int (lawCount hd bits u)), v7, v8, v9] ∧ Same H H') ?_ fun N hN => ?_
    case refine_2 =>
      refine st_ifp (q := u > bits.length) (a_cmp (f := fun i j => decide (j < i)) (val_var rfl) (vl w1.2 rfl)) decide_eq_true_iff (fun c => ?_) fun c => ?_
      · refine st_letX ⟨_, rfl, _, rfl, _, rfl, bl, _, rfl, SqL.of w1.2, fun a1 ha1 => ?_⟩
        have t1 := Same.new (o := .lst (cutV (bits.map V.bl) (some (hd : Int)) none)) ha1
        have g1 : upd H1 a1 (.lst (cutV (bits.map V.bl) (some (hd : Int)) none)) a1 = some (.lst ((bits.drop hd).map V.bl)) := by rw [upd_same, My.cut_drop, List.map_drop]
        generalize upd H1 a1 (.lst (cutV (bits.map V.bl) (some (hd : Int)) none)) = H3 at t1 g1 ⊢
        have lt : (bits.drop hd).length = bits.length - hd := List.length_drop
        refine st_let (v_rI (g := fun i j => .int (i / j)) (v_rI0 (g := fun i j => .int (i - j)) (val_var rfl) (val_var rfl)) (vl g1 rfl) (wide_div (b := 50) (by omega) (by omega) (by decide) (by decide))) ?_
        have lm := Int.emod_nonneg (u - hd) (show ((bits.drop hd).length : Int) ≠ 0 by omega)
        refine st_letX ⟨_, rfl, ?_⟩
        dsimp only [tNoPart, tPart]
        refine (v_rI (g := fun i j => .int (i % j)) (i := u - hd) (j := ((bits.drop hd).length : Nat)) (v_cb (v_rI0 (g := fun i j => .int (i - j)) (val_var rfl) (val_var rfl)) fun Q q => Or.inl ⟨_, rfl, q⟩) (vl g1 rfl) (by omega)) _ ⟨_, rfl, a1, _, rfl, SqL.of g1, fun a2 ha2 => ?_⟩
        have t2 := Same.new (o := .lst (cutV ((bits.drop hd).map V.bl) none (some ((u - hd) % ((bits.drop hd).length : Int))))) ha2
        have g2 : upd H3 a2 (.lst (cutV ((bits.drop hd).map V.bl) none (some ((u - hd) % ((bits.drop hd).length : Int))))) a2 = some (.lst (((bits.drop hd).take ((u - hd) % ((bits.drop hd).length : Int)).toNat).map V.bl)) := by
          obtain ⟨r, hr⟩ := Int.eq_ofNat_of_zero_le lm
          rw [upd_same, hr, My.cut_take, List.map_take]
          rfl
        dsimp only
        generalize upd H3 a2 (.lst (cutV ((bits.drop hd).map V.bl) none (some ((u - hd) % ((bits.drop hd).length : Int))))) = H4 at t2 g2 ⊢
        have w4 := (w1.same t1).same t2
        refine st_letX (count_sl rfl w4.2 (val_var rfl) (by omega) fun H5 s5 => (count_v rfl (s5 _ _ g2)) _ ⟨_, _, rfl, rfl, ?_⟩)
        dsimp only
        refine st_asgX ((v_rI0 (g := fun i j => .int (i + j)) (val_var rfl) (v_rI (g := fun i j => .int (i * j)) (val_var rfl) (count_v rfl (s5 _ _ (t2 _ _ g1))) (Or.inr ⟨by omega, ?_⟩))) _ (hN _ _ ⟨some (.ref a1), some (.int ((u - hd) / ((bits.drop hd).length : Nat))), some (.ref a2), ?_, ((s1.trans t1).trans t2).trans s5⟩))
        · have : countT (bits.drop hd) ≤ (bits.drop hd).length := List.countP_le_length
          omega
        · unfold lawCount
          rw [if_pos c, ← lt, Int.toNat_natCast]
          rfl
      · refine hN _ _ ⟨none, none, none, ?_, s1⟩
        unfold lawCount
        rw [if_neg c]
        rfl
    rintro σ' H2 ⟨v7, v8, v9, rfl, s2⟩
    have w2 := hw.same s2
    refine st_guard (q := gw hd bits b m = true) (b := gw hd bits b m) (fun QT q => ⟨_, rfl, _, rfl, wa, bl, hd, bits, b, m, rfl, w2, ln, lz, b1, b2, m0, _, rfl, q⟩) Iff.rfl (fun c => ?_) fun c => ?_
    · rw [gi] at c
      have k := k H2 s2
      rw [if_pos c] at k
      exact st_ret (v_rI0 (g := fun i j => .int (i + j)) (v_rI (g := fun i j => .int (i * j)) (val_var rfl) (val_var rfl) (Or.inr ⟨by omega, by omega⟩)) (v_rI (g := fun i j => .int (i % j)) (v_cb (val_var rfl) fun Q q => Or.inl ⟨_, rfl, q⟩) (val_var rfl) (by omega))) k
    · rw [gi] at c
      have k := k H2 s2
      rw [if_neg c, Int.add_zero] at k
      exact st_ret (v_rI (g := fun i j => .int (i * j)) (val_var rfl) (val_var rfl) (Or.inr ⟨by omega, by omega⟩)) k
end
end My

namespace My
open PySem L2
def spPlaceW : Sp := fun vs H Q _ => ∃ (w bl : Addr) (head : Nat) (bits : List Bool) (b i : Int), vs = [.ref w, .int i] ∧ WAt H w bl head bits b ∧ head < bits.length ∧ bits.length ≤ 1000 ∧ 1 ≤ b ∧ b ≤ 10 ^ 12 ∧ -(10 ^ 60) ≤ i ∧ i ≤ 10 ^ 60 ∧ ∀ r H', IsNth (gw head bits b) i r → Same H H' → Q (optV r) H'
/-- [t for t in range(lo, lo + n) if ..] -/
theorem comp_keep {tt : TT} {te : TE} {vs : List Nat} {σ : St} {H1 : Hp} {Q : VK} {i0 : Nat} (kp : Nat → Bool) {lo : Int} {n : Nat} (hz : n ≤ 1000000) (hw : ∀ x, wipe ((wipe σ vs).set i0 (some x)) vs = wipe σ vs)
    (ht : ∀ (i : Nat) H, i < n → Same H1 H → Ans tt ((wipe σ vs).set i0 (some (.int (lo + i)))) H (kp i)) (he : ∀ (i : Nat) H, i < n → Same H1 H → Val te ((wipe σ vs).set i0 (some (.int (lo + i)))) H (.int (lo + i)))
    (hd : ∀ D H', H1 D = none → H' D = some (.lst (((List.range n).filter kp).map fun i => V.int (lo + (i : Nat)))) → Same H1 H' → Q (.ref D) H') : tLc (fun _ H R => R (Itr lo n) H) (gName i0) tt te vs σ H1 Q := by
  have e : ∀ i : Nat, (fun v : V => match v with | .int z => kp (z - lo).toNat | _ => false) (.int (lo + i)) = kp i := fun i => by
    show kp (lo + i - lo).toNat = kp i
    rw [show (lo + (i : Int) - lo).toNat = i by omega]
  refine comp_range (fun v => match v with | .int z => kp (z - lo).toNat | _ => false) id hz hw (fun i H hi s => ?_) (fun i H hi _ s => he i H hi s) fun D H' hD eD s => hd D H' hD ?_ s
  · have := ht i H hi s
    rw [← e i] at this
    exact this
  · rw [eD, List.map_id]
    unfold rng
    rw [List.filter_map]
    congr 3
    refine List.filter_congr fun i _ => ?_
    exact e i
theorem lcR2V {ta tb te : TE} {g : TG} {tt : TT} {vs : List Nat} {σ : St} {H1 : Hp} {Q : VK} {lo hi : Int} (ha : Val ta σ H1 (.int lo)) (hb : Val tb σ H1 (.int hi)) (b1 : -1000000 ≤ lo ∧ lo ≤ 1000000) (b2 : -1000000 ≤ hi ∧ hi ≤ 1000000) (h : tLc (fun _ H R => R (Itr lo (hi - lo).toNat) H) g tt te vs σ H1 Q) : tLc (iRng2 (tCons ta (tCons tb tNil))) g tt te vs σ H1 Q := ha _ (hb _ ⟨lo, hi, rfl, ⟨by omega, by omega, by omega, by omega⟩, h⟩)
theorem gq_low {head : Nat} {bits : List Bool} (ln : head < bits.length) {i : Nat} (hi : i < bits.length) : gq head bits (i : Nat) = bits[i] := by
  unfold gq placeOf
  rw [if_pos (by omega), Int.toNat_natCast, List.getD_eq_getElem?_getD, List.getElem?_eq_getElem hi]
  rfl
section
variable {P : Program} {w : World} {K : PySem.W.Frag} {mg : Str → Option Value} {base : Heap} {a : Ad}
theorem G__law_place (T : Tx K mg a) : FnOk P w K mg base CX0 1 a.f__law_place a.d__law_place ["w", "index"] spPlaceW := by
  refine T.F__law_place.ok sc__law_place (fun vs H Q E h => ?_) (fun cdv A outer s H vs Q E hr h => ?_)
  · obtain ⟨w, bl, hd, bits, b, m, rfl, _⟩ := h
    rfl
  · obtain ⟨wa, bl, hd, bits, b, i, rfl, hw, ln, lz, b1, b2, i0, i1, k⟩ := h
    refine ⟨_, (pss_cons (ps_asg (pv 0) (pg_tup rfl (pgs_cons (pg_name (i := 2) sc__law_place.nd rfl (Or.inl rfl)) (pgs_cons (pg_name (i := 3) sc__law_place.nd rfl (Or.inr rfl)) (pgs_cons (pg_name (i := 4) sc__law_place.nd rfl (Or.inl rfl)) pgs_nil)))))
      (pss_cons (ps_setLc (i := 5) (own := [("t", 6)]) (g := gName 6) (tt := _) rfl sc__law_place.nd rfl rfl (sw_true rfl rfl rfl (by decide +kernel)) (pi_range1 rfl T.n_range (pa_cons (pv 2) pa_nil)) (blkOk_by (own := [("t", 6)]) (N := ["w", "index", "head", "bits", "by", "front", "t", "back", "at", "unit"]) (sc := defScope s__law_place) (by decide +kernel)) (fun _ _ _ _ _ => (pg_name (i := 6) sc__law_place.nd rfl (Or.inl rfl))) (fun _ _ _ _ _ => (pts_one (pt_val (pe_ix (ix_listK K) (pv 3) (pv 6) (fun _ _ => rfl))))) (fun _ _ _ _ _ => (pv 6)))
      (pss_cons (ps_setLc (i := 7) (own := [("t", 6)]) (g := gName 6) (tt := _) rfl sc__law_place.nd rfl rfl (sw_true rfl rfl rfl (by decide +kernel)) (pi_range2 rfl T.n_range (pa_cons (pv 2) (pa_cons (pe_callB call_len_seq (by rfl) T.n_len (by decide +kernel) (pa_cons (pv 3) pa_nil)) pa_nil))) (blkOk_by (own := [("t", 6)]) (N := ["w", "index", "head", "bits", "by", "front", "t", "back", "at", "unit"]) (sc := defScope s__law_place) (by decide +kernel)) (fun _ _ _ _ _ => (pg_name (i := 6) sc__law_place.nd rfl (Or.inl rfl))) (fun _ _ _ _ _ => (pts_one (pt_val (pe_ix (ix_listK K) (pv 3) (pv 6) (fun _ _ => rfl))))) (fun _ _ _ _ _ => (pv 6)))
      (pss_cons (ps_set (i := 8) sc__law_place.nd rfl (Or.inl rfl) (pe_op op_fdivW (pv 1) (pv 4)))
      (pss_cons (ps_if (PW.pt (pw_or (pt_cmpR op_lt (pv 1) pe_int (nomark _)) (pw_or1 (PW.pt (pw_and (pt_cmpR op_ge (pv 8) (pe_callB call_len_seq (by rfl) T.n_len (by decide +kernel) (pa_cons (pv 5) pa_nil)) (nomark _)) (pw_and1 (pt_cmpR op_eq (pe_callB call_len_seq (by rfl) T.n_len (by decide +kernel) (pa_cons (pv 7) pa_nil)) pe_int (nomark _)))))))) (pss_one (ps_ret pe_non)) pss_nil)
      (pss_cons (ps_if (pt_cmpR op_lt (pv 8) (pe_callB call_len_seq (by rfl) T.n_len (by decide +kernel) (pa_cons (pv 5) pa_nil)) (nomark _)) (pss_one (ps_ret (pe_op op_add (pe_op op_mul (pe_ix ix_list (pv 5) (pv 8) (fun _ _ => rfl)) (pv 4)) (pe_op op_mod (pe_callTy call_int1 (by rfl) T.n_int (by decide +kernel) (pa_cons (pv 1) pa_nil)) (pv 4))))) pss_nil)
      (pss_cons (ps_set (i := 8) sc__law_place.nd rfl (Or.inl rfl) (pe_op op_sub (pv 8) (pe_callB call_len_seq (by rfl) T.n_len (by decide +kernel) (pa_cons (pv 5) pa_nil))))
      (pss_cons (ps_set (i := 9) sc__law_place.nd rfl (Or.inl rfl) (pe_op op_add (pe_ix ix_list (pv 7) (pe_op op_mod (pe_callTy call_int1 (by rfl) T.n_int (by decide +kernel) (pa_cons (pv 8) pa_nil)) (pe_callB call_len_seq (by rfl) T.n_len (by decide +kernel) (pa_cons (pv 7) pa_nil))) (fun _ _ => rfl)) (pe_op op_mul (pe_op op_fdivW (pv 8) (pe_callB call_len_seq (by rfl) T.n_len (by decide +kernel) (pa_cons (pv 7) pa_nil))) (pe_op op_sub (pe_callB call_len_seq (by rfl) T.n_len (by decide +kernel) (pa_cons (pv 3) pa_nil)) (pv 2)))))
      (pss_one (ps_ret (pe_op op_add (pe_op op_mul (pv 9) (pv 4)) (pe_op op_mod (pe_callTy call_int1 (by rfl) T.n_int (by decide +kernel) (pa_cons (pv 1) pa_nil)) (pv 4))))))))))))), ?_⟩
    refine st_seq ⟨_, rfl, wa, _, rfl, SqT.of hw.1, rfl, _, _, rfl, _, _, rfl, _, _, rfl, rfl, ?_⟩
    dsimp only
    have vl : ∀ {σ : St} {H' : Hp} {i : Nat} {z : Addr} {ys : List V} {n : Nat}, H' z = some (.lst ys) → ys.length = n → σ[i]? = some (some (V.ref z)) → Val (tCB (fun xs H_1 Q => ∃ p ys, xs = [V.ref p] ∧ (SqL K H_1 p ys ∨ SqT K H_1 p ys) ∧ Q (V.int ↑ys.length) H_1) (tCons (tVar i) tNil)) σ H' (.int (n : Nat)) := fun e l h => v_cb (val_var h) fun Q q => ⟨_, _, rfl, Or.inl (SqL.of e), by rw [l]; exact q⟩
    have lb : (bits.map V.bl).length = bits.length := List.length_map _
    have tst : ∀ {σ : St} {H' : Hp} (i : Nat), i < bits.length → Same H H' → σ[3]? = some (some (V.ref bl)) → σ[6]? = some (some (V.int (i : Int))) → Ans (tB (tOp (rIxL K) (tVar 3) (tVar 6))) σ H' (gq hd bits (i : Nat)) := fun i hi s e3 e6 => by
      rw [gq_low ln hi]
      exact a_bl (v_ixL (val_var e3) (val_var e6) (SqL.of (s _ _ hw.2)) (at_of (j := i) rfl (by rw [List.getElem?_map, List.getElem?_eq_getElem hi]; rfl)))
    refine st_letX (lcR1V (i := (hd : Int)) (val_var rfl) (by omega) (by omega) ?_)
    refine comp_keep (fun i => gq hd bits (i : Nat)) (n := hd) (by omega) (fun _ => rfl) (fun i H' hi s => tst i (by omega) s rfl (by rw [Int.zero_add]; rfl)) (fun i H' hi s => val_var rfl) fun fr H1 hfr efr s1 => ?_
    have efr : H1 fr = some (.lst ((frontL hd bits).map fun i => V.int (i : Nat))) := by
      rw [efr]
      congr 2
      unfold frontL memN
      refine List.map_congr_left fun i _ => by rw [Int.zero_add]
    refine st_letX (lcR2V (lo := (hd : Int)) (hi := (bits.length : Nat)) (val_var rfl) (vl (s1 _ _ hw.2) lb rfl) (by omega) (by omega) ?_)
    refine comp_keep (fun i => gq hd bits ((hd + i : Nat) : Int)) (n := ((bits.length : Int) - hd).toNat) (by omega) (fun _ => rfl) (fun i H' hi s => tst (hd + i) (by omega) (s1.trans s) rfl (by rw [Int.natCast_add]; rfl)) (fun i H' hi s => val_var rfl) fun ba H2 hba eba s2 => ?_
    have eba : H2 ba = some (.lst ((backL hd bits).map fun i => V.int (i : Nat))) := by
      rw [eba]
      congr 2
      unfold backL
      rw [List.filter_map, List.map_map, show ((bits.length : Int) - hd).toNat = bits.length - hd by omega]
      refine List.map_congr_left fun i _ => by show V.int ((hd : Int) + i) = V.int ((hd + i : Nat) : Int); rw [Int.natCast_add]
    have efr := s2 _ _ efr
    have s12 := s1.trans s2
    have hw2 := hw.same s12
    clear tst s1 s2 hba hfr
    have gi : ∀ t, 0 ≤ t → gw hd bits b t = gq hd bits (t / b) := fun t _ => rfl
    refine st_let (v_rI (g := fun i j => .int (i / j)) (val_var rfl) (val_var rfl) (wide_div (b := 50) (by omega) (by omega) (by decide) (by decide))) ?_
    obtain ⟨fl, hfl⟩ : ∃ fl, fl = (frontL hd bits).length := ⟨_, rfl⟩
    obtain ⟨bn, hbn⟩ : ∃ bn, bn = (backL hd bits).length := ⟨_, rfl⟩
    have fll : fl ≤ 1000 := by
      rw [hfl]
      unfold frontL memN
      exact Nat.le_trans (List.length_filter_le _ _) (by rw [List.length_range]; omega)
    have lfr : ((frontL hd bits).map fun i => V.int (i : Nat)).length = fl := by rw [List.length_map, hfl]
    have lba : ((backL hd bits).map fun i => V.int (i : Nat)).length = bn := by rw [List.length_map, hbn]
    have r0 := Int.emod_nonneg i (show b ≠ 0 by omega)
    have r1 := Int.emod_lt_of_pos i (show 0 < b by omega)
    have dm := Int.mul_ediv_add_emod i b
    have qb : i / b ≤ 10 ^ 60 := by
      by_cases c : 0 ≤ i
      · have := Int.ediv_le_self b c
        omega
      · have : i / b < 0 := Int.ediv_neg_of_neg_of_pos (by omega) (by omega)
        omega
    refine st_guard (q := i < 0 ∨ ((fl : Int) ≤ i / b ∧ bn = 0)) (a_or (a_cmp (f := fun i j => decide (i < j)) (val_var rfl) val_c) (fun _ => a_and (a_cmp (f := fun i j => decide (j ≤ i)) (val_var rfl) (vl efr lfr rfl)) (fun _ => a_eq (vl eba lba rfl) val_c))) (by simp) (fun c => ?_) fun c => ?_
    · refine k none _ ?_ s12
      by_cases c0 : i < 0
      · exact nth_neg c0
      · have c2 : (fl : Int) ≤ i / b ∧ bn = 0 := by omega
        exact nth_by (r := none) b1 (by omega) gi (back_none ln (by omega) (by omega))
    have i0' : 0 ≤ i := by omega
    have u0 : 0 ≤ i / b := Int.ediv_nonneg i0' (by omega)
    have fin : ∀ {σ : St} {te : TE} {u : Int}, Val te σ H2 (.int u) → u ≤ 10 ^ 70 → IsNth (gq hd bits) (i / b) (some u) → σ[4]? = some (some (V.int b)) → σ[1]? = some (some (V.int i)) → tRet (tOp (rI0 fun i j => V.int (i + j)) (tOp (rI CMul fun i j => V.int (i * j)) te (tVar 4)) (tOp (rI (fun x j => 0 < j) fun i j => V.int (i % j)) (tCB (fun xs H Q => (∃ i, xs = [V.int i] ∧ Q (V.int i) H) ∨ ∃ k, xs = [V.bl k] ∧ Q (V.int (if k = true then 1 else 0)) H) (tCons (tVar 1) tNil)) (tVar 4))) { nx := fun _ H' => Q V.non H', rt := Q } σ H2 := fun {σ te u} v ub n e4 e1 =>
      st_ret (v_rI0 (g := fun i j => .int (i + j)) (v_rI (g := fun i j => .int (i * j)) v (val_var e4) (Or.inr ⟨by omega, by omega⟩)) (v_rI (g := fun i j => .int (i % j)) (v_cb (val_var e1) fun Q q => Or.inl ⟨_, rfl, q⟩) (val_var e4) (by omega))) (k (some (u * b + i % b)) _ (nth_by (r := some u) b1 i0' gi n) s12)
    refine st_guard (q := i / b < fl) (a_cmp (f := fun i j => decide (i < j)) (val_var rfl) (vl efr lfr rfl)) decide_eq_true_iff (fun c => ?_) fun c => ?_
    · obtain ⟨j, hj⟩ := Int.eq_ofNat_of_zero_le u0
      obtain ⟨t, ht⟩ : ∃ t, (frontL hd bits)[j]? = some t := ⟨_, List.getElem?_eq_getElem (by omega)⟩
      have n := front_nth ln ht
      have tl := (memN_get (f := gq hd bits) (n := hd) ht).1
      exact fin (v_ixL (val_var rfl) (val_var rfl) (SqL.of efr) (at_of (j := j) hj (by rw [List.getElem?_map, ht]; rfl))) (by omega) (by rw [hj]; exact n) rfl rfl
    refine st_let (v_rI0 (g := fun i j => .int (i - j)) (val_var rfl) (vl efr lfr rfl)) ?_
    obtain ⟨m, hm⟩ := Int.eq_ofNat_of_zero_le (show 0 ≤ i / b - fl by omega)
    have bnz : 0 < bn := by omega
    have ml := Nat.mod_lt m bnz
    obtain ⟨t, ht⟩ : ∃ t, (backL hd bits)[m % bn]? = some t := ⟨_, List.getElem?_eq_getElem (by omega)⟩
    have n := back_nth ln (q := m / bn) ht
    rw [← hfl, ← hbn] at n
    have em : ((fl + bn * (m / bn) + m % bn : Nat) : Int) = i / b := by
      have := Nat.mod_add_div m bn
      omega
    rw [em] at n
    have tl : t < bits.length := by
      have := List.mem_of_getElem? ht
      obtain ⟨x, hx, rfl⟩ := List.mem_map.mp (List.mem_filter.mp this).1
      have := List.mem_range.mp hx
      omega
    have mq : (m / bn : Nat) ≤ m := Nat.div_le_self _ _
    have mi : (m : Int) / (bn : Int) = ((m / bn : Nat) : Int) := rfl
    obtain ⟨qq, hqq⟩ : ∃ qq, qq = m / bn := ⟨_, rfl⟩
    rw [← hqq] at n mq mi em
    have ub : ((t + (bits.length - hd) * qq : Nat) : Int) ≤ 10 ^ 70 := by
      have : ((bits.length - hd : Nat) : Int) * (qq : Int) ≤ 1000 * 10 ^ 60 := Int.mul_le_mul (by omega) (by omega) (by omega) (by omega)
      rw [Int.natCast_add, Int.natCast_mul]
      omega
    rw [hm]
    refine st_let (v := .int ((t + (bits.length - hd) * qq : Nat) : Int)) ?_ (fin (val_var rfl) ub n rfl rfl)
    have e1 : ((t + (bits.length - hd) * qq : Nat) : Int) = (t : Int) + ((m : Int) / (bn : Int)) * ((bits.length : Int) - hd) := by
      rw [Int.natCast_add, Int.natCast_mul, Int.mul_comm, show ((bits.length - hd : Nat) : Int) = (bits.length : Int) - hd by omega, mi]
    rw [e1]
    refine v_rI0 (g := fun i j => .int (i + j)) (v_ixL (val_var rfl) (v_rI (g := fun i j => .int (i % j)) (v_cb (val_var rfl) fun Q q => Or.inl ⟨_, rfl, q⟩) (vl eba lba rfl) (by omega)) (SqL.of eba) (at_of (j := m % bn) rfl (by rw [List.getElem?_map, ht]; rfl))) (v_rI (g := fun i j => .int (i * j)) (v_rI (g := fun i j => .int (i / j)) (val_var rfl) (vl eba lba rfl) (wide_div (b := 50) (by omega) ?_ (by decide) (by decide))) (v_rI0 (g := fun i j => .int (i - j)) (vl hw2.2 lb rfl) (val_var rfl)) (Or.inr ⟨by omega, by omega⟩))
    have : bn ≤ 1000 := by
      rw [hbn]
      unfold backL
      exact Nat.le_trans (List.length_filter_le _ _) (by rw [List.length_map, List.length_range]; omega)
    omega
end
end My

namespace My
open PySem L2
theorem sqT_ty {K : PySem.W.Frag} {H : Hp} {t : Addr} {xs : List V} (h : SqT K H t xs) : TyX K H (.ref t) (.type "tuple") := by
  rcases h with (h | ⟨o, h⟩) | ⟨o, its, n, h, hc, _⟩
  · exact .base (.tup h)
  · exact .fTuple h
  · exact .kTuple h hc
theorem pr_of {H : Hp} {t : Addr} {p : Int × Int} (h : H t = some (.tup [.int p.1, .int p.2])) : ∀ K, PrAt K H (some p) (.ref t) := fun K => ⟨t, rfl, SqT.of h, sqT_ty (SqT.of h)⟩
/-- [f for x, y in rows if ..] -/
theorem comp_rows {K : PySem.W.Frag} {a : Addr} {as : List V} {L : List Iv} {tt : TT} {te : TE} {vs : List Nat} {σ : St} {H1 : Hp} {Q : VK} {i j n : Nat} (keep : Iv → Bool) (f : Iv → Int) (hn : n = 2) (hp : SqL K H1 a as) (rw : Rw H1 as L) (hz : L.length ≤ 1000000)
    (hw : ∀ x y, wipe (((wipe σ vs).set i (some x)).set j (some y)) vs = wipe σ vs)
    (ht : ∀ (z : Iv) H, z ∈ L → Same H1 H → Ans tt (((wipe σ vs).set i (some (.int z.1))).set j (some (.int z.2))) H (keep z)) (he : ∀ (z : Iv) H, Same H1 H → Val te (((wipe σ vs).set i (some (.int z.1))).set j (some (.int z.2))) H (.int (f z)))
    (hd : ∀ D H', H1 D = none → H' D = some (.lst ((L.filter keep).map fun z => V.int (f z))) → Same H1 H' → Q (.ref D) H') : tLc (fun _ H R => R (Itl K a) H) (gTup K n (gCons (gName i) (gCons (gName j) gNil))) tt te vs σ H1 Q := by
  subst hn
  refine fun D hD => lc_list (xs := as) (fun k H' => H' D = some (.lst (((L.take k).filter keep).map fun z => V.int (f z))) ∧ Same H1 H') ⟨upd_same, Same.new hD⟩ (fun k H' _ p => p.2.seq hp) ?_ ?_
  · rintro k x H' hx ⟨h1, h2⟩
    have hk : k < L.length := by rw [← rw.1]; exact (List.getElem?_eq_some_iff.mp hx).1
    obtain ⟨z, hz'⟩ : ∃ z, L[k]? = some z := ⟨_, List.getElem?_eq_getElem hk⟩
    obtain ⟨t, e1, e2⟩ := rw.2 k z hz'
    rw [hx] at e1
    cases e1
    refine ⟨t, _, rfl, SqT.of (h2 _ _ e2), rfl, _, _, rfl, _, _, rfl, rfl, hw _ _, ?_⟩
    have e : (L.take (k + 1)).filter keep = (L.take k).filter keep ++ (if keep z = true then [z] else []) := by
      rw [take_snoc hz', List.filter_append]
      congr 1
      by_cases c : keep z = true <;> simp [c]
    refine ht z H' (List.mem_of_getElem? hz') h2 _ ?_
    by_cases c : keep z = true
    · rw [if_pos c]
      refine he z H' h2 _ ⟨_, h1, ?_, ?_, ?_⟩
      · have l1 : (((L.take k).filter keep).map fun z => V.int (f z)).length ≤ L.length := by
          rw [List.length_map]
          exact Nat.le_trans (List.length_filter_le _ _) (by rw [List.length_take]; exact Nat.min_le_right _ _)
        exact Nat.lt_of_le_of_lt (Nat.le_trans l1 hz) (by decide)
      · rw [upd_same, e, if_pos c, List.map_append]
        rfl
      · exact fun b o q => by rw [upd_ne (ne_of_none q hD)]; exact h2 b o q
    · rw [if_neg c]
      refine ⟨?_, h2⟩
      rw [h1, e, if_neg c, List.append_nil]
  · rintro H' ⟨h1, h2⟩
    rw [rw.1, List.take_length] at h1
    exact hd D H' hD h1 h2
theorem comp_rowsL {tl : TE} {K : PySem.W.Frag} {a : Addr} {as : List V} {L : List Iv} {tt : TT} {te : TE} {vs : List Nat} {σ : St} {H1 : Hp} {Q : VK} {i j n : Nat} (keep : Iv → Bool) (f : Iv → Int) (hn : n = 2) (hl : ∀ R : V → Hp → Prop, R (.ref a) H1 → tl σ H1 R) (hp : SqL K H1 a as) (rw : Rw H1 as L) (hz : L.length ≤ 1000000)
    (hw : ∀ x y, wipe (((wipe σ vs).set i (some x)).set j (some y)) vs = wipe σ vs)
    (ht : ∀ (z : Iv) H, z ∈ L → Same H1 H → Ans tt (((wipe σ vs).set i (some (.int z.1))).set j (some (.int z.2))) H (keep z)) (he : ∀ (z : Iv) H, Same H1 H → Val te (((wipe σ vs).set i (some (.int z.1))).set j (some (.int z.2))) H (.int (f z)))
    (hd : ∀ D H', H1 D = none → H' D = some (.lst ((L.filter keep).map fun z => V.int (f z))) → Same H1 H' → Q (.ref D) H') : tLc (iList K tl) (gTup K n (gCons (gName i) (gCons (gName j) gNil))) tt te vs σ H1 Q := hl _ ⟨a, rfl, ⟨_, hp⟩, comp_rows keep f hn hp rw hz hw ht he hd⟩
def spGaps (a : Ad) : Sp := fun vs H Q _ => ∃ (x : Addr) (h p : Int) (S : List Iv), vs = [.ref x] ∧ PatC a H x h p S ∧ ∀ (l : Addr) (as : List V) (L : List (Int × Int)) H', H' l = some (.lst as) → Rw H' as L → L.length ≤ 10000 → Covers (mem S h p) L → Same H H' → Q (.ref l) H'
def spShortest (a : Ad) : Sp := fun vs H Q _ => ∃ (x : Addr) (h p : Int) (S : List Iv), vs = [.ref x] ∧ PatC a H x h p S ∧ ∀ r v H', IsShort (mem S h p) r → (∀ K, PrAt K H' r v) → Same H H' → Q v H'
def spLongest (a : Ad) : Sp := fun vs H Q _ => ∃ (x : Addr) (h p : Int) (S : List Iv), vs = [.ref x] ∧ PatC a H x h p S ∧ ∀ r v H', IsLong (mem S h p) r → (∀ K, PrAt K H' r v) → Same H H' → Q v H'
section
variable {P : Program} {w : World} {K : PySem.W.Frag} {mg : Str → Option Value} {base : Heap} {a : Ad}
theorem G_gaps (T : Tx K mg a) : FnOk P w K mg base CX0 5 a.f_gaps a.d_gaps ["pattern"] (spGaps a) := by
  refine T.F_gaps.ok sc_gaps (fun vs H Q E h => ?_) (fun cdv A outer s H vs Q E hr h => ?_)
  · obtain ⟨x, h, p, S, rfl, _⟩ := h
    rfl
  · obtain ⟨x, hh, p, S, rfl, c, k⟩ := h
    refine ⟨_, (pss_cons (ps_set (i := 1) sc_gaps.nd rfl (Or.inl rfl) (pe_lst pa_nil))
      (pss_cons (ps_for PassesOwn.never rfl (pi_tup (pe_fld (pv 0) rfl)) (pg_tup rfl (pgs_cons (pg_name (i := 2) sc_gaps.nd rfl (Or.inl rfl)) (pgs_cons (pg_name (i := 3) sc_gaps.nd rfl (Or.inl rfl)) pgs_nil))) (pss_cons (ps_if (pt_cmpR op_gt (pe_op op_sub (pv 3) (pv 2)) pe_int (nomark _)) (pss_one (ps_expr (pe_bm PySem.F.plainAttrs_list PySem.F.slot_list_append PySem.F.type_list_append mt_append (pv 1) (pa_cons (pe_tup (pa_cons pe_int (pa_cons (pv 2) pa_nil))) pa_nil)))) pss_nil)
      (pss_cons (ps_set (i := 4) sc_gaps.nd rfl (Or.inl rfl) (pe_meth (pv 0) T.cl_Pattern T.m_Pattern_first_from (G_Pattern_first_from T) (hr.mono (by decide)) T.b_Pattern_first_from .nil passL (pa_cons (pv 3) pa_nil)))
      (pss_one (ps_if (pt_cmpR op_notN (pv 4) pe_non (nomark _)) (pss_one (ps_expr (pe_bm PySem.F.plainAttrs_list PySem.F.slot_list_append PySem.F.type_list_append mt_append (pv 1) (pa_cons (pe_tup (pa_cons (pe_op op_add (pe_op op_sub (pv 4) (pv 3)) pe_int) (pa_cons (pe_op op_sub (pv 3) pe_int) pa_nil))) pa_nil)))) pss_nil)))))
      (pss_one (ps_ret (pv 1))))), ?_⟩
    obtain ⟨dx, st, bs, u, hx, est, rws, eu, td, lS⟩ := id c.at'
    obtain ⟨f, hf⟩ : ∃ f, f = mem S hh p := ⟨_, rfl⟩
    have h0 := c.h0
    have p1 := c.p1
    have h1 := c.h1
    have p2 := c.p2
    refine st_letX ⟨by show 0 ≤ sizeLine; decide, fun pl hpl => ?_⟩
    have s1 := Same.new (o := .lst []) hpl
    have epl : upd H pl (.lst []) pl = some (.lst []) := upd_same
    have npl : ∀ b o, H b = some o → b ≠ pl := fun b o e z => by rw [z, hpl] at e; cases e
    generalize upd H pl (.lst []) = H1 at s1 epl ⊢
    have same : ∀ H', But pl H1 H' → Same H H' := fun H' bt b o e => bt b o (s1 b o e) (npl b o e)
    refine st_seq (st_forT (a := st) (xs := bs) (fun R q => val_fld (val_var rfl) (s1 _ _ hx) T.cl_Pattern T.no_Pattern_stretches (by kernel_rfl : List.lookup _ _ = some (V.ref st)) _ q) (fun i σ' H' => ∃ (v2 v3 v4 : Option V) (as : List V) (L : List Iv), σ' = [some (.ref x), some (.ref pl), v2, v3, v4] ∧ H' pl = some (.lst as) ∧ Rw H' as L ∧ L.length ≤ 2 * i ∧ (∀ q ∈ L, IsGap (mem S hh p) q.1 q.2) ∧ (∀ z ∈ S.take i, z.2 - z.1 > 1 → (1, z.1) ∈ L) ∧ (∀ z ∈ S.take i, ∃ r, IsNth (mem S hh p) (cnt (mem S hh p) z.2) r ∧ ∀ t, r = some t → (t - z.2 + 1, z.2 - 1) ∈ L) ∧ But pl H1 H')
      ⟨_, _, _, [], [], rfl, epl, Rw.nil, by simp, (fun q h => nomatch h), (fun z h => nomatch h), (fun z h => nomatch h), But.refl _ _⟩ (fun i σ' H' _ ⟨_, _, _, _, _, _, _, _, _, _, _, _, bt⟩ => SqT.of (same _ bt _ _ est)) ?_ ?_)
    · rintro i v σ' H2 hv ⟨v2, v3, v4, as, L, rfl, el, rwl, ll, so, w1, w2, bt⟩
      have hi : i < S.length := by rw [← rws.1]; exact (List.getElem?_eq_some_iff.mp hv).1
      obtain ⟨z, hz⟩ : ∃ z, S[i]? = some z := ⟨_, List.getElem?_eq_getElem hi⟩
      have zm := List.mem_of_getElem? hz
      obtain ⟨t, e1, e2⟩ := (rws.same (same _ bt)).2 i z hz
      rw [hv] at e1
      cases e1
      have zb := c.box z zm
      have zl := td.1 z zm
      have tk := take_snoc hz
      have l1 := rwl.1
      refine ⟨t, _, rfl, SqT.of e2, rfl, _, _, rfl, _, _, rfl, rfl, ?_⟩
      dsimp only [gName, List.set, List.length]
      refine st_shareS (fun σ' H3 => ∃ (as : List V) (L : List Iv), σ' = [some (.ref x), some (.ref pl), some (.int z.1), some (.int z.2), v4] ∧ H3 pl = some (.lst as) ∧ Rw H3 as L ∧ L.length ≤ 2 * i + 1 ∧ (∀ q ∈ L, IsGap (mem S hh p) q.1 q.2) ∧ (∀ z ∈ S.take (i + 1), z.2 - z.1 > 1 → (1, z.1) ∈ L) ∧ (∀ z ∈ S.take i, ∃ r, IsNth (mem S hh p) (cnt (mem S hh p) z.2) r ∧ ∀ t, r = some t → (t - z.2 + 1, z.2 - 1) ∈ L) ∧ But pl H1 H3) ?_ fun N hN => ?_
      case refine_2 =>
        refine st_ifp (q := z.2 - z.1 > 1) (a_cmp (f := fun i j => decide (j < i)) (v_rI0 (g := fun i j => .int (i - j)) (val_var rfl) (val_var rfl)) val_c) decide_eq_true_iff (fun d => ?_) fun d => ?_
        · refine app_pair rfl el (by omega) val_c (val_var rfl) fun u H3 eu' el' bt' fu => hN _ _ ⟨_, L ++ [(1, z.1)], rfl, el', ?_, by rw [List.length_append, List.length_singleton]; omega, ?_, ?_, ?_, bt.trans bt'⟩
          · exact (rwl.but bt' el (by intro xs q; cases q)).snoc eu'
          · intro q hq
            rcases List.mem_append.mp hq with hq | hq
            · exact so q hq
            · obtain rfl := List.mem_singleton.mp hq
              exact gap_sound1 td c.box zm d
          · rw [tk]
            intro y hy d
            rcases List.mem_append.mp hy with hy | hy
            · exact List.mem_append.mpr (Or.inl (w1 y hy d))
            · obtain rfl := List.mem_singleton.mp hy
              exact List.mem_append.mpr (Or.inr (List.mem_singleton.mpr rfl))
          · intro y hy
            obtain ⟨r, a1, a2⟩ := w2 y hy
            exact ⟨r, a1, fun t ht => List.mem_append.mpr (Or.inl (a2 t ht))⟩
        · refine hN _ _ ⟨as, L, rfl, el, rwl, by omega, so, ?_, w2, bt⟩
          rw [tk]
          intro y hy d'
          rcases List.mem_append.mp hy with hy | hy
          · exact w1 y hy d'
          · obtain rfl := List.mem_singleton.mp hy
            exact absurd d' d
      clear rwl el so w1 w2 bt l1 ll
      rintro σ' H3 ⟨as, L, rfl, el, rwl, ll, so, w1, w2, bt⟩
      have l1 := rwl.1
      have c3 := c.same (same _ bt)
      refine st_letX ⟨_, rfl, x, dx, _, rfl, same _ bt _ _ hx, (by kernel_rfl : List.lookup _ _ = (none : Option V)), _, rfl, x, hh, p, S, z.2, rfl, c3, fun q => absurd (show 0 ≤ z.2 ∧ z.2 ≤ 10 ^ 40 by omega) q, fun _ r H4 nr s4 => ?_⟩
      have el := s4 _ _ el
      have rwl := rwl.same s4
      have bt := bt.thenS s4
      cases r with
      | none =>
        refine st_ifX ⟨_, rfl, rfl, _, rfl, iteF ?_⟩
        refine ⟨_, _, _, as, L, rfl, el, rwl, by omega, so, w1, ?_, bt⟩
        rw [tk]
        intro y hy
        rcases List.mem_append.mp hy with hy | hy
        · exact w2 y hy
        · obtain rfl := List.mem_singleton.mp hy
          exact ⟨none, nr, fun t ht => nomatch ht⟩
      | some t' =>
        refine st_ifX ⟨_, rfl, rfl, _, (by rw [show (!decide (optV (some t') = V.non)) = true by simp [optV]]), iteT ?_⟩
        refine app_pair rfl el (by omega) (v_rI0 (g := fun i j => .int (i + j)) (v_rI0 (g := fun i j => .int (i - j)) (val_var rfl) (val_var rfl)) val_c) (v_rI0 (g := fun i j => .int (i - j)) (val_var rfl) val_c) fun u H5 eu' el' bt' fu => ?_
        refine ⟨_, _, _, _, L ++ [(t' - z.2 + 1, z.2 - 1)], rfl, el', (rwl.but bt' el (by intro xs q; cases q)).snoc eu', by rw [List.length_append, List.length_singleton]; omega, ?_, ?_, ?_, bt.trans bt'⟩
        · intro q hq
          rcases List.mem_append.mp hq with hq | hq
          · exact so q hq
          · obtain rfl := List.mem_singleton.mp hq
            exact gap_sound2 td c.box zm nr
        · intro y hy d
          exact List.mem_append.mpr (Or.inl (w1 y hy d))
        · rw [tk]
          intro y hy
          rcases List.mem_append.mp hy with hy | hy
          · obtain ⟨r, a1, a2⟩ := w2 y hy
            exact ⟨r, a1, fun t ht => List.mem_append.mpr (Or.inl (a2 t ht))⟩
          · obtain rfl := List.mem_singleton.mp hy
            exact ⟨some t', nr, fun t ht => by cases ht; exact List.mem_append.mpr (Or.inr (List.mem_singleton.mpr rfl))⟩
    · rintro σ' H2 ⟨v2, v3, v4, as, L, rfl, el, rwl, ll, so, w1, w2, bt⟩
      rw [rws.1] at ll w1 w2
      rw [List.take_length] at w1 w2
      exact ⟨_, rfl, k pl as L H2 el rwl (by omega) (gap_covers td h0 p1 c.box so w1 w2) (same _ bt)⟩
theorem G_shortest_gap (T : Tx K mg a) : FnOk P w K mg base CX0 6 a.f_shortest_gap a.d_shortest_gap ["pattern"] (spShortest a) := by
  refine T.F_shortest_gap.ok sc_shortest_gap (fun vs H Q E h => ?_) (fun cdv A outer s H vs Q E hr h => ?_)
  · obtain ⟨x, h, p, S, rfl, _⟩ := h
    rfl
  · obtain ⟨x, hh, p, S, rfl, c, k⟩ := h
    refine ⟨_, (pss_cons (ps_set (i := 1) sc_shortest_gap.nd rfl (Or.inl rfl) (pe_call (G_gaps T) (hr.mono (by decide)) rfl T.g_gaps T.F_gaps.kp T.b_gaps .nil pass0 (pa_cons (pv 0) pa_nil)))
      (pss_one (ps_ret (pe_ifExp (pt_truth (pv 1) (by intro _; rfl)) (pe_callB (cr_minP rfl hr.units) (by rfl) T.n_min (by decide +kernel) (pa_cons (pv 1) pa_nil)) pe_non)))), ?_⟩
    refine st_letX ⟨_, rfl, x, hh, p, S, rfl, c, fun l as L H1 el rwl ll cv s1 => ?_⟩
    refine st_ret0 ⟨_, rfl, _, Or.inl ⟨as, SqL.of el, rfl⟩, ?_⟩
    have l1 := rwl.1
    cases L with
    | nil =>
      have : as = [] := List.length_eq_zero_iff.mp l1
      subst this
      exact iteF (k none .non H1 cv.none (fun _ => rfl) s1)
    | cons q r =>
      cases as with
      | nil => cases l1
      | cons y ys =>
        refine iteT ⟨_, rfl, l, _, q :: r, rfl, SqL.of el, rwl.dp, by simp, fun i v p' hv hp' le => ?_⟩
        obtain ⟨t, e1, e2⟩ := rwl.2 i p' hp'
        rw [hv] at e1
        cases e1
        exact k (some p') _ H1 (cv.short (List.mem_of_getElem? hp') le) (pr_of e2) s1
theorem G_longest_gap (T : Tx K mg a) : FnOk P w K mg base CX0 6 a.f_longest_gap a.d_longest_gap ["pattern"] (spLongest a) := by
  refine T.F_longest_gap.ok sc_longest_gap (fun vs H Q E h => ?_) (fun cdv A outer s H vs Q E hr h => ?_)
  · obtain ⟨x, h, p, S, rfl, _⟩ := h
    rfl
  · obtain ⟨x, hh, p, S, rfl, c, k⟩ := h
    refine ⟨_, (pss_cons (ps_set (i := 1) sc_longest_gap.nd rfl (Or.inl rfl) (pe_call (G_gaps T) (hr.mono (by decide)) rfl T.g_gaps T.F_gaps.kp T.b_gaps .nil pass0 (pa_cons (pv 0) pa_nil)))
      (pss_cons (ps_if (pt_not (pt_truth (pv 1) (by intro _; rfl))) (pss_one (ps_ret pe_non)) pss_nil)
      (pss_cons (ps_set (i := 2) sc_longest_gap.nd rfl (Or.inr rfl) (pe_callB (cr_max rfl) (by rfl) T.n_max (by decide +kernel) (pa_cons (pe_lc (own := [("gap", 3), ("_", 4)]) (g := gTup K 2 (gCons (gName 3) (gCons (gName 4) gNil))) (tt := tYes) rfl sc_longest_gap.nd (pi_list (pv 1)) (blkOk_by (own := [("gap", 3), ("_", 4)]) (N := ["pattern", "found", "most", "gap", "_", "minute"]) (sc := defScope s_longest_gap) (by decide +kernel)) (fun _ _ _ _ _ => (pg_tup rfl (pgs_cons (pg_name (i := 3) sc_longest_gap.nd rfl (Or.inl rfl)) (pgs_cons (pg_name (i := 4) sc_longest_gap.nd rfl (Or.inl rfl)) pgs_nil)))) (fun _ _ _ _ _ => pts_nil) (fun _ _ _ _ _ => (pv 3))) pa_nil)))
      (pss_one (ps_ret (pe_tup (pa_cons (pv 2) (pa_cons (pe_callB (cr_min rfl) (by rfl) T.n_min (by decide +kernel) (pa_cons (pe_lc (own := [("gap", 3), ("minute", 5)]) (g := gTup K 2 (gCons (gName 3) (gCons (gName 5) gNil))) (tt := _) rfl sc_longest_gap.nd (pi_list (pv 1)) (blkOk_by (own := [("gap", 3), ("minute", 5)]) (N := ["pattern", "found", "most", "gap", "_", "minute"]) (sc := defScope s_longest_gap) (by decide +kernel)) (fun _ _ _ _ _ => (pg_tup rfl (pgs_cons (pg_name (i := 3) sc_longest_gap.nd rfl (Or.inl rfl)) (pgs_cons (pg_name (i := 5) sc_longest_gap.nd rfl (Or.inl rfl)) pgs_nil)))) (fun _ _ _ _ _ => (pts_one (pt_cmpR op_eq (pv 3) (pv 2) (nomark _)))) (fun _ _ _ _ _ => (pv 5))) pa_nil)) pa_nil)))))))), ?_⟩
    refine st_letX ⟨_, rfl, x, hh, p, S, rfl, c, fun l as L H1 el rwl ll cv s1 => ?_⟩
    have l1 := rwl.1
    refine st_seq (st_ifX ⟨_, rfl, _, Or.inl ⟨as, SqL.of el, rfl⟩, ?_⟩)
    cases L with
    | nil =>
      have : as = [] := List.length_eq_zero_iff.mp l1
      subst this
      exact iteT (k none .non H1 cv.none (fun _ => rfl) s1)
    | cons q r =>
      cases as with
      | nil => cases l1
      | cons y ys =>
        refine iteF ?_
        dsimp only [tNext]
        obtain ⟨L, hL⟩ : ∃ L, L = q :: r := ⟨_, rfl⟩
        obtain ⟨as, has⟩ : ∃ as, as = y :: ys := ⟨_, rfl⟩
        have pos : 0 < L.length := by rw [hL]; simp
        rw [← hL] at ll cv rwl
        rw [← has] at el rwl
        clear hL has l1
        refine st_letX (v_cb1 (comp_rowsL (fun _ => true) (fun z => z.1) rfl (fun R q => ⟨_, rfl, q⟩) (SqL.of el) rwl (by omega) (fun _ _ => rfl) (fun z H _ _ QT q => q) (fun z H _ => val_var rfl) fun D1 H2 _ e2 s2 => ?_))
        refine ⟨D1, L.map fun z => z.1, rfl, SqL.of (by rw [e2, List.filter_eq_self.mpr fun _ _ => rfl, List.map_map]; rfl), by rw [List.length_map]; exact pos, fun m hm hle => ?_⟩
        dsimp only
        obtain ⟨z0, hz0, ez0⟩ := List.mem_map.mp hm
        have rw2 := rwl.same s2
        refine st_ret0 ⟨_, rfl, v_cb1 (comp_rowsL (fun z => decide (z.1 = m)) (fun z => z.2) rfl (fun R q => ⟨_, rfl, q⟩) (SqL.of (s2 _ _ el)) rw2 (by omega) (fun _ _ => rfl) (fun z H _ _ => a_eq (val_var rfl) (val_var rfl)) (fun z H _ => val_var rfl) fun D2 H3 _ e3 s3 => ?_)⟩
        have mem2 : ∀ z ∈ L, z.1 = m → z.2 ∈ (L.filter fun z => decide (z.1 = m)).map fun z => z.2 := fun z hz e => List.mem_map.mpr ⟨z, List.mem_filter.mpr ⟨hz, decide_eq_true e⟩, rfl⟩
        refine ⟨D2, (L.filter fun z => decide (z.1 = m)).map fun z => z.2, rfl, SqL.of (by rw [e3, List.map_map]; rfl), List.length_pos_of_mem (mem2 z0 hz0 ez0), fun mm hmm hle2 => ⟨by show 2 ≤ sizeLine; decide, fun t ht => ?_⟩⟩
        obtain ⟨z1, hz1, ez1⟩ := List.mem_map.mp hmm
        obtain ⟨hz1, ez2⟩ := List.mem_filter.mp hz1
        have ez2 := of_decide_eq_true ez2
        have e1 : z1 = (m, mm) := Prod.ext ez2 ez1
        subst e1
        refine k (some (m, mm)) _ _ (cv.long hz1 fun w hw => ?_) (pr_of upd_same) (((s1.trans s2).trans s3).trans (Same.new ht))
        show w.1 < m ∨ (m = w.1 ∧ mm ≤ w.2)
        have a := hle w.1 (List.mem_map.mpr ⟨w, hw, rfl⟩)
        by_cases e : w.1 = m
        · exact Or.inr ⟨e.symm, hle2 _ (mem2 w hw e)⟩
        · exact Or.inl (by omega)
end
end My

namespace My
open PySem L2
/-- [t for t in range(lo, lo + n) if ..], a test that makes new objects -/
theorem comp_keepG {tt : TT} {te : TE} {vs : List Nat} {σ : St} {H1 : Hp} {Q : VK} {i0 : Nat} (kp : Nat → Bool) (g : Nat → V) {lo : Int} {n : Nat} (hz : n ≤ 1000000) (hw : ∀ x, wipe ((wipe σ vs).set i0 (some x)) vs = wipe σ vs)
    (ht : ∀ (i : Nat) H (QT : Bool → Hp → Prop), i < n → Same H1 H → (∀ H', Same H H' → QT (kp i) H') → tt ((wipe σ vs).set i0 (some (.int (lo + i)))) H QT) (he : ∀ (i : Nat) H, i < n → Same H1 H → Val te ((wipe σ vs).set i0 (some (.int (lo + i)))) H (g i))
    (hd : ∀ D H', H1 D = none → H' D = some (.lst (((List.range n).filter kp).map g)) → Same H1 H' → Q (.ref D) H') : tLc (fun _ H R => R (Itr lo n) H) (gName i0) tt te vs σ H1 Q := by
  refine fun D hD => lc_range (fun k H' => H' D = some (.lst (((List.range k).filter kp).map g)) ∧ Same H1 H') ⟨upd_same, Same.new hD⟩ ?_ ?_
  · rintro k H' hk ⟨h1, h2⟩
    refine ⟨hw _, ht k H' _ hk h2 fun H3 s3 => ?_⟩
    have e : (List.range (k + 1)).filter kp = (List.range k).filter kp ++ (if kp k = true then [k] else []) := by
      rw [List.range_succ, List.filter_append]
      congr 1
      by_cases c : kp k = true <;> simp [c]
    by_cases c : kp k = true
    · rw [if_pos c]
      refine he k H3 hk (h2.trans s3) _ ⟨_, s3 _ _ h1, ?_, ?_, ?_⟩
      · have l1 : (((List.range k).filter kp).map g).length ≤ 1000000 := by
          rw [List.length_map]
          exact Nat.le_trans (List.length_filter_le _ _) (by rw [List.length_range]; omega)
        exact Nat.lt_of_le_of_lt l1 (by decide)
      · rw [upd_same, e, if_pos c, List.map_append]
        rfl
      · exact fun b o q => by rw [upd_ne (ne_of_none q hD)]; exact s3 _ _ (h2 b o q)
    · rw [if_neg c]
      refine ⟨?_, h2.trans s3⟩
      rw [s3 _ _ h1, e, if_neg c, List.append_nil]
  · rintro H' ⟨h1, h2⟩
    exact hd D H' hD h1 h2
/-- [(x, y) for i in range(n)] -/
theorem comp_pairs {ta tb : TE} {vs : List Nat} {σ : St} {H1 : Hp} {Q : VK} {i0 n : Nat} (f : Nat → Iv) (hz : n ≤ 1000000) (hw : ∀ x, wipe ((wipe σ vs).set i0 (some x)) vs = wipe σ vs)
    (ha : ∀ (i : Nat) H, i < n → Same H1 H → Val ta ((wipe σ vs).set i0 (some (.int (i : Int)))) H (.int (f i).1)) (hb : ∀ (i : Nat) H, i < n → Same H1 H → Val tb ((wipe σ vs).set i0 (some (.int (i : Int)))) H (.int (f i).2))
    (hd : ∀ D bs H', H1 D = none → H' D = some (.lst bs) → Rw H' bs ((List.range n).map f) → Same H1 H' → Q (.ref D) H') : tLc (fun _ H R => R (Itr 0 n) H) (gName i0) tYes (tTup (tCons ta (tCons tb tNil))) vs σ H1 Q := by
  refine cg_R (fun _ => true) (fun D i v H => ∃ u : Addr, v = .ref u ∧ u ≠ D ∧ H u = some (.tup [.int (f i).1, .int (f i).2])) (fun D i v H H' ⟨u, a, b, c⟩ bt => ⟨u, a, b, bt _ _ c b⟩) hz (fun D i H bs hD hi eD s C q => ?_) fun D bs H' hD eD ar s => ?_
  · have e : (0 : Int) + (i : Int) = i := by omega
    rw [e]
    exact g_name (q _ _ (But.refl _ _) rfl (hw _) (fun _ z => z) fun _ => Gives.pair eD (ha i H hi s) (hb i H hi s) fun t ht n => ⟨t, rfl, n, upd_same⟩)
  · obtain ⟨h1, h2⟩ := ar.all
    refine hd D bs H' hD eD ⟨by rw [h1]; simp, fun j z hz' => ?_⟩ s
    have hj : j < n := by have := (List.getElem?_eq_some_iff.mp hz').1; rw [List.length_map, List.length_range] at this; exact this
    rw [List.getElem?_map, List.getElem?_range hj] at hz'
    cases hz'
    obtain ⟨u, a, b, c⟩ := h2 j _ (List.getElem?_eq_getElem (by omega))
    exact ⟨u, by rw [List.getElem?_eq_getElem (by omega), a], c⟩
theorem Rw.pick {H : Hp} {bs : List V} {n : Nat} {f : Nat → Iv} (h : Rw H bs ((List.range n).map f)) {ks : List Nat} (hk : ∀ k ∈ ks, k < n) : Rw H (ks.map fun i => bs.getD i .non) (ks.map f) := ⟨by simp, fun j z hz => by
  rw [List.getElem?_map] at hz
  cases e : ks[j]? with
  | none => rw [e] at hz; cases hz
  | some i =>
    rw [e] at hz
    cases hz
    have hi := hk i (List.mem_of_getElem? e)
    obtain ⟨t, a, b⟩ := h.2 i (f i) (by rw [List.getElem?_map, List.getElem?_range hi]; rfl)
    exact ⟨t, by rw [List.getElem?_map, e]; show some (bs.getD i .non) = _; rw [List.getD_eq_getElem?_getD, a]; rfl, b⟩⟩
theorem gapsTo_len {b : Int} {us : List Nat} : ∀ k : Nat, (gapsTo b us k).length ≤ 2 * k
  | 0 => by simp [gapsTo]
  | k + 1 => by
    have ih := gapsTo_len (b := b) (us := us) k
    have : (gapStep b us k).length ≤ 2 := by
      unfold gapStep
      split <;> split <;> simp
    rw [gapsTo_succ, List.length_append]
    omega
theorem tB_of {te : TE} {σ : St} {H : Hp} {QT : Bool → Hp → Prop} (h : te σ H fun v H1 => ∃ b, v = .bl b ∧ QT b H1) : tB te σ H QT := h
theorem call_first {sp : Sp} {E : XK} {ta : TE} {tr : TA} {σ : St} {H : Hp} {Q : VK} (h : ta σ H fun x H1 => tr σ H1 fun vs H2 => sp (x :: vs) H2 Q E) : tCall sp [] E (tCons ta tr) σ H Q := by
  have e : ∀ (vs : List V), vs ++ [] = vs := fun vs => List.append_nil vs
  show ta σ H fun x H1 => tr σ H1 fun vs H2 => sp ((x :: vs) ++ []) H2 Q E
  simp only [e]
  exact h
/-- a pattern of the law's row -/
def spLPat (a : Ad) : Sp := fun vs H Q _ => ∃ (w bl : Addr) (head : Nat) (bits : List Bool) (b : Int), vs = [.ref w] ∧ WAt H w bl head bits b ∧ head < bits.length ∧ bits.length ≤ 1000 ∧ 1 ≤ b ∧ b * bits.length ≤ 10 ^ 12 ∧
  ∀ x hd q S H', PatC a H' x hd q S → (∀ t, 0 ≤ t → mem S hd q t = gw head bits b t) → Same H H' → Q (.ref x) H'
def spLGaps : Sp := fun vs H Q _ => ∃ (w bl : Addr) (head : Nat) (bits : List Bool) (b : Int), vs = [.ref w] ∧ WAt H w bl head bits b ∧ head < bits.length ∧ bits.length ≤ 1000 ∧ 1 ≤ b ∧ b ≤ 10 ^ 12 ∧
  ∀ t r1 r2 v1 v2 H', IsShort (gw head bits b) r1 → IsLong (gw head bits b) r2 → (∀ K, PrAt K H' r1 v1) → (∀ K, PrAt K H' r2 v2) → H' t = some (.tup [v1, v2]) → Same H H' → Q (.ref t) H'
section
variable {P : Program} {w : World} {K : PySem.W.Frag} {mg : Str → Option Value} {base : Heap} {a : Ad}
theorem G__law_pattern (T : Tx K mg a) : FnOk P w K mg base CX0 8 a.f__law_pattern a.d__law_pattern ["w"] (spLPat a) := by
  refine T.F__law_pattern.ok sc__law_pattern (fun vs H Q E h => ?_) (fun cdv A outer s H vs Q E hr h => ?_)
  · obtain ⟨w, bl, hd, bits, b, rfl, _⟩ := h
    rfl
  · obtain ⟨wa, bl, hd, bits, b, rfl, hw, ln, lz, b1, b2, k⟩ := h
    refine ⟨_, (pss_cons (ps_asg (pv 0) (pg_tup rfl (pgs_cons (pg_name (i := 1) sc__law_pattern.nd rfl (Or.inl rfl)) (pgs_cons (pg_name (i := 2) sc__law_pattern.nd rfl (Or.inr rfl)) (pgs_cons (pg_name (i := 3) sc__law_pattern.nd rfl (Or.inr rfl)) pgs_nil)))))
      (pss_cons (ps_set (i := 4) sc__law_pattern.nd rfl (Or.inr rfl) (pe_lc (own := [("t", 5)]) (g := gName 5) (tt := tYes) rfl sc__law_pattern.nd (pi_range1 rfl T.n_range (pa_cons (pe_callB call_len_seq (by rfl) T.n_len (by decide +kernel) (pa_cons (pv 2) pa_nil)) pa_nil)) (blkOk_by (own := [("t", 5)]) (N := ["w", "head", "bits", "by", "pairs", "t"]) (sc := defScope s__law_pattern) (by decide +kernel)) (fun _ _ _ _ _ => (pg_name (i := 5) sc__law_pattern.nd rfl (Or.inl rfl))) (fun _ _ _ _ _ => pts_nil) (fun _ _ _ _ _ => (pe_tup (pa_cons (pe_op op_mul (pv 5) (pv 3)) (pa_cons (pe_op op_add (pe_op op_mul (pv 5) (pv 3)) (pv 3)) pa_nil))))))
      (pss_cons (ps_set (i := 4) sc__law_pattern.nd rfl (Or.inr rfl) (pe_lc (own := [("t", 5)]) (g := gName 5) (tt := _) rfl sc__law_pattern.nd (pi_range1 rfl T.n_range (pa_cons (pe_callB call_len_seq (by rfl) T.n_len (by decide +kernel) (pa_cons (pv 2) pa_nil)) pa_nil)) (blkOk_by (own := [("t", 5)]) (N := ["w", "head", "bits", "by", "pairs", "t"]) (sc := defScope s__law_pattern) (by decide +kernel)) (fun _ _ _ _ _ => (pg_name (i := 5) sc__law_pattern.nd rfl (Or.inl rfl))) (fun _ _ _ _ _ => (pts_one (pt_val (pe_ix (ix_listK K) (pv 2) (pv 5) (fun _ _ => rfl))))) (fun _ _ _ _ _ => (pe_ix (ix_listK K) (pv 4) (pv 5) (fun _ _ => rfl)))))
      (pss_one (ps_ret (pe_make T.M_Pattern (G_Pattern_init T) (hr.mono (by decide)) rfl T.g_Pattern T.b_Pattern_init .nil passL (pa_cons (pe_op op_mul (pv 1) (pv 3)) (pa_cons (pe_op op_mul (pe_op op_sub (pe_callB call_len_seq (by rfl) T.n_len (by decide +kernel) (pa_cons (pv 2) pa_nil)) (pv 1)) (pv 3)) (pa_cons (pv 4) pa_nil))))))))), ?_⟩
    refine st_seq ⟨_, rfl, wa, _, rfl, SqT.of hw.1, rfl, _, _, rfl, _, _, rfl, _, _, rfl, rfl, ?_⟩
    dsimp only
    have vl : ∀ {σ : St} {H' : Hp} {i : Nat} {z : Addr} {ys : List V} {n : Nat}, H' z = some (.lst ys) → ys.length = n → σ[i]? = some (some (V.ref z)) → Val (tCB (fun xs H_1 Q => ∃ p ys, xs = [V.ref p] ∧ (SqL K H_1 p ys ∨ SqT K H_1 p ys) ∧ Q (V.int ↑ys.length) H_1) (tCons (tVar i) tNil)) σ H' (.int (n : Nat)) := fun e l h => v_cb (val_var h) fun Q q => ⟨_, _, rfl, Or.inl (SqL.of e), by rw [l]; exact q⟩
    have lb : (bits.map V.bl).length = bits.length := List.length_map _
    have b3 : b ≤ 10 ^ 12 := by
      have : b * 1 ≤ b * bits.length := Int.mul_le_mul_of_nonneg_left (by omega) (by omega)
      omega
    refine st_letX (lcR1V (vl hw.2 lb rfl) (by omega) (by omega) ?_)
    refine comp_pairs (n := ((bits.length : Nat) : Int).toNat) (fun i => ((i : Int) * b, (i : Int) * b + b)) (by omega) (fun _ => rfl) (fun i H' hi s => v_rI (g := fun i j => .int (i * j)) (val_var rfl) (val_var rfl) (Or.inr ⟨by omega, by omega⟩)) (fun i H' hi s => v_rI0 (g := fun i j => .int (i + j)) (v_rI (g := fun i j => .int (i * j)) (val_var rfl) (val_var rfl) (Or.inr ⟨by omega, by omega⟩)) (val_var rfl)) fun D1 as H1 _ e1 rw1 s1 => ?_
    rw [Int.toNat_natCast] at rw1
    have l1 : as.length = bits.length := by rw [rw1.1]; simp
    refine st_letX (lcR1V (vl (s1 _ _ hw.2) lb rfl) (by omega) (by omega) ?_)
    refine comp_keepG (n := ((bits.length : Nat) : Int).toNat) (fun i => bits.getD i false) (fun i => as.getD i .non) (by omega) (fun _ => rfl) (fun i H' QT hi s q => ?_) (fun i H' hi s => ?_) fun D2 H2 _ e2 s2 => ?_
    · have hi : i < bits.length := by omega
      exact (a_bl (v_ixL (val_var rfl) (val_var rfl) (SqL.of (s _ _ (s1 _ _ hw.2))) (at_of (j := i) (by rw [Int.zero_add]) (by rw [List.getElem?_map, List.getElem?_eq_getElem hi, List.getD_eq_getElem?_getD, List.getElem?_eq_getElem hi]; rfl)))) _ (q H' (Same.refl _))
    · have hi : i < as.length := by omega
      exact v_ixL (val_var rfl) (val_var rfl) (SqL.of (s _ _ e1)) (at_of (j := i) (by rw [Int.zero_add]) (by rw [List.getD_eq_getElem?_getD, List.getElem?_eq_getElem hi]; rfl))
    rw [Int.toNat_natCast] at e2
    have rw2 : Rw H2 ((trueAt bits).map fun i => as.getD i .non) (pairsBy bits b) := (rw1.same s2).pick fun k hk => List.mem_range.mp (List.mem_filter.mp hk).1
    have s12 := s1.trans s2
    have pl := pairs_len (bits := bits) (b := b)
    have hb0 : 0 ≤ (hd : Int) * b := Int.mul_nonneg (by omega) (by omega)
    have ep : ((bits.length : Int) - hd) * b = b * bits.length - (hd : Int) * b := by rw [Int.sub_mul, Int.mul_comm]
    have ep2 : ((bits.length - hd : Nat) : Int) * b = ((bits.length : Int) - hd) * b := by rw [show ((bits.length - hd : Nat) : Int) = (bits.length : Int) - hd by omega]
    have pp : 1 * b ≤ ((bits.length : Int) - hd) * b := Int.mul_le_mul_of_nonneg_right (by omega) (by omega)
    refine st_ret0 (mk3 (v_rI (g := fun i j => .int (i * j)) (val_var rfl) (val_var rfl) (Or.inr ⟨by omega, by omega⟩)) (v_rI (g := fun i j => .int (i * j)) (v_rI0 (g := fun i j => .int (i - j)) (vl (s12 _ _ hw.2) lb rfl) (val_var rfl)) (val_var rfl) (Or.inr ⟨by omega, by omega⟩)) ⟨_, rfl, newPat (Or.inl (SqL.of e2)) rw2.toA (by omega) (by omega) (by omega) (fun z hz => ?_) fun x hd' q S H3 can pat s3 => ?_⟩)
    · have := pairs_ok b1 z hz
      rw [Int.mul_comm] at this
      omega
    · have le := can.le (ext_ev (by omega)) (by omega) (by omega)
      have c0 := can.h0
      have c1 := can.p1
      rw [← ep2] at can
      exact k x hd' q S H3 ⟨pat, c0, by omega, c1, by omega, can.box⟩ (fun t t0 => law_mem ln b1 can t t0) (s12.trans s3)
theorem G__law_gaps (T : Tx K mg a) : FnOk P w K mg base CX0 2 a.f__law_gaps a.d__law_gaps ["w"] spLGaps := by
  refine T.F__law_gaps.ok sc__law_gaps (fun vs H Q E h => ?_) (fun cdv A outer s H vs Q E hr h => ?_)
  · obtain ⟨w, bl, hd, bits, b, rfl, _⟩ := h
    rfl
  · obtain ⟨wa, bl, hd, bits, b, rfl, hw, ln, lz, b1, b2, k⟩ := h
    refine ⟨_, (pss_cons (ps_asg (pv 0) (pg_tup rfl (pgs_cons (pg_name (i := 1) sc__law_gaps.nd rfl (Or.inr rfl)) (pgs_cons (pg_name (i := 2) sc__law_gaps.nd rfl (Or.inr rfl)) (pgs_cons (pg_name (i := 3) sc__law_gaps.nd rfl (Or.inl rfl)) pgs_nil)))))
      (pss_cons (ps_set (i := 4) sc__law_gaps.nd rfl (Or.inl rfl) (pe_op op_sub (pe_op op_mul pe_int (pe_callB call_len_seq (by rfl) T.n_len (by decide +kernel) (pa_cons (pv 2) pa_nil))) (pe_op op_mul pe_int (pv 1))))
      (pss_cons (ps_setLc (i := 5) (own := [("t", 6)]) (g := gName 6) (tt := _) rfl sc__law_gaps.nd rfl rfl (sw_true rfl rfl rfl (by decide +kernel)) (pi_range1 rfl T.n_range (pa_cons (pv 4) pa_nil)) (blkOk_by (own := [("t", 6)]) (N := ["w", "head", "bits", "by", "top", "units", "t", "found", "k", "free", "least", "most", "one"]) (sc := defScope s__law_gaps) (by decide +kernel)) (fun _ _ _ _ _ => (pg_name (i := 6) sc__law_gaps.nd rfl (Or.inl rfl))) (fun _ _ _ _ _ => (pts_one (pt_val (pe_call (G__law_is_in T) (hr.mono (by decide)) rfl T.g__law_is_in T.F__law_is_in.kp T.b__law_is_in .nil pass0 (pa_cons (pe_tup (pa_cons (pv 1) (pa_cons (pv 2) (pa_cons pe_int pa_nil)))) (pa_cons (pv 6) pa_nil)))))) (fun _ _ _ _ _ => (pv 6)))
      (pss_cons (ps_set (i := 7) sc__law_gaps.nd rfl (Or.inl rfl) (pe_lst pa_nil))
      (pss_cons (ps_for PassesOwn.never rfl (pi_range1 rfl T.n_range (pa_cons (pe_callB call_len_seq (by rfl) T.n_len (by decide +kernel) (pa_cons (pv 5) pa_nil)) pa_nil)) (pg_name (i := 8) sc__law_gaps.nd rfl (Or.inl rfl)) (pss_cons (ps_if (pt_cmpR op_gt (pv 3) pe_int (nomark _)) (pss_one (ps_expr (pe_bm PySem.F.plainAttrs_list PySem.F.slot_list_append PySem.F.type_list_append mt_append (pv 7) (pa_cons (pe_tup (pa_cons pe_int (pa_cons (pe_op op_mul (pe_ix ix_list (pv 5) (pv 8) (fun _ _ => rfl)) (pv 3)) pa_nil))) pa_nil)))) pss_nil)
      (pss_one (ps_if (pt_cmpR op_lt (pe_op op_add (pv 8) pe_int) (pe_callB call_len_seq (by rfl) T.n_len (by decide +kernel) (pa_cons (pv 5) pa_nil)) (nomark _)) (pss_cons (ps_set (i := 9) sc__law_gaps.nd rfl (Or.inl rfl) (pe_op op_sub (pe_op op_sub (pe_ix ix_list (pv 5) (pe_op op_add (pv 8) pe_int) (fun _ _ => rfl)) (pe_ix ix_list (pv 5) (pv 8) (fun _ _ => rfl))) pe_int))
      (pss_one (ps_expr (pe_bm PySem.F.plainAttrs_list PySem.F.slot_list_append PySem.F.type_list_append mt_append (pv 7) (pa_cons (pe_tup (pa_cons (pe_op op_add (pe_op op_mul (pv 9) (pv 3)) pe_int) (pa_cons (pe_op op_sub (pe_op op_add (pe_op op_mul (pe_ix ix_list (pv 5) (pv 8) (fun _ _ => rfl)) (pv 3)) (pv 3)) pe_int) pa_nil))) pa_nil))))) pss_nil))))
      (pss_cons (ps_if (pt_cmpR op_eq (pe_callB call_len_seq (by rfl) T.n_len (by decide +kernel) (pa_cons (pv 7) pa_nil)) pe_int (nomark _)) (pss_one (ps_ret (pe_tup (pa_cons pe_non (pa_cons pe_non pa_nil))))) pss_nil)
      (pss_cons (ps_set (i := 10) sc__law_gaps.nd rfl (Or.inl rfl) (pe_ix ix_list (pv 7) pe_int (fun _ _ => rfl)))
      (pss_cons (ps_set (i := 11) sc__law_gaps.nd rfl (Or.inl rfl) (pe_ix ix_list (pv 7) pe_int (fun _ _ => rfl)))
      (pss_cons (ps_for PassesOwn.never rfl (pi_list (pv 7)) (pg_name (i := 12) sc__law_gaps.nd rfl (Or.inl rfl)) (pss_cons (ps_if (pt_cmpR op_lt (pe_ix ix_tup (pv 12) pe_int (fun _ _ => rfl)) (pe_ix ix_tup (pv 10) pe_int (fun _ _ => rfl)) (nomark _)) (pss_one (ps_set (i := 10) sc__law_gaps.nd rfl (Or.inl rfl) (pv 12))) pss_nil)
      (pss_one (ps_if (pt_cmpR op_gt (pe_ix ix_tup (pv 12) pe_int (fun _ _ => rfl)) (pe_ix ix_tup (pv 11) pe_int (fun _ _ => rfl)) (nomark _)) (pss_one (ps_set (i := 11) sc__law_gaps.nd rfl (Or.inl rfl) (pv 12))) pss_nil))))
      (pss_one (ps_ret (pe_tup (pa_cons (pv 10) (pa_cons (pv 11) pa_nil)))))))))))))), ?_⟩
    refine st_seq ⟨_, rfl, wa, _, rfl, SqT.of hw.1, rfl, _, _, rfl, _, _, rfl, _, _, rfl, rfl, ?_⟩
    dsimp only
    have vl : ∀ {σ : St} {H' : Hp} {i : Nat} {z : Addr} {ys : List V} {n : Nat}, H' z = some (.lst ys) → ys.length = n → σ[i]? = some (some (V.ref z)) → Val (tCB (fun xs H_1 Q => ∃ p ys, xs = [V.ref p] ∧ (SqL K H_1 p ys ∨ SqT K H_1 p ys) ∧ Q (V.int ↑ys.length) H_1) (tCons (tVar i) tNil)) σ H' (.int (n : Nat)) := fun e l h => v_cb (val_var h) fun Q q => ⟨_, _, rfl, Or.inl (SqL.of e), by rw [l]; exact q⟩
    have lb : (bits.map V.bl).length = bits.length := List.length_map _
    have cv := law_covers (f := gw hd bits b) ln b1 fun t _ => rfl
    have so := gaps_sorted (f := gq hd bits) (n := 3 * bits.length - 2 * hd) b1
    obtain ⟨n, hn⟩ : ∃ n, n = 3 * bits.length - 2 * hd := ⟨_, rfl⟩
    rw [← hn] at cv so
    refine st_let (v := .int (n : Nat)) (by
      rw [show ((n : Nat) : Int) = 3 * (bits.length : Int) - 2 * hd by omega]
      exact v_rI0 (g := fun i j => .int (i - j)) (v_rI (g := fun i j => .int (i * j)) val_c (vl hw.2 lb rfl) (Or.inl ⟨by decide, by decide⟩)) (v_rI (g := fun i j => .int (i * j)) val_c (val_var rfl) (Or.inl ⟨by decide, by decide⟩))) ?_
    refine st_letX (lcR1V (i := (n : Int)) (val_var rfl) (by omega) (by omega) ?_)
    refine comp_keepG (n := ((n : Nat) : Int).toNat) (fun i => gq hd bits (i : Nat)) (fun i => .int (0 + (i : Int))) (by omega) (fun _ => rfl) (fun i H' QT hi s q => ?_) (fun i H' hi s => val_var rfl) fun D1 H1 _ e1 s1 => ?_
    · refine tB_of (call_first (tup3 (val_var rfl) (val_var rfl) val_c fun t ht => ?_))
      have s3 := Same.new (o := .tup [.int hd, .ref bl, .int 1]) ht
      refine ⟨_, rfl, t, bl, hd, bits, 1, (0 : Int) + i, rfl, ⟨upd_same, s3 _ _ (s _ _ hw.2)⟩, ln, lz, by omega, by omega, by omega, _, rfl, ?_⟩
      have e : gw hd bits 1 ((0 : Int) + i) = gq hd bits (i : Nat) := by
        unfold gw gq
        rw [Int.ediv_one, Int.zero_add]
      rw [e]
      exact q _ s3
    rw [Int.toNat_natCast] at e1
    obtain ⟨us, hus⟩ : ∃ us, us = memN (gq hd bits) n := ⟨_, rfl⟩
    have e1 : H1 D1 = some (.lst (us.map fun i => V.int (i : Nat))) := by
      rw [e1, hus]
      congr 2
      exact List.map_congr_left fun i _ => by rw [Int.zero_add]
    rw [← hus] at cv so
    have usl : us.length ≤ 3000 := by
      rw [hus]
      exact Nat.le_trans (List.length_filter_le _ _) (by rw [List.length_range]; omega)
    have usb : ∀ i ∈ us, i < 3000 := fun i hi => by
      rw [hus] at hi
      have := List.mem_range.mp (List.mem_filter.mp hi).1
      omega
    clear hus
    refine st_letX ⟨by show 0 ≤ sizeLine; decide, fun pl hpl => ?_⟩
    have s2 := Same.new (o := .lst []) hpl
    have epl : upd H1 pl (.lst []) pl = some (.lst []) := upd_same
    have npl : ∀ b o, H1 b = some o → b ≠ pl := fun b o e z => by rw [z, hpl] at e; cases e
    generalize upd H1 pl (.lst []) = H2 at s2 epl ⊢
    have same : ∀ H', But pl H2 H' → Same H1 H' := fun H' bt b o e => bt b o (s2 b o e) (npl b o e)
    have lu : (us.map fun i => V.int (i : Nat)).length = us.length := List.length_map _
    refine st_seq (st_forR1 (n := us.length) (vl (s2 _ _ e1) lu rfl) rfl (by omega) (fun i σ' H' => ∃ (v8 v9 : Option V) (as : List V), σ' = [some (.ref wa), some (.int hd), some (.ref bl), some (.int b), some (.int n), some (.ref D1), none, some (.ref pl), v8, v9, none, none, none] ∧ H' pl = some (.lst as) ∧ Rw H' as (gapsTo b us i) ∧ But pl H2 H')
      ⟨none, none, [], rfl, epl, Rw.nil, But.refl _ _⟩ ?_ ?_)
    · rintro i σ' H3 hi ⟨v8, v9, as, rfl, el, rwl, bt⟩
      refine g_name ?_
      dsimp only [List.set]
      have hu : us[i]? = some us[i] := List.getElem?_eq_getElem hi
      have ub := usb us[i] (List.getElem_mem hi)
      have eu : ∀ {σ : St} {H' : Hp} {te : TE} {j : Nat} (hj : j < us.length), But pl H2 H' → σ[5]? = some (some (V.ref D1)) → Val te σ H' (.int (j : Nat)) → Val (tOp (rIxL K) (tVar 5) te) σ H' (.int ((us.getD j 0 : Nat) : Int)) := fun {σ H' te j} hj bt e5 h => v_ixL (val_var e5) h (SqL.of (same _ bt _ _ e1)) (at_of (j := j) rfl (by rw [List.getElem?_map, List.getD_eq_getElem?_getD, List.getElem?_eq_getElem hj]; rfl))
      have gl := gapsTo_len (b := b) (us := us) i
      have al := rwl.1
      refine st_shareS (fun σ' H' => ∃ (as : List V), σ' = [some (.ref wa), some (.int hd), some (.ref bl), some (.int b), some (.int n), some (.ref D1), none, some (.ref pl), some (.int i), v9, none, none, none] ∧ H' pl = some (.lst as) ∧ Rw H' as (gapsTo b us i ++ if b > 1 then [(1, ((us.getD i 0 : Nat) : Int) * b)] else []) ∧ But pl H2 H') ?_ fun N hN => ?_
      case refine_2 =>
        refine st_ifp (q := b > 1) (a_cmp (f := fun i j => decide (j < i)) (val_var rfl) val_c) decide_eq_true_iff (fun d => ?_) fun d => ?_
        · refine app_pair rfl el (by omega) val_c (v_rI (g := fun i j => .int (i * j)) (eu hi bt rfl (val_var rfl)) (val_var rfl) (Or.inr ⟨by omega, by omega⟩)) fun u H3 eu' el' bt' fu => hN _ _ ⟨_, rfl, el', ?_, bt.trans bt'⟩
          rw [if_pos d]
          exact (rwl.but bt' el (by intro xs q; cases q)).snoc eu'
        · refine hN _ _ ⟨_, rfl, el, ?_, bt⟩
          rw [if_neg d, List.append_nil]
          exact rwl
      clear el rwl bt al
      rintro σ' H4 ⟨as, rfl, el, rwl, bt⟩
      have al : as.length ≤ 2 * i + 1 := by
        rw [rwl.1, List.length_append]
        split <;> simp <;> omega
      refine st_ifp (q := i + 1 < us.length) (a_cmp (f := fun i j => decide (i < j)) (v_rI0 (g := fun i j => .int (i + j)) (val_var rfl) val_c) (vl (same _ bt _ _ e1) lu rfl)) (by simp; omega) (fun d => ?_) fun d => ?_
      · have ub2 := usb us[i + 1] (List.getElem_mem d)
        have vi : ∀ {σ : St} {H' : Hp}, σ[8]? = some (some (V.int i)) → Val (tVar 8) σ H' (.int (i : Nat)) := fun e => val_var e
        have vi1 : ∀ {σ : St} {H' : Hp}, σ[8]? = some (some (V.int i)) → Val (tOp (rI0 fun i j => V.int (i + j)) (tVar 8) (tC (V.int 1))) σ H' (.int ((i + 1 : Nat) : Int)) := fun e => by
          rw [show ((i + 1 : Nat) : Int) = (i : Int) + 1 by omega]
          exact v_rI0 (g := fun i j => .int (i + j)) (vi e) val_c
        have g1 : us.getD i 0 = us[i] := by rw [List.getD_eq_getElem?_getD, hu]; rfl
        have g2 : us.getD (i + 1) 0 = us[i + 1] := by rw [List.getD_eq_getElem?_getD, List.getElem?_eq_getElem d]; rfl
        refine st_let (v_rI0 (g := fun i j => .int (i - j)) (v_rI0 (g := fun i j => .int (i - j)) (eu d bt rfl (vi1 rfl)) (eu hi bt rfl (vi rfl))) val_c) ?_
        refine app_pair rfl el (by omega) (v_rI0 (g := fun i j => .int (i + j)) (v_rI (g := fun i j => .int (i * j)) (val_var rfl) (val_var rfl) (Or.inr ⟨by omega, by omega⟩)) val_c) (v_rI0 (g := fun i j => .int (i - j)) (v_rI0 (g := fun i j => .int (i + j)) (v_rI (g := fun i j => .int (i * j)) (eu hi bt rfl (vi rfl)) (val_var rfl) (Or.inr ⟨by omega, by omega⟩)) (val_var rfl)) val_c) fun u H5 eu' el' bt' fu => ?_
        refine ⟨_, _, _, rfl, el', ?_, bt.trans bt'⟩
        rw [gapsTo_succ]
        unfold gapStep
        rw [if_pos d, ← List.append_assoc]
        exact (rwl.but bt' el (by intro xs q; cases q)).snoc eu'
      · refine ⟨_, _, _, rfl, el, ?_, bt⟩
        rw [gapsTo_succ]
        unfold gapStep
        rw [if_neg d, List.append_nil]
        exact rwl
    rintro σ' H3 ⟨v8, v9, as, rfl, el, rwl, bt⟩
    obtain ⟨L, hL⟩ : ∃ L, L = gapsTo b us us.length := ⟨_, rfl⟩
    have gl := gapsTo_len (b := b) (us := us) us.length
    rw [← hL] at cv so rwl gl
    have s13 := s1.trans (same _ bt)
    have al := rwl.1
    refine st_guard (q := as.length = 0) (a_eq (vl el rfl rfl) val_c) (by simp) (fun d => ?_) fun d => ?_
    · have : L = [] := List.length_eq_zero_iff.mp (by omega)
      rw [this] at cv
      refine st_ret0 ⟨by show 2 ≤ sizeLine; decide, fun t ht => ?_⟩
      exact k t none none .non .non _ cv.none cv.none (fun _ => rfl) (fun _ => rfl) upd_same (s13.trans (Same.new ht))
    obtain ⟨q0, hq0⟩ : ∃ q0, L[0]? = some q0 := ⟨_, List.getElem?_eq_getElem (by omega)⟩
    obtain ⟨t0, a0, _⟩ := rwl.2 0 q0 hq0
    refine st_let (v_ixL (val_var rfl) val_c (SqL.of el) (at_of (j := 0) rfl a0)) ?_
    refine st_let (v_ixL (val_var rfl) val_c (SqL.of el) (at_of (j := 0) rfl a0)) ?_
    dsimp only [List.set]
    refine st_seq (st_forL (a := pl) (xs := as) (fun R q => ⟨_, rfl, q⟩) (fun i σ' H' => H' = H3 ∧ ∃ (v12 : Option V) (j1 j2 : Nat) (p1 p2 : Int × Int) (u1 u2 : Addr), σ' = [some (.ref wa), some (.int hd), some (.ref bl), some (.int b), some (.int n), some (.ref D1), none, some (.ref pl), v8, v9, some (.ref u1), some (.ref u2), v12] ∧ L[j1]? = some p1 ∧ H3 u1 = some (.tup [.int p1.1, .int p1.2]) ∧ j1 ≤ i ∧ (∀ (k : Nat) q, k < i → L[k]? = some q → p1.1 < q.1 ∨ (p1.1 = q.1 ∧ j1 ≤ k)) ∧ L[j2]? = some p2 ∧ H3 u2 = some (.tup [.int p2.1, .int p2.2]) ∧ j2 ≤ i ∧ (∀ (k : Nat) q, k < i → L[k]? = some q → q.1 < p2.1 ∨ (p2.1 = q.1 ∧ j2 ≤ k)))
      ⟨rfl, none, 0, 0, q0, q0, t0, t0, rfl, hq0, by assumption, Nat.le_refl _, fun k q h => by omega, hq0, by assumption, Nat.le_refl _, fun k q h => by omega⟩ (fun i σ' H' _ z => by rw [z.1]; exact SqL.of el) ?_ ?_)
    · rintro i x σ' H' hx ⟨rfl, v12, j1, j2, p1, p2, u1, u2, rfl, f1, g1, h1, k1, f2, g2, h2, k2⟩
      refine g_name ?_
      dsimp only [List.set]
      have hi : i < L.length := by rw [← al]; exact (List.getElem?_eq_some_iff.mp hx).1
      obtain ⟨z, hz⟩ : ∃ z, L[i]? = some z := ⟨_, List.getElem?_eq_getElem hi⟩
      obtain ⟨u, w1, w2⟩ := rwl.2 i z hz
      rw [hx] at w1
      cases w1
      refine st_shareS (fun σ' H'' => H'' = H' ∧ ∃ (j1 : Nat) (p1 : Int × Int) (u1 : Addr), σ' = [some (.ref wa), some (.int hd), some (.ref bl), some (.int b), some (.int n), some (.ref D1), none, some (.ref pl), v8, v9, some (.ref u1), some (.ref u2), some (.ref u)] ∧ L[j1]? = some p1 ∧ H' u1 = some (.tup [.int p1.1, .int p1.2]) ∧ j1 ≤ i + 1 ∧ (∀ (k : Nat) q, k < i + 1 → L[k]? = some q → p1.1 < q.1 ∨ (p1.1 = q.1 ∧ j1 ≤ k))) ?_ fun N hN => ?_
      case refine_2 =>
        refine st_ifp (q := z.1 < p1.1) (a_cmp (f := fun i j => decide (i < j)) (v_ixT (val_var rfl) val_c (SqT.of w2) rfl) (v_ixT (val_var rfl) val_c (SqT.of g1) rfl)) decide_eq_true_iff (fun c => ?_) fun c => ?_
        · refine ⟨_, rfl, hN _ _ ⟨rfl, i, z, u, rfl, hz, w2, by omega, fun k q hk hq => ?_⟩⟩
          by_cases e : k = i
          · subst e
            rw [hz] at hq
            cases hq
            exact Or.inr ⟨rfl, Nat.le_refl _⟩
          · have := k1 k q (by omega) hq
            exact Or.inl (by omega)
        · refine hN _ _ ⟨rfl, j1, p1, u1, rfl, f1, g1, by omega, fun k q hk hq => ?_⟩
          by_cases e : k = i
          · subst e
            rw [hz] at hq
            cases hq
            omega
          · exact k1 k q (by omega) hq
      clear f1 g1 h1 k1
      rintro σ' H'' ⟨rfl, j1, p1, u1, rfl, f1, g1, h1, k1⟩
      refine st_ifp (q := z.1 > p2.1) (a_cmp (f := fun i j => decide (j < i)) (v_ixT (val_var rfl) val_c (SqT.of w2) rfl) (v_ixT (val_var rfl) val_c (SqT.of g2) rfl)) decide_eq_true_iff (fun c => ?_) fun c => ?_
      · refine ⟨_, rfl, rfl, _, j1, i, p1, z, u1, u, rfl, f1, g1, h1, k1, hz, w2, by omega, fun k q hk hq => ?_⟩
        by_cases e : k = i
        · subst e
          rw [hz] at hq
          cases hq
          exact Or.inr ⟨rfl, Nat.le_refl _⟩
        · have := k2 k q (by omega) hq
          exact Or.inl (by omega)
      · refine ⟨rfl, _, j1, j2, p1, p2, u1, u2, rfl, f1, g1, h1, k1, f2, g2, by omega, fun k q hk hq => ?_⟩
        by_cases e : k = i
        · subst e
          rw [hz] at hq
          cases hq
          omega
        · exact k2 k q (by omega) hq
    · rintro σ' H' ⟨rfl, v12, j1, j2, p1, p2, u1, u2, rfl, f1, g1, h1, k1, f2, g2, h2, k2⟩
      rw [al] at k1 k2
      have ord : ∀ (j k : Nat) (p q : Int × Int), L[j]? = some p → L[k]? = some q → j ≤ k → p.2 ≤ q.2 := fun j k p q hj hk le => by
        by_cases e : j = k
        · subst e
          rw [hj] at hk
          cases hk
          exact Int.le_refl _
        · obtain ⟨lj, ej⟩ := List.getElem?_eq_some_iff.mp hj
          obtain ⟨lk, ek⟩ := List.getElem?_eq_some_iff.mp hk
          have := List.pairwise_iff_getElem.mp so j k lj lk (by omega)
          rw [ej, ek] at this
          exact this
      dsimp only
      refine st_ret0 ⟨_, rfl, _, rfl, by show 2 ≤ sizeLine; decide, fun t ht => ?_⟩
      have s5 := Same.new (o := .tup [.ref u1, .ref u2]) ht
      refine k t (some p1) (some p2) _ _ _ (cv.short (List.mem_of_getElem? f1) fun q hq => ?_) (cv.long (List.mem_of_getElem? f2) fun q hq => ?_) (pr_of (s5 _ _ g1)) (pr_of (s5 _ _ g2)) upd_same (s13.trans s5)
      · obtain ⟨m, hm⟩ := List.mem_iff_getElem?.mp hq
        rcases k1 m q (List.getElem?_eq_some_iff.mp hm).1 hm with e | ⟨e, le⟩
        · exact Or.inl e
        · exact Or.inr ⟨e, ord _ _ _ _ f1 hm le⟩
      · obtain ⟨m, hm⟩ := List.mem_iff_getElem?.mp hq
        rcases k2 m q (List.getElem?_eq_some_iff.mp hm).1 hm with e | ⟨e, le⟩
        · exact Or.inl e
        · exact Or.inr ⟨e, ord _ _ _ _ f2 hm le⟩
end
end My

namespace My
open PySem L2
/-- what is refused, and with which words -/
inductive AskL : Int → Int → Int → Str → Int → Prop
  | numS {i j : Int} : ¬ (0 ≤ i ∧ i ≤ 10 ^ 40) → AskL 0 i j "start" i
  | numE {i j : Int} : (0 ≤ i ∧ i ≤ 10 ^ 40) → ¬ (0 ≤ j ∧ j ≤ 10 ^ 40) → AskL 0 i j "end" j
  | idx {i j : Int} : ¬ (0 ≤ i ∧ i ≤ 10 ^ 40) → AskL 1 i j "index" i
  | fst {i j : Int} : ¬ (0 ≤ i ∧ i ≤ 10 ^ 40) → AskL 2 i j "minute" i
  | lst {i j : Int} : ¬ (0 ≤ i ∧ i ≤ 10 ^ 40) → AskL 3 i j "minute" i
  | genS {i j : Int} : ¬ (0 ≤ i ∧ i ≤ 10 ^ 40) → AskL 4 i j "start" i
  | genE {i j : Int} : (0 ≤ i ∧ i ≤ 10 ^ 40) → ¬ (0 ≤ j ∧ j ≤ 10 ^ 40) → AskL 4 i j "end" j
def spMade (a : Ad) : Sp := fun vs H Q E => ∃ (x : Addr) (h p : Int) (S : List Iv) (k i j : Int) (s : Str) (v : Int), vs = [.int k, .ref x, .int i, .int j] ∧ PatC a H x h p S ∧ AskL k i j s v ∧ Out a E H s v
def spAsked (a : Ad) : Sp := fun vs H Q _ => ∃ (x : Addr) (h p : Int) (S : List Iv) (k i j : Int) (s : Str) (v : Int), vs = [.int k, .ref x, .int i, .int j] ∧ PatC a H x h p S ∧ AskL k i j s v ∧ ∀ t H', H' t = some (.tup [.str "range", .str s, .int v, .bl true]) → Same H H' → Q (.ref t) H'
section
variable {P : Program} {w : World} {K : PySem.W.Frag} {mg : Str → Option Value} {base : Heap} {a : Ad}
theorem G__law_made (T : Tx K mg a) : FnOk P w K mg base (L2.CX P w) 8 a.f__law_made a.d__law_made ["kind", "told", "one", "two"] (spMade a) := by
  refine T.F__law_made.okX sc__law_made (fun vs H Q E h => ?_) (fun cdv A outer s H vs Q E hr h => ?_)
  · obtain ⟨x, h, p, S, k, i, j, st, v, rfl, _⟩ := h
    rfl
  · obtain ⟨x, hh, p, S, k, i, j, st, v, rfl, c, ask, no⟩ := h
    refine ⟨_, (pss_cons (ps_if (pt_cmpR op_eq (pv 0) pe_int (nomark _)) (pss_one (ps_ret (pe_meth (pv 1) T.cl_Pattern T.m_Pattern_number_in (G_Pattern_number_in T) (hr.mono (by decide)) T.b_Pattern_number_in .nil (passes_call (takes_of rfl rfl rfl rfl) (fun _ _ _ _ h => h)) (pa_cons (pv 2) (pa_cons (pv 3) pa_nil))))) pss_nil)
      (pss_cons (ps_if (pt_cmpR op_eq (pv 0) pe_int (nomark _)) (pss_one (ps_ret (pe_meth (pv 1) T.cl_Pattern T.m_Pattern_minute_at (G_Pattern_minute_at T) (hr.mono (by decide)) T.b_Pattern_minute_at .nil (passes_call (takes_of rfl rfl rfl rfl) (fun _ _ _ _ h => h)) (pa_cons (pv 2) pa_nil)))) pss_nil)
      (pss_cons (ps_if (pt_cmpR op_eq (pv 0) pe_int (nomark _)) (pss_one (ps_ret (pe_meth (pv 1) T.cl_Pattern T.m_Pattern_first_from (G_Pattern_first_from T) (hr.mono (by decide)) T.b_Pattern_first_from .nil (passes_call (takes_of rfl rfl rfl rfl) (fun _ _ _ _ h => h)) (pa_cons (pv 2) pa_nil)))) pss_nil)
      (pss_cons (ps_if (pt_cmpR op_eq (pv 0) pe_int (nomark _)) (pss_one (ps_ret (pe_meth (pv 1) T.cl_Pattern T.m_Pattern_last_before (G_Pattern_last_before T) (hr.mono (by decide)) T.b_Pattern_last_before .nil (passes_call (takes_of rfl rfl rfl rfl) (fun _ _ _ _ h => h)) (pa_cons (pv 2) pa_nil)))) pss_nil)
      (pss_one (ps_ret (pe_listG (pgen_meth (E := (XOnly a.c_OutOfRange E)) (pv 1) T.cl_Pattern T.m_Pattern_each_minute (G_Pattern_each_minute T) (hr.mono (by decide)) T.b_Pattern_each_minute .nil (pa_cons (pv 2) (pa_cons (pv 3) pa_nil))) (passes_call (takes_of rfl rfl rfl rfl) (fun _ _ _ _ h => h.2)) (noStop_only T.stop_OutOfRange) (hr.mono (by decide)) rfl T.n_list (by decide +kernel)))))))), ?_⟩
    have nn : ∀ {a b : Int} (c : Bool), decide (a = b) = c → Ans (tTest (tOp rEq (tVar 0) (tC (V.int b)))) (L2.start ["kind", "told", "one", "two"] [V.int a, V.ref x, V.int i, V.int j]) H c := fun {a b} c e => by
      rw [← e]
      exact a_eq (val_var rfl) val_c
    obtain ⟨dx, st', u, hx⟩ := c.hx
    have lk := (by kernel_rfl : List.lookup ("number_in" : Str) (pfs hh p st' u (nearOf S hh)) = (none : Option V))
    cases ask with
    | numS b =>
      refine st_guard (q := True) (nn true rfl) (by simp) (fun _ => ?_) fun z => (z trivial).elim
      exact st_ret0 ⟨_, rfl, x, dx, _, rfl, hx, by kernel_rfl, _, rfl, _, rfl, x, hh, p, S, i, j, rfl, c, fun _ => no, fun z => absurd z b, fun z => absurd z b⟩
    | numE b1 b2 =>
      refine st_guard (q := True) (nn true rfl) (by simp) (fun _ => ?_) fun z => (z trivial).elim
      exact st_ret0 ⟨_, rfl, x, dx, _, rfl, hx, by kernel_rfl, _, rfl, _, rfl, x, hh, p, S, i, j, rfl, c, fun z => absurd b1 z, fun _ _ => no, fun _ z => absurd z b2⟩
    | idx b =>
      refine st_guard (q := False) (nn false rfl) (by simp) (fun z => z.elim) fun _ => ?_
      refine st_guard (q := True) (nn true rfl) (by simp) (fun _ => ?_) fun z => (z trivial).elim
      exact st_ret0 ⟨_, rfl, x, dx, _, rfl, hx, by kernel_rfl, _, rfl, x, hh, p, S, i, rfl, c, fun _ => no, fun z => absurd z b⟩
    | fst b =>
      refine st_guard (q := False) (nn false rfl) (by simp) (fun z => z.elim) fun _ => ?_
      refine st_guard (q := False) (nn false rfl) (by simp) (fun z => z.elim) fun _ => ?_
      refine st_guard (q := True) (nn true rfl) (by simp) (fun _ => ?_) fun z => (z trivial).elim
      exact st_ret0 ⟨_, rfl, x, dx, _, rfl, hx, by kernel_rfl, _, rfl, x, hh, p, S, i, rfl, c, fun _ => no, fun z => absurd z b⟩
    | lst b =>
      refine st_guard (q := False) (nn false rfl) (by simp) (fun z => z.elim) fun _ => ?_
      refine st_guard (q := False) (nn false rfl) (by simp) (fun z => z.elim) fun _ => ?_
      refine st_guard (q := False) (nn false rfl) (by simp) (fun z => z.elim) fun _ => ?_
      refine st_guard (q := True) (nn true rfl) (by simp) (fun _ => ?_) fun z => (z trivial).elim
      exact st_ret0 ⟨_, rfl, x, dx, _, rfl, hx, by kernel_rfl, _, rfl, x, hh, p, S, i, rfl, c, fun _ => no, fun z => absurd z b⟩
    | genS b =>
      refine st_guard (q := False) (nn false rfl) (by simp) (fun z => z.elim) fun _ => ?_
      refine st_guard (q := False) (nn false rfl) (by simp) (fun z => z.elim) fun _ => ?_
      refine st_guard (q := False) (nn false rfl) (by simp) (fun z => z.elim) fun _ => ?_
      refine st_guard (q := False) (nn false rfl) (by simp) (fun z => z.elim) fun _ => ?_
      exact st_ret0 ⟨_, rfl, x, dx, _, rfl, hx, by kernel_rfl, _, rfl, _, rfl, x, hh, p, S, i, j, rfl, c, fun _ d H2 e q => ⟨rfl, no d H2 e q⟩, fun z => absurd z b, fun z => absurd z b⟩
    | genE b1 b2 =>
      refine st_guard (q := False) (nn false rfl) (by simp) (fun z => z.elim) fun _ => ?_
      refine st_guard (q := False) (nn false rfl) (by simp) (fun z => z.elim) fun _ => ?_
      refine st_guard (q := False) (nn false rfl) (by simp) (fun z => z.elim) fun _ => ?_
      refine st_guard (q := False) (nn false rfl) (by simp) (fun z => z.elim) fun _ => ?_
      exact st_ret0 ⟨_, rfl, x, dx, _, rfl, hx, by kernel_rfl, _, rfl, _, rfl, x, hh, p, S, i, j, rfl, c, fun z => absurd b1 z, fun _ _ d H2 e q => ⟨rfl, no d H2 e q⟩, fun _ z => absurd z b2⟩
theorem C__law_int (T : Tx K mg a) : FnC P w K mg base 1 a.f__law_int a.d__law_int ["one"] spInt := by
  refine T.F__law_int.okC sc__law_int (fun vs H Q E h => ?_) (fun cdv A outer s H vs Q h => ?_)
  · obtain ⟨i, rfl, _⟩ := h
    rfl
  · obtain ⟨i, rfl, k⟩ := h
    refine ⟨_, (pss_one (ps_ret (pe_and (pe_callB call_isi (by rfl) T.n_isinstance (by decide +kernel) (pa_cons (pv 0) (pa_cons (pe_bltn (v := .ty "int") rfl T.n_int (by decide +kernel) rfl) pa_nil))) (pe_one (pe_not (pe_callB call_isi (by rfl) T.n_isinstance (by decide +kernel) (pa_cons (pv 0) (pa_cons (pe_bltn (v := .ty "bool") rfl T.n_bool (by decide +kernel) rfl) pa_nil)))))))), ?_⟩
    exact int_body k
theorem G__law_asked (T : Tx K mg a) : FnOk P w K mg base CX0 9 a.f__law_asked a.d__law_asked ["kind", "told", "one", "two"] (spAsked a) := by
  refine T.F__law_asked.ok sc__law_asked (fun vs H Q E h => ?_) (fun cdv A outer s H vs Q E hr h => ?_)
  · obtain ⟨x, h, p, S, k, i, j, st, v, rfl, _⟩ := h
    rfl
  · obtain ⟨x, hh, p, S, k, i, j, st, v, rfl, c, ask, yes⟩ := h
    refine ⟨_, (pss_one (ps_try_hds rfl rfl
      (fun W pn xe tk _ => (pss_one (ps_ret (pe_tup (pa_cons pe_str (pa_cons (pe_callS (G__law_made T) (hr.mono (by decide)) rfl T.g__law_made T.F__law_made.kp T.b__law_made (fun σ => passAt tk σ) (by exact (pa_cons (pv 0) (pa_cons (pv 1) (pa_cons (pv 2) (pa_cons (pv 3) pa_nil)))))) pa_nil))))))
      (hds_as (i := 4) rfl sc__law_asked.nd rfl rfl ⟨rfl, by decide, Or.inl T.g_OutOfRange⟩ (fun xa oe cls xd pn hz hf => (pss_cons (ps_set (i := 5) sc__law_asked.nd rfl (Or.inl rfl) (pe_and (pe_callB (call_isX hz hf) (by rfl) T.n_isinstance (by decide +kernel) (pa_cons (pv 4) (pa_cons (pe_glob (v := .ref a.c_DueError) rfl T.g_DueError rfl) pa_nil))) (pe_and (pe_callB (call_isX hz hf) (by rfl) T.n_isinstance (by decide +kernel) (pa_cons (pv 4) (pa_cons (pe_bltn (v := .ty "ValueError") rfl T.n_ValueError (by decide +kernel) rfl) pa_nil))) (pe_one (pe_callC (C__law_int T) (L2H.RoomH.mono ⟨hr.dp, hr.un⟩ (show 1 ≤ 8 from by decide)) rfl T.g__law_int T.F__law_int.kp T.b__law_int (pa_cons (pe_xf T.xf_OutOfRange T.no_OutOfRange_value hz hf (pv 4)) pa_nil))))))
      (pss_cons (ps_set (i := 6) sc__law_asked.nd rfl (Or.inl rfl) (pe_or (pe_callB (call_isX hz hf) (by rfl) T.n_isinstance (by decide +kernel) (pa_cons (pv 4) (pa_cons (pe_glob (v := .ref a.c_TooMany) rfl T.g_TooMany rfl) pa_nil))) (pe_one (pe_callB (call_isX hz hf) (by rfl) T.n_isinstance (by decide +kernel) (pa_cons (pv 4) (pa_cons (pe_glob (v := .ref a.c_BadStretch) rfl T.g_BadStretch rfl) pa_nil))))))
      (pss_one (ps_ret (pe_tup (pa_cons pe_str (pa_cons (pe_xf T.xf_OutOfRange T.no_OutOfRange_what hz hf (pv 4)) (pa_cons (pe_xf T.xf_OutOfRange T.no_OutOfRange_value hz hf (pv 4)) (pa_cons (pe_and (pv 5) (pe_one (pe_not (pv 6)))) pa_nil))))))))))
      (hds_only rfl ⟨rfl, by decide, Or.inl T.g_DueError⟩ (fun xa oe cls xd pn hz hf => (pss_one (ps_ret (pe_tup (pa_cons pe_str (pa_cons pe_int pa_nil))))))
      (hds_nil rfl rfl takes0))))), ?_⟩
    refine ⟨_, rfl, _, rfl, _, rfl, _, rfl, x, hh, p, S, k, i, j, st, v, rfl, c, ask, ?_⟩
    intro dd H2 hd s2
    refine ⟨true, T.exm_OutOfRange_OutOfRange, fun _ a0 _ => ?_, fun q => Bool.noConfusion q⟩
    refine ⟨_, rfl, _, dd, _, _, _, true, rfl, T.xc_OutOfRange, rfl, hd, rfl, .own _, T.kit_OutOfRange_DueError, _, rfl, iteT ?_⟩
    refine ⟨_, rfl, _, dd, _, _, _, true, rfl, T.xc_OutOfRange, rfl, hd, rfl, .ty _, T.kitV_OutOfRange, _, rfl, iteT ?_⟩
    refine ⟨_, rfl, rfl, rfl, dd, _, .int v, rfl, hd, by kernel_rfl, v, rfl, ?_⟩
    refine ⟨_, rfl, _, dd, _, _, _, false, rfl, T.xc_OutOfRange, rfl, hd, rfl, .own _, T.kit_OutOfRange_TooMany, _, rfl, iteF ?_⟩
    refine ⟨_, rfl, _, dd, _, _, _, false, rfl, T.xc_OutOfRange, rfl, hd, rfl, .own _, T.kit_OutOfRange_BadStretch, ?_⟩
    refine ⟨_, rfl, rfl, rfl, dd, _, .str st, rfl, hd, by kernel_rfl, _, rfl, rfl, rfl, dd, _, .int v, rfl, hd, by kernel_rfl, _, rfl, _, rfl, iteT ⟨_, rfl, _, rfl, (by show 4 ≤ sizeLine; decide), fun u hu => ?_⟩⟩
    exact yes u _ upd_same (s2.trans (Same.new hu))
end
end My

namespace My
open PySem L2
theorem PatC.fr {a : Ad} {H H' : Hp} {x l cl : Addr} {n : Nat} {h p : Int} {S : List Iv} (c : PatC a H x h p S) (f : Fr l cl H H') (pp : PoolAt H l cl n) : PatC a H' x h p S := ⟨by
  obtain ⟨dx, t, bs, u, e1, e2, e3, e4, e5, e6⟩ := c.at'
  obtain ⟨p1, p2, ns, q1, q2, _⟩ := pp
  have no : ∀ b o, H b = some o → (∀ xs, o ≠ .lst xs) → b ≠ l ∧ b ≠ cl := fun b o e k => ⟨fun z => by rw [z, q1] at e; cases e; exact k _ rfl, fun z => by rw [z, q2] at e; cases e; exact k _ rfl⟩
  have g : ∀ b o, H b = some o → (∀ xs, o ≠ .lst xs) → H' b = some o := fun b o e k => f b o e (no b o e k).1 (no b o e k).2
  refine ⟨dx, t, bs, u, g _ _ e1 (by intro xs z; cases z), g _ _ e2 (by intro xs z; cases z), ⟨e3.1, fun i z hz => let ⟨t, y, w⟩ := e3.2 i z hz; ⟨t, y, g _ _ w (by intro xs z; cases z)⟩⟩, g _ _ e4 (by intro xs z; cases z), e5, e6⟩, c.h0, c.h1, c.p1, c.p2, c.box⟩
/-- a pattern and the law's row of it -/
structure TW (a : Ad) (H : Hp) (x w bl : Addr) (head : Nat) (bits : List Bool) (b : Int) : Prop where
  pat : ∃ h p S, PatC a H x h p S ∧ ∀ t, 0 ≤ t → mem S h p t = gw head bits b t
  at' : WAt H w bl head bits b
  ln : head < bits.length
  lz : bits.length ≤ 1000
  b1 : 1 ≤ b
  b2 : b ≤ 10 ^ 12
theorem TW.same {a : Ad} {H H' : Hp} {x w bl : Addr} {head : Nat} {bits : List Bool} {b : Int} (t : TW a H x w bl head bits b) (s : Same H H') : TW a H' x w bl head bits b := ⟨let ⟨h, p, S, c, e⟩ := t.pat; ⟨h, p, S, c.same s, e⟩, t.at'.same s, t.ln, t.lz, t.b1, t.b2⟩
theorem TW.fr {a : Ad} {H H' : Hp} {x w bl l cl : Addr} {n : Nat} {head : Nat} {bits : List Bool} {b : Int} (t : TW a H x w bl head bits b) (f : Fr l cl H H') (p : PoolAt H l cl n) (n1 : bl ≠ l) (n2 : bl ≠ cl) : TW a H' x w bl head bits b := ⟨let ⟨h, q, S, c, e⟩ := t.pat; ⟨h, q, S, c.fr f p, e⟩, t.at'.fr f p n1 n2, t.ln, t.lz, t.b1, t.b2⟩
def spLooks (a : Ad) : Sp := fun vs H Q _ => ∃ (x w bl : Addr) (head : Nat) (bits : List Bool) (b m o : Int), vs = [.ref x, .ref w, .int m, .int o] ∧ TW a H x w bl head bits b ∧ (0 ≤ m ∧ m ≤ 10 ^ 40) ∧ (0 ≤ o ∧ o ≤ 10 ^ 40) ∧ ∀ H', Same H H' → Q (.bl true) H'
def spWhole (a : Ad) : Sp := fun vs H Q _ => ∃ (x w bl : Addr) (head : Nat) (bits : List Bool) (b : Int), vs = [.ref x, .ref w] ∧ TW a H x w bl head bits b ∧ ∀ H', Same H H' → Q (.bl true) H'
theorem fin_same {S : List Iv} {h p : Int} {hd : Nat} {bits : List Bool} {b : Int} (td : Tidy S) (h0 : 0 ≤ h) (p1 : 1 ≤ p) (box : ∀ a ∈ S, 0 ≤ a.1 ∧ a.2 ≤ h + p) (ln : hd < bits.length) (b1 : 1 ≤ b) (eq : ∀ t, 0 ≤ t → mem S h p t = gw hd bits b t) : (tot S = nearOf S h) ↔ countT (bits.drop hd) = 0 := by
  rw [fin_mem td h0 p1 box, law_fin (b := b) ln b1]
  have hb0 : 0 ≤ (hd : Int) * b := Int.mul_nonneg (by omega) (by omega)
  have pb : 1 * 1 ≤ ((bits.length - hd : Nat) : Int) * b := Int.mul_le_mul (by omega) b1 (by omega) (by omega)
  have e : Ev h p fun t => mem S h p t = true := fun t ht => by
    have := mem_shift p1 (S := S) ht 1 (by omega)
    rw [Int.mul_one] at this
    show mem S h p (t + p) = true ↔ mem S h p t = true
    rw [this]
  have e' : Ev ((hd : Int) * b) (((bits.length - hd : Nat) : Int) * b) fun t => mem S h p t = true := fun t ht => by
    have := ext_ev (h := (hd : Int) * b) (p := ((bits.length - hd : Nat) : Int) * b) (X := fun t => inL (pairsBy bits b) t = true) (by omega) t ht
    rw [law_ext ln b1 (by omega), law_ext ln b1 (by omega)] at this
    show mem S h p (t + _) = true ↔ mem S h p t = true
    rw [eq _ (by omega), eq _ (by omega)]
    exact this
  rw [fin_iff h0 hb0 p1 (by omega) e e']
  exact ⟨fun z t ht => by have := z t ht; rw [eq t (by omega)] at this; exact this, fun z t ht => by rw [eq t (by omega)]; exact z t ht⟩
theorem emp_same {S : List Iv} {h p : Int} {hd : Nat} {bits : List Bool} {b : Int} (td : Tidy S) (h0 : 0 ≤ h) (p1 : 1 ≤ p) (box : ∀ a ∈ S, 0 ≤ a.1 ∧ a.2 ≤ h + p) (ln : hd < bits.length) (b1 : 1 ≤ b) (eq : ∀ t, 0 ≤ t → mem S h p t = gw hd bits b t) : (tot S = 0) ↔ countT bits = 0 := by
  rw [emp_mem td h0 p1 box, law_emp (b := b) ln b1]
  exact ⟨fun z t ht => by have := z t ht; rw [eq t ht] at this; exact this, fun z t ht => by rw [eq t ht]; exact z t ht⟩
theorem count_e {K : PySem.W.Frag} {te : TE} {σ : St} {H : Hp} {bl : Addr} {bits : List Bool} (ht : Val te σ H (.ref bl)) (e : H bl = some (.lst (bits.map V.bl))) : Val (tBM K "list" (rCountB K) te (tCons (tC (.bl true)) tNil)) σ H (.int (countT bits : Nat)) := fun Q q => ht _ ⟨tyL e, bl, bits, true, rfl, rfl, SqL.of e, q⟩
theorem v_eqB {σ : St} {H : Hp} {ta tb : TE} {b c : Bool} (ha : Val ta σ H (.bl b)) (hb : Val tb σ H (.bl c)) : Val (tOp rEq ta tb) σ H (.bl (decide (b = c))) := val_op ha hb fun Q q => ⟨rfl, by rw [dec_bl]; cases b <;> cases c <;> exact q⟩
/-- _law_same of two calls that tell the same -/
theorem same_te {ta tb : TE} {σ : St} {H : Hp} {Q : VK} (A : Option Int → Prop) (un : ∀ r r', A r → A r' → r = r') (ha : ∀ R : VK, (∀ r H', A r → Same H H' → R (optV r) H') → ta σ H R) (hb : ∀ H1, Same H H1 → ∀ R : VK, (∀ r H', A r → Same H1 H' → R (optV r) H') → tb σ H1 R)
    (k : ∀ H', Same H H' → Q (.bl true) H') : tCall spSame [] E0 (tCons ta (tCons tb tNil)) σ H Q := ha _ fun r H1 a1 s1 => hb H1 s1 _ fun r' H2 a2 s2 => ⟨r, by rw [un r' r a2 a1]; rfl, k H2 (s1.trans s2)⟩
theorem same_sure {ta tb : TE} {σ : St} {H : Hp} (A : Option Int → Prop) (un : ∀ r r', A r → A r' → r = r') (ha : ∀ R : VK, (∀ r H', A r → Same H H' → R (optV r) H') → ta σ H R) (hb : ∀ H1, Same H H1 → ∀ R : VK, (∀ r H', A r → Same H1 H' → R (optV r) H') → tb σ H1 R) :
    Sure (tB (tCall spSame [] E0 (tCons ta (tCons tb tNil)))) σ H := fun QT q => tB_of (same_te A un ha hb fun H' s => ⟨_, rfl, q H' s⟩)
theorem PrAt.same {K : PySem.W.Frag} {H H' : Hp} {o : Option (Int × Int)} {v : V} (h : PrAt K H o v) (s : Same H H') : PrAt K H' o v := by
  cases o with
  | none => exact h
  | some p =>
    obtain ⟨t, a, b, _⟩ := h
    exact ⟨t, a, s.sqT b, sqT_ty (s.sqT b)⟩
section
variable {P : Program} {w : World} {K : PySem.W.Frag} {mg : Str → Option Value} {base : Heap} {a : Ad}
theorem G__law_looks (T : Tx K mg a) : FnOk P w K mg base CX0 5 a.f__law_looks a.d__law_looks ["told", "w", "minute", "other"] (spLooks a) := by
  refine T.F__law_looks.ok sc__law_looks (fun vs H Q E h => ?_) (fun cdv A outer s H vs Q E hr h => ?_)
  · obtain ⟨x, w, bl, hd, bits, b, m, o, rfl, _⟩ := h
    rfl
  · obtain ⟨x, wa, bl, hd, bits, b, m, o, rfl, t, m0, o0, k⟩ := h
    refine ⟨_, (pss_cons (ps_set (i := 4) sc__law_looks.nd rfl (Or.inl rfl) (pe_call (G__law_below T) (hr.mono (by decide)) rfl T.g__law_below T.F__law_below.kp T.b__law_below .nil pass0 (pa_cons (pv 1) (pa_cons (pv 2) pa_nil))))
      (pss_cons (ps_if (pt_not (pt_val (pe_call (G__law_same T) (hr.mono (by decide)) rfl T.g__law_same T.F__law_same.kp T.b__law_same .nil pass0 (pa_cons (pe_meth (pv 0) T.cl_Pattern T.m_Pattern_number_in (G_Pattern_number_in T) (hr.mono (by decide)) T.b_Pattern_number_in .nil passL (pa_cons pe_int (pa_cons (pv 2) pa_nil))) (pa_cons (pv 4) pa_nil))))) (pss_one (ps_ret pe_bl)) pss_nil)
      (pss_cons (ps_set (i := 5) sc__law_looks.nd rfl (Or.inl rfl) (pe_callB (call_max2 rfl) (by rfl) T.n_max (by decide +kernel) (pa_cons pe_int (pa_cons (pe_op op_sub (pe_call (G__law_below T) (hr.mono (by decide)) rfl T.g__law_below T.F__law_below.kp T.b__law_below .nil pass0 (pa_cons (pv 1) (pa_cons (pv 3) pa_nil))) (pv 4)) pa_nil))))
      (pss_cons (ps_if (pt_not (pt_val (pe_call (G__law_same T) (hr.mono (by decide)) rfl T.g__law_same T.F__law_same.kp T.b__law_same .nil pass0 (pa_cons (pe_meth (pv 0) T.cl_Pattern T.m_Pattern_number_in (G_Pattern_number_in T) (hr.mono (by decide)) T.b_Pattern_number_in .nil passL (pa_cons (pv 2) (pa_cons (pv 3) pa_nil))) (pa_cons (pv 5) pa_nil))))) (pss_one (ps_ret pe_bl)) pss_nil)
      (pss_cons (ps_if (pt_not (pt_val (pe_call (G__law_same T) (hr.mono (by decide)) rfl T.g__law_same T.F__law_same.kp T.b__law_same .nil pass0 (pa_cons (pe_meth (pv 0) T.cl_Pattern T.m_Pattern_first_from (G_Pattern_first_from T) (hr.mono (by decide)) T.b_Pattern_first_from .nil passL (pa_cons (pv 2) pa_nil)) (pa_cons (pe_call (G__law_place T) (hr.mono (by decide)) rfl T.g__law_place T.F__law_place.kp T.b__law_place .nil pass0 (pa_cons (pv 1) (pa_cons (pv 4) pa_nil))) pa_nil))))) (pss_one (ps_ret pe_bl)) pss_nil)
      (pss_cons (ps_if (pt_not (pt_val (pe_call (G__law_same T) (hr.mono (by decide)) rfl T.g__law_same T.F__law_same.kp T.b__law_same .nil pass0 (pa_cons (pe_meth (pv 0) T.cl_Pattern T.m_Pattern_last_before (G_Pattern_last_before T) (hr.mono (by decide)) T.b_Pattern_last_before .nil passL (pa_cons (pv 2) pa_nil)) (pa_cons (pe_call (G__law_place T) (hr.mono (by decide)) rfl T.g__law_place T.F__law_place.kp T.b__law_place .nil pass0 (pa_cons (pv 1) (pa_cons (pe_op op_sub (pv 4) pe_int) pa_nil))) pa_nil))))) (pss_one (ps_ret pe_bl)) pss_nil)
      (pss_one (ps_ret (pe_call (G__law_same T) (hr.mono (by decide)) rfl T.g__law_same T.F__law_same.kp T.b__law_same .nil pass0 (pa_cons (pe_meth (pv 0) T.cl_Pattern T.m_Pattern_minute_at (G_Pattern_minute_at T) (hr.mono (by decide)) T.b_Pattern_minute_at .nil passL (pa_cons (pv 2) pa_nil)) (pa_cons (pe_call (G__law_place T) (hr.mono (by decide)) rfl T.g__law_place T.F__law_place.kp T.b__law_place .nil pass0 (pa_cons (pv 1) (pa_cons (pv 2) pa_nil))) pa_nil))))))))))), ?_⟩
    obtain ⟨hp, p, S, c, eq⟩ := t.pat
    obtain ⟨f, hf⟩ : ∃ f, f = gw hd bits b := ⟨_, rfl⟩
    have ec := cnt_congr eq
    rw [← hf] at ec eq
    have cb := cnt_bounds f m0.1
    have cbo := cnt_bounds f o0.1
    have ln := t.ln
    have lz := t.lz
    have b1 := t.b1
    have b2 := t.b2
    obtain ⟨dx, st, u, hx⟩ := c.hx
    have un : ∀ {i : Int} (r r' : Option Int), IsNth f i r → IsNth f i r' → r = r' := fun r r' a b => a.unique b
    have place : ∀ {σ : St} {H1 : Hp} {R : VK} {te : TE} {i : Int}, Same H H1 → σ[1]? = some (some (V.ref wa)) → Val te σ H1 (.int i) → (-(10 ^ 60) ≤ i ∧ i ≤ 10 ^ 60) → (∀ r H', IsNth f i r → Same H1 H' → R (optV r) H') → tCall spPlaceW [] E0 (tCons (tVar 1) (tCons te tNil)) σ H1 R := fun {σ H1 R te i} s e1 v ib q => ⟨_, e1, v _ ⟨wa, bl, hd, bits, b, i, rfl, t.at'.same s, ln, lz, b1, b2, ib.1, ib.2, fun r H' n s' => q r H' (by rw [hf]; exact n) s'⟩⟩
    refine st_letX ⟨_, rfl, _, rfl, wa, bl, hd, bits, b, m, rfl, t.at', ln, lz, b1, b2, m0.1, by omega, fun H1 s1 => ?_⟩
    rw [← hf]
    refine guard_sure (same_sure (fun r => r = some (cnt f m)) (fun r r' a b => a.trans b.symm) (fun R q => ⟨_, rfl, x, dx, _, rfl, s1 _ _ hx, by kernel_rfl, _, rfl, x, hp, p, S, 0, m, rfl, c.same s1, fun z => absurd (show 0 ≤ (0 : Int) ∧ (0 : Int) ≤ 10 ^ 40 by omega) z, fun _ z => absurd m0 z, fun _ _ H' s' => ?_⟩) fun H2 s2 R q => ⟨_, rfl, q (some _) H2 rfl (Same.refl _)⟩) fun H2 s2 => ?_
    · have e0 : (if 0 < m then cnt (mem S hp p) m - cnt (mem S hp p) 0 else 0) = cnt f m := by
        rw [ec, ec]
        have z0 : cnt f 0 = 0 := rfl
        by_cases d : 0 < m
        · rw [if_pos d, z0, Int.sub_zero]
        · rw [if_neg d, show m = 0 by omega, z0]
      rw [e0]
      exact q (some (cnt f m)) H' rfl s'
    have s12 := s1.trans s2
    refine st_letX ⟨_, rfl, _, rfl, wa, bl, hd, bits, b, o, rfl, t.at'.same s12, ln, lz, b1, b2, o0.1, by omega, fun H3 s3 => ⟨_, rfl, _, _, rfl, rfl, 0, cnt f o - cnt f m, by rw [← hf], ?_⟩⟩
    have s13 := s12.trans s3
    obtain ⟨bw, hbw⟩ : ∃ bw, bw = (if cnt f o - cnt f m > 0 then cnt f o - cnt f m else 0) := ⟨_, rfl⟩
    rw [← hbw]
    have ebw : (if m < o then cnt (mem S hp p) o - cnt (mem S hp p) m else 0) = bw := by
      rw [ec, ec, hbw]
      have a1 : m ≤ o → cnt f m ≤ cnt f o := fun z => cnt_mono z
      have a2 : o ≤ m → cnt f o ≤ cnt f m := fun z => cnt_mono z
      split <;> split <;> omega
    dsimp only
    refine guard_sure (same_sure (fun r => r = some bw) (fun r r' a b => a.trans b.symm) (fun R q => ⟨_, rfl, x, dx, _, rfl, s13 _ _ hx, by kernel_rfl, _, rfl, _, rfl, x, hp, p, S, m, o, rfl, c.same s13, fun z => absurd m0 z, fun _ z => absurd o0 z, fun _ _ H' s' => ?_⟩) fun H2 s2 R q => ⟨_, rfl, q (some _) H2 rfl (Same.refl _)⟩) fun H4 s4 => ?_
    · rw [ebw]
      exact q (some bw) H' rfl s'
    have s14 := s13.trans s4
    have nc : ∀ {i : Int} {r : Option Int}, IsNth (mem S hp p) i r → IsNth f i r := fun n => n.congr eq
    refine guard_sure (same_sure (IsNth f (cnt f m)) un (fun R q => ⟨_, rfl, x, dx, _, rfl, s14 _ _ hx, by kernel_rfl, _, rfl, x, hp, p, S, m, rfl, c.same s14, fun z => absurd m0 z, fun _ r H' n s' => q r H' (by rw [← ec]; exact nc n) s'⟩) fun H5 s5 R q => place (s14.trans s5) rfl (val_var rfl) (by omega) q) fun H5 s5 => ?_
    have s15 := s14.trans s5
    refine guard_sure (same_sure (IsNth f (cnt f m - 1)) un (fun R q => ⟨_, rfl, x, dx, _, rfl, s15 _ _ hx, by kernel_rfl, _, rfl, x, hp, p, S, m, rfl, c.same s15, fun z => absurd m0 z, fun _ r H' n s' => q r H' ?_ s'⟩) fun H5 s5 R q => place (s15.trans s5) rfl (v_rI0 (g := fun i j => .int (i - j)) (val_var rfl) val_c) (by omega) q) fun H6 s6 => ?_
    · rw [ec] at n
      by_cases z : 0 < cnt f m
      · rw [if_pos z] at n
        exact nc n
      · rw [if_neg z] at n
        rw [n]
        exact nth_neg (by omega)
    have s16 := s15.trans s6
    exact st_ret0 (same_te (IsNth f m) un (fun R q => ⟨_, rfl, x, dx, _, rfl, s16 _ _ hx, by kernel_rfl, _, rfl, x, hp, p, S, m, rfl, c.same s16, fun z => absurd m0 z, fun _ r H' n s' => q r H' (nc n) s'⟩) (fun H5 s5 R q => place (s16.trans s5) rfl (val_var rfl) (by omega) q) fun H7 s7 => k H7 (s16.trans s7))
theorem G__law_whole (T : Tx K mg a) : FnOk P w K mg base CX0 7 a.f__law_whole a.d__law_whole ["told", "w"] (spWhole a) := by
  refine T.F__law_whole.ok sc__law_whole (fun vs H Q E h => ?_) (fun cdv A outer s H vs Q E hr h => ?_)
  · obtain ⟨x, w, bl, hd, bits, b, rfl, _⟩ := h
    rfl
  · obtain ⟨x, wa, bl, hd, bits, b, rfl, t, k⟩ := h
    refine ⟨_, (pss_cons (ps_asg (pe_call (G__law_gaps T) (hr.mono (by decide)) rfl T.g__law_gaps T.F__law_gaps.kp T.b__law_gaps .nil pass0 (pa_cons (pv 1) pa_nil)) (pg_tup rfl (pgs_cons (pg_name (i := 2) sc__law_whole.nd rfl (Or.inl rfl)) (pgs_cons (pg_name (i := 3) sc__law_whole.nd rfl (Or.inl rfl)) pgs_nil))))
      (pss_cons (ps_if (PW.pt (pw_or (pt_not (pt_val (pe_call (G__law_pair T) (hr.mono (by decide)) rfl T.g__law_pair T.F__law_pair.kp T.b__law_pair .nil pass0 (pa_cons (pe_call (G_shortest_gap T) (hr.mono (by decide)) rfl T.g_shortest_gap T.F_shortest_gap.kp T.b_shortest_gap .nil pass0 (pa_cons (pv 0) pa_nil)) (pa_cons (pv 2) pa_nil))))) (pw_or1 (pt_not (pt_val (pe_call (G__law_pair T) (hr.mono (by decide)) rfl T.g__law_pair T.F__law_pair.kp T.b__law_pair .nil pass0 (pa_cons (pe_call (G_longest_gap T) (hr.mono (by decide)) rfl T.g_longest_gap T.F_longest_gap.kp T.b_longest_gap .nil pass0 (pa_cons (pv 0) pa_nil)) (pa_cons (pv 3) pa_nil)))))))) (pss_one (ps_ret pe_bl)) pss_nil)
      (pss_cons (ps_set (i := 4) sc__law_whole.nd rfl (Or.inl rfl) (pe_prop (pv 0) T.cl_Pattern T.pr_Pattern_finite (G_Pattern_finite T) (hr.mono (by decide)) T.b_Pattern_finite .nil pass0 rfl))
      (pss_cons (ps_set (i := 5) sc__law_whole.nd rfl (Or.inl rfl) (pe_prop (pv 0) T.cl_Pattern T.pr_Pattern_empty (G_Pattern_empty T) (hr.mono (by decide)) T.b_Pattern_empty .nil pass0 rfl))
      (pss_cons (ps_if (PW.pt (pw_or (pt_not (pt_val (pe_callB call_isi (by rfl) T.n_isinstance (by decide +kernel) (pa_cons (pv 4) (pa_cons (pe_bltn (v := .ty "bool") rfl T.n_bool (by decide +kernel) rfl) pa_nil))))) (pw_or1 (pt_not (pt_val (pe_callB call_isi (by rfl) T.n_isinstance (by decide +kernel) (pa_cons (pv 5) (pa_cons (pe_bltn (v := .ty "bool") rfl T.n_bool (by decide +kernel) rfl) pa_nil)))))))) (pss_one (ps_ret pe_bl)) pss_nil)
      (pss_cons (ps_set (i := 6) sc__law_whole.nd rfl (Or.inl rfl) (pe_slice sl_list (pe_ix ix_tup (pv 1) pe_int (fun _ _ => rfl)) (po_some (pe_ix ix_tup (pv 1) pe_int (fun _ _ => rfl))) po_none))
      (pss_one (ps_ret (pe_and (pe_cmpR op_eq (pv 4) (pe_cmpR op_eq (pe_bm PySem.F.plainAttrs_list PySem.F.slot_list_count PySem.F.type_list_count (mt_countB hr.units) (pv 6) (pa_cons pe_bl pa_nil)) pe_int (nomark _)) (nomark _)) (pe_one (pe_cmpR op_eq (pv 5) (pe_cmpR op_eq (pe_bm PySem.F.plainAttrs_list PySem.F.slot_list_count PySem.F.type_list_count (mt_countB hr.units) (pe_ix ix_tup (pv 1) pe_int (fun _ _ => rfl)) (pa_cons pe_bl pa_nil)) pe_int (nomark _)) (nomark _)))))))))))), ?_⟩
    obtain ⟨hp, p, S, c, eq⟩ := t.pat
    obtain ⟨dx, st, u, hx⟩ := c.hx
    have wt := t.at'
    refine st_seq ⟨_, rfl, wa, bl, hd, bits, b, rfl, wt, t.ln, t.lz, t.b1, t.b2, fun g r1 r2 v1 v2 H1 sh lo p1 p2 eg s1 => ?_⟩
    refine ⟨g, _, rfl, SqT.of eg, rfl, _, _, rfl, _, _, rfl, rfl, ?_⟩
    dsimp only [gName, List.set, List.length]
    refine guard_sure2 (fun QT q => tB_of ⟨_, rfl, x, hp, p, S, rfl, c.same s1, fun r v H2 is pr s2 => ⟨_, rfl, v, v1, r1, rfl, ?_, (p1 K).same s2, _, rfl, q H2 s2⟩⟩) (fun H2 s2 QT q => tB_of ⟨_, rfl, x, hp, p, S, rfl, c.same (s1.trans s2), fun r v H3 is pr s3 => ⟨_, rfl, v, v2, r2, rfl, ?_, (p2 K).same (s2.trans s3), _, rfl, q H3 s3⟩⟩) fun H2 s2 => ?_
    · rw [(is.congr eq).unique sh] at pr
      exact pr K
    · rw [(is.congr eq).unique lo] at pr
      exact pr K
    have s12 := s1.trans s2
    have c2 := c.same s12
    have ef : (tot S = nearOf S hp) ↔ countT (bits.drop hd) = 0 := fin_same c.td c.h0 c.p1 c.box t.ln t.b1 eq
    have ee : (tot S = 0) ↔ countT bits = 0 := emp_same c.td c.h0 c.p1 c.box t.ln t.b1 eq
    refine st_letX ⟨_, rfl, x, dx, _, rfl, s12 _ _ hx, x, hp, p, S, rfl, c2.at', ?_⟩
    refine st_letX ⟨_, rfl, x, dx, _, rfl, s12 _ _ hx, x, hp, p, S, rfl, c2.at', ?_⟩
    dsimp only [gName, List.set]
    have sure : ∀ {t : TT} {σ : St} {H : Hp}, Ans t σ H true → Sure t σ H := fun h QT q => h _ (q _ (Same.refl _))
    have isb : ∀ {σ : St} {H : Hp} {i : Nat} {b : Bool}, σ[i]? = some (some (V.bl b)) → Sure (tB (tCB (rIsi K) (tCons (tVar i) (tCons (tC (V.ty "bool")) tNil)))) σ H := fun e => sure (a_isi "bool" true (val_var e) (.base (.bl _)) (by decide +kernel))
    refine guard_sure2 (isb rfl) (fun H3 s3 => isb rfl) fun H3 s3 => ?_
    have wt3 := wt.same (s12.trans s3)
    refine st_letX (v_slL (l := bl) (xs := []) ((v_ixT (v := .ref bl) (val_var rfl) val_c (SqT.of wt3.1) rfl) _ ((v_ixT (v := .int hd) (val_var rfl) val_c (SqT.of wt3.1) rfl) _ ⟨_, rfl, bl, _, rfl, SqL.of wt3.2, fun a1 ha1 => ?_⟩)))
    have t1 := Same.new (o := .lst (cutV (bits.map V.bl) (some (hd : Int)) none)) ha1
    have g1 : upd H3 a1 (.lst (cutV (bits.map V.bl) (some (hd : Int)) none)) a1 = some (.lst ((bits.drop hd).map V.bl)) := by rw [upd_same, My.cut_drop, List.map_drop]
    generalize upd H3 a1 (.lst (cutV (bits.map V.bl) (some (hd : Int)) none)) = H4 at t1 g1 ⊢
    have wt4 := wt3.same t1
    have e1 : decide (tot S = nearOf S hp) = decide ((countT (bits.drop hd) : Int) = 0) := decide_eq_decide.mpr (by rw [ef]; omega)
    have e2 : decide (tot S = 0) = decide ((countT bits : Int) = 0) := decide_eq_decide.mpr (by rw [ee]; omega)
    refine st_ret0 ((v_eqB (val_var rfl) (v_eq (count_v rfl g1) val_c)) _ ⟨_, rfl, ?_⟩)
    rw [decide_eq_true e1]
    refine iteT ((v_eqB (val_var rfl) (v_eq (count_e (v_ixT (v := .ref bl) (val_var rfl) val_c (SqT.of wt4.1) rfl) wt4.2) val_c)) _ ?_)
    rw [decide_eq_true e2]
    exact k _ ((s12.trans s3).trans t1)
end
end My

namespace My
open PySem L2
def spSpans (a : Ad) : Sp := fun vs H Q _ => ∃ (l cl : Addr) (n : Nat) (x w bl : Addr) (head : Nat) (bits : List Bool) (b : Int), vs = [.ref l, .ref x, .ref w] ∧ PoolAt H l cl n ∧ n < 2 ^ 37 ∧ TW a H x w bl head bits b ∧ bl ≠ l ∧ bl ≠ cl ∧ ∀ H', PoolAt H' l cl (n + 30) → Fr l cl H H' → Q (.bl true) H'
def spRefused (a : Ad) : Sp := fun vs H Q _ => ∃ (l cl : Addr) (n : Nat) (x w bl : Addr) (head : Nat) (bits : List Bool) (b : Int), vs = [.ref l, .ref x] ∧ PoolAt H l cl n ∧ n < 2 ^ 37 ∧ TW a H x w bl head bits b ∧ bl ≠ l ∧ bl ≠ cl ∧ ∀ H', PoolAt H' l cl (n + 30) → Fr l cl H H' → Q (.bl true) H'
theorem t_op' {r : R2} {ta tb : TE} {σ : St} {H : Hp} {QT : Bool → Hp → Prop} (h : ta σ H fun x H1 => tb σ H1 fun y H2 => r x y H2 fun z H3 => ∃ k, z = .bl k ∧ QT k H3) : tTest (tOp r ta tb) σ H QT := h
theorem cb2 {r : List V → Hp → VK → Prop} {ta tb : TE} {σ : St} {H : Hp} {Q : VK} {x : V} (ha : Val ta σ H x) (hb : tb σ H fun y H2 => r [x, y] H2 Q) : tCB r (tCons ta (tCons tb tNil)) σ H Q := ha _ hb
theorem lcR2W {ta tb te : TE} {g : TG} {tt : TT} {vs : List Nat} {σ : St} {H1 : Hp} {Q : VK} {lo hi : Int} (ha : Val ta σ H1 (.int lo)) (hb : Val tb σ H1 (.int hi)) (h : tLc (fun _ H R => R (Itr lo (hi - lo).toNat) H) g tt te vs σ H1 Q) : tLc (iRng2W (tCons ta (tCons tb tNil))) g tt te vs σ H1 Q := ha _ (hb _ ⟨lo, hi, rfl, h⟩)
theorem forL_of {K : PySem.W.Frag} {tl : TE} {g : TG} {tb : TS} {D : Ends} {σ : St} {H : Hp} (h : tl σ H fun v H1 => tFor (iList K (tC v)) g tb D σ H1) : tFor (iList K tl) g tb D σ H := h
def nmK : Nat → Str
  | 0 => "start"
  | 1 => "index"
  | 2 => "minute"
  | 3 => "minute"
  | _ => "start"
/-- list(x.each_minute(s, e)) -/
theorem each_te {a : Ad} {σ : St} {H : Hp} {R : VK} {x : Addr} {hh p s e : Int} {S : List Iv} {i : Nat} {ts te : TE} (c : PatC a H x hh p S) (hi : σ[i]? = some (some (V.ref x))) (hs : Val ts σ H (.int s)) (he : Val te σ H (.int e)) (s0 : 0 ≤ s ∧ s ≤ 10 ^ 40) (e0 : 0 ≤ e ∧ e ≤ 10 ^ 40)
    (bd : cnt (mem S hh p) e - cnt (mem S hh p) s ≤ 1000) (k : ∀ ms P H', Listed (mem S hh p) s e ms → H' P = some (.lst (ms.map V.int)) → Same H H' → R (.ref P) H') :
    tListG (tMethG a.c_Pattern "each_minute" (spEach a) [] E0 (tVar i) (tCons ts (tCons te tNil))) σ H R := by
  obtain ⟨dx, st, u, hx⟩ := c.hx
  exact ⟨_, hi, x, dx, _, rfl, hx, (by kernel_rfl : List.lookup _ _ = (none : Option V)), hs _ (he _ ⟨x, hh, p, S, s, e, rfl, c, fun z => absurd s0 z, fun _ z => absurd e0 z, fun _ _ => ⟨bd, fun ms H' l s' P hP => k ms P _ l upd_same (s'.trans (Same.new hP))⟩⟩)⟩
def rngD (s : Str) (v : Int) : PyData := .tuple [.str "range", .str s, .int v, .bool true]
theorem rngD_dp {K : PySem.W.Frag} {H : Hp} {t : Addr} {s : Str} {v : Int} (h : H t = some (.tup [.str "range", .str s, .int v, .bl true])) : Dp K H (.ref t) (rngD s v) := .tup (SqT.of h) (.cons (.str _) (.cons (.str _) (.cons (.int _) (.cons (.bl _) .nil))))
theorem rngD_eqv (s : Str) (v : Int) : PyData.eqv (rngD s v) (rngD s v) = true := by simp [rngD, PyData.eqv, PyData.eqvAll]
theorem sh_rng : (∀ y, SeqAt.shaped (rngD "start" y) = true) ∧ (∀ y, SeqAt.shaped (rngD "index" y) = true) ∧ (∀ y, SeqAt.shaped (rngD "minute" y) = true) ∧ (∀ y, SeqAt.shaped (rngD "end" y) = true) := ⟨fun y => by kernel_rfl, fun y => by kernel_rfl, fun y => by kernel_rfl, fun y => by kernel_rfl⟩
section
variable {P : Program} {w : World} {K : PySem.W.Frag} {mg : Str → Option Value} {base : Heap} {a : Ad}
theorem G__law_spans (T : Tx K mg a) : FnOk P w K mg base CX0 9 a.f__law_spans a.d__law_spans ["pool", "told", "w"] (spSpans a) := by
  refine T.F__law_spans.ok sc__law_spans (fun vs H Q E h => ?_) (fun cdv A outer s H vs Q E hr h => ?_)
  · obtain ⟨l, cl, n, x, w, bl, hd, bits, b, rfl, _⟩ := h
    rfl
  · obtain ⟨l, cl, n, x, wa, bl, hd, bits, b, rfl, hp, hn, t, n1, n2, k⟩ := h
    refine ⟨_, (pss_cons (ps_for PassesOwn.never rfl (pi_range1 rfl T.n_range (pa_cons pe_int pa_nil)) (pg_name (i := 3) sc__law_spans.nd rfl (Or.inl rfl)) (pss_cons (ps_set (i := 4) sc__law_spans.nd rfl (Or.inl rfl) (pe_call (G__law_far T) (hr.mono (by decide)) rfl T.g__law_far T.F__law_far.kp T.b__law_far .nil pass0 (pa_cons (pv 0) pa_nil)))
      (pss_cons (ps_if (pt_cmpR op_eq (pv 3) pe_int (nomark _)) (pss_one (ps_set (i := 4) sc__law_spans.nd rfl (Or.inl rfl) (pe_call (G__law_draw T) (hr.mono (by decide)) rfl T.g__law_draw T.F__law_draw.kp T.b__law_draw .nil pass0 (pa_cons (pv 0) (pa_cons (pe_op op_mul (pe_op op_mul pe_int (pe_callB call_len_seq (by rfl) T.n_len (by decide +kernel) (pa_cons (pe_ix ix_tup (pv 2) pe_int (fun _ _ => rfl)) pa_nil))) (pe_ix ix_tup (pv 2) pe_int (fun _ _ => rfl))) pa_nil))))) pss_nil)
      (pss_cons (ps_set (i := 5) sc__law_spans.nd rfl (Or.inr rfl) (pe_callB (call_min2 rfl) (by rfl) T.n_min (by decide +kernel) (pa_cons (pe_op op_pow pe_int pe_int) (pa_cons (pe_op op_add (pv 4) (pe_call (G__law_draw T) (hr.mono (by decide)) rfl T.g__law_draw T.F__law_draw.kp T.b__law_draw .nil pass0 (pa_cons (pv 0) (pa_cons pe_int pa_nil)))) pa_nil))))
      (pss_cons (ps_setLc (i := 6) (own := [("t", 7)]) (g := gName 7) (tt := _) rfl sc__law_spans.nd rfl rfl (sw_true rfl rfl rfl (by decide +kernel)) (pi_range2W rfl T.n_range (pa_cons (pv 4) (pa_cons (pv 5) pa_nil))) (blkOk_by (own := [("t", 7)]) (N := ["pool", "told", "w", "k", "start", "end", "due", "t", "step", "first", "one", "thin"]) (sc := defScope s__law_spans) (by decide +kernel)) (fun _ _ _ _ _ => (pg_name (i := 7) sc__law_spans.nd rfl (Or.inl rfl))) (fun _ _ _ _ _ => (pts_one (pt_val (pe_call (G__law_is_in T) (hr.mono (by decide)) rfl T.g__law_is_in T.F__law_is_in.kp T.b__law_is_in .nil pass0 (pa_cons (pv 2) (pa_cons (pv 7) pa_nil)))))) (fun _ _ _ _ _ => (pv 7)))
      (pss_cons (ps_if (pt_not (pt_val (pe_call (G__law_row T) (hr.mono (by decide)) rfl T.g__law_row T.F__law_row.kp T.b__law_row .nil pass0 (pa_cons (pe_listG (pgen_meth (E := E0) (pv 1) T.cl_Pattern T.m_Pattern_each_minute (G_Pattern_each_minute T) (hr.mono (by decide)) T.b_Pattern_each_minute .nil (pa_cons (pv 4) (pa_cons (pv 5) pa_nil))) passL noStop0 (hr.mono (by decide)) rfl T.n_list (by decide +kernel)) (pa_cons (pv 6) pa_nil))))) (pss_one (ps_ret pe_bl)) pss_nil)
      (pss_one (ps_if (pt_cmpR op_gt (pe_callB call_len_seq (by rfl) T.n_len (by decide +kernel) (pa_cons (pe_listG (pgen_meth (E := E0) (pv 1) T.cl_Pattern T.m_Pattern_each_minute (G_Pattern_each_minute T) (hr.mono (by decide)) T.b_Pattern_each_minute .nil (pa_cons (pv 5) (pa_cons (pv 4) pa_nil))) passL noStop0 (hr.mono (by decide)) rfl T.n_list (by decide +kernel)) pa_nil)) pe_int (nomark _)) (pss_one (ps_ret pe_bl)) pss_nil))))))))
      (pss_cons (ps_set (i := 8) sc__law_spans.nd rfl (Or.inr rfl) (pe_op op_add (pe_op op_pow pe_int pe_int) (pe_call (G__law_draw T) (hr.mono (by decide)) rfl T.g__law_draw T.F__law_draw.kp T.b__law_draw .nil pass0 (pa_cons (pv 0) (pa_cons (pe_op op_pow pe_int pe_int) pa_nil)))))
      (pss_cons (ps_set (i := 9) sc__law_spans.nd rfl (Or.inl rfl) (pe_call (G__law_draw T) (hr.mono (by decide)) rfl T.g__law_draw T.F__law_draw.kp T.b__law_draw .nil pass0 (pa_cons (pv 0) (pa_cons (pe_op op_pow pe_int pe_int) pa_nil))))
      (pss_cons (ps_set (i := 4) sc__law_spans.nd rfl (Or.inl rfl) (pe_call (G__law_far T) (hr.mono (by decide)) rfl T.g__law_far T.F__law_far.kp T.b__law_far .nil pass0 (pa_cons (pv 0) pa_nil)))
      (pss_cons (ps_set (i := 5) sc__law_spans.nd rfl (Or.inr rfl) (pe_callB (call_min2 rfl) (by rfl) T.n_min (by decide +kernel) (pa_cons (pe_op op_pow pe_int pe_int) (pa_cons (pe_op op_add (pv 4) (pe_call (G__law_draw T) (hr.mono (by decide)) rfl T.g__law_draw T.F__law_draw.kp T.b__law_draw .nil pass0 (pa_cons (pv 0) (pa_cons (pe_op op_add (pe_op op_mul pe_int (pv 8)) pe_int) pa_nil)))) pa_nil))))
      (pss_cons (ps_set (i := 10) sc__law_spans.nd rfl (Or.inr rfl) (pv 9))
      (pss_cons (ps_if (pt_cmpR op_gt (pv 4) (pv 9) (nomark _)) (pss_one (ps_set (i := 10) sc__law_spans.nd rfl (Or.inr rfl) (pe_op op_add (pv 9) (pe_op op_mul (pe_op op_fdivW (pe_op op_sub (pe_op op_add (pe_op op_sub (pv 4) (pv 9)) (pv 8)) pe_int) (pv 8)) (pv 8))))) pss_nil)
      (pss_cons (ps_setLc (i := 6) (own := [("k", 3)]) (g := gName 3) (tt := _) rfl sc__law_spans.nd rfl rfl (sw_true rfl rfl rfl (by decide +kernel)) (pi_range1 rfl T.n_range (pa_cons pe_int pa_nil)) (blkOk_by (own := [("k", 3)]) (N := ["pool", "told", "w", "k", "start", "end", "due", "t", "step", "first", "one", "thin"]) (sc := defScope s__law_spans) (by decide +kernel)) (fun _ _ _ _ _ => (pg_name (i := 3) sc__law_spans.nd rfl (Or.inl rfl))) (fun _ _ _ _ _ => (pts_one (pt_cmpR op_lt (pe_op op_add (pv 10) (pe_op op_mul (pv 3) (pv 8))) (pv 5) (nomark _)))) (fun _ _ _ _ _ => (pe_op op_add (pv 10) (pe_op op_mul (pv 3) (pv 8)))))
      (pss_cons (ps_set (i := 11) sc__law_spans.nd rfl (Or.inl rfl) (pe_smeth (pe_glob (v := .ref a.c_Pattern) rfl T.g_Pattern rfl) T.cr_Pattern T.sm_Pattern_every (G_Pattern_every T) (hr.mono (by decide)) T.F_Pattern_every.kp T.bP_Pattern_every_1.choose_spec.2 T.bP_Pattern_every_1.choose_spec.1 passL (pa_cons (pv 8) (pa_cons (pv 9) pa_nil))))
      (pss_one (ps_ret (pe_call (G__law_row T) (hr.mono (by decide)) rfl T.g__law_row T.F__law_row.kp T.b__law_row .nil pass0 (pa_cons (pe_listG (pgen_meth (E := E0) (pv 11) T.cl_Pattern T.m_Pattern_each_minute (G_Pattern_each_minute T) (hr.mono (by decide)) T.b_Pattern_each_minute .nil (pa_cons (pv 4) (pa_cons (pv 5) pa_nil))) passL noStop0 (hr.mono (by decide)) rfl T.n_list (by decide +kernel)) (pa_cons (pv 6) pa_nil)))))))))))))), ?_⟩
    have big : 1000000 ≤ sizeLine := by decide
    have ln := t.ln
    have lz := t.lz
    have b1 := t.b1
    have b2 := t.b2
    obtain ⟨hh, p, S, c, eq⟩ := t.pat
    have wt := t.at'
    have e40 : (10 : Int) ^ Int.toNat 40 = 10 ^ 40 := by decide
    have e9 : (10 : Int) ^ Int.toNat 9 = 10 ^ 9 := by decide
    have e6 : (10 : Int) ^ Int.toNat 6 = 10 ^ 6 := by decide
    have e12 : (10 : Int) ^ Int.toNat 12 = 10 ^ 12 := by decide
    refine st_seq (st_forR1 (n := 3) val_c rfl (by omega) (fun i σ' H' => ∃ (v3 v4 v5 v6 v7 : Option V), σ' = [some (.ref l), some (.ref x), some (.ref wa), v3, v4, v5, v6, v7, none, none, none, none] ∧ PoolAt H' l cl (n + 5 * i) ∧ Fr l cl H H')
      ⟨_, _, _, _, _, rfl, hp, Fr.refl _ _ _⟩ ?_ ?_)
    · rintro i σ' H1 hi ⟨v3, v4, v5, v6, v7, rfl, p1, f1⟩
      refine g_name ?_
      refine st_letX ⟨_, rfl, l, cl, n + 5 * i, rfl, p1, by omega, fun d0 H2 od0 p2 f2 => ?_⟩
      dsimp only [List.set]
      have f02 := f1.trans f2
      have wt2 := wt.fr f02 hp n1 n2
      refine st_shareS (fun σ' H' => ∃ st : Int, (0 ≤ st ∧ st ≤ 10 ^ 40) ∧ σ' = [some (.ref l), some (.ref x), some (.ref wa), some (.int i), some (.int st), v5, v6, v7, none, none, none, none] ∧ PoolAt H' l cl (n + 5 * i + 4) ∧ Fr l cl H H') ?_ fun N hN => ?_
      case refine_2 =>
        refine st_ifb (a_eq (val_var rfl) val_c) (fun _ => ?_) fun _ => hN _ _ ⟨d0, od0, rfl, p2.mono (by omega), f02⟩
        refine draw p2 rfl (v_rI (g := fun i j => .int (i * j)) (v_rI (g := fun i j => .int (i * j)) val_c (v_cb (v := .int (bits.length : Nat)) (v_ixT (v := .ref bl) (val_var rfl) val_c (SqT.of wt2.1) rfl) fun Q q => ⟨bl, _, rfl, Or.inl (SqL.of wt2.2), by rw [List.length_map]; exact q⟩) (Or.inl ⟨by decide, by decide⟩)) (v_ixT (v := .int b) (val_var rfl) val_c (SqT.of wt2.1) rfl) (Or.inl ⟨by omega, by omega⟩)) (by omega) ?_ ?_ fun d H3 d0 d1 p3 f3 => hN _ _ ⟨d, ⟨d0, ?_⟩, rfl, p3, f02.trans f3⟩
        · exact Int.mul_pos (by omega) (by omega)
        · have : 3 * (bits.length : Int) * b ≤ 3000 * 10 ^ 12 := Int.mul_le_mul (by omega) b2 (by omega) (by omega)
          omega
        · have : 3 * (bits.length : Int) * b ≤ 3000 * 10 ^ 12 := Int.mul_le_mul (by omega) b2 (by omega) (by omega)
          omega
      clear od0 p2 f2 f02 wt2 p1 f1
      rintro σ' H2 ⟨st, st0, rfl, p2, f2⟩
      refine st_letX (cb2 (v_rI (g := fun i j => .int (i ^ j.toNat)) val_c val_c ⟨by decide, by decide, by decide⟩) (op_v (val_var rfl) (draw p2 rfl val_c (by omega) (by decide) (by decide) fun d H3 d0 d1 p3 f3 => ⟨_, _, rfl, rfl, _, _, rfl, ?_⟩)))
      rw [e40]
      obtain ⟨en, hen⟩ : ∃ en, en = (if st + d < 10 ^ 40 then st + d else 10 ^ 40) := ⟨_, rfl⟩
      rw [← hen]
      have en0 : st ≤ en ∧ en ≤ 10 ^ 40 ∧ en ≤ st + 40 := by rw [hen]; split <;> omega
      clear hen
      have f3' := f2.trans f3
      have wt3 := wt.fr f3' hp n1 n2
      dsimp only [List.set]
      refine st_letX (lcR2W (lo := st) (hi := en) (val_var rfl) (val_var rfl) ?_)
      refine comp_keep (fun i => gw hd bits b (st + (i : Nat))) (n := (en - st).toNat) (by omega) (fun _ => rfl) (fun i H' hi s QT q => ⟨_, rfl, _, rfl, wa, bl, hd, bits, b, st + (i : Int), rfl, wt3.same s, ln, lz, b1, b2, by omega, _, rfl, q⟩) (fun i H' hi s => val_var rfl) fun D4 H4 _ e4 s4 => ?_
      have e4 : H4 D4 = some (.lst ((listOf (gw hd bits b) st (en - st).toNat).map V.int)) := by
        rw [e4]
        unfold listOf
        rw [List.map_map]
        rfl
      have lo := listOf_ok (f := gw hd bits b) (s := st) (en - st).toNat
      have lc := listOf_cnt (f := gw hd bits b) st0.1 (en - st).toNat
      have ll := listOf_len (f := gw hd bits b) (s := st) (n := (en - st).toNat)
      rw [show st + (((en - st).toNat : Nat) : Int) = en by omega] at lo lc
      have ec := cnt_congr eq
      have c4 := (c.fr f3' hp).same s4
      dsimp only [List.set]
      refine guard_sure (fun QT q => tB_of (call_first (each_te c4 rfl (val_var rfl) (val_var rfl) st0 (by omega) (by rw [ec, ec]; omega) fun ms P H5 li eP s5 => ⟨_, rfl, P, D4, ms, rfl, SqL.of eP, SqL.of ?_, ?_, _, rfl, q H5 s5⟩))) fun H5 s5 => ?_
      · rw [listed_unique (li.congr eq st0.1) lo]
        exact s5 _ _ e4
      · rw [listed_unique (li.congr eq st0.1) lo]
        omega
      have c5 := c4.same s5
      have p5 := (p3.same s4).same s5
      have f5 := (f3'.trans (Fr.of s4)).trans (Fr.of s5)
      refine st_ifX (t_op' (v_cb1 (each_te c5 rfl (val_var rfl) (val_var rfl) (by omega) st0 (by have := cnt_mono (f := mem S hh p) en0.1; omega) fun ms P H6 li eP s6 => ⟨P, _, rfl, Or.inl (SqL.of eP), _, _, rfl, rfl, _, rfl, ?_⟩)))
      have em : ms = [] := listed_unique li (.nil en0.1)
      subst em
      exact iteF ⟨_, _, _, _, _, rfl, (p5.same s6).mono (by omega), f5.trans (Fr.of s6)⟩
    rintro σ' H1 ⟨v3, v4, v5, v6, v7, rfl, p1, f1⟩
    dsimp only
    have st4 : (10 : Int) ^ Int.toNat 9 ≤ 10 ^ 9 := by decide
    refine st_letX (op_v (v_rI (g := fun i j => .int (i ^ j.toNat)) val_c val_c ⟨by decide, by decide, by decide⟩) (draw p1 rfl (v_rI (g := fun i j => .int (i ^ j.toNat)) val_c val_c ⟨by decide, by decide, by decide⟩) (by omega) (by decide) (by decide) fun d1 H2 d10 d11 p2 f2 => ⟨_, _, rfl, rfl, ?_⟩))
    rw [e9]
    rw [e6] at d11
    dsimp only [List.set]
    obtain ⟨sp, hsp⟩ : ∃ sp, sp = 10 ^ 9 + d1 := ⟨_, rfl⟩
    rw [← hsp]
    have sp0 : 1 ≤ sp ∧ sp ≤ 2 * 10 ^ 9 := by omega
    clear hsp
    refine st_letX (draw p2 rfl (v_rI (g := fun i j => .int (i ^ j.toNat)) val_c val_c ⟨by decide, by decide, by decide⟩) (by omega) (by decide) (by decide) fun fi H3 fi0 fi1 p3 f3 => ?_)
    rw [e12] at fi1
    dsimp only [List.set]
    refine st_letX ⟨_, rfl, l, cl, _, rfl, p3, by omega, fun st H4 st0 p4 f4 => ?_⟩
    dsimp only [List.set]
    refine st_letX (cb2 (v_rI (g := fun i j => .int (i ^ j.toNat)) val_c val_c ⟨by decide, by decide, by decide⟩) (op_v (val_var rfl) (draw p4 rfl (v_rI0 (g := fun i j => .int (i + j)) (v_rI (g := fun i j => .int (i * j)) val_c (val_var rfl) (Or.inl ⟨by decide, by decide⟩)) val_c) (by omega) (by omega) (by omega) fun d H5 d0 d2 p5 f5 => ⟨_, _, rfl, rfl, _, _, rfl, ?_⟩)))
    rw [e40]
    obtain ⟨en, hen⟩ : ∃ en, en = (if st + d < 10 ^ 40 then st + d else 10 ^ 40) := ⟨_, rfl⟩
    rw [← hen]
    have st0 : 0 ≤ st ∧ st ≤ 10 ^ 40 := st0
    have en0 : st ≤ en ∧ en ≤ 10 ^ 40 ∧ en ≤ st + 5 * sp := by rw [hen]; split <;> omega
    clear hen
    dsimp only [List.set]
    refine st_letX ⟨_, rfl, ?_⟩
    dsimp only [List.set]
    refine st_shareS (fun σ' H' => H' = H5 ∧ σ' = [some (.ref l), some (.ref x), some (.ref wa), v3, some (.int st), some (.int en), v6, v7, some (.int sp), some (.int fi), some (.int (oneOf sp fi st)), none]) ?_ fun N hN => ?_
    case refine_2 =>
      refine st_ifp (q := st > fi) (a_cmp (f := fun i j => decide (j < i)) (val_var rfl) (val_var rfl)) decide_eq_true_iff (fun z => ?_) fun z => ?_
      · refine ((v_rI0 (g := fun i j => .int (i + j)) (val_var rfl) (v_rI (g := fun i j => .int (i * j)) (v_rI (g := fun i j => .int (i / j)) (v_rI0 (g := fun i j => .int (i - j)) (v_rI0 (g := fun i j => .int (i + j)) (v_rI0 (g := fun i j => .int (i - j)) (val_var rfl) (val_var rfl)) (val_var rfl)) val_c) (val_var rfl) (wide_div (b := 50) (by omega) (by omega) (by decide) (by decide))) (val_var rfl) (Or.inr ⟨by omega, by omega⟩))) _ (hN _ _ ⟨rfl, ?_⟩))
        unfold oneOf
        rw [if_pos z]
        rfl
      · refine hN _ _ ⟨rfl, ?_⟩
        unfold oneOf
        rw [if_neg z]
    rintro σ' H' ⟨rfl, rfl⟩
    have ev : ∀ t, 0 ≤ t → (ext fi sp (fun t => inL [(fi, fi + 1)] t = true) t ↔ fi ≤ t ∧ (t - fi) % sp = 0) := fun t t0 => every_in sp0.1 t0
    have ono := oneOf_ok (p := sp) (f := fi) (s := st) sp0.1
    obtain ⟨one, hone⟩ : ∃ one, one = oneOf sp fi st := ⟨_, rfl⟩
    refine st_letX (lcR1V (i := 6) val_c (by omega) (by omega) ?_)
    rw [← hone]
    refine comp_keepG (fun i => decide (one + (i : Int) * sp < en)) (fun i => .int (one + (i : Int) * sp)) (n := (6 : Int).toNat) (by decide) (fun _ => rfl) (fun i H'' QT hi s q => ?_) (fun i H'' hi s => ?_) fun D6 H6 _ e6' s6 => ?_
    · exact (a_cmp (f := fun i j => decide (i < j)) (i := one + (i : Int) * sp) (v_rI0 (g := fun i j => .int (i + j)) (val_var rfl) (v_rI (g := fun i j => .int (i * j)) (i := (i : Int)) (by rw [Int.zero_add]; exact val_var rfl) (val_var rfl) (Or.inr ⟨by omega, by omega⟩))) (val_var rfl)) _ (q _ (Same.refl _))
    · exact v_rI0 (g := fun i j => .int (i + j)) (val_var rfl) (v_rI (g := fun i j => .int (i * j)) (i := (i : Int)) (by rw [Int.zero_add]; exact val_var rfl) (val_var rfl) (Or.inr ⟨by omega, by omega⟩))
    have e6' : H6 D6 = some (.lst ((dueOf sp one en).map V.int)) := by
      rw [e6']
      unfold dueOf
      rw [List.map_map]
      rfl
    have f6 := ((((((f1.trans f2).trans f3).trans f4).trans f5).trans (Fr.of s6)))
    dsimp only [List.set]
    have e12' : (10 : Int) ^ Int.toNat 12 = 10 ^ 12 := by decide
    refine st_letX ⟨rfl, _, rfl, _, rfl, sp, fi, rfl, fun z => absurd (show 1 ≤ sp ∧ sp ≤ 10 ^ 12 by omega) z, fun _ z => absurd (show 0 ≤ fi ∧ fi ≤ 10 ^ 12 by omega) z, fun _ _ y hd q S' H7 can pat s7 => ?_⟩
    dsimp only [List.set]
    have le := can.le (ext_ev (by omega)) fi0 (by omega)
    have ch := can.h0
    have cp := can.p1
    have c7 : PatC a H7 y hd q S' := ⟨pat, ch, by omega, cp, by omega, can.box⟩
    have lis := due_listed (g := mem S' hd q) (p := sp) (f := fi) (s := st) (e := en) (by omega) fi0 st0.1 en0.1 en0.2.2 fun t t0 => by
      rw [← ev t t0]
      exact canon_in can t0
    rw [← hone] at lis
    have dl : (dueOf sp one en).length ≤ 6 := by
      unfold dueOf
      rw [List.length_map]
      exact Nat.le_trans (List.length_filter_le _ _) (by rw [List.length_range]; omega)
    have lcn := listed_cnt st0.1 en0.1 lis
    refine st_ret0 (call_first (each_te c7 rfl (val_var rfl) (val_var rfl) st0 (by omega) (by omega) fun ms P H8 li eP s8 => ⟨_, rfl, P, D6, ms, rfl, SqL.of eP, SqL.of ?_, ?_, k H8 (((((p5.same s6).same s7).same s8)).mono (by omega)) ((f6.trans (Fr.of s7)).trans (Fr.of s8))⟩))
    · rw [listed_unique li lis]
      exact s8 _ _ (s7 _ _ e6')
    · rw [listed_unique li lis]
      omega
theorem G__law_refused (T : Tx K mg a) : FnOk P w K mg base CX0 10 a.f__law_refused a.d__law_refused ["pool", "told"] (spRefused a) := by
  refine T.F__law_refused.ok sc__law_refused (fun vs H Q E h => ?_) (fun cdv A outer s H vs Q E hr h => ?_)
  · obtain ⟨l, cl, n, x, w, bl, hd, bits, b, rfl, _⟩ := h
    rfl
  · obtain ⟨l, cl, n, x, wa, bl, hd, bits, b, rfl, hp, hn, t, n1, n2, k⟩ := h
    refine ⟨_, (pss_cons (ps_set (i := 2) sc__law_refused.nd rfl (Or.inl rfl) (pe_op op_mul (pe_call (G__law_draw T) (hr.mono (by decide)) rfl T.g__law_draw T.F__law_draw.kp T.b__law_draw .nil pass0 (pa_cons (pv 0) (pa_cons pe_int pa_nil))) (pe_call (G__law_draw T) (hr.mono (by decide)) rfl T.g__law_draw T.F__law_draw.kp T.b__law_draw .nil pass0 (pa_cons (pv 0) (pa_cons (pe_op op_pow pe_int pe_int) pa_nil)))))
      (pss_cons (ps_set (i := 3) sc__law_refused.nd rfl (Or.inl rfl) (pe_call (G__law_draw T) (hr.mono (by decide)) rfl T.g__law_draw T.F__law_draw.kp T.b__law_draw .nil pass0 (pa_cons (pv 0) (pa_cons pe_int pa_nil))))
      (pss_cons (ps_for PassesOwn.never rfl (pi_list (pe_lst (pa_cons (pe_op op_sub (pe_un un_neg pe_int) (pv 2)) (pa_cons (pe_op op_add (pe_op op_add (pe_op op_pow pe_int pe_int) pe_int) (pv 2)) pa_nil)))) (pg_name (i := 4) sc__law_refused.nd rfl (Or.inl rfl)) (pss_cons (ps_for PassesOwn.never rfl (pi_range1 rfl T.n_range (pa_cons pe_int pa_nil)) (pg_name (i := 5) sc__law_refused.nd rfl (Or.inl rfl)) (pss_cons (ps_set (i := 6) sc__law_refused.nd rfl (Or.inl rfl) (pe_tup (pa_cons pe_str (pa_cons (pe_ix ix_list (pe_lst (pa_cons pe_str (pa_cons pe_str (pa_cons pe_str (pa_cons pe_str (pa_cons pe_str pa_nil)))))) (pv 5) (fun _ _ => rfl)) (pa_cons (pv 4) (pa_cons pe_bl pa_nil))))))
      (pss_cons (ps_if (pt_cmpR (op_neD hr.units) (pe_call (G__law_asked T) (hr.mono (by decide)) rfl T.g__law_asked T.F__law_asked.kp T.b__law_asked .nil pass0 (pa_cons (pv 5) (pa_cons (pv 1) (pa_cons (pv 4) (pa_cons (pv 3) pa_nil))))) (pv 6) (nomark _)) (pss_one (ps_ret pe_bl)) pss_nil)
      (pss_one (ps_if (pt_cmpR (op_neD hr.units) (pe_call (G__law_asked T) (hr.mono (by decide)) rfl T.g__law_asked T.F__law_asked.kp T.b__law_asked .nil pass0 (pa_cons (pv 5) (pa_cons (pv 1) (pa_cons (pv 4) (pa_cons (pv 4) pa_nil))))) (pv 6) (nomark _)) (pss_one (ps_ret pe_bl)) pss_nil)))))
      (pss_one (ps_for PassesOwn.never rfl (pi_list (pe_lst (pa_cons pe_int (pa_cons pe_int pa_nil)))) (pg_name (i := 5) sc__law_refused.nd rfl (Or.inl rfl)) (pss_one (ps_if (pt_cmpR (op_neD hr.units) (pe_call (G__law_asked T) (hr.mono (by decide)) rfl T.g__law_asked T.F__law_asked.kp T.b__law_asked .nil pass0 (pa_cons (pv 5) (pa_cons (pv 1) (pa_cons (pv 3) (pa_cons (pv 4) pa_nil))))) (pe_tup (pa_cons pe_str (pa_cons pe_str (pa_cons (pv 4) (pa_cons pe_bl pa_nil))))) (nomark _)) (pss_one (ps_ret pe_bl)) pss_nil))))))
      (pss_one (ps_ret pe_bl))))), ?_⟩
    have big : 1000000 ≤ sizeLine := by decide
    have e40 : (10 : Int) ^ Int.toNat 40 = 10 ^ 40 := by decide
    refine st_letX (draw hp rfl val_c (by omega) (by decide) (by decide) fun m1 H1 c0 c1 p1 f1 => draw p1 rfl (v_rI (g := fun i j => .int (i ^ j.toNat)) val_c val_c ⟨by decide, by decide, by decide⟩) (by omega) (by decide) (by decide) fun m2 H2 d0 d1 p2 f2 => ⟨_, _, rfl, rfl, Or.inl ⟨by omega, by omega⟩, ?_⟩)
    have dd : 0 ≤ m1 * m2 := Int.mul_nonneg c0 d0
    dsimp only [List.set]
    generalize m1 * m2 = d at dd ⊢
    refine st_letX (draw p2 rfl val_c (by omega) (by decide) (by decide) fun on H3 on0 on1 p3 f3 => ?_)
    have f03 := (f1.trans f2).trans f3
    obtain ⟨hh, p, S, c, _⟩ := t.pat
    have c3 := c.fr f03 hp
    clear t c f1 f2 f3 p1 p2
    refine st_seq (forL_of (lst2 (v_rI0 (g := fun i j => .int (i - j)) (v_un (g := fun i => V.int (-i)) val_c) (val_var rfl)) (v_rI0 (g := fun i j => .int (i + j)) (v_rI0 (g := fun i j => .int (i + j)) (v_rI (g := fun i j => .int (i ^ j.toNat)) val_c val_c ⟨by decide, by decide, by decide⟩) val_c) (val_var rfl)) fun L hL => ?_))
    have s4 := Same.new (o := .lst [V.int (-1 - d), V.int (10 ^ Int.toNat 40 + 1 + d)]) hL
    have eL : upd H3 L (.lst [V.int (-1 - d), V.int (10 ^ Int.toNat 40 + 1 + d)]) L = some (.lst [V.int (-1 - d), V.int (10 ^ Int.toNat 40 + 1 + d)]) := upd_same
    dsimp only at s4 eL ⊢
    generalize upd H3 L (.lst [V.int (-1 - d), V.int (10 ^ Int.toNat 40 + 1 + d)]) = H4 at s4 eL ⊢
    have c4 := c3.same s4
    refine st_forL (a := L) (fun R q => q) (fun i σ' H' => ∃ (v4 v5 v6 : Option V), σ' = [some (.ref l), some (.ref x), some (.int d), some (.int on), v4, v5, v6] ∧ Same H4 H') ⟨_, _, _, rfl, Same.refl _⟩ (fun i σ' H' _ ⟨_, _, _, _, s⟩ => SqL.of (s _ _ eL)) ?_ ?_
    · rintro i x' σ' H5 hx ⟨v4, v5, v6, rfl, s5⟩
      obtain ⟨y, rfl, bad⟩ : ∃ y : Int, x' = .int y ∧ ¬ (0 ≤ y ∧ y ≤ 10 ^ 40) := by
        match i, hx with
        | 0, hx => exact ⟨-1 - d, by simpa using hx.symm, by omega⟩
        | 1, hx => exact ⟨10 ^ Int.toNat 40 + 1 + d, by simpa using hx.symm, by rw [e40]; omega⟩
        | i + 2, hx => simp at hx
      refine g_name ?_
      dsimp only [List.set]
      have c5 := c4.same s5
      refine st_seq (st_forR1 (n := 5) val_c rfl (by omega) (fun j σ' H' => ∃ (v5 v6 : Option V), σ' = [some (.ref l), some (.ref x), some (.int d), some (.int on), some (.int y), v5, v6] ∧ Same H5 H') ⟨_, _, rfl, Same.refl _⟩ ?_ ?_)
      · rintro j σ' H6 hj ⟨v5, v6, rfl, s6⟩
        refine g_name ?_
        dsimp only [List.set]
        have hn : atI [V.str "start", V.str "index", V.str "minute", V.str "minute", V.str "start"] (j : Int) = some (.str (nmK j)) := by
          rcases (show j = 0 ∨ j = 1 ∨ j = 2 ∨ j = 3 ∨ j = 4 by omega) with rfl | rfl | rfl | rfl | rfl <;> rfl
        have ask : ∀ z : Int, AskL (j : Int) y z (nmK j) y := fun z => by
          rcases (show j = 0 ∨ j = 1 ∨ j = 2 ∨ j = 3 ∨ j = 4 by omega) with rfl | rfl | rfl | rfl | rfl
          · exact .numS bad
          · exact .idx bad
          · exact .fst bad
          · exact .lst bad
          · exact .genS bad
        have sh : SeqAt.shaped (rngD (nmK j) y) = true := by
          rcases (show j = 0 ∨ j = 1 ∨ j = 2 ∨ j = 3 ∨ j = 4 by omega) with rfl | rfl | rfl | rfl | rfl
          · exact sh_rng.1 y
          · exact sh_rng.2.1 y
          · exact sh_rng.2.2.1 y
          · exact sh_rng.2.2.1 y
          · exact sh_rng.1 y
        generalize nmK j = nm at hn ask sh
        refine st_letX ⟨by show 5 ≤ sizeLine; decide, fun q hq => ?_⟩
        have s7 := Same.new (o := .lst [V.str "start", V.str "index", V.str "minute", V.str "minute", V.str "start"]) hq
        refine ⟨_, rfl, q, _, j, _, rfl, rfl, SqL.of upd_same, hn, _, rfl, by show 4 ≤ sizeLine; decide, fun u hu => ?_⟩
        have s8 := Same.new (o := .tup [.str "range", .str nm, .int y, .bl true]) hu
        have eu : upd (upd H6 q (.lst [V.str "start", V.str "index", V.str "minute", V.str "minute", V.str "start"])) u (.tup [.str "range", .str nm, .int y, .bl true]) u = some (.tup [.str "range", .str nm, .int y, .bl true]) := upd_same
        dsimp only [List.set] at s7 s8 eu ⊢
        generalize upd (upd H6 q (.lst [V.str "start", V.str "index", V.str "minute", V.str "minute", V.str "start"])) u (.tup [.str "range", .str nm, .int y, .bl true]) = H7 at s8 eu ⊢
        have s67 := s7.trans s8
        have c7 := (c5.same s6).same s67
        refine st_seq (st_ifX (t_op' ⟨_, rfl, _, rfl, _, rfl, _, rfl, x, hh, p, S, j, y, on, nm, y, rfl, c7, ask on, fun t H8 et s8 => ⟨_, rfl, rngD nm y, rngD nm y, rngD_dp et, rngD_dp (s8 _ _ eu), sh, sh, _, rfl, ?_⟩⟩))
        rw [rngD_eqv]
        refine iteF ?_
        dsimp only [tNext]
        refine (st_ifX (t_op' ⟨_, rfl, _, rfl, _, rfl, _, rfl, x, hh, p, S, j, y, y, nm, y, rfl, c7.same s8, ask y, fun t H9 et s9 => ⟨_, rfl, rngD nm y, rngD nm y, rngD_dp et, rngD_dp (s9 _ _ (s8 _ _ eu)), sh, sh, _, rfl, ?_⟩⟩))
        rw [rngD_eqv]
        exact iteF ⟨_, _, rfl, ((s6.trans s67).trans s8).trans s9⟩
      rintro σ' H6 ⟨v5, v6, rfl, s6⟩
      have c6 := c5.same s6
      dsimp only
      refine forL_of (lst2 val_c val_c fun M hM => ?_)
      have s7 := Same.new (o := .lst [V.int 0, V.int 4]) hM
      have eM : upd H6 M (.lst [V.int 0, V.int 4]) M = some (.lst [V.int 0, V.int 4]) := upd_same
      generalize upd H6 M (.lst [V.int 0, V.int 4]) = H7 at s7 eM ⊢
      refine st_forL (a := M) (fun R q => q) (fun i σ' H' => ∃ (v5 : Option V), σ' = [some (.ref l), some (.ref x), some (.int d), some (.int on), some (.int y), v5, v6] ∧ Same H7 H') ⟨_, rfl, Same.refl _⟩ (fun i σ' H' _ ⟨_, _, s⟩ => SqL.of (s _ _ eM)) ?_ ?_
      · rintro i x' σ' H8 hx ⟨v5, rfl, s8⟩
        obtain ⟨z, rfl, ask⟩ : ∃ z : Int, x' = .int z ∧ AskL z on y "end" y := by
          match i, hx with
          | 0, hx => exact ⟨0, by simpa using hx.symm, .numE (by omega) bad⟩
          | 1, hx => exact ⟨4, by simpa using hx.symm, .genE (by omega) bad⟩
          | i + 2, hx => simp at hx
        refine g_name ?_
        dsimp only [List.set]
        refine st_ifX (t_op' ⟨_, rfl, _, rfl, _, rfl, _, rfl, x, hh, p, S, z, on, y, "end", y, rfl, (c6.same s7).same s8, ask, fun t H9 et s9 => ⟨_, rfl, by show 4 ≤ sizeLine; decide, fun u hu => ?_⟩⟩)
        have s10 := Same.new (o := .tup [.str "range", .str "end", .int y, .bl true]) hu
        refine ⟨rngD "end" y, rngD "end" y, rngD_dp (s10 _ _ et), rngD_dp upd_same, sh_rng.2.2.2 y, sh_rng.2.2.2 y, _, rfl, ?_⟩
        rw [rngD_eqv]
        exact iteF ⟨_, rfl, (s8.trans s9).trans s10⟩
      · rintro σ' H8 ⟨v5, rfl, s8⟩
        exact ⟨_, _, _, rfl, ((s5.trans s6).trans s7).trans s8⟩
    · rintro σ' H5 ⟨v4, v5, v6, rfl, s5⟩
      exact k H5 (((p3.same s4).same s5).mono (by omega)) ((f03.trans (Fr.of s4)).trans (Fr.of s5))
end
end My

namespace My
open PySem L2
def spLarge : Sp := fun vs H Q _ => ∃ (l cl : Addr) (n : Nat), vs = [.ref l] ∧ PoolAt H l cl n ∧ n < 2 ^ 37 ∧ ∀ H', PoolAt H' l cl (n + 50) → Fr l cl H H' → Q (.bl true) H'
/-- x = e, the rest hidden in R (so that a promise's reader is found) -/
theorem st_letR {te : TE} {i : Nat} {t3 : TS} {D : Ends} {σ : St} {H : Hp} (h : ∀ R : VK, (∀ v H1, R v H1 = t3 D (σ.set i (some v)) H1) → te σ H R) : tSeq (tAsg te (gName i)) t3 D σ H := h _ fun _ _ => rfl
theorem again_list : (List.range 35).filter (fun (i : Nat) => decide ((i : Int) % 7 < 1 + (i : Int) / 7)) = againL := by decide +kernel
def keepLt (left : Int) : V → Bool
  | .int z => decide (z < left)
  | _ => false
theorem keepLt_len (left : Int) : ∀ L : List Nat, (((L.map fun (t : Nat) => V.int (t : Int)).filter (keepLt left)).map id).length = (L.filter fun (t : Nat) => decide ((t : Int) < left)).length := fun L => by
  rw [List.length_map, List.filter_map, List.length_map]
  rfl
section
variable {P : Program} {w : World} {K : PySem.W.Frag} {mg : Str → Option Value} {base : Heap} {a : Ad}
theorem G__law_large (T : Tx K mg a) : FnOk P w K mg base CX0 8 a.f__law_large a.d__law_large ["pool"] (spLarge) := by
  refine T.F__law_large.ok sc__law_large (fun vs H Q E h => ?_) (fun cdv A outer s H vs Q E hr h => ?_)
  · obtain ⟨l, cl, n, rfl, _⟩ := h
    rfl
  · obtain ⟨l, cl, n, rfl, hp, hn, k⟩ := h
    refine ⟨_, (pss_cons (ps_set (i := 1) sc__law_large.nd rfl (Or.inl rfl) (pe_make T.M_Pattern (G_Pattern_init T) (hr.mono (by decide)) rfl T.g_Pattern T.b_Pattern_init .nil passL (pa_cons pe_int (pa_cons pe_int (pa_cons (pe_lc (own := [("k", 2)]) (g := gName 2) (tt := tYes) rfl sc__law_large.nd (pi_range1 rfl T.n_range (pa_cons pe_int pa_nil)) (blkOk_by (own := [("k", 2)]) (N := ["pool", "told", "k", "again", "t", "minute", "count", "left", "place", "due"]) (sc := defScope s__law_large) (by decide +kernel)) (fun _ _ _ _ _ => (pg_name (i := 2) sc__law_large.nd rfl (Or.inl rfl))) (fun _ _ _ _ _ => pts_nil) (fun _ _ _ _ _ => (pe_tup (pa_cons (pe_op op_mul pe_int (pv 2)) (pa_cons (pe_op op_add (pe_op op_add (pe_op op_mul pe_int (pv 2)) pe_int) (pe_op op_mod (pv 2) pe_int)) pa_nil))))) pa_nil)))))
      (pss_cons (ps_setLc (i := 3) (own := [("t", 4)]) (g := gName 4) (tt := _) rfl sc__law_large.nd rfl rfl (sw_true rfl rfl rfl (by decide +kernel)) (pi_range1 rfl T.n_range (pa_cons pe_int pa_nil)) (blkOk_by (own := [("t", 4)]) (N := ["pool", "told", "k", "again", "t", "minute", "count", "left", "place", "due"]) (sc := defScope s__law_large) (by decide +kernel)) (fun _ _ _ _ _ => (pg_name (i := 4) sc__law_large.nd rfl (Or.inl rfl))) (fun _ _ _ _ _ => (pts_one (pt_cmpR op_lt (pe_op op_mod (pv 4) pe_int) (pe_op op_add pe_int (pe_op op_fdivW (pv 4) pe_int)) (nomark _)))) (fun _ _ _ _ _ => (pv 4)))
      (pss_cons (ps_for PassesOwn.never rfl (pi_range1 rfl T.n_range (pa_cons pe_int pa_nil)) (pg_name (i := 2) sc__law_large.nd rfl (Or.inl rfl)) (pss_cons (ps_set (i := 5) sc__law_large.nd rfl (Or.inl rfl) (pe_call (G__law_draw T) (hr.mono (by decide)) rfl T.g__law_draw T.F__law_draw.kp T.b__law_draw .nil pass0 (pa_cons (pv 0) (pa_cons pe_int pa_nil))))
      (pss_cons (ps_set (i := 6) sc__law_large.nd rfl (Or.inl rfl) pe_int)
      (pss_cons (ps_if (pt_cmpR op_lt (pv 5) pe_int (nomark _)) (pss_cons (ps_set (i := 7) sc__law_large.nd rfl (Or.inr rfl) (pe_op op_mod (pe_callTy call_int1 (by rfl) T.n_int (by decide +kernel) (pa_cons (pv 5) pa_nil)) pe_int))
      (pss_one (ps_set (i := 6) sc__law_large.nd rfl (Or.inl rfl) (pe_op op_add (pe_op op_mul (pe_op op_fdivW (pv 5) pe_int) pe_int) (pe_callB call_len_seq (by rfl) T.n_len (by decide +kernel) (pa_cons (pe_lc (own := [("t", 4)]) (g := gName 4) (tt := _) rfl sc__law_large.nd (pi_list (pv 3)) (blkOk_by (own := [("t", 4)]) (N := ["pool", "told", "k", "again", "t", "minute", "count", "left", "place", "due"]) (sc := defScope s__law_large) (by decide +kernel)) (fun _ _ _ _ _ => (pg_name (i := 4) sc__law_large.nd rfl (Or.inl rfl))) (fun _ _ _ _ _ => (pts_one (pt_cmpR op_lt (pv 4) (pv 7) (nomark _)))) (fun _ _ _ _ _ => (pv 4))) pa_nil)))))) pss_nil)
      (pss_cons (ps_if (pt_not (pt_val (pe_call (G__law_same T) (hr.mono (by decide)) rfl T.g__law_same T.F__law_same.kp T.b__law_same .nil pass0 (pa_cons (pe_meth (pv 1) T.cl_Pattern T.m_Pattern_number_in (G_Pattern_number_in T) (hr.mono (by decide)) T.b_Pattern_number_in .nil passL (pa_cons pe_int (pa_cons (pv 5) pa_nil))) (pa_cons (pv 6) pa_nil))))) (pss_one (ps_ret pe_bl)) pss_nil)
      (pss_cons (ps_if (pt_not (pt_val (pe_call (G__law_same T) (hr.mono (by decide)) rfl T.g__law_same T.F__law_same.kp T.b__law_same .nil pass0 (pa_cons (pe_meth (pv 1) T.cl_Pattern T.m_Pattern_number_in (G_Pattern_number_in T) (hr.mono (by decide)) T.b_Pattern_number_in .nil passL (pa_cons (pv 5) (pa_cons (pe_op op_pow pe_int pe_int) pa_nil))) (pa_cons (pe_op op_sub pe_int (pv 6)) pa_nil))))) (pss_one (ps_ret pe_bl)) pss_nil)
      (pss_one (ps_for PassesOwn.never rfl (pi_list (pe_lst (pa_cons (pe_call (G__law_draw T) (hr.mono (by decide)) rfl T.g__law_draw T.F__law_draw.kp T.b__law_draw .nil pass0 (pa_cons (pv 0) (pa_cons pe_int pa_nil))) (pa_cons (pv 6) (pa_cons (pe_callB (call_max2 rfl) (by rfl) T.n_max (by decide +kernel) (pa_cons pe_int (pa_cons (pe_op op_sub (pv 6) pe_int) pa_nil))) pa_nil))))) (pg_name (i := 8) sc__law_large.nd rfl (Or.inl rfl)) (pss_cons (ps_set (i := 9) sc__law_large.nd rfl (Or.inl rfl) pe_non)
      (pss_cons (ps_if (pt_cmpR op_lt (pv 8) pe_int (nomark _)) (pss_one (ps_set (i := 9) sc__law_large.nd rfl (Or.inl rfl) (pe_op op_add (pe_op op_mul (pe_op op_fdivW (pv 8) pe_int) pe_int) (pe_ix ix_list (pv 3) (pe_op op_mod (pe_callTy call_int1 (by rfl) T.n_int (by decide +kernel) (pa_cons (pv 8) pa_nil)) pe_int) (fun _ _ => rfl))))) pss_nil)
      (pss_one (ps_if (pt_not (pt_val (pe_call (G__law_same T) (hr.mono (by decide)) rfl T.g__law_same T.F__law_same.kp T.b__law_same .nil pass0 (pa_cons (pe_meth (pv 1) T.cl_Pattern T.m_Pattern_minute_at (G_Pattern_minute_at T) (hr.mono (by decide)) T.b_Pattern_minute_at .nil passL (pa_cons (pv 8) pa_nil)) (pa_cons (pv 9) pa_nil))))) (pss_one (ps_ret pe_bl)) pss_nil))))))))))))
      (pss_cons (ps_if (PW.pt (pw_or (pt_not (pt_val (pe_call (G__law_pair T) (hr.mono (by decide)) rfl T.g__law_pair T.F__law_pair.kp T.b__law_pair .nil pass0 (pa_cons (pe_call (G_shortest_gap T) (hr.mono (by decide)) rfl T.g_shortest_gap T.F_shortest_gap.kp T.b_shortest_gap .nil pass0 (pa_cons (pv 1) pa_nil)) (pa_cons (pe_tup (pa_cons pe_int (pa_cons pe_int pa_nil))) pa_nil))))) (pw_or1 (pt_not (pt_val (pe_call (G__law_pair T) (hr.mono (by decide)) rfl T.g__law_pair T.F__law_pair.kp T.b__law_pair .nil pass0 (pa_cons (pe_call (G_longest_gap T) (hr.mono (by decide)) rfl T.g_longest_gap T.F_longest_gap.kp T.b_longest_gap .nil pass0 (pa_cons (pv 1) pa_nil)) (pa_cons (pe_tup (pa_cons pe_int (pa_cons pe_int pa_nil))) pa_nil)))))))) (pss_one (ps_ret pe_bl)) pss_nil)
      (pss_one (ps_ret (pe_call (G__law_same T) (hr.mono (by decide)) rfl T.g__law_same T.F__law_same.kp T.b__law_same .nil pass0 (pa_cons (pe_meth (pv 1) T.cl_Pattern T.m_Pattern_last_before (G_Pattern_last_before T) (hr.mono (by decide)) T.b_Pattern_last_before .nil passL (pa_cons (pe_op op_pow pe_int pe_int) pa_nil)) (pa_cons pe_int pa_nil))))))))), ?_⟩
    have big : 1000000 ≤ sizeLine := by decide
    have e40 : (10 : Int) ^ Int.toNat 40 = 10 ^ 40 := by decide
    have v40 : ∀ {σ : St} {H : Hp}, Val (tOp (rI CPow fun i j => V.int (i ^ j.toNat)) (tC (.int 10)) (tC (.int 40))) σ H (.int (10 ^ 40)) := fun {σ H} => by
      rw [← e40]
      exact v_rI (g := fun i j => .int (i ^ j.toNat)) val_c val_c ⟨by decide, by decide, by decide⟩
    obtain ⟨N, hN⟩ : ∃ N : Nat, N = 5000 := ⟨_, rfl⟩
    refine st_letR fun R hR => (mk3 val_c val_c (lcR1V (i := (N : Int)) (by rw [hN]; exact val_c) (by omega) (by omega) (comp_pairs (n := ((N : Nat) : Int).toNat) pairL (by omega) (fun _ => rfl) (fun i H' hi s => v_rI (g := fun i j => .int (i * j)) val_c (val_var rfl) (Or.inl ⟨by decide, by decide⟩)) (fun i H' hi s => v_rI0 (g := fun i j => .int (i + j)) (v_rI0 (g := fun i j => .int (i + j)) (v_rI (g := fun i j => .int (i * j)) val_c (val_var rfl) (Or.inl ⟨by decide, by decide⟩)) val_c) (v_rI (g := fun i j => .int (i % j)) (val_var rfl) val_c (by decide))) fun D bs H1 _ eD rwD s1 => ?_)))
    rw [Int.toNat_natCast] at rwD
    have rwD : Rw H1 bs (pairsL N) := rwD
    refine newPat (h := 35000) (p := 1) (Or.inl (SqL.of eD)) rwD.toA (by omega) (by omega) (by rw [pairsL_len]; omega) (fun z hz => by have := pairsL_ok z hz; omega) fun x hd q S H2 can pat s2 => ?_
    rw [hR]
    clear hR
    have le := can.le (ext_ev (by omega)) (by omega) (by omega)
    have ch := can.h0
    have cp := can.p1
    have c : PatC a H2 x hd q S := ⟨pat, ch, by omega, cp, by omega, can.box⟩
    have eq : ∀ t, 0 ≤ t → mem S hd q t = fL t := fun t t0 => bool_ext ((canon_in can t0).trans (large_ext hN t0))
    have ec : ∀ m, 0 ≤ m → cnt (mem S hd q) m = countL m := fun m m0 => by rw [cnt_congr eq, cnt_fL m0]
    have un : ∀ {i : Int} (r r' : Option Int), IsNth fL i r → IsNth fL i r' → r = r' := fun r r' a b => a.unique b
    have s12 := s1.trans s2
    have p2 := hp.same s12
    have f2 : Fr l cl H H2 := Fr.of s12
    clear hN eD rwD s1 s2 can pat le ch cp s12 hp
    dsimp only [List.set]
    refine st_letX (lcR1V (i := 35) val_c (by omega) (by omega) ?_)
    refine comp_keepG (fun (i : Nat) => decide ((i : Int) % 7 < 1 + (i : Int) / 7)) (fun (i : Nat) => .int (i : Int)) (n := (35 : Int).toNat) (by decide) (fun _ => rfl) (fun i H'' QT hi s q => ?_) (fun i H'' hi s => by rw [Int.zero_add]; exact val_var rfl) fun D3 H3 _ e3 s3 => ?_
    · exact (a_cmp (f := fun i j => decide (i < j)) (v_rI (g := fun i j => .int (i % j)) (i := (i : Int)) (by rw [Int.zero_add]; exact val_var rfl) val_c (by decide)) (v_rI0 (g := fun i j => .int (i + j)) val_c (v_rI (g := fun i j => .int (i / j)) (i := (i : Int)) (by rw [Int.zero_add]; exact val_var rfl) val_c (wide_div (b := 40) (by omega) (by omega) (by decide) (by decide))))) _ (q _ (Same.refl _))
    have e3 : H3 D3 = some (.lst (againL.map fun (t : Nat) => V.int (t : Int))) := by
      rw [e3, show (35 : Int).toNat = 35 from rfl, again_list]
    have c3 := c.same s3
    obtain ⟨nD1, nD2⟩ : D3 ≠ l ∧ D3 ≠ cl := p2.off (by assumption)
    have p3 := p2.same s3
    have f3 := f2.trans (Fr.of s3)
    clear c p2 f2 s3
    refine st_seq (st_forR1 (n := 20) val_c rfl (by omega) (fun i σ' H' => ∃ (v2 v5 v6 v7 v8 v9 : Option V), σ' = [some (.ref l), some (.ref x), v2, some (.ref D3), none, v5, v6, v7, v8, v9] ∧ PoolAt H' l cl (n + 2 * i) ∧ Fr l cl H3 H')
      ⟨_, _, _, _, _, _, rfl, p3, Fr.refl _ _ _⟩ ?_ ?_)
    · rintro i σ' H4 hi ⟨v2, v5, v6, v7, v8, v9, rfl, p4, f4⟩
      refine g_name ?_
      refine st_letX (draw p4 rfl val_c (by omega) (by decide) (by decide) fun m H5 m0 m1 p5 f5 => ?_)
      dsimp only [List.set]
      have f35 := f4.trans f5
      have e5 := f35 _ _ e3 nD1 nD2
      refine st_let val_c ?_
      dsimp only [List.set]
      refine st_shareS (fun σ' H' => ∃ (v7 : Option V), σ' = [some (.ref l), some (.ref x), some (.int i), some (.ref D3), none, some (.int m), some (.int (countL m)), v7, v8, v9] ∧ Same H5 H') ?_ fun Nn hN => ?_
      case refine_2 =>
        refine st_ifp (q := m < 35000) (a_cmp (f := fun i j => decide (i < j)) (val_var rfl) val_c) decide_eq_true_iff (fun z => ?_) fun z => ?_
        · refine st_let (v_rI (g := fun i j => .int (i % j)) (v_cb (val_var rfl) fun Q q => Or.inl ⟨_, rfl, q⟩) val_c (by decide)) ?_
          dsimp only [List.set]
          refine op_v (v_rI (g := fun i j => .int (i * j)) (v_rI (g := fun i j => .int (i / j)) (val_var rfl) val_c (wide_div (b := 40) (by omega) (by omega) (by decide) (by decide))) val_c (Or.inr ⟨by decide, by decide⟩)) (v_cb1 (comp_L (keepLt (m % 35)) id (fun R q => ⟨_, rfl, q⟩) (SqL.of e5) (by decide) (fun _ => rfl) (fun j y H' hy s => ?_) (fun j y H' hy _ s => val_var rfl) fun D6 H6 _ e6 s6 => ⟨D6, _, rfl, Or.inl (SqL.of e6), _, _, rfl, rfl, hN _ _ ⟨some (.int (m % 35)), ?_, s6⟩⟩))
          · obtain ⟨t, _, rfl⟩ := List.mem_map.mp (List.mem_of_getElem? hy)
            exact a_cmp (f := fun i j => decide (i < j)) (val_var rfl) (val_var rfl)
          · rw [keepLt_len]
            unfold countL
            rw [if_pos z]
            rfl
        · refine hN _ _ ⟨v7, ?_, Same.refl _⟩
          unfold countL
          rw [if_neg z]
      rintro σ' H6 ⟨v7, rfl, s6⟩
      have e6 := s6 _ _ e5
      have p6 := p5.same s6
      have c6 := (c3.fr f35 p3).same s6
      have f36 := f35.trans (Fr.of s6)
      clear p5 f5 f4 p4 f35 e5 s6
      have cl0 : 0 ≤ countL m ∧ countL m ≤ 15000 := by
        have a := cnt_bounds fL m0
        have b := cnt_mono (f := fL) (show m ≤ max m 35000 by omega)
        rw [cnt_fL m0, cnt_fL (by omega)] at b
        rw [cnt_fL m0] at a
        have c : countL (max m 35000) = 15000 := by unfold countL; rw [if_neg (by omega)]
        omega
      obtain ⟨dx, st, u, hx⟩ := c6.hx
      refine guard_sure (same_sure (fun r => r = some (countL m)) (fun r r' a b => a.trans b.symm) (fun R qq => ⟨_, rfl, x, dx, _, rfl, hx, by kernel_rfl, _, rfl, x, hd, q, S, 0, m, rfl, c6, fun z => absurd (show 0 ≤ (0 : Int) ∧ (0 : Int) ≤ 10 ^ 40 by omega) z, fun _ z => absurd (show 0 ≤ m ∧ m ≤ 10 ^ 40 by omega) z, fun _ _ H' s' => ?_⟩) fun H2 s2 R q => ⟨_, rfl, q (some _) H2 rfl (Same.refl _)⟩) fun H7 s7 => ?_
      · have e0 : (if 0 < m then cnt (mem S hd q) m - cnt (mem S hd q) 0 else 0) = countL m := by
          rw [ec m m0]
          have z0 : cnt (mem S hd q) 0 = 0 := rfl
          by_cases d : 0 < m
          · rw [if_pos d, z0, Int.sub_zero]
          · rw [if_neg d, show m = 0 by omega]
            rfl
        rw [e0]
        exact qq (some (countL m)) H' rfl s'
      have c7 := c6.same s7
      have hx7 := s7 _ _ hx
      refine guard_sure (same_sure (fun r => r = some (15000 - countL m)) (fun r r' a b => a.trans b.symm) (fun R qq => ⟨_, rfl, x, dx, _, rfl, hx7, by kernel_rfl, _, rfl, v40 _ ⟨x, hd, q, S, m, 10 ^ 40, rfl, c7, fun z => absurd (show 0 ≤ m ∧ m ≤ 10 ^ 40 by omega) z, fun _ z => absurd (show 0 ≤ (10 : Int) ^ 40 ∧ (10 : Int) ^ 40 ≤ 10 ^ 40 by omega) z, fun _ _ H' s' => ?_⟩⟩) fun H2 s2 R q => (v_rI0 (g := fun i j => .int (i - j)) val_c (val_var rfl)) _ (q (some _) H2 rfl (Same.refl _))) fun H8 s8 => ?_
      · have e0 : (if m < 10 ^ 40 then cnt (mem S hd q) (10 ^ 40) - cnt (mem S hd q) m else 0) = 15000 - countL m := by
          rw [ec m m0, ec (10 ^ 40) (by omega), if_pos (by omega)]
          congr 1
        rw [e0]
        exact qq (some (15000 - countL m)) H' rfl s'
      have c8 := c7.same s8
      have s68 := s7.trans s8
      have e8 := s68 _ _ e6
      have p8 := p6.same s68
      have f38 := f36.trans (Fr.of s68)
      clear c6 hx c7 hx7 s7 s8 s68 e6 p6 f36
      refine forL_of (draw p8 rfl val_c (by omega) (by decide) (by decide) fun d H9 d0 d1 p9 f9 => ⟨_, rfl, _, rfl, _, _, rfl, rfl, _, _, rfl, by show 3 ≤ sizeLine; decide, fun pl hpl => ?_⟩)
      have s10 := Same.new (o := .lst [V.int d, V.int (countL m), V.int (if countL m - 1 > 0 then countL m - 1 else 0)]) hpl
      have epl : upd H9 pl (.lst [V.int d, V.int (countL m), V.int (if countL m - 1 > 0 then countL m - 1 else 0)]) pl = some (.lst [V.int d, V.int (countL m), V.int (if countL m - 1 > 0 then countL m - 1 else 0)]) := upd_same
      dsimp only at s10 epl ⊢
      generalize upd H9 pl (.lst [V.int d, V.int (countL m), V.int (if countL m - 1 > 0 then countL m - 1 else 0)]) = H10 at s10 epl ⊢
      have e10 := s10 _ _ (f9 _ _ e8 nD1 nD2)
      have c10 := (c8.fr f9 p8).same s10
      refine st_forL (a := pl) (fun R q => q) (fun j σ' H' => ∃ (v8 v9 : Option V), σ' = [some (.ref l), some (.ref x), some (.int i), some (.ref D3), none, some (.int m), some (.int (countL m)), v7, v8, v9] ∧ Same H10 H') ⟨_, _, rfl, Same.refl _⟩ (fun i σ' H' _ ⟨_, _, _, s⟩ => SqL.of (s _ _ epl)) ?_ ?_
      · rintro j y σ' H11 hy ⟨v8, v9, rfl, s11⟩
        obtain ⟨pc, rfl, pc0⟩ : ∃ z : Int, y = .int z ∧ 0 ≤ z ∧ z ≤ 10 ^ 40 := by
          match j, hy with
          | 0, hy => exact ⟨d, by simpa using hy.symm, by omega, by omega⟩
          | 1, hy => exact ⟨countL m, by simpa using hy.symm, by omega, by omega⟩
          | 2, hy => exact ⟨if countL m - 1 > 0 then countL m - 1 else 0, by simpa using hy.symm, by split <;> omega, by split <;> omega⟩
          | j + 3, hy => simp at hy
        refine g_name ?_
        dsimp only [List.set]
        have e11 := s11 _ _ e10
        have c11 := c10.same s11
        obtain ⟨dx, st, u, hx⟩ := c11.hx
        refine st_let val_c ?_
        dsimp only [List.set]
        refine st_shareS (fun σ' H' => H' = H11 ∧ σ' = [some (.ref l), some (.ref x), some (.int i), some (.ref D3), none, some (.int m), some (.int (countL m)), v7, some (.int pc), some (optV (placeL pc))]) ?_ fun Nn hN => ?_
        case refine_2 =>
          refine st_ifp (q := pc < 15000) (a_cmp (f := fun i j => decide (i < j)) (val_var rfl) val_c) decide_eq_true_iff (fun z => ?_) fun z => ?_
          · obtain ⟨jj, hjj⟩ := Int.eq_ofNat_of_zero_le (show 0 ≤ pc % 15 by omega)
            have jl : jj < againL.length := by show jj < 15; omega
            refine (v_rI0 (g := fun i j => .int (i + j)) (v_rI (g := fun i j => .int (i * j)) (v_rI (g := fun i j => .int (i / j)) (val_var rfl) val_c (wide_div (b := 40) (by omega) (by omega) (by decide) (by decide))) val_c (Or.inr ⟨by decide, by decide⟩)) (v_ixL (v := .int ((againL[jj] : Nat) : Int)) (val_var rfl) (v_rI (g := fun i j => .int (i % j)) (v_cb (val_var rfl) fun Q q => Or.inl ⟨_, rfl, q⟩) val_c (by decide)) (SqL.of e11) (at_of (j := jj) hjj (by rw [List.getElem?_map, List.getElem?_eq_getElem jl]; rfl)))) _ (hN _ _ ⟨rfl, ?_⟩)
            unfold placeL
            rw [if_pos z, hjj, Int.toNat_natCast, List.getD_eq_getElem?_getD, List.getElem?_eq_getElem jl]
            rfl
          · refine hN _ _ ⟨rfl, ?_⟩
            unfold placeL
            rw [if_neg z]
            rfl
        rintro σ' H' ⟨rfl, rfl⟩
        refine st_ifX (not_sure (same_sure (IsNth fL pc) un (fun R qq => ⟨_, rfl, x, dx, _, rfl, hx, by kernel_rfl, _, rfl, x, hd, q, S, pc, rfl, c11, fun z => absurd pc0 z, fun _ r H' n s' => qq r H' (n.congr eq) s'⟩) fun H2 s2 R q => ⟨_, rfl, q (placeL pc) H2 (nth_fL pc0.1) (Same.refl _)⟩) fun H12 s12 => iteF ?_)
        exact ⟨_, _, rfl, s11.trans s12⟩
      · rintro σ' H11 ⟨v8, v9, rfl, s11⟩
        exact ⟨_, _, _, _, _, _, rfl, ((p9.same s10).same s11).mono (by omega), ((f38.trans f9).trans (Fr.of s10)).trans (Fr.of s11)⟩
    rintro σ' H4 ⟨v2, v5, v6, v7, v8, v9, rfl, p4, f4⟩
    have c4 := c3.fr f4 p3
    dsimp only
    obtain ⟨dx, st, u, hx⟩ := c4.hx
    refine guard_sure2 (fun QT qq => tB_of ⟨_, rfl, x, hd, q, S, rfl, c4, fun r v H5 is pr s5 => ⟨by show 2 ≤ sizeLine; decide, fun t ht => ⟨v, _, r, rfl, (pr K).same (Same.new ht), ?_, _, rfl, qq _ (s5.trans (Same.new ht))⟩⟩⟩) (fun H5 s5 QT qq => tB_of ⟨_, rfl, x, hd, q, S, rfl, c4.same s5, fun r v H6 is pr s6 => ⟨by show 2 ≤ sizeLine; decide, fun t ht => ⟨v, _, r, rfl, (pr K).same (Same.new ht), ?_, _, rfl, qq _ (s6.trans (Same.new ht))⟩⟩⟩) fun H5 s5 => ?_
    · rw [(is.congr eq).unique short_fL]
      exact pr_of (p := (1, 7)) upd_same _
    · rw [(is.congr eq).unique long_fL]
      exact pr_of (p := (7, 0)) upd_same _
    have c5 := c4.same s5
    refine st_ret0 (same_te (fun r => r = some 34997) (fun r r' a b => a.trans b.symm) (fun R qq => ⟨_, rfl, x, dx, _, rfl, s5 _ _ hx, by kernel_rfl, v40 _ ⟨x, hd, q, S, 10 ^ 40, rfl, c5, fun z => absurd (show 0 ≤ (10 : Int) ^ 40 ∧ (10 : Int) ^ 40 ≤ 10 ^ 40 by omega) z, fun _ r H' n s' => qq r H' ?_ s'⟩⟩) (fun H2 s2 R q => q (some _) H2 rfl (Same.refl _)) fun H6 s6 => k H6 (((p4.same s5).same s6).mono (by omega)) (((f3.trans f4).trans (Fr.of s5)).trans (Fr.of s6)))
    rw [ec (10 ^ 40) (by omega)] at n
    have e0 : countL (10 ^ 40) = 15000 := by
      unfold countL
      rw [if_neg (by omega)]
    rw [e0, if_pos (by omega)] at n
    rw [← last_fL]
    exact (n.congr eq).unique (nth_fL (by omega))
end
end My

namespace My
open PySem L2
section
variable {te : TE} {vs : List Nat} {σ : St} {H1 : Hp} {Q : VK} {i0 : Nat} {l cl : Addr} {n c cnt : Nat} {lo : Int} {Pr : Int → Prop}
theorem comp_draws (hp : PoolAt H1 l cl n) (hz : cnt ≤ 1000) (hw : ∀ x, wipe ((wipe σ vs).set i0 (some x)) vs = wipe σ vs)
    (hte : ∀ x H k Q', PoolAt H l cl k → k ≤ n + c * cnt → (∀ d H', Pr d → PoolAt H' l cl (k + c) → Fr l cl H H' → Q' (.int d) H') → te ((wipe σ vs).set i0 (some x)) H Q')
    (hd : ∀ D (ks : List Int) H', H1 D = none → H' D = some (.lst (ks.map V.int)) → ks.length = cnt → (∀ d ∈ ks, Pr d) → PoolAt H' l cl (n + c * cnt) → Fr l cl H1 H' → Q (.ref D) H') : tLc (fun _ H R => R (Itr lo cnt) H) (gName i0) tYes te vs σ H1 Q := by
  refine fun D hD => ?_
  obtain ⟨nl, ncl⟩ := hp.off hD
  refine lc_range (fun i H' => ∃ ks : List Int, H' D = some (.lst (ks.map V.int)) ∧ ks.length = i ∧ (∀ d ∈ ks, Pr d) ∧ PoolAt H' l cl (n + c * i) ∧ Fr l cl H1 H') ⟨[], upd_same, rfl, (fun d h => nomatch h), by simpa using hp.same (Same.new hD), Fr.of (Same.new hD)⟩ ?_ ?_
  · rintro i H' hi ⟨ks, e, lk, pr, p, f⟩
    refine g_name ⟨hw _, ?_⟩
    show te _ H' _
    have hm : c * i ≤ c * cnt := Nat.mul_le_mul_left _ (by omega)
    have hm1 : c * (i + 1) = c * i + c := by rw [Nat.mul_add, Nat.mul_one]
    refine hte _ H' _ _ p (by omega) fun d H2 prd p2 f2 => ?_
    have e2 := f2 _ _ e nl ncl
    refine ⟨_, e2, by rw [List.length_map]; have : 1000000 ≤ sizeLine := by decide
                      omega, ks ++ [d], by rw [upd_same, List.map_append]; rfl, by simp [lk], fun x hx => ?_, ?_, ?_⟩
    · rcases List.mem_append.mp hx with h | h
      · exact pr x h
      · rw [List.mem_singleton.mp h]; exact prd
    · rw [hm1, ← Nat.add_assoc]
      exact p2.but (But.refl D H2).upd nl.symm ncl.symm
    · exact fun b o eb n1 n2 => by
        rw [upd_ne (ne_of_none eb hD)]
        exact f2 _ _ (f b o eb n1 n2) n1 n2
  · rintro H' ⟨ks, e, lk, pr, p, f⟩
    exact hd D ks H' hD e lk pr p f
theorem lcR1C {g : TG} {tt : TT} {i : Int} (b1 : -1000000 ≤ i) (b2 : i ≤ 1000000) (h : tLc (fun _ H R => R (Itr 0 i.toNat) H) g tt te vs σ H1 Q) : tLc (iRng1 (tCons (tC (.int i)) tNil)) g tt te vs σ H1 Q := ⟨i, rfl, by omega, by omega, h⟩
end
theorem and_draw {σ : St} {H : Hp} {QT : Bool → Hp → Prop} {u : TT} {i : Nat} {tm : TE} {l cl : Addr} {n : Nat} {m c : Int} (hp : PoolAt H l cl n) (hi : σ[i]? = some (some (V.ref l))) (hm : Val tm σ H (.int m)) (hn : n < 2 ^ 40) (m0 : 0 < m) (m1 : m < 2 ^ 200)
    (y : ∀ H', PoolAt H' l cl (n + 1) → Fr l cl H H' → u σ H' QT) (no : ∀ H', PoolAt H' l cl (n + 1) → Fr l cl H H' → QT false H') :
    tAnd (tTest (tOp rEq (tCall spDraw [] E0 (tCons (tVar i) (tCons tm tNil))) (tC (.int c)))) u σ H QT := by
  refine draw hp hi hm hn m0 m1 fun e H2 e0 e1 p2 f2 => ⟨rfl, _, rfl, ?_⟩
  rw [dec_int, Bool.beq_eq_decide_eq]
  by_cases z : e = c
  · rw [decide_eq_true z]
    exact iteT (y H2 p2 f2)
  · rw [decide_eq_false z]
    exact iteF (no H2 p2 f2)
theorem _root_.L2.Val.lst1 {te : TE} {σ : St} {H : Hp} {Q : VK} {x : V} (h : Val te σ H x) (q : ∀ p, H p = none → Q (.ref p) (upd H p (.lst [x]))) : tLst (tCons te tNil) σ H Q := h _ ⟨by show 1 ≤ sizeLine; decide, q⟩
theorem looks_te {a : Ad} {σ : St} {H : Hp} {Q : VK} {xi wi : Nat} {x w bl : Addr} {head : Nat} {bits : List Bool} {b m o : Int} {t1 t2 : TE} (e1 : σ[xi]? = some (some (V.ref x))) (e2 : σ[wi]? = some (some (V.ref w))) (tw : TW a H x w bl head bits b) (h1 : Val t1 σ H (.int m)) (h2 : Val t2 σ H (.int o)) (m0 : 0 ≤ m ∧ m ≤ 10 ^ 40) (o0 : 0 ≤ o ∧ o ≤ 10 ^ 40) (q : ∀ H', Same H H' → Q (.bl true) H') :
    tCall (spLooks a) [] E0 (tCons (tVar xi) (tCons (tVar wi) (tCons t1 (tCons t2 tNil)))) σ H Q := ⟨_, e1, _, e2, h1 _ (h2 _ ⟨x, w, bl, head, bits, b, m, o, rfl, tw, m0, o0, q⟩)⟩
theorem looks_sure {a : Ad} {σ : St} {H : Hp} {xi wi : Nat} {x w bl : Addr} {head : Nat} {bits : List Bool} {b m o : Int} {t1 t2 : TE} (e1 : σ[xi]? = some (some (V.ref x))) (e2 : σ[wi]? = some (some (V.ref w))) (tw : TW a H x w bl head bits b) (h1 : Val t1 σ H (.int m)) (h2 : Val t2 σ H (.int o)) (m0 : 0 ≤ m ∧ m ≤ 10 ^ 40) (o0 : 0 ≤ o ∧ o ≤ 10 ^ 40) :
    Sure (tB (tCall (spLooks a) [] E0 (tCons (tVar xi) (tCons (tVar wi) (tCons t1 (tCons t2 tNil)))))) σ H := fun QT q => tB_of (looks_te e1 e2 tw h1 h2 m0 o0 fun H' s => ⟨_, rfl, q H' s⟩)
theorem or_fr {t u : TT} {σ : St} {H : Hp} {QT : Bool → Hp → Prop} {P1 : Hp → Prop} (h : ∀ R : Bool → Hp → Prop, (∀ H', P1 H' → R true H') → t σ H R) (k : ∀ H', P1 H' → u σ H' QT) : tOr (tNot t) u σ H QT := h _ fun H' p => iteF (k H' p)
theorem not_fr {t : TT} {σ : St} {H : Hp} {QT : Bool → Hp → Prop} {P1 : Hp → Prop} (h : ∀ R : Bool → Hp → Prop, (∀ H', P1 H' → R true H') → t σ H R) (k : ∀ H', P1 H' → QT false H') : tNot t σ H QT := h _ fun H' p => k H' p
theorem at_any {xs : List V} {i : Int} (h0 : -(xs.length : Int) ≤ i) (h1 : i < xs.length) : ∃ v, atI xs i = some v ∧ v ∈ xs := by
  unfold atI ixN
  by_cases c : 0 ≤ i
  · rw [if_pos c, if_pos h1]
    obtain ⟨v, hv⟩ : ∃ v, xs[i.toNat]? = some v := ⟨_, List.getElem?_eq_getElem (by omega)⟩
    exact ⟨v, hv, List.mem_of_getElem? hv⟩
  · rw [if_neg c, if_pos (by omega)]
    obtain ⟨v, hv⟩ : ∃ v, xs[((xs.length : Int) + i).toNat]? = some v := ⟨_, List.getElem?_eq_getElem (by omega)⟩
    refine ⟨v, ?_, List.mem_of_getElem? hv⟩
    rw [show (i + (xs.length : Int)).toNat = ((xs.length : Int) + i).toNat by omega]
    exact hv
def spLaw (K : PySem.W.Frag) : Sp := fun vs H Q _ => ∃ (s : Addr) (ns : List Int), vs = [.ref s] ∧ SqL K H s (ns.map V.int) ∧ ns.length ≤ 63 ∧ ∀ H', Q (.bl true) H'
section
variable {P : Program} {w : World} {K : PySem.W.Frag} {mg : Str → Option Value} {base : Heap} {a : Ad}
theorem G_law (T : Tx K mg a) : FnOk P w K mg base CX0 11 a.f_law a.d_law ["script"] (spLaw K) := by
  refine T.F_law.ok sc_law (fun vs H Q E h => ?_) (fun cdv A outer s H vs Q E hr h => ?_)
  · obtain ⟨s, ns, rfl, _⟩ := h
    rfl
  · obtain ⟨sc, ns, rfl, hS, hn, k⟩ := h
    refine ⟨_, (pss_cons (ps_set (i := 1) sc_law.nd rfl (Or.inr rfl) (pe_call (G__law_start T) (hr.mono (by decide)) rfl T.g__law_start T.F__law_start.kp T.b__law_start .nil pass0 (pa_cons (pv 0) pa_nil)))
      (pss_cons (ps_asg (pe_call (G__law_drawn T) (hr.mono (by decide)) rfl T.g__law_drawn T.F__law_drawn.kp T.b__law_drawn .nil pass0 (pa_cons (pv 1) (pa_cons (pe_ix ix_list (pe_lst (pa_cons pe_int (pa_cons pe_int pa_nil))) (pe_op op_fdivW (pe_call (G__law_draw T) (hr.mono (by decide)) rfl T.g__law_draw T.F__law_draw.kp T.b__law_draw .nil pass0 (pa_cons (pv 1) (pa_cons pe_int pa_nil))) pe_int) (fun _ _ => rfl)) pa_nil))) (pg_tup rfl (pgs_cons (pg_name (i := 2) sc_law.nd rfl (Or.inl rfl)) (pgs_cons (pg_name (i := 3) sc_law.nd rfl (Or.inl rfl)) pgs_nil))))
      (pss_cons (ps_set (i := 4) sc_law.nd rfl (Or.inr rfl) (pe_tup (pa_cons (pv 2) (pa_cons (pv 3) (pa_cons (pe_call (G__law_pick_factor T) (hr.mono (by decide)) rfl T.g__law_pick_factor T.F__law_pick_factor.kp T.b__law_pick_factor .nil pass0 (pa_cons (pv 1) (pa_cons (pe_callB call_len_seq (by rfl) T.n_len (by decide +kernel) (pa_cons (pv 3) pa_nil)) pa_nil))) pa_nil)))))
      (pss_cons (ps_set (i := 5) sc_law.nd rfl (Or.inl rfl) (pe_call (G__law_pattern T) (hr.mono (by decide)) rfl T.g__law_pattern T.F__law_pattern.kp T.b__law_pattern .nil pass0 (pa_cons (pv 4) pa_nil)))
      (pss_cons (ps_asg (pe_call (G__law_drawn T) (hr.mono (by decide)) rfl T.g__law_drawn T.F__law_drawn.kp T.b__law_drawn .nil pass0 (pa_cons (pv 1) (pa_cons pe_int pa_nil))) (pg_tup rfl (pgs_cons (pg_name (i := 6) sc_law.nd rfl (Or.inl rfl)) (pgs_cons (pg_name (i := 7) sc_law.nd rfl (Or.inl rfl)) pgs_nil))))
      (pss_cons (ps_set (i := 8) sc_law.nd rfl (Or.inl rfl) (pe_tup (pa_cons (pv 6) (pa_cons (pv 7) (pa_cons pe_int pa_nil)))))
      (pss_cons (ps_set (i := 9) sc_law.nd rfl (Or.inl rfl) (pe_call (G__law_pattern T) (hr.mono (by decide)) rfl T.g__law_pattern T.F__law_pattern.kp T.b__law_pattern .nil pass0 (pa_cons (pv 8) pa_nil)))
      (pss_cons (ps_setLc (i := 10) (own := [("t", 11)]) (g := gName 11) (tt := tYes) rfl sc_law.nd rfl rfl (sw_true rfl rfl rfl (by decide +kernel)) (pi_range1 rfl T.n_range (pa_cons (pe_op op_add (pe_callB call_len_seq (by rfl) T.n_len (by decide +kernel) (pa_cons (pv 3) pa_nil)) pe_int) pa_nil)) (blkOk_by (own := [("t", 11)]) (N := ["script", "pool", "head", "bits", "w", "told", "other", "row", "v", "second", "points", "t", "k", "one"]) (sc := defScope s_law) (by decide +kernel)) (fun _ _ _ _ _ => (pg_name (i := 11) sc_law.nd rfl (Or.inl rfl))) (fun _ _ _ _ _ => pts_nil) (fun _ _ _ _ _ => (pe_op op_mul (pv 11) (pe_ix (ix_tupK K) (pv 4) pe_int (fun _ _ => rfl)))))
      (pss_cons (ps_set (i := 10) sc_law.nd rfl (Or.inl rfl) (pe_op op_cat (pv 10) (pe_lc (own := [("t", 11)]) (g := gName 11) (tt := tYes) rfl sc_law.nd (pi_range1 rfl T.n_range (pa_cons (pe_op op_add (pe_callB call_len_seq (by rfl) T.n_len (by decide +kernel) (pa_cons (pv 3) pa_nil)) pe_int) pa_nil)) (blkOk_by (own := [("t", 11)]) (N := ["script", "pool", "head", "bits", "w", "told", "other", "row", "v", "second", "points", "t", "k", "one"]) (sc := defScope s_law) (by decide +kernel)) (fun _ _ _ _ _ => (pg_name (i := 11) sc_law.nd rfl (Or.inl rfl))) (fun _ _ _ _ _ => pts_nil) (fun _ _ _ _ _ => (pe_op op_sub (pe_op op_add (pe_op op_mul (pv 11) (pe_ix (ix_tupK K) (pv 4) pe_int (fun _ _ => rfl))) (pe_ix (ix_tupK K) (pv 4) pe_int (fun _ _ => rfl))) pe_int)))))
      (pss_cons (ps_set (i := 10) sc_law.nd rfl (Or.inl rfl) (pe_op op_cat (pe_op op_cat (pv 10) (pe_lc (own := [("k", 12)]) (g := gName 12) (tt := tYes) rfl sc_law.nd (pi_range1 rfl T.n_range (pa_cons pe_int pa_nil)) (blkOk_by (own := [("k", 12)]) (N := ["script", "pool", "head", "bits", "w", "told", "other", "row", "v", "second", "points", "t", "k", "one"]) (sc := defScope s_law) (by decide +kernel)) (fun _ _ _ _ _ => (pg_name (i := 12) sc_law.nd rfl (Or.inl rfl))) (fun _ _ _ _ _ => pts_nil) (fun _ _ _ _ _ => (pe_call (G__law_far T) (hr.mono (by decide)) rfl T.g__law_far T.F__law_far.kp T.b__law_far .nil pass0 (pa_cons (pv 1) pa_nil))))) (pe_lst (pa_cons (pe_op op_pow pe_int pe_int) pa_nil))))
      (pss_cons (ps_for PassesOwn.never rfl (pi_range1 rfl T.n_range (pa_cons (pe_callB call_len_seq (by rfl) T.n_len (by decide +kernel) (pa_cons (pv 10) pa_nil)) pa_nil)) (pg_name (i := 12) sc_law.nd rfl (Or.inl rfl)) (pss_one (ps_if (pt_not (pt_val (pe_call (G__law_looks T) (hr.mono (by decide)) rfl T.g__law_looks T.F__law_looks.kp T.b__law_looks .nil pass0 (pa_cons (pv 5) (pa_cons (pv 4) (pa_cons (pe_ix ix_list (pv 10) (pv 12) (fun _ _ => rfl)) (pa_cons (pe_ix ix_list (pv 10) (pe_op op_sub (pe_op op_fdivW (pv 12) pe_int) pe_int) (fun _ _ => rfl)) pa_nil))))))) (pss_one (ps_ret pe_bl)) pss_nil)))
      (pss_cons (ps_if (pt_not (pt_val (pe_call (G__law_looks T) (hr.mono (by decide)) rfl T.g__law_looks T.F__law_looks.kp T.b__law_looks .nil pass0 (pa_cons (pv 9) (pa_cons (pv 8) (pa_cons (pe_ix ix_list (pv 10) (pe_un un_neg pe_int) (fun _ _ => rfl)) (pa_cons (pe_ix ix_list (pv 10) (pe_un un_neg pe_int) (fun _ _ => rfl)) pa_nil))))))) (pss_one (ps_ret pe_bl)) pss_nil)
      (pss_cons (ps_if (PW.pt (pw_or (pt_not (pt_val (pe_call (G__law_spans T) (hr.mono (by decide)) rfl T.g__law_spans T.F__law_spans.kp T.b__law_spans .nil pass0 (pa_cons (pv 1) (pa_cons (pv 5) (pa_cons (pv 4) pa_nil)))))) (pw_or1 (pt_not (pt_val (pe_call (G__law_refused T) (hr.mono (by decide)) rfl T.g__law_refused T.F__law_refused.kp T.b__law_refused .nil pass0 (pa_cons (pv 1) (pa_cons (pv 5) pa_nil)))))))) (pss_one (ps_ret pe_bl)) pss_nil)
      (pss_cons (ps_for PassesOwn.never rfl (pi_list (pe_lst (pa_cons (pe_tup (pa_cons (pv 5) (pa_cons (pv 4) pa_nil))) (pa_cons (pe_tup (pa_cons (pv 9) (pa_cons (pv 8) pa_nil))) (pa_cons (pe_tup (pa_cons (pv 5) (pa_cons (pv 4) pa_nil))) pa_nil))))) (pg_name (i := 13) sc_law.nd rfl (Or.inl rfl)) (pss_one (ps_if (pt_not (pt_val (pe_call (G__law_whole T) (hr.mono (by decide)) rfl T.g__law_whole T.F__law_whole.kp T.b__law_whole .nil pass0 (pa_cons (pe_ix ix_tup (pv 13) pe_int (fun _ _ => rfl)) (pa_cons (pe_ix ix_tup (pv 13) pe_int (fun _ _ => rfl)) pa_nil))))) (pss_one (ps_ret pe_bl)) pss_nil)))
      (pss_cons (ps_if (PW.pt (pw_and (pt_cmpR op_eq (pe_call (G__law_draw T) (hr.mono (by decide)) rfl T.g__law_draw T.F__law_draw.kp T.b__law_draw .nil pass0 (pa_cons (pv 1) (pa_cons pe_int pa_nil))) pe_int (nomark _)) (pw_and1 (pt_not (pt_val (pe_call (G__law_large T) (hr.mono (by decide)) rfl T.g__law_large T.F__law_large.kp T.b__law_large .nil pass0 (pa_cons (pv 1) pa_nil))))))) (pss_one (ps_ret pe_bl)) pss_nil)
      (pss_cons (ps_if (pt_not (pt_val (pe_call (G__law_looks T) (hr.mono (by decide)) rfl T.g__law_looks T.F__law_looks.kp T.b__law_looks .nil pass0 (pa_cons (pv 5) (pa_cons (pv 4) (pa_cons (pe_ix ix_list (pv 10) (pe_un un_neg pe_int) (fun _ _ => rfl)) (pa_cons (pe_ix ix_list (pv 10) (pe_un un_neg pe_int) (fun _ _ => rfl)) pa_nil))))))) (pss_one (ps_ret pe_bl)) pss_nil)
      (pss_one (ps_ret (pe_call (G__law_looks T) (hr.mono (by decide)) rfl T.g__law_looks T.F__law_looks.kp T.b__law_looks .nil pass0 (pa_cons (pv 9) (pa_cons (pv 8) (pa_cons (pe_ix ix_list (pv 10) (pe_un un_neg pe_int) (fun _ _ => rfl)) (pa_cons pe_int pa_nil))))))))))))))))))))))), ?_⟩
    have big : 1000000 ≤ sizeLine := by decide
    rw [show L2.start ["script", "pool", "head", "bits", "w", "told", "other", "row", "v", "second", "points", "t", "k", "one"] [V.ref sc] = [some (.ref sc), none, none, none, none, none, none, none, none, none, none, none, none, none] from rfl]
    have e40 : (10 : Int) ^ Int.toNat 40 = 10 ^ 40 := by decide
    have v40 : ∀ {σ : St} {H : Hp}, Val (tOp (rI CPow fun i j => V.int (i ^ j.toNat)) (tC (.int 10)) (tC (.int 40))) σ H (.int (10 ^ 40)) := fun {σ H} => by
      rw [← e40]
      exact v_rI (g := fun i j => .int (i ^ j.toNat)) val_c val_c ⟨by decide, by decide, by decide⟩
    refine st_letX ⟨_, rfl, sc, ns, rfl, hS, hn, fun l cl H1 p1 _ _ _ => ?_⟩
    clear hS hn
    dsimp only
    refine st_seq (call_first ⟨_, rfl, cons1 (op_te (lst2 val_c val_c fun q hq => op_te (draw (p1.same (Same.new hq)) rfl val_c (by decide) (by decide) (by decide) fun d H2 d0 d1 p2 f2 => ⟨_, _, rfl, rfl, wide_div (b := 40) (by omega) (by omega) (by decide) (by decide), ?_⟩)))⟩)
    obtain ⟨n1, n2⟩ := p1.off hq
    have eq2 := f2 _ _ (upd_same : upd H1 q (.lst [V.int 12, V.int 30]) q = _) n1 n2
    obtain ⟨mo, hmo, mo1, mo2⟩ : ∃ mo : Int, atI [V.int 12, V.int 30] (d / 7) = some (.int mo) ∧ 1 ≤ mo ∧ mo ≤ 30 := by
      by_cases z : d / 7 = 0
      · rw [z]
        exact ⟨12, rfl, by omega, by omega⟩
      · rw [show d / 7 = 1 by omega]
        exact ⟨30, rfl, by omega, by omega⟩
    refine ⟨q, _, d / 7, _, rfl, rfl, SqL.of eq2, hmo, l, cl, _, mo, rfl, p2, by omega, mo1, by omega, fun t bl bits head H3 et ebl ln lz hd9 bn1 bn2 p3 f3 => ?_⟩
    have f13 : Fr l cl H1 H3 := ((Fr.of (Same.new hq)).trans f2).trans f3
    clear eq2 hmo f2 f3 n1 n2 p2 hq
    refine ⟨t, _, rfl, SqT.of et, rfl, _, _, rfl, _, _, rfl, rfl, ?_⟩
    dsimp only [gName, List.set, List.length]
    have lb : (bits.map V.bl).length = bits.length := List.length_map _
    refine st_letX ⟨_, rfl, _, rfl, call_first ⟨_, rfl, _, rfl, bl, _, rfl, Or.inl (SqL.of ebl), l, cl, _, ((bits.map V.bl).length : Nat), rfl, p3, by omega, by omega, by omega, fun b H4 b1 bm p4 f4 => ⟨by show 3 ≤ sizeLine; decide, fun w hw => ?_⟩⟩⟩
    rw [lb] at bm
    have sw := Same.new (o := .tup [.int head, .ref bl, .int b]) hw
    have ew : upd H4 w (.tup [.int head, .ref bl, .int b]) w = some (.tup [.int head, .ref bl, .int b]) := upd_same
    generalize upd H4 w (.tup [.int head, .ref bl, .int b]) = H5 at sw ew ⊢
    have wt5 : WAt H5 w bl head bits b := ⟨ew, sw _ _ (f4 _ _ ebl bn1 bn2)⟩
    have p5 := p4.same sw
    have f15 := (f13.trans f4).trans (Fr.of sw)
    have b2 : b ≤ 10 ^ 12 := by
      have : b * 1 ≤ b * bits.length := Int.mul_le_mul_of_nonneg_left (by omega) (by omega)
      omega
    clear sw ew f4 p4 hw f13 p3 et ebl
    refine st_letX ⟨_, rfl, w, bl, head, bits, b, rfl, wt5, ln, by omega, b1, bm, fun x hd q S H6 pc eq s6 => ?_⟩
    try dsimp only [List.set]
    have tw6 : TW a H6 x w bl head bits b := ⟨⟨hd, q, S, pc, eq⟩, wt5.same s6, ln, by omega, b1, b2⟩
    have p6 := p5.same s6
    have f16 := f15.trans (Fr.of s6)
    clear pc eq wt5 s6 p5 f15 p1
    refine st_seq (call_first ⟨_, rfl, l, cl, _, 12, rfl, p6, by omega, by omega, by omega, fun t' rl row ot H7 et' erl ln' lz' hd9' rn1 rn2 p7 f7 => ?_⟩)
    refine ⟨t', _, rfl, SqT.of et', rfl, _, _, rfl, _, _, rfl, rfl, ?_⟩
    dsimp only [gName, List.set, List.length]
    have tw7 := tw6.fr f7 p6 bn1 bn2
    refine st_letX (tup3 (val_var rfl) (val_var rfl) val_c fun v hv => ?_)
    have sv := Same.new (o := .tup [.int ot, .ref rl, .int 1]) hv
    have ev : upd H7 v (.tup [.int ot, .ref rl, .int 1]) v = some (.tup [.int ot, .ref rl, .int 1]) := upd_same
    try dsimp only [List.set]
    generalize upd H7 v (.tup [.int ot, .ref rl, .int 1]) = H8 at sv ev ⊢
    have vt8 : WAt H8 v rl ot row 1 := ⟨ev, sv _ _ erl⟩
    refine st_letX ⟨_, rfl, v, rl, ot, row, 1, rfl, vt8, ln', by omega, by omega, by omega, fun y hd' q' S' H9 pc' eq' s9 => ?_⟩
    try dsimp only [List.set]
    have tv9 : TW a H9 y v rl ot row 1 := ⟨⟨hd', q', S', pc', eq'⟩, vt8.same s9, ln', by omega, by omega, by omega⟩
    have tw9 := (tw7.same sv).same s9
    have p9 := (p7.same sv).same s9
    have f19 := ((f16.trans f7).trans (Fr.of sv)).trans (Fr.of s9)
    clear tw6 tw7 p6 p7 f16 f7 et' erl sv ev vt8 pc' eq' s9 hv
    -- the points
    have vl : ∀ {H' : Hp} {σ : St} {bl : Addr} {bits : List Bool}, H' bl = some (.lst (bits.map V.bl)) → σ[3]? = some (some (V.ref bl)) → Val (tCB (fun xs H_1 Q => ∃ p ys, xs = [V.ref p] ∧ (SqL K H_1 p ys ∨ SqT K H_1 p ys) ∧ Q (V.int ↑ys.length) H_1) (tCons (tVar 3) tNil)) σ H' (.int (bits.length : Nat)) := fun h e => v_cb (val_var e) fun Q q => ⟨_, _, rfl, Or.inl (SqL.of h), by rw [List.length_map]; exact q⟩
    have okv : ∀ i : Nat, i < bits.length + 3 → (i : Int) * b ≤ 10 ^ 15 ∧ 0 ≤ (i : Int) * b := fun i hi => ⟨by
      have : (i : Int) * b ≤ 1000 * 10 ^ 12 := Int.mul_le_mul (by omega) b2 (by omega) (by omega)
      omega, Int.mul_nonneg (by omega) (by omega)⟩
    have cnt : ((bits.length : Nat) : Int) + 3 = ((bits.length + 3 : Nat) : Int) := by omega
    have bnd : -1000000 ≤ ((bits.length : Nat) : Int) + 3 ∧ ((bits.length : Nat) : Int) + 3 ≤ 1000000 := by omega
    have wv : ∀ {H' : Hp} {σ : St}, Same H9 H' → σ[4]? = some (some (V.ref w)) → Val (tOp (rIxT K) (tVar 4) (tC (V.int 2))) σ H' (.int b) := fun s e => v_ixT (v := .int b) (val_var e) val_c (SqT.of (s _ _ tw9.at'.1)) rfl
    refine st_letX (lcR1V (v_rI0 (g := fun i j => .int (i + j)) (vl tw9.at'.2 rfl) val_c) bnd.1 bnd.2 ?_)
    rw [cnt]
    refine comp_vals (n := bits.length + 3) (by omega) (fun _ => rfl) (fun i => .int ((i : Int) * b)) (fun i H' hi s => v_rI (g := fun i j => .int (i * j)) (val_var rfl) (wv s rfl) (Or.inl ⟨by omega, by omega⟩)) fun a1 H10 ha1 e1 s1 => ?_
    try dsimp only [List.set]
    refine st_letX (op_v (val_var rfl) (lcR1V (v_rI0 (g := fun i j => .int (i + j)) (vl (s1 _ _ tw9.at'.2) rfl) val_c) bnd.1 bnd.2 ?_))
    rw [cnt]
    refine comp_vals (n := bits.length + 3) (by omega) (fun _ => rfl) (fun i => .int ((i : Int) * b + b - 1)) (fun i H' hi s => v_rI0 (g := fun i j => .int (i - j)) (v_rI0 (g := fun i j => .int (i + j)) (v_rI (g := fun i j => .int (i * j)) (val_var rfl) (wv (s1.trans s) rfl) (Or.inl ⟨by omega, by omega⟩)) (wv (s1.trans s) rfl)) val_c) fun a2 H11 ha2 e2 s2 => ?_
    refine cat_is (s2 _ _ e1) e2 (by simp; omega) fun a3 ha3 => ?_
    obtain ⟨A3, eA3⟩ : ∃ A3 : List V, A3 = (List.range (bits.length + 3)).map (fun (i : Nat) => V.int ((i : Int) * b)) ++ (List.range (bits.length + 3)).map (fun (i : Nat) => V.int ((i : Int) * b + b - 1)) := ⟨_, rfl⟩
    have ok3 : ∀ v ∈ A3, ∃ z, v = V.int z ∧ 0 ≤ z ∧ z ≤ 10 ^ 40 := fun v hv => by
      rw [eA3] at hv
      rcases List.mem_append.mp hv with h | h
      · obtain ⟨i, hi, rfl⟩ := List.mem_map.mp h
        have := okv i (List.mem_range.mp hi)
        exact ⟨_, rfl, by omega, by omega⟩
      · obtain ⟨i, hi, rfl⟩ := List.mem_map.mp h
        have := okv i (List.mem_range.mp hi)
        exact ⟨_, rfl, by omega, by omega⟩
    have l3 : A3.length = 2 * (bits.length + 3) := by rw [eA3]; simp; omega
    rw [← eA3]
    have s3 := Same.new (o := .lst A3) ha3
    have s03 := s1.trans (s2.trans s3)
    have e3 : upd H11 a3 (.lst A3) a3 = some (.lst A3) := upd_same
    have off3 : a3 ≠ l ∧ a3 ≠ cl := (p9.same (s1.trans s2)).off ha3
    try dsimp only [List.set]
    generalize upd H11 a3 (.lst A3) = H12 at s03 e3 ⊢
    clear s3 ha3 s2 s1 e2 e1 ha2 ha1 eA3
    have p12 := p9.same s03
    refine st_letX (op_te (op_v (val_var rfl) (lcR1C (i := 8) (by decide) (by decide) ?_)))
    refine comp_draws (c := 3) (cnt := 8) (Pr := okF) p12 (by decide) (fun _ => rfl) (fun x H k Q' p4 hk w => ⟨_, rfl, l, cl, k, rfl, p4, by omega, fun d H' o p5 f5 => w d H' o p5 f5⟩) fun a4 ks H13 ha4 e4 lks prs p13 f13 => ?_
    have e34 := f13 _ _ e3 off3.1 off3.2
    refine cat_is e34 e4 (by rw [List.length_map]; omega) fun a5 ha5 => ?_
    have s5 := Same.new (o := .lst (A3 ++ ks.map V.int)) ha5
    refine v40.lst1 ?_
    intro a6 ha6
    have s6 := Same.new (o := .lst [V.int (10 ^ 40)]) ha6
    refine cat_is (s6 _ _ upd_same) upd_same (by rw [List.length_append, List.length_map]; show A3.length + ks.length + 1 ≤ 1000000; omega) fun a7 ha7 => ?_
    have s7 := Same.new (o := .lst (A3 ++ ks.map V.int ++ [V.int (10 ^ 40)])) ha7
    have e7 := upd_same (H := upd (upd H13 a5 (.lst (A3 ++ ks.map V.int))) a6 (.lst [V.int (10 ^ 40)])) (a := a7) (o := .lst (A3 ++ ks.map V.int ++ [V.int (10 ^ 40)]))
    have off7 : a7 ≠ l ∧ a7 ≠ cl := ((p13.same s5).same s6).off ha7
    have s57 := (s5.trans s6).trans s7
    have okA : ∀ v ∈ A3 ++ ks.map V.int ++ [V.int (10 ^ 40)], ∃ z, v = V.int z ∧ 0 ≤ z ∧ z ≤ 10 ^ 40 := fun v hv => by
      rcases List.mem_append.mp hv with h | h
      · rcases List.mem_append.mp h with h | h
        · exact ok3 v h
        · obtain ⟨z, hz, rfl⟩ := List.mem_map.mp h
          exact ⟨z, rfl, prs z hz⟩
      · rw [List.mem_singleton.mp h]
        exact ⟨_, rfl, by omega, by omega⟩
    have lA : 3 ≤ (A3 ++ ks.map V.int ++ [V.int (10 ^ 40)]).length ∧ (A3 ++ ks.map V.int ++ [V.int (10 ^ 40)]).length ≤ 1000 := by
      rw [List.length_append, List.length_append, List.length_map, List.length_singleton]
      omega
    generalize A3 ++ ks.map V.int ++ [V.int (10 ^ 40)] = A at e7 s57 okA lA ⊢
    generalize upd (upd (upd H13 a5 (.lst (A3 ++ ks.map V.int))) a6 (.lst [V.int (10 ^ 40)])) a7 (.lst A) = H14 at e7 s57 ⊢
    have p14 := p13.same s57
    have f14 : Fr l cl H9 H14 := ((Fr.of s03).trans f13).trans (Fr.of s57)
    have tw14 := tw9.fr f14 p9 bn1 bn2
    have tv14 := tv9.fr f14 p9 rn1 rn2
    clear s5 s6 s7 ha6 ha7 ha5 e34 e4 ha4 e3 off3 s03 p12 p13 f13 s57 ok3 l3 lks prs wv tw9 tv9 p9 f14 okv cnt bnd vl
    try dsimp only [List.set]
    have pt : ∀ i : Int, -(A.length : Int) ≤ i → i < A.length → ∃ z, atI A i = some (.int z) ∧ 0 ≤ z ∧ z ≤ 10 ^ 40 := fun i h0 h1 => by
      obtain ⟨v, e, m⟩ := at_any h0 h1
      obtain ⟨z, rfl, z0⟩ := okA v m
      exact ⟨z, e, z0⟩
    refine st_seq (st_forR1 (n := A.length) (v_cb (v := .int (A.length : Nat)) (val_var rfl) fun Q q => ⟨a7, _, rfl, Or.inl (SqL.of e7), q⟩) rfl (by omega) (fun i σ' H' => ∃ v12, σ' = [some (.ref sc), some (.ref l), some (.int head), some (.ref bl), some (.ref w), some (.ref x), some (.int ot), some (.ref rl), some (.ref v), some (.ref y), some (.ref a7), none, v12, none] ∧ Same H14 H') ⟨_, rfl, Same.refl _⟩ ?_ ?_)
    · rintro i σ' H15 hi ⟨v12, rfl, s15⟩
      refine g_name ?_
      try dsimp only [List.set]
      obtain ⟨m, em, m0⟩ := pt (i : Int) (by omega) (by omega)
      obtain ⟨o, eo, o0⟩ := pt ((i : Int) / 2 - 1) (by omega) (by omega)
      refine st_ifX (not_sure (looks_sure rfl rfl (tw14.same s15) (v_ixL (val_var rfl) (val_var rfl) (SqL.of (s15 _ _ e7)) em) (v_ixL (val_var rfl) (v_rI0 (g := fun i j => .int (i - j)) (v_rI (g := fun i j => .int (i / j)) (val_var rfl) val_c (wide_div (b := 40) (by omega) (by omega) (by decide) (by decide))) val_c) (SqL.of (s15 _ _ e7)) eo) m0 o0) fun H16 s16 => iteF ⟨_, rfl, s15.trans s16⟩)
    rintro σ' H15 ⟨v12, rfl, s15⟩
    try dsimp only
    obtain ⟨z2, ez2, z20⟩ := pt (-2) (by omega) (by omega)
    obtain ⟨z3, ez3, z30⟩ := pt (-3) (by omega) (by omega)
    obtain ⟨z1, ez1, z10⟩ := pt (-1) (by omega) (by omega)
    have neg : ∀ {σ : St} {H' : Hp} {i z : Int}, atI A (-i) = some (.int z) → H' a7 = some (.lst A) → σ[10]? = some (some (V.ref a7)) → Val (tOp (rIxL K) (tVar 10) (tUn (rU fun i => V.int (-i)) (tC (.int i)))) σ H' (.int z) := fun e h e10 => v_ixL (val_var e10) (v_un (g := fun i => V.int (-i)) val_c) (SqL.of h) e
    refine guard_sure (looks_sure rfl rfl (tv14.same s15) (neg ez2 (s15 _ _ e7) rfl) (neg ez3 (s15 _ _ e7) rfl) z20 z30) fun H16 s16 => ?_
    have s16 := s15.trans s16
    have p16 := p14.same s16
    have e16 := s16 _ _ e7
    have tw16 := tw14.same s16
    have tv16 := tv14.same s16
    clear p14 e7 tw14 tv14 s15 pt okA lA s16
    refine st_seq (st_ifX (or_fr (P1 := fun H' => PoolAt H' l cl (0 + 1 + 20 + 3 + 20 + 3 * 8 + 30) ∧ Fr l cl H16 H') (fun R r => tB_of ⟨_, rfl, _, rfl, _, rfl, l, cl, _, x, w, bl, head, bits, b, rfl, p16, by omega, tw16, bn1, bn2, fun H' p' f' => ⟨_, rfl, r H' ⟨p', f'⟩⟩⟩) fun H17 ⟨p17, f17⟩ => not_fr (P1 := fun H' => PoolAt H' l cl (0 + 1 + 20 + 3 + 20 + 3 * 8 + 30 + 30) ∧ Fr l cl H17 H') (fun R r => tB_of ⟨_, rfl, _, rfl, l, cl, _, x, w, bl, head, bits, b, rfl, p17, by omega, tw16.fr f17 p16 bn1 bn2, bn1, bn2, fun H' p' f' => ⟨_, rfl, r H' ⟨p', f'⟩⟩⟩) fun H18 ⟨p18, f18⟩ => iteF ?_))
    try dsimp only [tNext]
    have f168 := f17.trans f18
    have tw18 := tw16.fr f168 p16 bn1 bn2
    have tv18 := tv16.fr f168 p16 rn1 rn2
    have e18 := f168 _ _ e16 off7.1 off7.2
    clear f17 f18 p17 p16 tw16 tv16 e16 f168
    refine st_seq (forL_of ⟨_, rfl, _, rfl, by show 2 ≤ sizeLine; decide, fun t1 h1 => ⟨_, rfl, _, rfl, by show 2 ≤ sizeLine; decide, fun t2 h2 => ⟨_, rfl, _, rfl, by show 2 ≤ sizeLine; decide, fun t3 h3 => ⟨by show 3 ≤ sizeLine; decide, fun pl hpl => ?_⟩⟩⟩⟩)
    have u1 := Same.new (o := .tup [.ref x, .ref w]) h1
    have u2 := Same.new (o := .tup [.ref y, .ref v]) h2
    have u3 := Same.new (o := .tup [.ref x, .ref w]) h3
    have u4 := Same.new (o := .lst [.ref t1, .ref t2, .ref t3]) hpl
    have g1 := (((u2.trans u3).trans u4)) t1 _ upd_same
    have g2 := ((u3.trans u4)) t2 _ upd_same
    have g3 := u4 t3 _ upd_same
    have epl := upd_same (H := upd (upd (upd H18 t1 (.tup [.ref x, .ref w])) t2 (.tup [.ref y, .ref v])) t3 (.tup [.ref x, .ref w])) (a := pl) (o := .lst [.ref t1, .ref t2, .ref t3])
    have u14 := ((u1.trans u2).trans u3).trans u4
    try dsimp only
    generalize upd (upd (upd (upd H18 t1 (.tup [.ref x, .ref w])) t2 (.tup [.ref y, .ref v])) t3 (.tup [.ref x, .ref w])) pl (.lst [.ref t1, .ref t2, .ref t3]) = H19 at g1 g2 g3 epl u14 ⊢
    have tw19 := tw18.same u14
    have tv19 := tv18.same u14
    have p19 := p18.same u14
    have e19 := u14 _ _ e18
    clear tw18 tv18 p18 e18 u1 u2 u3 u4 h1 h2 h3 hpl u14
    refine st_forL (a := pl) (fun R q => q) (fun i σ' H' => ∃ v13, σ' = [some (.ref sc), some (.ref l), some (.int head), some (.ref bl), some (.ref w), some (.ref x), some (.int ot), some (.ref rl), some (.ref v), some (.ref y), some (.ref a7), none, v12, v13] ∧ Same H19 H') ⟨_, rfl, Same.refl _⟩ (fun i σ' H' _ ⟨_, _, s⟩ => SqL.of (s _ _ epl)) ?_ ?_
    · rintro i x' σ' H20 hx ⟨v13, rfl, s20⟩
      obtain ⟨t, x1, w1, bl1, hd1, bs1, b1', rfl, et, tw⟩ : ∃ (t x1 w1 bl1 : Addr) (hd1 : Nat) (bs1 : List Bool) (b1' : Int), x' = .ref t ∧ H20 t = some (.tup [.ref x1, .ref w1]) ∧ TW a H20 x1 w1 bl1 hd1 bs1 b1' := by
        match i, hx with
        | 0, hx => exact ⟨t1, x, w, bl, head, bits, b, by simpa using hx.symm, s20 _ _ g1, tw19.same s20⟩
        | 1, hx => exact ⟨t2, y, v, rl, ot, row, 1, by simpa using hx.symm, s20 _ _ g2, tv19.same s20⟩
        | 2, hx => exact ⟨t3, x, w, bl, head, bits, b, by simpa using hx.symm, s20 _ _ g3, tw19.same s20⟩
        | i + 3, hx => simp at hx
      refine g_name ?_
      try dsimp only [List.set]
      refine st_ifX (not_sure (fun QT qq => tB_of (call_first ((v_ixT (v := .ref x1) (val_var rfl) val_c (SqT.of et) rfl) _ (cons1 ((v_ixT (v := .ref w1) (val_var rfl) val_c (SqT.of et) rfl) _ ⟨x1, w1, bl1, hd1, bs1, b1', rfl, tw, fun H' s => ⟨_, rfl, qq H' s⟩⟩))))) fun H21 s21 => iteF ⟨_, rfl, s20.trans s21⟩)
    rintro σ' H20 ⟨v13, rfl, s20⟩
    try dsimp only
    have tw20 := tw19.same s20
    have tv20 := tv19.same s20
    have p20 := p19.same s20
    have e20 := s20 _ _ e19
    clear tw19 tv19 p19 e19 s20 g1 g2 g3 epl
    refine st_shareS (fun σ' H' => σ' = [some (.ref sc), some (.ref l), some (.int head), some (.ref bl), some (.ref w), some (.ref x), some (.int ot), some (.ref rl), some (.ref v), some (.ref y), some (.ref a7), none, v12, v13] ∧ Fr l cl H20 H') ?_ fun N hN => ?_
    case refine_2 =>
      refine st_ifX (and_draw p20 rfl val_c (by omega) (by decide) (by decide) (fun H21 p21 f21 => ?_) fun H21 p21 f21 => iteF (hN _ _ ⟨rfl, f21⟩))
      exact not_fr (P1 := fun H' => Fr l cl H21 H') (fun R r => tB_of ⟨_, rfl, l, cl, _, rfl, p21, by omega, fun H' p' f' => ⟨_, rfl, r H' f'⟩⟩) fun H22 f22 => iteF (hN _ _ ⟨rfl, f21.trans f22⟩)
    rintro σ' H21 ⟨rfl, f21⟩
    have tw21 := tw20.fr f21 p20 bn1 bn2
    have tv21 := tv20.fr f21 p20 rn1 rn2
    have e21 := f21 _ _ e20 off7.1 off7.2
    refine guard_sure (looks_sure rfl rfl tw21 (neg ez2 e21 rfl) (neg ez3 e21 rfl) z20 z30) fun H22 s22 => ?_
    exact st_ret0 (looks_te rfl rfl (tv21.same s22) (neg ez1 (s22 _ _ e21) rfl) val_c z10 (by omega) fun H' _ => k H')
end
end My

namespace My
open PySem L2
def hm_ex_0 (K : PySem.W.Frag) : Bool := decide ((PySem.W.nsIn K mainGlobals "Form" = some (some (.ref (He.ga K "Form")))) ∧ (PySem.W.plainGet K (He.ga K "Form") Str.empty = true) ∧ (PySem.W.hasDictIn K (He.ga K "Form") = true) ∧ (PySem.W.plainOver K (He.ga K "Form") = true) ∧ (PySem.W.findIn K (.ref (He.ga K "Form")) "__setattr__" = some (some (.builtin "object.__setattr__"))) ∧ (PySem.W.keepIn K (.ref (He.ga K "Form")) = true) ∧ (PySem.W.findIn K (.ref (He.ga K "Form")) "period" = some none) ∧ (PySem.W.findIn K (.ref (He.ga K "Form")) "head" = some none) ∧ (PySem.W.findIn K (.ref (He.ga K "Form")) "stretches" = some none) ∧ (PySem.W.makesIn K (He.ga K "Form") = true) ∧ (PySem.W.findIn K (.ref (He.ga K "Form")) "__init__" = some (some (.ref (He.ma K (He.ga K "Form") "__init__")))) ∧ (PySem.W.isFn K (.ref (He.ma K (He.ga K "Form") "__init__")) = true) ∧ (PySem.W.nsIn K mainGlobals "DueError" = some (some (.ref (He.ga K "DueError")))) ∧ (Hm.oexB K (He.ga K "DueError") = true) ∧ (PySem.W.findIn K (.ref (He.ga K "DueError")) "__setattr__" = some (some (.builtin "object.__setattr__"))) ∧ (PySem.W.findIn K (.ref (He.ga K "DueError")) "__getattribute__" = some (some (.builtin "BaseException.__getattribute__"))))
theorem hm_ok_0 {K : PySem.W.Frag} (h : hm_ex_0 K = true) : (PySem.W.nsIn K mainGlobals "Form" = some (some (.ref (He.ga K "Form")))) ∧ (PySem.W.plainGet K (He.ga K "Form") Str.empty = true) ∧ (PySem.W.hasDictIn K (He.ga K "Form") = true) ∧ (PySem.W.plainOver K (He.ga K "Form") = true) ∧ (PySem.W.findIn K (.ref (He.ga K "Form")) "__setattr__" = some (some (.builtin "object.__setattr__"))) ∧ (PySem.W.keepIn K (.ref (He.ga K "Form")) = true) ∧ (PySem.W.findIn K (.ref (He.ga K "Form")) "period" = some none) ∧ (PySem.W.findIn K (.ref (He.ga K "Form")) "head" = some none) ∧ (PySem.W.findIn K (.ref (He.ga K "Form")) "stretches" = some none) ∧ (PySem.W.makesIn K (He.ga K "Form") = true) ∧ (PySem.W.findIn K (.ref (He.ga K "Form")) "__init__" = some (some (.ref (He.ma K (He.ga K "Form") "__init__")))) ∧ (PySem.W.isFn K (.ref (He.ma K (He.ga K "Form") "__init__")) = true) ∧ (PySem.W.nsIn K mainGlobals "DueError" = some (some (.ref (He.ga K "DueError")))) ∧ (Hm.oexB K (He.ga K "DueError") = true) ∧ (PySem.W.findIn K (.ref (He.ga K "DueError")) "__setattr__" = some (some (.builtin "object.__setattr__"))) ∧ (PySem.W.findIn K (.ref (He.ga K "DueError")) "__getattribute__" = some (some (.builtin "BaseException.__getattribute__"))) := of_decide_eq_true h
def hm_ex_1 (K : PySem.W.Frag) : Bool := decide ((PySem.W.findIn K (.ref (He.ga K "DueError")) "__getattr__" = some none) ∧ (PySem.W.subIn K (.ref (He.ga K "DueError")) (.type "BaseException") = some true) ∧ (PySem.W.typeIn K (.ref (He.ga K "DueError")) = some (.type "type")) ∧ (PySem.W.keepIn K (.ref (He.ga K "DueError")) = true) ∧ (PySem.W.hasDictIn K (He.ga K "DueError") = true) ∧ (PySem.W.findIn K (.ref (He.ga K "DueError")) "__class__" = some (some (.builtin "object.__class__"))) ∧ (PySem.W.mroIn K (He.ga K "DueError") (.type "object") = some true) ∧ (PySem.W.specialIn K (.builtin "object.__class__") "__get__" = some (some (.builtin "getset_descriptor.__get__"))) ∧ (PySem.W.takesIn K (.builtin "object.__class__") = some true) ∧ (PySem.W.nsIn K mainGlobals "OutOfRange" = some (some (.ref (He.ga K "OutOfRange")))) ∧ (Hm.oexB K (He.ga K "OutOfRange") = true) ∧ (PySem.W.findIn K (.ref (He.ga K "OutOfRange")) "__setattr__" = some (some (.builtin "object.__setattr__"))) ∧ (PySem.W.findIn K (.ref (He.ga K "OutOfRange")) "__getattribute__" = some (some (.builtin "BaseException.__getattribute__"))) ∧ (PySem.W.findIn K (.ref (He.ga K "OutOfRange")) "__getattr__" = some none) ∧ (PySem.W.subIn K (.ref (He.ga K "OutOfRange")) (.type "BaseException") = some true) ∧ (PySem.W.typeIn K (.ref (He.ga K "OutOfRange")) = some (.type "type")))
theorem hm_ok_1 {K : PySem.W.Frag} (h : hm_ex_1 K = true) : (PySem.W.findIn K (.ref (He.ga K "DueError")) "__getattr__" = some none) ∧ (PySem.W.subIn K (.ref (He.ga K "DueError")) (.type "BaseException") = some true) ∧ (PySem.W.typeIn K (.ref (He.ga K "DueError")) = some (.type "type")) ∧ (PySem.W.keepIn K (.ref (He.ga K "DueError")) = true) ∧ (PySem.W.hasDictIn K (He.ga K "DueError") = true) ∧ (PySem.W.findIn K (.ref (He.ga K "DueError")) "__class__" = some (some (.builtin "object.__class__"))) ∧ (PySem.W.mroIn K (He.ga K "DueError") (.type "object") = some true) ∧ (PySem.W.specialIn K (.builtin "object.__class__") "__get__" = some (some (.builtin "getset_descriptor.__get__"))) ∧ (PySem.W.takesIn K (.builtin "object.__class__") = some true) ∧ (PySem.W.nsIn K mainGlobals "OutOfRange" = some (some (.ref (He.ga K "OutOfRange")))) ∧ (Hm.oexB K (He.ga K "OutOfRange") = true) ∧ (PySem.W.findIn K (.ref (He.ga K "OutOfRange")) "__setattr__" = some (some (.builtin "object.__setattr__"))) ∧ (PySem.W.findIn K (.ref (He.ga K "OutOfRange")) "__getattribute__" = some (some (.builtin "BaseException.__getattribute__"))) ∧ (PySem.W.findIn K (.ref (He.ga K "OutOfRange")) "__getattr__" = some none) ∧ (PySem.W.subIn K (.ref (He.ga K "OutOfRange")) (.type "BaseException") = some true) ∧ (PySem.W.typeIn K (.ref (He.ga K "OutOfRange")) = some (.type "type")) := of_decide_eq_true h
def hm_ex_2 (K : PySem.W.Frag) : Bool := decide ((PySem.W.keepIn K (.ref (He.ga K "OutOfRange")) = true) ∧ (PySem.W.hasDictIn K (He.ga K "OutOfRange") = true) ∧ (PySem.W.findIn K (.ref (He.ga K "OutOfRange")) "__class__" = some (some (.builtin "object.__class__"))) ∧ (PySem.W.mroIn K (He.ga K "OutOfRange") (.type "object") = some true) ∧ (PySem.W.findIn K (.ref (He.ga K "OutOfRange")) "what" = some none) ∧ (PySem.W.findIn K (.ref (He.ga K "OutOfRange")) "value" = some none) ∧ (PySem.W.findIn K (.ref (He.ga K "OutOfRange")) "__init__" = some (some (.ref (He.ma K (He.ga K "OutOfRange") "__init__")))) ∧ (PySem.W.typeIn K (.ref (He.ma K (He.ga K "OutOfRange") "__init__")) = some (.type "function")) ∧ (PySem.W.nsIn K mainGlobals "TooMany" = some (some (.ref (He.ga K "TooMany")))) ∧ (Hm.oexB K (He.ga K "TooMany") = true) ∧ (PySem.W.findIn K (.ref (He.ga K "TooMany")) "__setattr__" = some (some (.builtin "object.__setattr__"))) ∧ (PySem.W.findIn K (.ref (He.ga K "TooMany")) "__getattribute__" = some (some (.builtin "BaseException.__getattribute__"))) ∧ (PySem.W.findIn K (.ref (He.ga K "TooMany")) "__getattr__" = some none) ∧ (PySem.W.subIn K (.ref (He.ga K "TooMany")) (.type "BaseException") = some true) ∧ (PySem.W.typeIn K (.ref (He.ga K "TooMany")) = some (.type "type")) ∧ (PySem.W.keepIn K (.ref (He.ga K "TooMany")) = true))
theorem hm_ok_2 {K : PySem.W.Frag} (h : hm_ex_2 K = true) : (PySem.W.keepIn K (.ref (He.ga K "OutOfRange")) = true) ∧ (PySem.W.hasDictIn K (He.ga K "OutOfRange") = true) ∧ (PySem.W.findIn K (.ref (He.ga K "OutOfRange")) "__class__" = some (some (.builtin "object.__class__"))) ∧ (PySem.W.mroIn K (He.ga K "OutOfRange") (.type "object") = some true) ∧ (PySem.W.findIn K (.ref (He.ga K "OutOfRange")) "what" = some none) ∧ (PySem.W.findIn K (.ref (He.ga K "OutOfRange")) "value" = some none) ∧ (PySem.W.findIn K (.ref (He.ga K "OutOfRange")) "__init__" = some (some (.ref (He.ma K (He.ga K "OutOfRange") "__init__")))) ∧ (PySem.W.typeIn K (.ref (He.ma K (He.ga K "OutOfRange") "__init__")) = some (.type "function")) ∧ (PySem.W.nsIn K mainGlobals "TooMany" = some (some (.ref (He.ga K "TooMany")))) ∧ (Hm.oexB K (He.ga K "TooMany") = true) ∧ (PySem.W.findIn K (.ref (He.ga K "TooMany")) "__setattr__" = some (some (.builtin "object.__setattr__"))) ∧ (PySem.W.findIn K (.ref (He.ga K "TooMany")) "__getattribute__" = some (some (.builtin "BaseException.__getattribute__"))) ∧ (PySem.W.findIn K (.ref (He.ga K "TooMany")) "__getattr__" = some none) ∧ (PySem.W.subIn K (.ref (He.ga K "TooMany")) (.type "BaseException") = some true) ∧ (PySem.W.typeIn K (.ref (He.ga K "TooMany")) = some (.type "type")) ∧ (PySem.W.keepIn K (.ref (He.ga K "TooMany")) = true) := of_decide_eq_true h
def hm_ex_3 (K : PySem.W.Frag) : Bool := decide ((PySem.W.hasDictIn K (He.ga K "TooMany") = true) ∧ (PySem.W.findIn K (.ref (He.ga K "TooMany")) "__class__" = some (some (.builtin "object.__class__"))) ∧ (PySem.W.mroIn K (He.ga K "TooMany") (.type "object") = some true) ∧ (PySem.W.findIn K (.ref (He.ga K "TooMany")) "what" = some none) ∧ (PySem.W.findIn K (.ref (He.ga K "TooMany")) "many" = some none) ∧ (PySem.W.findIn K (.ref (He.ga K "TooMany")) "__init__" = some (some (.ref (He.ma K (He.ga K "TooMany") "__init__")))) ∧ (PySem.W.typeIn K (.ref (He.ma K (He.ga K "TooMany") "__init__")) = some (.type "function")) ∧ (PySem.W.nsIn K mainGlobals "BadStretch" = some (some (.ref (He.ga K "BadStretch")))) ∧ (Hm.oexB K (He.ga K "BadStretch") = true) ∧ (PySem.W.findIn K (.ref (He.ga K "BadStretch")) "__setattr__" = some (some (.builtin "object.__setattr__"))) ∧ (PySem.W.findIn K (.ref (He.ga K "BadStretch")) "__getattribute__" = some (some (.builtin "BaseException.__getattribute__"))) ∧ (PySem.W.findIn K (.ref (He.ga K "BadStretch")) "__getattr__" = some none) ∧ (PySem.W.subIn K (.ref (He.ga K "BadStretch")) (.type "BaseException") = some true) ∧ (PySem.W.typeIn K (.ref (He.ga K "BadStretch")) = some (.type "type")) ∧ (PySem.W.keepIn K (.ref (He.ga K "BadStretch")) = true) ∧ (PySem.W.hasDictIn K (He.ga K "BadStretch") = true))
theorem hm_ok_3 {K : PySem.W.Frag} (h : hm_ex_3 K = true) : (PySem.W.hasDictIn K (He.ga K "TooMany") = true) ∧ (PySem.W.findIn K (.ref (He.ga K "TooMany")) "__class__" = some (some (.builtin "object.__class__"))) ∧ (PySem.W.mroIn K (He.ga K "TooMany") (.type "object") = some true) ∧ (PySem.W.findIn K (.ref (He.ga K "TooMany")) "what" = some none) ∧ (PySem.W.findIn K (.ref (He.ga K "TooMany")) "many" = some none) ∧ (PySem.W.findIn K (.ref (He.ga K "TooMany")) "__init__" = some (some (.ref (He.ma K (He.ga K "TooMany") "__init__")))) ∧ (PySem.W.typeIn K (.ref (He.ma K (He.ga K "TooMany") "__init__")) = some (.type "function")) ∧ (PySem.W.nsIn K mainGlobals "BadStretch" = some (some (.ref (He.ga K "BadStretch")))) ∧ (Hm.oexB K (He.ga K "BadStretch") = true) ∧ (PySem.W.findIn K (.ref (He.ga K "BadStretch")) "__setattr__" = some (some (.builtin "object.__setattr__"))) ∧ (PySem.W.findIn K (.ref (He.ga K "BadStretch")) "__getattribute__" = some (some (.builtin "BaseException.__getattribute__"))) ∧ (PySem.W.findIn K (.ref (He.ga K "BadStretch")) "__getattr__" = some none) ∧ (PySem.W.subIn K (.ref (He.ga K "BadStretch")) (.type "BaseException") = some true) ∧ (PySem.W.typeIn K (.ref (He.ga K "BadStretch")) = some (.type "type")) ∧ (PySem.W.keepIn K (.ref (He.ga K "BadStretch")) = true) ∧ (PySem.W.hasDictIn K (He.ga K "BadStretch") = true) := of_decide_eq_true h
def hm_ex_4 (K : PySem.W.Frag) : Bool := decide ((PySem.W.findIn K (.ref (He.ga K "BadStretch")) "__class__" = some (some (.builtin "object.__class__"))) ∧ (PySem.W.mroIn K (He.ga K "BadStretch") (.type "object") = some true) ∧ (PySem.W.findIn K (.ref (He.ga K "BadStretch")) "at" = some none) ∧ (PySem.W.findIn K (.ref (He.ga K "BadStretch")) "__init__" = some (some (.ref (He.ma K (He.ga K "BadStretch") "__init__")))) ∧ (PySem.W.typeIn K (.ref (He.ma K (He.ga K "BadStretch") "__init__")) = some (.type "function")) ∧ (PySem.W.nsIn K mainGlobals "Pattern" = some (some (.ref (He.ga K "Pattern")))) ∧ (PySem.W.plainGet K (He.ga K "Pattern") Str.empty = true) ∧ (PySem.W.hasDictIn K (He.ga K "Pattern") = true) ∧ (PySem.W.plainOver K (He.ga K "Pattern") = true) ∧ (PySem.W.findIn K (.ref (He.ga K "Pattern")) "__setattr__" = some (some (.builtin "object.__setattr__"))) ∧ (PySem.W.keepIn K (.ref (He.ga K "Pattern")) = true) ∧ (PySem.W.findIn K (.ref (He.ga K "Pattern")) "__class__" = some (some (.builtin "object.__class__"))) ∧ (PySem.W.mroIn K (He.ga K "Pattern") (.type "object") = some true) ∧ (PySem.W.typeIn K (.ref (He.ga K "Pattern")) = some (.type "type")) ∧ (PySem.W.subIn K (.ref (He.ga K "Pattern")) (.ref (He.ga K "Pattern")) = some true) ∧ (PySem.W.findIn K (.ref (He.ga K "Pattern")) "head" = some none))
theorem hm_ok_4 {K : PySem.W.Frag} (h : hm_ex_4 K = true) : (PySem.W.findIn K (.ref (He.ga K "BadStretch")) "__class__" = some (some (.builtin "object.__class__"))) ∧ (PySem.W.mroIn K (He.ga K "BadStretch") (.type "object") = some true) ∧ (PySem.W.findIn K (.ref (He.ga K "BadStretch")) "at" = some none) ∧ (PySem.W.findIn K (.ref (He.ga K "BadStretch")) "__init__" = some (some (.ref (He.ma K (He.ga K "BadStretch") "__init__")))) ∧ (PySem.W.typeIn K (.ref (He.ma K (He.ga K "BadStretch") "__init__")) = some (.type "function")) ∧ (PySem.W.nsIn K mainGlobals "Pattern" = some (some (.ref (He.ga K "Pattern")))) ∧ (PySem.W.plainGet K (He.ga K "Pattern") Str.empty = true) ∧ (PySem.W.hasDictIn K (He.ga K "Pattern") = true) ∧ (PySem.W.plainOver K (He.ga K "Pattern") = true) ∧ (PySem.W.findIn K (.ref (He.ga K "Pattern")) "__setattr__" = some (some (.builtin "object.__setattr__"))) ∧ (PySem.W.keepIn K (.ref (He.ga K "Pattern")) = true) ∧ (PySem.W.findIn K (.ref (He.ga K "Pattern")) "__class__" = some (some (.builtin "object.__class__"))) ∧ (PySem.W.mroIn K (He.ga K "Pattern") (.type "object") = some true) ∧ (PySem.W.typeIn K (.ref (He.ga K "Pattern")) = some (.type "type")) ∧ (PySem.W.subIn K (.ref (He.ga K "Pattern")) (.ref (He.ga K "Pattern")) = some true) ∧ (PySem.W.findIn K (.ref (He.ga K "Pattern")) "head" = some none) := of_decide_eq_true h
def hm_ex_5 (K : PySem.W.Frag) : Bool := decide ((PySem.W.findIn K (.ref (He.ga K "Pattern")) "period" = some none) ∧ (PySem.W.findIn K (.ref (He.ga K "Pattern")) "stretches" = some none) ∧ (PySem.W.findIn K (.ref (He.ga K "Pattern")) "_sums" = some none) ∧ (PySem.W.findIn K (.ref (He.ga K "Pattern")) "_front" = some none) ∧ (PySem.W.makesIn K (He.ga K "Pattern") = true) ∧ (PySem.W.findIn K (.ref (He.ga K "Pattern")) "__init__" = some (some (.ref (He.ma K (He.ga K "Pattern") "__init__")))) ∧ (PySem.W.isFn K (.ref (He.ma K (He.ga K "Pattern") "__init__")) = true) ∧ (PySem.W.readsIn K (He.ga K "Pattern") (.type "type") = true) ∧ (PySem.W.specialIn K (.ref (He.ga K "Pattern")) "__getattribute__" = some (some (.builtin "type.__getattribute__"))) ∧ ((match PySem.W.findCls K (.ref (He.ga K "Pattern")) (.type "type") "never" with | some (.get (.builtin g) (.ref p) .none (.ref D)) => decide (g = "staticmethod.__get__") && (decide (p = (He.ma K (He.ga K "Pattern") "never")) && decide (D = (He.ga K "Pattern"))) | _ => false) = true) ∧ (Hm.rcB K (He.ma K (He.ga K "Pattern") "never") "staticmethod" = true) ∧ ((match PySem.W.findCls K (.ref (He.ga K "Pattern")) (.type "type") "every" with | some (.get (.builtin g) (.ref p) .none (.ref D)) => decide (g = "staticmethod.__get__") && (decide (p = (He.ma K (He.ga K "Pattern") "every")) && decide (D = (He.ga K "Pattern"))) | _ => false) = true) ∧ (Hm.rcB K (He.ma K (He.ga K "Pattern") "every") "staticmethod" = true) ∧ (PySem.W.findIn K (.ref (He.ga K "Pattern")) "__contains__" = some (some (.ref (He.ma K (He.ga K "Pattern") "__contains__")))) ∧ (PySem.W.isFn K (.ref (He.ma K (He.ga K "Pattern") "__contains__")) = true) ∧ (PySem.W.findIn K (.ref (He.ga K "Pattern")) "finite" = some (some (.ref (He.ma K (He.ga K "Pattern") "finite")))))
theorem hm_ok_5 {K : PySem.W.Frag} (h : hm_ex_5 K = true) : (PySem.W.findIn K (.ref (He.ga K "Pattern")) "period" = some none) ∧ (PySem.W.findIn K (.ref (He.ga K "Pattern")) "stretches" = some none) ∧ (PySem.W.findIn K (.ref (He.ga K "Pattern")) "_sums" = some none) ∧ (PySem.W.findIn K (.ref (He.ga K "Pattern")) "_front" = some none) ∧ (PySem.W.makesIn K (He.ga K "Pattern") = true) ∧ (PySem.W.findIn K (.ref (He.ga K "Pattern")) "__init__" = some (some (.ref (He.ma K (He.ga K "Pattern") "__init__")))) ∧ (PySem.W.isFn K (.ref (He.ma K (He.ga K "Pattern") "__init__")) = true) ∧ (PySem.W.readsIn K (He.ga K "Pattern") (.type "type") = true) ∧ (PySem.W.specialIn K (.ref (He.ga K "Pattern")) "__getattribute__" = some (some (.builtin "type.__getattribute__"))) ∧ ((match PySem.W.findCls K (.ref (He.ga K "Pattern")) (.type "type") "never" with | some (.get (.builtin g) (.ref p) .none (.ref D)) => decide (g = "staticmethod.__get__") && (decide (p = (He.ma K (He.ga K "Pattern") "never")) && decide (D = (He.ga K "Pattern"))) | _ => false) = true) ∧ (Hm.rcB K (He.ma K (He.ga K "Pattern") "never") "staticmethod" = true) ∧ ((match PySem.W.findCls K (.ref (He.ga K "Pattern")) (.type "type") "every" with | some (.get (.builtin g) (.ref p) .none (.ref D)) => decide (g = "staticmethod.__get__") && (decide (p = (He.ma K (He.ga K "Pattern") "every")) && decide (D = (He.ga K "Pattern"))) | _ => false) = true) ∧ (Hm.rcB K (He.ma K (He.ga K "Pattern") "every") "staticmethod" = true) ∧ (PySem.W.findIn K (.ref (He.ga K "Pattern")) "__contains__" = some (some (.ref (He.ma K (He.ga K "Pattern") "__contains__")))) ∧ (PySem.W.isFn K (.ref (He.ma K (He.ga K "Pattern") "__contains__")) = true) ∧ (PySem.W.findIn K (.ref (He.ga K "Pattern")) "finite" = some (some (.ref (He.ma K (He.ga K "Pattern") "finite")))) := of_decide_eq_true h
def hm_ex_6 (K : PySem.W.Frag) : Bool := decide ((PySem.W.specialIn K (.ref (He.ma K (He.ga K "Pattern") "finite")) "__get__" = some (some (.builtin "property.__get__"))) ∧ (PySem.W.takesIn K (.ref (He.ma K (He.ga K "Pattern") "finite")) = some true) ∧ (Hm.rcB K (He.ma K (He.ga K "Pattern") "finite") "property" = true) ∧ (PySem.W.findIn K (.ref (He.ga K "Pattern")) "empty" = some (some (.ref (He.ma K (He.ga K "Pattern") "empty")))) ∧ (PySem.W.specialIn K (.ref (He.ma K (He.ga K "Pattern") "empty")) "__get__" = some (some (.builtin "property.__get__"))) ∧ (PySem.W.takesIn K (.ref (He.ma K (He.ga K "Pattern") "empty")) = some true) ∧ (Hm.rcB K (He.ma K (He.ga K "Pattern") "empty") "property" = true) ∧ (PySem.W.findIn K (.ref (He.ga K "Pattern")) "number_in" = some (some (.ref (He.ma K (He.ga K "Pattern") "number_in")))) ∧ (PySem.W.isFn K (.ref (He.ma K (He.ga K "Pattern") "number_in")) = true) ∧ (PySem.W.findIn K (.ref (He.ga K "Pattern")) "minute_at" = some (some (.ref (He.ma K (He.ga K "Pattern") "minute_at")))) ∧ (PySem.W.isFn K (.ref (He.ma K (He.ga K "Pattern") "minute_at")) = true) ∧ (PySem.W.findIn K (.ref (He.ga K "Pattern")) "first_from" = some (some (.ref (He.ma K (He.ga K "Pattern") "first_from")))) ∧ (PySem.W.isFn K (.ref (He.ma K (He.ga K "Pattern") "first_from")) = true) ∧ (PySem.W.findIn K (.ref (He.ga K "Pattern")) "last_before" = some (some (.ref (He.ma K (He.ga K "Pattern") "last_before")))) ∧ (PySem.W.isFn K (.ref (He.ma K (He.ga K "Pattern") "last_before")) = true) ∧ (PySem.W.findIn K (.ref (He.ga K "Pattern")) "each_minute" = some (some (.ref (He.ma K (He.ga K "Pattern") "each_minute")))))
theorem hm_ok_6 {K : PySem.W.Frag} (h : hm_ex_6 K = true) : (PySem.W.specialIn K (.ref (He.ma K (He.ga K "Pattern") "finite")) "__get__" = some (some (.builtin "property.__get__"))) ∧ (PySem.W.takesIn K (.ref (He.ma K (He.ga K "Pattern") "finite")) = some true) ∧ (Hm.rcB K (He.ma K (He.ga K "Pattern") "finite") "property" = true) ∧ (PySem.W.findIn K (.ref (He.ga K "Pattern")) "empty" = some (some (.ref (He.ma K (He.ga K "Pattern") "empty")))) ∧ (PySem.W.specialIn K (.ref (He.ma K (He.ga K "Pattern") "empty")) "__get__" = some (some (.builtin "property.__get__"))) ∧ (PySem.W.takesIn K (.ref (He.ma K (He.ga K "Pattern") "empty")) = some true) ∧ (Hm.rcB K (He.ma K (He.ga K "Pattern") "empty") "property" = true) ∧ (PySem.W.findIn K (.ref (He.ga K "Pattern")) "number_in" = some (some (.ref (He.ma K (He.ga K "Pattern") "number_in")))) ∧ (PySem.W.isFn K (.ref (He.ma K (He.ga K "Pattern") "number_in")) = true) ∧ (PySem.W.findIn K (.ref (He.ga K "Pattern")) "minute_at" = some (some (.ref (He.ma K (He.ga K "Pattern") "minute_at")))) ∧ (PySem.W.isFn K (.ref (He.ma K (He.ga K "Pattern") "minute_at")) = true) ∧ (PySem.W.findIn K (.ref (He.ga K "Pattern")) "first_from" = some (some (.ref (He.ma K (He.ga K "Pattern") "first_from")))) ∧ (PySem.W.isFn K (.ref (He.ma K (He.ga K "Pattern") "first_from")) = true) ∧ (PySem.W.findIn K (.ref (He.ga K "Pattern")) "last_before" = some (some (.ref (He.ma K (He.ga K "Pattern") "last_before")))) ∧ (PySem.W.isFn K (.ref (He.ma K (He.ga K "Pattern") "last_before")) = true) ∧ (PySem.W.findIn K (.ref (He.ga K "Pattern")) "each_minute" = some (some (.ref (He.ma K (He.ga K "Pattern") "each_minute")))) := of_decide_eq_true h
def hm_ex_7 (K : PySem.W.Frag) : Bool := decide ((PySem.W.isFn K (.ref (He.ma K (He.ga K "Pattern") "each_minute")) = true) ∧ (PySem.W.findIn K (.ref (He.ga K "Pattern")) "_run_end" = some (some (.ref (He.ma K (He.ga K "Pattern") "_run_end")))) ∧ (PySem.W.isFn K (.ref (He.ma K (He.ga K "Pattern") "_run_end")) = true) ∧ (PySem.W.findIn K (.ref (He.ga K "Pattern")) "_near" = some (some (.ref (He.ma K (He.ga K "Pattern") "_near")))) ∧ (PySem.W.isFn K (.ref (He.ma K (He.ga K "Pattern") "_near")) = true) ∧ (PySem.W.findIn K (.ref (He.ga K "Pattern")) "_below" = some (some (.ref (He.ma K (He.ga K "Pattern") "_below")))) ∧ (PySem.W.isFn K (.ref (He.ma K (He.ga K "Pattern") "_below")) = true) ∧ (PySem.W.findIn K (.ref (He.ga K "Pattern")) "_nth" = some (some (.ref (He.ma K (He.ga K "Pattern") "_nth")))) ∧ (PySem.W.isFn K (.ref (He.ma K (He.ga K "Pattern") "_nth")) = true) ∧ (PySem.W.subIn K (.ref (He.ga K "DueError")) (.ref (He.ga K "DueError")) = some true) ∧ (PySem.W.subIn K (.ref (He.ga K "DueError")) (.ref (He.ga K "OutOfRange")) = some false) ∧ (PySem.W.subIn K (.ref (He.ga K "OutOfRange")) (.ref (He.ga K "OutOfRange")) = some true) ∧ (PySem.W.subIn K (.ref (He.ga K "DueError")) (.ref (He.ga K "TooMany")) = some false) ∧ (PySem.W.subIn K (.ref (He.ga K "TooMany")) (.ref (He.ga K "TooMany")) = some true) ∧ (PySem.W.subIn K (.ref (He.ga K "DueError")) (.ref (He.ga K "BadStretch")) = some false) ∧ (PySem.W.subIn K (.ref (He.ga K "BadStretch")) (.ref (He.ga K "BadStretch")) = some true))
theorem hm_ok_7 {K : PySem.W.Frag} (h : hm_ex_7 K = true) : (PySem.W.isFn K (.ref (He.ma K (He.ga K "Pattern") "each_minute")) = true) ∧ (PySem.W.findIn K (.ref (He.ga K "Pattern")) "_run_end" = some (some (.ref (He.ma K (He.ga K "Pattern") "_run_end")))) ∧ (PySem.W.isFn K (.ref (He.ma K (He.ga K "Pattern") "_run_end")) = true) ∧ (PySem.W.findIn K (.ref (He.ga K "Pattern")) "_near" = some (some (.ref (He.ma K (He.ga K "Pattern") "_near")))) ∧ (PySem.W.isFn K (.ref (He.ma K (He.ga K "Pattern") "_near")) = true) ∧ (PySem.W.findIn K (.ref (He.ga K "Pattern")) "_below" = some (some (.ref (He.ma K (He.ga K "Pattern") "_below")))) ∧ (PySem.W.isFn K (.ref (He.ma K (He.ga K "Pattern") "_below")) = true) ∧ (PySem.W.findIn K (.ref (He.ga K "Pattern")) "_nth" = some (some (.ref (He.ma K (He.ga K "Pattern") "_nth")))) ∧ (PySem.W.isFn K (.ref (He.ma K (He.ga K "Pattern") "_nth")) = true) ∧ (PySem.W.subIn K (.ref (He.ga K "DueError")) (.ref (He.ga K "DueError")) = some true) ∧ (PySem.W.subIn K (.ref (He.ga K "DueError")) (.ref (He.ga K "OutOfRange")) = some false) ∧ (PySem.W.subIn K (.ref (He.ga K "OutOfRange")) (.ref (He.ga K "OutOfRange")) = some true) ∧ (PySem.W.subIn K (.ref (He.ga K "DueError")) (.ref (He.ga K "TooMany")) = some false) ∧ (PySem.W.subIn K (.ref (He.ga K "TooMany")) (.ref (He.ga K "TooMany")) = some true) ∧ (PySem.W.subIn K (.ref (He.ga K "DueError")) (.ref (He.ga K "BadStretch")) = some false) ∧ (PySem.W.subIn K (.ref (He.ga K "BadStretch")) (.ref (He.ga K "BadStretch")) = some true) := of_decide_eq_true h
def hm_ex_8 (K : PySem.W.Frag) : Bool := decide ((PySem.W.subIn K (.ref (He.ga K "DueError")) (.type "ValueError") = some true) ∧ (PySem.W.subIn K (.ref (He.ga K "OutOfRange")) (.ref (He.ga K "DueError")) = some true) ∧ (PySem.W.subIn K (.ref (He.ga K "OutOfRange")) (.ref (He.ga K "TooMany")) = some false) ∧ (PySem.W.subIn K (.ref (He.ga K "OutOfRange")) (.ref (He.ga K "BadStretch")) = some false) ∧ (PySem.W.subIn K (.ref (He.ga K "OutOfRange")) (.type "StopIteration") = some false) ∧ (PySem.W.subIn K (.ref (He.ga K "OutOfRange")) (.type "ValueError") = some true) ∧ (PySem.W.subIn K (.ref (He.ga K "TooMany")) (.ref (He.ga K "DueError")) = some true) ∧ (PySem.W.subIn K (.ref (He.ga K "TooMany")) (.ref (He.ga K "OutOfRange")) = some false) ∧ (PySem.W.subIn K (.ref (He.ga K "TooMany")) (.ref (He.ga K "BadStretch")) = some false) ∧ (PySem.W.subIn K (.ref (He.ga K "TooMany")) (.type "ValueError") = some true) ∧ (PySem.W.subIn K (.ref (He.ga K "BadStretch")) (.ref (He.ga K "DueError")) = some true) ∧ (PySem.W.subIn K (.ref (He.ga K "BadStretch")) (.ref (He.ga K "OutOfRange")) = some false) ∧ (PySem.W.subIn K (.ref (He.ga K "BadStretch")) (.ref (He.ga K "TooMany")) = some false) ∧ (PySem.W.subIn K (.ref (He.ga K "BadStretch")) (.type "ValueError") = some true) ∧ (PySem.W.nsIn K mainGlobals "tidy" = some (some (.ref (He.ga K "tidy")))) ∧ (PySem.W.nsIn K mainGlobals "starts_below" = some (some (.ref (He.ga K "starts_below")))))
theorem hm_ok_8 {K : PySem.W.Frag} (h : hm_ex_8 K = true) : (PySem.W.subIn K (.ref (He.ga K "DueError")) (.type "ValueError") = some true) ∧ (PySem.W.subIn K (.ref (He.ga K "OutOfRange")) (.ref (He.ga K "DueError")) = some true) ∧ (PySem.W.subIn K (.ref (He.ga K "OutOfRange")) (.ref (He.ga K "TooMany")) = some false) ∧ (PySem.W.subIn K (.ref (He.ga K "OutOfRange")) (.ref (He.ga K "BadStretch")) = some false) ∧ (PySem.W.subIn K (.ref (He.ga K "OutOfRange")) (.type "StopIteration") = some false) ∧ (PySem.W.subIn K (.ref (He.ga K "OutOfRange")) (.type "ValueError") = some true) ∧ (PySem.W.subIn K (.ref (He.ga K "TooMany")) (.ref (He.ga K "DueError")) = some true) ∧ (PySem.W.subIn K (.ref (He.ga K "TooMany")) (.ref (He.ga K "OutOfRange")) = some false) ∧ (PySem.W.subIn K (.ref (He.ga K "TooMany")) (.ref (He.ga K "BadStretch")) = some false) ∧ (PySem.W.subIn K (.ref (He.ga K "TooMany")) (.type "ValueError") = some true) ∧ (PySem.W.subIn K (.ref (He.ga K "BadStretch")) (.ref (He.ga K "DueError")) = some true) ∧ (PySem.W.subIn K (.ref (He.ga K "BadStretch")) (.ref (He.ga K "OutOfRange")) = some false) ∧ (PySem.W.subIn K (.ref (He.ga K "BadStretch")) (.ref (He.ga K "TooMany")) = some false) ∧ (PySem.W.subIn K (.ref (He.ga K "BadStretch")) (.type "ValueError") = some true) ∧ (PySem.W.nsIn K mainGlobals "tidy" = some (some (.ref (He.ga K "tidy")))) ∧ (PySem.W.nsIn K mainGlobals "starts_below" = some (some (.ref (He.ga K "starts_below")))) := of_decide_eq_true h
def hm_ex_9 (K : PySem.W.Frag) : Bool := decide ((PySem.W.nsIn K mainGlobals "clip" = some (some (.ref (He.ga K "clip")))) ∧ (PySem.W.nsIn K mainGlobals "round_steps" = some (some (.ref (He.ga K "round_steps")))) ∧ (PySem.W.nsIn K mainGlobals "least_period" = some (some (.ref (He.ga K "least_period")))) ∧ (PySem.W.nsIn K mainGlobals "least_head" = some (some (.ref (He.ga K "least_head")))) ∧ (PySem.W.nsIn K mainGlobals "in_range" = some (some (.ref (He.ga K "in_range")))) ∧ (PySem.W.nsIn K mainGlobals "gaps" = some (some (.ref (He.ga K "gaps")))) ∧ (PySem.W.nsIn K mainGlobals "shortest_gap" = some (some (.ref (He.ga K "shortest_gap")))) ∧ (PySem.W.nsIn K mainGlobals "longest_gap" = some (some (.ref (He.ga K "longest_gap")))) ∧ (PySem.W.nsIn K mainGlobals "_law_start" = some (some (.ref (He.ga K "_law_start")))) ∧ (PySem.W.nsIn K mainGlobals "_law_draw" = some (some (.ref (He.ga K "_law_draw")))) ∧ (PySem.W.nsIn K mainGlobals "_law_far" = some (some (.ref (He.ga K "_law_far")))) ∧ (PySem.W.nsIn K mainGlobals "_law_drawn" = some (some (.ref (He.ga K "_law_drawn")))) ∧ (PySem.W.nsIn K mainGlobals "_law_pick_factor" = some (some (.ref (He.ga K "_law_pick_factor")))) ∧ (PySem.W.nsIn K mainGlobals "_law_pattern" = some (some (.ref (He.ga K "_law_pattern")))) ∧ (PySem.W.nsIn K mainGlobals "_law_is_in" = some (some (.ref (He.ga K "_law_is_in")))) ∧ (PySem.W.nsIn K mainGlobals "_law_below" = some (some (.ref (He.ga K "_law_below")))))
theorem hm_ok_9 {K : PySem.W.Frag} (h : hm_ex_9 K = true) : (PySem.W.nsIn K mainGlobals "clip" = some (some (.ref (He.ga K "clip")))) ∧ (PySem.W.nsIn K mainGlobals "round_steps" = some (some (.ref (He.ga K "round_steps")))) ∧ (PySem.W.nsIn K mainGlobals "least_period" = some (some (.ref (He.ga K "least_period")))) ∧ (PySem.W.nsIn K mainGlobals "least_head" = some (some (.ref (He.ga K "least_head")))) ∧ (PySem.W.nsIn K mainGlobals "in_range" = some (some (.ref (He.ga K "in_range")))) ∧ (PySem.W.nsIn K mainGlobals "gaps" = some (some (.ref (He.ga K "gaps")))) ∧ (PySem.W.nsIn K mainGlobals "shortest_gap" = some (some (.ref (He.ga K "shortest_gap")))) ∧ (PySem.W.nsIn K mainGlobals "longest_gap" = some (some (.ref (He.ga K "longest_gap")))) ∧ (PySem.W.nsIn K mainGlobals "_law_start" = some (some (.ref (He.ga K "_law_start")))) ∧ (PySem.W.nsIn K mainGlobals "_law_draw" = some (some (.ref (He.ga K "_law_draw")))) ∧ (PySem.W.nsIn K mainGlobals "_law_far" = some (some (.ref (He.ga K "_law_far")))) ∧ (PySem.W.nsIn K mainGlobals "_law_drawn" = some (some (.ref (He.ga K "_law_drawn")))) ∧ (PySem.W.nsIn K mainGlobals "_law_pick_factor" = some (some (.ref (He.ga K "_law_pick_factor")))) ∧ (PySem.W.nsIn K mainGlobals "_law_pattern" = some (some (.ref (He.ga K "_law_pattern")))) ∧ (PySem.W.nsIn K mainGlobals "_law_is_in" = some (some (.ref (He.ga K "_law_is_in")))) ∧ (PySem.W.nsIn K mainGlobals "_law_below" = some (some (.ref (He.ga K "_law_below")))) := of_decide_eq_true h
def hm_ex_10 (K : PySem.W.Frag) : Bool := decide ((PySem.W.nsIn K mainGlobals "_law_place" = some (some (.ref (He.ga K "_law_place")))) ∧ (PySem.W.nsIn K mainGlobals "_law_gaps" = some (some (.ref (He.ga K "_law_gaps")))) ∧ (PySem.W.nsIn K mainGlobals "_law_int" = some (some (.ref (He.ga K "_law_int")))) ∧ (PySem.W.nsIn K mainGlobals "_law_same" = some (some (.ref (He.ga K "_law_same")))) ∧ (PySem.W.nsIn K mainGlobals "_law_pair" = some (some (.ref (He.ga K "_law_pair")))) ∧ (PySem.W.nsIn K mainGlobals "_law_row" = some (some (.ref (He.ga K "_law_row")))) ∧ (PySem.W.nsIn K mainGlobals "_law_made" = some (some (.ref (He.ga K "_law_made")))) ∧ (PySem.W.nsIn K mainGlobals "_law_asked" = some (some (.ref (He.ga K "_law_asked")))) ∧ (PySem.W.nsIn K mainGlobals "_law_looks" = some (some (.ref (He.ga K "_law_looks")))) ∧ (PySem.W.nsIn K mainGlobals "_law_spans" = some (some (.ref (He.ga K "_law_spans")))) ∧ (PySem.W.nsIn K mainGlobals "_law_refused" = some (some (.ref (He.ga K "_law_refused")))) ∧ (PySem.W.nsIn K mainGlobals "_law_large" = some (some (.ref (He.ga K "_law_large")))) ∧ (PySem.W.nsIn K mainGlobals "_law_whole" = some (some (.ref (He.ga K "_law_whole")))) ∧ (PySem.W.nsIn K mainGlobals "law" = some (some (.ref (He.ga K "law")))) ∧ (Hm.gInt K "MOST_STRETCHES" 5000 = true) ∧ (Hm.gInt K "FAR" (10 ^ 40) = true))
theorem hm_ok_10 {K : PySem.W.Frag} (h : hm_ex_10 K = true) : (PySem.W.nsIn K mainGlobals "_law_place" = some (some (.ref (He.ga K "_law_place")))) ∧ (PySem.W.nsIn K mainGlobals "_law_gaps" = some (some (.ref (He.ga K "_law_gaps")))) ∧ (PySem.W.nsIn K mainGlobals "_law_int" = some (some (.ref (He.ga K "_law_int")))) ∧ (PySem.W.nsIn K mainGlobals "_law_same" = some (some (.ref (He.ga K "_law_same")))) ∧ (PySem.W.nsIn K mainGlobals "_law_pair" = some (some (.ref (He.ga K "_law_pair")))) ∧ (PySem.W.nsIn K mainGlobals "_law_row" = some (some (.ref (He.ga K "_law_row")))) ∧ (PySem.W.nsIn K mainGlobals "_law_made" = some (some (.ref (He.ga K "_law_made")))) ∧ (PySem.W.nsIn K mainGlobals "_law_asked" = some (some (.ref (He.ga K "_law_asked")))) ∧ (PySem.W.nsIn K mainGlobals "_law_looks" = some (some (.ref (He.ga K "_law_looks")))) ∧ (PySem.W.nsIn K mainGlobals "_law_spans" = some (some (.ref (He.ga K "_law_spans")))) ∧ (PySem.W.nsIn K mainGlobals "_law_refused" = some (some (.ref (He.ga K "_law_refused")))) ∧ (PySem.W.nsIn K mainGlobals "_law_large" = some (some (.ref (He.ga K "_law_large")))) ∧ (PySem.W.nsIn K mainGlobals "_law_whole" = some (some (.ref (He.ga K "_law_whole")))) ∧ (PySem.W.nsIn K mainGlobals "law" = some (some (.ref (He.ga K "law")))) ∧ (Hm.gInt K "MOST_STRETCHES" 5000 = true) ∧ (Hm.gInt K "FAR" (10 ^ 40) = true) := of_decide_eq_true h
def hm_ex_11 (K : PySem.W.Frag) : Bool := decide ((Hm.gInt K "LONG" (10 ^ 12) = true) ∧ (PySem.W.nsIn K mainGlobals "ValueError" = some none) ∧ (PySem.W.nsIn K mainGlobals "bool" = some none) ∧ (PySem.W.nsIn K mainGlobals "divmod" = some none) ∧ (PySem.W.nsIn K mainGlobals "enumerate" = some none) ∧ (PySem.W.nsIn K mainGlobals "int" = some none) ∧ (PySem.W.nsIn K mainGlobals "isinstance" = some none) ∧ (PySem.W.nsIn K mainGlobals "len" = some none) ∧ (PySem.W.nsIn K mainGlobals "list" = some none) ∧ (PySem.W.nsIn K mainGlobals "max" = some none) ∧ (PySem.W.nsIn K mainGlobals "min" = some none) ∧ (PySem.W.nsIn K mainGlobals "property" = some none) ∧ (PySem.W.nsIn K mainGlobals "range" = some none) ∧ (PySem.W.nsIn K mainGlobals "sorted" = some none) ∧ (PySem.W.nsIn K mainGlobals "staticmethod" = some none) ∧ (PySem.W.nsIn K mainGlobals "tuple" = some none))
theorem hm_ok_11 {K : PySem.W.Frag} (h : hm_ex_11 K = true) : (Hm.gInt K "LONG" (10 ^ 12) = true) ∧ (PySem.W.nsIn K mainGlobals "ValueError" = some none) ∧ (PySem.W.nsIn K mainGlobals "bool" = some none) ∧ (PySem.W.nsIn K mainGlobals "divmod" = some none) ∧ (PySem.W.nsIn K mainGlobals "enumerate" = some none) ∧ (PySem.W.nsIn K mainGlobals "int" = some none) ∧ (PySem.W.nsIn K mainGlobals "isinstance" = some none) ∧ (PySem.W.nsIn K mainGlobals "len" = some none) ∧ (PySem.W.nsIn K mainGlobals "list" = some none) ∧ (PySem.W.nsIn K mainGlobals "max" = some none) ∧ (PySem.W.nsIn K mainGlobals "min" = some none) ∧ (PySem.W.nsIn K mainGlobals "property" = some none) ∧ (PySem.W.nsIn K mainGlobals "range" = some none) ∧ (PySem.W.nsIn K mainGlobals "sorted" = some none) ∧ (PySem.W.nsIn K mainGlobals "staticmethod" = some none) ∧ (PySem.W.nsIn K mainGlobals "tuple" = some none) := of_decide_eq_true h
def hm_ex_12 (K : PySem.W.Frag) : Bool := decide ((PySem.W.nsIn K mainGlobals "zip" = some none))
theorem hm_ok_12 {K : PySem.W.Frag} (h : hm_ex_12 K = true) : (PySem.W.nsIn K mainGlobals "zip" = some none) := of_decide_eq_true h
def hm_ex : List (PySem.W.Frag → Bool) := [hm_ex_0, hm_ex_1, hm_ex_2, hm_ex_3, hm_ex_4, hm_ex_5, hm_ex_6, hm_ex_7, hm_ex_8, hm_ex_9, hm_ex_10, hm_ex_11, hm_ex_12]
def hm_fn_0 : List (He5.DefA) := [⟨fun K => (He.ga K "tidy"), "tidy", "tidy", defArgs s_tidy, defBody s_tidy, defScope s_tidy, [], []⟩,
  ⟨fun K => (He.ga K "starts_below"), "starts_below", "starts_below", defArgs s_starts_below, defBody s_starts_below, defScope s_starts_below, [], []⟩,
  ⟨fun K => (He.ga K "clip"), "clip", "clip", defArgs s_clip, defBody s_clip, defScope s_clip, [], []⟩,
  ⟨fun K => (He.ga K "round_steps"), "round_steps", "round_steps", defArgs s_round_steps, defBody s_round_steps, defScope s_round_steps, [], []⟩,
  ⟨fun K => (He.ga K "least_period"), "least_period", "least_period", defArgs s_least_period, defBody s_least_period, defScope s_least_period, [], []⟩,
  ⟨fun K => (He.ga K "least_head"), "least_head", "least_head", defArgs s_least_head, defBody s_least_head, defScope s_least_head, [], []⟩,
  ⟨fun K => (He.ma K (He.ga K "Form") "__init__"), "__init__", "Form.__init__", defArgs s_Form_init, defBody s_Form_init, defScope s_Form_init, [], []⟩,
  ⟨fun K => (He.ma K (He.ga K "OutOfRange") "__init__"), "__init__", "OutOfRange.__init__", defArgs s_OutOfRange_init, defBody s_OutOfRange_init, defScope s_OutOfRange_init, [], []⟩,
  ⟨fun K => (He.ma K (He.ga K "TooMany") "__init__"), "__init__", "TooMany.__init__", defArgs s_TooMany_init, defBody s_TooMany_init, defScope s_TooMany_init, [], []⟩,
  ⟨fun K => (He.ma K (He.ga K "BadStretch") "__init__"), "__init__", "BadStretch.__init__", defArgs s_BadStretch_init, defBody s_BadStretch_init, defScope s_BadStretch_init, [], []⟩,
  ⟨fun K => (He.ga K "in_range"), "in_range", "in_range", defArgs s_in_range, defBody s_in_range, defScope s_in_range, [], []⟩,
  ⟨fun K => (He.ma K (He.ga K "Pattern") "__init__"), "__init__", "Pattern.__init__", defArgs s_Pattern_init, defBody s_Pattern_init, defScope s_Pattern_init, [], []⟩,
  ⟨fun K => (Hm.rc1 K (He.ma K (He.ga K "Pattern") "never") "staticmethod"), "never", "Pattern.never", defArgs s_Pattern_never, defBody s_Pattern_never, defScope s_Pattern_never, [], []⟩,
  ⟨fun K => (Hm.rc1 K (He.ma K (He.ga K "Pattern") "every") "staticmethod"), "every", "Pattern.every", defArgs s_Pattern_every, defBody s_Pattern_every, defScope s_Pattern_every, [.int 0], []⟩,
  ⟨fun K => (He.ma K (He.ga K "Pattern") "__contains__"), "__contains__", "Pattern.__contains__", defArgs s_Pattern_contains, defBody s_Pattern_contains, defScope s_Pattern_contains, [], []⟩,
  ⟨fun K => (Hm.rc1 K (He.ma K (He.ga K "Pattern") "finite") "property"), "finite", "Pattern.finite", defArgs s_Pattern_finite, defBody s_Pattern_finite, defScope s_Pattern_finite, [], []⟩,
  ⟨fun K => (Hm.rc1 K (He.ma K (He.ga K "Pattern") "empty") "property"), "empty", "Pattern.empty", defArgs s_Pattern_empty, defBody s_Pattern_empty, defScope s_Pattern_empty, [], []⟩,
  ⟨fun K => (He.ma K (He.ga K "Pattern") "number_in"), "number_in", "Pattern.number_in", defArgs s_Pattern_number_in, defBody s_Pattern_number_in, defScope s_Pattern_number_in, [], []⟩,
  ⟨fun K => (He.ma K (He.ga K "Pattern") "minute_at"), "minute_at", "Pattern.minute_at", defArgs s_Pattern_minute_at, defBody s_Pattern_minute_at, defScope s_Pattern_minute_at, [], []⟩,
  ⟨fun K => (He.ma K (He.ga K "Pattern") "first_from"), "first_from", "Pattern.first_from", defArgs s_Pattern_first_from, defBody s_Pattern_first_from, defScope s_Pattern_first_from, [], []⟩,
  ⟨fun K => (He.ma K (He.ga K "Pattern") "last_before"), "last_before", "Pattern.last_before", defArgs s_Pattern_last_before, defBody s_Pattern_last_before, defScope s_Pattern_last_before, [], []⟩,
  ⟨fun K => (He.ma K (He.ga K "Pattern") "each_minute"), "each_minute", "Pattern.each_minute", defArgs s_Pattern_each_minute, defBody s_Pattern_each_minute, defScope s_Pattern_each_minute, [], []⟩,
  ⟨fun K => (He.ma K (He.ga K "Pattern") "_run_end"), "_run_end", "Pattern._run_end", defArgs s_Pattern_run_end, defBody s_Pattern_run_end, defScope s_Pattern_run_end, [], []⟩,
  ⟨fun K => (He.ma K (He.ga K "Pattern") "_near"), "_near", "Pattern._near", defArgs s_Pattern_near, defBody s_Pattern_near, defScope s_Pattern_near, [], []⟩,
  ⟨fun K => (He.ma K (He.ga K "Pattern") "_below"), "_below", "Pattern._below", defArgs s_Pattern_below, defBody s_Pattern_below, defScope s_Pattern_below, [], []⟩,
  ⟨fun K => (He.ma K (He.ga K "Pattern") "_nth"), "_nth", "Pattern._nth", defArgs s_Pattern_nth, defBody s_Pattern_nth, defScope s_Pattern_nth, [], []⟩,
  ⟨fun K => (He.ga K "gaps"), "gaps", "gaps", defArgs s_gaps, defBody s_gaps, defScope s_gaps, [], []⟩,
  ⟨fun K => (He.ga K "shortest_gap"), "shortest_gap", "shortest_gap", defArgs s_shortest_gap, defBody s_shortest_gap, defScope s_shortest_gap, [], []⟩,
  ⟨fun K => (He.ga K "longest_gap"), "longest_gap", "longest_gap", defArgs s_longest_gap, defBody s_longest_gap, defScope s_longest_gap, [], []⟩,
  ⟨fun K => (He.ga K "_law_start"), "_law_start", "_law_start", defArgs s__law_start, defBody s__law_start, defScope s__law_start, [], []⟩]
def hm_fn_1 : List (He5.DefA) := [⟨fun K => (He.ga K "_law_draw"), "_law_draw", "_law_draw", defArgs s__law_draw, defBody s__law_draw, defScope s__law_draw, [], []⟩,
  ⟨fun K => (He.ga K "_law_far"), "_law_far", "_law_far", defArgs s__law_far, defBody s__law_far, defScope s__law_far, [], []⟩,
  ⟨fun K => (He.ga K "_law_drawn"), "_law_drawn", "_law_drawn", defArgs s__law_drawn, defBody s__law_drawn, defScope s__law_drawn, [], []⟩,
  ⟨fun K => (He.ga K "_law_pick_factor"), "_law_pick_factor", "_law_pick_factor", defArgs s__law_pick_factor, defBody s__law_pick_factor, defScope s__law_pick_factor, [], []⟩,
  ⟨fun K => (He.ga K "_law_pattern"), "_law_pattern", "_law_pattern", defArgs s__law_pattern, defBody s__law_pattern, defScope s__law_pattern, [], []⟩,
  ⟨fun K => (He.ga K "_law_is_in"), "_law_is_in", "_law_is_in", defArgs s__law_is_in, defBody s__law_is_in, defScope s__law_is_in, [], []⟩,
  ⟨fun K => (He.ga K "_law_below"), "_law_below", "_law_below", defArgs s__law_below, defBody s__law_below, defScope s__law_below, [], []⟩,
  ⟨fun K => (He.ga K "_law_place"), "_law_place", "_law_place", defArgs s__law_place, defBody s__law_place, defScope s__law_place, [], []⟩,
  ⟨fun K => (He.ga K "_law_gaps"), "_law_gaps", "_law_gaps", defArgs s__law_gaps, defBody s__law_gaps, defScope s__law_gaps, [], []⟩,
  ⟨fun K => (He.ga K "_law_int"), "_law_int", "_law_int", defArgs s__law_int, defBody s__law_int, defScope s__law_int, [], []⟩,
  ⟨fun K => (He.ga K "_law_same"), "_law_same", "_law_same", defArgs s__law_same, defBody s__law_same, defScope s__law_same, [], []⟩,
  ⟨fun K => (He.ga K "_law_pair"), "_law_pair", "_law_pair", defArgs s__law_pair, defBody s__law_pair, defScope s__law_pair, [], []⟩,
  ⟨fun K => (He.ga K "_law_row"), "_law_row", "_law_row", defArgs s__law_row, defBody s__law_row, defScope s__law_row, [], []⟩,
  ⟨fun K => (He.ga K "_law_made"), "_law_made", "_law_made", defArgs s__law_made, defBody s__law_made, defScope s__law_made, [], []⟩,
  ⟨fun K => (He.ga K "_law_asked"), "_law_asked", "_law_asked", defArgs s__law_asked, defBody s__law_asked, defScope s__law_asked, [], []⟩,
  ⟨fun K => (He.ga K "_law_looks"), "_law_looks", "_law_looks", defArgs s__law_looks, defBody s__law_looks, defScope s__law_looks, [], []⟩,
  ⟨fun K => (He.ga K "_law_spans"), "_law_spans", "_law_spans", defArgs s__law_spans, defBody s__law_spans, defScope s__law_spans, [], []⟩,
  ⟨fun K => (He.ga K "_law_refused"), "_law_refused", "_law_refused", defArgs s__law_refused, defBody s__law_refused, defScope s__law_refused, [], []⟩,
  ⟨fun K => (He.ga K "_law_large"), "_law_large", "_law_large", defArgs s__law_large, defBody s__law_large, defScope s__law_large, [], []⟩,
  ⟨fun K => (He.ga K "_law_whole"), "_law_whole", "_law_whole", defArgs s__law_whole, defBody s__law_whole, defScope s__law_whole, [], []⟩,
  ⟨fun K => (He.ga K "law"), "law", "law", defArgs s_law, defBody s_law, defScope s_law, [], []⟩]
def hm_fn : List (He5.DefA) := hm_fn_0 ++ hm_fn_1
def hm_names_0 : List (Str) := ["_wall",
  "tidy",
  "starts_below",
  "clip",
  "rest",
  "joined",
  "common",
  "without",
  "odd",
  "moved",
  "round_steps",
  "least_period",
  "least_head",
  "Form",
  "DueError",
  "OutOfRange",
  "TooMany",
  "BadStretch",
  "LONGEST",
  "MOST_STRETCHES",
  "in_range",
  "spread",
  "stretches_below",
  "common_window",
  "both_spread",
  "FAR",
  "LONG",
  "Pattern",
  "built_pattern",
  "gaps"]
def hm_names_1 : List (Str) := ["shortest_gap",
  "longest_gap",
  "_law_start",
  "_law_draw",
  "_law_far",
  "_law_drawn",
  "_law_pick_factor",
  "_law_pattern",
  "_law_is_in",
  "_law_below",
  "_law_place",
  "_law_gaps",
  "_law_int",
  "_law_same",
  "_law_pair",
  "_law_row",
  "_law_made",
  "_law_asked",
  "_law_looks",
  "_law_spans",
  "_law_refused",
  "_law_large",
  "_law_whole"]
def hm_names : List (Str) := hm_names_0 ++ hm_names_1
theorem hm_def_0 {K : PySem.W.Frag} (c : Hm.SaysM hm_ex hm_fn K) : ∃ fd, FunD K "tidy" "tidy" (defArgs s_tidy) (defBody s_tidy) (defScope s_tidy) [] [] (He.ga K "tidy") fd := c.def_ 0 rfl
theorem hm_def_1 {K : PySem.W.Frag} (c : Hm.SaysM hm_ex hm_fn K) : ∃ fd, FunD K "starts_below" "starts_below" (defArgs s_starts_below) (defBody s_starts_below) (defScope s_starts_below) [] [] (He.ga K "starts_below") fd := c.def_ 1 rfl
theorem hm_def_2 {K : PySem.W.Frag} (c : Hm.SaysM hm_ex hm_fn K) : ∃ fd, FunD K "clip" "clip" (defArgs s_clip) (defBody s_clip) (defScope s_clip) [] [] (He.ga K "clip") fd := c.def_ 2 rfl
theorem hm_def_3 {K : PySem.W.Frag} (c : Hm.SaysM hm_ex hm_fn K) : ∃ fd, FunD K "round_steps" "round_steps" (defArgs s_round_steps) (defBody s_round_steps) (defScope s_round_steps) [] [] (He.ga K "round_steps") fd := c.def_ 3 rfl
theorem hm_def_4 {K : PySem.W.Frag} (c : Hm.SaysM hm_ex hm_fn K) : ∃ fd, FunD K "least_period" "least_period" (defArgs s_least_period) (defBody s_least_period) (defScope s_least_period) [] [] (He.ga K "least_period") fd := c.def_ 4 rfl
theorem hm_def_5 {K : PySem.W.Frag} (c : Hm.SaysM hm_ex hm_fn K) : ∃ fd, FunD K "least_head" "least_head" (defArgs s_least_head) (defBody s_least_head) (defScope s_least_head) [] [] (He.ga K "least_head") fd := c.def_ 5 rfl
theorem hm_def_6 {K : PySem.W.Frag} (c : Hm.SaysM hm_ex hm_fn K) : ∃ fd, FunD K "__init__" "Form.__init__" (defArgs s_Form_init) (defBody s_Form_init) (defScope s_Form_init) [] [] (He.ma K (He.ga K "Form") "__init__") fd := c.def_ 6 rfl
theorem hm_def_7 {K : PySem.W.Frag} (c : Hm.SaysM hm_ex hm_fn K) : ∃ fd, FunD K "__init__" "OutOfRange.__init__" (defArgs s_OutOfRange_init) (defBody s_OutOfRange_init) (defScope s_OutOfRange_init) [] [] (He.ma K (He.ga K "OutOfRange") "__init__") fd := c.def_ 7 rfl
theorem hm_def_8 {K : PySem.W.Frag} (c : Hm.SaysM hm_ex hm_fn K) : ∃ fd, FunD K "__init__" "TooMany.__init__" (defArgs s_TooMany_init) (defBody s_TooMany_init) (defScope s_TooMany_init) [] [] (He.ma K (He.ga K "TooMany") "__init__") fd := c.def_ 8 rfl
theorem hm_def_9 {K : PySem.W.Frag} (c : Hm.SaysM hm_ex hm_fn K) : ∃ fd, FunD K "__init__" "BadStretch.__init__" (defArgs s_BadStretch_init) (defBody s_BadStretch_init) (defScope s_BadStretch_init) [] [] (He.ma K (He.ga K "BadStretch") "__init__") fd := c.def_ 9 rfl
theorem hm_def_10 {K : PySem.W.Frag} (c : Hm.SaysM hm_ex hm_fn K) : ∃ fd, FunD K "in_range" "in_range" (defArgs s_in_range) (defBody s_in_range) (defScope s_in_range) [] [] (He.ga K "in_range") fd := c.def_ 10 rfl
theorem hm_def_11 {K : PySem.W.Frag} (c : Hm.SaysM hm_ex hm_fn K) : ∃ fd, FunD K "__init__" "Pattern.__init__" (defArgs s_Pattern_init) (defBody s_Pattern_init) (defScope s_Pattern_init) [] [] (He.ma K (He.ga K "Pattern") "__init__") fd := c.def_ 11 rfl
theorem hm_def_12 {K : PySem.W.Frag} (c : Hm.SaysM hm_ex hm_fn K) : ∃ fd, FunD K "never" "Pattern.never" (defArgs s_Pattern_never) (defBody s_Pattern_never) (defScope s_Pattern_never) [] [] (Hm.rc1 K (He.ma K (He.ga K "Pattern") "never") "staticmethod") fd := c.def_ 12 rfl
theorem hm_def_13 {K : PySem.W.Frag} (c : Hm.SaysM hm_ex hm_fn K) : ∃ fd, FunD K "every" "Pattern.every" (defArgs s_Pattern_every) (defBody s_Pattern_every) (defScope s_Pattern_every) [.int 0] [] (Hm.rc1 K (He.ma K (He.ga K "Pattern") "every") "staticmethod") fd := c.def_ 13 rfl
theorem hm_def_14 {K : PySem.W.Frag} (c : Hm.SaysM hm_ex hm_fn K) : ∃ fd, FunD K "__contains__" "Pattern.__contains__" (defArgs s_Pattern_contains) (defBody s_Pattern_contains) (defScope s_Pattern_contains) [] [] (He.ma K (He.ga K "Pattern") "__contains__") fd := c.def_ 14 rfl
theorem hm_def_15 {K : PySem.W.Frag} (c : Hm.SaysM hm_ex hm_fn K) : ∃ fd, FunD K "finite" "Pattern.finite" (defArgs s_Pattern_finite) (defBody s_Pattern_finite) (defScope s_Pattern_finite) [] [] (Hm.rc1 K (He.ma K (He.ga K "Pattern") "finite") "property") fd := c.def_ 15 rfl
theorem hm_def_16 {K : PySem.W.Frag} (c : Hm.SaysM hm_ex hm_fn K) : ∃ fd, FunD K "empty" "Pattern.empty" (defArgs s_Pattern_empty) (defBody s_Pattern_empty) (defScope s_Pattern_empty) [] [] (Hm.rc1 K (He.ma K (He.ga K "Pattern") "empty") "property") fd := c.def_ 16 rfl
theorem hm_def_17 {K : PySem.W.Frag} (c : Hm.SaysM hm_ex hm_fn K) : ∃ fd, FunD K "number_in" "Pattern.number_in" (defArgs s_Pattern_number_in) (defBody s_Pattern_number_in) (defScope s_Pattern_number_in) [] [] (He.ma K (He.ga K "Pattern") "number_in") fd := c.def_ 17 rfl
theorem hm_def_18 {K : PySem.W.Frag} (c : Hm.SaysM hm_ex hm_fn K) : ∃ fd, FunD K "minute_at" "Pattern.minute_at" (defArgs s_Pattern_minute_at) (defBody s_Pattern_minute_at) (defScope s_Pattern_minute_at) [] [] (He.ma K (He.ga K "Pattern") "minute_at") fd := c.def_ 18 rfl
theorem hm_def_19 {K : PySem.W.Frag} (c : Hm.SaysM hm_ex hm_fn K) : ∃ fd, FunD K "first_from" "Pattern.first_from" (defArgs s_Pattern_first_from) (defBody s_Pattern_first_from) (defScope s_Pattern_first_from) [] [] (He.ma K (He.ga K "Pattern") "first_from") fd := c.def_ 19 rfl
theorem hm_def_20 {K : PySem.W.Frag} (c : Hm.SaysM hm_ex hm_fn K) : ∃ fd, FunD K "last_before" "Pattern.last_before" (defArgs s_Pattern_last_before) (defBody s_Pattern_last_before) (defScope s_Pattern_last_before) [] [] (He.ma K (He.ga K "Pattern") "last_before") fd := c.def_ 20 rfl
theorem hm_def_21 {K : PySem.W.Frag} (c : Hm.SaysM hm_ex hm_fn K) : ∃ fd, FunD K "each_minute" "Pattern.each_minute" (defArgs s_Pattern_each_minute) (defBody s_Pattern_each_minute) (defScope s_Pattern_each_minute) [] [] (He.ma K (He.ga K "Pattern") "each_minute") fd := c.def_ 21 rfl
theorem hm_def_22 {K : PySem.W.Frag} (c : Hm.SaysM hm_ex hm_fn K) : ∃ fd, FunD K "_run_end" "Pattern._run_end" (defArgs s_Pattern_run_end) (defBody s_Pattern_run_end) (defScope s_Pattern_run_end) [] [] (He.ma K (He.ga K "Pattern") "_run_end") fd := c.def_ 22 rfl
theorem hm_def_23 {K : PySem.W.Frag} (c : Hm.SaysM hm_ex hm_fn K) : ∃ fd, FunD K "_near" "Pattern._near" (defArgs s_Pattern_near) (defBody s_Pattern_near) (defScope s_Pattern_near) [] [] (He.ma K (He.ga K "Pattern") "_near") fd := c.def_ 23 rfl
theorem hm_def_24 {K : PySem.W.Frag} (c : Hm.SaysM hm_ex hm_fn K) : ∃ fd, FunD K "_below" "Pattern._below" (defArgs s_Pattern_below) (defBody s_Pattern_below) (defScope s_Pattern_below) [] [] (He.ma K (He.ga K "Pattern") "_below") fd := c.def_ 24 rfl
theorem hm_def_25 {K : PySem.W.Frag} (c : Hm.SaysM hm_ex hm_fn K) : ∃ fd, FunD K "_nth" "Pattern._nth" (defArgs s_Pattern_nth) (defBody s_Pattern_nth) (defScope s_Pattern_nth) [] [] (He.ma K (He.ga K "Pattern") "_nth") fd := c.def_ 25 rfl
theorem hm_def_26 {K : PySem.W.Frag} (c : Hm.SaysM hm_ex hm_fn K) : ∃ fd, FunD K "gaps" "gaps" (defArgs s_gaps) (defBody s_gaps) (defScope s_gaps) [] [] (He.ga K "gaps") fd := c.def_ 26 rfl
theorem hm_def_27 {K : PySem.W.Frag} (c : Hm.SaysM hm_ex hm_fn K) : ∃ fd, FunD K "shortest_gap" "shortest_gap" (defArgs s_shortest_gap) (defBody s_shortest_gap) (defScope s_shortest_gap) [] [] (He.ga K "shortest_gap") fd := c.def_ 27 rfl
theorem hm_def_28 {K : PySem.W.Frag} (c : Hm.SaysM hm_ex hm_fn K) : ∃ fd, FunD K "longest_gap" "longest_gap" (defArgs s_longest_gap) (defBody s_longest_gap) (defScope s_longest_gap) [] [] (He.ga K "longest_gap") fd := c.def_ 28 rfl
theorem hm_def_29 {K : PySem.W.Frag} (c : Hm.SaysM hm_ex hm_fn K) : ∃ fd, FunD K "_law_start" "_law_start" (defArgs s__law_start) (defBody s__law_start) (defScope s__law_start) [] [] (He.ga K "_law_start") fd := c.def_ 29 rfl
theorem hm_def_30 {K : PySem.W.Frag} (c : Hm.SaysM hm_ex hm_fn K) : ∃ fd, FunD K "_law_draw" "_law_draw" (defArgs s__law_draw) (defBody s__law_draw) (defScope s__law_draw) [] [] (He.ga K "_law_draw") fd := c.def_ 30 rfl
theorem hm_def_31 {K : PySem.W.Frag} (c : Hm.SaysM hm_ex hm_fn K) : ∃ fd, FunD K "_law_far" "_law_far" (defArgs s__law_far) (defBody s__law_far) (defScope s__law_far) [] [] (He.ga K "_law_far") fd := c.def_ 31 rfl
theorem hm_def_32 {K : PySem.W.Frag} (c : Hm.SaysM hm_ex hm_fn K) : ∃ fd, FunD K "_law_drawn" "_law_drawn" (defArgs s__law_drawn) (defBody s__law_drawn) (defScope s__law_drawn) [] [] (He.ga K "_law_drawn") fd := c.def_ 32 rfl
theorem hm_def_33 {K : PySem.W.Frag} (c : Hm.SaysM hm_ex hm_fn K) : ∃ fd, FunD K "_law_pick_factor" "_law_pick_factor" (defArgs s__law_pick_factor) (defBody s__law_pick_factor) (defScope s__law_pick_factor) [] [] (He.ga K "_law_pick_factor") fd := c.def_ 33 rfl
theorem hm_def_34 {K : PySem.W.Frag} (c : Hm.SaysM hm_ex hm_fn K) : ∃ fd, FunD K "_law_pattern" "_law_pattern" (defArgs s__law_pattern) (defBody s__law_pattern) (defScope s__law_pattern) [] [] (He.ga K "_law_pattern") fd := c.def_ 34 rfl
theorem hm_def_35 {K : PySem.W.Frag} (c : Hm.SaysM hm_ex hm_fn K) : ∃ fd, FunD K "_law_is_in" "_law_is_in" (defArgs s__law_is_in) (defBody s__law_is_in) (defScope s__law_is_in) [] [] (He.ga K "_law_is_in") fd := c.def_ 35 rfl
theorem hm_def_36 {K : PySem.W.Frag} (c : Hm.SaysM hm_ex hm_fn K) : ∃ fd, FunD K "_law_below" "_law_below" (defArgs s__law_below) (defBody s__law_below) (defScope s__law_below) [] [] (He.ga K "_law_below") fd := c.def_ 36 rfl
theorem hm_def_37 {K : PySem.W.Frag} (c : Hm.SaysM hm_ex hm_fn K) : ∃ fd, FunD K "_law_place" "_law_place" (defArgs s__law_place) (defBody s__law_place) (defScope s__law_place) [] [] (He.ga K "_law_place") fd := c.def_ 37 rfl
theorem hm_def_38 {K : PySem.W.Frag} (c : Hm.SaysM hm_ex hm_fn K) : ∃ fd, FunD K "_law_gaps" "_law_gaps" (defArgs s__law_gaps) (defBody s__law_gaps) (defScope s__law_gaps) [] [] (He.ga K "_law_gaps") fd := c.def_ 38 rfl
theorem hm_def_39 {K : PySem.W.Frag} (c : Hm.SaysM hm_ex hm_fn K) : ∃ fd, FunD K "_law_int" "_law_int" (defArgs s__law_int) (defBody s__law_int) (defScope s__law_int) [] [] (He.ga K "_law_int") fd := c.def_ 39 rfl
theorem hm_def_40 {K : PySem.W.Frag} (c : Hm.SaysM hm_ex hm_fn K) : ∃ fd, FunD K "_law_same" "_law_same" (defArgs s__law_same) (defBody s__law_same) (defScope s__law_same) [] [] (He.ga K "_law_same") fd := c.def_ 40 rfl
theorem hm_def_41 {K : PySem.W.Frag} (c : Hm.SaysM hm_ex hm_fn K) : ∃ fd, FunD K "_law_pair" "_law_pair" (defArgs s__law_pair) (defBody s__law_pair) (defScope s__law_pair) [] [] (He.ga K "_law_pair") fd := c.def_ 41 rfl
theorem hm_def_42 {K : PySem.W.Frag} (c : Hm.SaysM hm_ex hm_fn K) : ∃ fd, FunD K "_law_row" "_law_row" (defArgs s__law_row) (defBody s__law_row) (defScope s__law_row) [] [] (He.ga K "_law_row") fd := c.def_ 42 rfl
theorem hm_def_43 {K : PySem.W.Frag} (c : Hm.SaysM hm_ex hm_fn K) : ∃ fd, FunD K "_law_made" "_law_made" (defArgs s__law_made) (defBody s__law_made) (defScope s__law_made) [] [] (He.ga K "_law_made") fd := c.def_ 43 rfl
theorem hm_def_44 {K : PySem.W.Frag} (c : Hm.SaysM hm_ex hm_fn K) : ∃ fd, FunD K "_law_asked" "_law_asked" (defArgs s__law_asked) (defBody s__law_asked) (defScope s__law_asked) [] [] (He.ga K "_law_asked") fd := c.def_ 44 rfl
theorem hm_def_45 {K : PySem.W.Frag} (c : Hm.SaysM hm_ex hm_fn K) : ∃ fd, FunD K "_law_looks" "_law_looks" (defArgs s__law_looks) (defBody s__law_looks) (defScope s__law_looks) [] [] (He.ga K "_law_looks") fd := c.def_ 45 rfl
theorem hm_def_46 {K : PySem.W.Frag} (c : Hm.SaysM hm_ex hm_fn K) : ∃ fd, FunD K "_law_spans" "_law_spans" (defArgs s__law_spans) (defBody s__law_spans) (defScope s__law_spans) [] [] (He.ga K "_law_spans") fd := c.def_ 46 rfl
theorem hm_def_47 {K : PySem.W.Frag} (c : Hm.SaysM hm_ex hm_fn K) : ∃ fd, FunD K "_law_refused" "_law_refused" (defArgs s__law_refused) (defBody s__law_refused) (defScope s__law_refused) [] [] (He.ga K "_law_refused") fd := c.def_ 47 rfl
theorem hm_def_48 {K : PySem.W.Frag} (c : Hm.SaysM hm_ex hm_fn K) : ∃ fd, FunD K "_law_large" "_law_large" (defArgs s__law_large) (defBody s__law_large) (defScope s__law_large) [] [] (He.ga K "_law_large") fd := c.def_ 48 rfl
theorem hm_def_49 {K : PySem.W.Frag} (c : Hm.SaysM hm_ex hm_fn K) : ∃ fd, FunD K "_law_whole" "_law_whole" (defArgs s__law_whole) (defBody s__law_whole) (defScope s__law_whole) [] [] (He.ga K "_law_whole") fd := c.def_ 49 rfl
theorem hm_def_50 {K : PySem.W.Frag} (c : Hm.SaysM hm_ex hm_fn K) : ∃ fd, FunD K "law" "law" (defArgs s_law) (defBody s_law) (defScope s_law) [] [] (He.ga K "law") fd := c.def_ 50 rfl
set_option maxHeartbeats 0 in
theorem all_mk {K : PySem.W.Frag} {h : Heap} {mg : Str → Option Value} (X : K.In h) (G : h.Ns mainGlobals mg) (c : Hm.SaysM hm_ex hm_fn K)
    : ∃ a : Ad, mg "law" = some (.ref a.f_law) ∧ (∀ (s : Shared) (u : Value), BindsTo s a.d_law ⟨[u], []⟩ [("script", u)]) ∧ Tx K mg a := by
  obtain ⟨d_tidy, F_tidy⟩ := hm_def_0 c
  obtain ⟨d_starts_below, F_starts_below⟩ := hm_def_1 c
  obtain ⟨d_clip, F_clip⟩ := hm_def_2 c
  obtain ⟨d_round_steps, F_round_steps⟩ := hm_def_3 c
  obtain ⟨d_least_period, F_least_period⟩ := hm_def_4 c
  obtain ⟨d_least_head, F_least_head⟩ := hm_def_5 c
  obtain ⟨d_Form_init, F_Form_init⟩ := hm_def_6 c
  obtain ⟨d_OutOfRange_init, F_OutOfRange_init⟩ := hm_def_7 c
  obtain ⟨d_TooMany_init, F_TooMany_init⟩ := hm_def_8 c
  obtain ⟨d_BadStretch_init, F_BadStretch_init⟩ := hm_def_9 c
  obtain ⟨d_in_range, F_in_range⟩ := hm_def_10 c
  obtain ⟨d_Pattern_init, F_Pattern_init⟩ := hm_def_11 c
  obtain ⟨d_Pattern_never, F_Pattern_never⟩ := hm_def_12 c
  obtain ⟨d_Pattern_every, F_Pattern_every⟩ := hm_def_13 c
  obtain ⟨d_Pattern_contains, F_Pattern_contains⟩ := hm_def_14 c
  obtain ⟨d_Pattern_finite, F_Pattern_finite⟩ := hm_def_15 c
  obtain ⟨d_Pattern_empty, F_Pattern_empty⟩ := hm_def_16 c
  obtain ⟨d_Pattern_number_in, F_Pattern_number_in⟩ := hm_def_17 c
  obtain ⟨d_Pattern_minute_at, F_Pattern_minute_at⟩ := hm_def_18 c
  obtain ⟨d_Pattern_first_from, F_Pattern_first_from⟩ := hm_def_19 c
  obtain ⟨d_Pattern_last_before, F_Pattern_last_before⟩ := hm_def_20 c
  obtain ⟨d_Pattern_each_minute, F_Pattern_each_minute⟩ := hm_def_21 c
  obtain ⟨d_Pattern_run_end, F_Pattern_run_end⟩ := hm_def_22 c
  obtain ⟨d_Pattern_near, F_Pattern_near⟩ := hm_def_23 c
  obtain ⟨d_Pattern_below, F_Pattern_below⟩ := hm_def_24 c
  obtain ⟨d_Pattern_nth, F_Pattern_nth⟩ := hm_def_25 c
  obtain ⟨d_gaps, F_gaps⟩ := hm_def_26 c
  obtain ⟨d_shortest_gap, F_shortest_gap⟩ := hm_def_27 c
  obtain ⟨d_longest_gap, F_longest_gap⟩ := hm_def_28 c
  obtain ⟨d__law_start, F__law_start⟩ := hm_def_29 c
  obtain ⟨d__law_draw, F__law_draw⟩ := hm_def_30 c
  obtain ⟨d__law_far, F__law_far⟩ := hm_def_31 c
  obtain ⟨d__law_drawn, F__law_drawn⟩ := hm_def_32 c
  obtain ⟨d__law_pick_factor, F__law_pick_factor⟩ := hm_def_33 c
  obtain ⟨d__law_pattern, F__law_pattern⟩ := hm_def_34 c
  obtain ⟨d__law_is_in, F__law_is_in⟩ := hm_def_35 c
  obtain ⟨d__law_below, F__law_below⟩ := hm_def_36 c
  obtain ⟨d__law_place, F__law_place⟩ := hm_def_37 c
  obtain ⟨d__law_gaps, F__law_gaps⟩ := hm_def_38 c
  obtain ⟨d__law_int, F__law_int⟩ := hm_def_39 c
  obtain ⟨d__law_same, F__law_same⟩ := hm_def_40 c
  obtain ⟨d__law_pair, F__law_pair⟩ := hm_def_41 c
  obtain ⟨d__law_row, F__law_row⟩ := hm_def_42 c
  obtain ⟨d__law_made, F__law_made⟩ := hm_def_43 c
  obtain ⟨d__law_asked, F__law_asked⟩ := hm_def_44 c
  obtain ⟨d__law_looks, F__law_looks⟩ := hm_def_45 c
  obtain ⟨d__law_spans, F__law_spans⟩ := hm_def_46 c
  obtain ⟨d__law_refused, F__law_refused⟩ := hm_def_47 c
  obtain ⟨d__law_large, F__law_large⟩ := hm_def_48 c
  obtain ⟨d__law_whole, F__law_whole⟩ := hm_def_49 c
  obtain ⟨d_law, F_law⟩ := hm_def_50 c
  obtain ⟨q0, q1, q2, q3, q4, q5, q6, q7, q8, q9, q10, q11, q12, q13, q14, q15⟩ := hm_ok_0 (c.fact 0 rfl)
  obtain ⟨q16, q17, q18, q19, q20, q21, q22, q23, q24, q25, q26, q27, q28, q29, q30, q31⟩ := hm_ok_1 (c.fact 1 rfl)
  obtain ⟨q32, q33, q34, q35, q36, q37, q38, q39, q40, q41, q42, q43, q44, q45, q46, q47⟩ := hm_ok_2 (c.fact 2 rfl)
  obtain ⟨q48, q49, q50, q51, q52, q53, q54, q55, q56, q57, q58, q59, q60, q61, q62, q63⟩ := hm_ok_3 (c.fact 3 rfl)
  obtain ⟨q64, q65, q66, q67, q68, q69, q70, q71, q72, q73, q74, q75, q76, q77, q78, q79⟩ := hm_ok_4 (c.fact 4 rfl)
  obtain ⟨q80, q81, q82, q83, q84, q85, q86, q87, q88, q89, q90, q91, q92, q93, q94, q95⟩ := hm_ok_5 (c.fact 5 rfl)
  obtain ⟨q96, q97, q98, q99, q100, q101, q102, q103, q104, q105, q106, q107, q108, q109, q110, q111⟩ := hm_ok_6 (c.fact 6 rfl)
  obtain ⟨q112, q113, q114, q115, q116, q117, q118, q119, q120, q121, q122, q123, q124, q125, q126, q127⟩ := hm_ok_7 (c.fact 7 rfl)
  obtain ⟨q128, q129, q130, q131, q132, q133, q134, q135, q136, q137, q138, q139, q140, q141, q142, q143⟩ := hm_ok_8 (c.fact 8 rfl)
  obtain ⟨q144, q145, q146, q147, q148, q149, q150, q151, q152, q153, q154, q155, q156, q157, q158, q159⟩ := hm_ok_9 (c.fact 9 rfl)
  obtain ⟨q160, q161, q162, q163, q164, q165, q166, q167, q168, q169, q170, q171, q172, q173, q174, q175⟩ := hm_ok_10 (c.fact 10 rfl)
  obtain ⟨q176, q177, q178, q179, q180, q181, q182, q183, q184, q185, q186, q187, q188, q189, q190, q191⟩ := hm_ok_11 (c.fact 11 rfl)
  have q192 := hm_ok_12 (c.fact 12 rfl)
  refine ⟨{ c_Form := (He.ga K "Form"), c_DueError := (He.ga K "DueError"), c_OutOfRange := (He.ga K "OutOfRange"), c_TooMany := (He.ga K "TooMany"), c_BadStretch := (He.ga K "BadStretch"), c_Pattern := (He.ga K "Pattern"), f_tidy := (He.ga K "tidy"), f_starts_below := (He.ga K "starts_below"), f_clip := (He.ga K "clip"), f_round_steps := (He.ga K "round_steps"), f_least_period := (He.ga K "least_period"), f_least_head := (He.ga K "least_head"), f_Form_init := (He.ma K (He.ga K "Form") "__init__"), f_OutOfRange_init := (He.ma K (He.ga K "OutOfRange") "__init__"), f_TooMany_init := (He.ma K (He.ga K "TooMany") "__init__"), f_BadStretch_init := (He.ma K (He.ga K "BadStretch") "__init__"), f_in_range := (He.ga K "in_range"), f_Pattern_init := (He.ma K (He.ga K "Pattern") "__init__"), f_Pattern_never := (Hm.rc1 K (He.ma K (He.ga K "Pattern") "never") "staticmethod"), f_Pattern_every := (Hm.rc1 K (He.ma K (He.ga K "Pattern") "every") "staticmethod"), f_Pattern_contains := (He.ma K (He.ga K "Pattern") "__contains__"), f_Pattern_finite := (Hm.rc1 K (He.ma K (He.ga K "Pattern") "finite") "property"), f_Pattern_empty := (Hm.rc1 K (He.ma K (He.ga K "Pattern") "empty") "property"), f_Pattern_number_in := (He.ma K (He.ga K "Pattern") "number_in"), f_Pattern_minute_at := (He.ma K (He.ga K "Pattern") "minute_at"), f_Pattern_first_from := (He.ma K (He.ga K "Pattern") "first_from"), f_Pattern_last_before := (He.ma K (He.ga K "Pattern") "last_before"), f_Pattern_each_minute := (He.ma K (He.ga K "Pattern") "each_minute"), f_Pattern_run_end := (He.ma K (He.ga K "Pattern") "_run_end"), f_Pattern_near := (He.ma K (He.ga K "Pattern") "_near"), f_Pattern_below := (He.ma K (He.ga K "Pattern") "_below"), f_Pattern_nth := (He.ma K (He.ga K "Pattern") "_nth"), f_gaps := (He.ga K "gaps"), f_shortest_gap := (He.ga K "shortest_gap"), f_longest_gap := (He.ga K "longest_gap"), f__law_start := (He.ga K "_law_start"), f__law_draw := (He.ga K "_law_draw"), f__law_far := (He.ga K "_law_far"), f__law_drawn := (He.ga K "_law_drawn"), f__law_pick_factor := (He.ga K "_law_pick_factor"), f__law_pattern := (He.ga K "_law_pattern"), f__law_is_in := (He.ga K "_law_is_in"), f__law_below := (He.ga K "_law_below"), f__law_place := (He.ga K "_law_place"), f__law_gaps := (He.ga K "_law_gaps"), f__law_int := (He.ga K "_law_int"), f__law_same := (He.ga K "_law_same"), f__law_pair := (He.ga K "_law_pair"), f__law_row := (He.ga K "_law_row"), f__law_made := (He.ga K "_law_made"), f__law_asked := (He.ga K "_law_asked"), f__law_looks := (He.ga K "_law_looks"), f__law_spans := (He.ga K "_law_spans"), f__law_refused := (He.ga K "_law_refused"), f__law_large := (He.ga K "_law_large"), f__law_whole := (He.ga K "_law_whole"), f_law := (He.ga K "law"), p_Pattern_never := (He.ma K (He.ga K "Pattern") "never"), p_Pattern_every := (He.ma K (He.ga K "Pattern") "every"), p_Pattern_finite := (He.ma K (He.ga K "Pattern") "finite"), p_Pattern_empty := (He.ma K (He.ga K "Pattern") "empty"), d_tidy := d_tidy, d_starts_below := d_starts_below, d_clip := d_clip, d_round_steps := d_round_steps, d_least_period := d_least_period, d_least_head := d_least_head, d_Form_init := d_Form_init, d_OutOfRange_init := d_OutOfRange_init, d_TooMany_init := d_TooMany_init, d_BadStretch_init := d_BadStretch_init, d_in_range := d_in_range, d_Pattern_init := d_Pattern_init, d_Pattern_never := d_Pattern_never, d_Pattern_every := d_Pattern_every, d_Pattern_contains := d_Pattern_contains, d_Pattern_finite := d_Pattern_finite, d_Pattern_empty := d_Pattern_empty, d_Pattern_number_in := d_Pattern_number_in, d_Pattern_minute_at := d_Pattern_minute_at, d_Pattern_first_from := d_Pattern_first_from, d_Pattern_last_before := d_Pattern_last_before, d_Pattern_each_minute := d_Pattern_each_minute, d_Pattern_run_end := d_Pattern_run_end, d_Pattern_near := d_Pattern_near, d_Pattern_below := d_Pattern_below, d_Pattern_nth := d_Pattern_nth, d_gaps := d_gaps, d_shortest_gap := d_shortest_gap, d_longest_gap := d_longest_gap, d__law_start := d__law_start, d__law_draw := d__law_draw, d__law_far := d__law_far, d__law_drawn := d__law_drawn, d__law_pick_factor := d__law_pick_factor, d__law_pattern := d__law_pattern, d__law_is_in := d__law_is_in, d__law_below := d__law_below, d__law_place := d__law_place, d__law_gaps := d__law_gaps, d__law_int := d__law_int, d__law_same := d__law_same, d__law_pair := d__law_pair, d__law_row := d__law_row, d__law_made := d__law_made, d__law_asked := d__law_asked, d__law_looks := d__law_looks, d__law_spans := d__law_spans, d__law_refused := d__law_refused, d__law_large := d__law_large, d__law_whole := d__law_whole, d_law := d_law : Ad }, PySem.W.mg_of X G q173, fun s u => (FunD.bindsA (ps := ["script"]) F_law fun _ _ _ _ _ _ us hl => match us, hl with | [_], _ => rfl) s [u] rfl, ?_⟩
  exact {
    g_Form := PySem.W.mg_of X G q0
    cl_Form := ⟨q1, q2, q3, q4⟩
    no_Form_period := q6
    no_Form_head := q7
    no_Form_stretches := q8
    M_Form := ⟨q9, q10, q11, q5⟩
    g_DueError := PySem.W.mg_of X G q12
    ox_DueError := ⟨Hm.oexB_ok q13, q14, q17, q18, q19⟩
    xc_DueError := ⟨q15, q16, q17, q20, q21, q23, q24, q22⟩
    xf_DueError := ⟨q15, q16, q17, q20⟩
    g_OutOfRange := PySem.W.mg_of X G q25
    ox_OutOfRange := ⟨Hm.oexB_ok q26, q27, q30, q31, q32⟩
    xc_OutOfRange := ⟨q28, q29, q30, q33, q34, q23, q24, q35⟩
    xf_OutOfRange := ⟨q28, q29, q30, q33⟩
    no_OutOfRange_what := q36
    no_OutOfRange_value := q37
    i_OutOfRange := q38
    t_OutOfRange := q39
    g_TooMany := PySem.W.mg_of X G q40
    ox_TooMany := ⟨Hm.oexB_ok q41, q42, q45, q46, q47⟩
    xc_TooMany := ⟨q43, q44, q45, q48, q49, q23, q24, q50⟩
    xf_TooMany := ⟨q43, q44, q45, q48⟩
    no_TooMany_what := q51
    no_TooMany_many := q52
    i_TooMany := q53
    t_TooMany := q54
    g_BadStretch := PySem.W.mg_of X G q55
    ox_BadStretch := ⟨Hm.oexB_ok q56, q57, q60, q61, q62⟩
    xc_BadStretch := ⟨q58, q59, q60, q63, q64, q23, q24, q65⟩
    xf_BadStretch := ⟨q58, q59, q60, q63⟩
    no_BadStretch_at := q66
    i_BadStretch := q67
    t_BadStretch := q68
    g_Pattern := PySem.W.mg_of X G q69
    cl_Pattern := ⟨q70, q71, q72, q73⟩
    ia_Pattern := q75
    im_Pattern := q76
    in_Pattern := q23
    it_Pattern := q24
    kit_Pattern := PySem.W.xr_kit q71 q77 q78 q78
    no_Pattern_head := q79
    no_Pattern_period := q80
    no_Pattern_stretches := q81
    no_Pattern__sums := q82
    no_Pattern__front := q83
    M_Pattern := ⟨q84, q85, q86, q74⟩
    cr_Pattern := ⟨q87, q88⟩
    sm_Pattern_never := ⟨Hm.fc_ok q89, Hm.rcB_ok q90⟩
    sm_Pattern_every := ⟨Hm.fc_ok q91, Hm.rcB_ok q92⟩
    m_Pattern_contains := ⟨q93, q94, F_Pattern_contains.kp⟩
    pr_Pattern_finite := ⟨q95, q96, q97, Hm.rcB_ok q98⟩
    pr_Pattern_empty := ⟨q99, q100, q101, Hm.rcB_ok q102⟩
    m_Pattern_number_in := ⟨q103, q104, F_Pattern_number_in.kp⟩
    m_Pattern_minute_at := ⟨q105, q106, F_Pattern_minute_at.kp⟩
    m_Pattern_first_from := ⟨q107, q108, F_Pattern_first_from.kp⟩
    m_Pattern_last_before := ⟨q109, q110, F_Pattern_last_before.kp⟩
    m_Pattern_each_minute := ⟨q111, q112, F_Pattern_each_minute.kp⟩
    m_Pattern_run_end := ⟨q113, q114, F_Pattern_run_end.kp⟩
    m_Pattern_near := ⟨q115, q116, F_Pattern_near.kp⟩
    m_Pattern_below := ⟨q117, q118, F_Pattern_below.kp⟩
    m_Pattern_nth := ⟨q119, q120, F_Pattern_nth.kp⟩
    sub_DueError_DueError := q121
    kit_DueError_DueError := PySem.W.xr_kit q20 q18 q121 q121
    exm_DueError_DueError := PySem.W.exm_ref q17 q20 q18 q121
    sub_DueError_OutOfRange := q122
    kit_DueError_OutOfRange := PySem.W.xr_kit q33 q31 q122 q123
    exm_DueError_OutOfRange := PySem.W.exm_ref q30 q33 q31 q122
    sub_DueError_TooMany := q124
    kit_DueError_TooMany := PySem.W.xr_kit q48 q46 q124 q125
    exm_DueError_TooMany := PySem.W.exm_ref q45 q48 q46 q124
    sub_DueError_BadStretch := q126
    kit_DueError_BadStretch := PySem.W.xr_kit q63 q61 q126 q127
    exm_DueError_BadStretch := PySem.W.exm_ref q60 q63 q61 q126
    kitV_DueError := PySem.W.xr_kitV (by decide +kernel) q128
    sub_OutOfRange_DueError := q129
    kit_OutOfRange_DueError := PySem.W.xr_kit q20 q18 q129 q121
    exm_OutOfRange_DueError := PySem.W.exm_ref q17 q20 q18 q129
    sub_OutOfRange_OutOfRange := q123
    kit_OutOfRange_OutOfRange := PySem.W.xr_kit q33 q31 q123 q123
    exm_OutOfRange_OutOfRange := PySem.W.exm_ref q30 q33 q31 q123
    sub_OutOfRange_TooMany := q130
    kit_OutOfRange_TooMany := PySem.W.xr_kit q48 q46 q130 q125
    exm_OutOfRange_TooMany := PySem.W.exm_ref q45 q48 q46 q130
    sub_OutOfRange_BadStretch := q131
    kit_OutOfRange_BadStretch := PySem.W.xr_kit q63 q61 q131 q127
    exm_OutOfRange_BadStretch := PySem.W.exm_ref q60 q63 q61 q131
    stop_OutOfRange := q132
    kitV_OutOfRange := PySem.W.xr_kitV (by decide +kernel) q133
    sub_TooMany_DueError := q134
    kit_TooMany_DueError := PySem.W.xr_kit q20 q18 q134 q121
    exm_TooMany_DueError := PySem.W.exm_ref q17 q20 q18 q134
    sub_TooMany_OutOfRange := q135
    kit_TooMany_OutOfRange := PySem.W.xr_kit q33 q31 q135 q123
    exm_TooMany_OutOfRange := PySem.W.exm_ref q30 q33 q31 q135
    sub_TooMany_TooMany := q125
    kit_TooMany_TooMany := PySem.W.xr_kit q48 q46 q125 q125
    exm_TooMany_TooMany := PySem.W.exm_ref q45 q48 q46 q125
    sub_TooMany_BadStretch := q136
    kit_TooMany_BadStretch := PySem.W.xr_kit q63 q61 q136 q127
    exm_TooMany_BadStretch := PySem.W.exm_ref q60 q63 q61 q136
    kitV_TooMany := PySem.W.xr_kitV (by decide +kernel) q137
    sub_BadStretch_DueError := q138
    kit_BadStretch_DueError := PySem.W.xr_kit q20 q18 q138 q121
    exm_BadStretch_DueError := PySem.W.exm_ref q17 q20 q18 q138
    sub_BadStretch_OutOfRange := q139
    kit_BadStretch_OutOfRange := PySem.W.xr_kit q33 q31 q139 q123
    exm_BadStretch_OutOfRange := PySem.W.exm_ref q30 q33 q31 q139
    sub_BadStretch_TooMany := q140
    kit_BadStretch_TooMany := PySem.W.xr_kit q48 q46 q140 q125
    exm_BadStretch_TooMany := PySem.W.exm_ref q45 q48 q46 q140
    sub_BadStretch_BadStretch := q127
    kit_BadStretch_BadStretch := PySem.W.xr_kit q63 q61 q127 q127
    exm_BadStretch_BadStretch := PySem.W.exm_ref q60 q63 q61 q127
    kitV_BadStretch := PySem.W.xr_kitV (by decide +kernel) q141
    g_tidy := PySem.W.mg_of X G q142
    F_tidy := He5.fun_of F_tidy
    b_tidy := (He5.fun_of F_tidy).binds (ps := ["pairs"]) fun _ _ _ _ _ _ us hl => match us, hl with | [_], _ => rfl
    g_starts_below := PySem.W.mg_of X G q143
    F_starts_below := He5.fun_of F_starts_below
    b_starts_below := (He5.fun_of F_starts_below).binds (ps := ["pairs", "minute"]) fun _ _ _ _ _ _ us hl => match us, hl with | [_, _], _ => rfl
    g_clip := PySem.W.mg_of X G q144
    F_clip := He5.fun_of F_clip
    b_clip := (He5.fun_of F_clip).binds (ps := ["pairs", "start", "end"]) fun _ _ _ _ _ _ us hl => match us, hl with | [_, _, _], _ => rfl
    g_round_steps := PySem.W.mg_of X G q145
    F_round_steps := He5.fun_of F_round_steps
    b_round_steps := (He5.fun_of F_round_steps).binds (ps := ["head", "period", "tail"]) fun _ _ _ _ _ _ us hl => match us, hl with | [_, _, _], _ => rfl
    g_least_period := PySem.W.mg_of X G q146
    F_least_period := He5.fun_of F_least_period
    b_least_period := (He5.fun_of F_least_period).binds (ps := ["head", "period", "pairs"]) fun _ _ _ _ _ _ us hl => match us, hl with | [_, _, _], _ => rfl
    g_least_head := PySem.W.mg_of X G q147
    F_least_head := He5.fun_of F_least_head
    b_least_head := (He5.fun_of F_least_head).binds (ps := ["head", "period", "pairs"]) fun _ _ _ _ _ _ us hl => match us, hl with | [_, _, _], _ => rfl
    F_Form_init := He5.fun_of F_Form_init
    b_Form_init := (He5.fun_of F_Form_init).binds (ps := ["self", "head", "period", "pairs"]) fun _ _ _ _ _ _ us hl => match us, hl with | [_, _, _, _], _ => rfl
    F_OutOfRange_init := He5.fun_of F_OutOfRange_init
    b_OutOfRange_init := (He5.fun_of F_OutOfRange_init).binds (ps := ["self", "what", "value"]) fun _ _ _ _ _ _ us hl => match us, hl with | [_, _, _], _ => rfl
    F_TooMany_init := He5.fun_of F_TooMany_init
    b_TooMany_init := (He5.fun_of F_TooMany_init).binds (ps := ["self", "what", "many"]) fun _ _ _ _ _ _ us hl => match us, hl with | [_, _, _], _ => rfl
    F_BadStretch_init := He5.fun_of F_BadStretch_init
    b_BadStretch_init := (He5.fun_of F_BadStretch_init).binds (ps := ["self", "at"]) fun _ _ _ _ _ _ us hl => match us, hl with | [_, _], _ => rfl
    g_in_range := PySem.W.mg_of X G q148
    F_in_range := He5.fun_of F_in_range
    b_in_range := (He5.fun_of F_in_range).binds (ps := ["what", "value", "low", "high"]) fun _ _ _ _ _ _ us hl => match us, hl with | [_, _, _, _], _ => rfl
    F_Pattern_init := He5.fun_of F_Pattern_init
    b_Pattern_init := (He5.fun_of F_Pattern_init).binds (ps := ["self", "head", "period", "stretches"]) fun _ _ _ _ _ _ us hl => match us, hl with | [_, _, _, _], _ => rfl
    F_Pattern_never := He5.fun_of F_Pattern_never
    b_Pattern_never := (He5.fun_of F_Pattern_never).binds (ps := []) fun _ _ _ _ _ _ us hl => match us, hl with | [], _ => rfl
    F_Pattern_every := F_Pattern_every
    bP_Pattern_every_0 := FunD.binds1 (F_Pattern_every) (ps := ["period", "first"]) 1 0 (by simp) rfl (fun _ _ _ _ _ _ _ us its h1 h2 => match us, its, h1, h2 with | [_], [_], _, _ => ⟨_, rfl, rfl⟩)
    bP_Pattern_every_1 := FunD.binds1 (F_Pattern_every) (ps := ["period", "first"]) 2 1 (by simp) rfl (fun _ _ _ _ _ _ _ us its h1 h2 => match us, its, h1, h2 with | [_, _], [_], _, _ => ⟨_, rfl, rfl⟩)
    F_Pattern_contains := He5.fun_of F_Pattern_contains
    b_Pattern_contains := (He5.fun_of F_Pattern_contains).binds (ps := ["self", "minute"]) fun _ _ _ _ _ _ us hl => match us, hl with | [_, _], _ => rfl
    F_Pattern_finite := He5.fun_of F_Pattern_finite
    b_Pattern_finite := (He5.fun_of F_Pattern_finite).binds (ps := ["self"]) fun _ _ _ _ _ _ us hl => match us, hl with | [_], _ => rfl
    F_Pattern_empty := He5.fun_of F_Pattern_empty
    b_Pattern_empty := (He5.fun_of F_Pattern_empty).binds (ps := ["self"]) fun _ _ _ _ _ _ us hl => match us, hl with | [_], _ => rfl
    F_Pattern_number_in := He5.fun_of F_Pattern_number_in
    b_Pattern_number_in := (He5.fun_of F_Pattern_number_in).binds (ps := ["self", "start", "end"]) fun _ _ _ _ _ _ us hl => match us, hl with | [_, _, _], _ => rfl
    F_Pattern_minute_at := He5.fun_of F_Pattern_minute_at
    b_Pattern_minute_at := (He5.fun_of F_Pattern_minute_at).binds (ps := ["self", "index"]) fun _ _ _ _ _ _ us hl => match us, hl with | [_, _], _ => rfl
    F_Pattern_first_from := He5.fun_of F_Pattern_first_from
    b_Pattern_first_from := (He5.fun_of F_Pattern_first_from).binds (ps := ["self", "minute"]) fun _ _ _ _ _ _ us hl => match us, hl with | [_, _], _ => rfl
    F_Pattern_last_before := He5.fun_of F_Pattern_last_before
    b_Pattern_last_before := (He5.fun_of F_Pattern_last_before).binds (ps := ["self", "minute"]) fun _ _ _ _ _ _ us hl => match us, hl with | [_, _], _ => rfl
    F_Pattern_each_minute := He5.fun_of F_Pattern_each_minute
    b_Pattern_each_minute := (He5.fun_of F_Pattern_each_minute).binds (ps := ["self", "start", "end"]) fun _ _ _ _ _ _ us hl => match us, hl with | [_, _, _], _ => rfl
    F_Pattern_run_end := He5.fun_of F_Pattern_run_end
    b_Pattern_run_end := (He5.fun_of F_Pattern_run_end).binds (ps := ["self", "minute"]) fun _ _ _ _ _ _ us hl => match us, hl with | [_, _], _ => rfl
    F_Pattern_near := He5.fun_of F_Pattern_near
    b_Pattern_near := (He5.fun_of F_Pattern_near).binds (ps := ["self", "minute"]) fun _ _ _ _ _ _ us hl => match us, hl with | [_, _], _ => rfl
    F_Pattern_below := He5.fun_of F_Pattern_below
    b_Pattern_below := (He5.fun_of F_Pattern_below).binds (ps := ["self", "minute"]) fun _ _ _ _ _ _ us hl => match us, hl with | [_, _], _ => rfl
    F_Pattern_nth := He5.fun_of F_Pattern_nth
    b_Pattern_nth := (He5.fun_of F_Pattern_nth).binds (ps := ["self", "index"]) fun _ _ _ _ _ _ us hl => match us, hl with | [_, _], _ => rfl
    g_gaps := PySem.W.mg_of X G q149
    F_gaps := He5.fun_of F_gaps
    b_gaps := (He5.fun_of F_gaps).binds (ps := ["pattern"]) fun _ _ _ _ _ _ us hl => match us, hl with | [_], _ => rfl
    g_shortest_gap := PySem.W.mg_of X G q150
    F_shortest_gap := He5.fun_of F_shortest_gap
    b_shortest_gap := (He5.fun_of F_shortest_gap).binds (ps := ["pattern"]) fun _ _ _ _ _ _ us hl => match us, hl with | [_], _ => rfl
    g_longest_gap := PySem.W.mg_of X G q151
    F_longest_gap := He5.fun_of F_longest_gap
    b_longest_gap := (He5.fun_of F_longest_gap).binds (ps := ["pattern"]) fun _ _ _ _ _ _ us hl => match us, hl with | [_], _ => rfl
    g__law_start := PySem.W.mg_of X G q152
    F__law_start := He5.fun_of F__law_start
    b__law_start := (He5.fun_of F__law_start).binds (ps := ["script"]) fun _ _ _ _ _ _ us hl => match us, hl with | [_], _ => rfl
    g__law_draw := PySem.W.mg_of X G q153
    F__law_draw := He5.fun_of F__law_draw
    b__law_draw := (He5.fun_of F__law_draw).binds (ps := ["pool", "many"]) fun _ _ _ _ _ _ us hl => match us, hl with | [_, _], _ => rfl
    g__law_far := PySem.W.mg_of X G q154
    F__law_far := He5.fun_of F__law_far
    b__law_far := (He5.fun_of F__law_far).binds (ps := ["pool"]) fun _ _ _ _ _ _ us hl => match us, hl with | [_], _ => rfl
    g__law_drawn := PySem.W.mg_of X G q155
    F__law_drawn := He5.fun_of F__law_drawn
    b__law_drawn := (He5.fun_of F__law_drawn).binds (ps := ["pool", "most"]) fun _ _ _ _ _ _ us hl => match us, hl with | [_, _], _ => rfl
    g__law_pick_factor := PySem.W.mg_of X G q156
    F__law_pick_factor := He5.fun_of F__law_pick_factor
    b__law_pick_factor := (He5.fun_of F__law_pick_factor).binds (ps := ["pool", "most"]) fun _ _ _ _ _ _ us hl => match us, hl with | [_, _], _ => rfl
    g__law_pattern := PySem.W.mg_of X G q157
    F__law_pattern := He5.fun_of F__law_pattern
    b__law_pattern := (He5.fun_of F__law_pattern).binds (ps := ["w"]) fun _ _ _ _ _ _ us hl => match us, hl with | [_], _ => rfl
    g__law_is_in := PySem.W.mg_of X G q158
    F__law_is_in := He5.fun_of F__law_is_in
    b__law_is_in := (He5.fun_of F__law_is_in).binds (ps := ["w", "minute"]) fun _ _ _ _ _ _ us hl => match us, hl with | [_, _], _ => rfl
    g__law_below := PySem.W.mg_of X G q159
    F__law_below := He5.fun_of F__law_below
    b__law_below := (He5.fun_of F__law_below).binds (ps := ["w", "minute"]) fun _ _ _ _ _ _ us hl => match us, hl with | [_, _], _ => rfl
    g__law_place := PySem.W.mg_of X G q160
    F__law_place := He5.fun_of F__law_place
    b__law_place := (He5.fun_of F__law_place).binds (ps := ["w", "index"]) fun _ _ _ _ _ _ us hl => match us, hl with | [_, _], _ => rfl
    g__law_gaps := PySem.W.mg_of X G q161
    F__law_gaps := He5.fun_of F__law_gaps
    b__law_gaps := (He5.fun_of F__law_gaps).binds (ps := ["w"]) fun _ _ _ _ _ _ us hl => match us, hl with | [_], _ => rfl
    g__law_int := PySem.W.mg_of X G q162
    F__law_int := He5.fun_of F__law_int
    b__law_int := (He5.fun_of F__law_int).binds (ps := ["one"]) fun _ _ _ _ _ _ us hl => match us, hl with | [_], _ => rfl
    g__law_same := PySem.W.mg_of X G q163
    F__law_same := He5.fun_of F__law_same
    b__law_same := (He5.fun_of F__law_same).binds (ps := ["told", "due"]) fun _ _ _ _ _ _ us hl => match us, hl with | [_, _], _ => rfl
    g__law_pair := PySem.W.mg_of X G q164
    F__law_pair := He5.fun_of F__law_pair
    b__law_pair := (He5.fun_of F__law_pair).binds (ps := ["told", "due"]) fun _ _ _ _ _ _ us hl => match us, hl with | [_, _], _ => rfl
    g__law_row := PySem.W.mg_of X G q165
    F__law_row := He5.fun_of F__law_row
    b__law_row := (He5.fun_of F__law_row).binds (ps := ["told", "due"]) fun _ _ _ _ _ _ us hl => match us, hl with | [_, _], _ => rfl
    g__law_made := PySem.W.mg_of X G q166
    F__law_made := He5.fun_of F__law_made
    b__law_made := (He5.fun_of F__law_made).binds (ps := ["kind", "told", "one", "two"]) fun _ _ _ _ _ _ us hl => match us, hl with | [_, _, _, _], _ => rfl
    g__law_asked := PySem.W.mg_of X G q167
    F__law_asked := He5.fun_of F__law_asked
    b__law_asked := (He5.fun_of F__law_asked).binds (ps := ["kind", "told", "one", "two"]) fun _ _ _ _ _ _ us hl => match us, hl with | [_, _, _, _], _ => rfl
    g__law_looks := PySem.W.mg_of X G q168
    F__law_looks := He5.fun_of F__law_looks
    b__law_looks := (He5.fun_of F__law_looks).binds (ps := ["told", "w", "minute", "other"]) fun _ _ _ _ _ _ us hl => match us, hl with | [_, _, _, _], _ => rfl
    g__law_spans := PySem.W.mg_of X G q169
    F__law_spans := He5.fun_of F__law_spans
    b__law_spans := (He5.fun_of F__law_spans).binds (ps := ["pool", "told", "w"]) fun _ _ _ _ _ _ us hl => match us, hl with | [_, _, _], _ => rfl
    g__law_refused := PySem.W.mg_of X G q170
    F__law_refused := He5.fun_of F__law_refused
    b__law_refused := (He5.fun_of F__law_refused).binds (ps := ["pool", "told"]) fun _ _ _ _ _ _ us hl => match us, hl with | [_, _], _ => rfl
    g__law_large := PySem.W.mg_of X G q171
    F__law_large := He5.fun_of F__law_large
    b__law_large := (He5.fun_of F__law_large).binds (ps := ["pool"]) fun _ _ _ _ _ _ us hl => match us, hl with | [_], _ => rfl
    g__law_whole := PySem.W.mg_of X G q172
    F__law_whole := He5.fun_of F__law_whole
    b__law_whole := (He5.fun_of F__law_whole).binds (ps := ["told", "w"]) fun _ _ _ _ _ _ us hl => match us, hl with | [_, _], _ => rfl
    g_law := PySem.W.mg_of X G q173
    F_law := He5.fun_of F_law
    b_law := (He5.fun_of F_law).binds (ps := ["script"]) fun _ _ _ _ _ _ us hl => match us, hl with | [_], _ => rfl
    g_MOST_STRETCHES := Hm.gInt_ok X G q174
    g_FAR := Hm.gInt_ok X G q175
    g_LONG := Hm.gInt_ok X G q176
    n_ValueError := PySem.W.mg_none_of X G q177
    n_bool := PySem.W.mg_none_of X G q178
    n_divmod := PySem.W.mg_none_of X G q179
    n_enumerate := PySem.W.mg_none_of X G q180
    n_int := PySem.W.mg_none_of X G q181
    n_isinstance := PySem.W.mg_none_of X G q182
    n_len := PySem.W.mg_none_of X G q183
    n_list := PySem.W.mg_none_of X G q184
    n_max := PySem.W.mg_none_of X G q185
    n_min := PySem.W.mg_none_of X G q186
    n_property := PySem.W.mg_none_of X G q187
    n_range := PySem.W.mg_none_of X G q188
    n_sorted := PySem.W.mg_none_of X G q189
    n_staticmethod := PySem.W.mg_none_of X G q190
    n_tuple := PySem.W.mg_none_of X G q191
    n_zip := PySem.W.mg_none_of X G q192
  }
end My
namespace My
open PySem PySem.W PySem.Calls PyProof.Rows
abbrev hmR : PySem.W.OpenRow := PySem.W.OpenLaw.row PySem.Challenge.rw_duejobs_k03_counts_and_places_far
set_option maxHeartbeats 0 in
theorem hm_run (w : World) : HandSHeadRun.RunEqI hmR (PySem.W.view hmR.prog [0, 62]) (Hm.hookM 7 hm_ex hm_fn) (Hm.obM 7 hm_ex hm_fn) 20000 hm_names w := by
  unfold HandSHeadRun.RunEqI
  kernel_rfl
end My

namespace My
open PySem L2
theorem fin {P : Program} {w : World} {K : PySem.W.Frag} {mg : Str → Option Value} {fa : Addr} (T : ∃ a : Ad, mg "law" = some (.ref a.f_law) ∧ (∀ (s : Shared) (u : Value), BindsTo s a.d_law ⟨[u], []⟩ [("script", u)]) ∧ Tx K mg a) (hfa : mg "law" = some (.ref fa)) :
    ∃ fd : FuncData, (∀ (s : Shared) (u : Value), BindsTo s fd ⟨[u], []⟩ [("script", u)]) ∧ ∀ base : Heap, K.In base → base.Ns mainGlobals mg → FnOk P w K mg base CX0 11 fa fd ["script"] (spLaw K) := by
  obtain ⟨a, h, hb, T⟩ := T
  have e := hfa.symm.trans h
  cases e
  exact ⟨a.d_law, hb, fun base _ _ => G_law T⟩
end My
open PySem PySem.W PySem.Calls PyProof.Rows
set_option maxRecDepth 100000 in
set_option maxHeartbeats 0 in
theorem PySem.Challenge.cw_duejobs_k03_counts_and_places_far_holds : PySem.Challenge.rw_duejobs_k03_counts_and_places_far.Holds := by
  w_on; o_law
  refine HandSHeadRun.head_imp (r := PySem.W.OpenLaw.row PySem.Challenge.rw_duejobs_k03_counts_and_places_far) (q := view (PySem.W.OpenLaw.row PySem.Challenge.rw_duejobs_k03_counts_and_places_far).prog [0, 62]) (H := Hm.hookM 7 My.hm_ex My.hm_fn) (ob := Hm.obM 7 My.hm_ex My.hm_fn) (M := 20000) (loose := My.hm_names) (d := HandSHeadRun.topDef (PySem.W.OpenLaw.row PySem.Challenge.rw_duejobs_k03_counts_and_places_far).prog 62) (kwd := []) Hm.obM_eq
    My.hm_run (by kernel_rfl) (by kernel_rfl) (by kernel_rfl) (by rfl) (by first | assumption | decide +kernel) (by decide +kernel) ⟨rfl, rfl, rfl, rfl, rfl, by decide +kernel⟩ ?hw ?hc
  case hw => w_witness2
  case hc =>
    refine L2.walk_ofE (l := PySem.Challenge.rw_duejobs_k03_counts_and_places_far) (n := 63) (k := 11) (x := "script") (CX := L2.CX0) rfl (by decide) (by kernel_rfl) ⟨rfl, by decide, by decide⟩ ?F (fun _ _ _ _ z => z)
    intro w mg fa h Y G hmg0
    obtain ⟨K, KX, c⟩ := Y
    have hmg : mg ("law" : PySem.Str) = some (.ref fa) := by
      have e : (HandSHeadRun.topDef (PySem.W.OpenLaw.row PySem.Challenge.rw_duejobs_k03_counts_and_places_far).prog 62).name = ("law" : PySem.Str) := by kernel_rfl
      rw [← e]
      exact hmg0
    obtain ⟨fd, hb, hF⟩ := My.fin (P := (PySem.Challenge.rw_duejobs_k03_counts_and_places_far).prog) (w := w) (My.all_mk KX G c) hmg
    exact ⟨K, fd, My.spLaw K, KX, hb, fun H a ns hl _ hS => ⟨a, ns, rfl, hS, hl, fun _ => rfl⟩, hF⟩

