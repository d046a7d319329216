import PyProof.Rows.All
import Wide.All
import OpenK.AllK
import Wide.FinOn
import HandS.ForMost
import HandS.ForExc
import HandS.Wide
import HandS.IsInst
import HandS.Flow
import HandS.HotCalls
import HandS.ExcValue
import HandS.ExcInit
import HandS.ExcIs
import HandS.TryOnly
import HandS.Defaults
import HandS.Head0
import HandS.Head1
import HandS.Head2
import HandS.HeadEnd
import HandS.HeadHook1
import HandS.HeadHook2
import KE.KExcIs
import HandS.Codes
import PySem.Challenge.RW_twobytwo_k96_things_and_refusals
set_option Elab.async false
set_option linter.all false
namespace NumM
/-! ### the greatest divisor, lowest terms: plain numbers -/
theorem fmod_abs (a : Int) {b : Int} (hb : b ≠ 0) : (a.fmod b).natAbs < b.natAbs := by
  rcases Int.lt_or_gt_of_ne hb with h | h
  · have h1 : (-a).fmod (-b) = -(a.fmod b) := by rw [Int.fmod_def, Int.fmod_def, Int.neg_fdiv_neg, Int.neg_mul]; omega
    have h2 := Int.fmod_lt_of_pos (-a) (show 0 < -b by omega)
    have h3 : 0 ≤ (-a).fmod (-b) := by rw [Int.fmod_eq_emod_of_nonneg _ (by omega)]; exact Int.emod_nonneg _ (by omega)
    omega
  · have h2 := Int.fmod_lt_of_pos a h
    have h3 : 0 ≤ a.fmod b := by rw [Int.fmod_eq_emod_of_nonneg _ (by omega)]; exact Int.emod_nonneg _ (by omega)
    omega
theorem gcd_fmod (a b : Int) : Int.gcd b (a.fmod b) = Int.gcd a b := by
  rw [Int.fmod_def, Int.mul_comm b, Int.gcd_sub_mul_right_right, Int.gcd_comm]
theorem gcd_zero_abs (a : Int) : ((Int.gcd a 0 : Nat) : Int) = if a < 0 then -a else a := by
  rw [Int.gcd_zero_right]
  by_cases h : a < 0
  · rw [if_pos h]; omega
  · rw [if_neg h]; omega
/-- by what both are divided: the divisor, with the sign of the bottom -/
def byOf (a b : Int) : Int := if b < 0 then 0 - (Int.gcd a b : Int) else (Int.gcd a b : Int)
def lowT (a b : Int) : Int := a.fdiv (byOf a b)
def lowB (a b : Int) : Int := b.fdiv (byOf a b)
theorem gcd_pos {a b : Int} (hb : b ≠ 0) : 0 < Int.gcd a b := Int.gcd_pos_of_ne_zero_right a hb
theorem byOf_ne {a b : Int} (hb : b ≠ 0) : byOf a b ≠ 0 := by
  have := gcd_pos (a := a) hb
  unfold byOf
  split <;> omega
theorem byOf_dvd_left (a b : Int) : byOf a b ∣ a := by
  unfold byOf
  split
  · rw [Int.zero_sub]; exact Int.neg_dvd.mpr (Int.gcd_dvd_left a b)
  · exact Int.gcd_dvd_left a b
theorem byOf_dvd_right (a b : Int) : byOf a b ∣ b := by
  unfold byOf
  split
  · rw [Int.zero_sub]; exact Int.neg_dvd.mpr (Int.gcd_dvd_right a b)
  · exact Int.gcd_dvd_right a b
theorem byOf_abs (a b : Int) : (byOf a b).natAbs = Int.gcd a b := by
  unfold byOf
  split <;> omega
theorem gcd_le {a b : Int} (hb : b ≠ 0) : Int.gcd a b ≤ b.natAbs := Nat.le_of_dvd (by omega) (by
  have := Int.gcd_dvd_right a b
  exact Int.natAbs_dvd_natAbs.mpr this)
theorem lowT_mul (a b : Int) : lowT a b * byOf a b = a := Int.fdiv_mul_cancel (byOf_dvd_left a b)
theorem lowB_mul (a b : Int) : lowB a b * byOf a b = b := Int.fdiv_mul_cancel (byOf_dvd_right a b)
theorem lowB_pos {a b : Int} (hb : b ≠ 0) : 0 < lowB a b := by
  have e := lowB_mul a b
  have g := gcd_pos (a := a) hb
  by_cases h : b < 0
  · have h2 : byOf a b < 0 := by unfold byOf; rw [if_pos h]; omega
    by_cases c : 0 < lowB a b
    · exact c
    · have : 0 ≤ lowB a b * byOf a b := Int.mul_nonneg_of_nonpos_of_nonpos (by omega) (by omega)
      omega
  · have h2 : 0 < byOf a b := by unfold byOf; rw [if_neg h]; omega
    by_cases c : 0 < lowB a b
    · exact c
    · have : lowB a b * byOf a b ≤ 0 := Int.mul_nonpos_of_nonpos_of_nonneg (by omega) (by omega)
      omega
theorem low_gcd {a b : Int} (hb : b ≠ 0) : Int.gcd (lowT a b) (lowB a b) = 1 := by
  have e : Int.gcd (lowT a b * byOf a b) (lowB a b * byOf a b) = Int.gcd (lowT a b) (lowB a b) * (byOf a b).natAbs := Int.gcd_mul_right _ _ _
  rw [lowT_mul, lowB_mul, byOf_abs] at e
  have g := gcd_pos (a := a) hb
  have : 1 * Int.gcd a b = Int.gcd (lowT a b) (lowB a b) * Int.gcd a b := by rw [Nat.one_mul]; exact e
  exact (Nat.eq_of_mul_eq_mul_right g this).symm
theorem low_cross {a b : Int} (hb : b ≠ 0) : lowT a b * b = a * lowB a b := by
  have e1 := lowT_mul a b
  have e2 := lowB_mul a b
  calc lowT a b * b = lowT a b * (lowB a b * byOf a b) := by rw [e2]
    _ = (lowT a b * byOf a b) * lowB a b := by rw [Int.mul_comm (lowB a b), ← Int.mul_assoc]
    _ = a * lowB a b := by rw [e1]
theorem low_abs_le {x y z : Int} (h : x * y = z) (hy : y ≠ 0) : x.natAbs ≤ z.natAbs := by
  rw [← h, Int.natAbs_mul]
  exact Nat.le_mul_of_pos_right _ (by omega)
theorem lowT_le {a b : Int} (hb : b ≠ 0) : (lowT a b).natAbs ≤ a.natAbs := low_abs_le (lowT_mul a b) (byOf_ne hb)
theorem lowB_le {a b : Int} (hb : b ≠ 0) : (lowB a b).natAbs ≤ b.natAbs := low_abs_le (lowB_mul a b) (byOf_ne hb)
end NumM
set_option maxRecDepth 100000
set_option maxHeartbeats 4000000
namespace My
open PySem PySem.Spec PyProof.Rows L2
/-! ### // of any ints -/
def DivG (_ j : Int) : Prop := j ≠ 0 ∧ j.natAbs.log2 < 9000
theorem op_fdivG {X : Cx} : OpR X (binaryOp .FloorDiv) (rI DivG fun i j => .int (i.fdiv j)) :=
  opI fun _ _ _ _ _ _ _ hc q => floordiv_int hc.1 q (.inl (PyProof.noPylong_of_log2 hc.2))
theorem new_same {H : Hp} {p : Addr} {o : HO} (h : H p = none) : Same H (upd H p o) := fun b x e => by
  rw [upd_ne (ne_of_none e h)]
  exact e
/-! ### a def, where it stands and what it promises -/
structure Ok (P : Program) (w : World) (K : PySem.W.Frag) (mg : Str → Option Value) (base : Heap) (CX : CXT) (k : Nat) (x : Str) (ps : List Str) (sp : Sp) : Prop where
  g : mg x = some (.ref (He.ga K x))
  kp : PySem.W.keepIn K (.ref (He.ga K x)) = true
  fn : ∃ fd : FuncData, FnOk P w K mg base CX k (He.ga K x) fd ps sp ∧ Binds K fd ps []
section
variable {X : Cx} {k : Nat} {x : Str} {ps : List Str} {sp : Sp} {p pos : Pos} {e : Expr} {es : List Expr} {t : TA}
/-- f(e, ..), f a def of the top that lets nothing out -/
theorem pe_o (O : Ok X.prog X.w X.K X.mg X.base CX0 k x ps sp) (hr : Room k X.A) (ha : PA X (e :: es) t) (hg : Gl X x := by rfl) (hd : (x == ("__debug__" : Str)) = false := by decide)
    (h1 : starEach (e :: es) X.env = (false, eval e X.env) :: starEach es X.env := by rfl) (h2 : (backTo pos (starEach es X.env)).any (·.1) = false := by rfl) :
    PE X (.Call (.Name x p) (e :: es) [] pos) (tCall sp [] E0 t) := by
  obtain ⟨fd, F, b⟩ := O.fn
  exact pe_call F hr hg O.g O.kp b .nil pass0 ha hd h1 h2
/-- the same of a def that may raise, within a try's body -/
theorem pe_oS {CX : CXT} {E : L2.St → XK} (O : Ok X.prog X.w X.K X.mg X.base CX k x ps sp) (hr : Room k X.A) (hx : ∀ σ, PassesAt CX X σ (E σ)) (ha : PA X (e :: es) t) (hg : Gl X x := by rfl) (hd : (x == ("__debug__" : Str)) = false := by decide)
    (h1 : starEach (e :: es) X.env = (false, eval e X.env) :: starEach es X.env := by rfl) (h2 : (backTo pos (starEach es X.env)).any (·.1) = false := by rfl) :
    PE X (.Call (.Name x p) (e :: es) [] pos) (tCallS sp E t) := by
  obtain ⟨fd, F, b⟩ := O.fn
  exact pe_callS F hr hg O.g O.kp b hx ha hd h1 h2
end
/-! ### errors as values: tracked -/
/-- at a: an error of the class at C, of no dict, or of one -/
def ErrAt (H : Hp) (a C : Addr) : Prop := H a = some (ExO (.ref C) a) ∨ ∃ (d : Addr) (fs : List (Str × V)), H a = some (exo a C (some d)) ∧ H d = some (exd d fs)
section
variable {X : Cx} {pins : List (Addr × Obj)} {σ : L2.St} {H : Hp} {s : Shared} {a C : Addr}
theorem inst_of (I : Inv X pins σ H s) (h : ErrAt H a C) : ∃ ox od, PySem.W.InstAt s.heap a ox C od := by
  rcases h with h | ⟨d, fs, h, hd⟩
  · obtain ⟨⟨oe, vs, g, z, dt, _⟩, _, _⟩ := I.hok a _ h
    obtain ⟨oc, od, oda, osl⟩ := oe
    obtain ⟨z1, z2⟩ := z
    dsimp only at z1 z2 dt
    subst z1 z2 dt
    exact ⟨_, none, g, rfl, rfl, trivial⟩
  · obtain ⟨t1, g⟩ := exo_at I.hok h
    obtain ⟨mA, hn, _⟩ := exd_at I.hok hd
    obtain ⟨od, hod, _⟩ := lookIn_ns hn
    exact ⟨_, some od, g, rfl, rfl, hod⟩
end
theorem clsIn_of {K : PySem.W.Frag} {C : Addr} (h : PySem.W.hasDictIn K C = true) : (PySem.W.clsIn K C).isSome = true := by
  obtain ⟨cd, hc, _⟩ := PySem.W.any_some h
  rw [hc]
  rfl
/-- isinstance(e, c), e a tracked error -/
def rIsX (K : PySem.W.Frag) : List V → Hp → VK → Prop := fun xs H Q => ∃ (a C : Addr) (c : V) (cv : Value) (b : Bool), xs = [.ref a, c] ∧ ExcC K C ∧ ErrAt H a C ∧ ClsV c cv ∧ PySem.W.kitOne K (.ref C) cv = some b ∧ Q (.bl b) H
theorem call_isX {X : Cx} : CallR X (.builtin "isinstance") (rIsX X.K) := by
  intro pins s σ H xs us Q I r h
  obtain ⟨a, C, c, cv, b, rfl, T, hE, hc, e, q⟩ := h
  obtain ⟨u1, u2, rfl, r1, r2⟩ := vals2 r
  cases (show u1 = Value.ref a from r1)
  have e2 := hc.eq r2
  subst e2
  obtain ⟨ox, od, J⟩ := inst_of I hE
  exact PySem.W.kia_one (PySem.W.kitx_exc (clsIn_of T.hd) T.hg T.hk T.hs T.ha T.hn T.ht T.hm) I.kIn J e (fun z => nomatch z) fun tk => ⟨.bl b, H, I.tok tk, rfl, q⟩
/-- isinstance(e, c), e the error at a that is handled, of the class cls, its own dict d -/
def rIsP (K : PySem.W.Frag) (cls : Value) (d : Option Addr) (a : Addr) : List V → Hp → VK → Prop := fun xs H Q => ∃ (C : Addr) (c : V) (cv : Value) (b : Bool), cls = .ref C ∧ d = none ∧ ExcC K C ∧ xs = [.ref a, c] ∧ ClsV c cv ∧ PySem.W.kitOne K (.ref C) cv = some b ∧ Q (.bl b) H
theorem call_isP {X : Cx} {cls : Value} {d : Option Addr} {p : Addr × Obj} (hp : p ∈ X.pn) (z : Zc cls d p.2) (hf : ∃ vs, p.2.data = .fields vs) : CallR X (.builtin "isinstance") (rIsP X.K cls d p.1) := by
  intro pins s σ H xs us Q I r h
  obtain ⟨C, c, cv, b, rfl, rfl, T, rfl, hc, e, q⟩ := h
  obtain ⟨u1, u2, rfl, r1, r2⟩ := vals2 r
  cases (show u1 = Value.ref p.1 from r1)
  have e2 := hc.eq r2
  subst e2
  obtain ⟨g, _⟩ := I.pin p (List.mem_append_left _ hp)
  obtain ⟨vs, hv⟩ := hf
  obtain ⟨a, oc, od, oda, osl⟩ := p
  obtain ⟨z1, z2⟩ := z
  dsimp only at z1 z2 hv g
  subst z1 z2 hv
  have J : PySem.W.InstAt s.heap a ⟨.ref C, none, .fields vs, osl⟩ C none := ⟨g, rfl, rfl, trivial⟩
  exact PySem.W.kia_one (PySem.W.kitx_exc (clsIn_of T.hd) T.hg T.hk T.hs T.ha T.hn T.ht T.hm) I.kIn J e (fun z => nomatch z) fun tk => ⟨.bl b, H, I.tok tk, rfl, q⟩
/-- C(e, ..) as a value, C an error's class with its own __init__ -/
def tErr (C : Addr) (sp : Sp) (ta : TA) : TE := fun σ H Q => ta σ H fun vs H1 => vs.length ≤ 1000 ∧ ∀ a, H1 a = none → sp (.ref a :: vs) (upd H1 a (exo a C none)) (fun v H2 => v = .non ∧ Q (.ref a) H2) E0
theorem pe_err {X : Cx} {x : Str} {C fI : Addr} {k : Nat} {fd : FuncData} {ps : List Str} {sp : Sp} {e : Expr} {es : List Expr} {ta : TA} {p pos : Pos} (T : OexC X.K C)
    (iC : PySem.W.findIn X.K (.ref C) "__init__" = some (some (.ref fI))) (tI : PySem.W.typeIn X.K (.ref fI) = some (.type "function")) (F1 : FnOk X.prog X.w X.K X.mg X.base CX0 k fI fd ps sp) (hr : Room (k + 1) X.A) (hb : Binds X.K fd ps [])
    (hm : X.mg x = some (.ref C)) (ha : PA X (e :: es) ta) (hg : Gl X x := by rfl) (hdb : (x == ("__debug__" : Str)) = false := by decide)
    (h1 : starEach (e :: es) X.env = (false, eval e X.env) :: starEach es X.env := by rfl) (h2 : (backTo pos (starEach es X.env)).any (·.1) = false := by rfl) :
    PE X (.Call (.Name x p) (e :: es) [] pos) (tErr C sp ta) := by
  constructor
  intro pins s σ H Q I h
  have T' := T
  obtain ⟨nm, q, N, bs, bm, sn, sub, ab, col, dd, k0, k1, k2, k3, k5, hC, hbm⟩ := T'.cls
  refine wpAny_Call_Name_kw (ld_glob I hg hm ?_ hdb)
  refine PySem.W.callWith_K (h₀ := X.base) I.ok.mod.kin T.kC ?_ h1 h2
  refine thn (ha.run pos pins s σ H _ I h) ?_
  intro us s1 hh
  obtain ⟨vs, H1, I1, r1, hz, q1⟩ := hh
  refine ⟨I1.kIn, ?_⟩
  show wpAny _ _ (call (.ref C) us) _ _ _
  obtain ⟨hp, g, dr, tk, os⟩ := s1
  have up : hp.objs.size ≤ hp.objs.size + 1 := Nat.le_succ _
  have nw : H1 (hp.objs.size + 1) = none := I1.hok.fresh up
  have hq := q1 (hp.objs.size + 1) nw
  let h' := (hp.push (PySem.W.kdv_tup us)).push (PySem.HandSPX.excO C hp.objs.size)
  have keep : ∀ b o, hp.get? b = some o → h'.get? b = some o := fun b o e =>
    Heap.get?_push_of_some _ (Heap.get?_push_of_some _ e)
  have here : h'.get? (hp.objs.size + 1) = some (PySem.HandSPX.excO C hp.objs.size) := by
    show ((hp.push (PySem.W.kdv_tup us)).push (PySem.HandSPX.excO C hp.objs.size)).get? (hp.objs.size + 1) = _
    heap_get
  have I2 : Inv X pins σ (upd H1 (hp.objs.size + 1) (exo (hp.objs.size + 1) C none)) ⟨h', g, dr, tk, os⟩ :=
    I1.laid (t' := tk) keep up (exo_ok here)
  have r2 : Vals (V.ref (hp.objs.size + 1) :: vs) (Value.ref (hp.objs.size + 1) :: us) := .cons rfl r1
  have hl : (Value.ref (hp.objs.size + 1) :: us).length = ps.length := by
    rw [← r2.length]
    exact F1.len _ _ _ _ hq
  have hus : us.length ≤ sizeLine := by
    rw [← Paired.length r1, sizeLine_eq]
    omega
  have bd := hb ⟨h', g, dr, tk, os⟩ (Value.ref (hp.objs.size + 1) :: us) I2.kIn (by rw [List.append_nil]; exact hl)
  rw [List.append_nil] at bd
  have fin := F1.run _ X.stack _ _ ⟨Value.ref (hp.objs.size + 1) :: us, []⟩ _ _ _ E0 (hr.make C us []) (I2.env0.make C us []) bd r2 hq
  refine wpAny_call (PySem.HandSPX.call_own F.excBase_ValueError (fun Y => PySem.HandSPX.refsVE_contains Y bm hbm) (I1.kIn _ _ hC) (PySem.W.looks_findIn I1.kIn iC) (fun self => PySem.W.bind_fn I1.kIn self tI) hus (codeAny_mono fin ?_))
  intro r s' hq'
  cases r with
  | error er => exact False.elim hq'
  | ok fl =>
    cases fl with
    | ret u =>
      obtain ⟨v, H2, os2, bare2, un2, hok2, rv, ev, q2⟩ := hq'
      subst ev
      exact ⟨rv, .ref (hp.objs.size + 1), H2, I2.call' (ch := []) os2 un2 hok2 bare2 (fun b z => absurd z (by simp)), rfl, q2⟩
    | next => exact False.elim hq'
    | brk => exact False.elim hq'
    | cont => exact False.elim hq'
/-- e.f, e a tracked error that has its dict -/
def tXf (K : PySem.W.Frag) (te : TE) (f : Str) : TE := fun σ H Q => te σ H fun x H1 => ∃ (a C d : Addr) (fs : List (Str × V)) (v : V),
  x = .ref a ∧ ExcC K C ∧ PySem.W.findIn K (.ref C) f = some none ∧ H1 a = some (exo a C (some d)) ∧ H1 d = some (exd d fs) ∧ fs.lookup f = some v ∧ Q v H1
theorem pe_xf {X : Cx} {e : Expr} {te : TE} {f : Str} {pos : Pos} (he : PE X e te) (hb : attributeBase e f X.env (eval e X.env) = eval e X.env := by rfl) : PE X (.Attribute e f pos) (tXf X.K te f) := by
  constructor
  intro pins s σ H Q I h
  refine attr_of hb (thn (he.run pins s σ H _ I h) ?_)
  intro u s1 hh
  obtain ⟨x, H1, I1, rx, a, C, d, fs, v, ex, T, hno, ha, hd, hl, q⟩ := hh
  subst ex
  cases (show u = Value.ref a from rx)
  obtain ⟨t1, g⟩ := exo_at I1.hok ha
  obtain ⟨mA, hn, rel⟩ := exd_at I1.hok hd
  obtain ⟨od, hod, look⟩ := lookIn_ns hn
  obtain ⟨w', hw, rw'⟩ := RelO.some_of (v := v) (o := mA f) (by rw [← hl]; exact rel f)
  have J : PySem.W.InstAt s1.heap a ({ cls := .ref C, dict := some d, data := .fields #[.ref t1, .none, .none, .none, .bool false, .none] } : Obj) C (some od) := ⟨g, rfl, rfl, hod⟩
  exact PySem.HandSPX.exc_get I1.kIn J T.hg T.hk T.hs (PySem.W.findObj_own T.hd hno rfl (by rw [look, hw])) (handed_of rw') ⟨v, H1, I1.tok _, rw', q⟩
/-! ### a def that is called within an except suite with the error itself: p is told ahead -/
structure FnP (P : Program) (w : World) (K : PySem.W.Frag) (mg : Str → Option Value) (base : Heap) (k : Nat) (f : Addr) (fd : FuncData) (ps : List Str) (sp : Sp) (p : Addr × Obj) : Prop where
  len : ∀ vs H Q E, sp vs H Q E → vs.length = ps.length
  run : ∀ (A : Around) (outer : List Env) (s : Shared) (H : Hp) (args : Args) (us : List Value) (vs : List V) (Q : VK),
    L2H.RoomH k A → L2H.Hot1 A p → L2H.PinOk outer H s p → Env0 P w K mg base A outer s H → BindsTo s fd args (ps.zip us) → Vals vs us → sp vs H Q E0 →
    codeAny (model P w) A (.call (.ref f) args) (CR CX0 outer P w H s Q E0) s
theorem fnP_of {P : Program} {w : World} {K : PySem.W.Frag} {mg : Str → Option Value} {base : Heap} {x qual : Str} {params : Arguments} {body : List Stmt} {scope : Scope} {dvs : List V} {kws : List (Str × V)} {f : Addr} {fd : FuncData} {N ps : List Str} {k : Nat} {sp : Sp} {p : Addr × Obj}
    (F : FunD K x qual params body scope dvs kws f fd) (S : FnScope N ps scope) (len : ∀ vs H Q E, sp vs H Q E → vs.length = ps.length)
    (hbody : ∀ (cdv : Value) (A : Around) (outer : List Env) (s : Shared) (H : Hp) (vs : List V) (Q : VK), sp vs H Q E0 →
      ∃ t, PSs (L2H.cxH CX0 P w K mg base N qual scope f cdv A outer s H E0 p) body t ∧ t { nx := fun _ H' => Q .non H', rt := Q } (L2.start N vs) H) : FnP P w K mg base (k + 1) f fd ps sp p := by
  obtain ⟨oc, od, dV, kV, doc, pm, an, cdv, ct, osl, rfl, lk, hcd, _, _⟩ := F.ex
  constructor
  · exact len
  intro A outer s H args us vs Q hr hot hpin e0 hb r hsp
  have hl := len _ _ _ _ hsp
  have bk : ∀ b o, base.get? b = some o → s.heap.get? b = some o := fun b o e => (e0.bs b o e).1
  have KX : K.In s.heap := e0.mod.kin.keeps bk
  have hk : ∀ y ∈ ps.zip us, scope.names.lookup y.1 = some .local ∨
      (scope.names.lookup y.1 = some .cell ∧ ((cellsFrom (s.heap.objs.size + 1) scope.names []).lookup y.1).isSome = true) := by
    intro y hy
    obtain ⟨n, v⟩ := y
    cases S.par n (List.of_mem_zip hy).1 with
    | inl q => exact .inl q
    | inr q => exact .inr ⟨q, PySem.W.cellsFrom_some _ _ _ (.inl q)⟩
  refine codeAny_call_function hr.depth (KX _ _ lk) rfl S.co S.gen rfl (PySem.W.codeRec_of KX hcd) (hb _ _ _ _ ?_)
  refine wpAny_newFunctionEnv_cells S.kind hk ?_
  intro env he s1 x
  subst he
  refine ⟨(e0.mod.nolimit.keeps bk).keeps x.toInCall.keep, codeAny_func ?_⟩
  obtain ⟨t, ht, hq⟩ := hbody cdv A outer s H vs Q hsp
  have I := L2H.inv_startH (CX := CX0) (P := P) (w := w) (K := K) (mg := mg) (E := E0) S hpin e0 hl r x
  refine wpAny_mono (ht.run [] s1 (L2.start N vs) H _ I hq) ?_ (fun e s' z => z)
  intro fl s' hs
  cases fl with
  | ret u =>
    obtain ⟨v, σ', H', J, rv, q⟩ := hs
    exact ⟨v, H', J.os, J.bare, J.base, J.hok, rv, q⟩
  | next =>
    obtain ⟨σ', H', J, q⟩ := hs
    exact ⟨.non, H', J.os, J.bare, J.base, J.hok, rfl, q⟩
  | brk =>
    obtain ⟨_, _, _, q⟩ := hs
    exact q.elim
  | cont =>
    obtain ⟨_, _, _, q⟩ := hs
    exact q.elim
/-- f(e) there -/
theorem pe_hot {X : Cx} {k : Nat} {f : Addr} {fd : FuncData} {ps : List Str} {sp : Sp} {x : Str} {q pos : Pos} {e : Expr} {es : List Expr} {t : TA} {p : Addr × Obj} (F : FnP X.prog X.w X.K X.mg X.base k f fd ps sp p) (hr : L2H.RoomH k X.A) (hot : L2H.Hot1 X.A p) (hp : p ∈ X.pn)
    (hm : X.mg x = some (.ref f)) (hk : PySem.W.keepIn X.K (.ref f) = true) (hb : Binds X.K fd ps []) (ha : PA X (e :: es) t) (hg : Gl X x := by rfl) (hd : (x == ("__debug__" : Str)) = false := by decide)
    (h1 : starEach (e :: es) X.env = (false, eval e X.env) :: starEach es X.env := by rfl) (h2 : (backTo pos (starEach es X.env)).any (·.1) = false := by rfl) :
    PE X (.Call (.Name x q) (e :: es) [] pos) (tCall sp [] E0 t) := by
  constructor
  intro pins s σ H Q I h
  refine wpAny_Call_Name_kw (ld_glob I hg hm ?_ hd)
  refine PySem.W.callWith_K (h₀ := X.base) I.ok.mod.kin hk ?_ h1 h2
  refine thn (ha.run pos pins s σ H _ I h) ?_
  intro us s1 hh
  obtain ⟨vs, H1, I1, r, q1⟩ := hh
  rw [List.append_nil] at q1
  refine ⟨I1.kIn, ?_⟩
  have b := hb s1 us I1.kIn (by rw [List.append_nil, ← r.length]; exact F.len _ _ _ _ q1)
  rw [List.append_nil] at b
  obtain ⟨g1, g2, g3, g4, g5⟩ := I1.pin p (List.mem_append_left _ hp)
  have pk : L2H.PinOk X.stack H1 s1 p := by
    refine ⟨g1, g2, fun hm => ?_, g5⟩
    rcases List.mem_cons.mp (I1.stkSub p.1 hm) with z | z
    · exact g3 z
    · exact g4 z
  refine wpAny_call (codeAny_mono (F.run X.A X.stack s1 H1 ⟨us, []⟩ us vs Q hr hot pk I1.env0 b r q1) ?_)
  intro r' s' hq
  cases r' with
  | error e => exact hq.elim
  | ok fl =>
    cases fl with
    | ret u => exact I1.after hq
    | next => exact hq.elim
    | brk => exact hq.elim
    | cont => exact hq.elim
/-- around a body nothing is let out -/
theorem takes0N {X : Cx} : L2N.Takes X (fun _ _ _ _ => False) := fun u s' x => by
  obtain ⟨_, _, _, _, _, _, _, _, _, _, _, _, _, _, _, _, z⟩ := x
  exact z.elim
theorem roomH_suite {k : Nat} {X : Cx} {a : Addr} {pn : List (Addr × Obj)} (r : Room k X.A) : L2H.RoomH k (X.suite a pn).A := ⟨r.dp, r.un⟩
/-- the suite's own error is hot -/
theorem hot_suite {X : Cx} {a : Addr} {oe : Obj} {cls : Value} {d : Option Addr} {pn : List (Addr × Obj)} (z : L2N.Zn cls d oe) (hf : ∃ vs, oe.data = .fields vs) : L2H.Hot1 (X.suite a ((a, oe) :: pn)).A (a, oe) := by
  obtain ⟨vs, e⟩ := hf
  exact ⟨rfl, vs, e, z.2.2 vs e⟩
end My
set_option maxRecDepth 100000
set_option maxHeartbeats 4000000
namespace K96
open PySem PySem.Spec PyProof.Rows L2
/-- the i-th row of the text -/
def topS (i : Nat) : Stmt := PySem.Challenge.pw_twobytwo_k96_things_and_refusals.main.body.getD i (.Pass ⟨0, 0, 0, 0⟩)
def dd (x : Str) (i : Nat) (dfl : List He.Dv) : He.DefD := ⟨(x, none), x, x, defArgs (topS i), defBody (topS i), defScope (topS i), dfl, []⟩
/-- the defs that the law reaches -/
def fns : List He.DefD := [dd "is_whole" 12 [], dd "divisor" 13 [], dd "lowest" 14 [], dd "is_number" 15 [], dd "number" 16 [.int 1], dd "read_number" 22 [], dd "is_told" 23 [], dd "_law_whole" 25 [],
  dd "_law_cell_at" 26 [], dd "_law_divisor" 27 [], dd "_law_mixed" 28 [], dd "_law_kinds" 29 [], dd "_law_refusals" 30 [], dd "_law_thing" 31 [], dd "_law_number" 32 [], dd "_law_told" 33 [], dd "_law_truth" 34 [],
  dd "_law_made" 35 [], dd "_law_no_text" 36 [], dd "law" 37 []]
def frees : List Str := ["isinstance", "int", "bool", "tuple", "str", "abs", "len", "ValueError"]
def glos : List Str := ["is_whole", "divisor", "lowest", "is_number", "number", "read_number", "is_told", "_law_whole", "_law_cell_at", "_law_divisor", "_law_mixed", "_law_kinds", "_law_refusals", "_law_thing", "_law_number", "_law_told",
  "_law_truth", "_law_made", "_law_no_text", "law"]
def excs : List Str := ["MarkError", "NoNumber", "NoDay", "NoTable", "NoPlan", "NoSpace", "NoTelling", "TooMany", "NoRow", "NoName"]
def plains : List Str := ["NoNumber", "NoDay", "NoSpace", "TooMany", "NoRow", "NoName"]
def fas : List He.Fa := frees.map .free ++ glos.map .glo ++ excs.map .glo ++ plains.map .exc ++ [.exm "NoNumber" "NoNumber" true]
/-- the three errors that keep a field, and its name -/
def owns : List (Str × Str) := [("NoTable", "row"), ("NoPlan", "step"), ("NoTelling", "part")]
def ownD (x : Str) (i : Nat) : He.DefD := ⟨(x, some "__init__"), "__init__", x ++ ".__init__", defArgs (inClass (topS i) 0), defBody (inClass (topS i) 0), defScope (inClass (topS i) 0), [], []⟩
def allD : List He.DefD := fns ++ [ownD "NoTable" 4, ownD "NoPlan" 5, ownD "NoTelling" 7]
def clsB (K : PySem.W.Frag) (x : Str) : Bool := match K.lookup (He.ga K x) with
  | some ⟨.type "type", _, .cls cd, sl⟩ => (match cd.mro, sl.toList with
    | .ref C :: bm, [_, _, _, _, some (.builtin n), _] => decide (C = He.ga K x) && (decide (n = "ValueError.__new__") && (!cd.hasDel && (cd.hasDict && PySem.HandSPX.refsVE bm)))
    | _, _ => false)
  | _ => false
def ownB (K : PySem.W.Frag) (x f : Str) : Bool :=
  clsB K x && (decide (PySem.W.findIn K (.ref (He.ga K x)) "__setattr__" = some (some (.builtin "object.__setattr__"))) &&
  (decide (PySem.W.subIn K (.ref (He.ga K x)) (.type "BaseException") = some true) && (decide (PySem.W.typeIn K (.ref (He.ga K x)) = some (.type "type")) &&
  (PySem.W.keepIn K (.ref (He.ga K x)) && (decide (PySem.W.findIn K (.ref (He.ga K x)) "__init__" = some (some (.ref (He.ma K (He.ga K x) "__init__")))) &&
  (decide (PySem.W.typeIn K (.ref (He.ma K (He.ga K x) "__init__")) = some (.type "function")) && decide (PySem.W.findIn K (.ref (He.ga K x)) f = some none)))))))
/-- what a class of an error must say, as one check -/
def excB (K : PySem.W.Frag) (x : Str) : Bool :=
  decide (PySem.W.findIn K (.ref (He.ga K x)) "__getattribute__" = some (some (.builtin "BaseException.__getattribute__"))) &&
  (decide (PySem.W.findIn K (.ref (He.ga K x)) "__getattr__" = some none) &&
  (decide (PySem.W.subIn K (.ref (He.ga K x)) (.type "BaseException") = some true) &&
  (PySem.W.hasDictIn K (He.ga K x) &&
  (decide (PySem.W.findIn K (.ref (He.ga K x)) "__class__" = some (some (.builtin "object.__class__"))) &&
  (decide (PySem.W.specialIn K (.builtin "object.__class__") "__get__" = some (some (.builtin "getset_descriptor.__get__"))) &&
  (decide (PySem.W.takesIn K (.builtin "object.__class__") = some true) &&
  decide (PySem.W.mroIn K (He.ga K x) (.type "object") = some true)))))))
/-- isinstance of an error of the class x by the class y -/
def isaB (K : PySem.W.Frag) (x y : Str) (b : Bool) : Bool := decide (PySem.W.kitOne K (.ref (He.ga K x)) (.ref (He.ga K y)) = some b)
def isvB (K : PySem.W.Frag) (x : Str) : Bool := decide (PySem.W.kitOne K (.ref (He.ga K x)) (.type "ValueError") = some true)
def nine : List Str := ["NoNumber", "NoDay", "NoTable", "NoPlan", "NoSpace", "NoTelling", "TooMany", "NoRow", "NoName"]
def fxs : List (PySem.W.Frag → Bool) :=
  [fun K => nine.all fun x => excB K x && (isvB K x && (isaB K x "MarkError" true && nine.all fun y => isaB K x y (decide (x = y)))),
   fun K => owns.all fun q => ownB K q.1 q.2]
def obsM (K : PySem.W.Frag) : Bool × He.AlD := (fxs.all fun f => f K, He.obsD fas allD K)
def hookM (n : Nat) : PySem.W.Hook where
  α := Bool × He.AlD
  obs := fun s => obsM (He.frG s.heap.get? (He.asD s.heap.get? n))
  val := fun _ => (true, He.valD allD)
  says := fun _ h => ∃ K : PySem.W.Frag, K.In h ∧ obsM K = (true, He.valD allD)
  of := fun _ _ e => ⟨_, He.frG_in, e⟩
  keeps := fun _ _ _ ⟨K, hK, c⟩ k => ⟨K, PySem.W.Frag.In.keeps hK k, c⟩
abbrev R : PySem.W.OpenRow := PySem.W.OpenLaw.row PySem.Challenge.rw_twobytwo_k96_things_and_refusals
abbrev hk : PySem.W.Hook := hookM 5
def ob (s : PySem.W.SharedT) : Bool × He.AlD := obsM (He.frG (HandSHeadRun.getT s) (He.asD (HandSHeadRun.getT s) 5))
theorem ob_eq (s : PySem.W.SharedT) : ob s = hk.obs s.abs := by
  have e : HandSHeadRun.getT s = s.abs.heap.get? := funext (HandSHeadRun.getT_eq s)
  show obsM (He.frG (HandSHeadRun.getT s) (He.asD (HandSHeadRun.getT s) 5)) = obsM (He.frG s.abs.heap.get? (He.asD s.abs.heap.get? 5))
  rw [e]
def names1 : List Str := ["MarkError", "NoNumber", "NoDay", "NoTable", "NoPlan", "NoSpace", "NoTelling", "TooMany", "NoRow", "NoName", "is_whole", "divisor", "lowest", "is_number", "number", "FIGURES"]
def names2 : List Str := ["MOST", "count_of", "top_of", "read_number", "is_told", "_law_whole", "_law_cell_at", "_law_divisor", "_law_mixed", "_law_kinds", "_law_refusals", "_law_thing", "_law_number", "_law_told", "_law_truth", "_law_made", "_law_no_text"]
def names : List Str := names1 ++ names2
theorem run (w : World) : HandSHeadRun.RunEq R (PySem.W.view R.prog [37]) hk ob 8000 names w := by
  intro os
  kernel_rfl
end K96
set_option maxRecDepth 100000
set_option maxHeartbeats 4000000
namespace K96
open PySem PySem.Spec PyProof.Rows L2 My
/-! ### what the top leaves -/
structure Txt (K : PySem.W.Frag) (mg : Str → Option Value) : Prop where
  says : obsM K = (true, He.valD allD)
  kin : ∃ h : Heap, K.In h ∧ h.Ns mainGlobals mg
section
variable {K : PySem.W.Frag} {mg : Str → Option Value}
theorem Txt.c (T : Txt K mg) : He.SaysD fas allD K := congrArg (fun z : Bool × He.AlD => z.2) T.says
theorem Txt.f1 (T : Txt K mg) : (fxs.all fun f => f K) = true := congrArg (fun z : Bool × He.AlD => z.1) T.says
theorem Txt.fa (T : Txt K mg) {f : He.Fa} (h : f ∈ fas) : f.ok K = true := by
  have c1 := (He.ba (show ((fas.all fun f => f.ok K) && allD.all fun d => d.ok K) = true from congrArg (fun z : He.AlD => z.1) T.c)).1
  exact List.all_eq_true.mp c1 f h
theorem mem_of {l : List Str} {x : Str} (h : l.contains x = true) : x ∈ l := List.contains_iff_mem.mp h
theorem Txt.b (T : Txt K mg) (x : Str) (h : frees.contains x = true := by decide +kernel) : mg x = none := by
  obtain ⟨hp, X, G⟩ := T.kin
  exact He.free_ok X G (T.fa (List.mem_append_left _ (List.mem_append_left _ (List.mem_append_left _ (List.mem_append_left _ (List.mem_map_of_mem (mem_of h)))))))
theorem Txt.g (T : Txt K mg) (x : Str) (h : (glos ++ excs).contains x = true := by decide +kernel) : mg x = some (.ref (He.ga K x)) := by
  obtain ⟨hp, X, G⟩ := T.kin
  refine He.glo_ok X G (T.fa ?_)
  rcases List.mem_append.mp (mem_of h) with z | z
  · exact List.mem_append_left _ (List.mem_append_left _ (List.mem_append_left _ (List.mem_append_right _ (List.mem_map_of_mem z))))
  · exact List.mem_append_left _ (List.mem_append_left _ (List.mem_append_right _ (List.mem_map_of_mem z)))
theorem Txt.x (T : Txt K mg) (x : Str) (h : plains.contains x = true := by decide +kernel) : PySem.W.excIn K (He.ga K x) He.veBase "ValueError.__new__" = true ∧ PySem.W.keepIn K (.ref (He.ga K x)) = true ∧ PySem.W.subIn K (.ref (He.ga K x)) (.type "BaseException") = some true ∧
    PySem.W.typeIn K (.ref (He.ga K x)) = some (.type "type") := He.exc_ok (T.fa (f := .exc x) (List.mem_append_left _ (List.mem_append_right _ (List.mem_map_of_mem (mem_of h)))))
theorem Txt.m (T : Txt K mg) : PySem.W.exmOne K (.ref (He.ga K "NoNumber")) (.ref (He.ga K "NoNumber")) = some true := He.exm_ok (T.fa (f := .exm "NoNumber" "NoNumber" true) (List.mem_append_right _ (List.mem_singleton.mpr rfl)))
theorem Txt.d (T : Txt K mg) (i : Nat) {d : He.DefD} (h : allD[i]? = some d := by rfl) : ∃ fd, FunD K d.name d.qual d.params d.body d.scope (d.dvs K) (d.kws K) (He.fAd K d.at_) fd := T.c.def_ i h
end
/-! ### the types of the law's things -/
def tys : List String := ["int", "bool", "NoneType", "str", "list", "dict", "tuple"]
def TyV (K : PySem.W.Frag) (H : Hp) (v : V) (t : String) : Prop := TyOf K H v (.type t) ∧ t ∈ tys
theorem kit_in {t u : String} (h : t ∈ tys) (hu : u ∈ ["int", "bool", "str", "tuple"]) : kitB t u = some (decide (t = u) || (decide (t = "bool") && decide (u = "int"))) := by
  have key : (tys.all fun t => (["int", "bool", "str", "tuple"] : List String).all fun u => decide (kitB t u = some (decide (t = u) || (decide (t = "bool") && decide (u = "int"))))) = true := by decide +kernel
  exact of_decide_eq_true (List.all_eq_true.mp (List.all_eq_true.mp key t h) u hu)
/-! ### is_whole -/
def spWhole (K : PySem.W.Frag) : Sp := fun vs H Q _ => ∃ v t, vs = [v] ∧ TyV K H v t ∧ Q (.bl (decide (t = "int"))) H
section
variable {P : Program} {w : World} {K : PySem.W.Frag} {mg : Str → Option Value} {base : Heap}
theorem sc_is_whole : FnScope ["thing"] ["thing"] (defScope (topS 12)) := ⟨rfl, rfl, rfl, by decide +kernel, rfl, by decide +kernel, by decide +kernel⟩
theorem ok_is_whole (T : Txt K mg) : Ok P w K mg base CX0 1 "is_whole" ["thing"] (spWhole K) := by
  obtain ⟨fd, F⟩ := T.d 0
  refine ⟨T.g _, F.kp, fd, ?_, F.bindsN fun _ _ _ _ _ _ us hl => match us, hl with | [_], _ => rfl⟩
  refine F.ok sc_is_whole (fun vs H Q E h => ?_) (fun cdv A outer s H vs Q E hr h => ?_)
  · obtain ⟨v, t, rfl, _⟩ := h
    rfl
  obtain ⟨v, t, rfl, ⟨hv0, ht⟩, q⟩ := h
  have hv := TyX.base hv0
  refine ⟨_, PSs.nox (pss_one (ps_ret (pe_and (pe_callB call_isi (by rfl) (T.b "isinstance") (by decide +kernel) (pa_cons (pv 0) (pa_cons (pe_bltn (v := .ty "int") (u := .type "int") (by rfl) (T.b "int") (by decide +kernel) rfl) pa_nil))) (pe_one (pe_not (pe_callB call_isi (by rfl) (T.b "isinstance") (by decide +kernel) (pa_cons (pv 0) (pa_cons (pe_bltn (v := .ty "bool") (u := .type "bool") (by rfl) (T.b "bool") (by decide +kernel) rfl) pa_nil)))))))), ?_⟩
  refine ⟨v, rfl, v, .ty "int", .type t, .type "int", _, rfl, .ty _, hv, kit_ty (kit_in ht (by decide)), _, rfl, ?_⟩
  by_cases c : t = "int"
  · subst c
    exact iteT ⟨v, rfl, v, .ty "bool", .type "int", .type "bool", _, rfl, .ty _, hv, kit_ty (kit_in ht (by decide)), _, rfl, q⟩
  · rw [decide_eq_false c] at q
    by_cases c2 : t = "bool"
    · subst c2
      exact iteT ⟨v, rfl, v, .ty "bool", .type "bool", .type "bool", _, rfl, .ty _, hv, kit_ty (kit_in ht (by decide)), _, rfl, q⟩
    · rw [decide_eq_false c, decide_eq_false c2]
      exact iteF q
end
end K96
set_option maxRecDepth 100000
set_option maxHeartbeats 4000000
namespace K96
open PySem PySem.Spec PyProof.Rows L2 My NumM
section
variable {P : Program} {w : World} {K : PySem.W.Frag} {mg : Str → Option Value} {base : Heap}
/-! ### divisor -/
def spDiv : Sp := fun vs H Q _ => ∃ a b : Int, vs = [.int a, .int b] ∧ Q (.int (Int.gcd a b : Nat)) H
theorem sc_divisor : FnScope ["one", "other"] ["one", "other"] (defScope (topS 13)) := ⟨rfl, rfl, rfl, by decide +kernel, rfl, by decide +kernel, by decide +kernel⟩
theorem ok_divisor (T : Txt K mg) : Ok P w K mg base CX0 1 "divisor" ["one", "other"] spDiv := by
  obtain ⟨fd, F⟩ := T.d 1
  refine ⟨T.g _, F.kp, fd, ?_, F.bindsN fun _ _ _ _ _ _ us hl => match us, hl with | [_, _], _ => rfl⟩
  refine F.ok sc_divisor (fun vs H Q E h => ?_) (fun cdv A outer s H vs Q E hr h => ?_)
  · obtain ⟨a, b, rfl, _⟩ := h
    rfl
  obtain ⟨a, b, rfl, q⟩ := h
  refine ⟨_, PSs.nox (pss_cons (ps_while PassesOwn.never (pt_cmpR op_ne (pv 1) pe_int (nomark _)) (pss_one (ps_par (i := 0) (j := 1) (by rfl) sc_divisor.nd rfl rfl (by decide) rfl rfl (pa_cons (pv 1) (pa_cons (pe_op op_modN (pv 0) (pv 1)) pa_nil)) (by rfl))))
    (pss_one (ps_ret (pe_callB call_abs (by rfl) (T.b "abs") (by decide +kernel) (pa_cons (pv 0) pa_nil))))), ?_⟩
  refine while_by (fun σ H' => H' = H ∧ ∃ c d : Int, σ = [some (.int c), some (.int d)] ∧ Int.gcd c d = Int.gcd a b)
    (fun σ _ => match σ with | [_, some (.int d)] => d.natAbs | _ => 0) ⟨rfl, a, b, rfl, rfl⟩ ?_ ?_
  · rintro σ H' ⟨rfl, c, d, rfl, e⟩
    refine ⟨_, rfl, rfl, _, rfl, ?_⟩
    by_cases z : d = 0
    · subst z
      rw [decide_eq_true rfl]
      refine iteF ⟨_, rfl, c, rfl, ?_⟩
      rw [← gcd_zero_abs, e]
      exact q
    · rw [decide_eq_false (fun k => z (V.int.inj k))]
      refine iteT ⟨_, rfl, _, rfl, _, rfl, c, d, rfl, rfl, z, _, _, rfl, ⟨rfl, d, c.fmod d, rfl, ?_⟩, fmod_abs c z⟩
      rw [gcd_fmod, e]
  · rintro σ H' R R' k ⟨x, hx, h1, b, hb, h2⟩
    exact ⟨x, hx, h1, b, hb, k _ _ h2⟩
theorem sc__law_divisor : FnScope ["one", "other"] ["one", "other"] (defScope (topS 27)) := ⟨rfl, rfl, rfl, by decide +kernel, rfl, by decide +kernel, by decide +kernel⟩
theorem ok__law_divisor (T : Txt K mg) : Ok P w K mg base CX0 1 "_law_divisor" ["one", "other"] spDiv := by
  obtain ⟨fd, F⟩ := T.d 9
  refine ⟨T.g _, F.kp, fd, ?_, F.bindsN fun _ _ _ _ _ _ us hl => match us, hl with | [_, _], _ => rfl⟩
  refine F.ok sc__law_divisor (fun vs H Q E h => ?_) (fun cdv A outer s H vs Q E hr h => ?_)
  · obtain ⟨a, b, rfl, _⟩ := h
    rfl
  obtain ⟨a, b, rfl, q⟩ := h
  refine ⟨_, PSs.nox (pss_cons (ps_while PassesOwn.never (pt_cmpR op_ne (pv 1) pe_int (nomark _)) (pss_one (ps_par (i := 0) (j := 1) (by rfl) sc__law_divisor.nd rfl rfl (by decide) rfl rfl (pa_cons (pv 1) (pa_cons (pe_op op_modN (pv 0) (pv 1)) pa_nil)) (by rfl))))
    (pss_one (ps_ret (pe_callB call_abs (by rfl) (T.b "abs") (by decide +kernel) (pa_cons (pv 0) pa_nil))))), ?_⟩
  refine while_by (fun σ H' => H' = H ∧ ∃ c d : Int, σ = [some (.int c), some (.int d)] ∧ Int.gcd c d = Int.gcd a b)
    (fun σ _ => match σ with | [_, some (.int d)] => d.natAbs | _ => 0) ⟨rfl, a, b, rfl, rfl⟩ ?_ ?_
  · rintro σ H' ⟨rfl, c, d, rfl, e⟩
    refine ⟨_, rfl, rfl, _, rfl, ?_⟩
    by_cases z : d = 0
    · subst z
      rw [decide_eq_true rfl]
      refine iteF ⟨_, rfl, c, rfl, ?_⟩
      rw [← gcd_zero_abs, e]
      exact q
    · rw [decide_eq_false (fun k => z (V.int.inj k))]
      refine iteT ⟨_, rfl, _, rfl, _, rfl, c, d, rfl, rfl, z, _, _, rfl, ⟨rfl, d, c.fmod d, rfl, ?_⟩, fmod_abs c z⟩
      rw [gcd_fmod, e]
  · rintro σ H' R R' k ⟨x, hx, h1, b, hb, h2⟩
    exact ⟨x, hx, h1, b, hb, k _ _ h2⟩
/-! ### lowest -/
def spLow : Sp := fun vs H Q _ => ∃ a b : Int, vs = [.int a, .int b] ∧ b ≠ 0 ∧ b.natAbs < 2 ^ 8000 ∧ ∀ p, H p = none → Q (.ref p) (upd H p (.tup [.int (lowT a b), .int (lowB a b)]))
theorem by_ok {a b : Int} (hb : b ≠ 0) (h : b.natAbs < 2 ^ 8000) : DivG a (byOf a b) ∧ DivG b (byOf a b) := by
  have h1 : (byOf a b).natAbs < 2 ^ 8000 := by
    rw [byOf_abs]
    exact Nat.lt_of_le_of_lt (gcd_le hb) h
  have h2 : (byOf a b).natAbs.log2 < 9000 := Nat.lt_of_lt_of_le (PySem.Flt.log2_lt_of (by decide) h1) (by decide)
  exact ⟨⟨byOf_ne hb, h2⟩, byOf_ne hb, h2⟩
theorem sc_lowest : FnScope ["top", "bottom", "by"] ["top", "bottom"] (defScope (topS 14)) := ⟨rfl, rfl, rfl, by decide +kernel, rfl, by decide +kernel, by decide +kernel⟩
theorem ok_lowest (T : Txt K mg) : Ok P w K mg base CX0 2 "lowest" ["top", "bottom"] spLow := by
  have O_divisor := ok_divisor (P := P) (w := w) (base := base) T
  obtain ⟨fd, F⟩ := T.d 2
  refine ⟨T.g _, F.kp, fd, ?_, F.bindsN fun _ _ _ _ _ _ us hl => match us, hl with | [_, _], _ => rfl⟩
  refine F.ok sc_lowest (fun vs H Q E h => ?_) (fun cdv A outer s H vs Q E hr h => ?_)
  · obtain ⟨a, b, rfl, _⟩ := h
    rfl
  obtain ⟨a, b, rfl, hb, hz, q⟩ := h
  refine ⟨_, PSs.nox (pss_cons (ps_set (i := 2) sc_lowest.nd rfl (Or.inl rfl) (pe_o O_divisor (hr.mono (by decide)) (pa_cons (pv 0) (pa_cons (pv 1) pa_nil))))
    (pss_cons (ps_if (pt_cmpR op_lt (pv 1) pe_int (nomark _)) (pss_one (ps_set (i := 2) sc_lowest.nd rfl (Or.inl rfl) (pe_op op_sub pe_int (pv 2)))) pss_nil)
    (pss_one (ps_ret (pe_tup (pa_cons (pe_op op_fdivG (pv 0) (pv 2)) (pa_cons (pe_op op_fdivG (pv 1) (pv 2)) pa_nil))))))), ?_⟩
  obtain ⟨d1, d2⟩ := by_ok (a := a) hb hz
  refine ⟨_, rfl, _, rfl, a, b, rfl, ?_⟩
  refine ⟨_, rfl, b, 0, rfl, rfl, _, rfl, ?_⟩
  by_cases c : b < 0
  · have e : byOf a b = 0 - (Int.gcd a b : Nat) := by unfold byOf; rw [if_pos c]
    rw [decide_eq_true c]
    refine iteT ⟨_, rfl, 0, _, rfl, rfl, ?_⟩
    refine ⟨_, rfl, _, rfl, a, _, rfl, rfl, by rw [← e]; exact d1, _, rfl, _, rfl, b, _, rfl, rfl, by rw [← e]; exact d2, (by show 2 ≤ sizeLine; decide), ?_⟩
    rw [← e]
    exact q
  · have e : byOf a b = (Int.gcd a b : Nat) := by unfold byOf; rw [if_neg c]
    rw [decide_eq_false c]
    refine iteF ?_
    refine ⟨_, rfl, _, rfl, a, _, rfl, rfl, by rw [← e]; exact d1, _, rfl, _, rfl, b, _, rfl, rfl, by rw [← e]; exact d2, (by show 2 ≤ sizeLine; decide), ?_⟩
    rw [← e]
    exact q
end
end K96
set_option maxRecDepth 100000
set_option maxHeartbeats 4000000
namespace K96
open PySem PySem.Spec PyProof.Rows L2 My NumM
/-! ### things -/
def pairO : Option HO → Option (Int × Int)
  | some (.tup [.int x, .int y]) => some (x, y)
  | _ => none
def pairV (H : Hp) : V → Option (Int × Int)
  | .ref a => pairO (H a)
  | _ => none
def numP (p : Option (Int × Int)) : Bool := p.any fun q => decide (0 < q.2) && decide (Int.gcd q.1 q.2 = 1)
def numV (H : Hp) (v : V) : Bool := numP (pairV H v)
def toldV (H : Hp) (v : V) : Bool := numV H v && (pairV H v).any fun q => decide (q.1.natAbs < 10 ^ 18) && decide (q.2 < 61)
theorem pairO_is : ∀ {o : Option HO} {q : Int × Int}, pairO o = some q → o = some (.tup [.int q.1, .int q.2]) := by
  intro o q h
  unfold pairO at h
  split at h
  · cases h
    rfl
  · cases h
theorem pairV_is {H : Hp} {v : V} {q : Int × Int} (h : pairV H v = some q) : ∃ a, v = .ref a ∧ H a = some (.tup [.int q.1, .int q.2]) := by
  cases v with
  | ref a => exact ⟨a, rfl, pairO_is h⟩
  | _ => cases h
def ThV (K : PySem.W.Frag) (H : Hp) (v : V) (t : String) : Prop := TyV K H v t ∧ (t = "tuple" → ∃ a xs, v = .ref a ∧ H a = some (.tup xs) ∧ ∀ x ∈ xs, ∃ t', TyV K H x t')
section
variable {K : PySem.W.Frag} {H : Hp} {v : V} {t : String}
theorem int_of (h : TyOf K H v (.type "int")) : ∃ i, v = .int i := by
  generalize hu : Value.type "int" = u at h
  cases h with
  | int i => exact ⟨i, rfl⟩
  | ins => cases hu
  | _ => exact absurd (Value.type.inj hu) (by decide)
theorem bl_of (h : TyOf K H v (.type "bool")) : ∃ b, v = .bl b := by
  generalize hu : Value.type "bool" = u at h
  cases h with
  | bl b => exact ⟨b, rfl⟩
  | ins => cases hu
  | _ => exact absurd (Value.type.inj hu) (by decide)
theorem tup_ty {a : Addr} {xs : List V} (e : H a = some (.tup xs)) (h : TyOf K H (.ref a) (.type t)) : t = "tuple" := by
  generalize hu : Value.type t = u at h
  cases h with
  | lst e2 => rw [e] at e2; cases e2
  | frz e2 => rw [e] at e2; cases e2
  | tup e2 => exact Value.type.inj hu
  | dK e2 => rw [e] at e2; cases e2
  | dT e2 => rw [e] at e2; cases e2
  | ins e2 => rw [e] at e2; cases e2
theorem num_pair {a : Addr} {x y : Int} (e : H a = some (.tup [.int x, .int y])) : numV H (.ref a) = (decide (0 < y) && decide (Int.gcd x y = 1)) := by
  show numP (pairO (H a)) = _
  rw [e]
  rfl
theorem num_is (h : numV H v = true) : ∃ a x y, v = .ref a ∧ H a = some (.tup [.int x, .int y]) ∧ 0 < y ∧ Int.gcd x y = 1 := by
  cases e : pairV H v with
  | none =>
    have h2 : numP (pairV H v) = true := h
    rw [e] at h2
    cases h2
  | some q =>
    obtain ⟨a, rfl, ha⟩ := pairV_is e
    rw [num_pair ha] at h
    obtain ⟨h1, h2⟩ := Bool.and_eq_true_iff.mp h
    exact ⟨a, _, _, rfl, ha, of_decide_eq_true h1, of_decide_eq_true h2⟩
theorem num_tup (h : TyOf K H v (.type t)) (n : numV H v = true) : t = "tuple" := by
  obtain ⟨a, x, y, rfl, e, _⟩ := num_is n
  exact tup_ty e h
theorem num_no (h : TyOf K H v (.type t)) (n : t ≠ "tuple") : numV H v = false := by
  cases e : numV H v with
  | false => rfl
  | true => exact absurd (num_tup h e) n
/-- a tuple that is no pair of ints -/
theorem num_else {a : Addr} {xs : List V} (e : H a = some (.tup xs)) (n : ∀ x y, xs ≠ [.int x, .int y]) : numV H (.ref a) = false := by
  cases q : numV H (.ref a) with
  | false => rfl
  | true =>
    obtain ⟨b, x, y, eb, e2, _⟩ := num_is q
    cases eb
    rw [e] at e2
    cases e2
    exact absurd rfl (n x y)
end
section
variable {P : Program} {w : World} {K : PySem.W.Frag} {mg : Str → Option Value} {base : Heap}
def spNum (K : PySem.W.Frag) : Sp := fun vs H Q _ => ∃ v t, vs = [v] ∧ ThV K H v t ∧ Q (.bl (numV H v)) H
theorem sc_is_number : FnScope ["thing", "top", "bottom"] ["thing"] (defScope (topS 15)) := ⟨rfl, rfl, rfl, by decide +kernel, rfl, by decide +kernel, by decide +kernel⟩
theorem ok_is_number (T : Txt K mg) : Ok P w K mg base CX0 2 "is_number" ["thing"] (spNum K) := by
  have O_divisor := ok_divisor (P := P) (w := w) (base := base) T
  have O_is_whole := ok_is_whole (P := P) (w := w) (base := base) T
  obtain ⟨fd, F⟩ := T.d 3
  refine ⟨T.g _, F.kp, fd, ?_, F.bindsN fun _ _ _ _ _ _ us hl => match us, hl with | [_], _ => rfl⟩
  refine F.ok sc_is_number (fun vs H Q E h => ?_) (fun cdv A outer s H vs Q E hr h => ?_)
  · obtain ⟨v, t, rfl, _⟩ := h
    rfl
  obtain ⟨v, t, rfl, ⟨⟨hv, ht⟩, htup⟩, q⟩ := h
  refine ⟨_, PSs.nox (pss_cons (ps_if (PW.pt (pw_or (pt_not (pt_val (pe_callB call_isi (by rfl) (T.b "isinstance") (by decide +kernel) (pa_cons (pv 0) (pa_cons (pe_bltn (v := .ty "tuple") (u := .type "tuple") (by rfl) (T.b "tuple") (by decide +kernel) rfl) pa_nil))))) (pw_or1 (pt_cmpR op_ne (pe_callB call_len (by rfl) (T.b "len") (by decide +kernel) (pa_cons (pv 0) pa_nil)) pe_int (nomark _))))) (pss_one (ps_ret pe_bl)) pss_nil)
    (pss_cons (ps_asg (pv 0) (pg_tup (by rfl) (pgs_cons (pg_name (i := 1) sc_is_number.nd rfl (Or.inl rfl)) (pgs_cons (pg_name (i := 2) sc_is_number.nd rfl (Or.inl rfl)) pgs_nil))))
    (pss_cons (ps_if (PW.pt (pw_or (pt_not (pt_val (pe_o O_is_whole (hr.mono (by decide)) (pa_cons (pv 1) pa_nil)))) (pw_or1 (pt_not (pt_val (pe_o O_is_whole (hr.mono (by decide)) (pa_cons (pv 2) pa_nil))))))) (pss_one (ps_ret pe_bl)) pss_nil)
    (pss_one (ps_ret (pe_and (pe_cmpR op_gt (pv 2) pe_int (nomark _)) (pe_one (pe_cmpR op_eq (pe_o O_divisor (hr.mono (by decide)) (pa_cons (pv 1) (pa_cons (pv 2) pa_nil))) pe_int (nomark _))))))))), ?_⟩
  refine ⟨v, rfl, v, .ty "tuple", .type t, .type "tuple", _, rfl, .ty _, .base hv, kit_ty (kit_in ht (by decide)), _, rfl, ?_⟩
  by_cases c : t = "tuple"
  · obtain ⟨a, xs, rfl, ha, hel⟩ := htup c
    subst c
    refine iteF ⟨_, rfl, _, xs.length, rfl, .inr ⟨xs, SqT.of ha, rfl⟩, rfl, _, rfl, ?_⟩
    by_cases cl : xs.length = 2
    · match xs, cl, ha, hel with
      | [x, y], _, ha, hel =>
      obtain ⟨t1, h1, i1⟩ := hel x (by simp)
      obtain ⟨t2, h2, i2⟩ := hel y (by simp)
      refine iteF ⟨_, rfl, a, _, rfl, SqT.of ha, rfl, x, _, rfl, y, _, rfl, rfl, ?_⟩
      refine ⟨x, rfl, x, t1, rfl, ⟨h1, i1⟩, _, rfl, ?_⟩
      by_cases c1 : t1 = "int"
      · subst c1
        refine iteF ⟨y, rfl, y, t2, rfl, ⟨h2, i2⟩, _, rfl, ?_⟩
        by_cases c2 : t2 = "int"
        · subst c2
          obtain ⟨i, rfl⟩ := int_of h1
          obtain ⟨j, rfl⟩ := int_of h2
          rw [num_pair ha] at q
          refine iteF ⟨_, rfl, j, 0, rfl, rfl, _, rfl, ?_⟩
          by_cases c3 : 0 < j
          · rw [decide_eq_true c3] at q ⊢
            refine iteT ⟨_, rfl, _, rfl, i, j, rfl, rfl, ?_⟩
            have e : decide (V.int (Int.gcd i j : Nat) = V.int 1) = decide (Int.gcd i j = 1) := by
              rw [Bool.eq_iff_iff]
              simp
              omega
            rw [e]
            exact q
          · rw [decide_eq_false c3] at q ⊢
            exact iteF q
        · rw [decide_eq_false c2]
          refine iteT ?_
          have n : numV H (.ref a) = false := num_else ha fun x' y' z => by
            cases z
            generalize hu : Value.type t2 = u at h2
            cases h2
            exact c2 (Value.type.inj hu)
          rw [n] at q
          exact q
      · rw [decide_eq_false c1]
        refine iteT ?_
        have n : numV H (.ref a) = false := num_else ha fun x' y' z => by
          cases z
          generalize hu : Value.type t1 = u at h1
          cases h1
          exact c1 (Value.type.inj hu)
        rw [n] at q
        exact q
    · have e : decide (V.int (xs.length : Int) = V.int 2) = false := decide_eq_false fun z => cl (by have := V.int.inj z; omega)
      rw [e]
      refine iteT ?_
      have n : numV H (.ref a) = false := num_else ha fun x' y' z => cl (by rw [z]; rfl)
      rw [n] at q
      exact q
  · rw [num_no hv c] at q
    rw [decide_eq_false c, decide_eq_false (show ¬ ("tuple" : String) = "int" by decide), Bool.and_false]
    exact iteT q
end
end K96
set_option maxRecDepth 100000
set_option maxHeartbeats 4000000
namespace K96
open PySem PySem.Spec PyProof.Rows L2 My NumM
section
variable {P : Program} {w : World} {K : PySem.W.Frag} {mg : Str → Option Value} {base : Heap}
theorem sc__law_whole : FnScope ["thing"] ["thing"] (defScope (topS 25)) := ⟨rfl, rfl, rfl, by decide +kernel, rfl, by decide +kernel, by decide +kernel⟩
theorem ok__law_whole (T : Txt K mg) : Ok P w K mg base CX0 1 "_law_whole" ["thing"] (spWhole K) := by
  obtain ⟨fd, F⟩ := T.d 7
  refine ⟨T.g _, F.kp, fd, ?_, F.bindsN fun _ _ _ _ _ _ us hl => match us, hl with | [_], _ => rfl⟩
  refine F.ok sc__law_whole (fun vs H Q E h => ?_) (fun cdv A outer s H vs Q E hr h => ?_)
  · obtain ⟨v, t, rfl, _⟩ := h
    rfl
  obtain ⟨v, t, rfl, ⟨hv0, ht⟩, q⟩ := h
  have hv := TyX.base hv0
  refine ⟨_, PSs.nox (pss_one (ps_ret (pe_and (pe_callB call_isi (by rfl) (T.b "isinstance") (by decide +kernel) (pa_cons (pv 0) (pa_cons (pe_bltn (v := .ty "int") (u := .type "int") (by rfl) (T.b "int") (by decide +kernel) rfl) pa_nil))) (pe_one (pe_not (pe_callB call_isi (by rfl) (T.b "isinstance") (by decide +kernel) (pa_cons (pv 0) (pa_cons (pe_bltn (v := .ty "bool") (u := .type "bool") (by rfl) (T.b "bool") (by decide +kernel) rfl) pa_nil)))))))), ?_⟩
  refine ⟨v, rfl, v, .ty "int", .type t, .type "int", _, rfl, .ty _, hv, kit_ty (kit_in ht (by decide)), _, rfl, ?_⟩
  by_cases c : t = "int"
  · subst c
    exact iteT ⟨v, rfl, v, .ty "bool", .type "int", .type "bool", _, rfl, .ty _, hv, kit_ty (kit_in ht (by decide)), _, rfl, q⟩
  · rw [decide_eq_false c] at q
    by_cases c2 : t = "bool"
    · subst c2
      exact iteT ⟨v, rfl, v, .ty "bool", .type "bool", .type "bool", _, rfl, .ty _, hv, kit_ty (kit_in ht (by decide)), _, rfl, q⟩
    · rw [decide_eq_false c, decide_eq_false c2]
      exact iteF q
theorem sc__law_number : FnScope ["thing"] ["thing"] (defScope (topS 32)) := ⟨rfl, rfl, rfl, by decide +kernel, rfl, by decide +kernel, by decide +kernel⟩
theorem ok__law_number (T : Txt K mg) : Ok P w K mg base CX0 2 "_law_number" ["thing"] (spNum K) := by
  have O__law_divisor := ok__law_divisor (P := P) (w := w) (base := base) T
  have O__law_whole := ok__law_whole (P := P) (w := w) (base := base) T
  obtain ⟨fd, F⟩ := T.d 14
  refine ⟨T.g _, F.kp, fd, ?_, F.bindsN fun _ _ _ _ _ _ us hl => match us, hl with | [_], _ => rfl⟩
  refine F.ok sc__law_number (fun vs H Q E h => ?_) (fun cdv A outer s H vs Q E hr h => ?_)
  · obtain ⟨v, t, rfl, _⟩ := h
    rfl
  obtain ⟨v, t, rfl, ⟨⟨hv, ht⟩, htup⟩, q⟩ := h
  refine ⟨_, PSs.nox (pss_cons (ps_if (PW.pt (pw_or (pt_not (pt_val (pe_callB call_isi (by rfl) (T.b "isinstance") (by decide +kernel) (pa_cons (pv 0) (pa_cons (pe_bltn (v := .ty "tuple") (u := .type "tuple") (by rfl) (T.b "tuple") (by decide +kernel) rfl) pa_nil))))) (pw_or1 (pt_cmpR op_ne (pe_callB call_len (by rfl) (T.b "len") (by decide +kernel) (pa_cons (pv 0) pa_nil)) pe_int (nomark _))))) (pss_one (ps_ret pe_bl)) pss_nil)
    (pss_cons (ps_if (PW.pt (pw_or (pt_not (pt_val (pe_o O__law_whole (hr.mono (by decide)) (pa_cons (pe_ix ix_tup (pv 0) pe_int (fun _ _ => rfl)) pa_nil)))) (pw_or1 (pt_not (pt_val (pe_o O__law_whole (hr.mono (by decide)) (pa_cons (pe_ix ix_tup (pv 0) pe_int (fun _ _ => rfl)) pa_nil))))))) (pss_one (ps_ret pe_bl)) pss_nil)
    (pss_one (ps_ret (pe_and (pe_cmpR op_gt (pe_ix ix_tup (pv 0) pe_int (fun _ _ => rfl)) pe_int (nomark _)) (pe_one (pe_cmpR op_eq (pe_o O__law_divisor (hr.mono (by decide)) (pa_cons (pe_ix ix_tup (pv 0) pe_int (fun _ _ => rfl)) (pa_cons (pe_ix ix_tup (pv 0) pe_int (fun _ _ => rfl)) pa_nil))) pe_int (nomark _)))))))), ?_⟩
  refine ⟨v, rfl, v, .ty "tuple", .type t, .type "tuple", _, rfl, .ty _, .base hv, kit_ty (kit_in ht (by decide)), _, rfl, ?_⟩
  by_cases c : t = "tuple"
  · obtain ⟨a, xs, rfl, ha, hel⟩ := htup c
    subst c
    refine iteF ⟨_, rfl, _, xs.length, rfl, .inr ⟨xs, SqT.of ha, rfl⟩, rfl, _, rfl, ?_⟩
    by_cases cl : xs.length = 2
    · match xs, cl, ha, hel with
      | [x, y], _, ha, hel =>
      obtain ⟨t1, h1, i1⟩ := hel x (by simp)
      obtain ⟨t2, h2, i2⟩ := hel y (by simp)
      refine iteF ⟨_, rfl, a, _, 0, x, rfl, rfl, SqT.of ha, rfl, x, t1, rfl, ⟨h1, i1⟩, _, rfl, ?_⟩
      by_cases c1 : t1 = "int"
      · subst c1
        refine iteF ⟨_, rfl, a, _, 1, y, rfl, rfl, SqT.of ha, rfl, y, t2, rfl, ⟨h2, i2⟩, _, rfl, ?_⟩
        by_cases c2 : t2 = "int"
        · subst c2
          obtain ⟨i, rfl⟩ := int_of h1
          obtain ⟨j, rfl⟩ := int_of h2
          rw [num_pair ha] at q
          refine iteF ⟨_, rfl, a, _, 1, _, rfl, rfl, SqT.of ha, rfl, j, 0, rfl, rfl, _, rfl, ?_⟩
          by_cases c3 : 0 < j
          · rw [decide_eq_true c3] at q ⊢
            refine iteT ⟨_, rfl, a, _, 0, _, rfl, rfl, SqT.of ha, rfl, _, rfl, a, _, 1, _, rfl, rfl, SqT.of ha, rfl, i, j, rfl, rfl, ?_⟩
            have e : decide (V.int (Int.gcd i j : Nat) = V.int 1) = decide (Int.gcd i j = 1) := by
              rw [Bool.eq_iff_iff]
              simp
              omega
            rw [e]
            exact q
          · rw [decide_eq_false c3] at q ⊢
            exact iteF q
        · rw [decide_eq_false c2]
          refine iteT ?_
          have n : numV H (.ref a) = false := num_else ha fun x' y' z => by
            cases z
            generalize hu : Value.type t2 = u at h2
            cases h2
            exact c2 (Value.type.inj hu)
          rw [n] at q
          exact q
      · rw [decide_eq_false c1]
        refine iteT ?_
        have n : numV H (.ref a) = false := num_else ha fun x' y' z => by
          cases z
          generalize hu : Value.type t1 = u at h1
          cases h1
          exact c1 (Value.type.inj hu)
        rw [n] at q
        exact q
    · have e : decide (V.int (xs.length : Int) = V.int 2) = false := decide_eq_false fun z => cl (by have := V.int.inj z; omega)
      rw [e]
      refine iteT ?_
      have n : numV H (.ref a) = false := num_else ha fun x' y' z => cl (by rw [z]; rfl)
      rw [n] at q
      exact q
  · rw [num_no hv c] at q
    rw [decide_eq_false c, decide_eq_false (show ¬ ("tuple" : String) = "int" by decide), Bool.and_false]
    exact iteT q
/-! ### told ones -/
def spTold (K : PySem.W.Frag) : Sp := fun vs H Q _ => ∃ v t, vs = [v] ∧ ThV K H v t ∧ Q (.bl (toldV H v)) H
theorem abs_lt (i : Int) : decide ((if i < 0 then -i else i) < 10 ^ 18) = decide (i.natAbs < 10 ^ 18) := by
  rw [Bool.eq_iff_iff, decide_eq_true_iff, decide_eq_true_iff]
  split <;> omega
theorem told_pair {H : Hp} {a : Addr} {x y : Int} (e : H a = some (.tup [.int x, .int y])) (n : numV H (.ref a) = true) : toldV H (.ref a) = (decide (x.natAbs < 10 ^ 18) && decide (y < 61)) := by
  show (numV H (.ref a) && (pairO (H a)).any fun q => decide (q.1.natAbs < 10 ^ 18) && decide (q.2 < 61)) = _
  rw [n, e]
  rfl
theorem told_no {H : Hp} {v : V} (n : numV H v = false) : toldV H v = false := by
  show (numV H v && _) = false
  rw [n]
  rfl
theorem le60 (y : Int) : decide (y ≤ 60) = decide (y < 61) := by
  rw [Bool.eq_iff_iff, decide_eq_true_iff, decide_eq_true_iff]
  omega
theorem sc_is_told : FnScope ["thing"] ["thing"] (defScope (topS 23)) := ⟨rfl, rfl, rfl, by decide +kernel, rfl, by decide +kernel, by decide +kernel⟩
theorem ok_is_told (T : Txt K mg) : Ok P w K mg base CX0 3 "is_told" ["thing"] (spTold K) := by
  have O_is_number := ok_is_number (P := P) (w := w) (base := base) T
  obtain ⟨fd, F⟩ := T.d 6
  refine ⟨T.g _, F.kp, fd, ?_, F.bindsN fun _ _ _ _ _ _ us hl => match us, hl with | [_], _ => rfl⟩
  refine F.ok sc_is_told (fun vs H Q E h => ?_) (fun cdv A outer s H vs Q E hr h => ?_)
  · obtain ⟨v, t, rfl, _⟩ := h
    rfl
  obtain ⟨v, t, rfl, hth, q⟩ := h
  refine ⟨_, PSs.nox (pss_one (ps_ret (pe_and (pe_o O_is_number (hr.mono (by decide)) (pa_cons (pv 0) pa_nil)) (pe_and (pe_cmpR op_lt (pe_callB call_abs (by rfl) (T.b "abs") (by decide +kernel) (pa_cons (pe_ix ix_tup (pv 0) pe_int (fun _ _ => rfl)) pa_nil)) (pe_op op_pow pe_int pe_int) (nomark _)) (pe_one (pe_cmpR op_le (pe_ix ix_tup (pv 0) pe_int (fun _ _ => rfl)) pe_int (nomark _))))))), ?_⟩
  refine ⟨v, rfl, v, t, rfl, hth, _, rfl, ?_⟩
  cases n : numV H v with
  | false =>
    rw [told_no n] at q
    exact iteF q
  | true =>
    obtain ⟨a, x, y, rfl, ha, hy, hg⟩ := num_is n
    rw [told_pair ha n] at q
    refine iteT ⟨_, rfl, a, _, 0, _, rfl, rfl, SqT.of ha, rfl, x, rfl, 10, 18, rfl, rfl, ⟨by decide, by decide, by decide⟩, _, _, rfl, rfl, _, rfl, ?_⟩
    rw [show (10 : Int) ^ (18 : Int).toNat = 10 ^ 18 from rfl, abs_lt]
    cases c : decide (x.natAbs < 10 ^ 18) with
    | false =>
      rw [c] at q
      exact iteF q
    | true =>
      rw [c] at q
      refine iteT ⟨_, rfl, a, _, 1, _, rfl, rfl, SqT.of ha, rfl, y, 60, rfl, rfl, ?_⟩
      show Q (.bl (decide (y ≤ 60))) H
      rw [le60]
      exact q
theorem sc__law_told : FnScope ["thing"] ["thing"] (defScope (topS 33)) := ⟨rfl, rfl, rfl, by decide +kernel, rfl, by decide +kernel, by decide +kernel⟩
theorem ok__law_told (T : Txt K mg) : Ok P w K mg base CX0 3 "_law_told" ["thing"] (spTold K) := by
  have O__law_number := ok__law_number (P := P) (w := w) (base := base) T
  obtain ⟨fd, F⟩ := T.d 15
  refine ⟨T.g _, F.kp, fd, ?_, F.bindsN fun _ _ _ _ _ _ us hl => match us, hl with | [_], _ => rfl⟩
  refine F.ok sc__law_told (fun vs H Q E h => ?_) (fun cdv A outer s H vs Q E hr h => ?_)
  · obtain ⟨v, t, rfl, _⟩ := h
    rfl
  obtain ⟨v, t, rfl, hth, q⟩ := h
  refine ⟨_, PSs.nox (pss_one (ps_ret (pe_and (pe_o O__law_number (hr.mono (by decide)) (pa_cons (pv 0) pa_nil)) (pe_and (pe_cmpR op_lt (pe_callB call_abs (by rfl) (T.b "abs") (by decide +kernel) (pa_cons (pe_ix ix_tup (pv 0) pe_int (fun _ _ => rfl)) pa_nil)) (pe_op op_pow pe_int pe_int) (nomark _)) (pe_one (pe_cmpR op_lt (pe_ix ix_tup (pv 0) pe_int (fun _ _ => rfl)) pe_int (nomark _))))))), ?_⟩
  refine ⟨v, rfl, v, t, rfl, hth, _, rfl, ?_⟩
  cases n : numV H v with
  | false =>
    rw [told_no n] at q
    exact iteF q
  | true =>
    obtain ⟨a, x, y, rfl, ha, hy, hg⟩ := num_is n
    rw [told_pair ha n] at q
    refine iteT ⟨_, rfl, a, _, 0, _, rfl, rfl, SqT.of ha, rfl, x, rfl, 10, 18, rfl, rfl, ⟨by decide, by decide, by decide⟩, _, _, rfl, rfl, _, rfl, ?_⟩
    rw [show (10 : Int) ^ (18 : Int).toNat = 10 ^ 18 from rfl, abs_lt]
    cases c : decide (x.natAbs < 10 ^ 18) with
    | false =>
      rw [c] at q
      exact iteF q
    | true =>
      rw [c] at q
      exact iteT ⟨_, rfl, a, _, 1, _, rfl, rfl, SqT.of ha, rfl, y, 61, rfl, rfl, q⟩
/-! ### small ones -/
def spTruth : Sp := fun vs H Q _ => ∃ a b : Bool, vs = [.bl a, .bl b] ∧ Q (.bl (decide (a = b))) H
theorem sc__law_truth : FnScope ["found", "due"] ["found", "due"] (defScope (topS 34)) := ⟨rfl, rfl, rfl, by decide +kernel, rfl, by decide +kernel, by decide +kernel⟩
theorem ok__law_truth (T : Txt K mg) : Ok P w K mg base CX0 1 "_law_truth" ["found", "due"] spTruth := by
  obtain ⟨fd, F⟩ := T.d 16
  refine ⟨T.g _, F.kp, fd, ?_, F.bindsN fun _ _ _ _ _ _ us hl => match us, hl with | [_, _], _ => rfl⟩
  refine F.ok sc__law_truth (fun vs H Q E h => ?_) (fun cdv A outer s H vs Q E hr h => ?_)
  · obtain ⟨a, b, rfl, _⟩ := h
    rfl
  obtain ⟨a, b, rfl, q⟩ := h
  refine ⟨_, PSs.nox (pss_one (ps_ret (pe_and (pe_callB call_isi (by rfl) (T.b "isinstance") (by decide +kernel) (pa_cons (pv 0) (pa_cons (pe_bltn (v := .ty "bool") (u := .type "bool") (by rfl) (T.b "bool") (by decide +kernel) rfl) pa_nil))) (pe_one (pe_cmpR op_eq (pv 0) (pv 1) (nomark _)))))), ?_⟩
  refine ⟨_, rfl, .bl a, .ty "bool", .type "bool", .type "bool", true, rfl, .ty _, .base (.bl a), kit_ty (by decide +kernel), _, rfl, iteT ⟨_, rfl, _, rfl, rfl, ?_⟩⟩
  have e : decide (V.bl a = V.bl b) = decide (a = b) := by
    rw [Bool.eq_iff_iff]
    simp
  rw [e]
  exact q
def spMixed : Sp := fun vs H Q _ => ∃ c : Int, vs = [.int c] ∧ ∀ m : Int, 0 ≤ m → Q (.int m) H
theorem sc__law_mixed : FnScope ["cell"] ["cell"] (defScope (topS 28)) := ⟨rfl, rfl, rfl, by decide +kernel, rfl, by decide +kernel, by decide +kernel⟩
theorem ok__law_mixed (T : Txt K mg) : Ok P w K mg base CX0 1 "_law_mixed" ["cell"] spMixed := by
  obtain ⟨fd, F⟩ := T.d 10
  refine ⟨T.g _, F.kp, fd, ?_, F.bindsN fun _ _ _ _ _ _ us hl => match us, hl with | [_], _ => rfl⟩
  refine F.ok sc__law_mixed (fun vs H Q E h => ?_) (fun cdv A outer s H vs Q E hr h => ?_)
  · obtain ⟨c, rfl, _⟩ := h
    rfl
  obtain ⟨c, rfl, q⟩ := h
  refine ⟨_, PSs.nox (pss_cons (ps_if (pt_cmpR op_ge (pv 0) (pe_op op_pow pe_int pe_int) (nomark _)) (pss_one (ps_ret (pv 0))) pss_nil)
    (pss_one (ps_ret (pe_op op_mod (pe_op op_add (pe_op op_mul (pe_op op_mod (pv 0) pe_int) pe_int) pe_int) pe_int)))), ?_⟩
  refine ⟨_, rfl, 10, 18, rfl, rfl, ⟨by decide, by decide, by decide⟩, _, _, rfl, rfl, _, rfl, ?_⟩
  rw [show (10 : Int) ^ (18 : Int).toNat = 1000000000000000000 from rfl]
  refine ite2 (fun h => ?_) (fun h => ?_)
  · exact ⟨_, rfl, q c (by have := of_decide_eq_true h; omega)⟩
  · refine ⟨_, rfl, c, _, rfl, rfl, (by show (0 : Int) < 2147483647; decide), _, _, rfl, rfl, .inr ⟨by decide, by decide⟩, _, _, rfl, rfl, _, _, rfl, rfl, (by show (0 : Int) < 2147483647; decide), q _ ?_⟩
    exact Int.emod_nonneg _ (by decide)
def spCell (K : PySem.W.Frag) : Sp := fun vs H Q _ => ∃ (a : Addr) (ns : List Int), vs = [.ref a, .int 0] ∧ SqL K H a (ns.map V.int) ∧ ∀ i : Int, Q (.int i) H
theorem sc__law_cell_at : FnScope ["script", "k"] ["script", "k"] (defScope (topS 26)) := ⟨rfl, rfl, rfl, by decide +kernel, rfl, by decide +kernel, by decide +kernel⟩
theorem ok__law_cell_at (T : Txt K mg) : Ok P w K mg base CX0 1 "_law_cell_at" ["script", "k"] (spCell K) := by
  obtain ⟨fd, F⟩ := T.d 8
  refine ⟨T.g _, F.kp, fd, ?_, F.bindsN fun _ _ _ _ _ _ us hl => match us, hl with | [_, _], _ => rfl⟩
  refine F.ok sc__law_cell_at (fun vs H Q E h => ?_) (fun cdv A outer s H vs Q E hr h => ?_)
  · obtain ⟨a, ns, rfl, _⟩ := h
    rfl
  obtain ⟨a, ns, rfl, hS, q⟩ := h
  refine ⟨_, PSs.nox (pss_cons (ps_if (pt_cmpR op_lt (pv 1) (pe_callB call_len (by rfl) (T.b "len") (by decide +kernel) (pa_cons (pv 0) pa_nil)) (nomark _)) (pss_one (ps_ret (pe_ix ix_list (pv 0) (pv 1) (fun _ _ => rfl)))) pss_nil)
    (pss_one (ps_ret pe_int))), ?_⟩
  refine ⟨_, rfl, _, rfl, _, _, rfl, .inl ⟨_, hS, rfl⟩, 0, _, rfl, rfl, _, rfl, ?_⟩
  cases ns with
  | nil => exact iteF (q 0)
  | cons n r =>
    rw [decide_eq_true (show (0 : Int) < ((n :: r).map V.int).length by rw [List.length_map, List.length_cons]; omega)]
    exact iteT ⟨_, rfl, _, rfl, a, _, 0, .int n, rfl, rfl, hS, atI_nat (j := 0) rfl, q n⟩
end
end K96
set_option maxRecDepth 100000
set_option maxHeartbeats 4000000
namespace K96
open PySem PySem.Spec PyProof.Rows L2 My NumM
section
variable {K : PySem.W.Frag} {mg : Str → Option Value}
/-! ### what the classes say -/
theorem Txt.f (T : Txt K mg) {f : PySem.W.Frag → Bool} (i : Nat) (h : fxs[i]? = some f := by rfl) : f K = true := List.all_eq_true.mp T.f1 f (List.mem_of_getElem? h)
theorem Txt.n9 (T : Txt K mg) (x : Str) (hx : x ∈ nine) : (excB K x && (isvB K x && (isaB K x "MarkError" true && nine.all fun y => isaB K x y (decide (x = y))))) = true := List.all_eq_true.mp (T.f 0) x hx
theorem Txt.xc (T : Txt K mg) {x : Str} (hx : x ∈ nine) : ExcC K (He.ga K x) := by
  obtain ⟨c, _⟩ := He.ba (T.n9 x hx)
  obtain ⟨c1, c⟩ := He.ba c
  obtain ⟨c2, c⟩ := He.ba c
  obtain ⟨c3, c⟩ := He.ba c
  obtain ⟨c4, c⟩ := He.ba c
  obtain ⟨c5, c⟩ := He.ba c
  obtain ⟨c6, c⟩ := He.ba c
  obtain ⟨c7, c8⟩ := He.ba c
  exact ⟨of_decide_eq_true c1, of_decide_eq_true c2, of_decide_eq_true c3, c4, of_decide_eq_true c5, of_decide_eq_true c6, of_decide_eq_true c7, of_decide_eq_true c8⟩
theorem Txt.kve (T : Txt K mg) {x : Str} (hx : x ∈ nine) : PySem.W.kitOne K (.ref (He.ga K x)) (.type "ValueError") = some true := of_decide_eq_true (He.ba (He.ba (T.n9 x hx)).2).1
theorem Txt.kme (T : Txt K mg) {x : Str} (hx : x ∈ nine) : PySem.W.kitOne K (.ref (He.ga K x)) (.ref (He.ga K "MarkError")) = some true := of_decide_eq_true (He.ba (He.ba (He.ba (T.n9 x hx)).2).2).1
theorem Txt.k9 (T : Txt K mg) {x : Str} (hx : x ∈ nine) (y : Str) (hy : nine.contains y = true := by decide +kernel) : PySem.W.kitOne K (.ref (He.ga K x)) (.ref (He.ga K y)) = some (decide (x = y)) :=
  of_decide_eq_true (List.all_eq_true.mp (He.ba (He.ba (He.ba (T.n9 x hx)).2).2).2 y (mem_of hy))
theorem cls_ok {x : Str} (h : clsB K x = true) : ∃ nm q N bs bm sn sub ab col dd k0 k1 k2 k3 k5, K.lookup (He.ga K x) = some (excClassObj nm q (He.ga K x) N bs bm true sn sub ab col dd k0 k1 k2 k3 k5 "ValueError.__new__") ∧ PySem.HandSPX.refsVE bm = true := by
  unfold clsB at h
  split at h
  · rename_i dd cd sl ho
    split at h
    · rename_i C bm k0 k1 k2 k3 n k5 hm hs
      obtain ⟨h1, h⟩ := He.ba h
      obtain ⟨h2, h⟩ := He.ba h
      obtain ⟨h3, h⟩ := He.ba h
      obtain ⟨h4, h5⟩ := He.ba h
      have e1 := of_decide_eq_true h1
      have e2 := of_decide_eq_true h2
      obtain ⟨nm, bs, mro, ns, qn, hd, sn, sub, ab, col, del⟩ := cd
      dsimp only at hm h3 h4
      obtain ⟨l⟩ := sl
      simp only at hs
      subst hs hm e2
      have e3 : del = false := by
        cases del with
        | false => rfl
        | true => cases h3
      subst e3 h4
      rw [e1] at ho
      exact ⟨nm, qn, ns, bs, bm, sn, sub, ab, col, dd, k0, k1, k2, k3, k5, ho, h5⟩
    · cases h
  · cases h
theorem Txt.own (T : Txt K mg) (i : Nat) {x f : Str} (h : owns[i]? = some (x, f) := by rfl) : OexC K (He.ga K x) ∧ PySem.W.findIn K (.ref (He.ga K x)) "__init__" = some (some (.ref (He.ma K (He.ga K x) "__init__"))) ∧
    PySem.W.typeIn K (.ref (He.ma K (He.ga K x) "__init__")) = some (.type "function") ∧ PySem.W.findIn K (.ref (He.ga K x)) f = some none := by
  have c := List.all_eq_true.mp (T.f 1) (x, f) (List.mem_of_getElem? h)
  obtain ⟨c1, c⟩ := He.ba (show (clsB K x && _) = true from c)
  obtain ⟨c2, c⟩ := He.ba c
  obtain ⟨c3, c⟩ := He.ba c
  obtain ⟨c4, c⟩ := He.ba c
  obtain ⟨c5, c⟩ := He.ba c
  obtain ⟨c6, c⟩ := He.ba c
  obtain ⟨c7, c8⟩ := He.ba c
  exact ⟨⟨cls_ok c1, of_decide_eq_true c2, of_decide_eq_true c3, of_decide_eq_true c4, c5⟩, of_decide_eq_true c6, of_decide_eq_true c7, of_decide_eq_true c8⟩
end
section
variable {P : Program} {w : World} {K : PySem.W.Frag} {mg : Str → Option Value} {base : Heap}
/-! ### the errors' own __init__ -/
theorem sc_iT : FnScope ["self", "row"] ["self", "row"] (defScope (inClass (topS 4) 0)) := ⟨rfl, rfl, rfl, by decide +kernel, rfl, by decide +kernel, by decide +kernel⟩
theorem sc_iP : FnScope ["self", "step"] ["self", "step"] (defScope (inClass (topS 5) 0)) := ⟨rfl, rfl, rfl, by decide +kernel, rfl, by decide +kernel, by decide +kernel⟩
theorem sc_iG : FnScope ["self", "part"] ["self", "part"] (defScope (inClass (topS 7) 0)) := ⟨rfl, rfl, rfl, by decide +kernel, rfl, by decide +kernel, by decide +kernel⟩
def spF (f : Str) : Sp := fun vs H Q _ => ∃ (p C : Addr) (v : V), vs = [.ref p, v] ∧ OexC K C ∧ PySem.W.findIn K (.ref C) f = some none ∧ H p = some (exo p C none) ∧ ∀ d, H d = none → d ≠ p → Q .non (upd (upd H d (exd d [(f, v)])) p (exo p C (some d)))
theorem ok_iT (T : Txt K mg) : ∃ fd, FnOk P w K mg base CX0 1 (He.ma K (He.ga K "NoTable") "__init__") fd ["self", "row"] (spF (K := K) "row") ∧ Binds K fd ["self", "row"] [] := by
  obtain ⟨fd, F⟩ := T.d 20
  refine ⟨fd, ?_, F.bindsN fun _ _ _ _ _ _ us hl => match us, hl with | [_, _], _ => rfl⟩
  refine F.ok sc_iT (fun vs H Q E h => ?_) (fun cdv A outer s H vs Q E hr h => ?_)
  · obtain ⟨p, C, v, rfl, _⟩ := h
    rfl
  obtain ⟨p, C, v, rfl, hC, hf, hp, q⟩ := h
  refine ⟨_, PSs.nox (pss_one (ps_ost (pv 0) (pv 1))), ?_⟩
  exact ⟨v, rfl, _, rfl, p, C, rfl, hC, hf, .inl ⟨hp, q⟩⟩
theorem ok_iP (T : Txt K mg) : ∃ fd, FnOk P w K mg base CX0 1 (He.ma K (He.ga K "NoPlan") "__init__") fd ["self", "step"] (spF (K := K) "step") ∧ Binds K fd ["self", "step"] [] := by
  obtain ⟨fd, F⟩ := T.d 21
  refine ⟨fd, ?_, F.bindsN fun _ _ _ _ _ _ us hl => match us, hl with | [_, _], _ => rfl⟩
  refine F.ok sc_iP (fun vs H Q E h => ?_) (fun cdv A outer s H vs Q E hr h => ?_)
  · obtain ⟨p, C, v, rfl, _⟩ := h
    rfl
  obtain ⟨p, C, v, rfl, hC, hf, hp, q⟩ := h
  refine ⟨_, PSs.nox (pss_one (ps_ost (pv 0) (pv 1))), ?_⟩
  exact ⟨v, rfl, _, rfl, p, C, rfl, hC, hf, .inl ⟨hp, q⟩⟩
theorem ok_iG (T : Txt K mg) : ∃ fd, FnOk P w K mg base CX0 1 (He.ma K (He.ga K "NoTelling") "__init__") fd ["self", "part"] (spF (K := K) "part") ∧ Binds K fd ["self", "part"] [] := by
  obtain ⟨fd, F⟩ := T.d 22
  refine ⟨fd, ?_, F.bindsN fun _ _ _ _ _ _ us hl => match us, hl with | [_, _], _ => rfl⟩
  refine F.ok sc_iG (fun vs H Q E h => ?_) (fun cdv A outer s H vs Q E hr h => ?_)
  · obtain ⟨p, C, v, rfl, _⟩ := h
    rfl
  obtain ⟨p, C, v, rfl, hC, hf, hp, q⟩ := h
  refine ⟨_, PSs.nox (pss_one (ps_ost (pv 0) (pv 1))), ?_⟩
  exact ⟨v, rfl, _, rfl, p, C, rfl, hC, hf, .inl ⟨hp, q⟩⟩
/-! ### number, read_number: they may raise -/
def spNumber (K : PySem.W.Frag) : Sp := fun vs H Q E => ∃ v t u t', vs = [v, u] ∧ TyV K H v t ∧ TyV K H u t' ∧
  (∀ b, u = .int b → b.natAbs < 2 ^ 8000) ∧
  (∀ a b, v = .int a → u = .int b → b ≠ 0 → ∀ p, H p = none → Q (.ref p) (upd H p (.tup [.int (lowT a b), .int (lowB a b)]))) ∧
  ((t ≠ "int" ∨ t' ≠ "int" ∨ u = .int 0) → E (.ref (He.ga K "NoNumber")) none H)
theorem sc_number : FnScope ["top", "bottom"] ["top", "bottom"] (defScope (topS 16)) := ⟨rfl, rfl, rfl, by decide +kernel, rfl, by decide +kernel, by decide +kernel⟩
theorem ok_number (T : Txt K mg) : Ok P w K mg base (L2N.CX P w) 3 "number" ["top", "bottom"] (spNumber K) := by
  have O_is_whole := ok_is_whole (P := P) (w := w) (base := base) T
  have O_lowest := ok_lowest (P := P) (w := w) (base := base) T
  obtain ⟨fd, F⟩ := T.d 4
  obtain ⟨ds, r, b⟩ := FunD.binds1 (ps := ["top", "bottom"]) F 2 1 (List.cons_ne_nil _ _) rfl fun T kV doc pm an cdv ct us its h1 h2 => match us, its, h1, h2 with
    | [_, _], [_], _, _ => ⟨_, rfl, rfl⟩
  have e : ds = [] := by
    have z : Vals [] ds := r
    cases z
    rfl
  subst e
  refine ⟨T.g _, F.kp, fd, ?_, b⟩
  refine F.ok sc_number (fun vs H Q E h => ?_) (fun cdv A outer s H vs Q E hr h => ?_)
  · obtain ⟨v, t, u, t', rfl, _⟩ := h
    rfl
  obtain ⟨v, t, u, t', rfl, hv, hu, hz, q, k⟩ := h
  refine ⟨_, (pss_cons (ps_if (PW.pt (pw_or (pt_not (pt_val (pe_o O_is_whole (hr.mono (by decide)) (pa_cons (pv 0) pa_nil)))) (pw_or (pt_not (pt_val (pe_o O_is_whole (hr.mono (by decide)) (pa_cons (pv 1) pa_nil)))) (pw_or1 (pt_cmpR op_eq (pv 1) pe_int (nomark _)))))) (pss_one (L2N.ps_raise rfl (L2N.takes_of rfl rfl rfl rfl) (L2N.pmk_own PySem.F.excBase_ValueError (T.x "NoNumber").1 (T.g "NoNumber") (T.x "NoNumber").2.1 (raises_own (T.x "NoNumber").2.2.1 (T.x "NoNumber").2.2.2) (by exact rfl)))) pss_nil)
    (pss_one (ps_ret (pe_o O_lowest (hr.mono (by decide)) (pa_cons (pv 0) (pa_cons (pv 1) pa_nil)))))), ?_⟩
  refine ⟨v, rfl, v, t, rfl, hv, _, rfl, ?_⟩
  by_cases c1 : t = "int"
  · rw [decide_eq_true c1]
    refine iteF ⟨u, rfl, u, t', rfl, hu, _, rfl, ?_⟩
    by_cases c2 : t' = "int"
    · rw [decide_eq_true c2]
      subst c1 c2
      obtain ⟨a, rfl⟩ := int_of hv.1
      obtain ⟨b, rfl⟩ := int_of hu.1
      refine iteF ⟨_, rfl, rfl, _, rfl, ?_⟩
      by_cases c3 : b = 0
      · subst c3
        exact iteT (k (.inr (.inr rfl)))
      · rw [decide_eq_false (fun z => c3 (V.int.inj z))]
        exact iteF ⟨_, rfl, _, rfl, a, b, rfl, c3, hz b rfl, q a b rfl rfl c3⟩
    · rw [decide_eq_false c2]
      exact iteT (iteT (k (.inr (.inl c2))))
  · rw [decide_eq_false c1]
    exact iteT (iteT (k (.inl c1)))
def spRead (K : PySem.W.Frag) : Sp := fun vs H _ E => ∃ v t, vs = [v] ∧ TyV K H v t ∧ t ≠ "str" ∧ E (.ref (He.ga K "NoNumber")) none H
theorem sc_read_number : FnScope ["text", "above", "stroke", "below", "top", "bottom"] ["text"] (defScope (topS 22)) := ⟨rfl, rfl, rfl, by decide +kernel, rfl, by decide +kernel, by decide +kernel⟩
theorem ok_read_number (T : Txt K mg) : Ok P w K mg base (L2N.CX P w) 1 "read_number" ["text"] (spRead K) := by
  obtain ⟨fd, F⟩ := T.d 5
  refine ⟨T.g _, F.kp, fd, ?_, F.bindsN fun _ _ _ _ _ _ us hl => match us, hl with | [_], _ => rfl⟩
  refine F.ok sc_read_number (fun vs H Q E h => ?_) (fun cdv A outer s H vs Q E hr h => ?_)
  · obtain ⟨v, t, rfl, _⟩ := h
    rfl
  obtain ⟨v, t, rfl, hv, c, k⟩ := h
  refine ⟨_, (pss_cons (ps_if (pt_not (pt_val (pe_callB call_isi (by rfl) (T.b "isinstance") (by decide +kernel) (pa_cons (pv 0) (pa_cons (pe_bltn (v := .ty "str") (u := .type "str") (by rfl) (T.b "str") (by decide +kernel) rfl) pa_nil))))) (pss_one (L2N.ps_raise rfl (L2N.takes_of rfl rfl rfl rfl) (L2N.pmk_own PySem.F.excBase_ValueError (T.x "NoNumber").1 (T.g "NoNumber") (T.x "NoNumber").2.1 (raises_own (T.x "NoNumber").2.2.1 (T.x "NoNumber").2.2.2) (by exact rfl)))) pss_nil)
    pss_never), ?_⟩
  refine ⟨v, rfl, v, .ty "str", .type t, .type "str", _, rfl, .ty _, .base hv.1, kit_ty (kit_in hv.2 (by decide)), _, rfl, ?_⟩
  rw [decide_eq_false c, decide_eq_false (show ¬ ("str" : String) = "int" by decide), Bool.and_false]
  exact iteT k
/-! ### which refusal it is -/
def bI (b : Bool) : Int := if b then 1 else 0
theorem sum9 : ∀ x ∈ nine, (bI (decide (x = "NoNumber")) + bI (decide (x = "NoDay")) + bI (decide (x = "NoTable"))) + bI (decide (x = "NoPlan")) + bI (decide (x = "NoSpace")) + bI (decide (x = "NoTelling")) + bI (decide (x = "TooMany")) + bI (decide (x = "NoRow")) + bI (decide (x = "NoName")) = 1 := by
  decide +kernel
def spKinds (K : PySem.W.Frag) : Sp := fun vs H Q _ => ∃ a x, vs = [.ref a] ∧ x ∈ nine ∧ ErrAt H a (He.ga K x) ∧ Q (.int 1) H
def spKindsP (K : PySem.W.Frag) (cls : Value) (d : Option Addr) (a : Addr) : Sp := fun vs H Q _ => vs = [.ref a] ∧ cls = .ref (He.ga K "NoNumber") ∧ d = none ∧ Q (.int 1) H
theorem sc__law_kinds : FnScope ["e", "many"] ["e"] (defScope (topS 29)) := ⟨rfl, rfl, rfl, by decide +kernel, rfl, by decide +kernel, by decide +kernel⟩
theorem ok__law_kinds (T : Txt K mg) : Ok P w K mg base CX0 1 "_law_kinds" ["e"] (spKinds K) := by
  obtain ⟨fd, F⟩ := T.d 11
  refine ⟨T.g _, F.kp, fd, ?_, F.bindsN fun _ _ _ _ _ _ us hl => match us, hl with | [_], _ => rfl⟩
  refine F.ok sc__law_kinds (fun vs H Q E h => ?_) (fun cdv A outer s H vs Q E hr h => ?_)
  · obtain ⟨a, x, rfl, _⟩ := h
    rfl
  obtain ⟨a, x, rfl, hx, hE, q⟩ := h
  have X := T.xc hx
  refine ⟨_, PSs.nox (pss_cons (ps_set (i := 1) sc__law_kinds.nd rfl (Or.inl rfl) (pe_op op_add (pe_op op_add (pe_callTy call_int1 (by rfl) (T.b "int") (by decide +kernel) (pa_cons (pe_callB call_isX (by rfl) (T.b "isinstance") (by decide +kernel) (pa_cons (pv 0) (pa_cons (pe_glob (v := .ref (He.ga _ "NoNumber")) (by rfl) (T.g "NoNumber") rfl) pa_nil))) pa_nil)) (pe_callTy call_int1 (by rfl) (T.b "int") (by decide +kernel) (pa_cons (pe_callB call_isX (by rfl) (T.b "isinstance") (by decide +kernel) (pa_cons (pv 0) (pa_cons (pe_glob (v := .ref (He.ga _ "NoDay")) (by rfl) (T.g "NoDay") rfl) pa_nil))) pa_nil))) (pe_callTy call_int1 (by rfl) (T.b "int") (by decide +kernel) (pa_cons (pe_callB call_isX (by rfl) (T.b "isinstance") (by decide +kernel) (pa_cons (pv 0) (pa_cons (pe_glob (v := .ref (He.ga _ "NoTable")) (by rfl) (T.g "NoTable") rfl) pa_nil))) pa_nil))))
    (pss_cons (ps_set (i := 1) sc__law_kinds.nd rfl (Or.inl rfl) (pe_op op_add (pe_op op_add (pe_op op_add (pv 1) (pe_callTy call_int1 (by rfl) (T.b "int") (by decide +kernel) (pa_cons (pe_callB call_isX (by rfl) (T.b "isinstance") (by decide +kernel) (pa_cons (pv 0) (pa_cons (pe_glob (v := .ref (He.ga _ "NoPlan")) (by rfl) (T.g "NoPlan") rfl) pa_nil))) pa_nil))) (pe_callTy call_int1 (by rfl) (T.b "int") (by decide +kernel) (pa_cons (pe_callB call_isX (by rfl) (T.b "isinstance") (by decide +kernel) (pa_cons (pv 0) (pa_cons (pe_glob (v := .ref (He.ga _ "NoSpace")) (by rfl) (T.g "NoSpace") rfl) pa_nil))) pa_nil))) (pe_callTy call_int1 (by rfl) (T.b "int") (by decide +kernel) (pa_cons (pe_callB call_isX (by rfl) (T.b "isinstance") (by decide +kernel) (pa_cons (pv 0) (pa_cons (pe_glob (v := .ref (He.ga _ "NoTelling")) (by rfl) (T.g "NoTelling") rfl) pa_nil))) pa_nil))))
    (pss_cons (ps_set (i := 1) sc__law_kinds.nd rfl (Or.inl rfl) (pe_op op_add (pe_op op_add (pe_op op_add (pv 1) (pe_callTy call_int1 (by rfl) (T.b "int") (by decide +kernel) (pa_cons (pe_callB call_isX (by rfl) (T.b "isinstance") (by decide +kernel) (pa_cons (pv 0) (pa_cons (pe_glob (v := .ref (He.ga _ "TooMany")) (by rfl) (T.g "TooMany") rfl) pa_nil))) pa_nil))) (pe_callTy call_int1 (by rfl) (T.b "int") (by decide +kernel) (pa_cons (pe_callB call_isX (by rfl) (T.b "isinstance") (by decide +kernel) (pa_cons (pv 0) (pa_cons (pe_glob (v := .ref (He.ga _ "NoRow")) (by rfl) (T.g "NoRow") rfl) pa_nil))) pa_nil))) (pe_callTy call_int1 (by rfl) (T.b "int") (by decide +kernel) (pa_cons (pe_callB call_isX (by rfl) (T.b "isinstance") (by decide +kernel) (pa_cons (pv 0) (pa_cons (pe_glob (v := .ref (He.ga _ "NoName")) (by rfl) (T.g "NoName") rfl) pa_nil))) pa_nil))))
    (pss_cons (ps_if (PW.pt (pw_or (pt_not (pt_val (pe_callB call_isX (by rfl) (T.b "isinstance") (by decide +kernel) (pa_cons (pv 0) (pa_cons (pe_glob (v := .ref (He.ga _ "MarkError")) (by rfl) (T.g "MarkError") rfl) pa_nil))))) (pw_or1 (pt_not (pt_val (pe_callB call_isX (by rfl) (T.b "isinstance") (by decide +kernel) (pa_cons (pv 0) (pa_cons (pe_bltn (v := .ty "ValueError") (u := .type "ValueError") (by rfl) (T.b "ValueError") (by decide +kernel) rfl) pa_nil)))))))) (pss_one (ps_ret pe_int)) pss_nil)
    (pss_one (ps_ret (pv 1))))))), ?_⟩
  refine ⟨_, rfl, a, _, _, _, _, rfl, X, hE, .own _, T.k9 hx "NoNumber", .inr ⟨_, rfl, ?_⟩⟩
  refine ⟨_, rfl, a, _, _, _, _, rfl, X, hE, .own _, T.k9 hx "NoDay", .inr ⟨_, rfl, _, _, rfl, rfl, ?_⟩⟩
  refine ⟨_, rfl, a, _, _, _, _, rfl, X, hE, .own _, T.k9 hx "NoTable", .inr ⟨_, rfl, _, _, rfl, rfl, ?_⟩⟩
  refine ⟨_, rfl, ?_⟩
  refine ⟨_, rfl, a, _, _, _, _, rfl, X, hE, .own _, T.k9 hx "NoPlan", .inr ⟨_, rfl, _, _, rfl, rfl, ?_⟩⟩
  refine ⟨_, rfl, a, _, _, _, _, rfl, X, hE, .own _, T.k9 hx "NoSpace", .inr ⟨_, rfl, _, _, rfl, rfl, ?_⟩⟩
  refine ⟨_, rfl, a, _, _, _, _, rfl, X, hE, .own _, T.k9 hx "NoTelling", .inr ⟨_, rfl, _, _, rfl, rfl, ?_⟩⟩
  refine ⟨_, rfl, ?_⟩
  refine ⟨_, rfl, a, _, _, _, _, rfl, X, hE, .own _, T.k9 hx "TooMany", .inr ⟨_, rfl, _, _, rfl, rfl, ?_⟩⟩
  refine ⟨_, rfl, a, _, _, _, _, rfl, X, hE, .own _, T.k9 hx "NoRow", .inr ⟨_, rfl, _, _, rfl, rfl, ?_⟩⟩
  refine ⟨_, rfl, a, _, _, _, _, rfl, X, hE, .own _, T.k9 hx "NoName", .inr ⟨_, rfl, _, _, rfl, rfl, ?_⟩⟩
  refine ⟨_, rfl, a, _, _, _, _, rfl, X, hE, .own _, T.kme hx, _, rfl, ?_⟩
  refine iteF ⟨_, rfl, a, _, _, _, _, rfl, X, hE, .ty _, T.kve hx, _, rfl, iteF ⟨_, rfl, ?_⟩⟩
  have e := sum9 x hx
  unfold bI at e
  show Q (.int _) H
  rw [e]
  exact q
/-- the same, called in an except suite with the error itself -/
theorem hot_kinds (T : Txt K mg) : ∃ fd, PySem.W.keepIn K (.ref (He.ga K "_law_kinds")) = true ∧ Binds K fd ["e"] [] ∧ ∀ (a : Addr) (oe : Obj) (cls : Value) (d : Option Addr), L2N.Zn cls d oe → (∃ vs, oe.data = .fields vs) →
    FnP P w K mg base 1 (He.ga K "_law_kinds") fd ["e"] (spKindsP K cls d a) (a, oe) := by
  obtain ⟨fd, F⟩ := T.d 11
  refine ⟨fd, F.kp, F.bindsN fun _ _ _ _ _ _ us hl => match us, hl with | [_], _ => rfl, fun a oe cls d hz hf => ?_⟩
  refine fnP_of F sc__law_kinds (fun vs H Q E h => ?_) (fun cdv A outer s H vs Q h => ?_)
  · obtain ⟨rfl, _⟩ := h
    rfl
  obtain ⟨rfl, hc, hd, q⟩ := h
  have hx : ("NoNumber" : Str) ∈ nine := by decide +kernel
  have X := T.xc hx
  refine ⟨_, (pss_cons (ps_set (i := 1) sc__law_kinds.nd rfl (Or.inl rfl) (pe_op op_add (pe_op op_add (pe_callTy call_int1 (by rfl) (T.b "int") (by decide +kernel) (pa_cons (pe_callB (call_isP (p := (a, oe)) List.mem_cons_self hz.zc hf) (by rfl) (T.b "isinstance") (by decide +kernel) (pa_cons (pv 0) (pa_cons (pe_glob (v := .ref (He.ga _ "NoNumber")) (by rfl) (T.g "NoNumber") rfl) pa_nil))) pa_nil)) (pe_callTy call_int1 (by rfl) (T.b "int") (by decide +kernel) (pa_cons (pe_callB (call_isP (p := (a, oe)) List.mem_cons_self hz.zc hf) (by rfl) (T.b "isinstance") (by decide +kernel) (pa_cons (pv 0) (pa_cons (pe_glob (v := .ref (He.ga _ "NoDay")) (by rfl) (T.g "NoDay") rfl) pa_nil))) pa_nil))) (pe_callTy call_int1 (by rfl) (T.b "int") (by decide +kernel) (pa_cons (pe_callB (call_isP (p := (a, oe)) List.mem_cons_self hz.zc hf) (by rfl) (T.b "isinstance") (by decide +kernel) (pa_cons (pv 0) (pa_cons (pe_glob (v := .ref (He.ga _ "NoTable")) (by rfl) (T.g "NoTable") rfl) pa_nil))) pa_nil))))
    (pss_cons (ps_set (i := 1) sc__law_kinds.nd rfl (Or.inl rfl) (pe_op op_add (pe_op op_add (pe_op op_add (pv 1) (pe_callTy call_int1 (by rfl) (T.b "int") (by decide +kernel) (pa_cons (pe_callB (call_isP (p := (a, oe)) List.mem_cons_self hz.zc hf) (by rfl) (T.b "isinstance") (by decide +kernel) (pa_cons (pv 0) (pa_cons (pe_glob (v := .ref (He.ga _ "NoPlan")) (by rfl) (T.g "NoPlan") rfl) pa_nil))) pa_nil))) (pe_callTy call_int1 (by rfl) (T.b "int") (by decide +kernel) (pa_cons (pe_callB (call_isP (p := (a, oe)) List.mem_cons_self hz.zc hf) (by rfl) (T.b "isinstance") (by decide +kernel) (pa_cons (pv 0) (pa_cons (pe_glob (v := .ref (He.ga _ "NoSpace")) (by rfl) (T.g "NoSpace") rfl) pa_nil))) pa_nil))) (pe_callTy call_int1 (by rfl) (T.b "int") (by decide +kernel) (pa_cons (pe_callB (call_isP (p := (a, oe)) List.mem_cons_self hz.zc hf) (by rfl) (T.b "isinstance") (by decide +kernel) (pa_cons (pv 0) (pa_cons (pe_glob (v := .ref (He.ga _ "NoTelling")) (by rfl) (T.g "NoTelling") rfl) pa_nil))) pa_nil))))
    (pss_cons (ps_set (i := 1) sc__law_kinds.nd rfl (Or.inl rfl) (pe_op op_add (pe_op op_add (pe_op op_add (pv 1) (pe_callTy call_int1 (by rfl) (T.b "int") (by decide +kernel) (pa_cons (pe_callB (call_isP (p := (a, oe)) List.mem_cons_self hz.zc hf) (by rfl) (T.b "isinstance") (by decide +kernel) (pa_cons (pv 0) (pa_cons (pe_glob (v := .ref (He.ga _ "TooMany")) (by rfl) (T.g "TooMany") rfl) pa_nil))) pa_nil))) (pe_callTy call_int1 (by rfl) (T.b "int") (by decide +kernel) (pa_cons (pe_callB (call_isP (p := (a, oe)) List.mem_cons_self hz.zc hf) (by rfl) (T.b "isinstance") (by decide +kernel) (pa_cons (pv 0) (pa_cons (pe_glob (v := .ref (He.ga _ "NoRow")) (by rfl) (T.g "NoRow") rfl) pa_nil))) pa_nil))) (pe_callTy call_int1 (by rfl) (T.b "int") (by decide +kernel) (pa_cons (pe_callB (call_isP (p := (a, oe)) List.mem_cons_self hz.zc hf) (by rfl) (T.b "isinstance") (by decide +kernel) (pa_cons (pv 0) (pa_cons (pe_glob (v := .ref (He.ga _ "NoName")) (by rfl) (T.g "NoName") rfl) pa_nil))) pa_nil))))
    (pss_cons (ps_if (PW.pt (pw_or (pt_not (pt_val (pe_callB (call_isP (p := (a, oe)) List.mem_cons_self hz.zc hf) (by rfl) (T.b "isinstance") (by decide +kernel) (pa_cons (pv 0) (pa_cons (pe_glob (v := .ref (He.ga _ "MarkError")) (by rfl) (T.g "MarkError") rfl) pa_nil))))) (pw_or1 (pt_not (pt_val (pe_callB (call_isP (p := (a, oe)) List.mem_cons_self hz.zc hf) (by rfl) (T.b "isinstance") (by decide +kernel) (pa_cons (pv 0) (pa_cons (pe_bltn (v := .ty "ValueError") (u := .type "ValueError") (by rfl) (T.b "ValueError") (by decide +kernel) rfl) pa_nil)))))))) (pss_one (ps_ret pe_int)) pss_nil)
    (pss_one (ps_ret (pv 1))))))), ?_⟩
  refine ⟨_, rfl, _, _, _, _, hc, hd, X, rfl, .own _, T.k9 hx "NoNumber", .inr ⟨_, rfl, ?_⟩⟩
  refine ⟨_, rfl, _, _, _, _, hc, hd, X, rfl, .own _, T.k9 hx "NoDay", .inr ⟨_, rfl, _, _, rfl, rfl, ?_⟩⟩
  refine ⟨_, rfl, _, _, _, _, hc, hd, X, rfl, .own _, T.k9 hx "NoTable", .inr ⟨_, rfl, _, _, rfl, rfl, ?_⟩⟩
  refine ⟨_, rfl, ?_⟩
  refine ⟨_, rfl, _, _, _, _, hc, hd, X, rfl, .own _, T.k9 hx "NoPlan", .inr ⟨_, rfl, _, _, rfl, rfl, ?_⟩⟩
  refine ⟨_, rfl, _, _, _, _, hc, hd, X, rfl, .own _, T.k9 hx "NoSpace", .inr ⟨_, rfl, _, _, rfl, rfl, ?_⟩⟩
  refine ⟨_, rfl, _, _, _, _, hc, hd, X, rfl, .own _, T.k9 hx "NoTelling", .inr ⟨_, rfl, _, _, rfl, rfl, ?_⟩⟩
  refine ⟨_, rfl, ?_⟩
  refine ⟨_, rfl, _, _, _, _, hc, hd, X, rfl, .own _, T.k9 hx "TooMany", .inr ⟨_, rfl, _, _, rfl, rfl, ?_⟩⟩
  refine ⟨_, rfl, _, _, _, _, hc, hd, X, rfl, .own _, T.k9 hx "NoRow", .inr ⟨_, rfl, _, _, rfl, rfl, ?_⟩⟩
  refine ⟨_, rfl, _, _, _, _, hc, hd, X, rfl, .own _, T.k9 hx "NoName", .inr ⟨_, rfl, _, _, rfl, rfl, ?_⟩⟩
  refine ⟨_, rfl, _, _, _, _, hc, hd, X, rfl, .own _, T.kme hx, _, rfl, ?_⟩
  refine iteF ⟨_, rfl, _, _, _, _, hc, hd, X, rfl, .ty _, T.kve hx, _, rfl, iteF ⟨_, rfl, ?_⟩⟩
  have e := sum9 _ hx
  unfold bI at e
  show Q (.int _) H
  rw [e]
  exact q
end
end K96
set_option maxRecDepth 100000
set_option maxHeartbeats 4000000
namespace K96
open PySem PySem.Spec PyProof.Rows L2 My NumM
section
variable {P : Program} {w : World} {K : PySem.W.Frag} {mg : Str → Option Value} {base : Heap}
/-! ### number asked for, and looked at -/
def spMade (K : PySem.W.Frag) : Sp := fun vs H Q _ => ∃ v t u t', vs = [v, u] ∧ TyV K H v t ∧ TyV K H u t' ∧ (∀ a, v = .int a → a.natAbs < 2 ^ 8000) ∧ (∀ b, u = .int b → b.natAbs < 2 ^ 8000) ∧ ∀ H', Same H H' → Q (.bl true) H'
theorem made_mul {a b : Int} (ha : a.natAbs < 2 ^ 8000) (hb : b.natAbs < 2 ^ 8000) (h0 : b ≠ 0) : CMulW (lowT a b) b ∧ CMulW a (lowB a b) :=
  ⟨wide_mul (Nat.lt_of_le_of_lt (lowT_le h0) ha) hb (by decide) (by decide) (by decide), wide_mul ha (Nat.lt_of_le_of_lt (lowB_le h0) hb) (by decide) (by decide) (by decide)⟩
theorem sc__law_made : FnScope ["top", "bottom", "found", "refused", "e"] ["top", "bottom"] (defScope (topS 35)) := ⟨rfl, rfl, rfl, by decide +kernel, rfl, by decide +kernel, by decide +kernel⟩
theorem ok__law_made (T : Txt K mg) : Ok P w K mg base CX0 4 "_law_made" ["top", "bottom"] (spMade K) := by
  have O_number := ok_number (P := P) (w := w) (base := base) T
  have O__law_whole := ok__law_whole (P := P) (w := w) (base := base) T
  have O__law_number := ok__law_number (P := P) (w := w) (base := base) T
  obtain ⟨fk, FKk, FKb, FK⟩ := hot_kinds (P := P) (w := w) (base := base) T
  obtain ⟨fd, F⟩ := T.d 17
  refine ⟨T.g _, F.kp, fd, ?_, F.bindsN fun _ _ _ _ _ _ us hl => match us, hl with | [_, _], _ => rfl⟩
  refine F.ok sc__law_made (fun vs H Q E h => ?_) (fun cdv A outer s H vs Q E hr h => ?_)
  · obtain ⟨v, t, u, t', rfl, _⟩ := h
    rfl
  obtain ⟨v, t, u, t', rfl, hv, hu, za, zb, q⟩ := h
  have hrT : Room 3 _ := hr
  refine ⟨_, PSs.nox (pss_cons (ps_set (i := 2) sc__law_made.nd rfl (Or.inl rfl) pe_non)
    (pss_cons (ps_set (i := 3) sc__law_made.nd rfl (Or.inl rfl) pe_int)
    (pss_cons (L2N.ps_try_as (i := 4) (tb := fun W => tAsg (tCallS (spNumber K) (WE W) (tCons (tVar 0) (tCons (tVar 1) tNil))) (gName 2)) (ts := fun a cls d => tAsg (tCall (spKindsP K cls d a) [] E0 (tCons (tVar 4) tNil)) (gName 3)) (Wout := fun _ _ _ _ => False) rfl rfl sc__law_made.nd rfl rfl ⟨rfl, by decide, Or.inl (T.g "NoNumber")⟩ takes0N (fun W pn xe tk _ => (pss_one (ps_set (i := 2) sc__law_made.nd rfl (Or.inl rfl) (pe_oS O_number hrT (fun σ => L2N.passAt tk σ) (pa_cons (pv 0) (pa_cons (pv 1) pa_nil)))))) (fun a oe cls d pn hz hf => (pss_one (ps_set (i := 3) sc__law_made.nd rfl (Or.inl rfl) (pe_hot (FK a oe cls d hz hf) (roomH_suite (hr.mono (by decide))) (hot_suite hz hf) List.mem_cons_self (T.g "_law_kinds") FKk FKb (pa_cons (pv 4) pa_nil))))))
    (pss_cons (ps_if (PW.pt (pw_or (pt_not (pt_val (pe_o O__law_whole (hr.mono (by decide)) (pa_cons (pv 0) pa_nil)))) (pw_or (pt_not (pt_val (pe_o O__law_whole (hr.mono (by decide)) (pa_cons (pv 1) pa_nil)))) (pw_or1 (pt_cmpR op_eq (pv 1) pe_int (nomark _)))))) (pss_one (ps_ret (pe_cmpR op_eq (pv 3) pe_int (nomark _)))) pss_nil)
    (pss_one (ps_ret (pe_and (pe_cmpR op_eq (pv 3) pe_int (nomark _)) (pe_and (pe_o O__law_number (hr.mono (by decide)) (pa_cons (pv 2) pa_nil)) (pe_one (pe_cmpR op_eq (pe_op op_mulW (pe_ix ix_tup (pv 2) pe_int (fun _ _ => rfl)) (pv 1)) (pe_op op_mulW (pv 0) (pe_ix ix_tup (pv 2) pe_int (fun _ _ => rfl))) (nomark _))))))))))), ?_⟩
  refine ⟨v, rfl, u, rfl, v, t, u, t', rfl, hv, hu, zb, fun a b ea eb h0 p np => ?_, fun c => ?_⟩
  · subst ea eb
    have hn := upd_same (H := H) (a := p) (o := .tup [.int (lowT a b), .int (lowB a b)])
    refine ⟨_, rfl, .int a, "int", rfl, ⟨.int a, by decide⟩, _, rfl, ?_⟩
    refine iteF ⟨_, rfl, .int b, "int", rfl, ⟨.int b, by decide⟩, _, rfl, ?_⟩
    refine iteF ⟨_, rfl, rfl, _, rfl, ?_⟩
    rw [decide_eq_false (fun z => h0 (V.int.inj z))]
    refine iteF ⟨_, rfl, rfl, _, rfl, ?_⟩
    refine iteT ⟨_, rfl, .ref p, "tuple", rfl, ⟨⟨.tup hn, by decide⟩, fun _ => ⟨p, _, rfl, hn, ?_⟩⟩, _, rfl, ?_⟩
    · intro x hx
      rcases List.mem_cons.mp hx with rfl | hx
      · exact ⟨"int", .int _, by decide⟩
      · rcases List.mem_singleton.mp hx with rfl
        exact ⟨"int", .int _, by decide⟩
    · rw [num_pair hn, decide_eq_true (lowB_pos h0), decide_eq_true (low_gcd h0)]
      obtain ⟨m1, m2⟩ := made_mul (za a rfl) (zb b rfl) h0
      refine iteT ⟨_, rfl, p, _, 0, _, rfl, rfl, SqT.of hn, rfl, _, rfl, _, b, rfl, rfl, m1, ?_⟩
      refine ⟨_, rfl, _, rfl, p, _, 1, _, rfl, rfl, SqT.of hn, rfl, a, _, rfl, rfl, m2, rfl, ?_⟩
      show Q (.bl (decide (V.int (lowT a b * b) = V.int (a * lowB a b)))) _
      rw [low_cross h0, decide_eq_true rfl]
      exact q _ (new_same np)
  · refine ⟨true, T.m, fun _ a na => ?_, fun z => nomatch z⟩
    refine ⟨_, rfl, rfl, rfl, rfl, ?_⟩
    refine ⟨_, rfl, v, t, rfl, hv, _, rfl, ?_⟩
    by_cases c1 : t = "int"
    · rw [decide_eq_true c1]
      refine iteF ⟨_, rfl, u, t', rfl, hu, _, rfl, ?_⟩
      by_cases c2 : t' = "int"
      · rw [decide_eq_true c2]
        rcases c with c | c | c
        · exact absurd c1 c
        · exact absurd c2 c
        · subst c
          exact iteF ⟨_, rfl, rfl, _, rfl, iteT ⟨_, rfl, rfl, q H (Same.refl H)⟩⟩
      · rw [decide_eq_false c2]
        exact iteT (iteT ⟨_, rfl, rfl, q H (Same.refl H)⟩)
    · rw [decide_eq_false c1]
      exact iteT (iteT ⟨_, rfl, rfl, q H (Same.refl H)⟩)
def spNoText (K : PySem.W.Frag) : Sp := fun vs H Q _ => ∃ v t, vs = [v] ∧ TyV K H v t ∧ t ≠ "str" ∧ Q (.bl true) H
theorem sc__law_no_text : FnScope ["thing", "refused", "e"] ["thing"] (defScope (topS 36)) := ⟨rfl, rfl, rfl, by decide +kernel, rfl, by decide +kernel, by decide +kernel⟩
theorem ok__law_no_text (T : Txt K mg) : Ok P w K mg base CX0 4 "_law_no_text" ["thing"] (spNoText K) := by
  have O_read_number := ok_read_number (P := P) (w := w) (base := base) T
  obtain ⟨fk, FKk, FKb, FK⟩ := hot_kinds (P := P) (w := w) (base := base) T
  obtain ⟨fd, F⟩ := T.d 18
  refine ⟨T.g _, F.kp, fd, ?_, F.bindsN fun _ _ _ _ _ _ us hl => match us, hl with | [_], _ => rfl⟩
  refine F.ok sc__law_no_text (fun vs H Q E h => ?_) (fun cdv A outer s H vs Q E hr h => ?_)
  · obtain ⟨v, t, rfl, _⟩ := h
    rfl
  obtain ⟨v, t, rfl, hv, c, q⟩ := h
  have hrT : Room 1 _ := hr.mono (by decide)
  refine ⟨_, PSs.nox (pss_cons (ps_set (i := 1) sc__law_no_text.nd rfl (Or.inl rfl) pe_int)
    (pss_cons (L2N.ps_try_as (i := 2) (tb := fun W => tDrop (tCallS (spRead K) (WE W) (tCons (tVar 0) tNil))) (ts := fun a cls d => tAsg (tCall (spKindsP K cls d a) [] E0 (tCons (tVar 2) tNil)) (gName 1)) (Wout := fun _ _ _ _ => False) rfl rfl sc__law_no_text.nd rfl rfl ⟨rfl, by decide, Or.inl (T.g "NoNumber")⟩ takes0N (fun W pn xe tk _ => (pss_one (ps_expr (pe_oS O_read_number hrT (fun σ => L2N.passAt tk σ) (pa_cons (pv 0) pa_nil))))) (fun a oe cls d pn hz hf => (pss_one (ps_set (i := 1) sc__law_no_text.nd rfl (Or.inl rfl) (pe_hot (FK a oe cls d hz hf) (roomH_suite (hr.mono (by decide))) (hot_suite hz hf) List.mem_cons_self (T.g "_law_kinds") FKk FKb (pa_cons (pv 2) pa_nil))))))
    (pss_one (ps_ret (pe_cmpR op_eq (pv 1) pe_int (nomark _)))))), ?_⟩
  refine ⟨v, rfl, v, t, rfl, hv, c, true, T.m, fun _ a na => ?_, fun z => nomatch z⟩
  exact ⟨_, rfl, rfl, rfl, rfl, _, rfl, rfl, q⟩
/-! ### the refusals made by themselves -/
def ErrV (H : Hp) (a C : Addr) (f : Str) (v : V) : Prop := ∃ d, H a = some (exo a C (some d)) ∧ H d = some (exd d [(f, v)])
theorem ErrV.at_ {H : Hp} {a C : Addr} {f : Str} {v : V} (h : ErrV H a C f v) : ErrAt H a C := let ⟨d, h1, h2⟩ := h; .inr ⟨d, _, h1, h2⟩
theorem errOn {H H' : Hp} {a C : Addr} (h : ErrAt H a C) (s : Same H H') : ErrAt H' a C := by
  rcases h with h | ⟨d, fs, h1, h2⟩
  · exact .inl (s _ _ h)
  · exact .inr ⟨d, fs, s _ _ h1, s _ _ h2⟩
theorem err_go {C : Addr} {f : Str} {v : V} {R : VK} {H : Hp} (X : OexC K C) (hf : PySem.W.findIn K (.ref C) f = some none) (a : Addr) (na : H a = none) (k : ∀ H', Same H H' → ErrV H' a C f v → R .non H') :
    spF (K := K) f (.ref a :: [v]) (upd H a (exo a C none)) R E0 := by
  refine ⟨a, C, v, rfl, X, hf, upd_same, fun d nd ne => k _ (fun b o e => ?_) ⟨d, upd_same, by rw [upd_ne ne]; exact upd_same⟩⟩
  have h1 : b ≠ a := ne_of_none e na
  have h2 : H d = none := by rw [upd_ne ne] at nd; exact nd
  rw [upd_ne h1, upd_ne (ne_of_none e h2), upd_ne h1]
  exact e
def spRef : Sp := fun vs H Q _ => ∃ i : Int, vs = [.int i] ∧ ∀ H', Same H H' → Q (.bl true) H'
/-- one loop over six errors -/
theorem six {a : Addr} {xs : List V} {D : Ends} {H : Hp} {v0 : V} {u : Option V} {tb : TS} (hl : SqL K H a xs) (hx : ∀ v ∈ xs, ∃ e x, v = .ref e ∧ x ∈ nine ∧ ErrAt H e (He.ga K x))
    (hb : ∀ (e : Addr) (x : Str) (D' : Ends), x ∈ nine → ErrAt H e (He.ga K x) → D'.nx [some v0, some (.ref e)] H → tb D' [some v0, some (.ref e)] H)
    (hd : ∀ u, D.nx [some v0, u] H) :
    ∃ W : Nat → Nat → L2.St → Hp → Prop, (∃ m, W 0 m [some v0, u] H) ∧ ∀ i m σ H, W i m σ H →
      ((Itl K a).stop i H ∧ D.nx σ H) ∨ ((Itl K a).go i H ∧ ∃ N : L2.St → Hp → Prop, (∀ σ' H', N σ' H' → ∃ m', m' < m ∧ W (i + 1) m' σ' H') ∧ ∀ x H', (Itl K a).yld i H x H' → gName 1 x σ H' fun σ2 H2 => tb { D with nx := N, ct := N, bk := D.nx } σ2 H2) := by
  refine for_list (K := K) (a := a) (xs := xs) (fun i σ H' => H' = H ∧ ∃ u, σ = [some v0, u]) ⟨rfl, u, rfl⟩ (fun i σ H' _ h => by rw [h.1]; exact hl) ?_ ?_
  · rintro i y σ H' hi ⟨rfl, u, rfl⟩
    obtain ⟨e, x, rfl, h9, hE⟩ := hx y (List.mem_of_getElem? hi)
    exact hb e x _ h9 hE ⟨rfl, _, rfl⟩
  · rintro σ H' ⟨rfl, u, rfl⟩
    exact hd u
theorem sc__law_refusals : FnScope ["at", "e"] ["at"] (defScope (topS 30)) := ⟨rfl, rfl, rfl, by decide +kernel, rfl, by decide +kernel, by decide +kernel⟩
theorem ok__law_refusals (T : Txt K mg) : Ok P w K mg base CX0 3 "_law_refusals" ["at"] spRef := by
  have O__law_kinds := ok__law_kinds (P := P) (w := w) (base := base) T
  have X0 := T.own 0 (x := "NoTable") (f := "row")
  have X1 := T.own 1 (x := "NoPlan") (f := "step")
  have X2 := T.own 2 (x := "NoTelling") (f := "part")
  obtain ⟨f0, FI0, BI0⟩ := ok_iT (P := P) (w := w) (base := base) T
  obtain ⟨f1, FI1, BI1⟩ := ok_iP (P := P) (w := w) (base := base) T
  obtain ⟨f2, FI2, BI2⟩ := ok_iG (P := P) (w := w) (base := base) T
  obtain ⟨fd, F⟩ := T.d 12
  refine ⟨T.g _, F.kp, fd, ?_, F.bindsN fun _ _ _ _ _ _ us hl => match us, hl with | [_], _ => rfl⟩
  refine F.ok sc__law_refusals (fun vs H Q E h => ?_) (fun cdv A outer s H vs Q E hr h => ?_)
  · obtain ⟨i, rfl, _⟩ := h
    rfl
  obtain ⟨i, rfl, q⟩ := h
  refine ⟨_, PSs.nox (pss_cons (ps_for PassesOwn.never rfl (pi_list (pe_lst (pa_cons (pe_exc1 PySem.F.excBase_ValueError (T.x "NoNumber").1 (T.g "NoNumber") (T.x "NoNumber").2.1 (by rfl) pe_str) (pa_cons (pe_exc1 PySem.F.excBase_ValueError (T.x "NoDay").1 (T.g "NoDay") (T.x "NoDay").2.1 (by rfl) pe_str) (pa_cons (pe_exc1 PySem.F.excBase_ValueError (T.x "NoSpace").1 (T.g "NoSpace") (T.x "NoSpace").2.1 (by rfl) pe_str) (pa_cons (pe_exc1 PySem.F.excBase_ValueError (T.x "TooMany").1 (T.g "TooMany") (T.x "TooMany").2.1 (by rfl) pe_str) (pa_cons (pe_exc1 PySem.F.excBase_ValueError (T.x "NoRow").1 (T.g "NoRow") (T.x "NoRow").2.1 (by rfl) pe_str) (pa_cons (pe_exc1 PySem.F.excBase_ValueError (T.x "NoName").1 (T.g "NoName") (T.x "NoName").2.1 (by rfl) pe_str) pa_nil)))))))) (pg_name (i := 1) sc__law_refusals.nd rfl (Or.inl rfl)) (pss_one (ps_if (pt_cmpR op_ne (pe_o O__law_kinds (hr.mono (by decide)) (pa_cons (pv 1) pa_nil)) pe_int (nomark _)) (pss_one (ps_ret pe_bl)) pss_nil)))
    (pss_cons (ps_for PassesOwn.never rfl (pi_list (pe_lst (pa_cons (pe_err X0.1 X0.2.1 X0.2.2.1 FI0 (hr.mono (by decide)) BI0 (T.g "NoTable") (pa_cons (pv 0) pa_nil)) (pa_cons (pe_err X0.1 X0.2.1 X0.2.2.1 FI0 (hr.mono (by decide)) BI0 (T.g "NoTable") (pa_cons pe_non pa_nil)) (pa_cons (pe_err X1.1 X1.2.1 X1.2.2.1 FI1 (hr.mono (by decide)) BI1 (T.g "NoPlan") (pa_cons (pv 0) pa_nil)) (pa_cons (pe_err X1.1 X1.2.1 X1.2.2.1 FI1 (hr.mono (by decide)) BI1 (T.g "NoPlan") (pa_cons pe_non pa_nil)) (pa_cons (pe_err X2.1 X2.2.1 X2.2.2.1 FI2 (hr.mono (by decide)) BI2 (T.g "NoTelling") (pa_cons pe_str pa_nil)) (pa_cons (pe_err X2.1 X2.2.1 X2.2.2.1 FI2 (hr.mono (by decide)) BI2 (T.g "NoTelling") (pa_cons pe_non pa_nil)) pa_nil)))))))) (pg_name (i := 1) sc__law_refusals.nd rfl (Or.inl rfl)) (pss_one (ps_if (pt_cmpR op_ne (pe_o O__law_kinds (hr.mono (by decide)) (pa_cons (pv 1) pa_nil)) pe_int (nomark _)) (pss_one (ps_ret pe_bl)) pss_nil)))
    (pss_cons (ps_if (PW.pt (pw_or (pt_cmpR op_ne (pe_xf (pe_err X0.1 X0.2.1 X0.2.2.1 FI0 (hr.mono (by decide)) BI0 (T.g "NoTable") (pa_cons (pv 0) pa_nil))) (pv 0) (nomark _)) (pw_or (pt_cmpR op_ne (pe_xf (pe_err X1.1 X1.2.1 X1.2.2.1 FI1 (hr.mono (by decide)) BI1 (T.g "NoPlan") (pa_cons (pv 0) pa_nil))) (pv 0) (nomark _)) (pw_or1 (pt_cmpR op_ne (pe_xf (pe_err X2.1 X2.2.1 X2.2.2.1 FI2 (hr.mono (by decide)) BI2 (T.g "NoTelling") (pa_cons pe_str pa_nil))) pe_str (nomark _)))))) (pss_one (ps_ret pe_bl)) pss_nil)
    (pss_one (ps_ret (pe_and (pe_cmpR op_isN (pe_xf (pe_err X0.1 X0.2.1 X0.2.2.1 FI0 (hr.mono (by decide)) BI0 (T.g "NoTable") (pa_cons pe_non pa_nil))) pe_non (nomark _)) (pe_and (pe_cmpR op_isN (pe_xf (pe_err X1.1 X1.2.1 X1.2.2.1 FI1 (hr.mono (by decide)) BI1 (T.g "NoPlan") (pa_cons pe_non pa_nil))) pe_non (nomark _)) (pe_one (pe_cmpR op_isN (pe_xf (pe_err X2.1 X2.2.1 X2.2.2.1 FI2 (hr.mono (by decide)) BI2 (T.g "NoTelling") (pa_cons pe_non pa_nil))) pe_non (nomark _)))))))))), ?_⟩
  intro e1 n1 e2 n2 e3 n3 e4 n4 e5 n5 e6 n6
  refine ⟨by show 6 ≤ sizeLine; decide, fun l nl => ?_⟩
  refine ⟨l, rfl, ⟨_, SqL.of upd_same⟩, six (SqL.of upd_same) ?_ ?_ ?_⟩
  · intro v hv
    simp only [List.mem_cons, List.not_mem_nil, or_false] at hv
    rcases hv with rfl | rfl | rfl | rfl | rfl | rfl
    · exact ⟨e1, "NoNumber", rfl, by decide +kernel, .inl (new_same nl _ _ (new_same n6 _ _ (new_same n5 _ _ (new_same n4 _ _ (new_same n3 _ _ (new_same n2 _ _ upd_same))))))⟩
    · exact ⟨e2, "NoDay", rfl, by decide +kernel, .inl (new_same nl _ _ (new_same n6 _ _ (new_same n5 _ _ (new_same n4 _ _ (new_same n3 _ _ upd_same)))))⟩
    · exact ⟨e3, "NoSpace", rfl, by decide +kernel, .inl (new_same nl _ _ (new_same n6 _ _ (new_same n5 _ _ (new_same n4 _ _ upd_same))))⟩
    · exact ⟨e4, "TooMany", rfl, by decide +kernel, .inl (new_same nl _ _ (new_same n6 _ _ (new_same n5 _ _ upd_same)))⟩
    · exact ⟨e5, "NoRow", rfl, by decide +kernel, .inl (new_same nl _ _ (new_same n6 _ _ upd_same))⟩
    · exact ⟨e6, "NoName", rfl, by decide +kernel, .inl (new_same nl _ _ upd_same)⟩
  · intro e x D' hx hE hn
    exact ⟨_, rfl, ⟨e, x, rfl, hx, hE, rfl, _, rfl, iteF hn⟩⟩
  intro u
  have sA := (((((new_same n1).trans (new_same n2)).trans (new_same n3)).trans (new_same n4)).trans (new_same n5)).trans (new_same n6) |>.trans (new_same (o := .lst [.ref e1, .ref e2, .ref e3, .ref e4, .ref e5, .ref e6]) nl)
  refine ⟨_, rfl, by show 1 ≤ 1000; decide, fun a1 nn => err_go X0.1 X0.2.2.2 a1 nn fun H1 s1 E1 => ⟨rfl, ?_⟩⟩
  refine ⟨by show 1 ≤ 1000; decide, fun a2 nn => err_go X0.1 X0.2.2.2 a2 nn fun H2 s2 E2 => ⟨rfl, ?_⟩⟩
  refine ⟨_, rfl, by show 1 ≤ 1000; decide, fun a3 nn => err_go X1.1 X1.2.2.2 a3 nn fun H3 s3 E3 => ⟨rfl, ?_⟩⟩
  refine ⟨by show 1 ≤ 1000; decide, fun a4 nn => err_go X1.1 X1.2.2.2 a4 nn fun H4 s4 E4 => ⟨rfl, ?_⟩⟩
  refine ⟨by show 1 ≤ 1000; decide, fun a5 nn => err_go X2.1 X2.2.2.2 a5 nn fun H5 s5 E5 => ⟨rfl, ?_⟩⟩
  refine ⟨by show 1 ≤ 1000; decide, fun a6 nn => err_go X2.1 X2.2.2.2 a6 nn fun H6 s6 E6 => ⟨rfl, ?_⟩⟩
  refine ⟨by show 6 ≤ sizeLine; decide, fun l2 nl2 => ?_⟩
  refine ⟨l2, rfl, ⟨_, SqL.of upd_same⟩, six (SqL.of upd_same) ?_ ?_ ?_⟩
  · intro v hv
    simp only [List.mem_cons, List.not_mem_nil, or_false] at hv
    have z := new_same (o := .lst [.ref a1, .ref a2, .ref a3, .ref a4, .ref a5, .ref a6]) nl2
    rcases hv with rfl | rfl | rfl | rfl | rfl | rfl
    · exact ⟨a1, "NoTable", rfl, by decide +kernel, errOn (ErrV.at_ E1) ((((s2.trans s3).trans s4).trans s5).trans s6 |>.trans z)⟩
    · exact ⟨a2, "NoTable", rfl, by decide +kernel, errOn (ErrV.at_ E2) (((s3.trans s4).trans s5).trans s6 |>.trans z)⟩
    · exact ⟨a3, "NoPlan", rfl, by decide +kernel, errOn (ErrV.at_ E3) ((s4.trans s5).trans s6 |>.trans z)⟩
    · exact ⟨a4, "NoPlan", rfl, by decide +kernel, errOn (ErrV.at_ E4) (s5.trans s6 |>.trans z)⟩
    · exact ⟨a5, "NoTelling", rfl, by decide +kernel, errOn (ErrV.at_ E5) (s6.trans z)⟩
    · exact ⟨a6, "NoTelling", rfl, by decide +kernel, errOn (ErrV.at_ E6) z⟩
  · intro e x D' hx hE hn
    exact ⟨_, rfl, ⟨e, x, rfl, hx, hE, rfl, _, rfl, iteF hn⟩⟩
  intro u2
  have sB := ((((((sA.trans s1).trans s2).trans s3).trans s4).trans s5).trans s6).trans (new_same (o := .lst [.ref a1, .ref a2, .ref a3, .ref a4, .ref a5, .ref a6]) nl2)
  have hx0 : ("NoTable" : Str) ∈ nine := by decide +kernel
  have hx1 : ("NoPlan" : Str) ∈ nine := by decide +kernel
  have hx2 : ("NoTelling" : Str) ∈ nine := by decide +kernel
  refine ⟨_, rfl, by show 1 ≤ 1000; decide, fun b1 nn => err_go X0.1 X0.2.2.2 b1 nn fun I1 t1 F1 => ⟨rfl, ?_⟩⟩
  obtain ⟨d1, g1, k1⟩ := F1
  refine ⟨b1, _, d1, _, _, rfl, T.xc hx0, X0.2.2.2, g1, k1, rfl, _, rfl, rfl, _, rfl, ?_⟩
  rw [decide_eq_true rfl]
  refine iteF ⟨_, rfl, by show 1 ≤ 1000; decide, fun b2 nn => err_go X1.1 X1.2.2.2 b2 nn fun I2 t2 F2 => ⟨rfl, ?_⟩⟩
  obtain ⟨d2, g2, k2⟩ := F2
  refine ⟨b2, _, d2, _, _, rfl, T.xc hx1, X1.2.2.2, g2, k2, rfl, _, rfl, rfl, _, rfl, ?_⟩
  rw [decide_eq_true rfl]
  refine iteF ⟨by show 1 ≤ 1000; decide, fun b3 nn => err_go X2.1 X2.2.2.2 b3 nn fun I3 t3 F3 => ⟨rfl, ?_⟩⟩
  obtain ⟨d3, g3, k3⟩ := F3
  refine ⟨b3, _, d3, _, _, rfl, T.xc hx2, X2.2.2.2, g3, k3, rfl, rfl, _, rfl, ?_⟩
  rw [decide_eq_true rfl]
  refine iteF ⟨by show 1 ≤ 1000; decide, fun c1 nn => err_go X0.1 X0.2.2.2 c1 nn fun J1 r1 G1 => ⟨rfl, ?_⟩⟩
  obtain ⟨d4, g4, k4⟩ := G1
  refine ⟨c1, _, d4, _, _, rfl, T.xc hx0, X0.2.2.2, g4, k4, rfl, rfl, _, rfl, ?_⟩
  refine iteT ⟨by show 1 ≤ 1000; decide, fun c2 nn => err_go X1.1 X1.2.2.2 c2 nn fun J2 r2 G2 => ⟨rfl, ?_⟩⟩
  obtain ⟨d5, g5, k5⟩ := G2
  refine ⟨c2, _, d5, _, _, rfl, T.xc hx1, X1.2.2.2, g5, k5, rfl, rfl, _, rfl, ?_⟩
  refine iteT ⟨by show 1 ≤ 1000; decide, fun c3 nn => err_go X2.1 X2.2.2.2 c3 nn fun J3 r3 G3 => ⟨rfl, ?_⟩⟩
  obtain ⟨d6, g6, k6⟩ := G3
  refine ⟨c3, _, d6, _, _, rfl, T.xc hx2, X2.2.2.2, g6, k6, rfl, rfl, ?_⟩
  exact q _ ((((((sB.trans t1).trans t2).trans t3).trans r1).trans r2).trans r3)
end
end K96
set_option maxRecDepth 100000
set_option maxHeartbeats 4000000
namespace K96
open PySem PySem.Spec PyProof.Rows L2 My NumM
section
variable {P : Program} {w : World} {K : PySem.W.Frag} {mg : Str → Option Value} {base : Heap}
/-! ### the things -/
def spThing (K : PySem.W.Frag) : Sp := fun vs H Q _ => ∃ k a b : Int, vs = [.int k, .int a, .int b] ∧ 0 ≤ k ∧ k < 21 ∧ a.natAbs < 2 ^ 1000 ∧ ∀ H' v t, Same H H' → ThV K H' v t → (∀ i, v = .int i → i = a) → Q v H'
theorem tv_i (H : Hp) (i : Int) : ∃ t, TyV K H (.int i) t := ⟨"int", .int i, by decide⟩
theorem tv_b (H : Hp) (b : Bool) : ∃ t, TyV K H (.bl b) t := ⟨"bool", .bl b, by decide⟩
theorem tv_n (H : Hp) : ∃ t, TyV K H .non t := ⟨"NoneType", .non, by decide⟩
theorem tv_s (H : Hp) (x : Str) : ∃ t, TyV K H (.str x) t := ⟨"str", .str x, by decide⟩
theorem tv_t {H : Hp} {a : Addr} {xs : List V} (h : H a = some (.tup xs)) : ∃ t, TyV K H (.ref a) t := ⟨"tuple", .tup h, by decide⟩
theorem th_tup {H : Hp} {p : Addr} {xs : List V} (h : H p = some (.tup xs)) (hx : ∀ x ∈ xs, ∃ t, TyV K H x t) : ThV K H (.ref p) "tuple" := ⟨⟨.tup h, by decide⟩, fun _ => ⟨p, xs, rfl, h, hx⟩⟩
theorem all0 {p : V → Prop} : ∀ x ∈ ([] : List V), p x := fun x h => nomatch h
theorem all1 {p : V → Prop} {a : V} {l : List V} (h : p a) (r : ∀ x ∈ l, p x) : ∀ x ∈ a :: l, p x := fun x hx => by
  rcases List.mem_cons.mp hx with rfl | hx
  · exact h
  · exact r x hx
theorem no_i {p : Addr} {a : Int} : ∀ i, V.ref p = .int i → i = a := fun i h => nomatch h
theorem log_ok {a : Int} (h : a.natAbs < 2 ^ 1000) : a.natAbs.log2 < 1920 := Nat.lt_of_lt_of_le (PySem.Flt.log2_lt_of (by decide) h) (by decide)
theorem log_ok2 {a : Int} (h : a.natAbs < 2 ^ 1000) : (if a < 0 then -a else a).natAbs.log2 < 1920 := by
  have e : (if a < 0 then -a else a).natAbs = a.natAbs := by split <;> omega
  rw [e]
  exact log_ok h
theorem sc__law_thing : FnScope ["kind", "top", "bottom"] ["kind", "top", "bottom"] (defScope (topS 31)) := ⟨rfl, rfl, rfl, by decide +kernel, rfl, by decide +kernel, by decide +kernel⟩
theorem ok__law_thing (T : Txt K mg) : Ok P w K mg base CX0 1 "_law_thing" ["kind", "top", "bottom"] (spThing K) := by
  obtain ⟨fd, F⟩ := T.d 13
  refine ⟨T.g _, F.kp, fd, ?_, F.bindsN fun _ _ _ _ _ _ us hl => match us, hl with | [_, _, _], _ => rfl⟩
  refine F.ok sc__law_thing (fun vs H Q E h => ?_) (fun cdv A outer s H vs Q E hr h => ?_)
  · obtain ⟨k, a, b, rfl, _⟩ := h
    rfl
  obtain ⟨k, a, b, rfl, k0, k1, ha, q⟩ := h
  refine ⟨_, PSs.nox (pss_cons (ps_if (pt_cmpR op_lt (pv 0) pe_int (nomark _)) (pss_one (ps_ret (pe_ix ix_list (pe_lst (pa_cons (pv 1) (pa_cons (pe_cmpR op_eq (pe_op op_mod (pv 1) pe_int) pe_int (nomark _)) (pa_cons pe_non (pa_cons (pe_callTy call_str_int (by rfl) (T.b "str") (by decide +kernel) (pa_cons (pe_callB call_abs (by rfl) (T.b "abs") (by decide +kernel) (pa_cons (pv 1) pa_nil)) pa_nil)) pa_nil))))) (pv 0) (fun _ _ => rfl)))) pss_nil)
    (pss_cons (ps_if (pt_cmpR op_lt (pv 0) pe_int (nomark _)) (pss_one (ps_ret (pe_ix ix_list (pe_lst (pa_cons (pe_lst (pa_cons (pv 1) (pa_cons pe_int pa_nil))) (pa_cons (pe_lst pa_nil) (pa_cons pe_dnewK (pa_cons (pe_tup pa_nil) pa_nil))))) (pe_op op_sub (pv 0) pe_int) (fun _ _ => rfl)))) pss_nil)
    (pss_cons (ps_if (pt_cmpR op_lt (pv 0) pe_int (nomark _)) (pss_one (ps_ret (pe_ix ix_list (pe_lst (pa_cons (pe_tup (pa_cons (pv 1) pa_nil)) (pa_cons (pe_tup (pa_cons (pv 1) (pa_cons pe_int (pa_cons pe_int pa_nil)))) (pa_cons (pe_tup (pa_cons (pv 1) (pa_cons pe_bl pa_nil))) (pa_cons (pe_tup (pa_cons pe_bl (pa_cons pe_int pa_nil))) (pa_cons (pe_tup (pa_cons (pe_callTy call_str_int (by rfl) (T.b "str") (by decide +kernel) (pa_cons (pv 1) pa_nil)) (pa_cons pe_int pa_nil))) (pa_cons (pe_tup (pa_cons (pe_tup (pa_cons (pv 1) (pa_cons pe_int pa_nil))) (pa_cons pe_int pa_nil))) pa_nil))))))) (pe_op op_sub (pv 0) pe_int) (fun _ _ => rfl)))) pss_nil)
    (pss_cons (ps_if (pt_cmpR op_lt (pv 0) pe_int (nomark _)) (pss_one (ps_ret (pe_ix ix_list (pe_lst (pa_cons (pe_tup (pa_cons pe_non (pa_cons pe_int pa_nil))) (pa_cons (pe_tup (pa_cons (pe_op op_mul pe_int (pv 1)) (pa_cons pe_int pa_nil))) (pa_cons (pe_tup (pa_cons (pv 1) (pa_cons (pv 2) pa_nil))) (pa_cons (pe_tup (pa_cons (pe_op op_add (pe_op op_mul pe_int (pv 1)) pe_int) (pa_cons pe_int pa_nil))) pa_nil))))) (pe_op op_sub (pv 0) pe_int) (fun _ _ => rfl)))) pss_nil)
    (pss_one (ps_ret (pe_ix ix_list (pe_lst (pa_cons (pe_tup (pa_cons (pv 1) (pa_cons pe_non pa_nil))) (pa_cons (pe_tup (pa_cons (pv 1) (pa_cons (pe_callTy call_str_int (by rfl) (T.b "str") (by decide +kernel) (pa_cons (pe_callB call_abs (by rfl) (T.b "abs") (by decide +kernel) (pa_cons (pv 1) pa_nil)) pa_nil)) pa_nil))) (pa_cons (pe_tup (pa_cons (pv 1) (pa_cons (pe_tup (pa_cons pe_int (pa_cons pe_int pa_nil))) pa_nil))) pa_nil)))) (pe_op op_sub (pv 0) pe_int) (fun _ _ => rfl)))))))), ?_⟩
  refine ⟨_, rfl, k, 4, rfl, rfl, _, rfl, ite2 (fun c => ?_) (fun c => ?_)⟩
  · -- a number, a truth, None, a text
    have c := of_decide_eq_true c
    refine ⟨_, rfl, _, rfl, a, 2, rfl, rfl, (by show (0 : Int) < 2; decide), rfl, ?_⟩
    refine ⟨_, rfl, a, rfl, _, rfl, log_ok2 ha, (by show 4 ≤ sizeLine; decide), fun l nl => ?_⟩
    have s := new_same (o := .lst [V.int a, .bl (decide (V.int (a % 2) = V.int 0)), .non, .str (toString (if a < 0 then -a else a))]) nl
    rcases (show k = 0 ∨ k = 1 ∨ k = 2 ∨ k = 3 by omega) with rfl | rfl | rfl | rfl
    · exact ⟨_, rfl, l, _, 0, _, rfl, rfl, SqL.of upd_same, rfl, q _ _ "int" s ⟨⟨.int a, by decide⟩, fun z => nomatch (show ("int" : String) ≠ "tuple" by decide) z⟩ fun i h => (V.int.inj h).symm⟩
    · exact ⟨_, rfl, l, _, 1, _, rfl, rfl, SqL.of upd_same, rfl, q _ _ "bool" s ⟨⟨.bl _, by decide⟩, fun z => nomatch (show ("bool" : String) ≠ "tuple" by decide) z⟩ fun i h => nomatch h⟩
    · exact ⟨_, rfl, l, _, 2, _, rfl, rfl, SqL.of upd_same, rfl, q _ _ "NoneType" s ⟨⟨.non, by decide⟩, fun z => nomatch (show ("NoneType" : String) ≠ "tuple" by decide) z⟩ fun i h => nomatch h⟩
    · exact ⟨_, rfl, l, _, 3, _, rfl, rfl, SqL.of upd_same, rfl, q _ _ "str" s ⟨⟨.str _, by decide⟩, fun z => nomatch (show ("str" : String) ≠ "tuple" by decide) z⟩ fun i h => nomatch h⟩
  have c := of_decide_eq_false (Bool.eq_false_iff.mpr c)
  refine ⟨_, rfl, k, 8, rfl, rfl, _, rfl, ite2 (fun c2 => ?_) (fun c2 => ?_)⟩
  · -- lists, a dict, an empty tuple
    have c2 := of_decide_eq_true c2
    refine ⟨_, rfl, (by show 2 ≤ sizeLine; decide), fun p1 n1 => ⟨(by show 0 ≤ sizeLine; decide), fun p2 n2 p3 n3 => ⟨(by show 0 ≤ sizeLine; decide), fun p4 n4 => ⟨(by show 4 ≤ sizeLine; decide), fun l nl => ?_⟩⟩⟩⟩
    have s := ((((new_same n1).trans (new_same n2)).trans (new_same n3)).trans (new_same n4)).trans (new_same (o := .lst [V.ref p1, .ref p2, .ref p3, .ref p4]) nl)
    rcases (show k = 4 ∨ k = 5 ∨ k = 6 ∨ k = 7 by omega) with rfl | rfl | rfl | rfl
    · exact ⟨_, rfl, _, _, rfl, rfl, l, _, _, _, rfl, rfl, SqL.of upd_same, rfl, q _ _ "list" s ⟨⟨.lst (new_same nl _ _ (new_same n4 _ _ (new_same n3 _ _ (new_same n2 _ _ upd_same)))), by decide⟩, fun z => nomatch (show ("list" : String) ≠ "tuple" by decide) z⟩ no_i⟩
    · exact ⟨_, rfl, _, _, rfl, rfl, l, _, _, _, rfl, rfl, SqL.of upd_same, rfl, q _ _ "list" s ⟨⟨.lst (new_same nl _ _ (new_same n4 _ _ (new_same n3 _ _ upd_same))), by decide⟩, fun z => nomatch (show ("list" : String) ≠ "tuple" by decide) z⟩ no_i⟩
    · exact ⟨_, rfl, _, _, rfl, rfl, l, _, _, _, rfl, rfl, SqL.of upd_same, rfl, q _ _ "dict" s ⟨⟨.dK (new_same nl _ _ (new_same n4 _ _ upd_same)), by decide⟩, fun z => nomatch (show ("dict" : String) ≠ "tuple" by decide) z⟩ no_i⟩
    · exact ⟨_, rfl, _, _, rfl, rfl, l, _, _, _, rfl, rfl, SqL.of upd_same, rfl, q _ _ "tuple" s (th_tup (new_same nl _ _ upd_same) all0) no_i⟩
  have c2 := of_decide_eq_false (Bool.eq_false_iff.mpr c2)
  refine ⟨_, rfl, k, 14, rfl, rfl, _, rfl, ite2 (fun c3 => ?_) (fun c3 => ?_)⟩
  · -- tuples that are no numbers
    have c3 := of_decide_eq_true c3
    refine ⟨_, rfl, (by show 1 ≤ sizeLine; decide), fun p1 n1 => ⟨_, rfl, (by show 3 ≤ sizeLine; decide), fun p2 n2 => ⟨_, rfl, (by show 2 ≤ sizeLine; decide), fun p3 n3 => ⟨(by show 2 ≤ sizeLine; decide), fun p4 n4 => ?_⟩⟩⟩⟩
    refine ⟨_, rfl, a, rfl, log_ok ha, (by show 2 ≤ sizeLine; decide), fun p5 n5 => ⟨_, rfl, (by show 2 ≤ sizeLine; decide), fun p6 n6 => ⟨(by show 2 ≤ sizeLine; decide), fun p7 n7 => ⟨(by show 6 ≤ sizeLine; decide), fun l nl => ?_⟩⟩⟩⟩
    have s := (((((((new_same n1).trans (new_same n2)).trans (new_same n3)).trans (new_same n4)).trans (new_same n5)).trans (new_same n6)).trans (new_same n7)).trans (new_same (o := .lst [V.ref p1, .ref p2, .ref p3, .ref p4, .ref p5, .ref p7]) nl)
    rcases (show k = 8 ∨ k = 9 ∨ k = 10 ∨ k = 11 ∨ k = 12 ∨ k = 13 by omega) with rfl | rfl | rfl | rfl | rfl | rfl
    · exact ⟨_, rfl, _, _, rfl, rfl, l, _, _, _, rfl, rfl, SqL.of upd_same, rfl, q _ _ "tuple" s (th_tup (new_same nl _ _ (new_same n7 _ _ (new_same n6 _ _ (new_same n5 _ _ (new_same n4 _ _ (new_same n3 _ _ (new_same n2 _ _ upd_same)))))))
        (all1 (tv_i _ _) all0)) no_i⟩
    · exact ⟨_, rfl, _, _, rfl, rfl, l, _, _, _, rfl, rfl, SqL.of upd_same, rfl, q _ _ "tuple" s (th_tup (new_same nl _ _ (new_same n7 _ _ (new_same n6 _ _ (new_same n5 _ _ (new_same n4 _ _ (new_same n3 _ _ upd_same))))))
        (all1 (tv_i _ _) (all1 (tv_i _ _) (all1 (tv_i _ _) all0)))) no_i⟩
    · exact ⟨_, rfl, _, _, rfl, rfl, l, _, _, _, rfl, rfl, SqL.of upd_same, rfl, q _ _ "tuple" s (th_tup (new_same nl _ _ (new_same n7 _ _ (new_same n6 _ _ (new_same n5 _ _ (new_same n4 _ _ upd_same)))))
        (all1 (tv_i _ _) (all1 (tv_b _ _) all0))) no_i⟩
    · exact ⟨_, rfl, _, _, rfl, rfl, l, _, _, _, rfl, rfl, SqL.of upd_same, rfl, q _ _ "tuple" s (th_tup (new_same nl _ _ (new_same n7 _ _ (new_same n6 _ _ (new_same n5 _ _ upd_same))))
        (all1 (tv_b _ _) (all1 (tv_i _ _) all0))) no_i⟩
    · exact ⟨_, rfl, _, _, rfl, rfl, l, _, _, _, rfl, rfl, SqL.of upd_same, rfl, q _ _ "tuple" s (th_tup (new_same nl _ _ (new_same n7 _ _ (new_same n6 _ _ upd_same)))
        (all1 (tv_s _ _) (all1 (tv_i _ _) all0))) no_i⟩
    · exact ⟨_, rfl, _, _, rfl, rfl, l, _, _, _, rfl, rfl, SqL.of upd_same, rfl, q _ _ "tuple" s (th_tup (new_same nl _ _ upd_same)
        (all1 (tv_t (new_same nl _ _ (new_same n7 _ _ upd_same))) (all1 (tv_i _ _) all0))) no_i⟩
  have c3 := of_decide_eq_false (Bool.eq_false_iff.mpr c3)
  refine ⟨_, rfl, k, 18, rfl, rfl, _, rfl, ite2 (fun c4 => ?_) (fun c4 => ?_)⟩
  · have c4 := of_decide_eq_true c4
    refine ⟨(by show 2 ≤ sizeLine; decide), fun p1 n1 => ⟨_, rfl, 2, a, rfl, rfl, .inl ⟨by decide, by decide⟩, (by show 2 ≤ sizeLine; decide), fun p2 n2 => ⟨_, rfl, _, rfl, (by show 2 ≤ sizeLine; decide), fun p3 n3 => ?_⟩⟩⟩
    refine ⟨_, rfl, 3, a, rfl, rfl, .inl ⟨by decide, by decide⟩, _, _, rfl, rfl, (by show 2 ≤ sizeLine; decide), fun p4 n4 => ⟨(by show 4 ≤ sizeLine; decide), fun l nl => ?_⟩⟩
    have s := ((((new_same n1).trans (new_same n2)).trans (new_same n3)).trans (new_same n4)).trans (new_same (o := .lst [V.ref p1, .ref p2, .ref p3, .ref p4]) nl)
    rcases (show k = 14 ∨ k = 15 ∨ k = 16 ∨ k = 17 by omega) with rfl | rfl | rfl | rfl
    · exact ⟨_, rfl, _, _, rfl, rfl, l, _, _, _, rfl, rfl, SqL.of upd_same, rfl, q _ _ "tuple" s (th_tup (new_same nl _ _ (new_same n4 _ _ (new_same n3 _ _ (new_same n2 _ _ upd_same)))) (all1 (tv_n _) (all1 (tv_i _ _) all0))) no_i⟩
    · exact ⟨_, rfl, _, _, rfl, rfl, l, _, _, _, rfl, rfl, SqL.of upd_same, rfl, q _ _ "tuple" s (th_tup (new_same nl _ _ (new_same n4 _ _ (new_same n3 _ _ upd_same))) (all1 (tv_i _ _) (all1 (tv_i _ _) all0))) no_i⟩
    · exact ⟨_, rfl, _, _, rfl, rfl, l, _, _, _, rfl, rfl, SqL.of upd_same, rfl, q _ _ "tuple" s (th_tup (new_same nl _ _ (new_same n4 _ _ upd_same)) (all1 (tv_i _ _) (all1 (tv_i _ _) all0))) no_i⟩
    · exact ⟨_, rfl, _, _, rfl, rfl, l, _, _, _, rfl, rfl, SqL.of upd_same, rfl, q _ _ "tuple" s (th_tup (new_same nl _ _ upd_same) (all1 (tv_i _ _) (all1 (tv_i _ _) all0))) no_i⟩
  · have c4 := of_decide_eq_false (Bool.eq_false_iff.mpr c4)
    refine ⟨_, rfl, (by show 2 ≤ sizeLine; decide), fun p1 n1 => ⟨_, rfl, _, rfl, a, rfl, _, rfl, log_ok2 ha, (by show 2 ≤ sizeLine; decide), fun p2 n2 => ⟨_, rfl, (by show 2 ≤ sizeLine; decide), fun p3 n3 => ⟨(by show 2 ≤ sizeLine; decide), fun p4 n4 => ⟨(by show 3 ≤ sizeLine; decide), fun l nl => ?_⟩⟩⟩⟩⟩
    have s := ((((new_same n1).trans (new_same n2)).trans (new_same n3)).trans (new_same n4)).trans (new_same (o := .lst [V.ref p1, .ref p2, .ref p4]) nl)
    rcases (show k = 18 ∨ k = 19 ∨ k = 20 by omega) with rfl | rfl | rfl
    · exact ⟨_, rfl, _, _, rfl, rfl, l, _, _, _, rfl, rfl, SqL.of upd_same, rfl, q _ _ "tuple" s (th_tup (new_same nl _ _ (new_same n4 _ _ (new_same n3 _ _ (new_same n2 _ _ upd_same)))) (all1 (tv_i _ _) (all1 (tv_n _) all0))) no_i⟩
    · exact ⟨_, rfl, _, _, rfl, rfl, l, _, _, _, rfl, rfl, SqL.of upd_same, rfl, q _ _ "tuple" s (th_tup (new_same nl _ _ (new_same n4 _ _ (new_same n3 _ _ upd_same))) (all1 (tv_i _ _) (all1 (tv_s _ _) all0))) no_i⟩
    · exact ⟨_, rfl, _, _, rfl, rfl, l, _, _, _, rfl, rfl, SqL.of upd_same, rfl, q _ _ "tuple" s (th_tup (new_same nl _ _ upd_same) (all1 (tv_i _ _) (all1 (tv_t (new_same nl _ _ (new_same n4 _ _ upd_same))) all0))) no_i⟩
end
end K96
set_option maxRecDepth 100000
set_option maxHeartbeats 4000000
namespace K96
open PySem PySem.Spec PyProof.Rows L2 My NumM
section
variable {P : Program} {w : World} {K : PySem.W.Frag} {mg : Str → Option Value} {base : Heap}
theorem ty_on {H H' : Hp} {v : V} {t : Value} (h : TyOf K H v t) (s : Same H H') : TyOf K H' v t := by
  cases h with
  | non => exact .non
  | bl b => exact .bl b
  | int i => exact .int i
  | str x => exact .str x
  | flt x => exact .flt x
  | lst e => exact .lst (s _ _ e)
  | frz e => exact .frz (s _ _ e)
  | tup e => exact .tup (s _ _ e)
  | dK e => exact .dK (s _ _ e)
  | dT e => exact .dT (s _ _ e)
  | ins e cl ha hn htk hm => exact .ins (s _ _ e) cl ha hn htk hm
theorem tv_on {H H' : Hp} {v : V} {t : String} (h : TyV K H v t) (s : Same H H') : TyV K H' v t := ⟨ty_on h.1 s, h.2⟩
theorem pow_1000 {z : Int} {b : Nat} (h : z.natAbs ≤ b) (hb : b < 2 ^ 1000) : z.natAbs < 2 ^ 1000 := Nat.lt_of_le_of_lt h hb
theorem top_ok (m : Int) : ((m / 21) % ((10 : Int) ^ (60 : Int).toNat / 3 - 1)).natAbs < 2 ^ 1000 := by
  have e : (10 : Int) ^ (60 : Int).toNat / 3 - 1 = 333333333333333333333333333333333333333333333333333333333332 := by decide +kernel
  rw [e]
  refine pow_1000 (b := 333333333333333333333333333333333333333333333333333333333332) ?_ (by decide +kernel)
  have h1 := Int.emod_nonneg (m / 21) (show (333333333333333333333333333333333333333333333333333333333332 : Int) ≠ 0 by decide)
  have h2 := Int.emod_lt_of_pos (m / 21) (show (0 : Int) < 333333333333333333333333333333333333333333333333333333333332 by decide)
  omega
theorem top_ok2 (m : Int) : ((10 : Int) ^ (18 : Int).toNat - 2 + m / 84 % 5).natAbs < 2 ^ 1000 := by
  have e : (10 : Int) ^ (18 : Int).toNat = 1000000000000000000 := by decide +kernel
  rw [e]
  refine pow_1000 (b := 2000000000000000000) ?_ (by decide +kernel)
  have h1 := Int.emod_nonneg (m / 84) (show (5 : Int) ≠ 0 by decide)
  have h2 := Int.emod_lt_of_pos (m / 84) (show (0 : Int) < 5 by decide)
  omega
theorem big_8000 {z : Int} (h : z.natAbs < 2 ^ 1000) : z.natAbs < 2 ^ 8000 := Nat.lt_of_lt_of_le h (by decide +kernel)
def spLaw (K : PySem.W.Frag) : Sp := fun vs H Q _ => ∃ (a : Addr) (ns : List Int), vs = [.ref a] ∧ ns.length ≤ 63 ∧ SqL K H a (ns.map V.int) ∧ ∀ H', Q (.bl true) H'
theorem cut_ints {ns : List Int} {lo hi : Option Int} {x : V} (h : x ∈ [V.int 0] ++ cutV (ns.map V.int) lo hi) : ∃ i, x = .int i := by
  rcases List.mem_append.mp h with h | h
  · exact ⟨0, List.mem_singleton.mp h⟩
  · unfold cutV at h
    have h2 := List.mem_of_mem_drop (List.mem_of_mem_take h)
    obtain ⟨i, _, rfl⟩ := List.mem_map.mp h2
    exact ⟨i, rfl⟩
theorem sc_law : FnScope ["script", "seed", "cell", "top", "bottom", "thing"] ["script"] (defScope (topS 37)) := ⟨rfl, rfl, rfl, by decide +kernel, rfl, by decide +kernel, by decide +kernel⟩
theorem fn_law (T : Txt K mg) {fd : FuncData} (F : FunD K (dd "law" 37 []).name (dd "law" 37 []).qual (dd "law" 37 []).params (dd "law" 37 []).body (dd "law" 37 []).scope (He.DefD.dvs K (dd "law" 37 [])) (He.DefD.kws K (dd "law" 37 [])) (He.fAd K (dd "law" 37 []).at_) fd) :
    FnOk P w K mg base CX0 6 (He.ga K "law") fd ["script"] (spLaw K) := by
  have O__law_mixed := ok__law_mixed (P := P) (w := w) (base := base) T
  have O__law_thing := ok__law_thing (P := P) (w := w) (base := base) T
  have O__law_truth := ok__law_truth (P := P) (w := w) (base := base) T
  have O_is_whole := ok_is_whole (P := P) (w := w) (base := base) T
  have O__law_whole := ok__law_whole (P := P) (w := w) (base := base) T
  have O_is_number := ok_is_number (P := P) (w := w) (base := base) T
  have O__law_number := ok__law_number (P := P) (w := w) (base := base) T
  have O_is_told := ok_is_told (P := P) (w := w) (base := base) T
  have O__law_told := ok__law_told (P := P) (w := w) (base := base) T
  have O__law_made := ok__law_made (P := P) (w := w) (base := base) T
  have O__law_no_text := ok__law_no_text (P := P) (w := w) (base := base) T
  have O__law_refusals := ok__law_refusals (P := P) (w := w) (base := base) T
  have O__law_cell_at := ok__law_cell_at (P := P) (w := w) (base := base) T
  refine F.ok sc_law (fun vs H Q E h => ?_) (fun cdv A outer s H vs Q E hr h => ?_)
  · obtain ⟨a, ns, rfl, _⟩ := h
    rfl
  obtain ⟨a, ns, rfl, hlen, hS, q⟩ := h
  refine ⟨_, PSs.nox (pss_cons (ps_for PassesOwn.never rfl (pi_list (pe_op op_cat (pe_lst (pa_cons pe_int pa_nil)) (pe_slice sl_list (pv 0) po_none (po_some pe_int)))) (pg_name (i := 1) sc_law.nd rfl (Or.inl rfl)) (pss_cons (ps_set (i := 2) sc_law.nd rfl (Or.inl rfl) (pe_o O__law_mixed (hr.mono (by decide)) (pa_cons (pv 1) pa_nil)))
      (pss_cons (ps_set (i := 3) sc_law.nd rfl (Or.inl rfl) (pe_op op_mod (pe_op op_fdiv (pv 2) pe_int) (pe_op op_sub (pe_op op_fdiv (pe_op op_pow pe_int pe_int) pe_int) pe_int)))
      (C8.pss_cut (ps_if (pt_cmpR op_eq (pe_op op_mod (pe_op op_fdiv (pv 2) pe_int) pe_int) pe_int (nomark _)) (pss_one (ps_set (i := 3) sc_law.nd rfl (Or.inl rfl) (pe_op op_add (pe_op op_sub (pe_op op_pow pe_int pe_int) pe_int) (pe_op op_mod (pe_op op_fdiv (pv 2) pe_int) pe_int)))) pss_nil)
      (C8.pss_cut (ps_if (pt_cmpR op_eq (pe_op op_mod (pe_op op_fdiv (pv 2) pe_int) pe_int) pe_int (nomark _)) (pss_one (ps_set (i := 3) sc_law.nd rfl (Or.inl rfl) (pe_op op_sub pe_int (pv 3)))) pss_nil)
      (pss_cons (ps_set (i := 4) sc_law.nd rfl (Or.inl rfl) (pe_op op_sub (pe_op op_mod (pe_op op_fdiv (pv 2) pe_int) pe_int) pe_int))
      (C8.pss_cut (ps_if (pt_cmpR op_eq (pe_op op_mod (pe_op op_fdiv (pv 2) pe_int) pe_int) pe_int (nomark _)) (pss_one (ps_set (i := 4) sc_law.nd rfl (Or.inl rfl) (pe_op op_add pe_int (pe_op op_mod (pe_op op_fdiv (pv 2) pe_int) pe_int)))) pss_nil)
      (C8.pss_cut (ps_if (pt_cmpR op_eq (pe_op op_mod (pe_op op_fdiv (pv 2) pe_int) pe_int) pe_int (nomark _)) (pss_one (ps_set (i := 4) sc_law.nd rfl (Or.inl rfl) (pe_op op_add pe_int (pe_op op_mod (pe_op op_fdiv (pv 2) pe_int) (pe_op op_sub (pe_op op_pow pe_int pe_int) pe_int))))) pss_nil)
      (pss_cons (ps_set (i := 5) sc_law.nd rfl (Or.inl rfl) (pe_o O__law_thing (hr.mono (by decide)) (pa_cons (pe_op op_mod (pv 2) pe_int) (pa_cons (pv 3) (pa_cons (pv 4) pa_nil)))))
      (pss_cons (ps_if (PW.pt (pw_or (pt_not (pt_val (pe_o O__law_truth (hr.mono (by decide)) (pa_cons (pe_o O_is_whole (hr.mono (by decide)) (pa_cons (pv 5) pa_nil)) (pa_cons (pe_o O__law_whole (hr.mono (by decide)) (pa_cons (pv 5) pa_nil)) pa_nil))))) (pw_or1 (pt_not (pt_val (pe_o O__law_truth (hr.mono (by decide)) (pa_cons (pe_o O_is_number (hr.mono (by decide)) (pa_cons (pv 5) pa_nil)) (pa_cons (pe_o O__law_number (hr.mono (by decide)) (pa_cons (pv 5) pa_nil)) pa_nil)))))))) (pss_one (ps_ret pe_bl)) pss_nil)
      (pss_cons (ps_if (pt_not (pt_val (pe_o O__law_truth (hr.mono (by decide)) (pa_cons (pe_o O_is_told (hr.mono (by decide)) (pa_cons (pv 5) pa_nil)) (pa_cons (pe_o O__law_told (hr.mono (by decide)) (pa_cons (pv 5) pa_nil)) pa_nil))))) (pss_one (ps_ret pe_bl)) pss_nil)
      (pss_cons (ps_if (PW.pt (pw_or (pt_not (pt_val (pe_o O__law_made (hr.mono (by decide)) (pa_cons (pv 5) (pa_cons pe_int pa_nil))))) (pw_or (pt_not (pt_val (pe_o O__law_made (hr.mono (by decide)) (pa_cons (pv 3) (pa_cons (pv 5) pa_nil))))) (pw_or1 (pt_not (pt_val (pe_o O__law_made (hr.mono (by decide)) (pa_cons (pv 5) (pa_cons pe_int pa_nil))))))))) (pss_one (ps_ret pe_bl)) pss_nil)
      (pss_cons (ps_if (pt_not (pt_val (pe_o O__law_made (hr.mono (by decide)) (pa_cons (pv 5) (pa_cons (pv 5) pa_nil))))) (pss_one (ps_ret pe_bl)) pss_nil)
      (pss_one (ps_if (PW.pt (pw_and (pt_not (pt_val (pe_callB call_isi (by rfl) (T.b "isinstance") (by decide +kernel) (pa_cons (pv 5) (pa_cons (pe_bltn (v := .ty "str") (u := .type "str") (by rfl) (T.b "str") (by decide +kernel) rfl) pa_nil))))) (pw_and1 (pt_not (pt_val (pe_o O__law_no_text (hr.mono (by decide)) (pa_cons (pv 5) pa_nil))))))) (pss_one (ps_ret pe_bl)) pss_nil)))))))))))))))
    (pss_one (ps_ret (pe_o O__law_refusals (hr.mono (by decide)) (pa_cons (pe_op op_mod (pe_o O__law_cell_at (hr.mono (by decide)) (pa_cons (pv 0) (pa_cons pe_int pa_nil))) pe_int) pa_nil))))), ?_⟩
  refine ⟨(by show 1 ≤ sizeLine; decide), fun l1 n1 => ?_⟩
  have s1 := new_same (o := .lst [V.int 0]) n1
  refine ⟨_, rfl, 63, rfl, a, _, rfl, s1.seq hS, fun l2 n2 => ?_⟩
  have s2 := new_same (o := .lst (cutV (ns.map V.int) none (some 63))) n2
  have hc : (cutV (ns.map V.int) none (some 63)).length ≤ 63 := Nat.le_trans (cutV_length _ _ _) (by rw [List.length_map]; exact hlen)
  refine ⟨l1, l2, _, _, rfl, rfl, s2 _ _ upd_same, upd_same, (by
    show 1 + (cutV (ns.map V.int) none (some 63)).length ≤ sizeLine
    have : (64 : Nat) ≤ sizeLine := by decide
    omega), fun l nl => ?_⟩
  have s3 := new_same (o := .lst ([V.int 0] ++ cutV (ns.map V.int) none (some 63))) nl
  have s0 := (s1.trans s2).trans s3
  refine ⟨l, rfl, ⟨_, SqL.of upd_same⟩, for_list (K := K) (a := l) (xs := [V.int 0] ++ cutV (ns.map V.int) none (some 63))
    (fun i σ H' => Same (upd (upd (upd H l1 (.lst [V.int 0])) l2 (.lst (cutV (ns.map V.int) none (some 63)))) l (.lst ([V.int 0] ++ cutV (ns.map V.int) none (some 63)))) H' ∧ ∃ u1 u2 u3 u4 u5, σ = [some (.ref a), u1, u2, u3, u4, u5])
    ⟨Same.refl _, _, _, _, _, _, rfl⟩ (fun i σ H' _ h => h.1.seq (SqL.of upd_same)) ?_ ?_⟩
  · rintro i x σ H0 hi ⟨sH, u1, u2, u3, u4, u5, rfl⟩
    obtain ⟨n, rfl⟩ := cut_ints (List.mem_of_getElem? hi)
    -- the cell, the first top
    refine ⟨_, rfl, n, rfl, fun m hm => ?_⟩
    refine ⟨_, rfl, m, 21, rfl, rfl, ⟨by decide, by decide⟩, 10, 60, rfl, rfl, ⟨by decide, by decide, by decide⟩, _, 3, rfl, rfl, ⟨by decide, by decide⟩, _, 1, rfl, rfl, _, _, rfl, rfl, (by show (0 : Int) < (10 : Int) ^ (60 : Int).toNat / 3 - 1; decide +kernel), ?_⟩
    have t0 := top_ok m
    refine ⟨fun σ' H' => H' = H0 ∧ ∃ t : Int, t.natAbs < 2 ^ 1000 ∧ σ' = [some (.ref a), some (.int n), some (.int m), some (.int t), u4, u5], ?_, ?_⟩
    · refine ⟨_, rfl, m, 42, rfl, rfl, ⟨by decide, by decide⟩, _, 2, rfl, rfl, (by show (0 : Int) < 2; decide), rfl, _, rfl, ite2 (fun c => ?_) (fun c => ?_)⟩
      · exact ⟨10, 18, rfl, rfl, ⟨by decide, by decide, by decide⟩, _, 2, rfl, rfl, _, rfl, m, 84, rfl, rfl, ⟨by decide, by decide⟩, _, 5, rfl, rfl, (by show (0 : Int) < 5; decide), _, _, rfl, rfl, rfl, _, top_ok2 m, rfl⟩
      · exact ⟨rfl, _, t0, rfl⟩
    rintro σ' H' ⟨rfl, t1, ht1, rfl⟩
    refine ⟨fun σ' H'' => H'' = H' ∧ ∃ t : Int, t.natAbs < 2 ^ 1000 ∧ σ' = [some (.ref a), some (.int n), some (.int m), some (.int t), u4, u5], ?_, ?_⟩
    · refine ⟨_, rfl, m, 420, rfl, rfl, ⟨by decide, by decide⟩, _, 2, rfl, rfl, (by show (0 : Int) < 2; decide), rfl, _, rfl, ite2 (fun c => ?_) (fun c => ?_)⟩
      · exact ⟨_, rfl, 0, t1, rfl, rfl, rfl, _, by rw [Int.zero_sub, Int.natAbs_neg]; exact ht1, rfl⟩
      · exact ⟨rfl, _, ht1, rfl⟩
    rintro σ' H'' ⟨rfl, top, htop, rfl⟩
    refine ⟨_, rfl, m, 840, rfl, rfl, ⟨by decide, by decide⟩, _, 65, rfl, rfl, (by show (0 : Int) < 65; decide), _, 2, rfl, rfl, ?_⟩
    refine ⟨fun σ' H' => H' = H'' ∧ ∃ b : Int, σ' = [some (.ref a), some (.int n), some (.int m), some (.int top), some (.int b), u5], ?_, ?_⟩
    · refine ⟨_, rfl, m, 54600, rfl, rfl, ⟨by decide, by decide⟩, _, 4, rfl, rfl, (by show (0 : Int) < 4; decide), rfl, _, rfl, ite2 (fun c => ?_) (fun c => ?_)⟩
      · exact ⟨_, rfl, m, 840, rfl, rfl, ⟨by decide, by decide⟩, _, 4, rfl, rfl, (by show (0 : Int) < 4; decide), 59, _, rfl, rfl, rfl, _, rfl⟩
      · exact ⟨rfl, _, rfl⟩
    rintro σ' H' ⟨rfl, b1, rfl⟩
    refine ⟨fun σ' H'' => H'' = H' ∧ ∃ b : Int, σ' = [some (.ref a), some (.int n), some (.int m), some (.int top), some (.int b), u5], ?_, ?_⟩
    · refine ⟨_, rfl, m, 54600, rfl, rfl, ⟨by decide, by decide⟩, _, 4, rfl, rfl, (by show (0 : Int) < 4; decide), rfl, _, rfl, ite2 (fun c => ?_) (fun c => ?_)⟩
      · exact ⟨_, rfl, m, 840, rfl, rfl, ⟨by decide, by decide⟩, 10, 60, rfl, rfl, ⟨by decide, by decide, by decide⟩, _, 1, rfl, rfl, _, _, rfl, rfl, (by show (0 : Int) < (10 : Int) ^ (60 : Int).toNat - 1; decide +kernel), 1, _, rfl, rfl, rfl, _, rfl⟩
      · exact ⟨rfl, _, rfl⟩
    rintro σ' H'' ⟨rfl, bot, rfl⟩
    -- the thing
    refine ⟨_, rfl, m, 21, rfl, rfl, (by show (0 : Int) < 21; decide), _, rfl, _, rfl, m % 21, top, bot, rfl, Int.emod_nonneg _ (by decide), Int.emod_lt_of_pos _ (by decide), htop, fun H1 v t sv th hv => ?_⟩
    have tv := th.1
    have bv : ∀ i, v = .int i → i.natAbs < 2 ^ 8000 := fun i e => by rw [hv i e]; exact big_8000 htop
    refine ⟨v, rfl, v, t, rfl, tv, v, rfl, v, t, rfl, tv, _, _, rfl, _, rfl, ?_⟩
    rw [decide_eq_true rfl]
    refine iteF ⟨v, rfl, v, t, rfl, th, v, rfl, v, t, rfl, th, _, _, rfl, _, rfl, ?_⟩
    rw [decide_eq_true rfl]
    refine iteF ⟨v, rfl, v, t, rfl, th, v, rfl, v, t, rfl, th, _, _, rfl, _, rfl, ?_⟩
    rw [decide_eq_true rfl]
    refine iteF ?_
    -- made
    refine ⟨v, rfl, v, t, .int 1, "int", rfl, tv, ⟨.int 1, by decide⟩, bv, fun b e => by rw [← V.int.inj e]; decide +kernel, fun H2 sA => ⟨_, rfl, iteF ?_⟩⟩
    refine ⟨_, rfl, v, rfl, .int top, "int", v, t, rfl, ⟨.int top, by decide⟩, tv_on tv sA, fun b e => by rw [← V.int.inj e]; exact big_8000 htop, bv, fun H3 sB => ⟨_, rfl, iteF ?_⟩⟩
    refine ⟨v, rfl, v, t, .int 6, "int", rfl, tv_on tv (sA.trans sB), ⟨.int 6, by decide⟩, bv, fun b e => by rw [← V.int.inj e]; decide +kernel, fun H4 sC => ⟨_, rfl, iteF ?_⟩⟩
    refine ⟨v, rfl, v, rfl, v, t, v, t, rfl, tv_on tv ((sA.trans sB).trans sC), tv_on tv ((sA.trans sB).trans sC), bv, bv, fun H5 sD => ⟨_, rfl, iteF ?_⟩⟩
    have s5 := ((sA.trans sB).trans sC).trans sD
    have tv5 := tv_on tv s5
    refine ⟨v, rfl, v, .ty "str", .type t, .type "str", _, rfl, .ty _, .base tv5.1, kit_ty (kit_in tv5.2 (by decide)), _, rfl, ?_⟩
    have fin : Same (upd (upd (upd H l1 (.lst [V.int 0])) l2 (.lst (cutV (ns.map V.int) none (some 63)))) l (.lst ([V.int 0] ++ cutV (ns.map V.int) none (some 63)))) H5 := (sH.trans sv).trans s5
    by_cases c : t = "str"
    · rw [decide_eq_true c]
      exact iteF (iteF ⟨fin, _, _, _, _, _, rfl⟩)
    · rw [decide_eq_false c, decide_eq_false (show ¬ ("str" : String) = "int" by decide), Bool.and_false]
      refine iteT ⟨v, rfl, v, t, rfl, tv5, c, _, rfl, iteF ⟨fin, _, _, _, _, _, rfl⟩⟩
  · rintro σ H' ⟨sH, u1, u2, u3, u4, u5, rfl⟩
    refine ⟨_, rfl, a, ns, rfl, (s0.trans sH).seq hS, fun i => ?_⟩
    exact ⟨i, 61, rfl, rfl, (by show (0 : Int) < 61; decide), _, rfl, fun H2 _ => q H2⟩
/-! ### the end -/
theorem facts {P : Program} {w : World} {K : PySem.W.Frag} {mg : Str → Option Value} {h : Heap} {f : Addr} (X : K.In h) (G : h.Ns mainGlobals mg) (hfa : mg ("law" : Str) = some (.ref f)) (c : obsM K = (true, He.valD allD)) :
    ∃ fd : FuncData, (∀ (s : Shared) (v : Value), BindsTo s fd ⟨[v], []⟩ [("script", v)]) ∧ ∀ base : Heap, K.In base → base.Ns mainGlobals mg → FnOk P w K mg base CX0 6 f fd ["script"] (spLaw K) := by
  have T : Txt K mg := ⟨c, h, X, G⟩
  obtain ⟨fd, F⟩ := T.d 19
  have e := hfa.symm.trans (T.g "law")
  cases e
  have b := FunD.bindsA (ps := ["script"]) F fun _ _ _ _ _ _ us hl => match us, hl with | [_], _ => rfl
  exact ⟨fd, fun s v => b s [v] rfl, fun base _ _ => fn_law T F⟩
end
end K96
open PySem PySem.W PySem.Calls PyProof.Rows
theorem PySem.Challenge.cw_twobytwo_k96_things_and_refusals_holds : PySem.Challenge.rw_twobytwo_k96_things_and_refusals.Holds := by
  w_on; o_law
  refine HandSHeadRun.head_any (r := OpenLaw.row PySem.Challenge.rw_twobytwo_k96_things_and_refusals) (q := view (OpenLaw.row PySem.Challenge.rw_twobytwo_k96_things_and_refusals).prog [37]) (H := K96.hk) (ob := K96.ob) (M := 8000) (loose := K96.names) (d := HandSHeadRun.topDef (OpenLaw.row PySem.Challenge.rw_twobytwo_k96_things_and_refusals).prog 37) (kwd := []) K96.ob_eq
    (by kernel_rfl) (fun s => by kernel_rfl) K96.run (by kernel_rfl) (by kernel_rfl) (by kernel_rfl) (by rfl) (by first | assumption | decide +kernel) (by decide +kernel) ⟨rfl, rfl, rfl, rfl, rfl, by decide +kernel⟩ ?hw ?hc
  case hw => w_witness2
  case hc =>
    refine L2.walk_ofE (l := PySem.Challenge.rw_twobytwo_k96_things_and_refusals) (n := 63) (k := 6) (x := "script") (CX := L2.CX0) rfl (by decide) (by kernel_rfl) ⟨rfl, by decide, by decide⟩ ?F (fun _ _ _ _ z => z)
    intro w mg fa h Y G hmg0
    obtain ⟨K, KX, c⟩ := Y
    have hmg : mg ("law" : PySem.Str) = some (.ref fa) := by
      have e : (HandSHeadRun.topDef (OpenLaw.row PySem.Challenge.rw_twobytwo_k96_things_and_refusals).prog 37).name = ("law" : PySem.Str) := by kernel_rfl
      rw [← e]
      exact hmg0
    obtain ⟨fd, hb, hF⟩ := K96.facts (P := (PySem.Challenge.rw_twobytwo_k96_things_and_refusals).prog) (w := w) KX G hmg c
    exact ⟨K, fd, K96.spLaw K, KX, hb, fun H a ns hl _ hS => ⟨a, ns, rfl, hl, hS, fun _ => rfl⟩, hF⟩
#print axioms PySem.Challenge.cw_twobytwo_k96_things_and_refusals_holds
