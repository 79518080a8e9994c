import PyProof.Rows.All
import Wide.All
import OpenK.AllK
import Wide.FinOn
import KE.KExcSuper
import HandS.ForMost
import HandS.ForExc
import HandS.ExcInit
import HandS.ExcField
import HandS.IsInst
import HandS.ExcIs
import HandS.TryMany
import HandS.Wide
import HandS.Defaults
import HandS.CallSlots
import HandS.Flow
import HandS.Steps
import HandS.WideBits
import HandS.Evl
import KE.KExcIs
import KE.KOpsOwn
import KE.SortKeyHeap
import KE.SortData
import KE.KLam
import HandS.Lambda
import HandS.SortKw
import HandS.SortRule
import HandS.Property
import HandS.ClsMeth
import HandS.MakeKwOnly
import HandS.Conv
import HandS.FStr
import HandS.DictComp
import HandS.StrMore
import HandS.Style
import PyProof.FString3
import OpenK.KMeth
import OpenK.KOps
import HandS.Walk
import PyProof.StrOps2
import PyProof.Rows.StrBin
import HandS.EndTab
import KE.KCallOwn
import HandS.Codes
import HandS.RaiseMore
import KE.IntTextText
import HandS.ExcValue
import HandS.OwnEq
import HandS.HotCalls
import HandS.ExcInitHot
import KE.KDictDisplayH
import KE.KStateDown
import HandS.Head0
import HandS.Head1
import HandS.Head2
import HandS.HeadEnd
import HandS.HeadHook1
import HandS.HeadHook2
import HandS.HeadHook3
import HandS.HeadHook4
import HandS.HeadWalk
import PySem.Challenge.RW_fontgap_k72_errors_of_their_own_kinds
set_option Elab.async false
set_option linter.all false
set_option maxRecDepth 100000
set_option maxHeartbeats 4000000
section
open PySem PySem.W PySem.Calls PyProof.Rows
set_option maxRecDepth 100000 in
set_option maxHeartbeats 0 in
theorem FG.hol (h : (OpenLaw.row PySem.Challenge.rw_fontgap_k72_errors_of_their_own_kinds).wellSaid = true → (OpenLaw.row PySem.Challenge.rw_fontgap_k72_errors_of_their_own_kinds).Holds) : PySem.Challenge.rw_fontgap_k72_errors_of_their_own_kinds.Holds := by
  w_on; o_law
  exact h (by assumption)
set_option maxRecDepth 100000 in
set_option maxHeartbeats 0 in
theorem FG.barL : (OpenLaw.row PySem.Challenge.rw_fontgap_k72_errors_of_their_own_kinds).prog.bare := ⟨rfl, rfl, rfl, rfl, rfl, by decide +kernel⟩
end
namespace FG
/-! plain mathematics: Euclid's steps, lowest terms -/
/-- one step of the law's loop -/
def eStep (p : Int × Int) : Int × Int := if p.2 > 0 then (p.2, p.1 % p.2) else p
def eIter : Nat → Int × Int → Int × Int
  | 0, p => p
  | n + 1, p => eStep (eIter n p)
theorem eStep_nonneg {p : Int × Int} (h1 : 0 ≤ p.1) (h2 : 0 ≤ p.2) : 0 ≤ (eStep p).1 ∧ 0 ≤ (eStep p).2 := by
  unfold eStep
  split
  · rename_i h
    exact ⟨h2, Int.emod_nonneg _ (by omega)⟩
  · exact ⟨h1, h2⟩
theorem eStep_gcd {p : Int × Int} : Int.gcd (eStep p).1 (eStep p).2 = Int.gcd p.1 p.2 := by
  unfold eStep
  split
  · show Int.gcd p.2 (p.1 % p.2) = Int.gcd p.1 p.2
    have e : p.1 / p.2 * p.2 + p.1 % p.2 = p.1 := Int.ediv_mul_add_emod _ _
    have q := Int.gcd_mul_right_add_left p.2 (p.1 % p.2) (p.1 / p.2)
    rw [e] at q
    rw [Int.gcd_comm p.2, q]
  · rfl
theorem eIter_gcd (n : Nat) (p : Int × Int) : Int.gcd (eIter n p).1 (eIter n p).2 = Int.gcd p.1 p.2 := by
  induction n with
  | zero => rfl
  | succ n ih => exact eStep_gcd.trans ih
theorem eIter_nonneg (n : Nat) {p : Int × Int} (h1 : 0 ≤ p.1) (h2 : 0 ≤ p.2) : 0 ≤ (eIter n p).1 ∧ 0 ≤ (eIter n p).2 := by
  induction n with
  | zero => exact ⟨h1, h2⟩
  | succ n ih => exact eStep_nonneg ih.1 ih.2
/-- the bound of the second part: two steps halve it -/
theorem eStep_two {p : Int × Int} (h1 : 0 ≤ p.1) (h2 : 0 ≤ p.2) : 2 * (eStep (eStep p)).2 ≤ p.2 := by
  by_cases h : p.2 > 0
  · have e1 : eStep p = (p.2, p.1 % p.2) := if_pos h
    have m0 : 0 ≤ p.1 % p.2 := Int.emod_nonneg _ (by omega)
    have m1 : p.1 % p.2 < p.2 := Int.emod_lt_of_pos _ h
    rw [e1]
    by_cases h' : p.1 % p.2 > 0
    · have e2 : eStep (p.2, p.1 % p.2) = (p.1 % p.2, p.2 % (p.1 % p.2)) := if_pos h'
      rw [e2]
      show 2 * (p.2 % (p.1 % p.2)) ≤ p.2
      generalize hr : p.1 % p.2 = r at *
      have k0 : 0 ≤ p.2 % r := Int.emod_nonneg _ (by omega)
      have k1 : p.2 % r < r := Int.emod_lt_of_pos _ h'
      have k2 : p.2 / r * r + p.2 % r = p.2 := Int.ediv_mul_add_emod _ _
      have k3 : 1 ≤ p.2 / r := by
        have := Int.le_ediv_of_mul_le h' (show 1 * r ≤ p.2 by omega)
        exact this
      have k4 : r ≤ p.2 / r * r := by
        have := Int.mul_le_mul_of_nonneg_right k3 (show 0 ≤ r by omega)
        omega
      omega
    · have e2 : eStep (p.2, p.1 % p.2) = (p.2, p.1 % p.2) := if_neg h'
      rw [e2]
      show 2 * (p.1 % p.2) ≤ p.2
      omega
  · have e1 : eStep p = p := if_neg h
    rw [e1, e1]
    omega
theorem eIter_add (m n : Nat) (p : Int × Int) : eIter (m + n) p = eIter m (eIter n p) := by
  induction m with
  | zero => rw [Nat.zero_add]; rfl
  | succ m ih =>
    rw [Nat.succ_add]
    show eStep (eIter (m + n) p) = eStep (eIter m (eIter n p))
    rw [ih]
theorem eIter_small (j : Nat) : ∀ {p : Int × Int}, 0 ≤ p.1 → 0 ≤ p.2 → p.2 < 2 ^ j → (eIter (2 * j) p).2 = 0 := by
  induction j with
  | zero =>
    intro p h1 h2 h
    have e : (2 : Int) ^ 0 = 1 := by decide
    rw [e] at h
    show p.2 = 0
    omega
  | succ j ih =>
    intro p h1 h2 h
    have e : 2 * (j + 1) = 2 * j + 2 := by omega
    rw [e, eIter_add]
    have q := eIter_nonneg 2 h1 h2
    have t : 2 * (eIter 2 p).2 ≤ p.2 := eStep_two h1 h2
    have pw : (2 : Int) ^ (j + 1) = 2 ^ j * 2 := Int.pow_succ ..
    rw [pw] at h
    refine ih q.1 q.2 ?_
    omega
theorem eIter_400 {p : Int × Int} (h1 : 0 ≤ p.1) (h2 : 0 ≤ p.2) (h : p.2 < 2 ^ 200) : eIter 400 p = (((Int.gcd p.1 p.2 : Nat) : Int), (0 : Int)) := by
  have z := eIter_small 200 h1 h2 h
  have g := eIter_gcd 400 p
  have q := eIter_nonneg 400 h1 h2
  have z' : (eIter 400 p).2 = 0 := z
  rw [z', Int.gcd_zero_right] at g
  have f : (eIter 400 p).1 = ((Int.gcd p.1 p.2 : Nat) : Int) := by
    rw [← g]
    omega
  exact Prod.ext f z'
/-- the python abs -/
def pabs (i : Int) : Int := if i < 0 then -i else i
theorem pabs_eq (i : Int) : pabs i = (i.natAbs : Int) := by
  unfold pabs
  split <;> omega
/-- lowest terms, as the program and the law reckon them -/
def sgn (b : Int) (g : Nat) : Int := if b < 0 then -(g : Int) else (g : Int)
def lowT (t b : Int) : Int := t.fdiv (sgn b (Int.gcd t b))
def lowB (t b : Int) : Int := b.fdiv (sgn b (Int.gcd t b))
theorem gcd_pos_of {t b : Int} (h : b ≠ 0) : 0 < Int.gcd t b := Int.gcd_pos_of_ne_zero_right _ h
theorem sgn_ne {t b : Int} (h : b ≠ 0) : sgn b (Int.gcd t b) ≠ 0 := by
  have := gcd_pos_of (t := t) h
  unfold sgn
  split <;> omega
theorem sgn_mul {b f : Int} {g : Nat} (hf : 0 < f) : sgn (b * f) (g * f.natAbs) = sgn b g * f := by
  unfold sgn
  have e : ((g * f.natAbs : Nat) : Int) = (g : Int) * f := by
    rw [Int.natCast_mul]
    have : (f.natAbs : Int) = f := by omega
    rw [this]
  by_cases h : b < 0
  · have : b * f < 0 := Int.mul_neg_of_neg_of_pos h hf
    rw [if_pos h, if_pos this, e, Int.neg_mul]
  · have : ¬ b * f < 0 := by
      have := Int.mul_nonneg (show 0 ≤ b by omega) (show 0 ≤ f by omega)
      omega
    rw [if_neg h, if_neg this, e]
theorem low_mul {t b f : Int} (hb : b ≠ 0) (hf : 0 < f) : lowT (t * f) (b * f) = lowT t b ∧ lowB (t * f) (b * f) = lowB t b := by
  have g : Int.gcd (t * f) (b * f) = Int.gcd t b * f.natAbs := Int.gcd_mul_right ..
  unfold lowT lowB
  rw [g, sgn_mul hf]
  exact ⟨Int.mul_fdiv_mul_of_pos_left _ _ hf, Int.mul_fdiv_mul_of_pos_left _ _ hf⟩
/-- in lowest terms, over a positive bottom -/
structure Low (t b : Int) : Prop where
  pos : 0 < b
  one : Int.gcd t b = 1
theorem sgn_pos {b : Int} {g : Nat} (h : 0 < b) : sgn b g = (g : Int) := if_neg (by omega)
theorem low_idem {t b : Int} (h : Low t b) : lowT t b = t ∧ lowB t b = b := by
  have e : sgn b (Int.gcd t b) = 1 := by rw [sgn_pos h.pos, h.one]; rfl
  unfold lowT lowB
  rw [e]
  exact ⟨Int.fdiv_one t, Int.fdiv_one b⟩
theorem low_pos {t b : Int} (h : 0 < b) : lowT t b = t / (Int.gcd t b : Nat) ∧ lowB t b = b / (Int.gcd t b : Nat) := by
  unfold lowT lowB
  rw [sgn_pos h]
  exact ⟨Int.fdiv_eq_ediv_of_nonneg _ (by omega), Int.fdiv_eq_ediv_of_nonneg _ (by omega)⟩
theorem low_low {t b : Int} (h : 0 < b) : Low (lowT t b) (lowB t b) := by
  have g0 : 0 < Int.gcd t b := Int.gcd_pos_of_ne_zero_right _ (by omega)
  have d1 : ((Int.gcd t b : Nat) : Int) ∣ t := Int.gcd_dvd_left t b
  have d2 : ((Int.gcd t b : Nat) : Int) ∣ b := Int.gcd_dvd_right t b
  rw [(low_pos h).1, (low_pos h).2]
  refine ⟨?_, ?_⟩
  · exact Int.ediv_pos_of_pos_of_dvd h (by omega) d2
  · rw [Int.gcd_ediv d1 d2, Int.natAbs_natCast]
    exact Nat.div_self g0
theorem low_bound {t b : Int} (h : 0 < b) : (lowT t b).natAbs ≤ t.natAbs ∧ lowB t b ≤ b := by
  have g0 : 0 < Int.gcd t b := Int.gcd_pos_of_ne_zero_right _ (by omega)
  rw [(low_pos h).1, (low_pos h).2]
  refine ⟨?_, ?_⟩
  · rw [Int.natAbs_ediv_of_dvd (Int.gcd_dvd_left t b)]
    exact Nat.div_le_self _ _
  · exact Int.ediv_le_self _ (by omega)
theorem low_neg {t b : Int} (h : Low t b) : Low (-t) b := ⟨h.pos, by rw [Int.neg_gcd]; exact h.one⟩
theorem low_abs {t b : Int} (h : Low t b) : Low (pabs t) b := by
  unfold pabs
  split
  · exact low_neg h
  · exact h
theorem low_one (t : Int) : lowT t 1 = t ∧ lowB t 1 = 1 := by
  have g : Int.gcd t 1 = 1 := Int.gcd_one_right t
  have e : sgn 1 (Int.gcd t 1) = 1 := by rw [g]; rfl
  unfold lowT lowB
  rw [e]
  exact ⟨Int.fdiv_one t, by decide⟩
theorem low_zero {f : Int} (h : 0 < f) : lowT 0 f = 0 ∧ lowB 0 f = 1 := by
  have g : Int.gcd 0 f = f.natAbs := Int.gcd_zero_left f
  have e : sgn f (Int.gcd 0 f) = f := by
    rw [g]
    unfold sgn
    rw [if_neg (by omega)]
    omega
  unfold lowT lowB
  rw [e]
  exact ⟨Int.zero_fdiv f, Int.fdiv_self (by omega)⟩
end FG
/-! own errors below ValueError whose __init__ first calls super().__init__(text) and then stores its parameters -/
namespace FG
open PySem PySem.W PySem.Calls PyProof.Rows PySem.HandSPX

abbrev errFd (qn : Str) (ps : Arguments) (bd : List Stmt) (sc : Scope) (cc : Addr) (kV doc pm : Value) (an : Option Addr) (cd ct : Value) : FuncData :=
  { fnOf "__init__" qn ps bd sc .none kV doc pm an cd ct with closure := [("__class__", cc)] }
/-- what the written part says of such a class at C: its __init__ at fI, the cell of __class__ at cc -/
structure ErrC (P : Program) (K : Frag) (mg : Str → Option Value) (nm qn : Str) (ps : Arguments) (bd : List Stmt) (sc : Scope) (C fI cc cda : Addr) : Prop where
  gC : mg nm = some (.ref C)
  cls : ∃ n1 q N bs bm sn sub ab col dd k0 k1 k2 k3 k5, K.lookup C = some (excClassObj n1 q C N bs bm true sn sub ab col dd k0 k1 k2 k3 k5 "ValueError.__new__") ∧ refsVE bm = true ∧
    alongIn K "__init__" bm = some (some (.builtin "ValueError.__init__"))
  sa : findIn K (.ref C) "__setattr__" = some (some (.builtin "object.__setattr__"))
  ga : findIn K (.ref C) "__getattribute__" = some (some (.builtin "BaseException.__getattribute__"))
  gg : findIn K (.ref C) "__getattr__" = some none
  iC : findIn K (.ref C) "__init__" = some (some (.ref fI))
  tC : typeIn K (.ref fI) = some (.type "function")
  kC : keepIn K (.ref C) = true
  exC : subIn K (.ref C) (.type "BaseException") = some true
  veC : subIn K (.ref C) (.type "ValueError") = some true
  tyC : typeIn K (.ref C) = some (.type "type")
  hdC : hasDictIn K C = true
  meC : mroIn K C (.ref C) = some true
  fn : ∃ (oc : Value) (od : Option Addr) (kV doc pm : Value) (an : Option Addr) (ct : Value) (osl : Array (Option Value)),
    K.lookup fI = some ⟨oc, od, .func (errFd qn ps bd sc cc kV doc pm an (.ref cda) ct), osl⟩ ∧ codeIn K (.ref cda) qn = true
  code : ∃ (cl : Value) (cd : Option Addr) (vs : Array Value) (cs : Array (Option Value)) (file : Str) (tf : Tok), K.lookup cda = some ⟨cl, cd, .fields vs, cs⟩ ∧ vs[2]? = some (.str file tf) ∧ ((P.main.file : Str) == file) = true
  cell : ∃ (cl : Value) (cd : Option Addr) (cs : Array (Option Value)), K.lookup cc = some ⟨cl, cd, .cell (some (.ref C)), cs⟩
  opq : nsIn K cStatics "thirdparty.any" = some none
  sup : mg "super" = none
  top : (P.main.scope.names.lookup ("super" : Str)).isSome = false

/-- the module's names and the built-ins' as they stand -/
structure Names0 (mg : Str → Option Value) (h : Heap) : Prop where
  glob : h.Ns mainGlobals mg
  blt : ∃ mb, h.Ns builtinsNs mb ∧ ∀ x : Str, x ≠ "__name__" → mb x = bootBuiltins x
theorem Names0.keeps {mg : Str → Option Value} {h h' : Heap} (n : Names0 mg h) (k : ∀ b o, h.get? b = some o → h'.get? b = some o) : Names0 mg h' := by
  obtain ⟨g, mb, b1, b2⟩ := n
  exact ⟨g.keeps k, mb, b1.keeps k, b2⟩

/-- super().__init__(text) -/
abbrev supE (p0 p1 p2 p3 p4 : Pos) (msg : Str) (j : Nat) : Expr := .Call (.Attribute (.Call (.Name "super" p0) [] [] p1) "__init__" p2) [.Constant (.str msg) j p3] [] p4
theorem ve_len (v : Value) : [v].length ≤ sizeLine := by
  show 1 ≤ sizeLine
  decide

section
variable {P : Program} {w : World} {A : Around} {E : Value → Shared → Prop} {hh : Heap} {g : Array GenState} {d : Drawn} {tk : Nat} {os : OsState}
/-- the bound ValueError.__init__ is called -/
theorem mw_call {n1 q : Str} {N : Addr} {bs bm : List Value} {hd : Bool} {sn : List Str} {sub : List Value} {ab : Bool} {col : Option Bool} {dd : Option Addr} {k0 k1 k2 k3 k5 : Option Value} {u e t0 C : Addr} {r : List Value} {Q : Value → Shared → Prop}
    (hC : hh.get? C = some (excClassObj n1 q C N bs bm hd sn sub ab col dd k0 k1 k2 k3 k5 "ValueError.__new__")) (he : hh.get? e = some (excO C t0)) (hu : hh.get? u = some (kxs_mw "ValueError.__init__" e)) (hz : r.length ≤ sizeLine)
    (hq : ∀ h' t1, (∀ b o, b ≠ e → hh.get? b = some o → h'.get? b = some o) → h'.get? e = some (excO C t1) → Q .none ⟨h', g, d, tk, os⟩) : wpAny (model P w) A (call (.ref u) r) Q E ⟨hh, g, d, tk, os⟩ := by
  have B := F.excBase_ValueError
  refine wpAny_call (codeAny_of_tree ?_)
  show wpAny _ A.in1 (callAny (.ref u) ⟨r, []⟩) _ _ _
  simp only [callAny]
  refine wpAny_bind (wpAny_load (a := u) hu ?_)
  have c1 : (Value.type "method-wrapper" == Value.type "method" || Value.type "method-wrapper" == Value.type "builtin_function_or_method" || Value.type "method-wrapper" == Value.type "method-wrapper") = true := by decide
  simp only [kxs_mw, c1, if_true]
  refine KFB.if_so (by decide) (wpAny_bind (check_bound_init B.toExcCallFacts hC he rfl (wpAny_bind (wpAny_pure (wpAny_pure ⟨plainId_quiet B.init.plain _, codeAny_builtin B.initEntry ?_⟩)))))
  exact exc_init_tree (cls := .ref C) (t0 := t0) (dv := none) (c2 := .none) (c3 := .none) (b4 := .bool false) he hz fun h' k e' _ => hq h' _ k e'

/-- the statement super().__init__(text) -/
theorem sup_stmt {K : Frag} {mg : Str → Option Value} {nm qn : Str} {ps : Arguments} {bd body : List Stmt} {sc : Scope} {C fI cc cda x t0 L : Addr} {m : Str → Option Value} {msg : Str} {j : Nat} {p0 p1 p2 p3 p4 p5 : Pos} {a0 : Arg} {Q : Flow → Shared → Prop}
    (T : ErrC P K mg nm qn ps bd sc C fI cc cda) (X : K.In hh) (Nm : Names0 mg hh) (hx : hh.get? x = some (excO C t0)) (hn : hh.Ns L m) (hs : m a0.arg = some (.ref x))
    (hp : (ps.posonlyargs ++ ps.args).head? = some a0) (hks : sc.names.lookup ("super" : Str) = some .globalImplicit) (hkc : sc.names.lookup ("__class__" : Str) = some .free) (hka : sc.names.lookup a0.arg = some .local) (hk : sc.kind = .function)
    (hi : interactive (ksEnv qn sc L fI (.ref cda) cc) = false) (hw : swapsWith (supE p0 p1 p2 p3 p4 msg j) none p5.line (ksEnv qn sc L fI (.ref cda) cc) = pure false) {pl : Sem Bool}
    (he : eval (supE p0 p1 p2 p3 p4 msg j) (ksEnv qn sc L fI (.ref cda) cc) = (do
      let ov ← attributeBase (.Call (.Name "super" p0) [] [] p1) "__init__" (ksEnv qn sc L fI (.ref cda) cc) (eval (.Call (.Name "super" p0) [] [] p1) (ksEnv qn sc L fI (.ref cda) cc))
      standAt p2.atName
      let (f, first) ← holding [ov] (getMethod ov "__init__" pl)
      callWith p4 f first (backTo p4 (starEach [.Constant (.str msg) j p3] (ksEnv qn sc L fI (.ref cda) cc))) []))
    (hq : ∀ h' t1 tk', (∀ b o, b ≠ x → hh.get? b = some o → h'.get? b = some o) → h'.get? x = some (excO C t1) → Q .next ⟨h', g, d, tk', os⟩) :
    PySem.wpAt (model P w) A (.func body (ksEnv qn sc L fI (.ref cda) cc)) (exec (.Expr (supE p0 p1 p2 p3 p4 msg j) p5) (ksEnv qn sc L fI (.ref cda) cc)) Q E ⟨hh, g, d, tk, os⟩ := by
  obtain ⟨n1, q, N, bs, bm, sn, sub, ab, col, dd, k0, k1, k2, k3, k5, lC, vm, ai⟩ := T.cls
  obtain ⟨oc, od, kV, doc, pm, an, ct, osl, lf, cdi⟩ := T.fn
  obtain ⟨cl, cd, vs, cs, file, tf, lc, v2, ef⟩ := T.code
  obtain ⟨l1, l2, l3, lcc⟩ := T.cell
  obtain ⟨mb, nb, eb⟩ := Nm.blt
  have hcd : clsIn K C = some { name := n1, bases := bs, mro := .ref C :: bm, ns := N, qualname := q, hasDict := true, slotNames := sn, subclasses := sub, abstract := ab, collection := col, hasDel := false } := by
    unfold clsIn
    rw [lC]
    all_goals rfl
  have hC := X _ _ lC
  have I : InstAt hh x (excO C t0) C none := ⟨hx, rfl, rfl, trivial⟩
  refine ks_wpAt_Expr_any ?_ hi hw
  refine ks_wpAt_MethodCall ?_ he
  refine ks_wpAt_super_base (f := fI) (cc := cda) (ar := a0) hks hkc (by decide) rfl (X _ _ lf) rfl hp rfl (X _ _ lc) rfl v2 ef T.top ?_
  refine ks_loadName_global hk hks (Calls.loadGlobal_builtin Nm.glob T.sup nb ((eb "super" (by decide)).trans (by decide +kernel)) ⟨rfl, ?_⟩)
  refine wpAny_loadName_free (c := cc) (v := .ref C) hk hkc rfl ⟨_, X _ _ lcc, rfl⟩ (wpAny_loadName_local hk hka hn hs ?_)
  refine ks_wpAny_isType_cls hC rfl ⟨rfl, ?_⟩
  refine ks_wpAny_call_super hC rfl hx rfl (fun c z => by cases z) (looks_mroIn X T.meC) fun h1 hso k1' => ?_
  have X1 : K.In h1 := X.keeps k1'
  have I1 : InstAt h1 x (excO C t0) C none := ⟨k1' _ _ hx, rfl, rfl, trivial⟩
  refine kxs_getMethod kxs_ValueError hso (looks_opaque X1 T.opq) (l₀ := .ref C :: bm) (l := bm) ?_ (by simp [List.dropWhile_cons]) X1 ai (I1.type.andThen (looks_subIn X1 T.veC)) (ks_ne X1 I1 hcd) (by decide) ?_
  · exact fun A' Q' E' s' kk qq => wpAny_bind ((looks_clsIn X1 hcd) A' _ E' s' kk (wpAny_pure qq))
  have k2' : ∀ b o, h1.get? b = some o → (h1.push (kxs_mw "ValueError.__init__" x)).get? b = some o := fun b o z => Heap.get?_push_of_some _ z
  have hu : (h1.push (kxs_mw "ValueError.__init__" x)).get? h1.objs.size = some (kxs_mw "ValueError.__init__" x) := Heap.get?_push_at rfl rfl
  refine kxs_callWith (i := "ValueError.__init__") (x := x) (by rfl) (evalArgs_plain ?_)
  refine Calls.spliced_cons (Calls.Constant_str (k := j) (pos := p3) ?_)
  refine Calls.spliced_nil ?_
  refine ⟨hu, ?_⟩
  refine mw_call (k2' _ _ (k1' _ _ hC)) (k2' _ _ (k1' _ _ hx)) hu (ve_len _) fun h' t1 kk e' => hq h' t1 _ (fun b o hb z => kk b o hb (k2' _ _ (k1' _ _ z))) e'

/-- self.f = f, the first one and a further one -/
theorem sto_new {K : Frag} {mg : Str → Option Value} {nm qn : Str} {ps : Arguments} {bd : List Stmt} {sc : Scope} {C fI cc cda x t0 : Addr} {f : Str} {v : Value} {Q : Unit → Shared → Prop} (T : ErrC P K mg nm qn ps bd sc C fI cc cda)
    (X : K.In hh) (hx : hh.get? x = some (excO C t0)) (no : findIn K (.ref C) f = some none)
    (hq : ∀ h' tk' dx, (∀ b o, b ≠ x → hh.get? b = some o → h'.get? b = some o) → hh.objs.size ≤ dx → dx ≠ x → h'.get? x = some { cls := .ref C, dict := some dx, data := .fields #[.ref t0, .none, .none, .none, .bool false, .none] } →
      h'.Ns1 dx (fun y => if y = f then some v else none) → Q () ⟨h', g, d, tk', os⟩) : wpAny (model P w) A (setAttr (.ref x) f v) Q E ⟨hh, g, d, tk, os⟩ := by
  obtain ⟨n1, q, N, bs, bm, sn, sub, ab, col, dd, k0, k1, k2, k3, k5, lC, vm, ai⟩ := T.cls
  have hcd : clsIn K C = some { name := n1, bases := bs, mro := .ref C :: bm, ns := N, qualname := q, hasDict := true, slotNames := sn, subclasses := sub, abstract := ab, collection := col, hasDel := false } := by
    unfold clsIn
    rw [lC]
    all_goals rfl
  have I : InstAt hh x (excO C t0) C none := ⟨hx, rfl, rfl, trivial⟩
  exact set_plain (ox := excO C t0) (od := none) X I T.sa (exc_osa X hx hcd (show refsVE (.ref C :: bm) = true from vm) rfl no fun h' t' dx kk dn de e1 e2 => hq h' t' dx kk dn de e1 e2)
theorem sto_old {K : Frag} {mg : Str → Option Value} {nm qn : Str} {ps : Arguments} {bd : List Stmt} {sc : Scope} {C fI cc cda x t0 dx : Addr} {f f0 : Str} {v v0 : Value} {Q : Unit → Shared → Prop} (T : ErrC P K mg nm qn ps bd sc C fI cc cda)
    (X : K.In hh) (hx : hh.get? x = some { cls := .ref C, dict := some dx, data := .fields #[.ref t0, .none, .none, .none, .bool false, .none] }) (hd : hh.Ns1 dx (fun y => if y = f0 then some v0 else none)) (no : findIn K (.ref C) f = some none)
    (hq : ∀ h' tk', (∀ b o, b ≠ dx → hh.get? b = some o → h'.get? b = some o) → h'.Ns1 dx (fun y => if y = f then some v else if y = f0 then some v0 else none) → Q () ⟨h', g, d, tk', os⟩) : wpAny (model P w) A (setAttr (.ref x) f v) Q E ⟨hh, g, d, tk, os⟩ := by
  obtain ⟨n1, q, N, bs, bm, sn, sub, ab, col, dd, k0, k1, k2, k3, k5, lC, vm, ai⟩ := T.cls
  have hcd : clsIn K C = some { name := n1, bases := bs, mro := .ref C :: bm, ns := N, qualname := q, hasDict := true, slotNames := sn, subclasses := sub, abstract := ab, collection := col, hasDel := false } := by
    unfold clsIn
    rw [lC]
    all_goals rfl
  have hw : Within (fun y => if y = f0 then some v0 else none) [f0] := Within.cons f0 v0 Within.nil
  obtain ⟨oD, _, _, hoD, _, _⟩ := hd.count hw
  refine set_plain (ox := { cls := .ref C, dict := some dx, data := .fields #[.ref t0, .none, .none, .none, .bool false, .none] }) (od := some oD) X ⟨hx, rfl, rfl, hoD⟩ T.sa ?_
  exact OEX.osa_old X hx hd hw (by show 1 ≤ 1000; decide) hcd (show refsVE (.ref C :: bm) = true from vm) rfl no fun h' t' kk e2 => hq h' t' kk e2
end

/-! ### the whole __init__ -/
/-- what the text of an __init__ of one field looks like; L stands for the frame -/
structure Txt1 (qn f msg : Str) (ps : Arguments) (bd : List Stmt) (sc : Scope) : Prop where
  ex : ∃ (p0 p1 p2 p3 p4 p5 q1 q2 q3 q4 : Pos) (j : Nat) (a0 : Arg), bd = [.Expr (supE p0 p1 p2 p3 p4 msg j) p5, .Assign [.Attribute (.Name "self" q1) f q2] (.Name f q3) q4] ∧ (ps.posonlyargs ++ ps.args).head? = some a0 ∧ a0.arg = "self" ∧
    (∀ (L fI cc cda : Addr), interactive (ksEnv qn sc L fI (.ref cda) cc) = false ∧ swapsWith (supE p0 p1 p2 p3 p4 msg j) none p5.line (ksEnv qn sc L fI (.ref cda) cc) = pure false ∧
      swapsWith (.Name f q3) (some (.Attribute (.Name "self" q1) f q2)) q4.line (ksEnv qn sc L fI (.ref cda) cc) = pure false ∧
      ∃ pl : Sem Bool, eval (supE p0 p1 p2 p3 p4 msg j) (ksEnv qn sc L fI (.ref cda) cc) = (do
        let ov ← attributeBase (.Call (.Name "super" p0) [] [] p1) "__init__" (ksEnv qn sc L fI (.ref cda) cc) (eval (.Call (.Name "super" p0) [] [] p1) (ksEnv qn sc L fI (.ref cda) cc))
        standAt p2.atName
        let (f, first) ← holding [ov] (getMethod ov "__init__" pl)
        callWith p4 f first (backTo p4 (starEach [.Constant (.str msg) j p3] (ksEnv qn sc L fI (.ref cda) cc))) []))
  bind : ∀ (cc : Addr) (kV doc pm : Value) (an : Option Addr) (cd ct : Value) (a b : Value), bindArgs (errFd qn ps bd sc cc kV doc pm an cd ct) ⟨[a, b], []⟩ = pure [(("self" : Str), a), (f, b)]
  nself : (f == ("self" : Str)) = false
  ndbg : (f == ("__debug__" : Str)) = false
  ks : sc.names.lookup ("super" : Str) = some .globalImplicit
  kc : sc.names.lookup ("__class__" : Str) = some .free
  k0 : sc.names.lookup ("self" : Str) = some .local
  k1 : sc.names.lookup f = some .local
  cells : ∀ x ∈ sc.names, x.2 ≠ .cell
  kind : sc.kind = .function
  co : sc.isCoroutine = false
  gen : sc.isGenerator = false
structure Txt2 (qn f f2 msg : Str) (ps : Arguments) (bd : List Stmt) (sc : Scope) : Prop where
  ex : ∃ (p0 p1 p2 p3 p4 p5 q1 q2 q3 q4 r1 r2 r3 r4 : Pos) (j : Nat) (a0 : Arg), bd = [.Expr (supE p0 p1 p2 p3 p4 msg j) p5, .Assign [.Attribute (.Name "self" q1) f q2] (.Name f q3) q4, .Assign [.Attribute (.Name "self" r1) f2 r2] (.Name f2 r3) r4] ∧ (ps.posonlyargs ++ ps.args).head? = some a0 ∧ a0.arg = "self" ∧
    (∀ (L fI cc cda : Addr), interactive (ksEnv qn sc L fI (.ref cda) cc) = false ∧ swapsWith (supE p0 p1 p2 p3 p4 msg j) none p5.line (ksEnv qn sc L fI (.ref cda) cc) = pure false ∧
      swapsWith (.Name f q3) (some (.Attribute (.Name "self" q1) f q2)) q4.line (ksEnv qn sc L fI (.ref cda) cc) = pure false ∧
      swapsWith (.Name f2 r3) (some (.Attribute (.Name "self" r1) f2 r2)) r4.line (ksEnv qn sc L fI (.ref cda) cc) = pure false ∧
      ∃ pl : Sem Bool, eval (supE p0 p1 p2 p3 p4 msg j) (ksEnv qn sc L fI (.ref cda) cc) = (do
        let ov ← attributeBase (.Call (.Name "super" p0) [] [] p1) "__init__" (ksEnv qn sc L fI (.ref cda) cc) (eval (.Call (.Name "super" p0) [] [] p1) (ksEnv qn sc L fI (.ref cda) cc))
        standAt p2.atName
        let (f, first) ← holding [ov] (getMethod ov "__init__" pl)
        callWith p4 f first (backTo p4 (starEach [.Constant (.str msg) j p3] (ksEnv qn sc L fI (.ref cda) cc))) []))
  bind : ∀ (cc : Addr) (kV doc pm : Value) (an : Option Addr) (cd ct : Value) (a b c : Value), bindArgs (errFd qn ps bd sc cc kV doc pm an cd ct) ⟨[a, b, c], []⟩ = pure [(("self" : Str), a), (f, b), (f2, c)]
  nself : (f == ("self" : Str)) = false
  nself2 : (f2 == ("self" : Str)) = false
  nff : (f == f2) = false
  ndbg2 : (f2 == ("__debug__" : Str)) = false
  ndbg : (f == ("__debug__" : Str)) = false
  ks : sc.names.lookup ("super" : Str) = some .globalImplicit
  kc : sc.names.lookup ("__class__" : Str) = some .free
  k0 : sc.names.lookup ("self" : Str) = some .local
  k1 : sc.names.lookup f = some .local
  k2 : sc.names.lookup f2 = some .local
  cells : ∀ x ∈ sc.names, x.2 ≠ .cell
  kind : sc.kind = .function
  co : sc.isCoroutine = false
  gen : sc.isGenerator = false
/-- what is left of a made error: its class C, its own dict dx with the fields m -/
structure Made (h h' : Heap) (e C dx : Addr) (m : Str → Option Value) : Prop where
  keep : ∀ b o, h.get? b = some o → h'.get? b = some o
  new : h.objs.size ≤ e
  obj : ∃ oe vs, h'.get? e = some oe ∧ oe.cls = .ref C ∧ oe.dict = some dx ∧ oe.data = .fields vs ∧ vs[1]? = some .none ∧ vs[2]? = some .none
  dbig : h.objs.size ≤ dx
  dne : dx ≠ e
  ns : h'.Ns1 dx m
section
variable {P : Program} {w : World} {A : Around} {R : Result → Shared → Prop} {hp : Heap} {g : Array GenState} {d : Drawn} {tk : Nat} {os : OsState} {K : Frag} {mg : Str → Option Value} {nm qn f f2 msg : Str} {ps : Arguments} {bd : List Stmt} {sc : Scope} {C fI cc cda : Addr}
theorem init1 {x t0 : Addr} {v : Value} (T : ErrC P K mg nm qn ps bd sc C fI cc cda) (Y : Txt1 qn f msg ps bd sc) (no : findIn K (.ref C) f = some none) (X : K.In hp) (lim : hp.NoLimit) (Nm : Names0 mg hp) (hx : hp.get? x = some (excO C t0)) (nx : K.lookup x = none) (room : A.depth < recursionLimit)
    (hq : ∀ h' tk' t1 dx, (∀ b o, b ≠ x → hp.get? b = some o → h'.get? b = some o) → h'.get? x = some { cls := .ref C, dict := some dx, data := .fields #[.ref t1, .none, .none, .none, .bool false, .none] } → hp.objs.size ≤ dx → dx ≠ x →
      h'.Ns1 dx (fun y => if y = f then some v else none) → R (.ok (.ret .none)) ⟨h', g, d, tk', os⟩) : codeAny (model P w) A (.call (.ref fI) ⟨[.ref x, v], []⟩) R ⟨hp, g, d, tk, os⟩ := by
  obtain ⟨oc, od, kV, doc, pm, an, ct, osl, lf, cdi⟩ := T.fn
  obtain ⟨p0, p1, p2, p3, p4, p5, q1, q2, q3, q4, j, a0, eb, hp0, ea0, ht⟩ := Y.ex
  refine ks_codeAny_call_defAt (s := ⟨hp, g, d, tk, os⟩) (fd := errFd qn ps bd sc cc kV doc pm an (.ref cda) ct) (binds := [(("self" : Str), .ref x), (f, v)]) room (X _ _ lf) rfl lim (codeRec_of X cdi) rfl (BindsTo.of_eq (Y.bind cc kV doc pm an (.ref cda) ct _ _)) Y.cells ?_ (fun h₀ ns k => ?_) Y.co Y.gen Y.kind
  · intro z hz
    rcases List.mem_cons.mp hz with rfl | hz
    · exact Y.k0
    · rcases List.mem_cons.mp hz with rfl | hz
      · exact Y.k1
      · cases hz
  have X0 : K.In h₀ := X.keeps k
  have N0 := Nm.keeps k
  have hx0 := k _ _ hx
  have nself : ¬ f = "self" := fun z => by have := Y.nself; rw [z] at this; exact absurd this (by decide)
  have hs : (fun x_1 : Str => List.lookup x_1 [(("self" : Str), Value.ref x), (f, v)].reverse) "self" = some (.ref x) := by
    show List.lookup ("self" : Str) [(f, v), ("self", Value.ref x)] = _
    have z : (("self" : Str) == f) = false := by
      rw [beq_eq_false_iff_ne]
      exact fun q => nself q.symm
    simp [List.lookup, z]
  have hf : (fun x_1 : Str => List.lookup x_1 [(("self" : Str), Value.ref x), (f, v)].reverse) f = some v := by
    show List.lookup f [(f, v), ("self", Value.ref x)] = _
    simp [List.lookup]
  obtain ⟨hi, hw, hw2, pl, he⟩ := ht hp.objs.size fI cc cda
  subst eb
  have nL : x ≠ hp.objs.size := Nat.ne_of_lt (Heap.lt_size hx)
  show PySem.wpAt (model P w) (A.deeper (ksEnv qn sc hp.objs.size fI (.ref cda) cc)) (.func _ (ksEnv qn sc hp.objs.size fI (.ref cda) cc)) (execs _ (ksEnv qn sc hp.objs.size fI (.ref cda) cc)) _ _ _
  refine ks_wpAt_execs_cons (sup_stmt T X0 N0 hx0 ns (by rw [ea0]; exact hs) hp0 Y.ks Y.kc (by rw [ea0]; exact Y.k0) Y.kind hi hw he fun h1 t1 tk1 k1 e1 => ?_)
  have nsL : h1.Ns hp.objs.size (fun x_1 : Str => List.lookup x_1 [(("self" : Str), Value.ref x), (f, v)].reverse) := ns.at fun o z => k1 _ _ (Ne.symm nL) z
  show PySem.wpAt _ _ _ _ _ _ _
  refine PySem.wpAt_of_wpAny ?_
  refine wpAny_execs_cons (plainObj_wpAny_Assign_Attribute ?_ hw2)
  refine wpAny_Name (wpAny_loadName_local Y.kind Y.k1 nsL hf ?_) Y.ndbg
  refine wpAny_Name (wpAny_loadName_local Y.kind Y.k0 nsL hs ?_) (by decide)
  have X1 : K.In h1 := fun a o z => k1 a o (fun q => by
    rw [q, nx] at z
    cases z) (X0 a o z)
  have big : hp.objs.size < h1.objs.size := nsL.lt
  refine sto_new T X1 e1 no fun h' tk' dx k2 dn de e2 e3 => ?_
  refine wpAny_execs_nil ?_
  refine hq h' tk' t1 dx (fun b o hb z => k2 b o hb (k1 b o hb (k b o z))) e2 (Nat.le_trans (Nat.le_of_lt big) dn) de e3
theorem init2 {x t0 : Addr} {v v2 : Value} (T : ErrC P K mg nm qn ps bd sc C fI cc cda) (Y : Txt2 qn f f2 msg ps bd sc) (no : findIn K (.ref C) f = some none) (no2 : findIn K (.ref C) f2 = some none) (X : K.In hp) (lim : hp.NoLimit) (Nm : Names0 mg hp) (hx : hp.get? x = some (excO C t0)) (nx : K.lookup x = none) (room : A.depth < recursionLimit)
    (hq : ∀ h' tk' t1 dx, (∀ b o, b ≠ x → hp.get? b = some o → h'.get? b = some o) → h'.get? x = some { cls := .ref C, dict := some dx, data := .fields #[.ref t1, .none, .none, .none, .bool false, .none] } → hp.objs.size ≤ dx → dx ≠ x →
      h'.Ns1 dx (fun y => if y = f2 then some v2 else if y = f then some v else none) → R (.ok (.ret .none)) ⟨h', g, d, tk', os⟩) : codeAny (model P w) A (.call (.ref fI) ⟨[.ref x, v, v2], []⟩) R ⟨hp, g, d, tk, os⟩ := by
  obtain ⟨oc, od, kV, doc, pm, an, ct, osl, lf, cdi⟩ := T.fn
  obtain ⟨p0, p1, p2, p3, p4, p5, q1, q2, q3, q4, r1, r2, r3, r4, j, a0, eb, hp0, ea0, ht⟩ := Y.ex
  refine ks_codeAny_call_defAt (s := ⟨hp, g, d, tk, os⟩) (fd := errFd qn ps bd sc cc kV doc pm an (.ref cda) ct) (binds := [(("self" : Str), .ref x), (f, v), (f2, v2)]) room (X _ _ lf) rfl lim (codeRec_of X cdi) rfl (BindsTo.of_eq (Y.bind cc kV doc pm an (.ref cda) ct _ _ _)) Y.cells ?_ (fun h₀ ns k => ?_) Y.co Y.gen Y.kind
  · intro z hz
    rcases List.mem_cons.mp hz with rfl | hz
    · exact Y.k0
    · rcases List.mem_cons.mp hz with rfl | hz
      · exact Y.k1
      · rcases List.mem_cons.mp hz with rfl | hz
        · exact Y.k2
        · cases hz
  have X0 : K.In h₀ := X.keeps k
  have N0 := Nm.keeps k
  have hx0 := k _ _ hx
  have ns1 : (("self" : Str) == f) = false := by
    rw [beq_eq_false_iff_ne]
    exact fun q => absurd Y.nself (by rw [← q]; decide)
  have ns2 : (("self" : Str) == f2) = false := by
    rw [beq_eq_false_iff_ne]
    exact fun q => absurd Y.nself2 (by rw [← q]; decide)
  have hs : (fun x_1 : Str => List.lookup x_1 [(("self" : Str), Value.ref x), (f, v), (f2, v2)].reverse) "self" = some (.ref x) := by
    show List.lookup ("self" : Str) [(f2, v2), (f, v), ("self", Value.ref x)] = _
    simp [List.lookup, ns1, ns2]
  have hf : (fun x_1 : Str => List.lookup x_1 [(("self" : Str), Value.ref x), (f, v), (f2, v2)].reverse) f = some v := by
    show List.lookup f [(f2, v2), (f, v), ("self", Value.ref x)] = _
    simp [List.lookup, Y.nff]
  have hf2 : (fun x_1 : Str => List.lookup x_1 [(("self" : Str), Value.ref x), (f, v), (f2, v2)].reverse) f2 = some v2 := by
    show List.lookup f2 [(f2, v2), (f, v), ("self", Value.ref x)] = _
    simp [List.lookup]
  obtain ⟨hi, hw, hw2, hw3, pl, he⟩ := ht hp.objs.size fI cc cda
  subst eb
  have nL : x ≠ hp.objs.size := Nat.ne_of_lt (Heap.lt_size hx)
  show PySem.wpAt (model P w) (A.deeper (ksEnv qn sc hp.objs.size fI (.ref cda) cc)) (.func _ (ksEnv qn sc hp.objs.size fI (.ref cda) cc)) (execs _ (ksEnv qn sc hp.objs.size fI (.ref cda) cc)) _ _ _
  refine ks_wpAt_execs_cons (sup_stmt T X0 N0 hx0 ns (by rw [ea0]; exact hs) hp0 Y.ks Y.kc (by rw [ea0]; exact Y.k0) Y.kind hi hw he fun h1 t1 tk1 k1 e1 => ?_)
  have nsL : h1.Ns hp.objs.size (fun x_1 : Str => List.lookup x_1 [(("self" : Str), Value.ref x), (f, v), (f2, v2)].reverse) := ns.at fun o z => k1 _ _ (Ne.symm nL) z
  show PySem.wpAt _ _ _ _ _ _ _
  refine PySem.wpAt_of_wpAny ?_
  refine wpAny_execs_cons (plainObj_wpAny_Assign_Attribute ?_ hw2)
  refine wpAny_Name (wpAny_loadName_local Y.kind Y.k1 nsL hf ?_) Y.ndbg
  refine wpAny_Name (wpAny_loadName_local Y.kind Y.k0 nsL hs ?_) (by decide)
  have X1 : K.In h1 := fun a o z => k1 a o (fun q => by
    rw [q, nx] at z
    cases z) (X0 a o z)
  have big : hp.objs.size < h1.objs.size := nsL.lt
  refine sto_new T X1 e1 no fun h2 tk2 dx kk dn de e2 e3 => ?_
  have X2 : K.In h2 := fun a o z => kk a o (fun q => by
    rw [q, nx] at z
    cases z) (X1 a o z)
  have nsL2 : h2.Ns hp.objs.size (fun x_1 : Str => List.lookup x_1 [(("self" : Str), Value.ref x), (f, v), (f2, v2)].reverse) := nsL.at fun o z => kk _ _ (Ne.symm nL) z
  show wpAny _ _ (execs _ _) _ _ _
  refine wpAny_execs_cons (plainObj_wpAny_Assign_Attribute ?_ hw3)
  refine wpAny_Name (wpAny_loadName_local Y.kind Y.k2 nsL2 hf2 ?_) Y.ndbg2
  refine wpAny_Name (wpAny_loadName_local Y.kind Y.k0 nsL2 hs ?_) (by decide)
  have nd : ∀ b o, hp.get? b = some o → b ≠ dx := fun b o z => Nat.ne_of_lt (Nat.lt_of_lt_of_le (Heap.lt_size z) (Nat.le_trans (Nat.le_of_lt big) dn))
  refine sto_old T X2 e2 e3 no2 fun h' tk' k3 e4 => ?_
  refine wpAny_execs_nil ?_
  exact hq h' tk' t1 dx (fun b o hb z => k3 b o (nd b o z) (kk b o hb (k1 b o hb (k b o z)))) (k3 _ _ (Ne.symm de) e2) (Nat.le_trans (Nat.le_of_lt big) dn) de e4
/-- C(v, ..): from what __init__ does -/
theorem made_of {us : List Value} {m : Str → Option Value} (T : ErrC P K mg nm qn ps bd sc C fI cc cda) (X : K.In hp) (lim : hp.NoLimit) (Nm : Names0 mg hp) (hz : us.length ≤ sizeLine)
    (ini : ∀ (A' : Around) (hp' : Heap) (x t0 : Addr) (R' : Result → Shared → Prop), K.In hp' → hp'.NoLimit → Names0 mg hp' → hp'.get? x = some (excO C t0) → K.lookup x = none → A'.depth < recursionLimit →
      (∀ h' tk' t1 dx, (∀ b o, b ≠ x → hp'.get? b = some o → h'.get? b = some o) → h'.get? x = some { cls := .ref C, dict := some dx, data := .fields #[.ref t1, .none, .none, .none, .bool false, .none] } → hp'.objs.size ≤ dx → dx ≠ x →
        h'.Ns1 dx m → R' (.ok (.ret .none)) ⟨h', g, d, tk', os⟩) → codeAny (model P w) A' (.call (.ref fI) ⟨.ref x :: us, []⟩) R' ⟨hp', g, d, tk, os⟩)
    (room : A.depth + 1 < recursionLimit) (hq : ∀ h' tk' e dx, Made hp h' e C dx m → R (.ok (.ret (.ref e))) ⟨h', g, d, tk', os⟩) : codeAny (model P w) A (.call (.ref C) ⟨us, []⟩) R ⟨hp, g, d, tk, os⟩ := by
  obtain ⟨n1, q, N, bs, bm, sn, sub, ab, col, dd, k0, k1, k2, k3, k5, lC, vm, ai⟩ := T.cls
  have k : ∀ b o, hp.get? b = some o → ((hp.push (kdv_tup us)).push (excO C hp.objs.size)).get? b = some o := fun b o z => Heap.get?_push_of_some _ (Heap.get?_push_of_some _ z)
  have hx : ((hp.push (kdv_tup us)).push (excO C hp.objs.size)).get? (hp.objs.size + 1) = some (excO C hp.objs.size) := by heap_get
  have nx : K.lookup (hp.objs.size + 1) = none := by
    cases z : K.lookup (hp.objs.size + 1) with
    | none => rfl
    | some o => exact absurd (Nat.lt_of_succ_lt (Heap.lt_size (X _ _ z))) (Nat.lt_irrefl _)
  refine call_own F.excBase_ValueError (fun Y => refsVE_contains Y bm vm) (X _ _ lC) (looks_findIn X T.iC) (fun self => bind_fn X self T.tC) hz ?_
  refine ini _ _ _ _ _ (X.keeps k) (lim.keeps k) (Nm.keeps k) hx nx (by show A.depth + 1 < recursionLimit; exact room) fun h' tk' t1 dx kk e1 dn de ns => ⟨rfl, ?_⟩
  have sz : ((hp.push (kdv_tup us)).push (excO C hp.objs.size)).objs.size = hp.objs.size + 1 + 1 := by rw [Heap.size_push, Heap.size_push]
  rw [sz] at dn
  exact hq h' tk' _ dx ⟨fun b o z => kk b o (Nat.ne_of_lt (Nat.lt_succ_of_lt (Heap.lt_size z))) (k b o z), Nat.le_succ _, ⟨_, _, e1, rfl, rfl, rfl, rfl, rfl⟩, Nat.le_trans (Nat.le_trans (Nat.le_succ _) (Nat.le_succ _)) dn, de, ns⟩
end
end FG
namespace FG
open PySem PySem.Spec PyProof.Rows L2
/-! own errors in the hand layer: making, raising -/
theorem relO1 {f : Str} {v : V} {u : Value} (r : RelV v u) (y : Str) : RelO (List.lookup y [(f, v)]) (if y = f then some u else none) := by
  by_cases h : y = f
  · subst h
    simp [List.lookup, RelO, r]
  · have z : (y == f) = false := by simpa using h
    simp [List.lookup, z, h, RelO]
theorem relO2 {f f2 : Str} {v v2 : V} {u u2 : Value} (nf : (f == f2) = false) (r : RelV v u) (r2 : RelV v2 u2) (y : Str) : RelO (List.lookup y [(f, v), (f2, v2)]) (if y = f2 then some u2 else if y = f then some u else none) := by
  by_cases h2 : y = f2
  · subst h2
    have z : (y == f) = false := by
      rw [beq_eq_false_iff_ne] at nf ⊢
      exact fun q => nf q.symm
    simp [List.lookup, z, RelO, r2]
  · have z2 : (y == f2) = false := by simpa using h2
    by_cases h : y = f
    · subst h
      simp [List.lookup, RelO, r, h2]
    · have z : (y == f) = false := by simpa using h
      simp [List.lookup, z, z2, h, h2, RelO]
section
variable {X : Cx} {nm qn f f2 msg : Str} {ps : Arguments} {bd : List Stmt} {sc : Scope} {C fI cc cda : Addr} {a a2 : Expr} {ta tb : TE} {p pos : Pos} {k : Nat}
/-- what making such an error does to the state: e is new, its own dict d is tracked from now on -/
theorem mkp_of {pins : List (Addr × Obj)} {σ : L2.St} {H1 : Hp} {Q : XK} {hp h' : Heap} {g : Array GenState} {dr : Drawn} {tk tk' : Nat} {os : OsState} {e d : Addr} {m : Str → Option Value} {fs : List (Str × V)}
    (T : ErrC X.prog X.K X.mg nm qn ps bd sc C fI cc cda) (I1 : Inv X pins σ H1 ⟨hp, g, dr, tk, os⟩) (M : Made hp h' e C d m) (rel : ∀ y, RelO (fs.lookup y) (m y))
    (q1 : ∀ d, H1 d = none → Q (.ref C) (some d) (upd H1 d (.xd fs))) : MkP X pins σ Q (.ref e) ⟨h', g, dr, tk', os⟩ := by
  obtain ⟨oe, fv, hoe, hc, hd, hdat, h1, _⟩ := M.obj
  have hns := M.ns
  obtain ⟨G', g1, g2⟩ := restrict h' fun b => decide (b ≠ e)
  have gk : ∀ b, b ≠ e → G'.get? b = h'.get? b := fun b hb => g1 b (decide_eq_true hb)
  have ge : G'.get? e = none := g2 e (by simp)
  have old : ∀ b o, hp.get? b = some o → G'.get? b = some o := fun b o z => (gk b (Nat.ne_of_lt (Nat.lt_of_lt_of_le (Heap.lt_size z) M.new))).trans (M.keep b o z)
  have ob : ObjOk X.prog X.w (upd H1 d (.xd fs)) G' d (.xd fs) := ⟨_, hns.at (fun o z => (gk d M.dne).trans z), rel⟩
  have J : Inv X pins σ (upd H1 d (.xd fs)) ⟨G', g, dr, tk', os⟩ := I1.laid (t' := tk') old M.dbig ob
  refine ⟨e, oe, fv, ⟨G', g, dr, tk', os⟩, _, .ref C, some d, rfl, J, fun b o z => ?_, ge, hoe, ⟨hc, hd⟩, hdat, h1, ?_, rfl, I1.bare, raises_own T.exC T.tyC, q1 d (I1.hok.fresh M.dbig)⟩
  · have nb : b ≠ e := fun y => by
      have z' : G'.get? b = some o := z
      rw [y, ge] at z'
      cases z'
    exact (gk b nb).symm.trans z
  · rw [upd_ne (Ne.symm M.dne)]
    exact I1.hok.fresh M.new
theorem names_of {pins : List (Addr × Obj)} {σ : L2.St} {H : Hp} {s : Shared} (I : Inv X pins σ H s) : Names0 X.mg s.heap := by
  obtain ⟨mb, b1, b2⟩ := I.mod.blt
  exact ⟨I.mod.glob.keeps I.bk, mb, b1.keeps I.bk, b2⟩
/-- C(e) -/
def tMk1 (C : Addr) (f : Str) (ta : TA) : L2.St → Hp → XK → Prop := fun σ H Q => ta σ H fun vs H1 => ∃ v, vs = [v] ∧ ∀ d, H1 d = none → Q (.ref C) (some d) (upd H1 d (.xd [(f, v)]))
/-- C(e, e2) -/
def tMk2 (C : Addr) (f f2 : Str) (ta : TA) : L2.St → Hp → XK → Prop := fun σ H Q => ta σ H fun vs H1 => ∃ v v2, vs = [v, v2] ∧ ∀ d, H1 d = none → Q (.ref C) (some d) (upd H1 d (.xd [(f, v), (f2, v2)]))
theorem pmk1 {as : List Expr} {ta : TA} (T : ErrC X.prog X.K X.mg nm qn ps bd sc C fI cc cda) (Y : Txt1 qn f msg ps bd sc) (no : PySem.W.findIn X.K (.ref C) f = some none) (hr : Room k X.A) (ha : PA X (a :: as) ta) (hg : Gl X nm := by rfl) (hdb : (nm == ("__debug__" : Str)) = false := by decide)
    (he : starEach (a :: as) X.env = (false, eval a X.env) :: starEach as X.env := by rfl) (hpl : (backTo pos (starEach as X.env)).any (·.1) = false := by rfl) : PMk X (.Call (.Name nm p) (a :: as) [] pos) (tMk1 C f ta) := by
  intro pins s σ H Q I h
  refine wpAny_Call_Name_kw (ld_glob I hg T.gC ?_ hdb)
  refine PySem.W.callWith_K (h₀ := X.base) I.ok.mod.kin T.kC (thn (ha.run pos pins s σ H _ I h) fun us s1 ⟨vs, H1, I1, r1, v, ev, q1⟩ => ⟨I1.kIn, ?_⟩) he hpl
  subst ev
  have Nm := names_of I1
  have lim := I1.nolimit
  have KI := I1.kIn
  cases r1 with
  | @cons _ u1 _ ur rv rn =>
    cases rn
    obtain ⟨hp, g, dr, tk, os⟩ := s1
    exact wpAny_call (made_of (m := fun y => if y = f then some u1 else none) T KI lim Nm (ve_len _) (fun A' hp' x t0 R' x1 x2 x3 x4 x5 x6 x7 => init1 T Y no x1 x2 x3 x4 x5 x6 x7) (by have := hr.dp; omega) fun h' tk' e d M => mkp_of T I1 M (relO1 rv) q1)
theorem two_len (v v' : Value) : [v, v'].length ≤ sizeLine := by
  show 2 ≤ sizeLine
  decide
theorem pmk2 {as : List Expr} {ta : TA} (T : ErrC X.prog X.K X.mg nm qn ps bd sc C fI cc cda) (Y : Txt2 qn f f2 msg ps bd sc) (no : PySem.W.findIn X.K (.ref C) f = some none) (no2 : PySem.W.findIn X.K (.ref C) f2 = some none) (hr : Room k X.A) (ha : PA X (a :: as) ta) (hg : Gl X nm := by rfl) (hdb : (nm == ("__debug__" : Str)) = false := by decide)
    (he : starEach (a :: as) X.env = (false, eval a X.env) :: starEach as X.env := by rfl) (hpl : (backTo pos (starEach as X.env)).any (·.1) = false := by rfl) : PMk X (.Call (.Name nm p) (a :: as) [] pos) (tMk2 C f f2 ta) := by
  intro pins s σ H Q I h
  refine wpAny_Call_Name_kw (ld_glob I hg T.gC ?_ hdb)
  refine PySem.W.callWith_K (h₀ := X.base) I.ok.mod.kin T.kC (thn (ha.run pos pins s σ H _ I h) fun us s1 ⟨vs, H1, I1, r1, v, v2, ev, q1⟩ => ⟨I1.kIn, ?_⟩) he hpl
  subst ev
  have Nm := names_of I1
  have lim := I1.nolimit
  have KI := I1.kIn
  cases r1 with
  | @cons _ u1 _ ur rv rn =>
    cases rn with
    | @cons _ u2 _ ur2 rv2 rn2 =>
      cases rn2
      obtain ⟨hp, g, dr, tk, os⟩ := s1
      exact wpAny_call (made_of (m := fun y => if y = f2 then some u2 else if y = f then some u1 else none) T KI lim Nm (two_len _ _) (fun A' hp' x t0 R' x1 x2 x3 x4 x5 x6 x7 => init2 T Y no no2 x1 x2 x3 x4 x5 x6 x7) (by have := hr.dp; omega) fun h' tk' e d M => mkp_of T I1 M (relO2 Y.nff rv rv2) q1)
theorem xfC_of (T : ErrC X.prog X.K X.mg nm qn ps bd sc C fI cc cda) : XfC X.K C := ⟨T.ga, T.gg, T.exC, T.hdC⟩
end
end FG
namespace FG
open PySem PySem.Spec L2
/-! further rules of the hand layer -/
section
variable {X : Cx}
/-- // by any divisor but 0 below 2 ^ 9000 in size -/
def CDivX (_ j : Int) : Prop := j ≠ 0 ∧ j.natAbs.log2 < 9000
theorem op_fdivX : OpR X (binaryOp .FloorDiv) (rI CDivX fun i j => .int (i.fdiv j)) := opI fun i j _ _ _ _ _ hc q => PyProof.Rows.floordiv_int hc.1 q (.inl (PyProof.noPylong_of_log2 hc.2))
end
theorem divX {i j : Int} {b : Nat} (h : j ≠ 0) (hb : j.natAbs < 2 ^ b) (h0 : 0 < b) (h9 : b ≤ 9000) : CDivX i j := ⟨h, Nat.lt_of_lt_of_le (PySem.Flt.log2_lt_of h0 hb) h9⟩
/-! ### calls that may raise, wished for at the caller's slots -/
section
variable {X : Cx} {CX : CXT} {k : Nat} {f C : Addr} {fd : FuncData} {ps : List Str} {sp : Sp} {dvs : List V} {ds : List Value} {E : L2.St → XK} {x m : Str} {p pos apos : Pos} {e o : Expr} {es : List Expr} {ta : TE} {t : TA}
/-- C(..), its __init__ may raise -/
def tMkS (C : Addr) (sp : Sp) (dvs : List V) (E : L2.St → XK) (t : TA) : TE := fun σ H Q => t σ H fun vs H1 => ∀ z dz, H1 z = none → H1 dz = none → dz ≠ z →
  sp (.ref z :: (vs ++ dvs)) (upd (upd H1 dz (.own z)) z (.ins C dz [])) (fun v H2 => v = .non ∧ Q (.ref z) H2) (E σ)
theorem mkS_run {pins : List (Addr × Obj)} {σ : L2.St} {H : Hp} {s : Shared} {Q : VK} {us : List Value} {vs : List V} (M : Mk X.K C f) (F : FnOk X.prog X.w X.K X.mg X.base CX k f fd ps sp) (hr : Room (k + 1) X.A) (hb : Binds X.K fd ps ds) (hd : Vals dvs ds)
    (hx : PassesAt CX X σ (E σ)) (I : Inv X pins σ H s) (r : Vals vs us)
    (h : ∀ z dz, H z = none → H dz = none → dz ≠ z → sp (.ref z :: (vs ++ dvs)) (upd (upd H dz (.own z)) z (.ins C dz [])) (fun v H2 => v = .non ∧ Q (.ref z) H2) (E σ)) :
    wpAny (model X.prog X.w) X.A (call (.ref C) us) (EP X pins σ Q) X.xe s := by
  have J := Inv.made (C := C) I
  have q0 := h _ _ (I.hok.fresh (Nat.le_succ s.heap.objs.size)) (I.hok.fresh (Nat.le_refl _)) (Nat.ne_of_lt (Nat.lt_succ_self _))
  have rr : Vals (V.ref (s.heap.objs.size + 1) :: (vs ++ dvs)) (Value.ref (s.heap.objs.size + 1) :: (us ++ ds)) := .cons rfl (r.append hd)
  have ln : (Value.ref (s.heap.objs.size + 1) :: us ++ ds).length = ps.length := rr.length.symm.trans (F.len _ _ _ _ q0)
  have go := F.run _ X.stack _ _ ⟨Value.ref (s.heap.objs.size + 1) :: us, []⟩ _ _ _ (E σ) (hr.make C us []) (J.env0.make C us []) (hb _ (Value.ref (s.heap.objs.size + 1) :: us) J.kIn ln) rr q0
  refine wpAny_call (make_map (f := f) I.kIn M.makes M.init (beq_iff_eq.mp M.fn) (codeAny_mono go fun res s' z => ?_))
  match res, z with
  | .error er, z => exact hx pins _ _ er s' J z
  | .ok (.ret u), z =>
    obtain ⟨v, H2, J2, rv, ev, q2⟩ := J.after z
    subst ev
    exact ⟨rv, ⟨V.ref (s.heap.objs.size + 1), H2, J2, rfl, q2⟩⟩
  | .ok .next, z => exact False.elim z
  | .ok .brk, z => exact False.elim z
  | .ok .cont, z => exact False.elim z
theorem pe_mkS (M : Mk X.K C f) (F : FnOk X.prog X.w X.K X.mg X.base CX k f fd ps sp) (hr : Room (k + 1) X.A) (hg : Gl X x) (hm : X.mg x = some (.ref C)) (hb : Binds X.K fd ps ds) (hd : Vals dvs ds) (hx : ∀ σ, PassesAt CX X σ (E σ)) (ha : PA X (e :: es) t)
    (hdb : (x == ("__debug__" : Str)) = false := by decide) (he : starEach (e :: es) X.env = (false, eval e X.env) :: starEach es X.env := by rfl) (hpl : (backTo pos (starEach es X.env)).any (·.1) = false := by rfl) :
    PE X (.Call (.Name x p) (e :: es) [] pos) (tMkS C sp dvs E t) := ⟨fun pins s σ H Q I h => wpAny_Call_Name_kw (ld_glob I hg hm (PySem.W.callWith_K (h₀ := X.base) I.ok.mod.kin M.kp (thn (ha.run pos pins s σ H _ I h) fun us s1 ⟨vs, H1, I1, r, q⟩ => ⟨I1.kIn, mkS_run M F hr hb hd (hx σ) I1 r q⟩) he hpl) hdb)⟩
/-- o.m(e, ..) that may raise -/
def tMtS (C : Addr) (m : Str) (sp : Sp) (dvs : List V) (E : L2.St → XK) (ta : TE) (t : TA) : TE := fun σ H Q => ta σ H fun y H1 => ∃ a dx fs, y = .ref a ∧ H1 a = some (.ins C dx fs) ∧ fs.lookup m = none ∧ t σ H1 fun vs H2 => sp (.ref a :: (vs ++ dvs)) H2 Q (E σ)
theorem pe_mtS {pl : Sem Bool} (he : PE X o ta) (c : Cls X.K C) (hm : Meth X.K C m f) (F : FnOk X.prog X.w X.K X.mg X.base CX k f fd ps sp) (hr : Room k X.A) (hb : Binds X.K fd ps ds) (hd : Vals dvs ds) (hx : ∀ σ, PassesAt CX X σ (E σ)) (ha : PA X (e :: es) t)
    (hst : starEach (e :: es) X.env = (false, eval e X.env) :: starEach es X.env := by rfl) (hpl : (backTo pos (starEach es X.env)).any (·.1) = false := by rfl)
    (ht : eval (.Call (.Attribute o m apos) (e :: es) [] pos) X.env = (do
      let ov ← eval o X.env
      standAt apos.atName
      let (fn, first) ← holding [ov] (getMethod ov m pl)
      callWith pos fn first (backTo pos (starEach (e :: es) X.env)) (backToKw pos (keywordEach [] X.env))) := by rfl) :
    PE X (.Call (.Attribute o m apos) (e :: es) [] pos) (tMtS C m sp dvs E ta t) := by
  refine ⟨fun pins s σ H Q I h => PySem.W.methodCall_KW (pl := pl) (thn (he.run pins s σ H _ I h) fun u s1 ⟨y, H1, I1, ry, a, dx, fs, ey, ea, l, q⟩ => ?_) ht⟩
  subst ey
  cases (show u = Value.ref a from ry)
  refine getmeth_ok I1 ea c hm l (PySem.W.callWith_K (first := [.ref a]) (h₀ := X.base) I.ok.mod.kin hm.kp (thn (ha.run pos pins s1 σ H1 _ I1 q) fun us s2 ⟨vs, H2, I2, r, q2⟩ => ⟨I2.kIn, ?_⟩) hst hpl)
  exact run_fnSD (us := .ref a :: us) (vs := .ref a :: vs) F hr hb hd (hx σ) I2 (.cons rfl r) q2
theorem pe_mt0S {pl : Sem Bool} (he : PE X o ta) (c : Cls X.K C) (hm : Meth X.K C m f) (F : FnOk X.prog X.w X.K X.mg X.base CX k f fd ps sp) (hr : Room k X.A) (hb : Binds X.K fd ps ds) (hd : Vals dvs ds) (hx : ∀ σ, PassesAt CX X σ (E σ))
    (ht : eval (.Call (.Attribute o m apos) [] [] pos) X.env = (do
      let ov ← eval o X.env
      standAt apos.atName
      let (fn, first) ← holding [ov] (getMethod ov m pl)
      callWith pos fn first (backTo pos (starEach [] X.env)) (backToKw pos (keywordEach [] X.env))) := by rfl) :
    PE X (.Call (.Attribute o m apos) [] [] pos) (tMtS C m sp dvs E ta tNil) := by
  refine ⟨fun pins s σ H Q I h => PySem.W.methodCall_KW (pl := pl) (thn (he.run pins s σ H _ I h) fun u s1 ⟨y, H1, I1, ry, a, dx, fs, ey, ea, l, q⟩ => ?_) ht⟩
  subst ey
  cases (show u = Value.ref a from ry)
  exact getmeth_ok I1 ea c hm l (PySem.W.callWith_K0 (first := [.ref a]) I1.kIn hm.kp (run_fnSD (us := [.ref a]) (vs := [.ref a]) F hr hb hd (hx σ) I1 (.cons rfl .nil) q))
end
/-! ### isinstance of the caught error -/
/-- isinstance(e, c): e the error at a that the suite holds, cls its class, d its dict -/
def rIsX (K : PySem.W.Frag) (a : Addr) (cls : Value) (d : Option Addr) : List V → Hp → VK → Prop := fun xs H Q => ∃ (c : V) (cv : Value) (D dd : Addr) (fs : List (Str × V)) (b : Bool), xs = [.ref a, c] ∧ ClsV c cv ∧ cls = .ref D ∧ ExcC K D ∧ d = some dd ∧ H dd = some (.xd fs) ∧ PySem.W.kitOne K (.ref D) cv = some b ∧ Q (.bl b) H
theorem call_isX {X : Cx} {a : Addr} {cls : Value} {d : Option Addr} {oe : Obj} {pn : List (Addr × Obj)} (hz : Zc cls d oe) (hf : ∃ vs, oe.data = .fields vs) : CallR (X.suite a ((a, oe) :: pn)) (.builtin "isinstance") (rIsX X.K a cls d) := by
  intro pins s σ H xs us Q I r h
  obtain ⟨c, cv, D, dd, fs, b, rfl, hc, rfl, C, rfl, hx, e, q⟩ := h
  obtain ⟨u1, u2, rfl, r1, r2⟩ := vals2 r
  cases (show u1 = Value.ref a from r1)
  have e2 := hc.eq r2
  subst e2
  obtain ⟨hget, _⟩ := I.pin (a, oe) (List.mem_append_left _ List.mem_cons_self)
  obtain ⟨vs, hv⟩ := hf
  obtain ⟨mA, hns, _⟩ := (show ObjOk X.prog X.w H s.heap dd (.xd fs) from I.hok dd _ hx)
  obtain ⟨od, ho, _⟩ := lookIn_ns hns
  have J : PySem.W.InstAt s.heap a oe D (some od) := ⟨hget, hz.1, by unfold PySem.W.notCls; rw [hv] <;> rfl, by rw [hz.2]; exact ho⟩
  obtain ⟨cd, hcd, _⟩ := PySem.W.any_some C.hd
  have Z : PySem.W.KitX X.K (.ref a) (.ref D) (fun h => PySem.W.InstAt h a oe D (some od)) := PySem.W.kitx_exc (by rw [hcd]; rfl) C.hg C.hk C.hs C.ha C.hn C.ht C.hm
  exact PySem.W.kia_one Z I.kIn J e (fun z => nomatch z) fun tk => ⟨.bl b, H, I.kept (t' := tk) fun _ _ z => z, rfl, q⟩
end FG
namespace FG
open PySem PySem.Spec L2
/-! ### loops, by names -/
def ForR (lo : Int) (n : Nat) (g : TG) (tb : TS) (D : Ends) (σ : L2.St) (H : Hp) : Prop := ∃ W : Nat → Nat → L2.St → Hp → Prop, (∃ m, W 0 m σ H) ∧ ∀ i m σ H, W i m σ H →
  ((Itr lo n).stop i H ∧ D.nx σ H) ∨ ((Itr lo n).go i H ∧ ∃ N : L2.St → Hp → Prop, (∀ σ' H', N σ' H' → ∃ m', m' < m ∧ W (i + 1) m' σ' H') ∧ ∀ x H', (Itr lo n).yld i H x H' → g x σ H' fun σ2 H2 => tb { D with nx := N, ct := N, bk := D.nx } σ2 H2)
def ForL (K : PySem.W.Frag) (a : Addr) (g : TG) (tb : TS) (D : Ends) (σ : L2.St) (H : Hp) : Prop := ∃ W : Nat → Nat → L2.St → Hp → Prop, (∃ m, W 0 m σ H) ∧ ∀ i m σ H, W i m σ H →
  ((Itl K a).stop i H ∧ D.nx σ H) ∨ ((Itl K a).go i H ∧ ∃ N : L2.St → Hp → Prop, (∀ σ' H', N σ' H' → ∃ m', m' < m ∧ W (i + 1) m' σ' H') ∧ ∀ x H', (Itl K a).yld i H x H' → g x σ H' fun σ2 H2 => tb { D with nx := N, ct := N, bk := D.nx } σ2 H2)
section
variable {K : PySem.W.Frag} {σ : L2.St} {H : Hp} {D : Ends} {g : TG} {tb : TS} {tar : TA} {tl : TE}
theorem w_forR1 (k : tar σ H fun vs H1 => ∃ j : Int, vs = [.int j] ∧ -(2 ^ 62) ≤ j ∧ j < 2 ^ 62 ∧ ForR 0 j.toNat g tb D σ H1) : tFor (iRng1 tar) g tb D σ H := k
theorem w_forR2 (k : tar σ H fun vs H1 => ∃ i j : Int, vs = [.int i, .int j] ∧ (-(2 ^ 62) ≤ i ∧ i < 2 ^ 62 ∧ -(2 ^ 62) ≤ j ∧ j < 2 ^ 62) ∧ ForR i (j - i).toNat g tb D σ H1) : tFor (iRng2 tar) g tb D σ H := k
theorem w_forL (k : tl σ H fun x H1 => ∃ a, x = .ref a ∧ (∃ xs, SqL K H1 a xs) ∧ ForL K a g tb D σ H1) : tFor (iList K tl) g tb D σ H := k
/-- the turns of a range, by what holds between them -/
theorem turnsR {lo : Int} {n : Nat} (Pv : Nat → L2.St → Hp → Prop) (h0 : Pv 0 σ H) (hs : ∀ (i : Nat) σ H, i < n → Pv i σ H → g (.int (lo + i)) σ H fun σ2 H2 => tb { D with nx := Pv (i + 1), ct := Pv (i + 1), bk := D.nx } σ2 H2) (hd : ∀ σ H, Pv n σ H → D.nx σ H) : ForR lo n g tb D σ H := for_range Pv h0 hs hd
theorem turnsL {a : Addr} {xs : List V} (Pv : Nat → L2.St → Hp → Prop) (h0 : Pv 0 σ H) (hl : ∀ i σ H, i ≤ xs.length → Pv i σ H → SqL K H a xs) (hs : ∀ (i : Nat) x σ H, xs[i]? = some x → Pv i σ H → g x σ H fun σ2 H2 => tb { D with nx := Pv (i + 1), ct := Pv (i + 1), bk := D.nx } σ2 H2) (hd : ∀ σ H, Pv xs.length σ H → D.nx σ H) : ForL K a g tb D σ H := for_list Pv h0 hl hs hd
end
/-! ### readings of built-ins by names -/
def rAbs : List V → Hp → VK → Prop := fun xs H Q => ∃ i, xs = [.int i] ∧ Q (.int (if i < 0 then -i else i)) H
def rInt1 : List V → Hp → VK → Prop := fun xs H Q => (∃ i, xs = [.int i] ∧ Q (.int i) H) ∨ ∃ k, xs = [.bl k] ∧ Q (.int (if k then 1 else 0)) H
def rLenQ (K : PySem.W.Frag) : List V → Hp → VK → Prop := fun xs H Q => ∃ p ys, xs = [.ref p] ∧ (SqL K H p ys ∨ SqT K H p ys) ∧ Q (.int ys.length) H
def rLenX : List V → Hp → VK → Prop := fun xs H Q => ∃ z : Str, xs = [.str z] ∧ z.length ≤ sizeLine ∧ Q (.int z.length) H
def rListQ (K : PySem.W.Frag) : List V → Hp → VK → Prop := fun xs H Q => ∃ p ys, xs = [.ref p] ∧ (SqL K H p ys ∨ SqT K H p ys) ∧ ∀ l, H l = none → Q (.ref l) (upd H l (.lst ys))
def rMin2 : List V → Hp → VK → Prop := fun xs H Q => ∃ i j, xs = [.int i, .int j] ∧ Q (.int (if j < i then j else i)) H
def rMax2 : List V → Hp → VK → Prop := fun xs H Q => ∃ i j, xs = [.int i, .int j] ∧ Q (.int (if j > i then j else i)) H
def rIsNo : R2 := fun x y H Q => y = .non ∧ Q (.bl (decide (x = .non))) H
def rNotNo : R2 := fun x y H Q => y = .non ∧ Q (.bl (!decide (x = .non))) H
def rAddStr : R2 := fun x y H Q => ∃ i j : Str, x = .str i ∧ y = .str j ∧ i.length + j.length ≤ sizeLine ∧ Q (.str (i ++ j)) H
def rStrI : List V → Hp → VK → Prop := fun xs H Q => ∃ i : Int, xs = [.int i] ∧ i.natAbs.log2 < 1920 ∧ Q (.str (toString i)) H
def rIntS : List V → Hp → VK → Prop := fun xs H Q => ∃ (a : Str) (n : Int), xs = [.str a] ∧ PySem.intText? a = some n ∧ a.length ≤ 640 ∧ Q (.int n) H
section
variable {X : Cx}
theorem qc_abs : CallR X (.builtin "abs") rAbs := call_abs
theorem qc_int1 : CallR X (.type "int") rInt1 := call_int1
theorem qc_len : CallR X (.builtin "len") (rLenQ X.K) := call_len_seq
theorem qc_lenX : CallR X (.builtin "len") rLenX := call_len_str
theorem qc_list : CallR X (.type "list") (rListQ X.K) := call_list_of
theorem qc_min2 (hc : X.calm = true) : CallR X (.builtin "min") rMin2 := call_min2 hc
theorem qc_max2 (hc : X.calm = true) : CallR X (.builtin "max") rMax2 := call_max2 hc
theorem qo_isN : OpR X (compareOp .Is) rIsNo := op_isN
theorem qo_notN : OpR X (compareOp .IsNot) rNotNo := op_notN
theorem qo_addS : OpR X (binaryOp .Add) rAddStr := op_add_str
theorem qc_strI : CallR X (.type "str") rStrI := call_str_int
theorem qc_intS : CallR X (.type "int") rIntS := call_int_str
end
/-! ### stepping through a reading: one lemma a construct -/
section
variable {K : PySem.W.Frag} {σ σ' : L2.St} {H : Hp} {Q : VK} {D : Ends} {ta tb te tc : TE} {tt tu : TT} {t u : TS} {tar : TA} {v x y : V} {i : Nat} {g : TG} {r r' : R2} {QB : Bool → Hp → Prop} {QA : List V → Hp → Prop} {QS : L2.St → Hp → Prop}
theorem w_var (h : σ[i]? = some (some v)) (k : Q v H) : tVar i σ H Q := ⟨v, h, k⟩
theorem w_c (k : Q v H) : tC v σ H Q := k
theorem w_op (k : ta σ H fun x H1 => tb σ H1 fun y H2 => r x y H2 Q) : tOp r ta tb σ H Q := k
theorem w_un {r1 : V → Hp → VK → Prop} (k : ta σ H fun x H1 => r1 x H1 Q) : tUn r1 ta σ H Q := k
theorem w_U {g : Int → V} {i : Int} (k : Q (g i) H) : rU g (.int i) H Q := ⟨i, rfl, k⟩
theorem w_I0 {g : Int → Int → V} {i j : Int} (k : Q (g i j) H) : rI0 g (.int i) (.int j) H Q := ⟨i, j, rfl, rfl, k⟩
theorem w_I {C : Int → Int → Prop} {g : Int → Int → V} {i j : Int} (c : C i j) (k : Q (g i j) H) : rI C g (.int i) (.int j) H Q := ⟨i, j, rfl, rfl, c, k⟩
theorem w_eq (c : scal x y = true) (k : Q (.bl (decide (x = y))) H) : rEq x y H Q := ⟨c, k⟩
theorem w_ne (c : scal x y = true) (k : Q (.bl (!decide (x = y))) H) : rNe x y H Q := ⟨c, k⟩
theorem w_test (k : te σ H fun z H1 => ∃ b, z = .bl b ∧ QB b H1) : tTest te σ H QB := k
theorem w_tB (k : te σ H fun z H1 => ∃ b, z = .bl b ∧ QB b H1) : tB te σ H QB := k
theorem w_bl {b : Bool} (k : QB b H) : ∃ b', V.bl b = .bl b' ∧ QB b' H := ⟨b, rfl, k⟩
theorem w_blE {b : Bool} {P : Bool → Prop} (k : P b) : ∃ b', V.bl b = .bl b' ∧ P b' := ⟨b, rfl, k⟩
theorem w_and (k : tt σ H fun c H1 => if c = true then tu σ H1 QB else QB false H1) : tAnd tt tu σ H QB := k
theorem w_or (k : tt σ H fun c H1 => if c = true then QB true H1 else tu σ H1 QB) : tOr tt tu σ H QB := k
theorem w_not (k : tt σ H fun c H1 => QB (!c) H1) : tNot tt σ H QB := k
theorem w_andV (k : ta σ H fun x H1 => ∃ c, x = .bl c ∧ if c = true then tb σ H1 Q else Q (.bl false) H1) : tAndV ta tb σ H Q := k
theorem w_orV (k : ta σ H fun x H1 => ∃ c, x = .bl c ∧ if c = true then Q (.bl true) H1 else tb σ H1 Q) : tOrV ta tb σ H Q := k
theorem w_notV (k : ta σ H fun x H1 => ∃ c, x = .bl c ∧ Q (.bl (!c)) H1) : tNotV ta σ H Q := k
theorem w_if (k : tt σ H fun c H1 => if c = true then ta σ H1 Q else tb σ H1 Q) : tIf tt ta tb σ H Q := k
theorem w_nil (k : QA [] H) : tNil σ H QA := k
theorem w_cons (k : ta σ H fun x H1 => tar σ H1 fun xs H2 => QA (x :: xs) H2) : tCons ta tar σ H QA := k
theorem w_tup (k : tar σ H fun xs H1 => xs.length ≤ sizeLine ∧ ∀ p, H1 p = none → Q (.ref p) (upd H1 p (.tup xs))) : tTup tar σ H Q := k
theorem w_lst (k : tar σ H fun xs H1 => xs.length ≤ sizeLine ∧ ∀ p, H1 p = none → Q (.ref p) (upd H1 p (.lst xs))) : tLst tar σ H Q := k
theorem w_cb {r : List V → Hp → VK → Prop} (k : tar σ H fun vs H1 => r vs H1 Q) : tCB r tar σ H Q := k
theorem w_call {sp : Sp} {dvs : List V} {E : XK} (k : tar σ H fun vs H1 => sp (vs ++ dvs) H1 Q E) : tCall sp dvs E tar σ H Q := k
theorem w_callSD {sp : Sp} {dvs : List V} {E : L2.St → XK} (k : tar σ H fun vs H1 => sp (vs ++ dvs) H1 Q (E σ)) : tCallSD sp dvs E tar σ H Q := k
theorem w_callS {sp : Sp} {E : L2.St → XK} (k : tar σ H fun vs H1 => sp vs H1 Q (E σ)) : tCallS sp E tar σ H Q := k
theorem w_meth {C : Addr} {m : Str} {sp : Sp} {dvs : List V} {E : XK} (k : ta σ H fun x H1 => ∃ a dx fs, x = .ref a ∧ H1 a = some (.ins C dx fs) ∧ fs.lookup m = none ∧ tar σ H1 fun vs H2 => sp (x :: (vs ++ dvs)) H2 Q E) : tMeth C m sp dvs E ta tar σ H Q := k
theorem w_chain (k : ta σ H fun x H1 => tb σ H1 fun y H2 => r x y H2 fun z H3 => ∃ k, z = .bl k ∧ (if k = true then tc σ H3 fun w' H4 => r' y w' H4 Q else Q (.bl false) H3)) : tChain r r' ta tb tc σ H Q := k
/-- statements -/
theorem w_seq (k : t { D with nx := u D } σ H) : tSeq t u D σ H := k
theorem w_next (k : D.nx σ H) : tNext D σ H := k
theorem w_drop (k : te σ H fun _ H1 => D.nx σ H1) : tDrop te D σ H := k
theorem w_ret (k : te σ H D.rt) : tRet te D σ H := k
theorem w_retN (k : D.rt .non H) : tRetN D σ H := k
theorem w_ifs (k : tt σ H fun b H1 => if b = true then t D σ H1 else u D σ H1) : tIfS tt t u D σ H := k
theorem w_asg (k : te σ H fun x H1 => g x σ H1 D.nx) : tAsg te g D σ H := k
theorem w_gname (e : σ.set i (some v) = σ') (k : QS σ' H) : gName i v σ H QS := by
  subst e
  exact k
theorem w_par {j : Nat} (k : tar σ H fun vs H1 => ∃ v w, vs = [v, w] ∧ D.nx ((σ.set i (some v)).set j (some w)) H1) : tPar i j tar D σ H := k
theorem w_ix {p : Addr} {xs : List V} {i : Int} (h : SqL K H p xs) (e : atI xs i = some v) (k : Q v H) : rIxL K (.ref p) (.int i) H Q := ⟨p, xs, i, v, rfl, rfl, h, e, k⟩
theorem w_ixT {p : Addr} {xs : List V} {i : Int} (h : SqT K H p xs) (e : atI xs i = some v) (k : Q v H) : rIxT K (.ref p) (.int i) H Q := ⟨p, xs, i, v, rfl, rfl, h, e, k⟩
theorem w_gsub {to ti : TE} {s : TSet} (k : to σ H fun o H1 => ti σ H1 fun i H2 => s o i v H2 fun H3 => QS σ H3) : gSub to ti s v σ H QS := k
theorem w_setL {p : Addr} {xs : List V} {k : Int} {j : Nat} {P : Hp → Prop} (h : H p = some (.lst xs)) (e : ixN xs.length k = some j) (q : P (upd H p (.lst (xs.set j v)))) : rSetL (.ref p) (.int k) v H P := ⟨p, xs, k, j, rfl, rfl, h, e, q⟩
theorem w_fld {f : Str} (k : ta σ H fun x H1 => ∃ a C dx fs v, x = .ref a ∧ H1 a = some (.ins C dx fs) ∧ Cls K C ∧ NoAttr K C f ∧ fs.lookup f = some v ∧ Q v H1) : tFld K ta f σ H Q := k
theorem w_sfld {f : Str} (k : tb σ H fun y H1 => ta σ H1 fun x H2 => ∃ a C dx fs, x = .ref a ∧ H2 a = some (.ins C dx fs) ∧ Cls K C ∧ NoAttr K C f ∧ fs.length < 1000 ∧ D.nx σ (upd H2 a (.ins C dx (putF f y fs)))) : sFld K ta tb f D σ H := k
theorem w_sl {r : V → Option Int → Option Int → Hp → VK → Prop} {tl th : TO} (k : te σ H fun x H1 => tl σ H1 fun l H2 => th σ H2 fun u H3 => r x l u H3 Q) : tSl r te tl th σ H Q := k
theorem w_nopart {QO : Option Int → Hp → Prop} (k : QO none H) : tNoPart σ H QO := k
theorem w_part {QO : Option Int → Hp → Prop} (k : te σ H fun x H1 => ∃ i, x = .int i ∧ QO (some i) H1) : tPart te σ H QO := k
theorem w_exI {P : Int → Prop} {i : Int} (k : P i) : ∃ i', V.int i = .int i' ∧ P i' := ⟨i, rfl, k⟩
theorem w_exR {P : Addr → Prop} {p : Addr} (k : P p) : ∃ a, V.ref p = .ref a ∧ P a := ⟨p, rfl, k⟩
theorem w_slL {p : Addr} {xs : List V} {lo hi : Option Int} (h : SqL K H p xs) (k : ∀ q, H q = none → Q (.ref q) (upd H q (.lst (cutV xs lo hi)))) : rSlL K (.ref p) lo hi H Q := ⟨p, xs, rfl, h, k⟩
theorem w_mks {C : Addr} {sp : Sp} {dvs : List V} {E : L2.St → XK} (k : tar σ H fun vs H1 => ∀ z dz, H1 z = none → H1 dz = none → dz ≠ z → sp (.ref z :: (vs ++ dvs)) (upd (upd H1 dz (.own z)) z (.ins C dz [])) (fun v H2 => v = .non ∧ Q (.ref z) H2) (E σ)) : tMkS C sp dvs E tar σ H Q := k
theorem w_abs {i : Int} (k : Q (.int (if i < 0 then -i else i)) H) : rAbs [.int i] H Q := ⟨i, rfl, k⟩
theorem w_int1 {i : Int} (k : Q (.int i) H) : rInt1 [.int i] H Q := .inl ⟨i, rfl, k⟩
theorem w_isi {c : V} {t' u' : Value} {b : Bool} (h1 : ClsV c u') (h2 : TyX K H x t') (h3 : PySem.W.kitOne K t' u' = some b) (k : Q (.bl b) H) : rIsi K [x, c] H Q := ⟨x, c, t', u', b, rfl, h1, h2, h3, k⟩
theorem w_lenS {p : Addr} {xs : List V} (h : SqL K H p xs) (k : Q (.int xs.length) H) : rLenQ K [.ref p] H Q := ⟨p, xs, rfl, .inl h, k⟩
theorem w_lenT {p : Addr} {xs : List V} (h : SqT K H p xs) (k : Q (.int xs.length) H) : rLenQ K [.ref p] H Q := ⟨p, xs, rfl, .inr h, k⟩
theorem w_lenX {z : Str} (h : z.length ≤ sizeLine) (k : Q (.int z.length) H) : rLenX [.str z] H Q := ⟨z, rfl, h, k⟩
theorem w_listS {p : Addr} {xs : List V} (h : SqL K H p xs) (k : ∀ l, H l = none → Q (.ref l) (upd H l (.lst xs))) : rListQ K [.ref p] H Q := ⟨p, xs, rfl, .inl h, k⟩
theorem w_min2 {i j : Int} (k : Q (.int (if j < i then j else i)) H) : rMin2 [.int i, .int j] H Q := ⟨i, j, rfl, k⟩
theorem w_max2 {i j : Int} (k : Q (.int (if j > i then j else i)) H) : rMax2 [.int i, .int j] H Q := ⟨i, j, rfl, k⟩
theorem w_isN (k : Q (.bl (decide (x = .non))) H) : rIsNo x .non H Q := ⟨rfl, k⟩
theorem w_notN (k : Q (.bl (!decide (x = .non))) H) : rNotNo x .non H Q := ⟨rfl, k⟩
theorem w_addS {i j : Str} (h : i.length + j.length ≤ sizeLine) (k : Q (.str (i ++ j)) H) : rAddStr (.str i) (.str j) H Q := ⟨i, j, rfl, rfl, h, k⟩
theorem w_strI {i : Int} (h : i.natAbs.log2 < 1920) (k : Q (.str (toString i)) H) : rStrI [.int i] H Q := ⟨i, rfl, h, k⟩
theorem w_intS {z : Str} {n : Int} (h : PySem.intText? z = some n) (h2 : z.length ≤ 640) (k : Q (.int n) H) : rIntS [.str z] H Q := ⟨z, n, rfl, h, h2, k⟩
end
/-- raise, by a name -/
def tRs (W : WX) (t : L2.St → Hp → XK → Prop) : TS := fun _ σ H => t σ H fun cls d H' => W cls d σ H'
theorem ps_rs {X : Cx} {W : WX} {e : Expr} {t : L2.St → Hp → XK → Prop} {pos : Pos} (hc : X.calm = true) (tk : Takes X W) (he : PMk X e t) : PS X (.Raise (some e) none pos) (tRs W t) := ps_raise hc tk he
section
variable {σ : L2.St} {H : Hp} {D : Ends} {W : WX} {t : L2.St → Hp → XK → Prop} {QX : XK} {ta tb : TE} {C : Addr} {f f2 : Str}
theorem w_rs (k : t σ H fun cls d H' => W cls d σ H') : tRs W t D σ H := k
theorem w_mk1 (k : ta σ H fun x H1 => ∃ v, [x] = [v] ∧ ∀ d, H1 d = none → QX (.ref C) (some d) (upd H1 d (.xd [(f, v)]))) : tMk1 C f (tCons ta tNil) σ H QX := k
theorem w_mk2 (k : ta σ H fun x H1 => tb σ H1 fun y H2 => ∃ v v2, [x, y] = [v, v2] ∧ ∀ d, H2 d = none → QX (.ref C) (some d) (upd H2 d (.xd [(f, v), (f2, v2)]))) : tMk2 C f f2 (tCons ta (tCons tb tNil)) σ H QX := k
theorem w_one {x : V} {P : V → Prop} (k : P x) : ∃ v, [x] = [v] ∧ P v := ⟨x, rfl, k⟩
theorem w_two {x y : V} {P : V → V → Prop} (k : P x y) : ∃ v v2, [x, y] = [v, v2] ∧ P v v2 := ⟨x, y, rfl, k⟩
end
theorem it_pos {c A B : Prop} [Decidable c] (hc : c) (h : A) : if decide c = true then A else B := by
  rw [decide_eq_true hc]
  exact iteT h
theorem it_neg {c A B : Prop} [Decidable c] (hc : ¬ c) (h : B) : if decide c = true then A else B := by
  rw [decide_eq_false hc]
  exact iteF h
theorem it_dec {c A B : Prop} [Decidable c] (h1 : c → A) (h2 : ¬ c → B) : if decide c = true then A else B := by
  by_cases h : c
  · exact it_pos h (h1 h)
  · exact it_neg h (h2 h)
theorem it_npos {c A B : Prop} [Decidable c] (hc : c) (h : B) : if (!decide c) = true then A else B := by
  rw [decide_eq_true hc]
  exact iteF h
theorem it_nneg {c A B : Prop} [Decidable c] (hc : ¬ c) (h : A) : if (!decide c) = true then A else B := by
  rw [decide_eq_false hc]
  exact iteT h
theorem it_ndec {c A B : Prop} [Decidable c] (h1 : c → B) (h2 : ¬ c → A) : if (!decide c) = true then A else B := by
  by_cases h : c
  · exact it_npos h (h1 h)
  · exact it_nneg h (h2 h)
theorem iteNT {A B : Prop} (h : B) : if (!true) = true then A else B := iteF h
theorem iteNF {A B : Prop} (h : A) : if (!false) = true then A else B := iteT h
theorem it_b {b : Bool} {A B : Prop} (h1 : b = true → A) (h2 : b = false → B) : if b = true then A else B := by
  cases b
  · exact iteF (h2 rfl)
  · exact iteT (h1 rfl)
/-- heaps -/
theorem upd_old {H : Hp} {a p : Addr} {o u : HO} (h : H a = some o) (n : H p = none) : upd H p u a = some o := by
  rw [upd_ne (ne_of_none h n)]
  exact h
theorem Same.upd {H H' : Hp} {p : Addr} {o : HO} (s : Same H H') (n : H p = none) : Same H (upd H' p o) := fun b u e => by
  rw [upd_ne (ne_of_none e n)]
  exact s b u e
theorem Same.new {H : Hp} {p : Addr} {o : HO} (n : H p = none) : Same H (L2.upd H p o) := fun b u e => upd_old e n
theorem Same.fld {H H' : Hp} (s : Same H H') {p : Addr} (n : H' p = none) : H p = none := s.free n
/-- promises of defs of one to four parameters -/
def sp1 (f : V → Hp → VK → XK → Prop) : Sp := fun vs H Q E => ∃ x, vs = [x] ∧ f x H Q E
def sp2 (f : V → V → Hp → VK → XK → Prop) : Sp := fun vs H Q E => ∃ x y, vs = [x, y] ∧ f x y H Q E
def sp3 (f : V → V → V → Hp → VK → XK → Prop) : Sp := fun vs H Q E => ∃ x y z, vs = [x, y, z] ∧ f x y z H Q E
def sp4 (f : V → V → V → V → Hp → VK → XK → Prop) : Sp := fun vs H Q E => ∃ x y z w, vs = [x, y, z, w] ∧ f x y z w H Q E
theorem sp1_len {f} {vs H Q E} (h : sp1 f vs H Q E) : vs.length = 1 := by obtain ⟨_, rfl, _⟩ := h; rfl
theorem sp2_len {f} {vs H Q E} (h : sp2 f vs H Q E) : vs.length = 2 := by obtain ⟨_, _, rfl, _⟩ := h; rfl
theorem sp3_len {f} {vs H Q E} (h : sp3 f vs H Q E) : vs.length = 3 := by obtain ⟨_, _, _, rfl, _⟩ := h; rfl
theorem sp4_len {f} {vs H Q E} (h : sp4 f vs H Q E) : vs.length = 4 := by obtain ⟨_, _, _, _, rfl, _⟩ := h; rfl
end FG
namespace FG
open PySem PySem.Spec L2
/-- what a class must say so that isinstance asks its instances -/
structure InsC (K : PySem.W.Frag) (C : Addr) : Prop where
  ha : PySem.W.findIn K (.ref C) "__class__" = some (some (.builtin "object.__class__"))
  hn : PySem.W.specialIn K (.builtin "object.__class__") "__get__" = some (some (.builtin "getset_descriptor.__get__"))
  htk : PySem.W.takesIn K (.builtin "object.__class__") = some true
  hm : PySem.W.mroIn K C (.type "object") = some true
theorem ty_ins {K : PySem.W.Frag} {H : Hp} {a C dx : Addr} {fs : List (Str × V)} (e : H a = some (.ins C dx fs)) (c : Cls K C) (I : InsC K C) : TyX K H (.ref a) (.ref C) := .base (.ins e c I.ha I.hn I.htk I.hm)
theorem kit_self {K : PySem.W.Frag} {C : Addr} : PySem.W.kitOne K (.ref C) (.ref C) = some true := by
  unfold PySem.W.kitOne
  rw [if_pos (by simp)]
/-- the arguments of a def with defaults -/
theorem bindsD {K : PySem.W.Frag} {x qual : Str} {params : Arguments} {body : List Stmt} {scope : Scope} {tp f : Addr} {oc kV doc pm cd ct tc : Value} {an od td : Option Addr} {osl ts : Array (Option Value)} {its ds : List Value} {tn : Nat} {ps : List Str}
    (_l : K.lookup f = some ⟨oc, od, .func (PySem.W.fnOf x qual params body scope (.ref tp) kV doc pm an cd ct), osl⟩) (t : K.lookup tp = some ⟨tc, td, .seq its.toArray tn, ts⟩)
    (h : ∀ us : List Value, us.length + ds.length = ps.length → ∃ k, bindArgs (PySem.W.fnOf x qual params body scope (.ref tp) kV doc pm an cd ct) ⟨us, []⟩ = seqItems? (.ref tp) >>= k ∧ k (some its.toArray) = pure (ps.zip (us ++ ds))) :
    Binds K (PySem.W.fnOf x qual params body scope (.ref tp) kV doc pm an cd ct) ps ds := by
  intro s us X hl
  rw [List.length_append] at hl
  obtain ⟨k, e1, e2⟩ := h us hl
  refine BindsTo.of_looks fun M => ?_
  rw [e1]
  exact looks_items X t rfl (.of_pure e2)
/-- an item at a drawn place -/
theorem atI_mem {α : Type} {xs : List α} {r : Int} (h0 : 0 ≤ r) (h1 : r < xs.length) : ∃ v, atI xs r = some v ∧ v ∈ xs := by
  obtain ⟨j, rfl⟩ := Int.eq_ofNat_of_zero_le h0
  have hj : j < xs.length := Int.ofNat_lt.mp h1
  exact ⟨xs[j], atI_nat (List.getElem?_eq_getElem hj), List.getElem_mem hj⟩
theorem keep_of {H H' : Hp} {b c : Addr} {o : HO} (fr : ∀ c, c ≠ b → H' c = H c) (h : H c = some o) (n : c ≠ b) : H' c = some o := (fr c n).trans h
theorem small_mul {i j : Int} (hi : i.natAbs < 2 ^ 1000) (hj : j.natAbs < 2 ^ 1000) : CMulW i j := wide_mul hi hj (by decide) (by decide) (by decide)
theorem small_le {i : Int} {n : Nat} (h : i.natAbs < 2 ^ n) (hn : n ≤ 8000) : i.natAbs < 2 ^ 8000 := Nat.lt_of_lt_of_le h (Nat.pow_le_pow_right (by decide) hn)
theorem mul_small {i j : Int} (hi : i.natAbs < 2 ^ 1000) (hj : j.natAbs < 2 ^ 1000) : (i * j).natAbs < 2 ^ 8000 := small_le (wide_lt hi hj) (by decide)
end FG
namespace FG
open PySem PySem.W PySem.Calls
/-! operators of an own class: a + b, a + n, n + a, -a, abs(a) -/
section
variable {prog : Program} {w : World} {M : Model} {A : Around} {E : Value → Shared → Prop} {hp : Heap} {g : Array GenState} {d : Drawn} {tk : Nat} {os : OsState} {x C dx : Addr} {i : Int} {t : Tok} {P : PySem.Fin → Shared → Prop}
theorem decl_add (hx : hp.get? x = some (instObj C dx)) (hq : P (.done (.ret .notImplemented)) ⟨hp, g, d, tk, os⟩) : wpAny M A (Builtin.«int.__add__» ⟨[.int i t, .ref x], []⟩) P E ⟨hp, g, d, tk, os⟩ := by
  wp_walk
  exact hq
theorem decl_sub (hx : hp.get? x = some (instObj C dx)) (hq : P (.done (.ret .notImplemented)) ⟨hp, g, d, tk, os⟩) : wpAny M A (Builtin.«int.__sub__» ⟨[.int i t, .ref x], []⟩) P E ⟨hp, g, d, tk, os⟩ := by
  wp_walk
  exact hq
theorem decl_mul (hx : hp.get? x = some (instObj C dx)) (hq : P (.done (.ret .notImplemented)) ⟨hp, g, d, tk, os⟩) : wpAny M A (Builtin.«int.__mul__» ⟨[.int i t, .ref x], []⟩) P E ⟨hp, g, d, tk, os⟩ := by
  wp_walk
  exact hq
end
/-- what the written part says of a class's operator nm: the method at f, the turned one at r -/
structure OpC (K : Frag) (C : Addr) (nm : String) (f r : Addr) : Prop where
  hc : selfFirst K C = true
  hs : findIn K (.ref C) (PySem.dunder nm) = some (some (.ref f))
  hf : isFn K (.ref f) = true
  hr : findIn K (.ref C) (dunderR nm) = some (some (.ref r))
  hrf : isFn K (.ref r) = true
  h1 : ∃ fo, findIn K (.type "int") (PySem.dunder nm) = some fo
  h2 : ∃ ro, findIn K (.type "int") (dunderR nm) = some ro
  hsub : subIn K (.type "int") (.ref C) = some false
  hsubR : subIn K (.ref C) (.type "int") = some false
section
variable {prog : Program} {w : World} {A : Around} {E : Value → Shared → Prop} {K : Frag} {x C f r : Addr} {ox : Obj} {od : Option Obj} {i : Int} {t : Tok}
/-- n op a: the int declines, the turned method answers -/
theorem bin_intL {s : Shared} {op : Operator} {Q : Value → Shared → Prop} (X : K.In s.heap) (I : InstAt s.heap x ox C od) (O : OpC K C op.info.2 f r) (fi : fillsNumberSlot (.type "int") op.info.2 = pure true)
    (left : ∀ {Q' : Option Value → Shared → Prop}, Q' none s → wpAny (model prog w) A (tryMethod (.int i t) (PySem.dunder op.info.2) (.ref x)) Q' E s)
    (h : wpAny (model prog w) A (call (.ref r) [.ref x, .int i t]) (CmpBack Q) E s) : wpAny (model prog w) A (binaryOp op (.int i t) (.ref x)) Q E s := by
  obtain ⟨cd, rest, hcd, hm⟩ := ksp_first O.hc
  have hs := O.hs
  have hrr := O.hr
  rcases hi : op.info with ⟨sym, nm'⟩
  rw [hi] at hs hrr fi left
  dsimp only at hs hrr fi left
  have one := ksp_try X I hrr O.hrf h
  obtain ⟨hh, g, d, tt, os⟩ := s
  have L1 : Looks (model prog w) hh (typeOf (.int i t)) (.type "int") := Looks.of_pure rfl
  have L2 : Looks (model prog w) hh (typeOf (.ref x)) (.ref C) := I.type
  have L3 : Looks (model prog w) hh (fillsNumberSlot (.type "int") nm') true := Looks.of_pure fi
  have L4 : Looks (model prog w) hh (fillsNumberSlot (.ref C) nm') true := fills_K X hcd hm hs
  have L5 : Looks (model prog w) hh (isSubtype (.ref C) (.type "int")) false := looks_subIn X O.hsubR
  have L6 : Looks (model prog w) hh (numberSlotInPython (.type "int") nm') false := Looks.of_pure rfl
  have hne : (Value.type "int" == Value.ref C) = false := Bool.eq_false_iff.mpr fun q => by cases beq_iff_eq.mp q
  simp only [binaryOp, hi]
  refine wpAny_holding (wpAny_bind ?_)
  unfold binaryOp1
  refine wpAny_bind (L1.at (wpAny_bind (L2.at (wpAny_bind (L3.at ?_)))))
  simp only [hne, Bool.false_eq_true, if_false]
  refine wpAny_bind (L4.at ?_)
  simp only [Bool.and_self, if_true]
  refine wpAny_bind (L5.at ?_)
  simp only [Bool.false_eq_true, if_false, Bool.not_false, Bool.and_self, if_true]
  refine wpAny_bind (L6.at ?_)
  simp only [Bool.false_eq_true, if_false, if_true]
  refine wpAny_bind (left ?_)
  simp only [Bool.false_eq_true, if_false, if_true, Bool.and_self, Bool.not_false]
  refine wpAny_bind (wpAny_mono one (fun rv s' hr' => ?_) fun _ _ e => e)
  obtain ⟨v, rfl, hq⟩ := hr'
  exact wpAny_bind (wpAny_rule (wpAny_pure (wpAny_pure hq)))
end
end FG
namespace FG
open PySem PySem.Spec L2
theorem back_of {X : Cx} {pins : List (Addr × Obj)} {σ : L2.St} {Q : VK} {v : Value} {s : Shared} (h : EP X pins σ Q v s) : PySem.W.CmpBack (EP X pins σ Q) v s := by
  obtain ⟨y, H, I, r, q⟩ := id h
  cases v with
  | notImplemented =>
    exfalso
    cases y <;> first | exact nomatch (show Value.notImplemented = _ from r) | (obtain ⟨_, z⟩ := (show ∃ t, Value.notImplemented = _ from r); exact nomatch z)
  | _ => exact h
section
variable {X : Cx} {k : Nat} {C f r : Addr} {fd : FuncData} {ps : List Str} {sp : Sp} {op : Operator}
/-- a op y, a of the class C, y of the same class or an int -/
def rOwnB (C : Addr) (sp : Sp) : R2 := fun x y H Q => ∃ a dx fs, x = .ref a ∧ H a = some (.ins C dx fs) ∧ ((∃ i, y = .int i) ∨ ∃ b dy gs, y = .ref b ∧ H b = some (.ins C dy gs)) ∧ sp [.ref a, y] H Q E0
theorem op_ownB (O : OpC X.K C op.info.2 f r) (F : FnOk X.prog X.w X.K X.mg X.base CX0 k f fd ps sp) (hr : Room k X.A) (hb : Binds X.K fd ps []) : OpR X (binaryOp op) (rOwnB C sp) := by
  intro pins s σ H x y v u Q I rx ry h
  obtain ⟨a, dx, fs, rfl, ea, hy, q⟩ := h
  cases (show v = Value.ref a from rx)
  obtain ⟨mA, Ob, _⟩ := ins_get I.hok ea
  obtain ⟨od, J, _⟩ := Ob.look
  obtain ⟨m, fr⟩ := I.fr
  have go := wpAny_mono (run_fn (us := [.ref a, u]) (vs := [.ref a, y]) F hr hb .nil pass0 I (.cons rfl (.cons ry .nil)) q) (fun _ _ z => back_of z) fun _ _ z => z
  rcases hy with ⟨i, rfl⟩ | ⟨b, dy, gs, rfl, eb⟩
  · obtain ⟨t, rfl⟩ := ry
    obtain ⟨fo, h1⟩ := O.h1
    obtain ⟨ro, h2⟩ := O.h2
    exact PySem.W.ksp_binT fr I.ok.mod.kin J rfl O.hc O.hs O.hf O.hr (.inr ⟨_, rfl⟩) h1 h2 O.hsub go
  · cases (show u = Value.ref b from ry)
    obtain ⟨mB, Ob', _⟩ := ins_get I.hok eb
    obtain ⟨od', J', _⟩ := Ob'.look
    exact PySem.W.binop_K fr I.ok.mod.kin J J'.type O.hc O.hs O.hf go
/-- n op a -/
def rOwnR (C : Addr) (sp : Sp) : R2 := fun x y H Q => ∃ a dx fs i, x = .int i ∧ y = .ref a ∧ H a = some (.ins C dx fs) ∧ sp [.ref a, .int i] H Q E0
theorem op_ownR (O : OpC X.K C op.info.2 f r) (F : FnOk X.prog X.w X.K X.mg X.base CX0 k r fd ps sp) (hr : Room k X.A) (hb : Binds X.K fd ps []) (fi : fillsNumberSlot (.type "int") op.info.2 = pure true)
    (left : ∀ {x dx : Addr} {i : Int} {t : Tok} {s : Shared} {E : Value → Shared → Prop} {Q' : Option Value → Shared → Prop}, s.heap.get? x = some (PySem.W.instObj C dx) → Q' none s → wpAny (model X.prog X.w) X.A (tryMethod (.int i t) (PySem.dunder op.info.2) (.ref x)) Q' E s) :
    OpR X (binaryOp op) (rOwnR C sp) := by
  intro pins s σ H x y v u Q I rx ry h
  obtain ⟨a, dx, fs, i, rfl, rfl, ea, q⟩ := h
  cases (show u = Value.ref a from ry)
  obtain ⟨t, rfl⟩ := rx
  obtain ⟨_, _, _, eo, _⟩ := (show ObjOk X.prog X.w H s.heap a (.ins C dx fs) from I.hok a _ ea)
  obtain ⟨mA, Ob, _⟩ := ins_get I.hok ea
  obtain ⟨od, J, _⟩ := Ob.look
  have go := wpAny_mono (run_fn (us := [.ref a, .int i t]) (vs := [.ref a, .int i]) F hr hb .nil pass0 I (.cons rfl (.cons ⟨t, rfl⟩ .nil)) q) (fun _ _ z => back_of z) fun _ _ z => z
  exact bin_intL I.kIn J O fi (fun {Q'} z => left eo z) go
theorem left_add {x dx : Addr} {i : Int} {t : Tok} {s : Shared} {E : Value → Shared → Prop} {Q' : Option Value → Shared → Prop} (hx : s.heap.get? x = some (PySem.W.instObj C dx)) (hq : Q' none s) : wpAny (model X.prog X.w) X.A (tryMethod (.int i t) (PySem.dunder "add") (.ref x)) Q' E s := by
  obtain ⟨hp, g, d, tk, os⟩ := s
  have hT : Shared.TypeIs ⟨hp, g, d, tk, os⟩ (.int i t) "int" := typeIs_int _ i t
  refine @wpAny_tryMethod_declines _ _ _ ⟨hp, g, d, tk, os⟩ (.int i t) (.ref x) "int" (PySem.dunder "add") "int.__add__" _ hT F.slot_int_add ?_
  refine @wpAny_call_entry _ _ _ _ ⟨hp, g, d, tk, os⟩ "int" (PySem.dunder "add") "int.__add__" _ (.int i t) [.ref x] _ F.slot_int_add hT F.entry_int_add ?_ (F.args_int_add_2 _ _)
  exact decl_add hx ⟨_, rfl, rfl, hq⟩
theorem left_sub {x dx : Addr} {i : Int} {t : Tok} {s : Shared} {E : Value → Shared → Prop} {Q' : Option Value → Shared → Prop} (hx : s.heap.get? x = some (PySem.W.instObj C dx)) (hq : Q' none s) : wpAny (model X.prog X.w) X.A (tryMethod (.int i t) (PySem.dunder "sub") (.ref x)) Q' E s := by
  obtain ⟨hp, g, d, tk, os⟩ := s
  have hT : Shared.TypeIs ⟨hp, g, d, tk, os⟩ (.int i t) "int" := typeIs_int _ i t
  refine @wpAny_tryMethod_declines _ _ _ ⟨hp, g, d, tk, os⟩ (.int i t) (.ref x) "int" (PySem.dunder "sub") "int.__sub__" _ hT F.slot_int_sub ?_
  refine @wpAny_call_entry _ _ _ _ ⟨hp, g, d, tk, os⟩ "int" (PySem.dunder "sub") "int.__sub__" _ (.int i t) [.ref x] _ F.slot_int_sub hT F.entry_int_sub ?_ (F.args_int_sub_2 _ _)
  exact decl_sub hx ⟨_, rfl, rfl, hq⟩
theorem left_mul {x dx : Addr} {i : Int} {t : Tok} {s : Shared} {E : Value → Shared → Prop} {Q' : Option Value → Shared → Prop} (hx : s.heap.get? x = some (PySem.W.instObj C dx)) (hq : Q' none s) : wpAny (model X.prog X.w) X.A (tryMethod (.int i t) (PySem.dunder "mul") (.ref x)) Q' E s := by
  obtain ⟨hp, g, d, tk, os⟩ := s
  have hT : Shared.TypeIs ⟨hp, g, d, tk, os⟩ (.int i t) "int" := typeIs_int _ i t
  refine @wpAny_tryMethod_declines _ _ _ ⟨hp, g, d, tk, os⟩ (.int i t) (.ref x) "int" (PySem.dunder "mul") "int.__mul__" _ hT F.slot_int_mul ?_
  refine @wpAny_call_entry _ _ _ _ ⟨hp, g, d, tk, os⟩ "int" (PySem.dunder "mul") "int.__mul__" _ (.int i t) [.ref x] _ F.slot_int_mul hT F.entry_int_mul ?_ (F.args_int_mul_2 _ _)
  exact decl_mul hx ⟨_, rfl, rfl, hq⟩
/-- -a -/
def rOwnU (C : Addr) (sp : Sp) : V → Hp → VK → Prop := fun x H Q => ∃ a dx fs, x = .ref a ∧ H a = some (.ins C dx fs) ∧ sp [.ref a] H Q E0
theorem un_ownN (hs : PySem.W.findIn X.K (.ref C) "__neg__" = some (some (.ref f))) (hf : PySem.W.isFn X.K (.ref f) = true) (F : FnOk X.prog X.w X.K X.mg X.base CX0 k f fd ps sp) (hr : Room k X.A) (hb : Binds X.K fd ps []) : UnR X (unaryOp .USub) (rOwnU C sp) := by
  intro pins s σ H x v Q I rx h
  obtain ⟨a, dx, fs, rfl, ea, q⟩ := h
  cases (show v = Value.ref a from rx)
  obtain ⟨mA, Ob, _⟩ := ins_get I.hok ea
  obtain ⟨od, J, _⟩ := Ob.look
  obtain ⟨m, fr⟩ := I.fr
  exact PySem.W.ksp_neg fr I.ok.mod.kin J hs hf (run_fn (us := [.ref a]) (vs := [.ref a]) F hr hb .nil pass0 I (.cons rfl .nil) q)
/-- abs(a) -/
def rOwnA (C : Addr) (sp : Sp) : List V → Hp → VK → Prop := fun xs H Q => ∃ a dx fs, xs = [.ref a] ∧ H a = some (.ins C dx fs) ∧ sp [.ref a] H Q E0
theorem call_absO (hs : PySem.W.findIn X.K (.ref C) "__abs__" = some (some (.ref f))) (hf : PySem.W.isFn X.K (.ref f) = true) (F : FnOk X.prog X.w X.K X.mg X.base CX0 k f fd ps sp) (hr : Room (k + 1) X.A) (hb : Binds X.K fd ps []) : CallR X (.builtin "abs") (rOwnA C sp) := by
  intro pins s σ H xs us Q I r h
  obtain ⟨a, dx, fs, rfl, ea, q⟩ := h
  obtain ⟨u, rfl, r1⟩ := vals1 r
  cases (show u = Value.ref a from r1)
  obtain ⟨mA, Ob, _⟩ := ins_get I.hok ea
  obtain ⟨od, J, _⟩ := Ob.look
  refine Calls.call_function_entry PyProof.Rows.kind_abs PyProof.Rows.plain_abs PyProof.Rows.entry_abs (PyProof.Rows.args_abs _) ?_
  unfold Builtin.«abs»
  refine wpAny_bind (m := oneArg "abs" _) (wpAny_pure ?_)
  have hl : ([Value.ref a] ++ ([] : List Value)).length = ps.length := by
    rw [← F.len _ _ _ _ q]
    rfl
  have go := F.run X.A.in1 X.stack s H ⟨[.ref a], []⟩ [.ref a] [.ref a] Q E0 hr.in1 I.env0.in1 (hb _ [.ref a] I.kIn hl) (.cons rfl .nil) q
  refine wpAny_bind (PySem.W.special_fn I.kIn J hs (beq_iff_eq.mp hf) (wpAny_call (codeAny_mono go fun res s' z => ?_)))
  match res, z with
  | .error er, z => exact z.elim
  | .ok (.ret u), z => exact wpAny_pure ⟨_, rfl, I.after z⟩
  | .ok .next, z => exact False.elim z
  | .ok .brk, z => exact False.elim z
  | .ok .cont, z => exact False.elim z
end
end FG
namespace FG
open PySem PySem.Spec L2
/-! == of an own class, with both answers; the right side is of the class or an int -/
section
variable {X : Cx} {k : Nat} {C f : Addr} {fd : FuncData} {ps : List Str} {sp : Sp}
theorem op_ownE (hn : PySem.W.notFirst X.K C (.type "int") = true) (hs : PySem.W.findIn X.K (.ref C) "__eq__" = some (some (.ref f))) (hf : PySem.W.isFn X.K (.ref f) = true)
    (F : FnOk X.prog X.w X.K X.mg X.base CX0 k f fd ps sp) (hr : Room k X.A) (hb : Binds X.K fd ps []) : OpR X (compareOp .Eq) (rOwnB C sp) := by
  intro pins s σ H x y v u Q I rx ry h
  obtain ⟨a, dx, fs, rfl, ea, hy, q⟩ := h
  cases (show v = Value.ref a from rx)
  obtain ⟨mA, Ob, _⟩ := ins_get I.hok ea
  obtain ⟨od, J, _⟩ := Ob.look
  obtain ⟨m, fr⟩ := I.fr
  have go := wpAny_mono (run_fn (us := [.ref a, u]) (vs := [.ref a, y]) F hr hb .nil pass0 I (.cons rfl (.cons ry .nil)) q) (fun _ _ z => back_of z) fun _ _ z => z
  show wpAny (model X.prog X.w) X.A (richCompare .Eq (.ref a) u) (EP X pins σ Q) X.xe s
  rcases hy with ⟨i, rfl⟩ | ⟨b, dy, gs, rfl, eb⟩
  · obtain ⟨t, rfl⟩ := ry
    exact PySem.W.cmp_K (op := .Eq) (tb := .type "int") hr.units0 fr I.ok.mod.kin J (PySem.W.Looks.of_pure rfl) hn hs hf go
  · cases (show u = Value.ref b from ry)
    obtain ⟨mB, Ob', _⟩ := ins_get I.hok eb
    obtain ⟨od', J', _⟩ := Ob'.look
    exact PySem.W.cmp_K (op := .Eq) (tb := .ref C) hr.units0 fr I.ok.mod.kin J J'.type (by simp [PySem.W.notFirst]) hs hf go
end
end FG
namespace FG
open PySem PySem.Spec L2
/-! ## sorting: what is tracked, told as data; lists by their one sorted order -/
/-! ### the body (len(g), g) of a key, told exactly -/
section
variable {prog : Program} {w : World} {A : Around} {env : Env} {E : Value → Shared → Prop} {s : Shared}
theorem eval_rank {g z : Str} {t : Tok} {mL mG mB : Str → Option Value} {p1 p2 p3 p4 p5 : Pos} {x1} {Q : Value → Shared → Prop} (hk : env.scope.kind = .function) (hg : env.kindOf g = some .local) (hl : env.kindOf "len" = some .globalImplicit)
    (nL : s.heap.Ns env.locals mL) (eL : mL g = some (.str z t)) (nG : s.heap.Ns env.globals mG) (miss : mG "len" = none) (nB : s.heap.Ns env.builtins mB) (hb : mB "len" = some (.builtin "len")) (hz : z.length ≤ sizeLine) (hd : (g == ("__debug__" : Str)) = false)
    (q : ∀ (t' : Tok) (tk : Nat), Q (.ref s.heap.objs.size) { s with heap := s.heap.push { cls := .type "tuple", data := .seq #[.int z.length t', .str z t] }, toks := tk })
    (hs : starEach [Expr.Call (.Name "len" p1) [.Name g p2] [] p3, .Name g p4] env = [(false, eval (.Call (.Name "len" p1) [.Name g p2] [] p3) env), (false, eval (.Name g p4) env)] := by rfl) :
    wpAny (model prog w) A (eval (.Tuple [.Call (.Name "len" p1) [.Name g p2] [] p3, .Name g p4] x1 p5) env) Q E s := by
  have hn := line63
  refine wpAny_Tuple_spliced ?_
  rw [hs]
  refine Calls.spliced_cons ?_
  refine wpAny_Call_Name_kw (Calls.Name_function_global hk hl (Calls.loadGlobal_builtin nG miss nB hb ?_))
  refine PyProof.Rows.callWith_builtin1 (Calls.spliced_cons (wpAny_Name (wpAny_loadName_local hk hg nL eL ?_) hd))
  refine Calls.spliced_nil ?_
  refine PyProof.Rows.len_str (by omega) ?_
  refine Calls.spliced_cons (wpAny_Name (wpAny_loadName_local hk hg nL eL ?_) hd)
  refine Calls.spliced_nil ⟨?_, q _ _⟩
  show 2 ≤ sizeLine
  decide
end
/-! ### sorted, over what is tracked -/
theorem vals_each {β : Type} {toV : β → V} : ∀ {xs : List β} {us : List Value}, Vals (xs.map toV) us → PySem.W.EachIs (fun v b => RelV (toV b) v) us xs
  | [], _, .nil => .nil
  | _ :: _, _, .cons r t => .cons r (vals_each t)
theorem each_vals {β : Type} {toV : β → V} : ∀ {xs : List β} {us : List Value}, PySem.W.EachIs (fun v b => RelV (toV b) v) us xs → Vals (xs.map toV) us
  | _, _, .nil => .nil
  | _, _, .cons r t => .cons r (each_vals t)
section
variable {X : Cx} {pins : List (Addr × Obj)} {σ : L2.St} {H : Hp} {s : Shared}
theorem each_reads {β : Type} {toV : β → V} {enc : β → PyData} (I : Inv X pins σ H s) : ∀ {xs : List β} {us : List Value}, PySem.W.EachIs (fun v b => RelV (toV b) v) us xs → (∀ b ∈ xs, Dp X.K H (toV b) (enc b)) → PySem.W.EachIs (fun v b => ∃ as, Reads s.heap v (enc b) as) us xs
  | _, _, .nil, _ => .nil
  | _, _, .cons r t, h => .cons (Dp.reads I _ _ _ (h _ List.mem_cons_self) r) (each_reads I t fun b hb => h b (List.mem_cons_of_mem _ hb))
/-- sorted(xs): the items stand for xs, told by enc -/
theorem sort_run {β : Type} {toV : β → V} {enc : β → PyData} {a : Addr} {xs : List β} {Q : VK} (I : Inv X pins σ H s) (hs : SqL X.K H a (xs.map toV)) (hd : ∀ b ∈ xs, Dp X.K H (toV b) (enc b)) (al : PySem.W.AllAlike (xs.map enc)) (so : PySem.W.Sortable (xs.map enc))
    (dp : ∀ b ∈ xs, (enc b).depth ≤ 32) (hu : X.A.units + 64 < cLine) (q : ∀ p, H p = none → Q (.ref p) (upd H p (.lst ((xs.mergeSort (PySem.W.dataLe false enc)).map toV)))) :
    wpAny (model X.prog X.w) X.A (call (.builtin "sorted") [.ref a]) (EP X pins σ Q) X.xe s := by
  obtain ⟨its, rv, hl, hz⟩ := I.list hs
  have e := vals_each rv
  rw [List.length_map] at hz
  refine PySem.W.sorted_data hl.isList e (each_reads I e hd) al so hz (fun b hb => by have := dp b hb; omega) fun out hlen eo => ?_
  obtain ⟨ep, he⟩ := PyProof.Rows.sortedAll_at s.heap its out.toArray
  have hf : H (s.heap.objs.size + 1) = none := I.hok.fresh (Nat.le_succ _)
  refine ⟨.ref (s.heap.objs.size + 1), upd H (s.heap.objs.size + 1) (.lst ((xs.mergeSort (PySem.W.dataLe false enc)).map toV)), I.laid (t' := s.toks) (fun _ _ => PyProof.Rows.sortedAll_old) (Nat.le_succ _) ⟨?_, out, ep, each_vals eo, he⟩, rfl, q _ hf⟩
  rw [List.length_map, List.length_mergeSort]
  exact hz
end
/-- pairs of texts by their order -/
def pairLe (x y : Str × Str) : Bool := decide (x.1.cps.toList < y.1.cps.toList ∨ (x.1 = y.1 ∧ x.2.cps.toList ≤ y.2.cps.toList))
def strLe (x y : Str) : Bool := decide (x.cps.toList ≤ y.cps.toList)
/-- glyphs by their length, then by their name -/
def rankLe (x y : Str) : Bool := decide (x.length < y.length ∨ (x.length = y.length ∧ x.cps.toList ≤ y.cps.toList))
theorem str_ext {x y : Str} (h : x.cps.toList = y.cps.toList) : x = y := by
  cases x; cases y
  simp only [Str.mk.injEq]
  exact Array.ext' h
theorem le_or_lt (x y : List Nat) : x ≤ y ∨ y < x := by
  by_cases h : x ≤ y
  · exact .inl h
  · exact .inr (List.not_le.mp h)
theorem lt_or_eq {x y : List Nat} (h : x ≤ y) : x < y ∨ x = y := by
  by_cases c : y ≤ x
  · exact .inr (List.le_antisymm h c)
  · exact .inl (List.not_le.mp c)
theorem dataLt_ss (x y x' y' : Str) : PySem.W.dataLt (.tuple [.str x, .str y]) (.tuple [.str x', .str y']) = !pairLe (x', y') (x, y) := by
  rw [PySem.W.dataLt_pair (by simp [PySem.W.alike]) (by simp [PySem.W.alike]), PySem.W.dataLt_str, PySem.W.dataLt_str]
  simp only [PyData.eqv, beq_iff_eq, pairLe]
  by_cases h1 : x = x'
  · subst h1
    by_cases h2 : y = y'
    · subst h2
      simp [List.lt_irrefl, List.le_refl]
    · simp only [if_true, h2, if_false, List.lt_irrefl, false_or, true_and]
      by_cases h3 : y.cps.toList < y'.cps.toList
      · simp [h3, List.not_le.mpr h3]
      · have h4 : y'.cps.toList ≤ y.cps.toList := List.not_lt.mp h3
        simp [h3, h4]
  · have n : ¬ x' = x := fun z => h1 z.symm
    simp only [h1, if_false, n, false_and, or_false]
    by_cases h3 : x.cps.toList < x'.cps.toList
    · have h4 : ¬ x'.cps.toList < x.cps.toList := fun z => List.lt_irrefl _ (List.lt_trans h3 z)
      simp [h3, h4]
    · have h4 : x'.cps.toList < x.cps.toList := (lt_or_eq (List.not_lt.mp h3)).resolve_right fun z => n (str_ext z)
      simp [h3, h4]
theorem dataLe_ss {β : Type} (f : β → Str × Str) : PySem.W.dataLe false (fun b => .tuple [.str (f b).1, .str (f b).2]) = fun a b => pairLe (f a) (f b) := by
  funext a b
  show (!PySem.W.dataLt _ _) = _
  rw [dataLt_ss, Bool.not_not]
theorem dataLt_is (x y : Nat) (x' y' : Str) : PySem.W.dataLt (.tuple [.int x, .str x']) (.tuple [.int y, .str y']) = !decide (y < x ∨ (y = x ∧ y'.cps.toList ≤ x'.cps.toList)) := by
  rw [PySem.W.dataLt_pair (by simp [PySem.W.alike]) (by simp [PySem.W.alike]), PySem.W.dataLt_int, PySem.W.dataLt_str]
  simp only [PyData.eqv, beq_iff_eq]
  by_cases h1 : x = y
  · subst h1
    by_cases h2 : x' = y'
    · subst h2
      simp [List.lt_irrefl, List.le_refl]
    · simp only [if_true, h2, if_false, Nat.lt_irrefl, false_or, true_and]
      by_cases h3 : x'.cps.toList < y'.cps.toList
      · simp [h3, List.not_le.mpr h3]
      · simp [h3, List.not_lt.mp h3]
  · have n : ¬ y = x := fun z => h1 z.symm
    have n2 : ¬ (x : Int) = y := by omega
    simp only [n2, if_false, n, false_and, or_false]
    by_cases h3 : x < y
    · have : ¬ y < x := by omega
      have h4 : (x : Int) < y := by omega
      simp [h4, this]
    · have : y < x := by omega
      have h4 : ¬ (x : Int) < y := by omega
      simp [h4, this]
theorem dataLe_rank {β : Type} (f : β → Str) : PySem.W.dataLe false (fun b => .tuple [.int ((f b).length : Nat), .str (f b)]) = fun a b => rankLe (f a) (f b) := by
  funext a b
  show (!PySem.W.dataLt _ _) = _
  rw [dataLt_is, Bool.not_not]
  rfl
/-- sorted(xs), xs a list of pairs of texts -/
def rSortSS (K : PySem.W.Frag) : List V → Hp → VK → Prop := fun vs H Q => ∃ (a : Addr) (zs : List (Addr × Str × Str)), vs = [.ref a] ∧ SqL K H a (zs.map fun z => V.ref z.1) ∧ (∀ z ∈ zs, SqT K H z.1 [.str z.2.1, .str z.2.2]) ∧
  ∀ p, H p = none → Q (.ref p) (upd H p (.lst ((zs.mergeSort fun x y => pairLe x.2 y.2).map fun z => V.ref z.1)))
/-- sorted(xs), xs a list of texts, of any length -/
def rSortStr (K : PySem.W.Frag) : List V → Hp → VK → Prop := fun vs H Q => ∃ (a : Addr) (zs : List Str), vs = [.ref a] ∧ SqL K H a (zs.map V.str) ∧
  ∀ p, H p = none → Q (.ref p) (upd H p (.lst ((zs.mergeSort strLe).map V.str)))
/-- sorted(xs), xs a list of pairs (len(g), g) -/
def rSortIS (K : PySem.W.Frag) : List V → Hp → VK → Prop := fun vs H Q => ∃ (a : Addr) (zs : List (Addr × Str)), vs = [.ref a] ∧ SqL K H a (zs.map fun z => V.ref z.1) ∧ (∀ z ∈ zs, SqT K H z.1 [.int (z.2.length : Nat), .str z.2]) ∧
  ∀ p, H p = none → Q (.ref p) (upd H p (.lst ((zs.mergeSort fun x y => rankLe x.2 y.2).map fun z => V.ref z.1)))
section
variable {X : Cx}
theorem cr_sortSS (hu : X.A.units + 64 < cLine) : CallR X (.builtin "sorted") (rSortSS X.K) := by
  intro pins s σ H vs us Q I r h
  obtain ⟨a, zs, rfl, hs, hx, q⟩ := h
  obtain rfl := Vals.ref1 r
  refine sort_run (toV := fun z : Addr × Str × Str => V.ref z.1) (enc := fun z => .tuple [.str z.2.1, .str z.2.2]) I hs (fun z hz => .tup (hx z hz) (.cons (.str _) (.cons (.str _) .nil))) (PySem.W.AllAlike.of fun _ _ => by simp [PySem.W.alike, PySem.W.alikeAll]) (PySem.W.Sortable.tuples fun _ => ⟨_, _, rfl⟩)
    (fun _ _ => by simp [PyData.depth, PyData.depthAll]) hu fun p hp => ?_
  rw [dataLe_ss fun z : Addr × Str × Str => z.2]
  exact q p hp
theorem cr_sortStr (hu : X.A.units + 64 < cLine) : CallR X (.builtin "sorted") (rSortStr X.K) := by
  intro pins s σ H vs us Q I r h
  obtain ⟨a, zs, rfl, hs, q⟩ := h
  obtain rfl := Vals.ref1 r
  refine sort_run (toV := V.str) (enc := fun z => .str z) I hs (fun z hz => .str _) (PySem.W.AllAlike.of fun _ _ => by simp [PySem.W.alike]) (PySem.W.Sortable.others fun _ => ⟨(fun z => by cases z), (fun _ z => by cases z)⟩)
    (fun _ _ => by simp [PyData.depth]) hu fun p hp => ?_
  rw [PySem.W.dataLe_str fun z : Str => z]
  exact q p hp
theorem cr_sortIS (hu : X.A.units + 64 < cLine) : CallR X (.builtin "sorted") (rSortIS X.K) := by
  intro pins s σ H vs us Q I r h
  obtain ⟨a, zs, rfl, hs, hx, q⟩ := h
  obtain rfl := Vals.ref1 r
  refine sort_run (toV := fun z : Addr × Str => V.ref z.1) (enc := fun z => .tuple [.int (z.2.length : Nat), .str z.2]) I hs (fun z hz => .tup (hx z hz) (.cons (.int _) (.cons (.str _) .nil))) (PySem.W.AllAlike.of fun _ _ => by simp [PySem.W.alike, PySem.W.alikeAll]) (PySem.W.Sortable.tuples fun _ => ⟨_, _, rfl⟩)
    (fun _ _ => by simp [PyData.depth, PyData.depthAll]) hu fun p hp => ?_
  rw [dataLe_rank fun z : Addr × Str => z.2]
  exact q p hp
end
/-! ### a key that gives (len(g), g): a lambda, or a def -/
/-- the names of such a key's scope -/
structure RankS (g : Str) (scope : Scope) : Prop where
  kind : scope.kind = .function
  co : scope.isCoroutine = false
  gen : scope.isGenerator = false
  cell : ∀ y ∈ scope.names, y.2 ≠ .cell
  free : ∀ y ∈ scope.names, y.2 ≠ .free
  own : scope.names.lookup g = some .local
  len : scope.names.lookup ("len" : Str) = some .globalImplicit
  dbg : (g == ("__debug__" : Str)) = false
section
variable {prog : Program} {w : World} {A : Around} {s : Shared}
theorem rank_reads {h : Heap} {z : Str} {t t' : Tok} : Reads (h.push { cls := .type "tuple", data := .seq #[.int z.length t', .str z t] }) (.ref h.objs.size) (.tuple [.int (z.length : Nat), .str z]) [] :=
  .tuple (as := []) (Heap.get?_push_size _ rfl) rfl rfl (.cons (as := []) (bs := []) (.int _ _) (.cons (as := []) (bs := []) (.str _ _) .nil))
theorem lam_key {f c' : Addr} {q g z : Str} {t : Tok} {params : Arguments} {scope : Scope} {cl : List (Str × Addr)} {pm ctv : Value} {mG mB : Str → Option Value} {p1 p2 p3 p4 p5 : Pos} {x1} (L : RankS g scope) (hroom : A.depth < recursionLimit)
    (hf : s.heap.get? f = some (PySem.W.kla_obj "<lambda>" q params (.Tuple [.Call (.Name "len" p1) [.Name g p2] [] p3, .Name g p4] x1 p5) scope cl pm c' ctv)) (hc : s.heap.CodeRec (.ref c') q) (lim : s.heap.NoLimit)
    (hb : ∀ v, bindArgs (PySem.W.kla_fn "<lambda>" q params (.Tuple [.Call (.Name "len" p1) [.Name g p2] [] p3, .Name g p4] x1 p5) scope cl pm (.ref c') ctv) ⟨[v], []⟩ = pure [(g, v)])
    (nG : s.heap.Ns mainGlobals mG) (miss : mG "len" = none) (nB : s.heap.Ns builtinsNs mB) (hB : mB "len" = some (.builtin "len")) (hz : z.length ≤ sizeLine) :
    wpAny (model prog w) A (call (.ref f) [.str z t]) (PySem.W.KeyPure (.tuple [.int (z.length : Nat), .str z]) s) (fun _ _ => False) s := by
  refine wpAny_call (PySem.W.kla_callFunE hroom hf rfl L.co L.gen rfl hc ?_)
  rw [hb]
  refine wpAny_pure (wpAny_newFunctionEnv L.cell (fun y hy => ?_) (fun h₁ hns hsb => ⟨lim.fresh _ hsb, ?_⟩) L.kind)
  · rw [List.mem_singleton] at hy
    rw [hy]
    exact L.own
  have kp : ∀ b o, s.heap.get? b = some o → h₁.get? b = some o := fun b o e => hsb.extBut b o (Nat.ne_of_lt (Heap.lt_size e)) (Heap.get?_push_of_some _ e)
  refine PySem.W.kla_codeExpr ?_
  refine eval_rank (g := g) (z := z) (t := t) L.kind L.own L.len hns (by simp [List.lookup]) (nG.keeps kp) miss (nB.keeps kp) hB hz L.dbg fun t' tk => ?_
  exact ⟨_, tk, rfl, fun b o e => Heap.get?_push_of_some _ (kp b o e), rank_reads⟩
theorem def_key {f : Addr} {name q g z : Str} {t : Tok} {params : Arguments} {scope : Scope} {dV kV doc pm cdv ct oc : Value} {an od : Option Addr} {osl : Array (Option Value)} {mG mB : Str → Option Value} {p1 p2 p3 p4 p5 p6 : Pos} {x1} (L : RankS g scope) (hroom : A.depth < recursionLimit)
    (hf : s.heap.get? f = some ⟨oc, od, .func (PySem.W.fnOf name q params [.Return (some (.Tuple [.Call (.Name "len" p1) [.Name g p2] [] p3, .Name g p4] x1 p5)) p6] scope dV kV doc pm an cdv ct), osl⟩) (hc : s.heap.CodeRec cdv q) (lim : s.heap.NoLimit)
    (hb : ∀ v, BindsTo s (PySem.W.fnOf name q params [.Return (some (.Tuple [.Call (.Name "len" p1) [.Name g p2] [] p3, .Name g p4] x1 p5)) p6] scope dV kV doc pm an cdv ct) ⟨[v], []⟩ [(g, v)])
    (nG : s.heap.Ns mainGlobals mG) (miss : mG "len" = none) (nB : s.heap.Ns builtinsNs mB) (hB : mB "len" = some (.builtin "len")) (hz : z.length ≤ sizeLine) :
    wpAny (model prog w) A (call (.ref f) [.str z t]) (PySem.W.KeyPure (.tuple [.int (z.length : Nat), .str z]) s) (fun _ _ => False) s := by
  refine wpAny_call (codeAny_call_def (binds := [(g, .str z t)]) hroom hf rfl lim hc rfl (hb _) L.cell (fun y hy => ?_) (fun h₁ hns kp => ?_) L.co L.gen L.kind)
  · rw [List.mem_singleton] at hy
    rw [hy]
    exact L.own
  refine wpAny_execs_cons (wpAny_Return_some ?_)
  refine eval_rank (g := g) (z := z) (t := t) L.kind L.own L.len hns (by simp [List.lookup]) (nG.keeps kp) miss (nB.keeps kp) hB hz L.dbg fun t' tk => ?_
  exact ⟨_, tk, rfl, fun b o e => Heap.get?_push_of_some _ (kp b o e), rank_reads⟩
end
/-! ### heaps, but for the tables of code objects -/
def NT : HO → Prop
  | .tbl _ => False
  | _ => True
/-- all but the tables stays -/
def Ex (H H' : Hp) : Prop := ∀ b o, H b = some o → NT o → H' b = some o
theorem Ex.refl (H : Hp) : Ex H H := fun _ _ h _ => h
theorem Ex.trans {H H1 H2 : Hp} (x : Ex H H1) (y : Ex H1 H2) : Ex H H2 := fun b o h n => y b o (x b o h n) n
theorem Same.ex {H H' : Hp} (s : Same H H') : Ex H H' := fun b o h _ => s b o h
theorem Ex.new {H : Hp} {p : Addr} {o : HO} (n : H p = none) : Ex H (upd H p o) := Same.ex (Same.new n)
theorem ext_ex {H H' : Hp} (e : LamX.ExtN H H') : Ex H H' := fun b o h n => e b o h fun ps z => by
  rw [z] at n
  exact n
theorem Ex.sqL {K : PySem.W.Frag} {H H' : Hp} {a : Addr} {xs : List V} (e : Ex H H') (h : SqL K H a xs) : SqL K H' a xs := by
  rcases h with (h | ⟨o, h⟩) | h
  · exact .inl (.inl (e _ _ h trivial))
  · exact .inl (.inr ⟨o, e _ _ h trivial⟩)
  · exact .inr h
theorem Ex.sqT {K : PySem.W.Frag} {H H' : Hp} {a : Addr} {xs : List V} (e : Ex H H') (h : SqT K H a xs) : SqT K H' a xs := by
  rcases h with (h | ⟨o, h⟩) | h
  · exact .inl (.inl (e _ _ h trivial))
  · exact .inl (.inr ⟨o, e _ _ h trivial⟩)
  · exact .inr h
/-- nothing but a table stands at p -/
def New (H : Hp) (p : Addr) : Prop := ∀ o, H p = some o → NT o → False
theorem New.of {H : Hp} {p : Addr} (h : H p = none) : New H p := fun o e _ => by
  rw [h] at e
  cases e
theorem New.ne {H : Hp} {p b : Addr} {o : HO} (n : New H p) (h : H b = some o) (t : NT o) : b ≠ p := fun z => n o (by rw [← z]; exact h) t
theorem New.back {H H' : Hp} {p : Addr} (n : New H' p) (e : Ex H H') : New H p := fun o h t => n o (e p o h t) t
/-! ### sorted(xs, key=f) -/
section
variable {X : Cx}
theorem rank_run {f : Addr} {pins : List (Addr × Obj)} {σ : L2.St} {H : Hp} {s : Shared} {a : Addr} {ss : List Str} {Q : VK} (I : Inv X pins σ H s) (hs : SqL X.K H a (ss.map V.str)) (hu : X.A.units + 64 < cLine)
    (turn : ∀ (z : Str) (t : Tok) (h : Heap) (tk : Nat), z ∈ ss → (∀ b o, s.heap.get? b = some o → h.get? b = some o) → wpAny (model X.prog X.w) X.A.in1.in1 (call (.ref f) [.str z t]) (PySem.W.KeyPure (.tuple [.int (z.length : Nat), .str z]) { s with heap := h, toks := tk }) (fun _ _ => False) { s with heap := h, toks := tk })
    (q : ∀ p, H p = none → Q (.ref p) (upd H p (.lst ((ss.mergeSort rankLe).map V.str)))) : wpAny (model X.prog X.w) X.A (call (.builtin "sorted") [.ref a] [(Str.ofString "key", .ref f)]) (EP X pins σ Q) X.xe s := by
  obtain ⟨its, rv, hl, hz⟩ := I.list hs
  have e := vals_each rv
  rw [List.length_map] at hz
  refine PySem.W.sorted_key_data (b := false) (fun z : Str => .tuple [.int (z.length : Nat), .str z]) hl.isList e (PySem.W.AllAlike.of fun _ _ => by simp [PySem.W.alike, PySem.W.alikeAll]) (PySem.W.Sortable.tuples fun _ => ⟨_, _, rfl⟩) hz (fun z _ => ?_) (PyProof.Rows.ksk_s1 _ _) (fun _ => PyProof.Rows.ksk_l1 _ _) (fun _ => PyProof.Rows.ksk_t1 _ _)
    (fun v z r hm h tk kp => ?_) fun out c h' tk kp fr hD hlen eo => ?_
  · have hd : (PyData.tuple [.int (z.length : Nat), .str z]).depth = 1 := by simp [PyData.depth, PyData.depthAll]
    omega
  · obtain ⟨t, rfl⟩ := r
    exact turn z t h tk hm kp
  · have hf : H (s.heap.objs.size + 1) = none := I.hok.fresh (Nat.le_succ _)
    rw [dataLe_rank fun z : Str => z] at eo
    refine ⟨.ref (s.heap.objs.size + 1), upd H (s.heap.objs.size + 1) (.lst ((ss.mergeSort rankLe).map V.str)), I.laid (t' := tk) kp (Nat.le_succ _) ⟨?_, out, c, each_vals eo, hD⟩, rfl, q _ hf⟩
    rw [List.length_map, List.length_mergeSort]
    exact hz
theorem boot_sorted : bootBuiltins "sorted" = some (.builtin "sorted") := by decide +kernel
theorem blt_len {pins : List (Addr × Obj)} {σ : L2.St} {H : Hp} {s : Shared} (I : Inv X pins σ H s) : ∃ mB, s.heap.Ns builtinsNs mB ∧ mB "len" = some (.builtin "len") := by
  obtain ⟨mb, h1, h2⟩ := I.mod.blt
  exact ⟨mb, h1.keeps I.bk, (h2 "len" (by decide)).trans boot_len⟩
/-- by a def of the form (len(g), g) -/
def rSortRank (K : PySem.W.Frag) (f : Addr) : List V → List V → Hp → VK → Prop := fun vs zs H Q => ∃ (a : Addr) (ss : List Str), vs = [.ref a] ∧ zs = [.ref f] ∧ SqL K H a (ss.map V.str) ∧ (∀ z ∈ ss, z.length ≤ sizeLine) ∧
  ∀ p, H p = none → Q (.ref p) (upd H p (.lst ((ss.mergeSort rankLe).map V.str)))
theorem cr_sortRank {f : Addr} {fd : FuncData} {x q g : Str} {st : Stmt} {p1 p2 p3 p4 p5 p6 : Pos} {x1} (F : Fun X.K x q st f fd) (hb : Binds X.K fd [g] []) (L : RankS g (defScope st)) (hbody : defBody st = [.Return (some (.Tuple [.Call (.Name "len" p1) [.Name g p2] [] p3, .Name g p4] x1 p5)) p6])
    (hm : X.mg "len" = none) (hr : Room 1 X.A) (hu : X.A.units + 64 < cLine) : CallRK X (.builtin "sorted") [Str.ofString "key"] (rSortRank X.K f) := by
  intro pins s σ H vs zs us ws Q I r rz h
  obtain ⟨a, ss, rfl, rfl, hs, hl, k⟩ := h
  obtain rfl := Vals.ref1 r
  obtain rfl := Vals.ref1 rz
  obtain ⟨oc, od, kV, doc, pm, an, cdv, ct, osl, rfl, lk, hcd⟩ := F.ex
  obtain ⟨mB, n1, n2⟩ := blt_len I
  refine rank_run I hs hu (fun z t h tk hz kp => ?_) k
  have KX : X.K.In h := I.kIn.keeps kp
  rw [hbody] at lk hb
  refine def_key (s := { s with heap := h, toks := tk }) L (by have := hr.dp; show X.A.depth < _; omega) (KX _ _ lk) (PySem.W.codeRec_of KX hcd) (I.nolimit.keeps kp) (fun v => hb _ [v] KX rfl) ((I.mod.glob.keeps I.bk).keeps kp) hm (n1.keeps kp) n2 (hl z hz)
/-- by a lambda of that form; the maker's table stands at P -/
def tSortLam (K : PySem.W.Frag) (P : Addr) (q : Str) (te : TE) : TE := fun σ H Q => te σ H fun x H1 => ∃ (a : Addr) (ss : List Str), x = .ref a ∧ SqL K H1 a (ss.map V.str) ∧ (∀ z ∈ ss, z.length ≤ sizeLine) ∧ LamX.TabS H1 P q ∧
  ∀ H2, Ex H1 H2 → LamX.TabS H2 P q → ∀ p, H2 p = none → Q (.ref p) (upd H2 p (.lst ((ss.mergeSort rankLe).map V.str)))
theorem pe_sortLam {c P : Addr} {e : Expr} {te : TE} {params : Arguments} {scope : Scope} {g q : Str} {p pos lpos kpos p1 p2 p3 p4 p5 : Pos} {x1} (TB : LamX.TabB X.base X.mg c P) (hcode : X.env.code = .ref c) (hq : X.env.qual ++ "<lambda>" = q) (L : RankS g scope) (hdef : defaultsOf params X.env = ([], []))
    (hbind : ∀ (cl : List (Str × Addr)) (pm cv ctv v : Value), bindArgs (PySem.W.kla_fn "<lambda>" q params (.Tuple [.Call (.Name "len" p1) [.Name g p2] [] p3, .Name g p4] x1 p5) scope cl pm cv ctv) ⟨[v], []⟩ = pure [(g, v)])
    (he : PE X e te) (hg : Gl X "sorted") (hm : X.mg "sorted" = none) (hml : X.mg "len" = none) (hr : Room 1 X.A) (hu : X.A.units + 64 < cLine)
    (hs0 : starEach [e] X.env = (false, eval e X.env) :: starEach [] X.env := by rfl) (hst : backTo pos (starEach [e] X.env) = (false, eval e X.env) :: backTo pos (starEach [] X.env) := by rfl) (hpl : (backTo pos (starEach [e] X.env)).any (·.1) = false := by rfl) :
    PE X (.Call (.Name "sorted" p) [e] [⟨some "key", .Lambda params (.Tuple [.Call (.Name "len" p1) [.Name g p2] [] p3, .Name g p4] x1 p5) scope lpos, kpos⟩] pos) (tSortLam X.K P q te) := by
  refine ⟨fun pins s σ H Q I h => ?_⟩
  refine wpAny_Call_Name_kw (ld_blt I hg hm boot_sorted ?_)
  have ha := (pa_cons he pa_nil hs0).run pos pins s σ H (fun vs H1 => match vs with
    | [x] => ∃ (a : Addr) (ss : List Str), x = .ref a ∧ SqL X.K H1 a (ss.map V.str) ∧ (∀ z ∈ ss, z.length ≤ sizeLine) ∧ LamX.TabS H1 P q ∧
      ∀ H2, Ex H1 H2 → LamX.TabS H2 P q → ∀ p, H2 p = none → Q (.ref p) (upd H2 p (.lst ((ss.mergeSort rankLe).map V.str)))
    | _ => False) I h
  refine PyProof.Rows.callWith_kw (thn ha fun us s1 ⟨vs, H1, I1, r1, z⟩ => ?_) hst hpl (by rfl) (by rfl)
  obtain ⟨x, rfl⟩ : ∃ x, vs = [x] := by
    match vs, z with
    | [x], _ => exact ⟨x, rfl⟩
  obtain ⟨a, ss, ex, hs, hl, hT, k⟩ := z
  subst ex
  obtain rfl := Vals.ref1 r1
  show wpAny _ _ (evalAll [do let v ← eval (.Lambda params (.Tuple [.Call (.Name "len" p1) [.Name g p2] [] p3, .Name g p4] x1 p5) scope lpos) X.env; standAt pos; pure v]) _ _ s1
  refine wpAny_evalAll_cons (wpAny_bind ?_)
  refine LamX.lam_make2 (T := [(P, q)]) I1 TB hcode (by rw [hq]; simp) (fun p hp _ => by rw [List.mem_singleton.mp hp, hq]) (fun p hp => by rw [List.mem_singleton.mp hp]; exact hT) hdef (fun y hy e => absurd e (L.free y hy)) fun f c' pm ctv H2 s2 I2 eN T2 hf hfn hfr hco => ?_
  refine wpAny_bind (wpAny_standAt (wpAny_pure ?_))
  refine wpAny_evalAll_nil ?_
  have hT2 := T2 _ (List.mem_singleton.mpr rfl)
  obtain ⟨mB, n1, n2⟩ := blt_len I2
  rw [hq] at hf hco
  refine rank_run I2 ((ext_ex eN).sqL hs) hu (fun z t h tk hz kp => ?_) (k H2 (ext_ex eN) hT2)
  obtain ⟨⟨oc, vs, t', hoc, hdc, hvc⟩, _, _⟩ := I2.hok c' _ hco
  exact lam_key (s := { s2 with heap := h, toks := tk }) L (by have := hr.dp; show X.A.depth < _; omega) (kp _ _ hf) ⟨c', oc, vs, t', rfl, kp _ _ hoc, hdc, hvc⟩ (I2.nolimit.keeps kp) (hbind _ _ _ _) ((I2.mod.glob.keeps I2.bk).keeps kp) hml (n1.keeps kp) n2 (hl z hz)
end
end FG
namespace FG
open PySem PySem.Spec L2
/-! ## rules for the fonts -/
/-- a def whose code object's place is known -/
structure FunC (K : PySem.W.Frag) (x qual : Str) (st : Stmt) (f : Addr) (fd : FuncData) (c : Addr) : Prop where
  ex : ∃ (oc : Value) (od : Option Addr) (kV doc pm : Value) (an : Option Addr) (ct : Value) (osl : Array (Option Value)),
    fd = PySem.W.fnOf x qual (defArgs st) (defBody st) (defScope st) .none kV doc pm an (.ref c) ct ∧ K.lookup f = some ⟨oc, od, .func fd, osl⟩ ∧ PySem.W.codeIn K (.ref c) qual = true
section
variable {P : Program} {w : World} {K : PySem.W.Frag} {mg : Str → Option Value} {base : Heap}
theorem FunC.ok {x qual : Str} {st : Stmt} {f c : Addr} {fd : FuncData} {N ps : List Str} {k : Nat} {sp : Sp} (F : FunC K x qual st f fd c) (S : FnScope N ps (defScope st)) (len : ∀ vs H Q E, sp vs H Q E → vs.length = ps.length)
    (hbody : ∀ (A : Around) (outer : List Env) (s : Shared) (H : Hp) (vs : List V) (Q : VK) (E : XK), Room k (A.deeper (PyProof.Rows.envOfC qual (defScope st) s.heap.objs.size f (.ref c))) → sp vs H Q E →
      ∃ t, PSs (cxOf CX0 P w K mg base N qual (defScope st) f (.ref c) A outer s H E).nox (defBody st) t ∧ t { nx := fun _ H' => Q .non H', rt := Q } (start N vs) H) : FnOk P w K mg base CX0 (k + 1) f fd ps sp := by
  obtain ⟨oc, od, kV, doc, pm, an, ct, osl, rfl, lk, hcd⟩ := F.ex
  refine fn_of lk hcd S len fun A outer s H vs Q E hr hsp => ?_
  obtain ⟨t, h, q⟩ := hbody A outer s H vs Q E hr hsp
  exact ⟨t, h.nox, q⟩
end
/-- one of two derivations -/
def tOrS (t u : TS) : TS := fun D σ H => t D σ H ∨ u D σ H
def tOrE (t u : TE) : TE := fun σ H Q => t σ H Q ∨ u σ H Q
theorem ps_or {X : Cx} {st : Stmt} {t u : TS} (h1 : PS X st t) (h2 : PS X st u) : PS X st (tOrS t u) := ⟨fun pins s σ H D I h => h.elim (fun h => h1.run pins s σ H D I h) fun h => h2.run pins s σ H D I h⟩
theorem pe_or2 {X : Cx} {e : Expr} {t u : TE} (h1 : PE X e t) (h2 : PE X e u) : PE X e (tOrE t u) := ⟨fun pins s σ H Q I h => h.elim (fun h => h1.run pins s σ H Q I h) fun h => h2.run pins s σ H Q I h⟩
section
variable {X : Cx} {CX : CXT} {k : Nat} {C f : Addr} {fd : FuncData} {ps : List Str} {sp : Sp}
/-- y in o, y not in o by an own __contains__ that gives True or False -/
def rInO (C : Addr) (sp : Sp) (neg : Bool) : R2 := fun y x H Q => ∃ a dx fs, x = .ref a ∧ H a = some (.ins C dx fs) ∧ sp [.ref a, y] H (fun v H1 => ∃ b, v = .bl b ∧ Q (.bl (neg != b)) H1) E0
theorem op_inO (hs : PySem.W.findIn X.K (.ref C) "__contains__" = some (some (.ref f))) (hf : PySem.W.isFn X.K (.ref f) = true) (F : FnOk X.prog X.w X.K X.mg X.base CX0 k f fd ps sp) (hr : Room k X.A) (hb : Binds X.K fd ps []) : OpR X (compareOp .In) (rInO C sp false) := by
  intro pins s σ H y x u v Q I ry rx h
  obtain ⟨a, dx, fs, rfl, ea, q⟩ := h
  cases (show v = Value.ref a from rx)
  obtain ⟨mA, Ob, _⟩ := ins_get I.hok ea
  obtain ⟨od, J, _⟩ := Ob.look
  obtain ⟨m, fr⟩ := I.fr
  refine PySem.W.in_K fr I.ok.mod.kin J hs hf (thn (run_fn (us := [.ref a, u]) (vs := [.ref a, y]) F hr hb .nil pass0 I (.cons rfl (.cons ry .nil)) q) fun r s' z => ?_)
  obtain ⟨v, H1, I1, rv, b, rfl, q1⟩ := z
  cases rv
  refine wpAny_truthy_bool ⟨.bl b, H1, I1, rfl, ?_⟩
  rw [Bool.false_bne] at q1
  exact q1
theorem op_notInO (hs : PySem.W.findIn X.K (.ref C) "__contains__" = some (some (.ref f))) (hf : PySem.W.isFn X.K (.ref f) = true) (F : FnOk X.prog X.w X.K X.mg X.base CX0 k f fd ps sp) (hr : Room k X.A) (hb : Binds X.K fd ps []) : OpR X (compareOp .NotIn) (rInO C sp true) := by
  intro pins s σ H y x u v Q I ry rx h
  obtain ⟨a, dx, fs, rfl, ea, q⟩ := h
  cases (show v = Value.ref a from rx)
  obtain ⟨mA, Ob, _⟩ := ins_get I.hok ea
  obtain ⟨od, J, _⟩ := Ob.look
  obtain ⟨m, fr⟩ := I.fr
  refine PySem.W.notIn_K fr I.ok.mod.kin J hs hf (thn (run_fn (us := [.ref a, u]) (vs := [.ref a, y]) F hr hb .nil pass0 I (.cons rfl (.cons ry .nil)) q) fun r s' z => ?_)
  obtain ⟨v, H1, I1, rv, b, rfl, q1⟩ := z
  cases rv
  refine wpAny_truthy_bool ⟨.bl (!b), H1, I1, rfl, ?_⟩
  rw [Bool.true_bne] at q1
  exact q1
end
section
variable {X : Cx} {CX : CXT} {k n : Nat} {f C : Addr} {fd : FuncData} {ps ks : List Str} {sp : Sp} {E : L2.St → XK} {x : Str} {p pos : Pos} {e : Expr} {es : List Expr} {kws : List Keyword} {t tk : TA} {g : List Value → List Value → List Value} {gV : List V → List V → List V}
/-- C(.., k = v, ..), its __init__ may raise, wished for at the caller's slots -/
def tMkKS (C : Addr) (n m : Nat) (sp : Sp) (gV : List V → List V → List V) (E : L2.St → XK) (t tk : TA) : TE := fun σ H Q => t σ H fun vs H1 => tk σ H1 fun zs H2 => vs.length = n ∧ zs.length = m ∧ ∀ z dz, H2 z = none → H2 dz = none → dz ≠ z →
  sp (gV (.ref z :: vs) zs) (upd (upd H2 dz (.own z)) z (.ins C dz [])) (fun v H3 => v = .non ∧ Q (.ref z) H3) (E σ)
theorem mkKS_run {pins : List (Addr × Obj)} {σ : L2.St} {H : Hp} {s : Shared} {Q : VK} {us ws : List Value} {vs zs : List V} (M : Mk X.K C f) (F : FnOk X.prog X.w X.K X.mg X.base CX k f fd ps sp) (hr : Room (k + 1) X.A) (hb : KBn X.K fd ps (n + 1) ks g gV)
    (hx : PassesAt CX X σ (E σ)) (I : Inv X pins σ H s) (r : Vals vs us) (rz : Vals zs ws) (l1 : vs.length = n) (l2 : zs.length = ks.length)
    (h : ∀ z dz, H z = none → H dz = none → dz ≠ z → sp (gV (.ref z :: vs) zs) (upd (upd H dz (.own z)) z (.ins C dz [])) (fun v H2 => v = .non ∧ Q (.ref z) H2) (E σ)) :
    wpAny (model X.prog X.w) X.A (call (.ref C) us (ks.zip ws)) (EP X pins σ Q) X.xe s := by
  have J := Inv.made (C := C) I
  have q0 := h _ _ (I.hok.fresh (Nat.le_succ s.heap.objs.size)) (I.hok.fresh (Nat.le_refl _)) (Nat.ne_of_lt (Nat.lt_succ_self _))
  have rr : Vals (V.ref (s.heap.objs.size + 1) :: vs) (Value.ref (s.heap.objs.size + 1) :: us) := .cons rfl r
  have ln : (Value.ref (s.heap.objs.size + 1) :: us).length = n + 1 := rr.length.symm.trans (congrArg Nat.succ l1)
  have go := F.run _ X.stack _ _ ⟨Value.ref (s.heap.objs.size + 1) :: us, ks.zip ws⟩ _ _ _ (E σ) (hr.make C us (ks.zip ws)) (J.env0.make C us (ks.zip ws)) (hb.to _ _ ws J.kIn ln (rz.length.symm.trans l2)) (hb.rel rr rz) q0
  refine wpAny_call (make_map (f := f) I.kIn M.makes M.init (beq_iff_eq.mp M.fn) (codeAny_mono go fun res s' z => ?_))
  match res, z with
  | .error er, z => exact hx pins _ _ er s' J z
  | .ok (.ret u), z =>
    obtain ⟨v, H2, J2, rv, ev, q2⟩ := J.after z
    subst ev
    exact ⟨rv, ⟨V.ref (s.heap.objs.size + 1), H2, J2, rfl, q2⟩⟩
  | .ok .next, z => exact False.elim z
  | .ok .brk, z => exact False.elim z
  | .ok .cont, z => exact False.elim z
theorem pe_mkKS (M : Mk X.K C f) (F : FnOk X.prog X.w X.K X.mg X.base CX k f fd ps sp) (hr : Room (k + 1) X.A) (hg : Gl X x) (hm : X.mg x = some (.ref C)) (hb : KBn X.K fd ps (n + 1) ks g gV) (hx : ∀ σ, PassesAt CX X σ (E σ)) (ha : PA X (e :: es) t) (hkw : PK X kws tk)
    (hall : (backToKw pos (keywordEach kws X.env)).all (·.1.isSome) = true := by rfl) (hks : (backToKw pos (keywordEach kws X.env)).filterMap (·.1) = ks := by rfl) (hdb : (x == ("__debug__" : Str)) = false := by decide)
    (he : starEach (e :: es) X.env = (false, eval e X.env) :: starEach es X.env := by rfl) (hpl : ((backTo pos (starEach (e :: es) X.env)).any (·.1) || (backToKw pos (keywordEach kws X.env)).any (·.1.isNone)) = false := by rfl) :
    PE X (.Call (.Name x p) (e :: es) kws pos) (tMkKS C n ks.length sp gV E t tk) := by
  refine ⟨fun pins s σ H Q I h => wpAny_Call_Name_kw (ld_glob I hg hm ?_ hdb)⟩
  refine PySem.W.callWith_KW (h₀ := X.base) I.ok.mod.kin M.kp hall (thn (ha.run pos pins s σ H _ I h) fun us s1 ⟨vs, H1, I1, r, q⟩ => ?_) hpl he
  refine thn (hkw.run pos pins s1 σ H1 _ I1 q) fun ws s2 ⟨zs, H2, I2, rz, l1, l2, q2⟩ => ⟨I2.kIn, ?_⟩
  rw [hks]
  exact mkKS_run M F hr hb (hx σ) I2 r rz l1 l2 q2
end
section
variable {X : Cx} {k : Nat} {C f : Addr} {fd : FuncData} {ps : List Str} {sp : Sp}
/-- len(o) by an own __len__ -/
def rLenO (C : Addr) (sp : Sp) : List V → Hp → VK → Prop := fun xs H Q => ∃ a dx fs, xs = [.ref a] ∧ H a = some (.ins C dx fs) ∧ sp [.ref a] H (fun v H1 => ∃ n : Nat, v = .int n ∧ n < 2 ^ 62 ∧ Q (.int n) H1) E0
end
end FG
namespace FG
open PySem PySem.Spec L2
/-! ## stepping lemmas for dicts, texts, comprehensions, properties -/
/-- the turns of a comprehension -/
def LcW (J : It) (g : TG) (tt : TT) (te : TE) (vs : List Nat) (σ : L2.St) (Q : VK) (H1 : Hp) : Prop := ∀ D, H1 D = none → ∃ W : Nat → Nat → Hp → Prop, (∃ m, W 0 m (upd H1 D (.lst []))) ∧ ∀ i m H, W i m H →
  (J.stop i H ∧ Q (.ref D) H) ∨ (J.go i H ∧ ∃ Nx : Hp → Prop, (∀ H', Nx H' → ∃ m', m' < m ∧ W (i + 1) m' H') ∧ ∀ x H', J.yld i H x H' → g x (wipe σ vs) H' fun σ2 H2 => wipe σ2 vs = wipe σ vs ∧ tt σ2 H2 fun b H3 =>
    if b = true then te σ2 H3 fun y H4 => ∃ acc, H4 D = some (.lst acc) ∧ acc.length < sizeLine ∧ Nx (upd H4 D (.lst (acc ++ [y]))) else Nx H3)
/-- the turns of a for -/
def ForW (J : It) (g : TG) (tb : TS) (D : Ends) (σ : L2.St) (H : Hp) : Prop := ∃ W : Nat → Nat → L2.St → Hp → Prop, (∃ m, W 0 m σ H) ∧ ∀ i m σ H, W i m σ H →
  (J.stop i H ∧ D.nx σ H) ∨ (J.go i H ∧ ∃ N : L2.St → Hp → Prop, (∀ σ' H', N σ' H' → ∃ m', m' < m ∧ W (i + 1) m' σ' H') ∧ ∀ x H', J.yld i H x H' → g x σ H' fun σ2 H2 => tb { D with nx := N, ct := N, bk := D.nx } σ2 H2)
def rLeS : R2 := fun x y H Q => ∃ i j : Str, x = .str i ∧ y = .str j ∧ Q (.bl (!decide (j.cps.toList < i.cps.toList))) H
theorem qo_leS {X : Cx} : OpR X (compareOp .LtE) rLeS := op_le_str
section
variable {K : PySem.W.Frag} {σ σ' : L2.St} {H : Hp} {Q : VK} {D : Ends} {ta tb te tc td ty tx to : TE} {tt tu : TT} {t u : TS} {tar : TA} {v x y : V} {i : Nat} {g : TG} {wi : TI} {vs : List Nat} {QB : Bool → Hp → Prop} {QA : List V → Hp → Prop}
theorem w_lc (k : wi σ H fun J H1 => LcW J g tt te vs σ Q H1) : tLc wi g tt te vs σ H Q := k
theorem w_iL {R : It → Hp → Prop} (k : te σ H fun x H1 => ∃ a, x = .ref a ∧ (∃ xs, SqL K H1 a xs) ∧ R (Itl K a) H1) : iList K te σ H R := k
theorem w_iK {R : It → Hp → Prop} (k : te σ H fun x H1 => ∃ d o, x = .ref d ∧ ((∃ kvs, H1 d = some (.frz o (.dK kvs)) ∧ R (Itk d o kvs) H1) ∨ ∃ kvs, H1 d = some (.frz o (.dT kvs)) ∧ R (Itkt d o kvs) H1)) : iKeys te σ H R := k
theorem w_iS {R : It → Hp → Prop} (k : te σ H fun v H1 => ∃ x, v = .str x ∧ R (Its x) H1) : iStr te σ H R := k
theorem w_iT {R : It → Hp → Prop} (k : te σ H fun x H1 => ∃ a, x = .ref a ∧ (∃ xs, SqT K H1 a xs) ∧ R (Itt K a) H1) : iTup K te σ H R := k
theorem w_iR1 {R : It → Hp → Prop} (k : tar σ H fun vs H1 => ∃ j : Int, vs = [.int j] ∧ -(2 ^ 62) ≤ j ∧ j < 2 ^ 62 ∧ R (Itr 0 j.toNat) H1) : iRng1 tar σ H R := k
theorem w_for (k : wi σ H fun J H1 => ForW J g t D σ H1) : tFor wi g t D σ H := k
theorem w_dnew (k : ∀ p, H p = none → Q (.ref p) (upd H p (.dK []))) : tDNewK σ H Q := k
theorem w_dget (k : td σ H fun x H1 => ty σ H1 fun y H2 => ∃ a v, x = .ref a ∧ DGet H2 a y (some v) ∧ Q v H2) : tDGet td ty σ H Q := k
theorem w_din (k : ty σ H fun y H1 => td σ H1 fun x H2 => ∃ a o, x = .ref a ∧ DGet H2 a y o ∧ Q (.bl o.isSome) H2) : tDIn ty td σ H Q := k
theorem w_dnin (k : ty σ H fun y H1 => td σ H1 fun x H2 => ∃ a o, x = .ref a ∧ DGet H2 a y o ∧ Q (.bl (!o.isSome)) H2) : tDNotIn ty td σ H Q := k
theorem w_dput (k : tc σ H fun v H1 => td σ H1 fun x H2 => ty σ H2 fun y H3 => ∃ a H', x = .ref a ∧ DPut H3 a y v H' ∧ D.nx σ H') : sDPut td ty tc D σ H := k
theorem w_prop {C : Addr} {sp : Sp} {dvs : List V} {E : XK} (k : ta σ H fun x H1 => ∃ a dx fs, x = .ref a ∧ H1 a = some (.ins C dx fs) ∧ sp (.ref a :: dvs) H1 Q E) : tProp C sp dvs E ta σ H Q := k
theorem w_cval {f : Str} (k : ta σ H fun x H1 => ∃ C mc v u, x = .ref C ∧ ClX.CRead K C mc ∧ ClX.CVal K C mc f v u ∧ Q v H1) : ClX.tCVal K ta f σ H Q := k
theorem w_mtS {C : Addr} {m : Str} {sp : Sp} {dvs : List V} {E : L2.St → XK} (k : ta σ H fun y H1 => ∃ a dx fs, y = .ref a ∧ H1 a = some (.ins C dx fs) ∧ fs.lookup m = none ∧ tar σ H1 fun vs H2 => sp (.ref a :: (vs ++ dvs)) H2 Q (E σ)) : tMtS C m sp dvs E ta tar σ H Q := k
theorem w_mkKS {C : Addr} {n m : Nat} {sp : Sp} {gV : List V → List V → List V} {E : L2.St → XK} {tk : TA} (k : tar σ H fun vs H1 => tk σ H1 fun zs H2 => vs.length = n ∧ zs.length = m ∧ ∀ z dz, H2 z = none → H2 dz = none → dz ≠ z →
  sp (gV (.ref z :: vs) zs) (upd (upd H2 dz (.own z)) z (.ins C dz [])) (fun v H3 => v = .non ∧ Q (.ref z) H3) (E σ)) : tMkKS C n m sp gV E tar tk σ H Q := k
theorem w_bm {T : String} {r : V → List V → Hp → VK → Prop} (k : to σ H fun x H1 => tyV K T x H1 ∧ tar σ H1 fun xs H2 => r x xs H2 Q) : tBM K T r to tar σ H Q := k
theorem w_bm0 {T : String} {r : V → List V → Hp → VK → Prop} (k : to σ H fun x H1 => tyV K T x H1 ∧ r x [] H1 Q) : tBM0 K T r to σ H Q := k
theorem w_append {l : Addr} {xs : List V} {y : V} (h : H l = some (.lst xs)) (hl : xs.length < sizeLine) (k : Q .non (upd H l (.lst (xs ++ [y])))) : tyV K "list" (.ref l) H ∧ rAppend (.ref l) [y] H Q := ⟨.inl ⟨rfl, _, SqL.of h⟩, l, xs, y, rfl, rfl, h, hl, k⟩
theorem w_cat {l b : Addr} {xs zs : List V} (h1 : H l = some (.lst xs)) (h2 : H b = some (.lst zs)) (hl : xs.length + zs.length ≤ sizeLine) (k : ∀ p, H p = none → Q (.ref p) (upd H p (.lst (xs ++ zs)))) : rCat (.ref l) (.ref b) H Q := ⟨l, b, xs, zs, rfl, rfl, h1, h2, hl, k⟩
theorem w_lock {d : Addr} {o : HO} (h : H d = some o) (m : Mut (some o)) (k : ∀ od, t ⟨fun σ' H' => H' d = some (.frz od o) ∧ D.nx σ' (upd H' d o), fun v H' => H' d = some (.frz od o) ∧ D.rt v (upd H' d o), fun σ' H' => H' d = some (.frz od o) ∧ D.bk σ' (upd H' d o), fun σ' H' => H' d = some (.frz od o) ∧ D.ct σ' (upd H' d o)⟩ σ (upd H d (.frz od o))) : tLock t D σ H := ⟨d, o, h, m, k⟩
theorem w_lockE {d : Addr} {o : HO} (h : H d = some o) (m : Mut (some o)) (k : ∀ od, te σ (upd H d (.frz od o)) fun v H' => H' d = some (.frz od o) ∧ Q v (upd H' d o)) : tLockE te σ H Q := ⟨d, o, h, m, k⟩
theorem w_sortLam {P : Addr} {q : Str} (k : te σ H fun x H1 => ∃ (a : Addr) (ss : List Str), x = .ref a ∧ SqL K H1 a (ss.map V.str) ∧ (∀ z ∈ ss, z.length ≤ sizeLine) ∧ LamX.TabS H1 P q ∧
  ∀ H2, Ex H1 H2 → LamX.TabS H2 P q → ∀ p, H2 p = none → Q (.ref p) (upd H2 p (.lst ((ss.mergeSort rankLe).map V.str)))) : tSortLam K P q te σ H Q := k
theorem w_leS {i j : Str} (k : Q (.bl (!decide (j.cps.toList < i.cps.toList))) H) : rLeS (.str i) (.str j) H Q := ⟨i, j, rfl, rfl, k⟩
theorem w_inl (k : t D σ H) : tOrS t u D σ H := .inl k
theorem w_inr (k : u D σ H) : tOrS t u D σ H := .inr k
theorem w_inlE {t u : TE} (k : t σ H Q) : tOrE t u σ H Q := .inl k
theorem w_inrE {t u : TE} (k : u σ H Q) : tOrE t u σ H Q := .inr k
theorem w_ixS {z : Str} {k : Int} {c : Nat} (h : z.length ≤ sizeLine) (e : atI z.cps.toList k = some c) (q : Q (.str ⟨#[c]⟩) H) : rIxS (.str z) (.int k) H Q := ⟨z, k, c, rfl, rfl, h, e, q⟩
theorem w_slS {z : Str} {lo hi : Option Int} (h : z.length ≤ sizeLine) (k : Q (.str (cutS z lo hi)) H) : rSlS (.str z) lo hi H Q := ⟨z, rfl, h, k⟩
end
/-- the turns, by what holds between them -/
theorem turnsW {J : It} {n : Nat} {G : Hp → Prop} {Y : Nat → Hp → V → Hp → Prop} {g : TG} {tb : TS} {D : Ends} {σ : L2.St} {H : Hp} (w : L2.Walk J n G Y) (Pv : Nat → L2.St → Hp → Prop) (h0 : Pv 0 σ H) (hG : ∀ i σ H, i ≤ n → Pv i σ H → G H)
    (hs : ∀ i x σ H H', i < n → Pv i σ H → Y i H x H' → g x σ H' fun σ2 H2 => tb { D with nx := Pv (i + 1), ct := Pv (i + 1), bk := D.nx } σ2 H2) (hd : ∀ σ H, Pv n σ H → D.nx σ H) : ForW J g tb D σ H := for_it w Pv h0 hG hs hd
theorem lcsW {J : It} {n : Nat} {G : Hp → Prop} {Y : Nat → Hp → V → Hp → Prop} {g : TG} {tt : TT} {te : TE} {vs : List Nat} {σ : L2.St} {Q : VK} {H1 : Hp} (w : L2.Walk J n G Y) (Pv : Addr → Nat → Hp → Prop) (h0 : ∀ D, H1 D = none → Pv D 0 (upd H1 D (.lst []))) (hG : ∀ D i H, i ≤ n → Pv D i H → G H)
    (hs : ∀ D i x H H', i < n → Pv D i H → Y i H x H' → g x (wipe σ vs) H' fun σ2 H2 => wipe σ2 vs = wipe σ vs ∧ tt σ2 H2 fun b H3 =>
      if b = true then te σ2 H3 fun y H4 => ∃ acc, H4 D = some (.lst acc) ∧ acc.length < sizeLine ∧ Pv D (i + 1) (upd H4 D (.lst (acc ++ [y]))) else Pv D (i + 1) H3) (hd : ∀ D H, Pv D n H → Q (.ref D) H) : LcW J g tt te vs σ Q H1 :=
  fun D hD => lc_it w (Pv D) (h0 D hD) (hG D) (hs D) (hd D)
theorem upd_lock {H : Hp} {d D : Addr} {o x y : HO} (h : H d = some o) (n : D ≠ d) : upd (upd (upd H d x) D y) d o = upd H D y := by
  funext b
  unfold upd
  by_cases h1 : b = d
  · rw [if_pos h1, if_neg (by rw [h1]; exact Ne.symm n), h1, h]
  · rw [if_neg h1]
    by_cases h2 : b = D
    · rw [if_pos h2, if_pos h2]
    · rw [if_neg h2, if_neg h2, if_neg h1]
theorem upd_same_of {H : Hp} {d : Addr} {o : HO} (h : H d = some o) : upd H d o = H := by
  funext b
  unfold upd
  by_cases h1 : b = d
  · rw [if_pos h1, h1, h]
  · rw [if_neg h1]
/-! ### a text repeated -/
def repS (z : Str) (n : Nat) : Str := ⟨(List.replicate n z.cps.toList).flatten.toArray⟩
def rMulS : R2 := fun x y H Q => ∃ (z : Str) (n : Int), x = .str z ∧ y = .int n ∧ -(2 ^ 62) ≤ n ∧ n < 2 ^ 62 ∧ z.length * n.toNat ≤ sizeLine ∧ Q (.str (repS z n.toNat)) H
theorem rep_foldl (z : Str) : ∀ (n : Nat) (acc : Array Nat), ((List.replicate n z.cps).foldl (· ++ ·) acc).toList = acc.toList ++ (List.replicate n z.cps.toList).flatten
  | 0, acc => by simp
  | n + 1, acc => by
    rw [List.replicate_succ, List.foldl_cons, rep_foldl z n, List.replicate_succ, List.flatten_cons]
    simp
theorem op_mulS {X : Cx} : OpR X (binaryOp .Mult) rMulS := by
  intro pins s σ H x y v u Q I rx ry h
  obtain ⟨z, n, rfl, rfl, h1, h2, hl, q⟩ := h
  obtain ⟨t, rfl⟩ := rx
  obtain ⟨t2, rfl⟩ := ry
  have hs := line63
  refine PySem.P.mul_str (by rw [decide_eq_false (by omega), decide_eq_false (by omega)]; rfl) (fun a b => ?_) (fun a b => ?_) ?_
  · have hz : (z.length : Int) * n ≤ sizeLine := by
      have : ((z.length * n.toNat : Nat) : Int) ≤ sizeLine := by omega
      rw [Int.natCast_mul] at this
      rw [show ((n.toNat : Nat) : Int) = n from Int.toNat_of_nonneg (by omega)] at this
      exact this
    intro c
    have c2 : (2 ^ 63 - 1) / n + 1 ≤ (z.length : Int) := c
    have c3 := Int.lt_ediv_add_one_mul_self (2 ^ 63 - 1) (show 0 < n by omega)
    have c4 := Int.mul_le_mul_of_nonneg_right c2 (show 0 ≤ n by omega)
    omega
  · unfold Builtin.Str.tooLong
    simp
    omega
  · by_cases c1 : n < 1
    · rw [if_pos c1]
      have e : repS z n.toNat = Str.empty := by
        rw [show n.toNat = 0 by omega]
        rfl
      rw [e] at q
      exact ⟨by decide, .str Str.empty, H, I.tok _, ⟨_, rfl⟩, q⟩
    · rw [if_neg c1]
      by_cases c2 : (n == 1 || z.length == 0) = true
      · rw [if_pos c2]
        have e : repS z n.toNat = z := by
          rcases Bool.or_eq_true _ _ ▸ c2 with c | c
          · have : n = 1 := by simpa using c
            subst this
            show (⟨(List.replicate 1 z.cps.toList).flatten.toArray⟩ : Str) = z
            simp
          · have c0 : z.cps.toList = [] := by
              have : z.length = 0 := by simpa using c
              exact List.eq_nil_of_length_eq_zero (by simpa [Str.length] using this)
            unfold repS
            rw [c0]
            have : (List.replicate n.toNat ([] : List Nat)).flatten = [] := by simp
            rw [this]
            exact str_ext (by rw [c0])
        rw [e] at q
        exact ⟨.str z, H, I, ⟨_, rfl⟩, q⟩
      · rw [if_neg c2]
        have e : (⟨(List.replicate n.toNat z.cps).foldl (· ++ ·) #[]⟩ : Str) = repS z n.toNat := str_ext (by rw [rep_foldl]; simp [repS])
        rw [e]
        have hlen : (repS z n.toNat).length = n.toNat * z.length := by
          unfold repS Str.length
          simp
        exact ⟨by rw [hlen, Nat.mul_comm]; exact hl, .str _, H, I.tok _, ⟨_, rfl⟩, q⟩
end FG
namespace FG
open PySem PySem.Builtin
/-- digits in groups of three -/
def commas (d : List Nat) : List Nat :=
  if d.length > 6 then d.take (d.length - 6) ++ 44 :: ((d.drop (d.length - 6)).take 3 ++ 44 :: d.drop (d.length - 3))
  else if d.length > 3 then d.take (d.length - 3) ++ 44 :: d.drop (d.length - 3) else d
def digs (n : Nat) : List Nat := (Nat.toDigits 10 n).map (·.toNat)
def fmtD (d : List Nat) : Str := ⟨(List.replicate (9 - (commas d).length) 32 ++ commas d).toArray⟩
def padR (z : Str) : Str := ⟨(z.cps.toList ++ List.replicate (6 - z.length) 32).toArray⟩
theorem int_fmt (n : Nat) (t u : Tok) (h1 : 1 ≤ (Nat.toDigits 10 n).length) (h2 : (Nat.toDigits 10 n).length ≤ 7) : ∃ K : Option Nat → Sem PySem.Fin, «int.__format__» ⟨[.int n t, .str ">9," u], []⟩ = (overDigitLimit? n >>= K) ∧ K none = retStr (fmtD (digs n)) := by
  refine ⟨_, rfl, ?_⟩
  refine Eq.trans (b := retStr ?y) (by first | rfl | with_unfolding_all rfl) (congrArg retStr ?h)
  case h =>
    rw [decide_eq_false (show ¬ ((n : Int) < 0) by omega)]
    unfold digs
    conv => lhs; pattern Nat.toDigits _ _; change Nat.toDigits 10 n
    generalize Nat.toDigits 10 n = d at h1 h2 ⊢
    match d, h1, h2 with
    | [a], _, _ => kernel_rfl
    | [a, b], _, _ => kernel_rfl
    | [a, b, c], _, _ => kernel_rfl
    | [a, b, c, d], _, _ => kernel_rfl
    | [a, b, c, d, e], _, _ => kernel_rfl
    | [a, b, c, d, e, f], _, _ => kernel_rfl
    | [a, b, c, d, e, f, g], _, _ => kernel_rfl
    | _ :: _ :: _ :: _ :: _ :: _ :: _ :: _ :: _, _, h => simp at h
theorem str_fmt (z : Str) (t u : Tok) (h : z.length ≤ 6) : «str.__format__» ⟨[.str z t, .str "<6" u], []⟩ = (if z.length = 6 then (do rule "str.__format__.unchanged"; ret (.str z t)) else retStr (padR z)) := by
  obtain ⟨⟨l⟩⟩ := z
  match l, h with
  | [], _ => kernel_rfl
  | [_], _ => kernel_rfl
  | [_, _], _ => kernel_rfl
  | [_, _, _], _ => kernel_rfl
  | [_, _, _, _], _ => kernel_rfl
  | [_, _, _, _, _], _ => kernel_rfl
  | [_, _, _, _, _, _], _ => kernel_rfl
  | _ :: _ :: _ :: _ :: _ :: _ :: _ :: _, h => exact absurd h (by simp [Str.length])
section
variable {prog : Program} {w : World} {A : Around} {E : Value → Shared → Prop} {s : Shared}
theorem padR_six {z : Str} (h : z.length = 6) : padR z = z := str_ext (by
  unfold padR
  rw [h]
  simp)
theorem fmt6_run {z : Str} {t : Tok} {Q : Value → Shared → Prop} (h : z.length ≤ 6) (q : ∀ t' tk, Q (.str (padR z) t') { s with toks := tk }) : wpAny (model prog w) A (formatField (.str z t) "<6") Q E s := by
  have hz : (padR z).length ≤ sizeLine := by
    unfold padR Str.length at *
    have : sizeLine = 16777216 := by decide
    simp
    omega
  by_cases c : z.length = 6
  · show wpAny (model prog w) A (holding [.str z t] (pyFormat (.str z t) "<6")) Q E s
    refine wpAny_holding ?_
    unfold pyFormat
    refine wpAny_bind (wpAny_mkStr ?_ (by decide +kernel))
    have T0 : ∀ s' : Shared, s'.TypeIs (.str z t) "str" := fun s' => typeIs_str s' z t
    have g0 : Gives («str.__format__» ⟨[.str z t, .str "<6" s.toks], []⟩) (.val (.str z t)) := by
      rw [str_fmt z t _ h, if_pos c]
      exact Gives.rule (Gives.of_eq rfl)
    refine wpAny_bind (wpAny_callSpecial?_slot (name := Str.ofString "__format__") (T0 _) F.slot_str_format (call_gives F.slot_str_format (T0 _) F.entry_str_format (F.args_str_format_2 _ _) g0 ?_))
    have q' := q t (s.toks + 1)
    rw [padR_six c] at q'
    exact wpAny_bind (wpAny_isInstance (T := "str") (b := true) rfl isSubtype_str_str (wpAny_pure q'))
  · exact wpAny_formatField_spec (by decide +kernel) (fun s' => typeIs_str s' z t) F.slot_str_format F.entry_str_format F.args_str_format_2 (fun u => by rw [str_fmt z t u h, if_neg c]; exact Gives.of_eq rfl) (q _ _) (by decide +kernel) hz
theorem fmt9_run {n : Nat} {t : Tok} {Q : Value → Shared → Prop} (h1 : 1 ≤ (Nat.toDigits 10 n).length) (h2 : (Nat.toDigits 10 n).length ≤ 7) (q : ∀ t' tk, Q (.str (fmtD (digs n)) t') { s with toks := tk }) (hz : (fmtD (digs n)).length ≤ sizeLine) (hn : n < 2 ^ 64) : wpAny (model prog w) A (formatField (.int n t) ">9,") Q E s := by
  refine wpAny_formatField_spec (by decide +kernel) (fun s' => typeIs_int s' n t) F.slot_int_format F.entry_int_format F.args_int_format_2 (fun u => ?_) (q _ _) (by decide +kernel) hz
  obtain ⟨K, e1, e2⟩ := int_fmt n t u h1 h2
  rw [e1, PySem.overDigitLimit_small ?_]
  · show Gives (K none) _
    rw [e2]
    exact Gives.of_eq rfl
  · show n.log2 < 1920
    by_cases c : n = 0
    · rw [c]
      decide
    · exact Nat.lt_trans ((Nat.log2_lt c).mpr hn) (by decide)
end
open L2 PySem.Spec
section
variable {X : Cx}
/-- {e:<6} of a text -/
def tFmt6 (te : TE) : TE := fun σ H Q => te σ H fun x H1 => ∃ z : Str, x = .str z ∧ z.length ≤ 6 ∧ Q (.str (padR z)) H1
theorem pe_fmt6 {e : Expr} {te : TE} {pos p1 p2 : Pos} {k : Nat} (he : PE X e te) : PE X (.FormattedValue e (-1) (some (.JoinedStr [.Constant (.str "<6") k p1] p2)) pos) (tFmt6 te) := by
  refine ⟨fun pins s σ H Q I h => ?_⟩
  refine wpAny_FormattedValue_spec (thn (he.run pins s σ H _ I h) fun v s1 hv => ?_)
  obtain ⟨x, H1, I1, r1, z, rfl, hz, q⟩ := hv
  obtain ⟨t, rfl⟩ := r1
  refine wpAny_JoinedStr_one (Calls.Constant_str ⟨_, _, rfl, fmt6_run hz fun t' tk => ⟨.str (padR z), H1, I1.tok _, ⟨_, rfl⟩, q⟩⟩)
/-- {e:>9,} of an int from 0 to 1000000 -/
def tFmt9 (te : TE) : TE := fun σ H Q => te σ H fun x H1 => ∃ n : Nat, x = .int n ∧ n ≤ 1000000 ∧ Q (.str (fmtD (digs n))) H1
theorem commas_len {d : List Nat} (h : d.length ≤ 7) : (commas d).length ≤ 9 := by
  unfold commas
  split
  · simp
    omega
  · split
    · simp
      omega
    · omega
theorem toDigits_len {n : Nat} (h : n ≤ 1000000) : 1 ≤ (Nat.toDigits 10 n).length ∧ (Nat.toDigits 10 n).length ≤ 7 := by
  exact ⟨PySem.toDigits_len_ge 10 n, PySem.toDigits_len_pow (by decide) (by decide) (by omega)⟩
theorem pe_fmt9 {e : Expr} {te : TE} {pos p1 p2 : Pos} {k : Nat} (he : PE X e te) : PE X (.FormattedValue e (-1) (some (.JoinedStr [.Constant (.str ">9,") k p1] p2)) pos) (tFmt9 te) := by
  refine ⟨fun pins s σ H Q I h => ?_⟩
  refine wpAny_FormattedValue_spec (thn (he.run pins s σ H _ I h) fun v s1 hv => ?_)
  obtain ⟨x, H1, I1, r1, n, rfl, hn, q⟩ := hv
  obtain ⟨t, rfl⟩ := r1
  obtain ⟨l1, l2⟩ := toDigits_len hn
  have hz : (fmtD (digs n)).length ≤ sizeLine := by
    have c := commas_len (d := digs n) (by unfold digs; simp; exact l2)
    have : sizeLine = 16777216 := by decide
    unfold fmtD Str.length
    simp
    omega
  refine wpAny_JoinedStr_one (Calls.Constant_str ⟨_, _, rfl, fmt9_run l1 l2 (fun t' tk => ⟨.str (fmtD (digs n)), H1, I1.tok _, ⟨_, rfl⟩, q⟩) hz (by omega)⟩)
end
section
variable {σ : L2.St} {H : Hp} {Q : VK} {t te : TE} {ts : List TE} {acc : Str} {QS : Str → Hp → Prop} {QB : Bool → Hp → Prop}
theorem w_js (k : t σ H fun x H1 => ∃ y : Str, x = .str y ∧ (acc ++ y).length ≤ sizeLine ∧ tJs ts (acc ++ y) σ H1 QS) : tJs (t :: ts) acc σ H QS := k
theorem w_jsN (k : QS acc H) : tJs [] acc σ H QS := k
theorem w_yes (k : QB true H) : tYes σ H QB := k
theorem w_fmt6 (k : te σ H fun x H1 => ∃ z : Str, x = .str z ∧ z.length ≤ 6 ∧ Q (.str (padR z)) H1) : tFmt6 te σ H Q := k
theorem w_fmt9 (k : te σ H fun x H1 => ∃ n : Nat, x = .int n ∧ n ≤ 1000000 ∧ Q (.str (fmtD (digs n))) H1) : tFmt9 te σ H Q := k
end
end FG
namespace FG
open PySem PySem.Spec L2
/-! str(a), repr(a) of an own class, and a staticmethod called by its class -/
theorem units64b {k : Nat} {A : Around} (hr : Room k A) : A.in1.in1.units < cLine ∧ A.in1.units < cLine := by
  have h := hr.un
  constructor
  · show A.units + 1 + 1 < _
    omega
  · show A.units + 1 < _
    omega
section
variable {X : Cx} {C f p : Addr} {k : Nat} {fd : FuncData} {ps : List Str} {sp : Sp}
/-- a call that hands back a text -/
def rOwnT (C : Addr) (sp : Sp) : List V → Hp → VK → Prop := fun xs H Q => ∃ a dx fs, xs = [.ref a] ∧ H a = some (.ins C dx fs) ∧ sp [.ref a] H (fun v H' => ∃ z : Str, v = .str z ∧ Q v H') E0
theorem call_strO (hs : PySem.W.findIn X.K (.ref C) "__str__" = some (some (.ref f))) (hf : PySem.W.isFn X.K (.ref f) = true) (F : FnOk X.prog X.w X.K X.mg X.base CX0 k f fd ps sp) (hr : Room (k + 2) X.A) (hb : Binds X.K fd ps []) (hu : X.A.in1.in1.units < cLine ∧ X.A.in1.units < cLine) : CallR X (.type "str") (rOwnT C sp) := by
  intro pins s σ H xs us Q I r h
  obtain ⟨a, dx, fs, rfl, ea, q⟩ := h
  obtain ⟨u, rfl, r1⟩ := vals1 r
  cases (show u = Value.ref a from r1)
  obtain ⟨mA, Ob, _⟩ := ins_get I.hok ea
  obtain ⟨od, J, _⟩ := Ob.look
  have hl : ([Value.ref a] ++ ([] : List Value)).length = ps.length := by
    rw [← F.len _ _ _ _ q]
    rfl
  have go := F.run X.A.in1.in1 X.stack s H ⟨[.ref a], []⟩ [.ref a] [.ref a] _ E0 hr.in1.in1 I.env0.in1.in1 (hb _ [.ref a] I.kIn hl) (.cons rfl .nil) q
  refine PySem.W.kso_call hu.1 I.kIn J hs hf (wpAny_call (codeAny_mono go fun res s' z => ?_))
  match res, z with
  | .error er, z => exact z.elim
  | .ok (.ret u), z =>
    obtain ⟨v, H', I', rv, y, rfl, hq⟩ := I.after z
    obtain ⟨t, rfl⟩ := rv
    exact ⟨.str y, H', I', ⟨t, rfl⟩, hq⟩
  | .ok .next, z => exact False.elim z
  | .ok .brk, z => exact False.elim z
  | .ok .cont, z => exact False.elim z
theorem call_reprO (hs : PySem.W.findIn X.K (.ref C) "__repr__" = some (some (.ref f))) (hf : PySem.W.isFn X.K (.ref f) = true) (F : FnOk X.prog X.w X.K X.mg X.base CX0 k f fd ps sp) (hr : Room (k + 1) X.A) (hb : Binds X.K fd ps []) (hu : X.A.in1.in1.units < cLine ∧ X.A.in1.units < cLine) : CallR X (.builtin "repr") (rOwnT C sp) := by
  intro pins s σ H xs us Q I r h
  obtain ⟨a, dx, fs, rfl, ea, q⟩ := h
  obtain ⟨u, rfl, r1⟩ := vals1 r
  cases (show u = Value.ref a from r1)
  obtain ⟨mA, Ob, _⟩ := ins_get I.hok ea
  obtain ⟨od, J, _⟩ := Ob.look
  obtain ⟨m, fr⟩ := I.fr
  have hl : ([Value.ref a] ++ ([] : List Value)).length = ps.length := by
    rw [← F.len _ _ _ _ q]
    rfl
  have go := F.run X.A.in1 X.stack s H ⟨[.ref a], []⟩ [.ref a] [.ref a] _ E0 hr.in1 I.env0.in1 (hb _ [.ref a] I.kIn hl) (.cons rfl .nil) q
  refine PySem.W.repr_K hu.2 fr I.ok.mod.kin J hs hf (wpAny_call (codeAny_mono go fun res s' z => ?_))
  match res, z with
  | .error er, z => exact z.elim
  | .ok (.ret u), z =>
    obtain ⟨v, H', I', rv, y, rfl, hq⟩ := I.after z
    obtain ⟨t, rfl⟩ := rv
    exact ⟨.str y, H', I', ⟨t, rfl⟩, hq⟩
  | .ok .next, z => exact False.elim z
  | .ok .brk, z => exact False.elim z
  | .ok .cont, z => exact False.elim z
/-- C.m is a staticmethod: its record at p, its def at f -/
structure SMet (K : PySem.W.Frag) (C : Addr) (m : Str) (p f : Addr) : Prop where
  at_ : PySem.W.findCls K (.ref C) (.type "type") m = some (.get (.builtin "staticmethod.__get__") (.ref p) .none (.ref C))
  rc : ∃ rest, PySem.W.recIn K p "staticmethod" = some (.ref f :: rest)
def tSMeth (C : Addr) (sp : Sp) (E : L2.St → XK) (ta : TE) (t : TA) : TE := fun σ H Q => ta σ H fun x H1 => x = .ref C ∧ t σ H1 fun vs H2 => sp vs H2 Q (E σ)
theorem pe_smeth {CX : CXT} {o e : Expr} {es : List Expr} {m : Str} {pos apos : Pos} {ta : TE} {t : TA} {pl : Sem Bool} {E : L2.St → XK} (he : PE X o ta) (r : ClX.CRead X.K C (.type "type")) (c : SMet X.K C m p f)
    (F : FnOk X.prog X.w X.K X.mg X.base CX k f fd ps sp) (hr : Room k X.A) (hk : PySem.W.keepIn X.K (.ref f) = true) (hb : Binds X.K fd ps []) (hx : ∀ σ, PassesAt CX X σ (E σ)) (ha : PA X (e :: es) t)
    (hst : starEach (e :: es) X.env = (false, eval e X.env) :: starEach es X.env := by rfl) (hpl : (backTo pos (starEach es X.env)).any (·.1) = false := by rfl)
    (ht : eval (.Call (.Attribute o m apos) (e :: es) [] pos) X.env = (do
      let ov ← eval o X.env
      standAt apos.atName
      let (f, first) ← holding [ov] (getMethod ov m pl)
      callWith pos f first (backTo pos (starEach (e :: es) X.env)) (backToKw pos (keywordEach [] X.env))) := by rfl) :
    PE X (.Call (.Attribute o m apos) (e :: es) [] pos) (tSMeth C sp E ta t) := by
  refine ⟨fun pins s σ H Q I h => ?_⟩
  refine PySem.W.methodCall_KW (pl := pl) (thn (he.run pins s σ H _ I h) fun u s1 ⟨x, H1, I1, rx, ex, q⟩ => ?_) ht
  subst ex
  obtain rfl : u = Value.ref C := rx
  obtain ⟨rest, hp⟩ := c.rc
  refine PySem.W.method_cls I1.kIn r.ga (PySem.W.cls_bind I1.kIn r.rd c.at_ ?_)
  refine wpAny_call (PySem.W.sm_get (s := { s1 with toks := s1.toks + 1 }) I1.kIn hp (PySem.W.handed_on rfl ?_))
  refine PySem.W.callWith_K (h₀ := X.base) (first := []) I.ok.mod.kin hk (thn (ha.run pos pins _ σ H1 _ (I1.tok _) q) fun us s3 ⟨vs, H2, I3, rv, q2⟩ => ⟨I3.kIn, ?_⟩) hst hpl
  exact run_fnSD (dvs := []) F hr hb .nil (hx σ) I3 rv (by rw [List.append_nil]; exact q2)
end
section
variable {σ : L2.St} {H : Hp} {Q : VK}
theorem w_smeth {C : Addr} {sp : Sp} {E : L2.St → XK} {ta : TE} {t : TA} (k : ta σ H fun x H1 => x = .ref C ∧ t σ H1 fun vs H2 => sp vs H2 Q (E σ)) : tSMeth C sp E ta t σ H Q := k
end
end FG
namespace FG
open PySem PySem.Spec L2 SX
/-! whole numbers and ratios as texts (codes) -/
def intL (i : Int) : List Nat := if i < 0 then 45 :: TL.numL i.natAbs else TL.numL i.natAbs
theorem intL_neg {i : Int} (h : i < 0) : intL i = 45 :: TL.numL i.natAbs := if_pos h
theorem intL_pos {i : Int} (h : ¬ i < 0) : intL i = TL.numL i.natAbs := if_neg h
theorem intL_nat (n : Nat) : intL (n : Int) = TL.numL n := by
  rw [intL_pos (by omega)]
  rfl
theorem int_text (i : Int) : Str.ofString (toString i) = S (intL i) := by
  by_cases h : i < 0
  · rw [intL_neg h]
    match i, h with
    | .negSucc n, _ =>
      refine TL.ext_tl ?_
      show (Str.ofString (toString (Int.negSucc n))).cps.toList = _
      rw [PyProof.Rows.signs_ofString]
      show ("-" ++ Nat.repr (n + 1)).toList.map Char.toNat = 45 :: TL.numL (n + 1)
      rw [String.toList_append, List.map_append, Nat.toList_repr]
      rfl
  · rw [intL_pos h]
    obtain ⟨n, rfl⟩ := Int.eq_ofNat_of_zero_le (show 0 ≤ i by omega)
    exact num_S n
theorem dig_back : ∀ c : Nat, c < 58 → (Char.ofNat c).toNat = c := by decide
theorem num_back {cs : List Nat} (h : NumText.AllDigits cs) (hz : cs = [48] ∨ ∃ c r, cs = c :: r ∧ 49 ≤ c) : TL.numL (NumText.digitsVal cs) = cs := by
  rcases hz with rfl | ⟨c, r, e, hc⟩
  · decide +kernel
  · have q := NumText.toDigits_digitsVal r.length cs (by rw [e]; rfl) h (.inr ⟨c, r, e, hc⟩)
    unfold TL.numL
    rw [q, List.map_map]
    refine (List.map_congr_left fun d hd => ?_).trans (List.map_id _)
    have := h d hd
    exact dig_back d (by omega)
theorem numL_head : ∀ {n : Nat}, 1 ≤ n → ∃ c r, TL.numL n = c :: r ∧ 49 ≤ c := by
  intro n
  induction n using Nat.strongRecOn with
  | _ n ih =>
    intro h
    by_cases c : n < 10
    · exact ⟨48 + n, [], TL.numL_lt c, by omega⟩
    · obtain ⟨d, r, e, hd⟩ := ih (n / 10) (by omega) (by omega)
      exact ⟨d, r ++ [48 + n % 10], by rw [TL.numL_step (by omega), e]; rfl, hd⟩
/-- what is_numeral asks -/
def digB (l : List Nat) : Bool := l.all fun c => decide (48 ≤ c) && decide (c ≤ 57)
def isNum (l : List Nat) : Bool :=
  let d := if l.take 1 = [45] then l.drop 1 else l
  if d = [] ∨ digB d = false then false else if d.take 1 = [48] then decide (l = [48]) else true
theorem digB_iff {l : List Nat} : digB l = true ↔ NumText.AllDigits l := by
  unfold digB NumText.AllDigits
  rw [List.all_eq_true]
  exact ⟨fun h c hc => by simpa using h c hc, fun h c hc => by simpa using h c hc⟩
theorem isNum_intL (i : Int) : isNum (intL i) = true := by
  have key : ∀ n : Nat, 1 ≤ n → TL.numL n ≠ [] ∧ digB (TL.numL n) = true ∧ (TL.numL n).take 1 ≠ [48] ∧ (TL.numL n).take 1 ≠ [45] := fun n hn => by
    obtain ⟨c, r, e, hc⟩ := numL_head hn
    refine ⟨TL.numL_ne n, digB_iff.mpr (TL.numL_digits n), ?_, ?_⟩ <;> rw [e] <;> simp <;> omega
  by_cases h : i < 0
  · obtain ⟨h1, h2, h3, h4⟩ := key i.natAbs (by omega)
    rw [intL_neg h]
    unfold isNum
    simp [h1, h2, h3]
  · rw [intL_pos h]
    by_cases z : i.natAbs = 0
    · rw [z]
      decide +kernel
    · obtain ⟨h1, h2, h3, h4⟩ := key i.natAbs (by omega)
      unfold isNum
      simp [h1, h2, h3, h4]
theorem isNum_ex {l : List Nat} (h : isNum l = true) : ∃ i : Int, l = intL i := by
  unfold isNum at h
  by_cases c : l.take 1 = [45]
  · match l, c with
    | x :: d, c =>
      have hx : x = 45 := by simpa using c
      subst hx
      simp only [List.take_succ_cons, List.take_zero, if_true, List.drop_succ_cons, List.drop_zero] at h
      split at h
      · cases h
      · rename_i h1
        have h2 : d ≠ [] := fun z => h1 (.inl z)
        have h3 : digB d = true := by
          cases e : digB d with
          | true => rfl
          | false => exact absurd (.inr e) h1
        have hd := digB_iff.mp h3
        split at h
        · exact absurd (of_decide_eq_true h) (by simp)
        · rename_i h4
          match d, h2, h4, hd with
          | e :: r, _, h4, hd =>
            have he : 49 ≤ e := by
              have := hd e List.mem_cons_self
              have : e ≠ 48 := fun z => h4 (by simp [z])
              omega
            have hp := NumText.digitsVal_pos (cs := r) he
            refine ⟨-((NumText.digitsVal (e :: r) : Nat) : Int), ?_⟩
            rw [intL_neg (by omega), Int.natAbs_neg, Int.natAbs_natCast, num_back hd (.inr ⟨e, r, rfl, he⟩)]
  · rw [if_neg c] at h
    dsimp only at h
    split at h
    · cases h
    · rename_i h1
      have h2 : l ≠ [] := fun z => h1 (.inl z)
      have h3 : digB l = true := by
        cases e : digB l with
        | true => rfl
        | false => exact absurd (.inr e) h1
      have hd := digB_iff.mp h3
      refine ⟨((NumText.digitsVal l : Nat) : Int), ?_⟩
      rw [intL_nat, num_back hd]
      split at h
      · exact .inl (of_decide_eq_true h)
      · rename_i h4
        match l, h2, h4, hd with
        | e :: r, _, h4, hd =>
          have := hd e List.mem_cons_self
          have : e ≠ 48 := fun z => h4 (by simp [z])
          exact .inr ⟨e, r, rfl, by omega⟩
theorem intL_reads {i : Int} (h : (intL i).length ≤ 4300) : intText? (S (intL i)) = some i := by
  by_cases c : i < 0
  · rw [intL_neg c] at h ⊢
    have q := intText_neg (x := S (45 :: TL.numL i.natAbs)) rfl (TL.numL_digits _) (TL.numL_ne _) (by rw [S_len]; exact h)
    rw [q, TL.numL_val]
    congr 1
    omega
  · rw [intL_pos c] at h ⊢
    have q := intText_digits (x := S (TL.numL i.natAbs)) (TL.numL_digits _) (TL.numL_ne _) (by rw [S_len]; exact h)
    rw [q]
    show some ((NumText.digitsVal (TL.numL i.natAbs) : Nat) : Int) = _
    rw [TL.numL_val]
    congr 1
    omega
theorem intL_inj {i j : Int} (h : intL i = intL j) : i = j := by
  have key : ∀ n m : Nat, 45 :: TL.numL n ≠ TL.numL m := fun n m z => by
    have := TL.numL_digits m 45 (by rw [← z]; exact List.mem_cons_self)
    omega
  by_cases c : i < 0 <;> by_cases d : j < 0
  · rw [intL_neg c, intL_neg d] at h
    have := TL.numL_inj (List.cons.inj h).2
    omega
  · rw [intL_neg c, intL_pos d] at h
    exact absurd h (key _ _)
  · rw [intL_pos c, intL_neg d] at h
    exact absurd h.symm (key _ _)
  · rw [intL_pos c, intL_pos d] at h
    have := TL.numL_inj h
    omega
theorem intL_mem {i : Int} {c : Nat} (h : c ∈ intL i) : c = 45 ∨ (48 ≤ c ∧ c ≤ 57) := by
  unfold intL at h
  split at h
  · rcases List.mem_cons.mp h with h | h
    · exact .inl h
    · exact .inr (TL.numL_digits _ c h)
  · exact .inr (TL.numL_digits _ c h)
theorem intL_ne (i : Int) : intL i ≠ [] := by
  unfold intL
  split
  · simp
  · exact TL.numL_ne _
def ratL (t b : Int) : List Nat := if b = 1 then intL t else intL t ++ 47 :: intL b
theorem split1 : ∀ {p p' q q' : List Nat}, 47 ∉ p → 47 ∉ p' → p ++ 47 :: q = p' ++ 47 :: q' → p = p' ∧ q = q'
  | [], [], _, _, _, _, e => ⟨rfl, (List.cons.inj e).2⟩
  | [], c :: p', _, _, _, h2, e => absurd ((List.cons.inj e).1 ▸ List.mem_cons_self) h2
  | c :: p, [], _, _, h1, _, e => absurd ((List.cons.inj e).1 ▸ List.mem_cons_self) h1
  | c :: p, c' :: p', q, q', h1, h2, e => by
    obtain ⟨e1, e2⟩ := List.cons.inj e
    obtain ⟨r1, r2⟩ := split1 (fun z => h1 (List.mem_cons_of_mem _ z)) (fun z => h2 (List.mem_cons_of_mem _ z)) e2
    exact ⟨by rw [e1, r1], r2⟩
theorem intL_47 (i : Int) : 47 ∉ intL i := fun h => by
  have := intL_mem h
  omega
theorem rat_split {p q : List Nat} {t b : Int} (h : p ++ 47 :: q = ratL t b) (hp : 47 ∉ p) : p = intL t ∧ q = intL b ∧ b ≠ 1 := by
  unfold ratL at h
  split at h
  · exact absurd (h ▸ List.mem_append_right _ List.mem_cons_self) (intL_47 t)
  · rename_i c
    obtain ⟨h1, h2⟩ := split1 hp (intL_47 t) h
    exact ⟨h1, h2, c⟩
theorem rat_none {l : List Nat} {t b : Int} (h : l = ratL t b) (hl : 47 ∉ l) : b = 1 ∧ l = intL t := by
  unfold ratL at h
  split at h
  · rename_i c
    exact ⟨c, h⟩
  · exact absurd (h ▸ List.mem_append_right _ List.mem_cons_self) hl
/-- l is the text of the ratio t over b, in lowest terms -/
def RatOk (l : List Nat) (t b : Int) : Prop := 0 < b ∧ Int.gcd t b = 1 ∧ l = ratL t b
theorem rat_uniq {l : List Nat} {t b t' b' : Int} (h : l = ratL t b) (h' : l = ratL t' b') : t = t' ∧ b = b' := by
  by_cases c : 47 ∈ l
  · obtain ⟨p, q, e, hp⟩ := List.eq_append_cons_of_mem c
    subst e
    obtain ⟨h1, h2, _⟩ := rat_split h hp
    obtain ⟨h3, h4, _⟩ := rat_split h' hp
    exact ⟨intL_inj (h1.symm.trans h3), intL_inj (h2.symm.trans h4)⟩
  · obtain ⟨h1, h2⟩ := rat_none h c
    obtain ⟨h3, h4⟩ := rat_none h' c
    exact ⟨intL_inj (h2.symm.trans h4), h1.trans h3.symm⟩
theorem cut_head (l : List Nat) : cutS (S l) none (some 1) = S (l.take 1) := by
  cases l <;> rfl
theorem cut_tail (l : List Nat) : cutS (S l) (some 1) none = S (l.drop 1) := by
  refine TL.ext_tl ?_
  unfold cutS
  have e1 : HT.sIx (S l).length 0 (some 1) = min 1 l.length := by
    rw [S_len]
    unfold HT.sIx
    simp
  have e2 : HT.sIx (S l).length (S l).length none = l.length := by
    rw [S_len]
    unfold HT.sIx
    simp
  rw [e1, e2]
  cases l <;> simp
theorem low_flip {t b : Int} (h : b < 0) : lowT t b = lowT (-t) (-b) ∧ lowB t b = lowB (-t) (-b) := by
  have g : Int.gcd (-t) (-b) = Int.gcd t b := by rw [Int.neg_gcd, Int.gcd_neg]
  have e1 : sgn b (Int.gcd t b) = -((Int.gcd t b : Nat) : Int) := if_pos h
  have e2 : sgn (-b) (Int.gcd t b) = ((Int.gcd t b : Nat) : Int) := sgn_pos (by omega)
  unfold lowT lowB
  rw [g, e1, e2]
  have q1 := Int.neg_fdiv_neg (-t) ((Int.gcd t b : Nat) : Int)
  have q2 := Int.neg_fdiv_neg (-b) ((Int.gcd t b : Nat) : Int)
  rw [Int.neg_neg] at q1 q2
  exact ⟨q1, q2⟩
theorem low_ne {t b : Int} (h : b ≠ 0) : Low (lowT t b) (lowB t b) ∧ (lowT t b).natAbs ≤ t.natAbs ∧ (lowB t b).natAbs ≤ b.natAbs := by
  by_cases c : 0 < b
  · have l := low_low (t := t) c
    have q := low_bound (t := t) c
    have := l.pos
    exact ⟨l, q.1, by omega⟩
  · have f := low_flip (t := t) (show b < 0 by omega)
    rw [f.1, f.2]
    have l := low_low (t := -t) (show 0 < -b by omega)
    have q := low_bound (t := -t) (show 0 < -b by omega)
    have := l.pos
    exact ⟨l, by omega, by omega⟩
theorem numL_up : ∀ n : Nat, n < 10 ^ (TL.numL n).length := by
  intro n
  induction n using Nat.strongRecOn with
  | _ n ih =>
    by_cases c : n < 10
    · rw [TL.numL_lt c]
      exact c
    · rw [TL.numL_step (by omega), List.length_append, List.length_singleton, Nat.pow_succ]
      have := ih (n / 10) (by omega)
      omega
theorem intL_up {i : Int} {k : Nat} (h : (intL i).length ≤ k) : i.natAbs < 10 ^ k := by
  refine Nat.lt_of_lt_of_le (numL_up i.natAbs) (Nat.pow_le_pow_right (by decide) ?_)
  unfold intL at h
  split at h
  · rw [List.length_cons] at h
    omega
  · exact h
/-- what text.partition('/') gives, and what Ratio.read makes of it -/
theorem part_ok {l : List Nat} (asc : ∀ c ∈ l, c < 128) (len : l.length ≤ 100) : ∃ f sl g : List Nat, Txt.partition (S l) (Str.ofString "/") = (S f, S sl, S g) ∧ (∀ c ∈ f, c < 128) ∧ f.length ≤ 100 ∧
    (∀ c ∈ (if sl = [] then [49] else g), c < 128) ∧ (if sl = [] then [49] else g).length ≤ 100 ∧ ∀ t b, l = ratL t b → f = intL t ∧ (if sl = [] then [49] else g) = intL b := by
  rw [show Str.ofString "/" = S [47] from by decide +kernel]
  by_cases c : 47 ∈ l
  · obtain ⟨p, q, e, hp⟩ := List.eq_append_cons_of_mem c
    subst e
    refine ⟨p, [47], q, partition_some (by simp) (par_head (sep := []) q hp), fun c hc => asc c (List.mem_append_left _ hc), ?_, ?_, ?_, ?_⟩
    · rw [List.length_append] at len
      omega
    · rw [if_neg (by simp)]
      exact fun c hc => asc c (List.mem_append_right _ (List.mem_cons_of_mem _ hc))
    · rw [if_neg (by simp)]
      rw [List.length_append, List.length_cons] at len
      omega
    · rw [if_neg (by simp)]
      intro t b h
      obtain ⟨h1, h2, _⟩ := rat_split h hp
      exact ⟨h1, h2⟩
  · refine ⟨l, [], [], partition_none (by simp) (par_head_none (sep := []) c), asc, len, ?_, ?_, ?_⟩
    · rw [if_pos rfl]
      simp
    · rw [if_pos rfl]
      decide
    · rw [if_pos rfl]
      intro t b h
      obtain ⟨h1, h2⟩ := rat_none h c
      subst h1
      exact ⟨h2, by decide +kernel⟩
theorem val_zeros : ∀ z : Nat, NumText.digitsVal (49 :: List.replicate z 48) = 10 ^ z
  | 0 => rfl
  | z + 1 => by
    rw [List.replicate_succ', ← List.cons_append, NumText.digitsVal_snoc, val_zeros z, Nat.pow_succ]
    rfl
theorem all_rep {k d : Nat} (h : 48 ≤ d ∧ d ≤ 57) : NumText.AllDigits (List.replicate k d) := fun c hc => by
  rw [List.eq_of_mem_replicate hc]
  exact h
theorem val_nines (k : Nat) : NumText.digitsVal (List.replicate (k + 1) 57) % 10 = 9 := by
  rw [List.replicate_succ', NumText.digitsVal_snoc]
  omega
/-- the sign's codes -/
def sgL (neg : Bool) : List Nat := if neg then [45] else []
theorem sg_int {neg : Bool} {cs : List Nat} (h : NumText.AllDigits cs) {c : Nat} {r : List Nat} (e : cs = c :: r) (hc : 49 ≤ c) : sgL neg ++ cs = intL (if neg then -((NumText.digitsVal cs : Nat) : Int) else (NumText.digitsVal cs : Nat)) := by
  have hp : 0 < NumText.digitsVal cs := by
    rw [e]
    exact NumText.digitsVal_pos hc
  cases neg with
  | true =>
    show 45 :: cs = intL (-((NumText.digitsVal cs : Nat) : Int))
    rw [intL_neg (by omega), Int.natAbs_neg, Int.natAbs_natCast, num_back h (.inr ⟨c, r, e, hc⟩)]
  | false =>
    show cs = intL ((NumText.digitsVal cs : Nat) : Int)
    rw [intL_nat, num_back h (.inr ⟨c, r, e, hc⟩)]
theorem run_int (neg : Bool) {k d : Nat} (h : 49 ≤ d ∧ d ≤ 57) (hk : 1 ≤ k) : ∃ n : Int, sgL neg ++ List.replicate k d = intL n := by
  obtain ⟨j, rfl⟩ : ∃ j, k = j + 1 := ⟨k - 1, by omega⟩
  exact ⟨_, sg_int (all_rep ⟨by omega, h.2⟩) (c := d) (r := List.replicate j d) rfl h.1⟩
theorem both_int (neg : Bool) (z : Nat) {k : Nat} (hk : 1 ≤ k) : ∃ n m : Int, (sgL neg ++ [49]) ++ List.replicate z 48 = intL n ∧ List.replicate k 57 = intL m ∧ 1 < m ∧ Int.gcd n m = 1 := by
  obtain ⟨j, rfl⟩ : ∃ j, k = j + 1 := ⟨k - 1, by omega⟩
  have v9 := val_nines j
  have a1 : NumText.AllDigits (49 :: List.replicate z 48) := fun c hc => by
    rcases List.mem_cons.mp hc with hc | hc
    · omega
    · have := List.eq_of_mem_replicate hc
      omega
  have e1 := sg_int (neg := neg) a1 (c := 49) (r := List.replicate z 48) rfl (by omega)
  have e2 := sg_int (neg := false) (all_rep (k := j + 1) (d := 57) (by decide)) (c := 57) (r := List.replicate j 57) rfl (by omega)
  rw [val_zeros] at e1
  refine ⟨_, _, by rw [List.append_assoc]; exact e1, e2, ?_, ?_⟩
  · show (1 : Int) < ((NumText.digitsVal (List.replicate (j + 1) 57) : Nat) : Int)
    omega
  · show Int.gcd _ ((NumText.digitsVal (List.replicate (j + 1) 57) : Nat) : Int) = 1
    generalize NumText.digitsVal (List.replicate (j + 1) 57) = v at v9
    have g : Nat.gcd (10 ^ z) v = 1 := by
      refine Nat.Coprime.pow_left z ?_
      show Nat.gcd 10 v = 1
      rw [Nat.gcd_rec, v9]
      decide
    cases neg with
    | true =>
      show Int.gcd (-((10 ^ z : Nat) : Int)) (v : Int) = 1
      rw [Int.neg_gcd]
      exact g
    | false => exact g
theorem rep_S (c n : Nat) : repS (S [c]) n = S (List.replicate n c) := by
  unfold repS
  refine TL.ext_tl ?_
  show (List.replicate n [c]).flatten = List.replicate n c
  induction n with
  | zero => rfl
  | succ n ih => rw [List.replicate_succ, List.flatten_cons, ih]; rfl
end FG
namespace FG
open PySem PySem.Spec PyProof.Rows L2
/-! ## several clauses 'except X as n' -/
abbrev Suite := Addr → Value → Option Addr → TS
def asD (i : Nat) (D : Ends) : Ends := ⟨fun σ H => D.nx (σ.set i none) H, D.rt, fun σ H => D.bk (σ.set i none) H, fun σ H => D.ct (σ.set i none) H⟩
/-- what the clauses wish of what flies, one after the other -/
def wAll (K : PySem.W.Frag) (Wo : WX) (D : Ends) : List (Value × Nat × Suite) → WX
  | [] => Wo
  | q :: r => fun cls d σ H => ∃ b, PySem.W.exmOne K cls q.1 = some b ∧ (b = true → ∀ a, H a = none → q.2.2 a cls d (asD q.2.1 D) (σ.set q.2.1 (some (.ref a))) H) ∧ (b = false → wAll K Wo D r cls d σ H)
inductive Clauses (X : Cx) : List ExceptHandler → List (Value × Nat × Suite) → Prop
  | nil : Clauses X [] []
  | cons {x n : Str} {c : Value} {i : Nat} {ts : Suite} {st : Stmt} {sts : List Stmt} {p1 p2 : Pos} {hs : List ExceptHandler} {l : List (Value × Nat × Suite)} (nm : Names X x c) (sl : X.N[i]? = some n) (lo : X.env.kindOf n = some .local)
      (su : ∀ a oe cls d pn, Zc cls d oe → (∃ vs, oe.data = .fields vs) → PSs (X.suite a ((a, oe) :: pn)) (st :: sts) (ts a cls d)) (more : Clauses X hs l) : Clauses X (.ExceptHandler (some (.Name x p1)) (some n) (st :: sts) p2 :: hs) ((c, i, ts) :: l)
/-- what is known where the body's exception has landed in the frame of the try -/
structure Landed (X : Cx) (pins : List (Addr × Obj)) (σ : L2.St) (H : Hp) (cls : Value) (d : Option Addr) (a : Addr) (B : Heap) (sI s : Shared) : Prop where
  inv : Inv X pins σ H sI
  nb : ∀ b o, sI.heap.get? b = some o → b ∉ frs X.stack → B.get? b = some o
  up : sI.heap.UpToSlots s.heap
  na : H a = none
  os : s.os = sI.os
  ag : AllBare s.gens
  fl : HandSPX.FlyingZ B (X.env :: X.outer) a (Zc cls d) s.heap
section
variable {X : Cx} {pins : List (Addr × Obj)} {σ : L2.St} {H : Hp} {cls : Value} {d : Option Addr} {a : Addr} {B : Heap} {sI s : Shared}
theorem Landed.here (L : Landed X pins σ H cls d a B sI s) : Inv X pins σ H s := L.inv.landed L.nb L.fl.1 L.up L.os L.ag
theorem Landed.again (L : Landed X pins σ H cls d a B sI s) {h' : Heap} (fl : HandSPX.FlyingZ B (X.env :: X.outer) a (Zc cls d) h') (up : s.heap.UpToSlots h') : Landed X pins σ H cls d a B sI { s with heap := h' } := ⟨L.inv, L.nb, L.up.trans up, L.na, L.os, L.ag, fl⟩
theorem Landed.apart (L : Landed X pins σ H cls d a B sI s) (hf : X.env.frame = some X.env.locals) : a ≠ X.env.locals ∧ a ∉ X.fs := by
  obtain ⟨oe, vs, h1, _, h3⟩ := L.fl.there
  have no : a ∉ frs (X.env :: X.outer) := fun m => by
    obtain ⟨_, o', e', hn⟩ := L.fl.2.2.1.mem m
    exact hn vs (by rw [← Option.some.inj (h1.symm.trans e')]; exact h3)
  refine ⟨fun z => no (List.mem_filterMap.mpr ⟨X.env, .head _, hf.trans (congrArg some z.symm)⟩), fun m => ?_⟩
  obtain ⟨e, he, q⟩ := List.mem_filterMap.mp m
  exact no (List.mem_filterMap.mpr ⟨e, .tail _ he, q⟩)
theorem Landed.suite (L : Landed X pins σ H cls d a B sI s) (hf : X.env.frame = some X.env.locals) : ∃ oe vs, s.heap.get? a = some oe ∧ Zc cls d oe ∧ oe.data = .fields vs ∧ Inv (X.suite a ((a, oe) :: (X.pn ++ pins))) [] σ H s := by
  obtain ⟨oe, vs, h1, h2, h3⟩ := L.fl.there
  obtain ⟨n1, n2⟩ := L.apart hf
  exact ⟨oe, vs, h1, h2, h3, L.here.suite h1 h3 L.na n1 n2⟩
theorem names_run {x : Str} {c : Value} {p1 : Pos} {pn : List (Addr × Obj)} {Q E : Value → Shared → Prop} (nm : Names X x c) (S : Inv (X.suite a pn) [] σ H s) (q : Q c s) : wpAny (model X.prog X.w) (X.A.mark (some (.ref a))) (eval (.Name x p1) X.env) Q E s := by
  obtain ⟨g, nd, h | ⟨h, hb, hn⟩⟩ := nm
  · exact ld_glob (X := X.suite a pn) S g h q nd
  · exact ld_blt (X := X.suite a pn) S g h hb q hn nd
/-- behind the suite the name goes -/
theorem suite_end {n : Str} {i : Nat} {p2 : Pos} {D : Ends} {oe : Obj} {f : Flow} {s6 : Shared} (ok : X.Ok) (nd : X.N.Nodup) (sl : X.N[i]? = some n) (lo : X.env.kindOf n = some .local)
    (h : SP (X.suite a ((a, oe) :: (X.pn ++ pins))) [] (asD i D) f s6) : wpAny (model X.prog X.w) X.A (do bindName X.env n .none; unbindBehindTheSuite X.env n p2) (fun _ s7 => SP X pins D f s7) X.xe s6 := by
  cases f with
  | ret u =>
    obtain ⟨v, σ6, H6, S6, r6, q6⟩ := h
    exact gone_ok (S6.unsuite ok) nd sl lo fun _ J => ⟨v, _, _, J, r6, q6⟩
  | next | brk | cont =>
    obtain ⟨σ6, H6, S6, q6⟩ := h
    exact gone_ok (S6.unsuite ok) nd sl lo fun _ J => ⟨_, _, J, q6⟩
/-- nobody names it: it flies on -/
theorem none_names {Wo : WX} {D : Ends} (L : Landed X pins σ H cls d a B sI s) (hs : X.stack = X.env :: X.outer) (hf : X.env.frame = some X.env.locals) (tk : Takes X Wo) (w : Wo cls d σ H) : wpAny (model X.prog X.w) X.A (handleBy (.ref a) X.env []) (SP X pins D) X.xe s := by
  have fin : wpAny (model X.prog X.w) X.A (setFlight (.ref a) X.env.frame) (fun _ s4 => wpAny (model X.prog X.w) X.A (throw (.ref a) : Sem Flow) (SP X pins D) X.xe s4) X.xe s := by
    rw [hf]
    exact HandSPX.setFlight_upZ L.fl fun h4 hh up => wpAny_throw (tk _ _ ⟨a, B, sI, pins, σ, H, cls, d, rfl, L.inv, L.nb, L.up.trans up, .inr (.inr (by rw [hs]; exact hh)), L.na, L.os, L.ag, w⟩)
  obtain ⟨_, _, _, oe, vs, t, ot, ts, he, hz, hd, h1, hr⟩ := id L.fl
  refine wpAny_handleBy_nil ?_
  unfold PySem.passOn
  refine wpAny_bind (wpAny_field he hd h1 ?_)
  rw [if_neg (by simp)]
  first
    | exact wpAny_bind fin
    | exact wpAny_bind (wpAny_pure (wpAny_bind fin))
theorem clauses_run {Wo : WX} {D : Ends} (L : Landed X pins σ H cls d a B sI s) (hs : X.stack = X.env :: X.outer) (hf : X.env.frame = some X.env.locals) (nd : X.N.Nodup) (tk : Takes X Wo) {hds : List ExceptHandler} {l : List (Value × Nat × Suite)} (hc : Clauses X hds l)
    (w : wAll X.K Wo D l cls d σ H) : wpAny (model X.prog X.w) X.A (handleBy (.ref a) X.env hds) (SP X pins D) X.xe s := by
  induction hc with
  | nil => exact none_names L hs hf tk w
  | @cons x n c i ts st sts p1 p2 hs' l' nm sl lo su more ih =>
    obtain ⟨b, e, yes, no⟩ := w
    obtain ⟨oe, vs, g1, g2, g3, S⟩ := L.suite hf
    have ty : PySem.W.Looks (model X.prog X.w) s.heap (typeOf (.ref a)) cls := fun _ _ _ _ k q => wpAny_typeOf_ref (k _ _ g1) (by rw [g2.1]; exact q)
    refine wpAny_handleBy_cons (codeAny_handlers_test (names_run nm S ((PySem.W.exm_one (M := model X.prog X.w) L.here.kIn ty e).here ?_))) (fun z => by cases z)
    cases b with
    | false => exact ih (no rfl)
    | true =>
      refine codeAny_handlers_suite_as (HandSPX.lands_againZ L.fl fun h4 fl4 up4 => ?_)
      obtain ⟨oe4, vs4, k1, k2, k3, S4⟩ := (L.again fl4 up4).suite hf
      refine store_ok (X := X.suite a ((a, oe4) :: (X.pn ++ pins))) (v := .ref a) S4 nd sl (.inl lo) rfl (fun s5 S5 => ?_) (.inr lo)
      exact wpAny_mono ((su a oe4 cls d _ k2 ⟨_, k3⟩).run [] s5 _ H _ S5 (yes rfl a L.na)) (fun f s6 z => suite_end L.inv.ok nd sl lo z) fun _ _ z => False.elim z
end
theorem ps_tryA {X : Cx} {body : List Stmt} {h0 : ExceptHandler} {hds : List ExceptHandler} {l : List (Value × Nat × Suite)} {pos : Pos} {tb : WX → TS} {Wo : WX} (hs : X.stack = X.env :: X.outer) (hf : X.env.frame = some X.env.locals) (nd : X.N.Nodup) (tk : Takes X Wo)
    (hb : ∀ (W : WX) (pn : List (Addr × Obj)) (xe : Value → Shared → Prop), Takes (X.tr pn xe) W → PassesOwn (model X.prog X.w) X.A X.env xe → PSs (X.tr pn xe) body (tb W)) (hc : Clauses X (h0 :: hds) l) :
    PS X (.Try body (h0 :: hds) [] [] pos) (fun D σ H => tb (wAll X.K Wo D l) D σ H) := by
  refine ⟨fun pins s σ H D I h => wpAny_Try_except (wpAny_mono ((hb (wAll X.K Wo D l) (X.pn ++ pins) _ (fun u s' xx => ?_) PassesOwn.looking).run [] s σ H D (I.toTry _) h) (fun f s1 z => ?_) fun _ _ z => z)⟩
  · obtain ⟨a, B, sI, _, σ1, H1, cls, d, rfl, J, nb, up, sky, na, os, ag, w⟩ := xx
    have sky' : Sky B (X.env :: X.outer) a (Zc cls d) X.env.locals s'.heap := by rw [← hs]; exact sky
    exact Sky.land Zc.steady (by rw [I.ok.frames, hs]) hf sky' fun h3 fl3 up3 => clauses_run (s := { s' with heap := h3 }) ⟨J.ofTry I.ok, nb, up.trans up3, na, os, ag, fl3⟩ hs hf nd tk hc w
  · cases f with
    | ret u =>
      obtain ⟨v, σ1, H1, J, r, q⟩ := z
      exact ⟨v, σ1, H1, J.ofTry I.ok, r, q⟩
    | next =>
      obtain ⟨σ1, H1, J, q⟩ := z
      exact wpAny_execs_nil ⟨σ1, H1, J.ofTry I.ok, q⟩
    | brk | cont =>
      obtain ⟨σ1, H1, J, q⟩ := z
      exact ⟨σ1, H1, J.ofTry I.ok, q⟩
/-! ## own errors held as values -/
/-- an own error at a, its class cls, its dict d -/
def EvO (cls : Value) (d a : Addr) : HO := .ext fun h => ∃ (oe : Obj) (vs : Array Value), h.get? a = some oe ∧ Zc cls (some d) oe ∧ oe.data = .fields vs
theorem evO_ok {P : Program} {w : World} {H : Hp} {h : Heap} {a d : Addr} {cls : Value} {oe : Obj} {vs : Array Value} (e : h.get? a = some oe) (z : Zc cls (some d) oe) (q : oe.data = .fields vs) : ObjOk P w H h a (EvO cls d a) :=
  ⟨⟨oe, vs, e, z, q⟩, ⟨oe, e⟩, fun _ _ ⟨o, v, x, r⟩ k => ⟨o, v, k o x, r⟩⟩
section
variable {X : Cx} {nm qn f f2 msg : Str} {ps : Arguments} {bd : List Stmt} {sc : Scope} {C fI cc cda : Addr} {a a2 : Expr} {p pos : Pos} {k : Nat}
theorem val_of {pins : List (Addr × Obj)} {σ : L2.St} {H1 : Hp} {Q : VK} {hp h' : Heap} {g : Array GenState} {dr : Drawn} {tk tk' : Nat} {os : OsState} {e d : Addr} {m : Str → Option Value} {fs : List (Str × V)}
    (I : Inv X pins σ H1 ⟨hp, g, dr, tk, os⟩) (M : Made hp h' e C d m) (rel : ∀ y, RelO (fs.lookup y) (m y))
    (q : ∀ e d, H1 e = none → H1 d = none → e ≠ d → Q (.ref e) (upd (upd H1 d (.xd fs)) e (EvO (.ref C) d e))) : EP X pins σ Q (.ref e) ⟨h', g, dr, tk', os⟩ := by
  obtain ⟨oe, fv, hoe, hc, hd, hdat, _⟩ := M.obj
  obtain ⟨G, g1, g2⟩ := restrict h' fun b => decide (b ≠ e)
  have gk : ∀ b, b ≠ e → G.get? b = h'.get? b := fun b hb => g1 b (decide_eq_true hb)
  have ge : G.get? e = none := g2 e (by simp)
  have J : Inv X pins σ (upd H1 d (.xd fs)) ⟨G, g, dr, tk', os⟩ := I.laid (t' := tk') (fun b o z => (gk b (Nat.ne_of_lt (Nat.lt_of_lt_of_le (Heap.lt_size z) M.new))).trans (M.keep b o z)) M.dbig ⟨_, M.ns.at (fun o z => (gk d M.dne).trans z), rel⟩
  have n1 : H1 e = none := I.hok.fresh M.new
  have n2 : upd H1 d (.xd fs) e = none := (upd_ne (Ne.symm M.dne)).trans n1
  have up : ∀ b o, G.get? b = some o → h'.get? b = some o := fun b o z => by
    by_cases hb : b = e
    · rw [hb, ge] at z
      cases z
    · rw [← gk b hb]
      exact z
  exact ⟨.ref e, _, J.laidN (t' := tk') up ge n2 (evO_ok hoe ⟨hc, hd⟩ hdat), rfl, q e d n1 (I.hok.fresh M.dbig) (Ne.symm M.dne)⟩
/-- C(e, ..) as a value -/
def tMkV1 (C : Addr) (f : Str) (ta : TA) : TE := fun σ H Q => ta σ H fun vs H1 => ∃ v, vs = [v] ∧ ∀ e d, H1 e = none → H1 d = none → e ≠ d → Q (.ref e) (upd (upd H1 d (.xd [(f, v)])) e (EvO (.ref C) d e))
def tMkV2 (C : Addr) (f f2 : Str) (ta : TA) : TE := fun σ H Q => ta σ H fun vs H1 => ∃ v v2, vs = [v, v2] ∧ ∀ e d, H1 e = none → H1 d = none → e ≠ d → Q (.ref e) (upd (upd H1 d (.xd [(f, v), (f2, v2)])) e (EvO (.ref C) d e))
theorem pev1 {as : List Expr} {ta : TA} (T : ErrC X.prog X.K X.mg nm qn ps bd sc C fI cc cda) (Y : Txt1 qn f msg ps bd sc) (no : PySem.W.findIn X.K (.ref C) f = some none) (hr : Room k X.A) (ha : PA X (a :: as) ta) (hg : Gl X nm := by rfl) (hdb : (nm == ("__debug__" : Str)) = false := by decide)
    (he : starEach (a :: as) X.env = (false, eval a X.env) :: starEach as X.env := by rfl) (hpl : (backTo pos (starEach as X.env)).any (·.1) = false := by rfl) : PE X (.Call (.Name nm p) (a :: as) [] pos) (tMkV1 C f ta) := by
  refine ⟨fun pins s σ H Q I h => wpAny_Call_Name_kw (ld_glob I hg T.gC (PySem.W.callWith_K (h₀ := X.base) I.ok.mod.kin T.kC (thn (ha.run pos pins s σ H _ I h) fun us s1 ⟨vs, H1, I1, r1, v, ev, q1⟩ => ⟨I1.kIn, ?_⟩) he hpl) hdb)⟩
  subst ev
  have Nm := names_of I1
  have lim := I1.nolimit
  have KI := I1.kIn
  cases r1 with
  | @cons _ u1 _ ur rv rn =>
    cases rn
    obtain ⟨hp, g, dr, tk, os⟩ := s1
    exact wpAny_call (made_of (m := fun y => if y = f then some u1 else none) T KI lim Nm (ve_len _) (fun A' hp' x t0 R' x1 x2 x3 x4 x5 x6 x7 => init1 T Y no x1 x2 x3 x4 x5 x6 x7) (by have := hr.dp; omega) fun h' tk' e d M => val_of I1 M (relO1 rv) q1)
theorem pev2 {as : List Expr} {ta : TA} (T : ErrC X.prog X.K X.mg nm qn ps bd sc C fI cc cda) (Y : Txt2 qn f f2 msg ps bd sc) (no : PySem.W.findIn X.K (.ref C) f = some none) (no2 : PySem.W.findIn X.K (.ref C) f2 = some none) (hr : Room k X.A) (ha : PA X (a :: as) ta) (hg : Gl X nm := by rfl) (hdb : (nm == ("__debug__" : Str)) = false := by decide)
    (he : starEach (a :: as) X.env = (false, eval a X.env) :: starEach as X.env := by rfl) (hpl : (backTo pos (starEach as X.env)).any (·.1) = false := by rfl) : PE X (.Call (.Name nm p) (a :: as) [] pos) (tMkV2 C f f2 ta) := by
  refine ⟨fun pins s σ H Q I h => wpAny_Call_Name_kw (ld_glob I hg T.gC (PySem.W.callWith_K (h₀ := X.base) I.ok.mod.kin T.kC (thn (ha.run pos pins s σ H _ I h) fun us s1 ⟨vs, H1, I1, r1, v, v2, ev, q1⟩ => ⟨I1.kIn, ?_⟩) he hpl) hdb)⟩
  subst ev
  have Nm := names_of I1
  have lim := I1.nolimit
  have KI := I1.kIn
  cases r1 with
  | @cons _ u1 _ ur rv rn =>
    cases rn with
    | @cons _ u2 _ ur2 rv2 rn2 =>
      cases rn2
      obtain ⟨hp, g, dr, tk, os⟩ := s1
      exact wpAny_call (made_of (m := fun y => if y = f2 then some u2 else if y = f then some u1 else none) T KI lim Nm (two_len _ _) (fun A' hp' x t0 R' x1 x2 x3 x4 x5 x6 x7 => init2 T Y no no2 x1 x2 x3 x4 x5 x6 x7) (by have := hr.dp; omega) fun h' tk' e d M => val_of I1 M (relO2 Y.nff rv rv2) q1)
/-- isinstance(e, c), e such an error -/
def rIsV (K : PySem.W.Frag) : List V → Hp → VK → Prop := fun xs H Q => ∃ (a : Addr) (c : V) (cv : Value) (D dd : Addr) (fs : List (Str × V)) (b : Bool), xs = [.ref a, c] ∧ ClsV c cv ∧ H a = some (EvO (.ref D) dd a) ∧ ExcC K D ∧ H dd = some (.xd fs) ∧ PySem.W.kitOne K (.ref D) cv = some b ∧ Q (.bl b) H
theorem call_isV : CallR X (.builtin "isinstance") (rIsV X.K) := by
  intro pins s σ H xs us Q I r h
  obtain ⟨a, c, cv, D, dd, fs, b, rfl, hc, ea, C, hx, e, q⟩ := h
  obtain ⟨u1, u2, rfl, r1, r2⟩ := vals2 r
  cases (show u1 = Value.ref a from r1)
  have e2 := hc.eq r2
  subst e2
  obtain ⟨⟨oe, vs, hget, hz, hv⟩, _, _⟩ := I.hok a _ ea
  obtain ⟨mA, hns, _⟩ := (show ObjOk X.prog X.w H s.heap dd (.xd fs) from I.hok dd _ hx)
  obtain ⟨od, ho, _⟩ := lookIn_ns hns
  have J : PySem.W.InstAt s.heap a oe D (some od) := ⟨hget, hz.1, by unfold PySem.W.notCls; rw [hv] <;> rfl, by rw [hz.2]; exact ho⟩
  obtain ⟨cd, hcd, _⟩ := PySem.W.any_some C.hd
  have Z : PySem.W.KitX X.K (.ref a) (.ref D) (fun h => PySem.W.InstAt h a oe D (some od)) := PySem.W.kitx_exc (by rw [hcd]; rfl) C.hg C.hk C.hs C.ha C.hn C.ht C.hm
  exact PySem.W.kia_one Z I.kIn J e (fun z => nomatch z) fun tk => ⟨.bl b, H, I.kept (t' := tk) fun _ _ z => z, rfl, q⟩
/-- isinstance(e, c), e the error that the suite holds, without a dict -/
def rIsN (K : PySem.W.Frag) (a : Addr) (cls : Value) (d : Option Addr) : List V → Hp → VK → Prop := fun xs H Q => ∃ (c : V) (cv : Value) (D : Addr) (b : Bool), xs = [.ref a, c] ∧ ClsV c cv ∧ cls = .ref D ∧ ExcC K D ∧ d = none ∧ PySem.W.kitOne K (.ref D) cv = some b ∧ Q (.bl b) H
theorem call_isN {a : Addr} {cls : Value} {d : Option Addr} {oe : Obj} {pn : List (Addr × Obj)} (hz : Zc cls d oe) (hf : ∃ vs, oe.data = .fields vs) : CallR (X.suite a ((a, oe) :: pn)) (.builtin "isinstance") (rIsN X.K a cls d) := by
  intro pins s σ H xs us Q I r h
  obtain ⟨c, cv, D, b, rfl, hc, rfl, C, rfl, e, q⟩ := h
  exact call_isE C hz hf pins s σ H _ us Q I r ⟨c, cv, b, rfl, fun u ru => (hc.eq ru).symm ▸ rfl, e, q⟩
end
section
variable {K : PySem.W.Frag} {σ : L2.St} {H : Hp} {Q : VK} {ta tb : TE} {C : Addr} {f f2 : Str}
theorem w_mkV1 (k : ta σ H fun x H1 => ∃ v, [x] = [v] ∧ ∀ e d, H1 e = none → H1 d = none → e ≠ d → Q (.ref e) (upd (upd H1 d (.xd [(f, v)])) e (EvO (.ref C) d e))) : tMkV1 C f (tCons ta tNil) σ H Q := k
theorem w_mkV2 (k : ta σ H fun x H1 => tb σ H1 fun y H2 => ∃ v v2, [x, y] = [v, v2] ∧ ∀ e d, H2 e = none → H2 d = none → e ≠ d → Q (.ref e) (upd (upd H2 d (.xd [(f, v), (f2, v2)])) e (EvO (.ref C) d e))) : tMkV2 C f f2 (tCons ta (tCons tb tNil)) σ H Q := k
end
end FG
namespace FG
open PySem PySem.Spec PyProof.Rows L2
/-! ## defs that are called anywhere, also while an exception is handled; they let nothing out -/
/-- the context of such a def's body -/
abbrev cxA (P : Program) (w : World) (K : PySem.W.Frag) (mg : Str → Option Value) (base : Heap) (N : List Str) (qual : Str) (scope : Scope) (f : Addr) (cd : Value) (A : Around) (outer : List Env) (s : Shared) (H : Hp) : Cx :=
  { (cxOf CX0 P w K mg base N qual scope f cd A outer s H E0).nox with calm := false }
structure FnA (P : Program) (w : World) (K : PySem.W.Frag) (mg : Str → Option Value) (base : Heap) (k : Nat) (f : Addr) (fd : FuncData) (ps : List Str) (sp : Sp) : Prop where
  len : ∀ vs H Q, sp vs H Q E0 → vs.length = ps.length
  run : ∀ (A : Around) (outer : List Env) (s : Shared) (H : Hp) (args : Args) (us : List Value) (vs : List V) (Q : VK), L2H.RoomH k A → Env0 P w K mg base A outer s H → BindsTo s fd args (ps.zip us) → Vals vs us → sp vs H Q E0 →
    codeAny (model P w) A (.call (.ref f) args) (CR CX0 outer P w H s Q E0) s
section
variable {P : Program} {w : World} {K : PySem.W.Frag} {mg : Str → Option Value} {base : Heap} {f : Addr} {N ps : List Str} {sp : Sp} {k : Nat}
theorem inv_startA {qual : Str} {scope : Scope} {cd : Value} {A : Around} {outer : List Env} {s s1 : Shared} {H : Hp} {us : List Value} {vs : List V} (S : FnScope N ps scope) (e0 : Env0 P w K mg base A outer s H) (hl : vs.length = ps.length) (r : Vals vs us)
    (x : InCallC s s.heap.objs.size (bindL (envOfC qual scope s.heap.objs.size f cd).kindOf (ps.zip us) fun _ => none) (cellsFrom (s.heap.objs.size + 1) scope.names []) (bindC (envOfC qual scope s.heap.objs.size f cd).kindOf (ps.zip us) fun _ => none) s1) :
    Inv (cxA P w K mg base N qual scope f cd A outer s H) [] (L2.start N vs) H s1 := by
  have J := inv_start (CX := CX0) (E := E0) (A := { A with handled := none }) (f := f) (cd := cd) S rfl ⟨e0.frames, e0.mod, e0.bs, e0.bsz, e0.funs, e0.frf, e0.hok, e0.bare⟩ hl r x
  exact ⟨⟨J.ok.mod, J.ok.kind, J.ok.glob, J.ok.blt, J.ok.above, J.ok.inj, J.ok.has, J.ok.cab, (fun z => nomatch z), J.ok.frames, J.ok.stk, J.ok.exf, J.ok.bs, J.ok.bsz, J.ok.noex, J.ok.exfs, J.ok.funs, J.ok.frf⟩, J.os, J.bare, J.base, J.loc, J.cell, J.free, J.freeC, J.pin, J.hok, J.len⟩
theorem fnA_of {name qual : Str} {params : Arguments} {body : List Stmt} {scope : Scope} {dV kV doc pm cdv ct oc : Value} {an od : Option Addr} {osl : Array (Option Value)}
    (lk : K.lookup f = some ⟨oc, od, .func (PySem.W.fnOf name qual params body scope dV kV doc pm an cdv ct), osl⟩) (hcd : PySem.W.codeIn K cdv qual = true) (S : FnScope N ps scope) (len : ∀ vs H Q, sp vs H Q E0 → vs.length = ps.length)
    (hbody : ∀ (A : Around) (outer : List Env) (s : Shared) (H : Hp) (vs : List V) (Q : VK), L2H.RoomH k (A.deeper (envOfC qual scope s.heap.objs.size f cdv)) → sp vs H Q E0 →
      ∃ t, PSs (cxA P w K mg base N qual scope f cdv A outer s H) body t ∧ t { nx := fun _ H' => Q .non H', rt := Q } (L2.start N vs) H) :
    FnA P w K mg base (k + 1) f (PySem.W.fnOf name qual params body scope dV kV doc pm an cdv ct) ps sp := by
  refine ⟨len, fun A outer s H args us vs Q hr e0 hb r hsp => ?_⟩
  have up : ∀ b o, base.get? b = some o → s.heap.get? b = some o := fun b o z => (e0.bs b o z).1
  have KX := e0.mod.kin.keeps up
  refine codeAny_call_function hr.depth (KX _ _ lk) rfl S.co S.gen rfl (PySem.W.codeRec_of KX hcd) (hb _ _ _ _ (wpAny_newFunctionEnv_cells S.kind (fun y hy => ?_) fun env he s1 x => ?_))
  · exact (S.par y.1 (List.of_mem_zip (show (y.1, y.2) ∈ ps.zip us from hy)).1).imp id fun q => ⟨q, PySem.W.cellsFrom_some _ _ _ (.inl q)⟩
  · subst he
    obtain ⟨t, ht, hq⟩ := hbody A outer s H vs Q (hr.deeper _) hsp
    refine ⟨(e0.mod.nolimit.keeps up).keeps x.toInCall.keep, codeAny_func (wpAny_mono (ht.run [] s1 _ H _ (inv_startA S e0 (len _ _ _ hsp) r x) hq) (fun fl s' z => ?_) fun _ _ z => z.elim)⟩
    cases fl with
    | ret u =>
      obtain ⟨v, σ', H', J, rv, q⟩ := z
      exact ⟨v, H', J.os, J.bare, J.base, J.hok, rv, q⟩
    | next =>
      obtain ⟨σ', H', J, q⟩ := z
      exact ⟨V.non, H', J.os, J.bare, J.base, J.hok, rfl, q⟩
    | brk | cont =>
      obtain ⟨_, _, _, q⟩ := z
      exact q.elim
theorem funA {x qual : Str} {st : Stmt} {fd : FuncData} (F : Fun K x qual st f fd) (S : FnScope N ps (defScope st)) (len : ∀ vs H Q, sp vs H Q E0 → vs.length = ps.length)
    (hbody : ∀ (cdv : Value) (A : Around) (outer : List Env) (s : Shared) (H : Hp) (vs : List V) (Q : VK), L2H.RoomH k (A.deeper (envOfC qual (defScope st) s.heap.objs.size f cdv)) → sp vs H Q E0 →
      ∃ t, PSs (cxA P w K mg base N qual (defScope st) f cdv A outer s H) (defBody st) t ∧ t { nx := fun _ H' => Q .non H', rt := Q } (L2.start N vs) H) : FnA P w K mg base (k + 1) f fd ps sp := by
  obtain ⟨oc, od, kV, doc, pm, an, cdv, ct, osl, rfl, lk, hcd⟩ := F.ex
  exact fnA_of lk hcd S len fun A outer s H vs Q hr hsp => hbody cdv A outer s H vs Q hr hsp
theorem funDA {x qual : Str} {params : Arguments} {body : List Stmt} {scope : Scope} {dvs : List V} {kws : List (Str × V)} {fd : FuncData} (F : FunD K x qual params body scope dvs kws f fd) (S : FnScope N ps scope) (len : ∀ vs H Q, sp vs H Q E0 → vs.length = ps.length)
    (hbody : ∀ (cdv : Value) (A : Around) (outer : List Env) (s : Shared) (H : Hp) (vs : List V) (Q : VK), L2H.RoomH k (A.deeper (envOfC qual scope s.heap.objs.size f cdv)) → sp vs H Q E0 →
      ∃ t, PSs (cxA P w K mg base N qual scope f cdv A outer s H) body t ∧ t { nx := fun _ H' => Q .non H', rt := Q } (L2.start N vs) H) : FnA P w K mg base (k + 1) f fd ps sp := by
  obtain ⟨oc, od, dV, kV, doc, pm, an, cdv, ct, osl, rfl, lk, hcd, _, _⟩ := F.ex
  exact fnA_of lk hcd S len fun A outer s H vs Q hr hsp => hbody cdv A outer s H vs Q hr hsp
end
theorem hu_ofA {k : Nat} {A : Around} (hr : L2H.RoomH k A) : A.units + 1 < cLine := by
  have := hr.un
  omega
theorem roomA_in1 {k : Nat} {A : Around} (r : L2H.RoomH (k + 1) A) : L2H.RoomH k A.in1 := ⟨by have := r.dp; show A.depth + 3 * k + 5 < _; omega, by have := r.un; show A.units + 1 + 16 * k + 200 < _; omega⟩
section
variable {X : Cx} {k : Nat} {f C : Addr} {fd : FuncData} {ps : List Str} {sp : Sp} {dvs : List V} {ds : List Value} {x : Str} {p pos : Pos} {e : Expr} {es : List Expr} {t : TA}
theorem run_fnA {pins : List (Addr × Obj)} {σ : L2.St} {H : Hp} {s : Shared} {Q : VK} {us : List Value} {vs : List V} (F : FnA X.prog X.w X.K X.mg X.base k f fd ps sp) (hr : L2H.RoomH k X.A) (hb : Binds X.K fd ps ds) (hd : Vals dvs ds)
    (I : Inv X pins σ H s) (r : Vals vs us) (h : sp (vs ++ dvs) H Q E0) : wpAny (model X.prog X.w) X.A (call (.ref f) us) (EP X pins σ Q) X.xe s := by
  have r2 : Vals (vs ++ dvs) (us ++ ds) := r.append hd
  refine wpAny_call (codeAny_mono (F.run X.A X.stack s H ⟨us, []⟩ (us ++ ds) (vs ++ dvs) Q hr I.env0 (hb s us I.kIn (r2.length.symm.trans (F.len _ _ _ h))) r2 h) fun r s' hq => ?_)
  match r, hq with
  | .ok (.ret u), hq => exact I.after hq
  | .ok .next, hq => exact hq.elim
  | .ok .brk, hq => exact hq.elim
  | .ok .cont, hq => exact hq.elim
  | .error e, hq => exact pass0 pins σ H s e s' I hq
/-- f(e, ..), anywhere -/
theorem pe_callA (F : FnA X.prog X.w X.K X.mg X.base k f fd ps sp) (hr : L2H.RoomH k X.A) (hg : Gl X x) (hm : X.mg x = some (.ref f)) (hk : PySem.W.keepIn X.K (.ref f) = true) (hb : Binds X.K fd ps ds) (hd : Vals dvs ds)
    (ha : PA X (e :: es) t) (hdb : (x == ("__debug__" : Str)) = false := by decide) (he : starEach (e :: es) X.env = (false, eval e X.env) :: starEach es X.env := by rfl) (hpl : (backTo pos (starEach es X.env)).any (·.1) = false := by rfl) :
    PE X (.Call (.Name x p) (e :: es) [] pos) (tCall sp dvs E0 t) :=
  ⟨fun pins s σ H Q I h => wpAny_Call_Name_kw (ld_glob I hg hm (PySem.W.callWith_K (h₀ := X.base) I.ok.mod.kin hk (thn (ha.run pos pins s σ H _ I h) fun us s1 ⟨vs, H1, I1, r, q⟩ => ⟨I1.kIn, run_fnA F hr hb hd I1 r q⟩) he hpl) hdb)⟩
/-- C(e, ..), anywhere -/
theorem mkA_run {pins : List (Addr × Obj)} {σ : L2.St} {H : Hp} {s : Shared} {Q : VK} {us : List Value} {vs : List V} (M : Mk X.K C f) (F : FnA X.prog X.w X.K X.mg X.base k f fd ps sp) (hr : L2H.RoomH (k + 1) X.A) (hb : Binds X.K fd ps ds) (hd : Vals dvs ds) (I : Inv X pins σ H s) (r : Vals vs us)
    (h : ∀ z dz, H z = none → H dz = none → dz ≠ z → sp (.ref z :: (vs ++ dvs)) (upd (upd H dz (.own z)) z (.ins C dz [])) (fun v H2 => v = .non ∧ Q (.ref z) H2) E0) :
    wpAny (model X.prog X.w) X.A (call (.ref C) us) (EP X pins σ Q) X.xe s := by
  have J := Inv.made (C := C) I
  have q0 := h _ _ (I.hok.fresh (Nat.le_succ s.heap.objs.size)) (I.hok.fresh (Nat.le_refl _)) (Nat.ne_of_lt (Nat.lt_succ_self _))
  have rr : Vals (V.ref (s.heap.objs.size + 1) :: (vs ++ dvs)) (Value.ref (s.heap.objs.size + 1) :: (us ++ ds)) := .cons rfl (r.append hd)
  have go := F.run _ X.stack _ _ ⟨Value.ref (s.heap.objs.size + 1) :: us, []⟩ _ _ _ (hr.make C us []) (J.env0.make C us []) (hb _ (Value.ref (s.heap.objs.size + 1) :: us) J.kIn (rr.length.symm.trans (F.len _ _ _ q0))) rr q0
  refine wpAny_call (make_map (f := f) I.kIn M.makes M.init (beq_iff_eq.mp M.fn) (codeAny_mono go fun res s' z => ?_))
  match res, z with
  | .error er, z => exact pass0 pins σ H s er s' I z
  | .ok (.ret u), z =>
    obtain ⟨v, H2, J2, rv, ev, q2⟩ := J.after z
    subst ev
    exact ⟨rv, ⟨V.ref (s.heap.objs.size + 1), H2, J2, rfl, q2⟩⟩
  | .ok .next, z => exact z.elim
  | .ok .brk, z => exact z.elim
  | .ok .cont, z => exact z.elim
theorem pe_mkA (M : Mk X.K C f) (F : FnA X.prog X.w X.K X.mg X.base k f fd ps sp) (hr : L2H.RoomH (k + 1) X.A) (hg : Gl X x) (hm : X.mg x = some (.ref C)) (hb : Binds X.K fd ps ds) (hd : Vals dvs ds) (ha : PA X (e :: es) t)
    (hdb : (x == ("__debug__" : Str)) = false := by decide) (he : starEach (e :: es) X.env = (false, eval e X.env) :: starEach es X.env := by rfl) (hpl : (backTo pos (starEach es X.env)).any (·.1) = false := by rfl) :
    PE X (.Call (.Name x p) (e :: es) [] pos) (tMkS C sp dvs (fun _ => E0) t) :=
  ⟨fun pins s σ H Q I h => wpAny_Call_Name_kw (ld_glob I hg hm (PySem.W.callWith_K (h₀ := X.base) I.ok.mod.kin M.kp (thn (ha.run pos pins s σ H _ I h) fun us s1 ⟨vs, H1, I1, r, q⟩ => ⟨I1.kIn, mkA_run M F hr hb hd I1 r q⟩) he hpl) hdb)⟩
/-- [p] == [q], p and q of one class with an own ==, that are equal -/
def rEqOne (C : Addr) (sp : Sp) : R2 := fun x y H Q => ∃ a b p q dx dy fs gs, x = .ref a ∧ y = .ref b ∧ H a = some (.lst [.ref p]) ∧ H b = some (.lst [.ref q]) ∧ p ≠ q ∧ H p = some (.ins C dx fs) ∧ H q = some (.ins C dy gs) ∧ sp [.ref p, .ref q] H (fun v H1 => v = .bl true ∧ Ext H H1 ∧ Q (.bl true) H1) E0
theorem op_eqOneA (hs : PySem.W.findIn X.K (.ref C) "__eq__" = some (some (.ref f))) (hf : PySem.W.isFn X.K (.ref f) = true) (F : FnA X.prog X.w X.K X.mg X.base k f fd ps sp) (hr : L2H.RoomH (k + 1) X.A) (hb : Binds X.K fd ps []) : OpR X (compareOp .Eq) (rEqOne C sp) := by
  intro pins s σ H x y v u Q I rx ry h
  obtain ⟨a, b, p, q, dx, dy, fs, gs, rfl, rfl, ha, hb', hne, hp, hq, k⟩ := h
  cases (show v = Value.ref a from rx)
  cases (show u = Value.ref b from ry)
  show wpAny (model X.prog X.w) X.A (richCompare .Eq (.ref a) (.ref b)) (EP X pins σ Q) X.xe s
  have one : ∀ {H1 : Hp} {s1 : Shared} {c z : Addr}, Inv X pins σ H1 s1 → H1 c = some (.lst [.ref z]) → ∃ n, s1.heap.get? c = some { cls := .type "list", data := .seq #[.ref z] n } := fun {H1 s1 c z} J e => by
    obtain ⟨_, its, n, r, e⟩ := J.hok c _ e
    cases r with
    | cons r1 r2 =>
      cases r2
      cases r1
      exact ⟨n, e⟩
  have hu : X.A.units < cLine := by have := hr.un; omega
  refine GQ.rc_listG (N := 1) hu (fun i s' => ∃ H1, Inv X pins σ H1 s' ∧ Ext H H1 ∧ ((i = 0 ∧ H1 = H) ∨ (i = 1 ∧ Q (.bl true) H1))) (fun i s' z => ?_) (fun s' z => ?_) ⟨H, I, Ext.rfl', .inl ⟨rfl, rfl⟩⟩
  · obtain ⟨H1, J, ex, z⟩ := z
    obtain ⟨n1, e1⟩ := one J (ex _ _ ha)
    obtain ⟨n2, e2⟩ := one J (ex _ _ hb')
    refine ⟨_, _, n1, n2, e1, e2, rfl, rfl, fun h1 h2 => ?_⟩
    rcases z with ⟨rfl, rfl⟩ | ⟨rfl, _⟩
    · obtain ⟨mA, Ob, _⟩ := ins_get J.hok hp
      obtain ⟨mB, Ob', _⟩ := ins_get J.hok hq
      obtain ⟨od, K1, _⟩ := Ob.look
      obtain ⟨od', K2, _⟩ := Ob'.look
      obtain ⟨m, fr⟩ := J.fr
      have r2 : Vals [V.ref p, V.ref q] [Value.ref p, Value.ref q] := .cons rfl (.cons rfl .nil)
      have bb := hb s' [.ref p, .ref q] J.kIn (by rw [List.append_nil]; exact r2.length.symm.trans (F.len _ _ _ k))
      rw [List.append_nil] at bb
      have go := F.run X.A.in1 X.stack s' H1 ⟨[.ref p, .ref q], []⟩ [.ref p, .ref q] _ _ (roomA_in1 hr) J.env0.in1 bb r2 k
      refine GQ.eqBool_refG hne (PySem.W.cmp_K (op := .Eq) (tb := .ref C) (by show X.A.units + 1 < cLine; have := hr.un; omega) fr J.ok.mod.kin K1 K2.type (by simp [PySem.W.notFirst]) hs hf (wpAny_call (codeAny_mono go fun r s2 w => ?_)))
      match r, w with
      | .ok (.ret u), w =>
        obtain ⟨v, H2, J2, rv, ev, ex2, q2⟩ := J.after w
        subst ev
        cases (show u = Value.bool true from rv)
        exact ⟨true, rfl, rfl, H2, J2, ex2, .inr ⟨rfl, q2⟩⟩
      | .ok .next, w => exact w.elim
      | .ok .brk, w => exact w.elim
      | .ok .cont, w => exact w.elim
      | .error e, w => exact pass0 pins σ H1 s' e s2 J w
    · exact absurd h1 (by show ¬ 1 < 1; omega)
  · obtain ⟨H1, J, _, ⟨z, _⟩ | ⟨_, q1⟩⟩ := z
    · cases z
    · exact ⟨.bl true, H1, J, rfl, q1⟩
end
end FG
namespace FG
open PySem PySem.Spec PyProof.Rows L2
/-! ## several clauses 'except X as n', the exception's context None -/
inductive ClausesN (X : Cx) : List ExceptHandler → List (Value × Nat × Suite) → Prop
  | nil : ClausesN X [] []
  | cons {x n : Str} {c : Value} {i : Nat} {ts : Suite} {st : Stmt} {sts : List Stmt} {p1 p2 : Pos} {hs : List ExceptHandler} {l : List (Value × Nat × Suite)} (nm : Names X x c) (sl : X.N[i]? = some n) (lo : X.env.kindOf n = some .local)
      (su : ∀ a oe cls d pn, L2N.Zn cls d oe → (∃ vs, oe.data = .fields vs) → PSs (X.suite a ((a, oe) :: pn)) (st :: sts) (ts a cls d)) (more : ClausesN X hs l) : ClausesN X (.ExceptHandler (some (.Name x p1)) (some n) (st :: sts) p2 :: hs) ((c, i, ts) :: l)
/-- what is known where the body's exception has landed in the frame of the try -/
structure LandedN (X : Cx) (pins : List (Addr × Obj)) (σ : L2.St) (H : Hp) (cls : Value) (d : Option Addr) (a : Addr) (B : Heap) (sI s : Shared) : Prop where
  inv : Inv X pins σ H sI
  nb : ∀ b o, sI.heap.get? b = some o → b ∉ frs X.stack → B.get? b = some o
  up : sI.heap.UpToSlots s.heap
  na : H a = none
  os : s.os = sI.os
  ag : AllBare s.gens
  fl : HandSPX.FlyingZ B (X.env :: X.outer) a (L2N.Zn cls d) s.heap
section
variable {X : Cx} {pins : List (Addr × Obj)} {σ : L2.St} {H : Hp} {cls : Value} {d : Option Addr} {a : Addr} {B : Heap} {sI s : Shared}
theorem LandedN.here (L : LandedN X pins σ H cls d a B sI s) : Inv X pins σ H s := L.inv.landed L.nb L.fl.1 L.up L.os L.ag
theorem LandedN.again (L : LandedN X pins σ H cls d a B sI s) {h' : Heap} (fl : HandSPX.FlyingZ B (X.env :: X.outer) a (L2N.Zn cls d) h') (up : s.heap.UpToSlots h') : LandedN X pins σ H cls d a B sI { s with heap := h' } := ⟨L.inv, L.nb, L.up.trans up, L.na, L.os, L.ag, fl⟩
theorem LandedN.apart (L : LandedN X pins σ H cls d a B sI s) (hf : X.env.frame = some X.env.locals) : a ≠ X.env.locals ∧ a ∉ X.fs := by
  obtain ⟨oe, vs, h1, _, h3⟩ := L.fl.there
  have no : a ∉ frs (X.env :: X.outer) := fun m => by
    obtain ⟨_, o', e', hn⟩ := L.fl.2.2.1.mem m
    exact hn vs (by rw [← Option.some.inj (h1.symm.trans e')]; exact h3)
  refine ⟨fun z => no (List.mem_filterMap.mpr ⟨X.env, .head _, hf.trans (congrArg some z.symm)⟩), fun m => ?_⟩
  obtain ⟨e, he, q⟩ := List.mem_filterMap.mp m
  exact no (List.mem_filterMap.mpr ⟨e, .tail _ he, q⟩)
theorem LandedN.suite (L : LandedN X pins σ H cls d a B sI s) (hf : X.env.frame = some X.env.locals) : ∃ oe vs, s.heap.get? a = some oe ∧ L2N.Zn cls d oe ∧ oe.data = .fields vs ∧ Inv (X.suite a ((a, oe) :: (X.pn ++ pins))) [] σ H s := by
  obtain ⟨oe, vs, h1, h2, h3⟩ := L.fl.there
  obtain ⟨n1, n2⟩ := L.apart hf
  exact ⟨oe, vs, h1, h2, h3, L.here.suite h1 h3 L.na n1 n2⟩
/-- nobody names it: it flies on -/
theorem none_namesN {Wo : WX} {D : Ends} (L : LandedN X pins σ H cls d a B sI s) (hs : X.stack = X.env :: X.outer) (hf : X.env.frame = some X.env.locals) (tk : L2N.Takes X Wo) (w : Wo cls d σ H) : wpAny (model X.prog X.w) X.A (handleBy (.ref a) X.env []) (SP X pins D) X.xe s := by
  have fin : wpAny (model X.prog X.w) X.A (setFlight (.ref a) X.env.frame) (fun _ s4 => wpAny (model X.prog X.w) X.A (throw (.ref a) : Sem Flow) (SP X pins D) X.xe s4) X.xe s := by
    rw [hf]
    exact HandSPX.setFlight_upZ L.fl fun h4 hh up => wpAny_throw (tk _ _ ⟨a, B, sI, pins, σ, H, cls, d, rfl, L.inv, L.nb, L.up.trans up, .inr (.inr (by rw [hs]; exact hh)), L.na, L.os, L.ag, w⟩)
  obtain ⟨_, _, _, oe, vs, t, ot, ts, he, hz, hd, h1, hr⟩ := id L.fl
  refine wpAny_handleBy_nil ?_
  unfold PySem.passOn
  refine wpAny_bind (wpAny_field he hd h1 ?_)
  rw [if_neg (by simp)]
  first
    | exact wpAny_bind fin
    | exact wpAny_bind (wpAny_pure (wpAny_bind fin))
theorem clauses_runN {Wo : WX} {D : Ends} (L : LandedN X pins σ H cls d a B sI s) (hs : X.stack = X.env :: X.outer) (hf : X.env.frame = some X.env.locals) (nd : X.N.Nodup) (tk : L2N.Takes X Wo) {hds : List ExceptHandler} {l : List (Value × Nat × Suite)} (hc : ClausesN X hds l)
    (w : wAll X.K Wo D l cls d σ H) : wpAny (model X.prog X.w) X.A (handleBy (.ref a) X.env hds) (SP X pins D) X.xe s := by
  induction hc with
  | nil => exact none_namesN L hs hf tk w
  | @cons x n c i ts st sts p1 p2 hs' l' nm sl lo su more ih =>
    obtain ⟨b, e, yes, no⟩ := w
    obtain ⟨oe, vs, g1, g2, g3, S⟩ := L.suite hf
    have ty : PySem.W.Looks (model X.prog X.w) s.heap (typeOf (.ref a)) cls := fun _ _ _ _ k q => wpAny_typeOf_ref (k _ _ g1) (by rw [g2.1]; exact q)
    refine wpAny_handleBy_cons (codeAny_handlers_test (names_run nm S ((PySem.W.exm_one (M := model X.prog X.w) L.here.kIn ty e).here ?_))) (fun z => by cases z)
    cases b with
    | false => exact ih (no rfl)
    | true =>
      refine codeAny_handlers_suite_as (HandSPX.lands_againZ L.fl fun h4 fl4 up4 => ?_)
      obtain ⟨oe4, vs4, k1, k2, k3, S4⟩ := (L.again fl4 up4).suite hf
      refine store_ok (X := X.suite a ((a, oe4) :: (X.pn ++ pins))) (v := .ref a) S4 nd sl (.inl lo) rfl (fun s5 S5 => ?_) (.inr lo)
      exact wpAny_mono ((su a oe4 cls d _ k2 ⟨_, k3⟩).run [] s5 _ H _ S5 (yes rfl a L.na)) (fun f s6 z => suite_end L.inv.ok nd sl lo z) fun _ _ z => False.elim z
end
theorem ps_tryN {X : Cx} {body : List Stmt} {h0 : ExceptHandler} {hds : List ExceptHandler} {l : List (Value × Nat × Suite)} {pos : Pos} {tb : WX → TS} {Wo : WX} (hs : X.stack = X.env :: X.outer) (hf : X.env.frame = some X.env.locals) (nd : X.N.Nodup) (tk : L2N.Takes X Wo)
    (hb : ∀ (W : WX) (pn : List (Addr × Obj)) (xe : Value → Shared → Prop), L2N.Takes (X.tr pn xe) W → PassesOwn (model X.prog X.w) X.A X.env xe → PSs (X.tr pn xe) body (tb W)) (hc : ClausesN X (h0 :: hds) l) :
    PS X (.Try body (h0 :: hds) [] [] pos) (fun D σ H => tb (wAll X.K Wo D l) D σ H) := by
  refine ⟨fun pins s σ H D I h => wpAny_Try_except (wpAny_mono ((hb (wAll X.K Wo D l) (X.pn ++ pins) _ (fun u s' xx => ?_) PassesOwn.looking).run [] s σ H D (I.toTry _) h) (fun f s1 z => ?_) fun _ _ z => z)⟩
  · obtain ⟨a, B, sI, _, σ1, H1, cls, d, rfl, J, nb, up, sky, na, os, ag, w⟩ := xx
    have sky' : Sky B (X.env :: X.outer) a (L2N.Zn cls d) X.env.locals s'.heap := by rw [← hs]; exact sky
    exact L2N.Sky.land L2N.Zn.steady (by rw [I.ok.frames, hs]) hf sky' fun h3 fl3 up3 => clauses_runN (s := { s' with heap := h3 }) ⟨J.ofTry I.ok, nb, up.trans up3, na, os, ag, fl3⟩ hs hf nd tk hc w
  · cases f with
    | ret u =>
      obtain ⟨v, σ1, H1, J, r, q⟩ := z
      exact ⟨v, σ1, H1, J.ofTry I.ok, r, q⟩
    | next =>
      obtain ⟨σ1, H1, J, q⟩ := z
      exact wpAny_execs_nil ⟨σ1, H1, J.ofTry I.ok, q⟩
    | brk | cont =>
      obtain ⟨σ1, H1, J, q⟩ := z
      exact ⟨σ1, H1, J.ofTry I.ok, q⟩
section
variable {X : Cx} {nm qn f f2 msg : Str} {ps : Arguments} {bd : List Stmt} {sc : Scope} {C fI cc cda : Addr} {a a2 : Expr} {ta tb : TE} {p pos : Pos} {k : Nat}
/-- what making such an error does to the state: e is new, its own dict d is tracked from now on -/
theorem mkp_ofN {pins : List (Addr × Obj)} {σ : L2.St} {H1 : Hp} {Q : XK} {hp h' : Heap} {g : Array GenState} {dr : Drawn} {tk tk' : Nat} {os : OsState} {e d : Addr} {m : Str → Option Value} {fs : List (Str × V)}
    (T : ErrC X.prog X.K X.mg nm qn ps bd sc C fI cc cda) (I1 : Inv X pins σ H1 ⟨hp, g, dr, tk, os⟩) (M : Made hp h' e C d m) (rel : ∀ y, RelO (fs.lookup y) (m y))
    (q1 : ∀ d, H1 d = none → Q (.ref C) (some d) (upd H1 d (.xd fs))) : L2N.MkP X pins σ Q (.ref e) ⟨h', g, dr, tk', os⟩ := by
  obtain ⟨oe, fv, hoe, hc, hd, hdat, h1, h2⟩ := M.obj
  have hns := M.ns
  obtain ⟨G', g1, g2⟩ := restrict h' fun b => decide (b ≠ e)
  have gk : ∀ b, b ≠ e → G'.get? b = h'.get? b := fun b hb => g1 b (decide_eq_true hb)
  have ge : G'.get? e = none := g2 e (by simp)
  have old : ∀ b o, hp.get? b = some o → G'.get? b = some o := fun b o z => (gk b (Nat.ne_of_lt (Nat.lt_of_lt_of_le (Heap.lt_size z) M.new))).trans (M.keep b o z)
  have ob : ObjOk X.prog X.w (upd H1 d (.xd fs)) G' d (.xd fs) := ⟨_, hns.at (fun o z => (gk d M.dne).trans z), rel⟩
  have J : Inv X pins σ (upd H1 d (.xd fs)) ⟨G', g, dr, tk', os⟩ := I1.laid (t' := tk') old M.dbig ob
  refine ⟨e, oe, fv, ⟨G', g, dr, tk', os⟩, _, .ref C, some d, rfl, J, fun b o z => ?_, ge, hoe, ⟨hc, hd, fun vs z => by rw [hdat] at z; cases z; exact h2⟩, hdat, h1, ?_, rfl, I1.bare, raises_own T.exC T.tyC, q1 d (I1.hok.fresh M.dbig)⟩
  · have nb : b ≠ e := fun y => by
      have z' : G'.get? b = some o := z
      rw [y, ge] at z'
      cases z'
    exact (gk b nb).symm.trans z
  · rw [upd_ne (Ne.symm M.dne)]
    exact I1.hok.fresh M.new
theorem pmk1N {as : List Expr} {ta : TA} (T : ErrC X.prog X.K X.mg nm qn ps bd sc C fI cc cda) (Y : Txt1 qn f msg ps bd sc) (no : PySem.W.findIn X.K (.ref C) f = some none) (hr : Room k X.A) (ha : PA X (a :: as) ta) (hg : Gl X nm := by rfl) (hdb : (nm == ("__debug__" : Str)) = false := by decide)
    (he : starEach (a :: as) X.env = (false, eval a X.env) :: starEach as X.env := by rfl) (hpl : (backTo pos (starEach as X.env)).any (·.1) = false := by rfl) : L2N.PMk X (.Call (.Name nm p) (a :: as) [] pos) (tMk1 C f ta) := by
  intro pins s σ H Q I h
  refine wpAny_Call_Name_kw (ld_glob I hg T.gC ?_ hdb)
  refine PySem.W.callWith_K (h₀ := X.base) I.ok.mod.kin T.kC (thn (ha.run pos pins s σ H _ I h) fun us s1 ⟨vs, H1, I1, r1, v, ev, q1⟩ => ⟨I1.kIn, ?_⟩) he hpl
  subst ev
  have Nm := names_of I1
  have lim := I1.nolimit
  have KI := I1.kIn
  cases r1 with
  | @cons _ u1 _ ur rv rn =>
    cases rn
    obtain ⟨hp, g, dr, tk, os⟩ := s1
    exact wpAny_call (made_of (m := fun y => if y = f then some u1 else none) T KI lim Nm (ve_len _) (fun A' hp' x t0 R' x1 x2 x3 x4 x5 x6 x7 => init1 T Y no x1 x2 x3 x4 x5 x6 x7) (by have := hr.dp; omega) fun h' tk' e d M => mkp_ofN T I1 M (relO1 rv) q1)
theorem pmk2N {as : List Expr} {ta : TA} (T : ErrC X.prog X.K X.mg nm qn ps bd sc C fI cc cda) (Y : Txt2 qn f f2 msg ps bd sc) (no : PySem.W.findIn X.K (.ref C) f = some none) (no2 : PySem.W.findIn X.K (.ref C) f2 = some none) (hr : Room k X.A) (ha : PA X (a :: as) ta) (hg : Gl X nm := by rfl) (hdb : (nm == ("__debug__" : Str)) = false := by decide)
    (he : starEach (a :: as) X.env = (false, eval a X.env) :: starEach as X.env := by rfl) (hpl : (backTo pos (starEach as X.env)).any (·.1) = false := by rfl) : L2N.PMk X (.Call (.Name nm p) (a :: as) [] pos) (tMk2 C f f2 ta) := by
  intro pins s σ H Q I h
  refine wpAny_Call_Name_kw (ld_glob I hg T.gC ?_ hdb)
  refine PySem.W.callWith_K (h₀ := X.base) I.ok.mod.kin T.kC (thn (ha.run pos pins s σ H _ I h) fun us s1 ⟨vs, H1, I1, r1, v, v2, ev, q1⟩ => ⟨I1.kIn, ?_⟩) he hpl
  subst ev
  have Nm := names_of I1
  have lim := I1.nolimit
  have KI := I1.kIn
  cases r1 with
  | @cons _ u1 _ ur rv rn =>
    cases rn with
    | @cons _ u2 _ ur2 rv2 rn2 =>
      cases rn2
      obtain ⟨hp, g, dr, tk, os⟩ := s1
      exact wpAny_call (made_of (m := fun y => if y = f2 then some u2 else if y = f then some u1 else none) T KI lim Nm (two_len _ _) (fun A' hp' x t0 R' x1 x2 x3 x4 x5 x6 x7 => init2 T Y no no2 x1 x2 x3 x4 x5 x6 x7) (by have := hr.dp; omega) fun h' tk' e d M => mkp_ofN T I1 M (relO2 Y.nff rv rv2) q1)
end
theorem takes0N {X : Cx} : L2N.Takes X (fun _ _ _ _ => False) := fun _ _ x => by
  obtain ⟨_, _, _, _, _, _, _, _, _, _, _, _, _, _, _, _, z⟩ := x
  exact z.elim
theorem ps_rsN {X : Cx} {W : WX} {e : Expr} {t : L2.St → Hp → XK → Prop} {pos : Pos} (hc : X.calm = true) (tk : L2N.Takes X W) (he : L2N.PMk X e t) : PS X (.Raise (some e) none pos) (tRs W t) := L2N.ps_raise hc tk he
theorem hotS {X : Cx} {a : Addr} {oe : Obj} {cls : Value} {d : Option Addr} {pn : List (Addr × Obj)} (hz : L2N.Zn cls d oe) (hf : ∃ vs, oe.data = .fields vs) : L2H.HotC (X.suite a ((a, oe) :: pn)) := by
  obtain ⟨vs, e⟩ := hf
  exact ⟨(a, oe), ⟨rfl, vs, e, hz.2.2 vs e⟩, .head _⟩
/-! ## a, b = x, y while an exception is handled -/
section
variable {prog : Program} {w : World} {A : Around} {E : Value → Shared → Prop} {s : Shared}
theorem next_tuple_end_hot {it t x1 : Addr} {i : Nat} {items : Array Value} {Q : Option Value → Shared → Prop} (hot : HotX.HotAt A x1 s.heap) (nx : x1 ≠ it)
    (hit : IsTupIter s.heap it t i) (ht : IsTup s.heap t items) (hx : items[i]? = none)
    (hQ : ∀ h', Heap.ExtBut it s.heap h' → Q none { s with heap := h' }) : wpAny (model prog w) A (pyNext (.ref it)) Q E s := by
  obtain ⟨o, ho, hc, hd⟩ := id hit
  obtain ⟨ol, hol, _, nl, hdl⟩ := ht
  obtain ⟨hh, o1, vs1, h1, d1, c1⟩ := hot
  unfold pyNext
  refine wpAny_bind (wpAny_attempt (wpAny_callSpecial?_slot (name := Str.ofString "__next__") hit.typeIs slot_tupleiter_next
    (wpAny_call_entry slot_tupleiter_next hit.typeIs entry_tupleiter_next ?_ (args_tupleiter_next _))))
  show wpAny _ _ (field (.ref it) 0 >>= _) _ _ s
  refine wpAny_bind (wpAny_field ho hd (x := .ref t) rfl ?_)
  show wpAny _ _ (if (Value.ref t == Value.none) = true then _ else _) _ _ s
  rw [if_neg (show ¬ ((Value.ref t == Value.none) = true) from Bool.false_ne_true)]
  show wpAny _ _ (field (.ref it) 1 >>= _) _ _ s
  refine wpAny_bind (wpAny_field ho hd (x := .int i 0) rfl ?_)
  show wpAny _ _ (seqItems? (.ref t) >>= _) _ _ s
  refine wpAny_bind (wpAny_seqItems hol hdl ?_)
  simp only [Int.toNat_natCast, hx]
  refine wpAny_bind (wpAny_rule (wpAny_bind (wpAny_setField ho hd (by simp) ?_)))
  show wpAny _ _ (newExc (.type "StopIteration") [] >>= _) _ _ _
  refine wpAny_bind ?_
  simp only [newExc, newTuple]
  refine wpAny_bind (wpAny_newObj_type ?_ (by size_fits))
  refine wpAny_bind (m := firstArgMember _ _) (wpAny_of_eq (a := Value.none) (by first | rfl | (simp only [firstArgMember]; rfl)) ?_)
  refine wpAny_newObj_type ?_ (by size_fits)
  have g1 : (s.heap.update it (Obj.mapFields (·.setIfInBounds 0 Value.none))).get? x1 = some o1 := (Heap.get?_update_other _ _ (Ne.symm nx)).trans h1
  refine HotX.raiseNew_hot ⟨hh, o1, vs1, Heap.get?_push_of_some _ (Heap.get?_push_of_some _ g1), d1, c1⟩ (Nat.ne_of_lt (Heap.lt_size (Heap.get?_push_of_some _ g1))) (Heap.get?_push_size _ rfl) rfl (by first | (simp; done) | (simp; omega) | (simp only [Array.size_append]; simp; omega)) ?_
  refine wpAny_bind (wpAny_isInstance (T := "StopIteration") (b := true) ⟨_, Heap.get?_update_self _ (Heap.get?_push_size _ rfl) rfl, rfl⟩ isSubtype_stop ?_)
  refine wpAny_pure (hQ _ fun b o hb e => ?_)
  have e2 : (s.heap.update it (Obj.mapFields (·.setIfInBounds 0 Value.none))).get? b = some o := (Heap.get?_update_other _ _ (Ne.symm hb)).trans e
  rw [Heap.get?_update_other _ _ (Nat.ne_of_gt (Heap.lt_size (Heap.get?_push_of_some _ e2)))]
  exact Heap.get?_push_of_some _ (Heap.get?_push_of_some _ e2)
theorem unpackItems_tuple_hot {t x1 : Addr} {items : Array Value} {Q : List Value → Shared → Prop} (hot : HotX.HotAt A x1 s.heap) (ht : IsTup s.heap t items)
    (hQ : ∀ h', Heap.ExtBut s.heap.objs.size s.heap h' → Q items.toList { s with heap := h' }) : wpAny (model prog w) A (unpackItems (.ref t) items.size none) Q E s := by
  have hlt : t ≠ s.heap.objs.size := by obtain ⟨o, ho, _⟩ := ht; exact Nat.ne_of_lt (Heap.lt_size ho)
  have hx1 : x1 ≠ s.heap.objs.size := by obtain ⟨_, o, vs, ho, _⟩ := hot; exact Nat.ne_of_lt (Heap.lt_size ho)
  unfold unpackItems
  refine wpAny_bind ?_
  · unfold notIterableAtAll
    refine wpAny_bind (wpAny_specialOf ht.typeIs slot_tuple_iter.lookup ?_)
    refine wpAny_pure ?_
    simp only [Bool.false_eq_true, if_false]
    refine wpAny_bind (wpAny_holding (iter_tuple ht ?_))
    refine wpAny_bind (wpAny_holding (draw_tuple hlt items.size 0 _ _ ⟨_, Heap.get?_push_size _ rfl, rfl, rfl⟩ (ht.push _) (by omega) fun h₁ hit₁ hs₁ => ?_))
    have hall : List.take items.size (List.drop 0 items.toList) = items.toList := by
      rw [List.drop_zero]; exact List.take_of_length_le (by simp)
    rw [hall]
    rw [if_neg (by simp)]
    have ht₁ : IsTup h₁ t items := (ht.push _).extBut hs₁.extBut hlt
    obtain ⟨hh, o1, vs1, g1, d1, c1⟩ := hot
    refine wpAny_bind (wpAny_holding (next_tuple_end_hot (x1 := x1) ⟨hh, o1, vs1, hs₁.extBut _ _ hx1 (Heap.get?_push_of_some _ g1), d1, c1⟩ hx1 hit₁ ht₁ (by simp) fun h₂ he₂ => ?_))
    simp only [Option.isSome_none, Bool.false_eq_true, if_false]
    refine wpAny_pure (hQ h₂ fun b o hb e => he₂ b o hb (hs₁.extBut b o hb (Heap.get?_push_of_some _ e)))
end
section
variable {X : Cx} {pos : Pos}
theorem ps_parH {i j : Nat} {x y : Str} {a b : Expr} {ta : TA} {px py pt : Pos} {kt k2 pt2} (hc : L2H.HotC X) (hN : X.N.Nodup) (hi : X.N[i]? = some x) (hj : X.N[j]? = some y) (hij : i ≠ j)
    (hx : X.env.scope.names.lookup x = some .local) (hy : X.env.scope.names.lookup y = some .local) (ha : PA X [a, b] ta)
    (hw : swappedStores [.Tuple [.Name x px, .Name y py] kt pt] (.Tuple [a, b] k2 pt2) X.env = pure (some [x, y]))
    (hs : swapsWithSole [.Tuple [.Name x px, .Name y py] kt pt] (.Tuple [a, b] k2 pt2) pos.line X.env = pure false := by rfl) :
    PS X (.Assign [.Tuple [.Name x px, .Name y py] kt pt] (.Tuple [a, b] k2 pt2) pos) (tPar i j ta) := by
  refine ⟨fun pins s σ H D I h => ?_⟩
  rw [exec_Assign_arm]
  refine wpAny_bind (wpAny_standAt ?_)
  rw [hs]
  refine wpAny_bind (wpAny_pure ?_)
  rw [if_neg (by decide)]
  refine wpAny_bind (Tuple_ (thn (ha.run _ pins s σ H _ I h) fun us s1 ⟨vs, H1, I1, r1, q1⟩ => ?_))
  obtain ⟨v, w, e1, q1⟩ := q1
  subst e1
  obtain ⟨u1, u2, rfl, rv, rw'⟩ : ∃ u1 u2, us = [u1, u2] ∧ RelV v u1 ∧ RelV w u2 := by
    cases r1 with
    | cons p q =>
      cases q with
      | cons p' q' =>
        cases q'
        exact ⟨_, _, rfl, p, p'⟩
  refine wpAny_newObj_type ?_ (by show 2 ≤ sizeLine; decide)
  have I2 : Inv X pins σ H1 { s1 with heap := s1.heap.push { cls := .type "tuple", data := .seq [u1, u2].toArray } } := I1.kept (t' := s1.toks) fun b o e => Heap.get?_push_of_some _ e
  rw [hw]
  refine wpAny_bind (wpAny_pure ?_)
  show wpAny (model X.prog X.w) X.A (do rule "assign.swapped-stores"; let items ← unpackItems (.ref s1.heap.objs.size) 2 none; assignInOrder [fun v => bindName X.env y v, fun v => bindName X.env x v] items.reverse; pure Flow.next) _ _ _
  obtain ⟨x1, hot⟩ := hc.at I2
  refine wpAny_bind (wpAny_rule (wpAny_bind (unpackItems_tuple_hot (items := #[u1, u2]) hot (IsTup.new s1.heap _) fun h' hx' => ?_)))
  have I3 := I2.kept (h' := h') (t' := s1.toks) fun b o e => hx' b o (Nat.ne_of_lt (Heap.lt_size e)) e
  show wpAny _ _ (assignInOrder [fun v => bindName X.env y v, fun v => bindName X.env x v] [u2, u1] >>= fun _ => pure Flow.next) _ _ _
  refine wpAny_bind (assignInOrder_cons (wpAny_bindName (store_ok I3 hN hj (.inl hy) rw' (fun s2 I4 => ?_) (.inr hy))))
  refine assignInOrder_cons (wpAny_bindName (store_ok I4 hN hi (.inl hx) rv (fun s3 I5 => assignInOrder_nil (wpAny_pure ?_)) (.inr hx)))
  rw [List.set_comm _ _ (Ne.symm hij)] at I5
  exact ⟨_, H1, I5, q1⟩
end
/-! ## defs that are called while an exception is handled; they let nothing out -/
abbrev cxHn (P : Program) (w : World) (K : PySem.W.Frag) (mg : Str → Option Value) (base : Heap) (N : List Str) (qual : Str) (scope : Scope) (f : Addr) (cd : Value) (A : Around) (outer : List Env) (s : Shared) (H : Hp) (E : XK) (p : Addr × Obj) : Cx :=
  (L2H.cxH CX0 P w K mg base N qual scope f cd A outer s H E p).nox
section
variable {P : Program} {w : World} {K : PySem.W.Frag} {mg : Str → Option Value} {base : Heap} {f : Addr} {N ps : List Str} {sp : Sp} {k : Nat}
theorem hotN {qual : Str} {scope : Scope} {cd : Value} {A : Around} {outer : List Env} {s : Shared} {H : Hp} {E : XK} {p : Addr × Obj} {env : Env} (h : L2H.Hot1 A p) : L2H.HotC (cxHn P w K mg base N qual scope f cd A outer s H E p) := ⟨p, h, .head _⟩
theorem funH {x qual : Str} {st : Stmt} {fd : FuncData} (F : Fun K x qual st f fd) (S : FnScope N ps (defScope st)) (len : ∀ vs H Q E, sp vs H Q E → vs.length = ps.length)
    (hbody : ∀ (cdv : Value) (A : Around) (outer : List Env) (s : Shared) (H : Hp) (vs : List V) (Q : VK) (E : XK) (p : Addr × Obj), L2H.Hot1 A p → L2H.RoomH k (A.deeper (envOfC qual (defScope st) s.heap.objs.size f cdv)) → sp vs H Q E →
      ∃ t, PSs (cxHn P w K mg base N qual (defScope st) f cdv A outer s H E p) (defBody st) t ∧ t { nx := fun _ H' => Q .non H', rt := Q } (L2.start N vs) H) : L2H.FnH P w K mg base CX0 (k + 1) f fd ps sp := by
  obtain ⟨oc, od, kV, doc, pm, an, cdv, ct, osl, rfl, lk, hcd⟩ := F.ex
  refine L2H.fn_ofH lk hcd S len fun A outer s H vs Q E p hot hr hsp => ?_
  obtain ⟨t, h, q⟩ := hbody cdv A outer s H vs Q E p hot hr hsp
  exact ⟨t, h.nox, q⟩
theorem funDH {x qual : Str} {params : Arguments} {body : List Stmt} {scope : Scope} {dvs : List V} {kws : List (Str × V)} {fd : FuncData} (F : FunD K x qual params body scope dvs kws f fd) (S : FnScope N ps scope) (len : ∀ vs H Q E, sp vs H Q E → vs.length = ps.length)
    (hbody : ∀ (cdv : Value) (A : Around) (outer : List Env) (s : Shared) (H : Hp) (vs : List V) (Q : VK) (E : XK) (p : Addr × Obj), L2H.Hot1 A p → L2H.RoomH k (A.deeper (envOfC qual scope s.heap.objs.size f cdv)) → sp vs H Q E →
      ∃ t, PSs (cxHn P w K mg base N qual scope f cdv A outer s H E p) body t ∧ t { nx := fun _ H' => Q .non H', rt := Q } (L2.start N vs) H) : L2H.FnH P w K mg base CX0 (k + 1) f fd ps sp := by
  obtain ⟨oc, od, dV, kV, doc, pm, an, cdv, ct, osl, rfl, lk, hcd, _, _⟩ := F.ex
  refine L2H.fn_ofH lk hcd S len fun A outer s H vs Q E p hot hr hsp => ?_
  obtain ⟨t, h, q⟩ := hbody cdv A outer s H vs Q E p hot hr hsp
  exact ⟨t, h.nox, q⟩
end
theorem FunD.ok0 {P : Program} {w : World} {K : PySem.W.Frag} {mg : Str → Option Value} {base : Heap} {x qual : Str} {params : Arguments} {body : List Stmt} {scope : Scope} {dvs : List V} {kws : List (Str × V)} {f : Addr} {fd : FuncData} {N ps : List Str} {k : Nat} {sp : Sp}
    (F : FunD K x qual params body scope dvs kws f fd) (S : FnScope N ps scope) (len : ∀ vs H Q E, sp vs H Q E → vs.length = ps.length)
    (hbody : ∀ (cdv : Value) (A : Around) (outer : List Env) (s : Shared) (H : Hp) (vs : List V) (Q : VK) (E : XK), Room k (A.deeper (envOfC qual scope s.heap.objs.size f cdv)) → sp vs H Q E →
      ∃ t, PSs (cxOf CX0 P w K mg base N qual scope f cdv A outer s H E).nox body t ∧ t { nx := fun _ H' => Q .non H', rt := Q } (L2.start N vs) H) : FnOk P w K mg base CX0 (k + 1) f fd ps sp :=
  F.ok S len fun cdv A outer s H vs Q E hr h => by
    obtain ⟨t, a, b⟩ := hbody cdv A outer s H vs Q E hr h
    exact ⟨t, a.nox, b⟩
theorem pass0S {X : Cx} (σ : L2.St) : PassesAt CX0 X σ E0 := fun pins H s e s' I h => pass0 pins σ H s e s' I h
section
variable {X : Cx} {k : Nat} {f C : Addr} {fd : FuncData} {ps : List Str} {sp : Sp} {dvs : List V} {ds : List Value} {x : Str} {p pos : Pos} {e : Expr} {es : List Expr} {t : TA}
/-- f(e, ..) there -/
theorem pe_callHn (F : L2H.FnH X.prog X.w X.K X.mg X.base CX0 k f fd ps sp) (hc : L2H.HotC X) (hr : L2H.RoomH k X.A) (hg : Gl X x) (hm : X.mg x = some (.ref f)) (hk : PySem.W.keepIn X.K (.ref f) = true) (hb : Binds X.K fd ps [])
    (ha : PA X (e :: es) t) (hdb : (x == ("__debug__" : Str)) = false := by decide) (he : starEach (e :: es) X.env = (false, eval e X.env) :: starEach es X.env := by rfl) (hpl : (backTo pos (starEach es X.env)).any (·.1) = false := by rfl) :
    PE X (.Call (.Name x p) (e :: es) [] pos) (tCallS sp (fun _ => E0) t) := L2H.pe_callH (E := fun _ => E0) F hr hc hg hm hk hb (fun σ pins H s e s' I h => pass0 pins σ H s e s' I h) ha hdb he hpl
theorem mkH_run {pins : List (Addr × Obj)} {σ : L2.St} {H : Hp} {s : Shared} {Q : VK} {us : List Value} {vs : List V} (M : Mk X.K C f) (F : L2H.FnH X.prog X.w X.K X.mg X.base CX0 k f fd ps sp) (hc : L2H.HotC X) (hr : L2H.RoomH (k + 1) X.A) (hb : Binds X.K fd ps ds) (hd : Vals dvs ds) (I : Inv X pins σ H s) (r : Vals vs us)
    (h : ∀ z dz, H z = none → H dz = none → dz ≠ z → sp (.ref z :: (vs ++ dvs)) (upd (upd H dz (.own z)) z (.ins C dz [])) (fun v H2 => v = .non ∧ Q (.ref z) H2) E0) :
    wpAny (model X.prog X.w) X.A (call (.ref C) us) (EP X pins σ Q) X.xe s := by
  have J := Inv.made (C := C) I
  have q0 := h _ _ (I.hok.fresh (Nat.le_succ s.heap.objs.size)) (I.hok.fresh (Nat.le_refl _)) (Nat.ne_of_lt (Nat.lt_succ_self _))
  have rr : Vals (V.ref (s.heap.objs.size + 1) :: (vs ++ dvs)) (Value.ref (s.heap.objs.size + 1) :: (us ++ ds)) := .cons rfl (r.append hd)
  obtain ⟨p, hot, hp⟩ := hc
  have P1 := J.pin p (List.mem_append_left _ hp)
  have hpin : L2H.PinOk X.stack _ _ p := ⟨P1.1, P1.2.1, fun hm => (List.mem_cons.mp (J.stkSub p.1 hm)).elim P1.2.2.1 P1.2.2.2.1, P1.2.2.2.2⟩
  have go := F.run _ X.stack _ _ ⟨Value.ref (s.heap.objs.size + 1) :: us, []⟩ _ _ _ _ p (hr.make C us []) hot hpin (J.env0.make C us []) (hb _ (Value.ref (s.heap.objs.size + 1) :: us) J.kIn (rr.length.symm.trans (F.len _ _ _ _ q0))) rr q0
  refine wpAny_call (make_map (f := f) I.kIn M.makes M.init (beq_iff_eq.mp M.fn) (codeAny_mono go fun res s' z => ?_))
  match res, z with
  | .error er, z => exact pass0 pins σ H s er s' I z
  | .ok (.ret u), z =>
    obtain ⟨v, H2, J2, rv, ev, q2⟩ := J.after z
    subst ev
    exact ⟨rv, ⟨V.ref (s.heap.objs.size + 1), H2, J2, rfl, q2⟩⟩
  | .ok .next, z => exact z.elim
  | .ok .brk, z => exact z.elim
  | .ok .cont, z => exact z.elim
theorem pe_mkH (M : Mk X.K C f) (F : L2H.FnH X.prog X.w X.K X.mg X.base CX0 k f fd ps sp) (hc : L2H.HotC X) (hr : L2H.RoomH (k + 1) X.A) (hg : Gl X x) (hm : X.mg x = some (.ref C)) (hb : Binds X.K fd ps ds) (hd : Vals dvs ds) (ha : PA X (e :: es) t)
    (hdb : (x == ("__debug__" : Str)) = false := by decide) (he : starEach (e :: es) X.env = (false, eval e X.env) :: starEach es X.env := by rfl) (hpl : (backTo pos (starEach es X.env)).any (·.1) = false := by rfl) :
    PE X (.Call (.Name x p) (e :: es) [] pos) (tMkS C sp dvs (fun _ => E0) t) :=
  ⟨fun pins s σ H Q I h => wpAny_Call_Name_kw (ld_glob I hg hm (PySem.W.callWith_K (h₀ := X.base) I.ok.mod.kin M.kp (thn (ha.run pos pins s σ H _ I h) fun us s1 ⟨vs, H1, I1, r, q⟩ => ⟨I1.kIn, mkH_run M F hc hr hb hd I1 r q⟩) he hpl) hdb)⟩
end
end FG
namespace FG
open PySem PySem.Spec PyProof.Rows L2
/-! ## {k: v}, k a tuple -/
def tDispT1 (tk tv : TE) : TE := fun σ H Q => ∀ p, H p = none → tk σ (upd H p (.dT [])) fun x H1 => tv σ H1 fun y H2 => H2 p = some (.dT []) ∧ ∃ b k, x = .ref b ∧ H2 b = some (.tup (k.map kV)) ∧ Q (.ref p) (upd H2 p (.dT [(k, y)]))
theorem pe_dispT1 {X : Cx} {pos : Pos} {k v : Expr} {tk tv : TE} (hu : X.A.units + 1 < cLine) (hk : PE X k tk) (hv : PE X v tv) : PE X (.Dict [some k] [v] pos) (tDispT1 tk tv) := by
  refine ⟨fun pins s σ H Q I q => ?_⟩
  have I1 := I.laid (a := s.heap.objs.size) (o := .dT []) (t' := s.toks) (fun _ _ z => Heap.get?_push_of_some _ z) (Nat.le_refl _) (dt_empty s.heap I.big)
  have hp := I.hok.fresh (Nat.le_refl s.heap.objs.size)
  rw [arm_eval_Dict, zip_pairTrees [some k] [v] X.env pos rfl rfl, dictDisplay_pairs _ (by intro z; cases z) (by show 1 < 17; decide)]
  refine wpAny_bind (wpAny_standAt (wpAny_bind (wpAny_subDictH (knd := tupleKind (mixKind X.prog X.w)) (by show X.A.units < cLine; omega) (by show 1 ≤ 15; decide) ?_)))
  refine pairTrees_cons_walk (thn (hk.run pins _ σ _ _ I1 (q _ hp)) fun u s1 ⟨x, H1, J1, rx, q1⟩ => thn (hv.run pins s1 σ H1 _ J1 q1) fun w2 s2 ⟨y, H2, J2, ry, e, b, kk, ex, eb, q2⟩ => pairTrees_nil_walk ?_)
  subst ex
  cases (show u = Value.ref b from rx)
  obtain ⟨_, hd, xs, rel, dd⟩ := dt_of J2.hok e
  cases rel
  refine ⟨[(kk, b, w2)], ⟨rfl, rfl, key_of J2.hok eb, trivial⟩, dd, fun h' tk' dd' hs => wpAny_pure ⟨.ref s.heap.objs.size, _, ?_, rfl, q2⟩⟩
  obtain ⟨o, es, ep, g1, g2, g3, g4, _, g5⟩ := dd'
  refine d_write J2 (by rw [e]; exact True.intro) hs ⟨o, g1⟩ ⟨by show 1 ≤ sizeLine; decide, hd, [(kk, b, w2)], .cons ⟨rfl, ?_, ry⟩ .nil, o, es, ep, g1, g2, g3, g4, g5⟩
  rw [upd_ne (ne_of eb e (fun z => nomatch z))]
  exact eb
section
variable {σ : L2.St} {H : Hp} {Q : VK} {tk tv : TE}
theorem w_dispT1 (k : ∀ p, H p = none → tk σ (upd H p (.dT [])) fun x H1 => tv σ H1 fun y H2 => H2 p = some (.dT []) ∧ ∃ b k, x = .ref b ∧ H2 b = some (.tup (k.map kV)) ∧ Q (.ref p) (upd H2 p (.dT [(k, y)]))) : tDispT1 tk tv σ H Q := k
end
end FG
namespace FG
open PySem PySem.Spec PyProof.Rows L2
/-! ## the head by one run in the kernel: what is read off the heap behind the top -/
abbrev Fg : Type := PySem.W.Frag
def fdAt (K : Fg) (f : Addr) : FuncData := match K.lookup f with
  | some ⟨_, _, .func fd, _⟩ => fd
  | _ => default
/-- a def: where it stands, its text, its defaults, the names of its closure -/
structure DefX where
  at_ : Fg → Addr
  name : Str
  qual : Str
  params : Arguments
  body : List Stmt
  scope : Scope
  dfl : List He.Dv := []
  kwd : List (Str × He.Dv) := []
  clo : List Str := []
abbrev FnX : Type := Option (Str × Str × Arguments × FuncBody × Scope × Addr × List Str × Addr)
def fnX (K : Fg) (f : Addr) : FnX := match K.lookup f with
  | some ⟨_, _, .func fd, _⟩ => some (fd.name, fd.qualname, fd.params, fd.body, fd.scope, fd.globals, fd.closure.map (·.1), fd.builtins)
  | _ => none
def DefX.val (d : DefX) : FnX := some (d.name, d.qual, d.params, .stmts d.body, d.scope, mainGlobals, d.clo, builtinsNs)
def DefX.dvs (K : Fg) (d : DefX) : List V := d.dfl.map (He.Dv.v K)
def DefX.kws (K : Fg) (d : DefX) : List (Str × V) := d.kwd.map fun q => (q.1, q.2.v K)
def DefX.ok (K : Fg) (d : DefX) : Bool := PySem.W.keepIn K (.ref (d.at_ K)) && (match K.lookup (d.at_ K) with
  | some ⟨_, _, .func fd, _⟩ => PySem.W.codeIn K fd.code d.qual && (He.dflB K fd.defaults (d.dvs K) && He.kwdB K fd.kwdefaults (d.kws K))
  | _ => false)
/-- the addresses of a def's cell and code -/
def ccAt (K : Fg) (f : Addr) : Addr := match K.lookup f with
  | some ⟨_, _, .func fd, _⟩ => (match fd.closure with
    | q :: _ => q.2
    | [] => 0)
  | _ => 0
def cdAt (K : Fg) (f : Addr) : Addr := match K.lookup f with
  | some ⟨_, _, .func fd, _⟩ => (match fd.code with
    | .ref c => c
    | _ => 0)
  | _ => 0
section
variable {K : Fg} {d : DefX}
theorem DefX.get (e : fnX K (d.at_ K) = d.val) (c : d.ok K = true) : ∃ (oc : Value) (od : Option Addr) (osl : Array (Option Value)) (dV kV doc pm : Value) (an : Option Addr) (cdv ct : Value) (cl : List (Str × Addr)),
    K.lookup (d.at_ K) = some ⟨oc, od, .func { PySem.W.fnOf d.name d.qual d.params d.body d.scope dV kV doc pm an cdv ct with closure := cl }, osl⟩ ∧ cl.map (·.1) = d.clo ∧ PySem.W.keepIn K (.ref (d.at_ K)) = true ∧ PySem.W.codeIn K cdv d.qual = true ∧ DflV K dV (d.dvs K) ∧ KwdV K kV (d.kws K) := by
  obtain ⟨kp, c2⟩ := He.ba c
  unfold fnX at e
  cases q : K.lookup (d.at_ K) with
  | none =>
    rw [q] at c2
    cases c2
  | some o =>
    obtain ⟨oc, od, dt, osl⟩ := o
    rw [q] at c2 e
    cases dt with
    | func fd =>
      obtain ⟨n1, n2, n3, n4, n5, n6, n7, n8, n9, n10, n11, n12, n13, n14, n15⟩ := fd
      have e2 : (some (n1, n2, n3, n4, n5, n6, n7.map (·.1), n15) : FnX) = some (d.name, d.qual, d.params, .stmts d.body, d.scope, mainGlobals, d.clo, builtinsNs) := e
      simp only [Option.some.injEq, Prod.mk.injEq] at e2
      obtain ⟨h1, h2, h3, h4, h5, h6, h7, h8⟩ := e2
      subst h1 h2 h3 h4 h5 h6 h8
      have c3 : (PySem.W.codeIn K n13 d.qual && (He.dflB K n8 (d.dvs K) && He.kwdB K n9 (d.kws K))) = true := c2
      obtain ⟨k1, k2⟩ := He.ba c3
      obtain ⟨k3, k4⟩ := He.ba k2
      exact ⟨oc, od, osl, n8, n9, n10, n11, n12, n13, n14, n7, rfl, h7, kp, k1, He.dflB_ok k3, He.kwdB_ok k4⟩
    | _ => cases c2
theorem DefX.funD (z : fnX K (d.at_ K) = d.val ∧ d.ok K = true) (hc : d.clo = []) : FunD K d.name d.qual d.params d.body d.scope (d.dvs K) (d.kws K) (d.at_ K) (fdAt K (d.at_ K)) := by
  obtain ⟨oc, od, osl, dV, kV, doc, pm, an, cdv, ct, cl, lk, ec, kp, k1, k3, k4⟩ := DefX.get z.1 z.2
  rw [hc] at ec
  have e0 : cl = [] := List.map_eq_nil_iff.mp ec
  subst e0
  have ef : fdAt K (d.at_ K) = PySem.W.fnOf d.name d.qual d.params d.body d.scope dV kV doc pm an cdv ct := by
    unfold fdAt
    rw [lk]
    try rfl
  rw [ef]
  exact ⟨⟨oc, od, dV, kV, doc, pm, an, cdv, ct, osl, rfl, lk, k1, k3, k4⟩, kp⟩
theorem DefX.errFn (z : fnX K (d.at_ K) = d.val ∧ d.ok K = true) (hc : d.clo = (["__class__"] : List Str)) (hd : d.dfl = []) (hn : d.name = "__init__") : ∃ (oc : Value) (od : Option Addr) (kV doc pm : Value) (an : Option Addr) (ct : Value) (osl : Array (Option Value)),
    K.lookup (d.at_ K) = some ⟨oc, od, .func (errFd d.qual d.params d.body d.scope (ccAt K (d.at_ K)) kV doc pm an (.ref (cdAt K (d.at_ K))) ct), osl⟩ ∧ PySem.W.codeIn K (.ref (cdAt K (d.at_ K))) d.qual = true := by
  obtain ⟨oc, od, osl, dV, kV, doc, pm, an, cdv, ct, cl, lk, ec, kp, k1, k3, k4⟩ := DefX.get z.1 z.2
  obtain ⟨cda, rfl⟩ := He.codeIn_ref k1
  rw [hc] at ec
  obtain ⟨cc, rfl⟩ : ∃ cc, cl = ([(("__class__" : Str), cc)] : List (Str × Addr)) := by
    cases cl with
    | nil => cases ec
    | cons q r =>
      rw [List.map_cons] at ec
      injection ec with e1 e2
      rw [List.map_eq_nil_iff.mp e2]
      exact ⟨q.2, by rw [← e1]⟩
  have hdv : d.dvs K = [] := by
    unfold DefX.dvs
    rw [hd]
    rfl
  rw [hdv] at k3
  have e3 : ccAt K (d.at_ K) = cc := by
    unfold ccAt
    rw [lk]
    try rfl
  have e4 : cdAt K (d.at_ K) = cda := by
    unfold cdAt
    rw [lk]
    try rfl
  rw [e3, e4]
  rcases k3 with ⟨_, rfl⟩ | ⟨e, _⟩
  · rw [hn] at lk
    exact ⟨oc, od, kV, doc, pm, an, ct, osl, lk, k1⟩
  · exact absurd rfl e
end
theorem funOf {K : Fg} {x q : Str} {st : Stmt} {f : Addr} {fd : FuncData} (F : FunD K x q (defArgs st) (defBody st) (defScope st) [] [] f fd) : Fun K x q st f fd := by
  obtain ⟨oc, od, dV, kV, doc, pm, an, cdv, ct, osl, rfl, lk, hcd, hD, _⟩ := F.ex
  rcases hD with ⟨_, rfl⟩ | ⟨e, _⟩
  · exact ⟨⟨oc, od, kV, doc, pm, an, cdv, ct, osl, rfl, lk, hcd⟩, F.kp⟩
  · exact absurd rfl e
theorem funC_of {K : Fg} {x q : Str} {st : Stmt} {fd : FuncData} {p : He.Defn} (F : FunD K x q (defArgs st) (defBody st) (defScope st) [] [] (He.fAd K p) fd) : FunC K x q st (He.fAd K p) fd (He.codeOf K p) := by
  obtain ⟨oc, od, dV, kV, doc, pm, an, cdv, ct, osl, rfl, lk, hcd, hD, _⟩ := F.ex
  obtain ⟨c, rfl⟩ := He.codeIn_ref hcd
  rw [He.codeOf_eq lk rfl]
  rcases hD with ⟨_, rfl⟩ | ⟨e, _⟩
  · exact ⟨oc, od, kV, doc, pm, an, ct, osl, rfl, lk, hcd⟩
  · exact absurd rfl e
/-! ### the Hook -/
/-- what a function, a class, a property names -/
def refsF (g : Addr → Option Obj) (a : Addr) : List Addr := match g a with
  | some ⟨_, _, .func fd, _⟩ => He.refV fd.code ++ He.refV fd.defaults ++ He.refV fd.kwdefaults ++ fd.closure.map (·.2)
  | some ⟨_, _, .cls cd, _⟩ => [cd.ns]
  | some ⟨.type t, _, .fields vs, _⟩ => (match decide (t = "code") with
    | true => []
    | false => vs.toList.flatMap He.refV)
  | _ => []
def frA {β : Type} : List Addr → (List Addr → β) → β
  | [], k => k []
  | a :: r, k => HandSHeadRun.frNat a fun a => frA r fun r' => k (a :: r')
theorem frA_eq {β : Type} : ∀ (l : List Addr) (k : List Addr → β), frA l k = k l
  | [], _ => rfl
  | x :: r, k => by
    show (HandSHeadRun.frNat x fun a => frA r fun r' => k (a :: r')) = _
    rw [HandSHeadRun.frNat_eq, frA_eq r]
/-- the names' objects, what they name; the methods, what they name, what their functions name -/
def as1 (g : Addr → Option Obj) (gl : List Str) : List Addr := (gl.map (He.ga (He.frG g [mainGlobals])))
def as2 (g : Addr → Option Obj) (l : List Addr) : List Addr := [mainGlobals, cStatics] ++ (l ++ l.flatMap (refsF g))
def as3 (g : Addr → Option Obj) (ms : List (Str × Str)) (l : List Addr) : List Addr := ms.map fun p => He.ma (He.frG g l) (He.ga (He.frG g l) p.1) p.2
def as4 (g : Addr → Option Obj) (l : List Addr) : List Addr := l ++ l.flatMap (refsF g)
def asN (g : Addr → Option Obj) (gl : List Str) (ms : List (Str × Str)) : List Addr := as2 g (as1 g gl) ++ as4 g (as4 g (as3 g ms (as2 g (as1 g gl))))
def asNk {β : Type} (g : Addr → Option Obj) (gl : List Str) (ms : List (Str × Str)) (k : List Addr → β) : β :=
  frA (as1 g gl) fun l1 => frA (as2 g l1) fun l2 => frA (as3 g ms l2) fun l3 => frA (as4 g l3) fun l4 => frA (as4 g l4) fun l5 => frA (l2 ++ l5) k
theorem asNk_eq {β : Type} (g : Addr → Option Obj) (gl : List Str) (ms : List (Str × Str)) (k : List Addr → β) : asNk g gl ms k = k (asN g gl ms) := by
  unfold asNk asN
  simp only [frA_eq]
def layK {β : Type} (g : Addr → Option Obj) : List Addr → (Fg → β) → β
  | [], k => k []
  | a :: r, k => match g a with
    | none => layK g r k
    | some ⟨c, d, dt, sl⟩ => match He.emptyTab ⟨c, d, dt, sl⟩ with
      | true => layK g r k
      | false => layK g r fun r' => k ((a, ⟨c, d, dt, sl⟩) :: r')
theorem layK_eq {β : Type} (g : Addr → Option Obj) : ∀ (l : List Addr) (k : Fg → β), layK g l k = k (He.frT g l)
  | [], _ => rfl
  | a :: r, k => by
    unfold layK
    cases e : g a with
    | none =>
      show layK g r k = _
      rw [layK_eq g r]
      congr 1
      unfold He.frT He.frG
      rw [List.filterMap_cons, e]
      rfl
    | some o =>
      obtain ⟨c, d, dt, sl⟩ := o
      show (match He.emptyTab ⟨c, d, dt, sl⟩ with
        | true => layK g r k
        | false => layK g r fun r' => k ((a, ⟨c, d, dt, sl⟩) :: r')) = _
      cases z : He.emptyTab ⟨c, d, dt, sl⟩ with
      | true =>
        show layK g r k = _
        rw [layK_eq g r]
        congr 1
        unfold He.frT He.frG
        rw [List.filterMap_cons, e]
        simp [z]
      | false =>
        show (layK g r fun r' => k ((a, ⟨c, d, dt, sl⟩) :: r')) = _
        rw [layK_eq g r]
        congr 1
        unfold He.frT He.frG
        rw [List.filterMap_cons, e]
        simp [z]
def KY (gl : List Str) (ms : List (Str × Str)) (g : Addr → Option Obj) : Fg := He.frT g (asN g gl ms)
abbrev AlY : Type := List FnX × Bool
def obsK (fn : List DefX) (tf : List He.Defn) (fx : List (Fg → Bool)) (g : Addr → Option Obj) (K : Fg) : AlY := (fn.map (fun d => fnX K (d.at_ K)), (fn.all fun d => d.ok K) && ((fx.all fun f => f K) && He.tabsB g tf K))
/-- the names that are looked at: the module's, the classes' -/
structure Nms where
  gl : List Str
  ms : List (Str × Str)
def obsY (n : Nms) (fn : List DefX) (tf : List He.Defn) (fx : List (Fg → Bool)) (g : Addr → Option Obj) : AlY := asNk g n.gl n.ms fun l => layK g l fun K => obsK fn tf fx g K
structure Says2 (fn : List DefX) (tf : List He.Defn) (fx : List (Fg → Bool)) (h : Heap) (K : Fg) : Prop where
  eq : fn.map (fun d => fnX K (d.at_ K)) = fn.map DefX.val
  ok : (fn.all fun d => d.ok K) = true
  more : (fx.all fun f => f K) = true
  hd : ∀ p ∈ tf, PySem.W.codeHdIn K (He.cT K p).1 (He.cT K p).2 = true
  out : ∀ p ∈ tf, K.lookup (He.cT K p).2 = none
  empty : ∀ p ∈ tf, h.get? (He.cT K p).2 = some { cls := .none, data := .fields #[] }
theorem says2_of {n : Nms} {fn : List DefX} {tf : List He.Defn} {fx : List (Fg → Bool)} {h : Heap} (e : obsY n fn tf fx h.get? = (fn.map DefX.val, true)) : Says2 fn tf fx h (KY n.gl n.ms h.get?) := by
  unfold obsY at e
  rw [asNk_eq, layK_eq] at e
  change obsK fn tf fx h.get? (KY n.gl n.ms h.get?) = _ at e
  have e1 : fn.map (fun d => fnX (KY n.gl n.ms h.get?) (d.at_ (KY n.gl n.ms h.get?))) = fn.map DefX.val := congrArg (fun z : AlY => z.1) e
  have e2 : ((fn.all fun d => d.ok (KY n.gl n.ms h.get?)) && ((fx.all fun f => f (KY n.gl n.ms h.get?)) && He.tabsB h.get? tf (KY n.gl n.ms h.get?))) = true := congrArg (fun z : AlY => z.2) e
  obtain ⟨h1, h2⟩ := He.ba e2
  obtain ⟨h3, h4⟩ := He.ba h2
  have key : ∀ p ∈ tf, PySem.W.codeHdIn (KY n.gl n.ms h.get?) (He.cT (KY n.gl n.ms h.get?) p).1 (He.cT (KY n.gl n.ms h.get?) p).2 = true ∧ ∃ o, h.get? (He.cT (KY n.gl n.ms h.get?) p).2 = some o ∧ He.emptyTab o = true := fun p hp => by
    obtain ⟨h5, h6⟩ := He.ba (List.all_eq_true.mp h4 p hp)
    refine ⟨h5, ?_⟩
    cases q : h.get? (He.cT (KY n.gl n.ms h.get?) p).2 with
    | none =>
      rw [q] at h6
      cases h6
    | some o =>
      rw [q] at h6
      exact ⟨o, rfl, h6⟩
  exact ⟨e1, h1, h3, fun p hp => (key p hp).1, fun p hp => by
    obtain ⟨_, o, q, z⟩ := key p hp
    exact He.frT_none q z, fun p hp => by
    obtain ⟨_, o, q, z⟩ := key p hp
    rw [q, He.emptyTab_eq z]⟩
def hookY (n : Nms) (fn : List DefX) (tf : List He.Defn) (fx : List (Fg → Bool)) : PySem.W.Hook where
  α := AlY
  obs := fun s => obsY n fn tf fx s.heap.get?
  val := fun _ => (fn.map DefX.val, true)
  says := fun _ h => ∃ K : Fg, K.In h ∧ Says2 fn tf fx h K
  of := fun _ _ e => ⟨_, He.frT_in, says2_of e⟩
  keeps := fun _ _ _ ⟨K, hK, c⟩ k => ⟨K, PySem.W.Frag.In.keeps hK k, ⟨c.eq, c.ok, c.more, c.hd, c.out, fun p hp => k _ _ (c.empty p hp)⟩⟩
theorem obsY_eq {n : Nms} {fn : List DefX} {tf : List He.Defn} {fx : List (Fg → Bool)} {g : Addr → Option Obj} {s : Shared} (h : ∀ a, g a = s.heap.get? a) : obsY n fn tf fx g = (hookY n fn tf fx).obs s := by
  have e : g = s.heap.get? := funext h
  rw [e] <;> rfl
section
variable {fn : List DefX} {tf : List He.Defn} {fx : List (Fg → Bool)} {h : Heap} {K : Fg}
theorem Says2.def_ (c : Says2 fn tf fx h K) (i : Nat) {d : DefX} (e : fn[i]? = some d := by rfl) : fnX K (d.at_ K) = d.val ∧ d.ok K = true := by
  have e2 : (fn.map fun d => fnX K (d.at_ K))[i]? = (fn.map DefX.val)[i]? := by rw [c.eq]
  rw [List.getElem?_map, List.getElem?_map, e] at e2
  exact ⟨Option.some.inj e2, List.all_eq_true.mp c.ok d (List.mem_of_getElem? e)⟩
theorem Says2.fact (c : Says2 fn tf fx h K) (i : Nat) {f : Fg → Bool} (e : fx[i]? = some f := by rfl) : f K = true := List.all_eq_true.mp c.more f (List.mem_of_getElem? e)
end
/-! ### facts -/
def clsB (K : Fg) (C : Addr) : Bool := match K.lookup C with
  | some ⟨.type t, _, .cls cd, sl⟩ => (match cd.mro, sl.toList with
    | .ref C' :: bm, [_, _, _, _, some (.builtin n), _] => decide (t = "type") && (decide (C' = C) && (decide (n = "ValueError.__new__") && (!cd.hasDel && (cd.hasDict && (HandSPX.refsVE bm && decide (PySem.W.alongIn K "__init__" bm = some (some (.builtin "ValueError.__init__"))))))))
    | _, _ => false)
  | _ => false
theorem clsB_ok {K : Fg} {C : Addr} (h : clsB K C = true) : ∃ n1 q N bs bm sn sub ab col dd k0 k1 k2 k3 k5, K.lookup C = some (excClassObj n1 q C N bs bm true sn sub ab col dd k0 k1 k2 k3 k5 "ValueError.__new__") ∧ HandSPX.refsVE bm = true ∧
    PySem.W.alongIn K "__init__" bm = some (some (.builtin "ValueError.__init__")) := by
  unfold clsB at h
  split at h
  · rename_i t dd cd sl ho
    split at h
    · rename_i C' bm k0 k1 k2 k3 n k5 hm hs
      obtain ⟨a0, h⟩ := He.ba h
      obtain ⟨a1, h⟩ := He.ba h
      obtain ⟨a2, h⟩ := He.ba h
      obtain ⟨a3, h⟩ := He.ba h
      obtain ⟨a4, h⟩ := He.ba h
      obtain ⟨a5, a6⟩ := He.ba h
      have e0 := of_decide_eq_true a0
      have e1 := of_decide_eq_true a1
      have e2 := of_decide_eq_true a2
      have es : sl = #[k0, k1, k2, k3, some (.builtin n), k5] := by
        rw [← Array.toArray_toList (xs := sl), hs]
      obtain ⟨c1, c2, c3, c4, c5, c6, c7, c8, c9, c10, c11⟩ := cd
      have e3 : c11 = false := by simpa using a3
      have e4 : c6 = true := a4
      have e5 : c3 = .ref C' :: bm := hm
      subst e0 e1 e2 es e3 e4 e5
      exact ⟨_, _, _, _, bm, _, _, _, _, dd, k0, k1, k2, k3, k5, ho, a5, of_decide_eq_true a6⟩
    · cases h
  · cases h
def codeB (file : Str) (K : Fg) (c : Addr) : Bool := match K.lookup c with
  | some ⟨_, _, .fields vs, _⟩ => (match (vs : Array Value)[2]? with
    | some (Value.str f _) => file == f
    | _ => false)
  | _ => false
def cellB (K : Fg) (c C : Addr) : Bool := match K.lookup c with
  | some ⟨_, _, .cell (some (.ref z)), _⟩ => decide (z = C)
  | _ => false
theorem codeB_ok {file : Str} {K : Fg} {c : Addr} (h : codeB file K c = true) : ∃ (cl : Value) (cd : Option Addr) (vs : Array Value) (cs : Array (Option Value)) (f : Str) (tf : Tok), K.lookup c = some ⟨cl, cd, .fields vs, cs⟩ ∧ vs[2]? = some (.str f tf) ∧ (file == f) = true := by
  unfold codeB at h
  split at h
  · rename_i cl cd vs cs ho
    split at h
    · rename_i f tf hv
      exact ⟨cl, cd, vs, cs, f, tf, ho, hv, h⟩
    · cases h
  · cases h
theorem cellB_ok {K : Fg} {c C : Addr} (h : cellB K c C = true) : ∃ (cl : Value) (cd : Option Addr) (cs : Array (Option Value)), K.lookup c = some ⟨cl, cd, .cell (some (.ref C)), cs⟩ := by
  unfold cellB at h
  split at h
  · rename_i cl cd z cs ho
    have e := of_decide_eq_true h
    subst e
    exact ⟨cl, cd, cs, ho⟩
  · cases h
/-- what is looked at of an own error's class -/
def errB (file nm : Str) (K : Fg) : Bool :=
  eqO4 (PySem.W.nsIn K mainGlobals nm) (some (some (.ref (He.ga K nm)))) && (clsB K (He.ga K nm) && (eqO4 (PySem.W.findIn K (.ref (He.ga K nm)) "__setattr__") (some (some (.builtin "object.__setattr__"))) &&
  (eqO4 (PySem.W.findIn K (.ref (He.ga K nm)) "__getattribute__") (some (some (.builtin "BaseException.__getattribute__"))) && (eqO4 (PySem.W.findIn K (.ref (He.ga K nm)) "__getattr__") (some none) &&
  (eqO4 (PySem.W.findIn K (.ref (He.ga K nm)) "__init__") (some (some (.ref (He.ma K (He.ga K nm) "__init__")))) && (decide (PySem.W.typeIn K (.ref (He.ma K (He.ga K nm) "__init__")) = some (.type "function")) && (PySem.W.keepIn K (.ref (He.ga K nm)) &&
  (decide (PySem.W.subIn K (.ref (He.ga K nm)) (.type "BaseException") = some true) && (decide (PySem.W.subIn K (.ref (He.ga K nm)) (.type "ValueError") = some true) && (decide (PySem.W.typeIn K (.ref (He.ga K nm)) = some (.type "type")) && (PySem.W.hasDictIn K (He.ga K nm) &&
  (decide (PySem.W.mroIn K (He.ga K nm) (.ref (He.ga K nm)) = some true) && (codeB file K (cdAt K (He.ma K (He.ga K nm) "__init__")) && (cellB K (ccAt K (He.ma K (He.ga K nm) "__init__")) (He.ga K nm) && (eqO4 (PySem.W.nsIn K cStatics "thirdparty.any") (some none) &&
  (eqO4 (PySem.W.nsIn K mainGlobals "super") (some none) && (eqO4 (PySem.W.findIn K (.ref (He.ga K nm)) "__class__") (some (some (.builtin "object.__class__"))) && (eqO4 (PySem.W.specialIn K (.builtin "object.__class__") "__get__") (some (some (.builtin "getset_descriptor.__get__"))) &&
  (decide (PySem.W.takesIn K (.builtin "object.__class__") = some true) && decide (PySem.W.mroIn K (He.ga K nm) (.type "object") = some true))))))))))))))))))))
where
  eqO4 (a b : Option (Option Value)) : Bool := He.eqO a b
theorem errB_ok {P : Program} {K : Fg} {h : Heap} {mg : Str → Option Value} {file nm qn : Str} {ps : Arguments} {bd : List Stmt} {sc : Scope} (X : K.In h) (G : h.Ns mainGlobals mg) (b : errB file nm K = true)
    (fn : ∃ (oc : Value) (od : Option Addr) (kV doc pm : Value) (an : Option Addr) (ct : Value) (osl : Array (Option Value)), K.lookup (He.ma K (He.ga K nm) "__init__") = some ⟨oc, od, .func (errFd qn ps bd sc (ccAt K (He.ma K (He.ga K nm) "__init__")) kV doc pm an (.ref (cdAt K (He.ma K (He.ga K nm) "__init__"))) ct), osl⟩ ∧
      PySem.W.codeIn K (.ref (cdAt K (He.ma K (He.ga K nm) "__init__"))) qn = true)
    (hf : P.main.file = file) (top : (P.main.scope.names.lookup ("super" : Str)).isSome = false) :
    ErrC P K mg nm qn ps bd sc (He.ga K nm) (He.ma K (He.ga K nm) "__init__") (ccAt K (He.ma K (He.ga K nm) "__init__")) (cdAt K (He.ma K (He.ga K nm) "__init__")) ∧ ExcC K (He.ga K nm) := by
  obtain ⟨a1, b⟩ := He.ba b
  obtain ⟨a2, b⟩ := He.ba b
  obtain ⟨a3, b⟩ := He.ba b
  obtain ⟨a4, b⟩ := He.ba b
  obtain ⟨a5, b⟩ := He.ba b
  obtain ⟨a6, b⟩ := He.ba b
  obtain ⟨a7, b⟩ := He.ba b
  obtain ⟨a8, b⟩ := He.ba b
  obtain ⟨a9, b⟩ := He.ba b
  obtain ⟨a10, b⟩ := He.ba b
  obtain ⟨a11, b⟩ := He.ba b
  obtain ⟨a12, b⟩ := He.ba b
  obtain ⟨a13, b⟩ := He.ba b
  obtain ⟨a14, b⟩ := He.ba b
  obtain ⟨a15, b⟩ := He.ba b
  obtain ⟨a16, b⟩ := He.ba b
  obtain ⟨a17, b⟩ := He.ba b
  obtain ⟨a18, b⟩ := He.ba b
  obtain ⟨a19, b⟩ := He.ba b
  obtain ⟨a20, a21⟩ := He.ba b
  refine ⟨⟨PySem.W.mg_of X G (He.eqO_ok a1), clsB_ok a2, He.eqO_ok a3, He.eqO_ok a4, He.eqO_ok a5, He.eqO_ok a6, of_decide_eq_true a7, a8, of_decide_eq_true a9, of_decide_eq_true a10,
    of_decide_eq_true a11, a12, of_decide_eq_true a13, fn, ?_, cellB_ok a15, He.eqO_ok a16, PySem.W.mg_none_of X G (He.eqO_ok a17), top⟩,
    ⟨He.eqO_ok a4, He.eqO_ok a5, of_decide_eq_true a9, a12, He.eqO_ok a18, He.eqO_ok a19, of_decide_eq_true a20, of_decide_eq_true a21⟩⟩
  obtain ⟨cl, cd, vs, cs, f, tf, h1, h2, h3⟩ := codeB_ok a14
  rw [← hf] at h3
  exact ⟨cl, cd, vs, cs, f, tf, h1, h2, h3⟩
/-- a property -/
def prAt (K : Fg) (p : Addr) : Addr := match PySem.W.recIn K p "property" with
  | some (.ref g :: _) => g
  | _ => 0
def prB (C f : Str) (K : Fg) : Bool := He.eqO (PySem.W.findIn K (.ref (He.ga K C)) f) (some (some (.ref (He.ma K (He.ga K C) f)))) && (He.eqO (PySem.W.specialIn K (.ref (He.ma K (He.ga K C) f)) "__get__") (some (some (.builtin "property.__get__"))) &&
  (decide (PySem.W.takesIn K (.ref (He.ma K (He.ga K C) f)) = some true) && (match PySem.W.recIn K (He.ma K (He.ga K C) f) "property" with
    | some (.ref _ :: _) => true
    | _ => false)))
theorem prB_ok {C f : Str} {K : Fg} (h : prB C f K = true) : PropOf K (He.ga K C) f (He.ma K (He.ga K C) f) (prAt K (He.ma K (He.ga K C) f)) := by
  obtain ⟨a1, h⟩ := He.ba h
  obtain ⟨a2, h⟩ := He.ba h
  obtain ⟨a3, a4⟩ := He.ba h
  refine ⟨He.eqO_ok a1, He.eqO_ok a2, of_decide_eq_true a3, ?_⟩
  unfold prAt
  cases q : PySem.W.recIn K (He.ma K (He.ga K C) f) "property" with
  | none =>
    rw [q] at a4
    cases a4
  | some l =>
    rw [q] at a4
    cases l with
    | nil => cases a4
    | cons v r =>
      cases v with
      | ref g => exact ⟨r, rfl⟩
      | _ => cases a4
/-- a class whose instances isinstance asks -/
def insB (C : Str) (K : Fg) : Bool := He.eqO (PySem.W.findIn K (.ref (He.ga K C)) "__class__") (some (some (.builtin "object.__class__"))) && (He.eqO (PySem.W.specialIn K (.builtin "object.__class__") "__get__") (some (some (.builtin "getset_descriptor.__get__"))) &&
  (decide (PySem.W.takesIn K (.builtin "object.__class__") = some true) && decide (PySem.W.mroIn K (He.ga K C) (.type "object") = some true)))
theorem insB_ok {C : Str} {K : Fg} (h : insB C K = true) : InsC K (He.ga K C) := by
  obtain ⟨a1, h⟩ := He.ba h
  obtain ⟨a2, h⟩ := He.ba h
  obtain ⟨a3, a4⟩ := He.ba h
  exact ⟨He.eqO_ok a1, He.eqO_ok a2, of_decide_eq_true a3, of_decide_eq_true a4⟩
def excB (C : Str) (K : Fg) : Bool := He.eqO (PySem.W.findIn K (.ref (He.ga K C)) "__getattribute__") (some (some (.builtin "BaseException.__getattribute__"))) && (He.eqO (PySem.W.findIn K (.ref (He.ga K C)) "__getattr__") (some none) &&
  (decide (PySem.W.subIn K (.ref (He.ga K C)) (.type "BaseException") = some true) && (PySem.W.hasDictIn K (He.ga K C) && insB C K)))
theorem excB_ok {C : Str} {K : Fg} (h : excB C K = true) : ExcC K (He.ga K C) := by
  obtain ⟨a1, h⟩ := He.ba h
  obtain ⟨a2, h⟩ := He.ba h
  obtain ⟨a3, h⟩ := He.ba h
  obtain ⟨a4, h⟩ := He.ba h
  have I := insB_ok h
  exact ⟨He.eqO_ok a1, He.eqO_ok a2, of_decide_eq_true a3, a4, I.ha, I.hn, I.htk, I.hm⟩
/-- a class's values -/
def crB (C : Str) (K : Fg) : Bool := PySem.W.readsIn K (He.ga K C) (.type "type") && He.eqO (PySem.W.specialIn K (.ref (He.ga K C)) "__getattribute__") (some (some (.builtin "type.__getattribute__")))
theorem crB_ok {C : Str} {K : Fg} (h : crB C K = true) : ClX.CRead K (He.ga K C) (.type "type") := by
  obtain ⟨a1, a2⟩ := He.ba h
  exact ⟨a1, He.eqO_ok a2⟩
def cvB (C x : Str) (n : Int) (K : Fg) : Bool := match PySem.W.findCls K (.ref (He.ga K C)) (.type "type") x with
  | some (.val (.int m _)) => decide (m = n)
  | _ => false
theorem cvB_ok {C x : Str} {n : Int} {K : Fg} (h : cvB C x n K = true) : ∃ u, ClX.CVal K (He.ga K C) (.type "type") x (.int n) u := by
  unfold cvB at h
  split at h
  · rename_i m t e
    have e2 := of_decide_eq_true h
    subst e2
    exact ⟨_, e, ⟨_, rfl⟩⟩
  · cases h
theorem eps {α : Sort _} [Nonempty α] {P : α → Prop} (h : ∃ x, P x) : P (Classical.epsilon P) := Classical.epsilon_spec h
theorem vals_nil {K : Fg} {fd : FuncData} {ps : List Str} (h : ∃ ds, Vals ([] : List V) ds ∧ Binds K fd ps ds) : Binds K fd ps [] := by
  obtain ⟨ds, r, b⟩ := h
  cases r
  exact b
end FG
namespace FG
open PySem PySem.W
/-! ## the top's run, with little memory: one recursor a step -/
structure Wh where
  code : Code
  pos : Pos
  stack : List Frame
abbrev Kx : Type := SharedT → Sem Fin → Wh → Option SharedT
noncomputable def getX (t : BT) : Nat → Option Obj :=
  @BT.rec (fun _ => Nat → Option Obj) (fun _ => none) (fun v _ _ ihl ihr i => @Bool.rec (fun _ => Option Obj) (@Bool.rec (fun _ => Option Obj) (ihr (Nat.sub (Nat.div i 2) 1)) (ihl (Nat.div i 2)) (Nat.beq (Nat.mod i 2) 1)) (some v) (Nat.beq i 0)) t
noncomputable def setX (t : BT) : Nat → (Obj → Obj) → BT :=
  @BT.rec (fun _ => Nat → (Obj → Obj) → BT) (fun _ _ => .nil) (fun v l r ihl ihr i f => @Bool.rec (fun _ => BT) (@Bool.rec (fun _ => BT) (.node v l (ihr (Nat.sub (Nat.div i 2) 1) f)) (.node v (ihl (Nat.div i 2) f) r) (Nat.beq (Nat.mod i 2) 1)) (.node (f v) l r) (Nat.beq i 0)) t
noncomputable def insX (t : BT) : Nat → Obj → BT :=
  @BT.rec (fun _ => Nat → Obj → BT) (fun _ o => .node o .nil .nil) (fun v l r ihl ihr i o => @Bool.rec (fun _ => BT) (@Bool.rec (fun _ => BT) (.node v l (ihr (Nat.sub (Nat.div i 2) 1) o)) (.node v (ihl (Nat.div i 2) o) r) (Nat.beq (Nat.mod i 2) 1)) (.node o l r) (Nat.beq i 0)) t
theorem getX_eq : ∀ (t : BT) (i : Nat), getX t i = t.get i
  | .nil, _ => rfl
  | .node v l r, i => by
    show @Bool.rec (fun _ => Option Obj) (@Bool.rec (fun _ => Option Obj) (getX r (i / 2 - 1)) (getX l (i / 2)) (Nat.beq (i % 2) 1)) (some v) (Nat.beq i 0) = (match Nat.beq i 0 with | true => some v | false => match Nat.beq (i % 2) 1 with | true => l.get (i / 2) | false => r.get (i / 2 - 1))
    rw [getX_eq l, getX_eq r]
    cases Nat.beq i 0 <;> cases Nat.beq (i % 2) 1 <;> rfl
theorem setX_eq : ∀ (t : BT) (i : Nat) (f : Obj → Obj), setX t i f = t.set i f
  | .nil, _, _ => rfl
  | .node v l r, i, f => by
    show @Bool.rec (fun _ => BT) (@Bool.rec (fun _ => BT) (.node v l (setX r (i / 2 - 1) f)) (.node v (setX l (i / 2) f) r) (Nat.beq (i % 2) 1)) (.node (f v) l r) (Nat.beq i 0) = (match Nat.beq i 0 with | true => .node (f v) l r | false => match Nat.beq (i % 2) 1 with | true => .node v (l.set (i / 2) f) r | false => .node v l (r.set (i / 2 - 1) f))
    rw [setX_eq l, setX_eq r]
    cases Nat.beq i 0 <;> cases Nat.beq (i % 2) 1 <;> rfl
theorem insX_eq : ∀ (t : BT) (i : Nat) (o : Obj), insX t i o = t.ins i o
  | .nil, _, _ => rfl
  | .node v l r, i, o => by
    show @Bool.rec (fun _ => BT) (@Bool.rec (fun _ => BT) (.node v l (insX r (i / 2 - 1) o)) (.node v (insX l (i / 2) o) r) (Nat.beq (i % 2) 1)) (.node o l r) (Nat.beq i 0) = (match Nat.beq i 0 with | true => .node o l r | false => match Nat.beq (i % 2) 1 with | true => .node v (l.ins (i / 2) o) r | false => .node v l (r.ins (i / 2 - 1) o))
    rw [insX_eq l, insX_eq r]
    cases Nat.beq i 0 <;> cases Nat.beq (i % 2) 1 <;> rfl
noncomputable def aliveX (o : Obj) : Bool := match o.data with
  | .freed => false
  | _ => true
theorem alive_X {o : Obj} : alive o = (match aliveX o with
  | true => some o
  | false => none) := by
  obtain ⟨c, d, dt, sl⟩ := o
  cases dt <;> rfl
/-! ### a step -/
section
variable (st : SharedT → Thread → Option (SharedT × Thread)) (den : Code → Sem Fin) (p : Program) (P : Params) (n0 : Nat) (ann : Option Value) (md : Bool)
/-- any other step -/
noncomputable def dRest (ih : Kx) (S : SharedT) (F : Wh) (cur : Sem Fin) : Option SharedT := match stepOk n0 ann ⟨cur, F.code, F.pos, F.stack⟩ with
  | false => none
  | true => match st S ⟨cur, F.code, F.pos, F.stack⟩ with
    | some (s', t') => HandSHeadRun.frS s' fun s' => ih s' t'.cur ⟨t'.code, t'.pos, t'.stack⟩
    | none => none
noncomputable def dDone (ih : Kx) (S : SharedT) (F : Wh) (f : Flow) : Option SharedT := match F.stack with
  | [] => (match md with
    | false => some S
    | true => none)
  | .ret k _ _ _ c q _ :: rest => ih S (k (.ok f)) ⟨c, q, rest⟩
  | .gen _ _ _ _ _ :: _ => dRest st n0 ann ih S F (.pure (.done f))
noncomputable def calmC (c : Code) : Bool := match c with
  | .builtin id _ => !id.startsWith "lifetime."
  | _ => true
def againS (code c : Code) (stack : List Frame) : List Frame := match stack with
  | .ret k h g l cd q kept :: rest => .ret k h g l cd q (keptBy code c l kept) :: rest
  | _ => stack
noncomputable def dAgain (ih : Kx) (S : SharedT) (F : Wh) (c : Code) : Option SharedT := match calmC c with
  | true => ih S (den c) ⟨c, F.pos, againS F.code c F.stack⟩
  | false => dRest st n0 ann ih S F (.pure (.again c))
noncomputable def dPure (ih : Kx) (S : SharedT) (F : Wh) (a : Fin) : Option SharedT := match a with
  | .done f => dDone st n0 ann md ih S F f
  | .again c => dAgain st den n0 ann ih S F c
noncomputable def dRaise (ih : Kx) (S : SharedT) (F : Wh) (e : Value) : Option SharedT := match F.stack with
  | .ret k _ _ _ c q _ :: rest => ih S (k (.error e)) ⟨c, q, rest⟩
  | _ => dRest st n0 ann ih S F (.raise e)
noncomputable def dUns (S : SharedT) : Option SharedT := match md with
  | false => none
  | true => some S
noncomputable def dAt (ih : Kx) (S : SharedT) (F : Wh) (q : Pos) (k : Unit → Sem Fin) : Option SharedT := match F with
  | ⟨c, _, r⟩ => ih S (k ()) ⟨c, q, r⟩
noncomputable def dLoad (ih : Kx) (S : SharedT) (F : Wh) (a : Addr) (k : Obj → Sem Fin) : Option SharedT :=
  @Bool.rec (fun _ => Option SharedT) none (@Option.rec Obj (fun _ => Option SharedT) none (fun o => @Bool.rec (fun _ => Option SharedT) none (ih S (k o) F) (aliveX o)) (getX S.tree a)) (Nat.blt a S.n)
noncomputable def dUpd (ih : Kx) (S : SharedT) (F : Wh) (a : Addr) (q : Option Value) (f : Obj → Obj) (k : Unit → Sem Fin) : Option SharedT := match S with
  | ⟨T, n, life, gens, drawn, toks, os⟩ => @Bool.rec (fun _ => Option SharedT) none (@Bool.rec (fun _ => Option SharedT) none (@Option.rec Obj (fun _ => Option SharedT) none (fun o => @Bool.rec (fun _ => Option SharedT) none (ih ⟨setX T a f, n, life, gens, drawn, toks, os⟩ (k ()) F) (aliveX o)) (getX T a)) (Nat.blt a n)) (stepOk n0 ann ⟨.update a q f k, F.code, F.pos, F.stack⟩)
noncomputable def dAlloc (ih : Kx) (S : SharedT) (F : Wh) (o : Obj) (k : Addr → Sem Fin) : Option SharedT := match S with
  | ⟨T, n, life, gens, drawn, toks, os⟩ => @Option.rec Obj (fun _ => Option SharedT) none (fun _ => HandSHeadRun.frNat (n + 1) fun n1 => ih ⟨insX T n o, n1, life, gens, drawn, toks, os⟩ (k n) F) (getX (insX T n o) n)
noncomputable def dLia (ih : Kx) (S : SharedT) (F : Wh) (a : Addr) (k : Option Obj → Sem Fin) : Option SharedT :=
  @Bool.rec (fun _ => Option SharedT) (ih S (k none) F) (@Option.rec Obj (fun _ => Option SharedT) none (fun o => @Bool.rec (fun _ => Option SharedT) (ih S (k none) F) (ih S (k (some o)) F) (aliveX o)) (getX S.tree a)) (Nat.blt a S.n)
noncomputable def dFresh (ih : Kx) (S : SharedT) (F : Wh) (k : Tok → Sem Fin) : Option SharedT := match S with
  | ⟨T, n, life, gens, drawn, toks, os⟩ => HandSHeadRun.frNat (toks + 1) fun t1 => ih ⟨T, n, life, gens, drawn, t1, os⟩ (k toks) F
/-- what a call keeps, as the model's step says it -/
noncomputable def keptC (os : OsState) (c code : Code) (l : List Value) : List Value := match step (fun _ => .unsupported "") p ⟨fun _ _ => 0, P⟩ ⟨boot_heap P, #[], boot_drawn, 0, os⟩ ⟨.call c none false l fun _ => .unsupported "", code, default, []⟩ with
  | .go _ ⟨_, _, _, .ret _ _ _ _ _ _ kept :: _⟩ => kept
  | _ => []
noncomputable def dCall (ih : Kx) (S : SharedT) (F : Wh) (c : Code) (h : Option Value) (g : Bool) (l : List Value) (k : Result → Sem Fin) : Option SharedT := match F with
  | ⟨code, pos, stack⟩ => ih S (den c) ⟨c, pos, .ret k h g l code pos (keptC p P S.os c code l) :: stack⟩
def handledS (own : Bool) (stack : List Frame) : Option Value := topHandled (if own then ownFrames stack else stack)
noncomputable def dStack (ih : Kx) (S : SharedT) (F : Wh) (k : List (Code × Pos) → Sem Fin) : Option SharedT := match F with
  | ⟨code, pos, stack⟩ => ih S (k ((code, pos) :: stack.map Frame.where_)) ⟨code, pos, stack⟩
/-- one step -/
noncomputable def dStep (ih : Kx) (S : SharedT) (cur : Sem Fin) (F : Wh) : Option SharedT :=
  @Sem.rec Fin (fun _ => Option SharedT)
    (pure := fun a => dPure st den n0 ann md ih S F a)
    (raise := fun e => dRaise st n0 ann ih S F e)
    (unsupported := fun _ => dUns md S)
    (finish := fun _ => none)
    (rule := fun _ k _ => ih S (k ()) F)
    («at» := fun q k _ => dAt ih S F q k)
    (load := fun a _ k _ => dLoad ih S F a k)
    (update := fun a q f k _ => dUpd n0 ann ih S F a q f k)
    (alloc := fun o k _ => dAlloc ih S F o k)
    (loadIfAlive := fun a k _ => dLia ih S F a k)
    (point := fun _ k _ => ih S (k ()) F)
    (register := fun _ _ _ => none)
    (fresh := fun k _ => dFresh ih S F k)
    (ask := fun k _ => ih S (k ⟨p, P⟩) F)
    (choose := fun src n k _ => dRest st n0 ann ih S F (.choose src n k))
    (os := fun _ _ _ _ => none)
    (call := fun c h g l k _ => dCall den p P ih S F c h g l k)
    (handled := fun own k _ => ih S (k (handledS own F.stack)) F)
    (newGen := fun c k _ => dRest st n0 ann ih S F (.newGen c k))
    (genState := fun g k _ => dRest st n0 ann ih S F (.genState g k))
    (resume := fun g r l k _ => dRest st n0 ann ih S F (.resume g r l k))
    (yield := fun v g l k _ => dRest st n0 ann ih S F (.yield v g l k))
    (stack := fun k _ => dStack ih S F k)
    (fork := fun _ _ _ => none)
    (thread := fun k _ => ih S (k 0) F)
    (await := fun _ _ _ _ _ _ => none)
    cur
noncomputable def goX (m : Nat) : Kx := @Nat.rec (fun _ => Kx) (fun _ _ _ => none) (fun _ ih S cur F => dStep st den p P n0 ann md ih S cur F) m
end
section
variable {tb : String → Option Builtin} {p : Program} {w : World} {n0 : Nat} {ann : Option Value} {md : Bool} {ih : Kx} {R : SharedT}
theorem stepT_again {T : BT} {n toks : Nat} {life : Life} {gens : Array GenState} {drawn : Drawn} {os : OsState} {c code : Code} {pos : Pos} {stack : List Frame} :
    stepT (denote tb) p w ⟨T, n, life, gens, drawn, toks, os⟩ ⟨.pure (.again c), code, pos, stack⟩ = some (⟨T, n, life, gens, drawn, toks, os⟩, ⟨denote tb c, c, pos, againS code c stack⟩) := by
  cases stack with
  | nil => cases code <;> cases c <;> rfl
  | cons f r => cases f <;> cases code <;> cases c <;> rfl
/-- what a step comes to -/
inductive Comes (tb : String → Option Builtin) (p : Program) (w : World) (n0 : Nat) (ann : Option Value) (md : Bool) (ih : Kx) (R : SharedT) (S : SharedT) (cur : Sem Fin) (F : Wh) : Prop
  | done (f : Flow) (h1 : cur = .pure (.done f)) (h2 : F.stack = []) (h3 : md = false) (h4 : S = R)
  | uns (what : String) (h1 : cur = .unsupported what) (h2 : md = true)
  | go (S2 : SharedT) (t2 : Thread) (h1 : stepOk n0 ann ⟨cur, F.code, F.pos, F.stack⟩ = true) (h2 : through ⟨cur, F.code, F.pos, F.stack⟩ = false) (h3 : stepT (denote tb) p w S ⟨cur, F.code, F.pos, F.stack⟩ = some (S2, t2)) (h4 : ih S2 t2.cur ⟨t2.code, t2.pos, t2.stack⟩ = some R)
def isDone (cur : Sem Fin) : Bool := match cur with
  | .pure (.done _) => true
  | _ => false
theorem through_no {cur : Sem Fin} {c : Code} {q : Pos} {r : List Frame} (h : isDone cur = false) : through ⟨cur, c, q, r⟩ = false := by
  have e : through ⟨cur, c, q, r⟩ = (r.isEmpty && isDone cur) := by
    unfold through
    cases cur <;> first | rfl | (rename_i a; cases a <;> rfl)
  rw [e, h, Bool.and_false]
theorem rest_comes {S : SharedT} {cur : Sem Fin} {F : Wh} (h2 : through ⟨cur, F.code, F.pos, F.stack⟩ = false) (h : dRest (stepT (denote tb) p w) n0 ann ih S F cur = some R) : Comes tb p w n0 ann md ih R S cur F := by
  unfold dRest at h
  cases h1 : stepOk n0 ann ⟨cur, F.code, F.pos, F.stack⟩ with
  | false =>
    rw [h1] at h
    cases h
  | true =>
    rw [h1] at h
    cases h3 : stepT (denote tb) p w S ⟨cur, F.code, F.pos, F.stack⟩ with
    | none =>
      rw [h3] at h
      cases h
    | some r =>
      obtain ⟨S2, t2⟩ := r
      rw [h3] at h
      have h4 : (HandSHeadRun.frS S2 fun s' => ih s' t2.cur ⟨t2.code, t2.pos, t2.stack⟩) = some R := h
      rw [HandSHeadRun.frS_eq] at h4
      exact .go S2 t2 h1 h2 h3 h4
theorem step_comes {S : SharedT} {cur : Sem Fin} {F : Wh} (h : dStep (stepT (denote tb) p w) (denote tb) p w.params n0 ann md ih S cur F = some R) : Comes tb p w n0 ann md ih R S cur F := by
  cases cur with
  | pure a =>
    have h0 : dPure (stepT (denote tb) p w) (denote tb) n0 ann md ih S F a = some R := h
    cases a with
    | done f =>
      have h1 : dDone (stepT (denote tb) p w) n0 ann md ih S F f = some R := h0
      obtain ⟨c, q, r⟩ := F
      unfold dDone at h1
      cases r with
      | nil =>
        cases md with
        | false => exact .done f rfl rfl rfl (Option.some.inj h1)
        | true => cases h1
      | cons fr rest =>
        cases fr with
        | ret k a1 a2 a3 c2 q2 a4 =>
          obtain ⟨T, n, life, gens, drawn, toks, os⟩ := S
          exact .go _ _ rfl rfl rfl h1
        | gen a1 a2 a3 a4 a5 => exact rest_comes rfl h1
    | again c =>
      have h1 : dAgain (stepT (denote tb) p w) (denote tb) n0 ann ih S F c = some R := h0
      unfold dAgain at h1
      cases hc : calmC c with
      | false =>
        rw [hc] at h1
        exact rest_comes (through_no rfl) h1
      | true =>
        rw [hc] at h1
        obtain ⟨T, n, life, gens, drawn, toks, os⟩ := S
        refine .go _ _ ?_ (through_no rfl) stepT_again h1
        have hcm : Thread.calm ⟨.pure (.again c), F.code, F.pos, F.stack⟩ = true := by
          unfold Thread.calm Thread.atCollectorCode Thread.yieldsInsideHandler
          cases c with
          | builtin id a =>
            have hc' : (!id.startsWith "lifetime.") = true := hc
            show ((!id.startsWith "lifetime." || _) && _ && _) = true
            rw [hc']
            rfl
          | _ => rfl
        unfold stepOk
        rw [hcm]
        rfl
  | raise e =>
    have h1 : dRaise (stepT (denote tb) p w) n0 ann ih S F e = some R := h
    obtain ⟨c, q, r⟩ := F
    unfold dRaise at h1
    cases r with
    | nil => exact rest_comes (through_no rfl) h1
    | cons fr rest =>
      cases fr with
      | ret k a1 a2 a3 c2 q2 a4 =>
        obtain ⟨T, n, life, gens, drawn, toks, os⟩ := S
        exact .go _ _ rfl rfl rfl h1
      | gen a1 a2 a3 a4 a5 => exact rest_comes rfl h1
  | unsupported what =>
    have h1 : dUns md S = some R := h
    cases md with
    | false => cases h1
    | true => exact .uns what rfl rfl
  | finish e => cases h
  | rule tag k =>
    obtain ⟨T, n, life, gens, drawn, toks, os⟩ := S
    exact .go _ _ rfl (through_no rfl) rfl h
  | «at» q k =>
    obtain ⟨T, n, life, gens, drawn, toks, os⟩ := S
    obtain ⟨c, q0, r⟩ := F
    exact .go _ _ rfl (through_no rfl) rfl h
  | load a q k =>
    have h1 : dLoad ih S F a k = some R := h
    obtain ⟨T, n, life, gens, drawn, toks, os⟩ := S
    unfold dLoad at h1
    dsimp only at h1
    rw [getX_eq] at h1
    cases e1 : Nat.blt a n with
    | false =>
      rw [e1] at h1
      cases h1
    | true =>
      rw [e1] at h1
      cases e2 : T.get a with
      | none =>
        rw [e2] at h1
        cases h1
      | some o =>
        rw [e2] at h1
        cases e3 : aliveX o with
        | false =>
          have h2 : @Bool.rec (fun _ => Option SharedT) none (ih ⟨T, n, life, gens, drawn, toks, os⟩ (k o) F) (aliveX o) = some R := h1
          rw [e3] at h2
          cases h2
        | true =>
          have h2 : @Bool.rec (fun _ => Option SharedT) none (ih ⟨T, n, life, gens, drawn, toks, os⟩ (k o) F) (aliveX o) = some R := h1
          rw [e3] at h2
          refine .go ⟨T, n, life, gens, drawn, toks, os⟩ ⟨k o, F.code, F.pos, F.stack⟩ rfl (through_no rfl) ?_ h2
          have e4 : alive o = some o := by rw [alive_X, e3]
          show (match Nat.blt a n with
            | true => (match T.get a with
              | some o => (match alive o with
                | some o' => some ((⟨T, n, life, gens, drawn, toks, os⟩ : SharedT), (⟨k o', F.code, F.pos, F.stack⟩ : Thread))
                | none => none)
              | none => none)
            | false => none) = _
          rw [e1, e2]
          show (match alive o with
                | some o' => some ((⟨T, n, life, gens, drawn, toks, os⟩ : SharedT), (⟨k o', F.code, F.pos, F.stack⟩ : Thread))
                | none => none) = _
          rw [e4]
  | update a q f k =>
    have h1 : dUpd n0 ann ih S F a q f k = some R := h
    obtain ⟨T, n, life, gens, drawn, toks, os⟩ := S
    unfold dUpd at h1
    dsimp only at h1
    rw [getX_eq, setX_eq] at h1
    cases e0 : stepOk n0 ann ⟨.update a q f k, F.code, F.pos, F.stack⟩ with
    | false =>
      rw [e0] at h1
      cases h1
    | true =>
      rw [e0] at h1
      cases e1 : Nat.blt a n with
      | false =>
        rw [e1] at h1
        cases h1
      | true =>
        rw [e1] at h1
        cases e2 : T.get a with
        | none =>
          rw [e2] at h1
          cases h1
        | some o =>
          rw [e2] at h1
          have h2 : @Bool.rec (fun _ => Option SharedT) none (ih ⟨T.set a f, n, life, gens, drawn, toks, os⟩ (k ()) F) (aliveX o) = some R := h1
          cases e3 : aliveX o with
          | false =>
            rw [e3] at h2
            cases h2
          | true =>
            rw [e3] at h2
            refine .go ⟨T.set a f, n, life, gens, drawn, toks, os⟩ ⟨k (), F.code, F.pos, F.stack⟩ e0 (through_no rfl) ?_ h2
            · have e4 : alive o = some o := by rw [alive_X, e3]
              show (match Nat.blt a n with
                | true => (match T.get a with
                  | some o => (match alive o with
                    | some _ => some ((⟨T.set a f, n, life, gens, drawn, toks, os⟩ : SharedT), (⟨k (), F.code, F.pos, F.stack⟩ : Thread))
                    | none => none)
                  | none => none)
                | false => none) = _
              rw [e1, e2]
              show (match alive o with
                    | some _ => some ((⟨T.set a f, n, life, gens, drawn, toks, os⟩ : SharedT), (⟨k (), F.code, F.pos, F.stack⟩ : Thread))
                    | none => none) = _
              rw [e4]
  | alloc o k =>
    have h1 : dAlloc ih S F o k = some R := h
    obtain ⟨T, n, life, gens, drawn, toks, os⟩ := S
    unfold dAlloc at h1
    dsimp only at h1
    rw [getX_eq, insX_eq, HandSHeadRun.frNat_eq] at h1
    cases e2 : (T.ins n o).get n with
    | none =>
      rw [e2] at h1
      cases h1
    | some o2 =>
      rw [e2] at h1
      refine .go ⟨T.ins n o, n + 1, life, gens, drawn, toks, os⟩ ⟨k n, F.code, F.pos, F.stack⟩ rfl (through_no rfl) ?_ h1
      show (match ((T.ins n o).get n).isSome with
        | true => some ((⟨T.ins n o, n + 1, life, gens, drawn, toks, os⟩ : SharedT), (⟨k n, F.code, F.pos, F.stack⟩ : Thread))
        | false => none) = _
      rw [e2]
      rfl
  | loadIfAlive a k =>
    have h1 : dLia ih S F a k = some R := h
    obtain ⟨T, n, life, gens, drawn, toks, os⟩ := S
    unfold dLia at h1
    dsimp only at h1
    rw [getX_eq] at h1
    cases e1 : Nat.blt a n with
    | false =>
      rw [e1] at h1
      refine .go ⟨T, n, life, gens, drawn, toks, os⟩ ⟨k none, F.code, F.pos, F.stack⟩ rfl (through_no rfl) ?_ h1
      show (match Nat.blt a n with
        | true => (match T.get a with
          | some o => some ((⟨T, n, life, gens, drawn, toks, os⟩ : SharedT), (⟨k (alive o), F.code, F.pos, F.stack⟩ : Thread))
          | none => none)
        | false => some ((⟨T, n, life, gens, drawn, toks, os⟩ : SharedT), (⟨k none, F.code, F.pos, F.stack⟩ : Thread))) = _
      rw [e1]
    | true =>
      rw [e1] at h1
      cases e2 : T.get a with
      | none =>
        rw [e2] at h1
        cases h1
      | some o =>
        rw [e2] at h1
        have h2 : @Bool.rec (fun _ => Option SharedT) (ih ⟨T, n, life, gens, drawn, toks, os⟩ (k none) F) (ih ⟨T, n, life, gens, drawn, toks, os⟩ (k (some o)) F) (aliveX o) = some R := h1
        have h3 : ih ⟨T, n, life, gens, drawn, toks, os⟩ (k (alive o)) F = some R := by
          rw [alive_X]
          cases e3 : aliveX o <;> (rw [e3] at h2; exact h2)
        refine .go ⟨T, n, life, gens, drawn, toks, os⟩ ⟨k (alive o), F.code, F.pos, F.stack⟩ rfl (through_no rfl) ?_ h3
        show (match Nat.blt a n with
          | true => (match T.get a with
            | some o => some ((⟨T, n, life, gens, drawn, toks, os⟩ : SharedT), (⟨k (alive o), F.code, F.pos, F.stack⟩ : Thread))
            | none => none)
          | false => some ((⟨T, n, life, gens, drawn, toks, os⟩ : SharedT), (⟨k none, F.code, F.pos, F.stack⟩ : Thread))) = _
        rw [e1, e2]
  | point l k =>
    obtain ⟨T, n, life, gens, drawn, toks, os⟩ := S
    exact .go _ _ rfl (through_no rfl) rfl h
  | register a k => cases h
  | fresh k =>
    have h1 : dFresh ih S F k = some R := h
    obtain ⟨T, n, life, gens, drawn, toks, os⟩ := S
    unfold dFresh at h1
    dsimp only at h1
    rw [HandSHeadRun.frNat_eq] at h1
    exact .go ⟨T, n, life, gens, drawn, toks + 1, os⟩ ⟨k toks, F.code, F.pos, F.stack⟩ rfl (through_no rfl) rfl h1
  | ask k =>
    obtain ⟨T, n, life, gens, drawn, toks, os⟩ := S
    exact .go _ _ rfl (through_no rfl) rfl h
  | choose src n k => exact rest_comes (through_no rfl) h
  | os a b c => cases h
  | call c hd g l k =>
    obtain ⟨T, n, life, gens, drawn, toks, os⟩ := S
    obtain ⟨c0, q0, r⟩ := F
    exact .go _ _ rfl (through_no rfl) rfl h
  | handled own k =>
    obtain ⟨T, n, life, gens, drawn, toks, os⟩ := S
    exact .go _ _ rfl (through_no rfl) rfl h
  | newGen c k => exact rest_comes (through_no rfl) h
  | genState g k => exact rest_comes (through_no rfl) h
  | resume g r l k => exact rest_comes (through_no rfl) h
  | yield v g l k => exact rest_comes (through_no rfl) h
  | stack k =>
    obtain ⟨T, n, life, gens, drawn, toks, os⟩ := S
    obtain ⟨c0, q0, r⟩ := F
    exact .go _ _ rfl (through_no rfl) rfl h
  | fork a b => cases h
  | thread k =>
    obtain ⟨T, n, life, gens, drawn, toks, os⟩ := S
    exact .go _ _ rfl (through_no rfl) rfl h
  | await a b c d e => cases h
theorem goX_top : ∀ {m : Nat} {S : SharedT} {cur : Sem Fin} {F : Wh}, goX (stepT (denote tb) p w) (denote tb) p w.params n0 ann false m S cur F = some R → HandSHeadRun.goF (stepT (denote tb) p w) n0 ann m S ⟨cur, F.code, F.pos, F.stack⟩ = some R
  | 0, _, _, _, h => by cases h
  | m + 1, S, cur, F, h => by
    have h0 : dStep (stepT (denote tb) p w) (denote tb) p w.params n0 ann false (goX (stepT (denote tb) p w) (denote tb) p w.params n0 ann false m) S cur F = some R := h
    show (match through ⟨cur, F.code, F.pos, F.stack⟩ with
      | true => some S
      | false => match stepOk n0 ann ⟨cur, F.code, F.pos, F.stack⟩ with
        | false => none
        | true => match stepT (denote tb) p w S ⟨cur, F.code, F.pos, F.stack⟩ with
          | some (s', t') => HandSHeadRun.frS s' fun s' => HandSHeadRun.goF (stepT (denote tb) p w) n0 ann m s' t'
          | none => none) = some R
    cases step_comes h0 with
    | done f h1 h2 h3 h4 =>
      subst h1 h4
      rw [h2]
      rfl
    | uns what h1 h2 => cases h2
    | go S2 t2 h1 h2 h3 h4 =>
      rw [h2, h1, h3]
      show (HandSHeadRun.frS S2 fun s' => HandSHeadRun.goF (stepT (denote tb) p w) n0 ann m s' t2) = some R
      rw [HandSHeadRun.frS_eq]
      exact goX_top h4
end
/-- the state behind the top, from the boot -/
noncomputable def endX (M : Nat) (p : Program) (w : World) (os : OsState) : Option SharedT := match HandSHeadRun.putAll (boot_heap w.params).objs.toList .nil 0 with
  | some (t, n) => HandSHeadRun.frNat n fun n0 => goX (HandSHeadRun.stepQ (HandSHeadRun.denQ HandSHeadRun.tabQ) p w) (HandSHeadRun.denQ HandSHeadRun.tabQ) p w.params n0 (HandSHeadRun.bootAnn w) false M (HandSHeadRun.bootT w os (t, n0)) (topStub p).cur ⟨(topStub p).code, (topStub p).pos, (topStub p).stack⟩
  | none => none
theorem endX_ok {M : Nat} {p : Program} {w : World} {os : OsState} {S : SharedT} (h : endX M p w os = some S) : HandSHeadRun.endF (HandSHeadRun.stepQ (HandSHeadRun.denQ HandSHeadRun.tabQ) p w) M p w os = some S := by
  unfold endX at h
  unfold HandSHeadRun.endF
  cases e : HandSHeadRun.putAll (boot_heap w.params).objs.toList .nil 0 with
  | none =>
    rw [e] at h
    cases h
  | some r =>
    obtain ⟨t, n⟩ := r
    rw [e] at h
    have h1 : (HandSHeadRun.frNat n fun n0 => goX (HandSHeadRun.stepQ (HandSHeadRun.denQ HandSHeadRun.tabQ) p w) (HandSHeadRun.denQ HandSHeadRun.tabQ) p w.params n0 (HandSHeadRun.bootAnn w) false M (HandSHeadRun.bootT w os (t, n0)) (topStub p).cur ⟨(topStub p).code, (topStub p).pos, (topStub p).stack⟩) = some S := h
    show (HandSHeadRun.frNat n fun n0 => HandSHeadRun.goF (HandSHeadRun.stepQ (HandSHeadRun.denQ HandSHeadRun.tabQ) p w) n0 (HandSHeadRun.bootAnn w) M (HandSHeadRun.bootT w os (t, n0)) (topStub p)) = some S
    rw [HandSHeadRun.frNat_eq] at h1 ⊢
    rw [← HandSHeadRun.stepQ_eq, ← HandSHeadRun.denQ_eq, ← HandSHeadRun.tabQ_eq] at h1 ⊢
    exact goX_top h1
theorem runX {r : OpenRow} {q : Program} {H : Hook} {ob : SharedT → H.α} {M : Nat} {loose : List PySem.Str} {w : World}
    (h : ∀ os : OsState, (endX M r.prog w os).map (fun s => (HandSHeadRun.looksF r.prog (boot_heap w.params) s.abs, HandSHeadRun.seenQ q loose (importedModules r.prog.main.body) (fun s => xlAt q [] s && recOk r.toRowW.records s) s.abs, ob s)) = some (true, openGood q loose, H.val w)) : HandSHeadRun.RunEq r q H ob M loose w := fun os => by
  obtain ⟨s, hs, hv⟩ := Option.map_eq_some_iff.mp (h os)
  rw [endX_ok hs]
  exact congrArg some hv
end FG
namespace FG
open PySem L2
/-! ### the text by places -/
def topS (i : Nat) : Stmt := PySem.Challenge.pw_fontgap_k72_errors_of_their_own_kinds.main.body.getD i (.Pass ⟨0, 0, 0, 0⟩)
abbrev s_is_integer : Stmt := topS 22
theorem sc_is_integer : FnScope (["value"] : List Str) (["value"] : List Str) (defScope s_is_integer) := ⟨rfl, rfl, rfl, by decide +kernel, rfl, by decide +kernel, by decide +kernel⟩
abbrev s_greatest_divisor : Stmt := topS 36
theorem sc_greatest_divisor : FnScope (["left", "right"] : List Str) (["left", "right"] : List Str) (defScope s_greatest_divisor) := ⟨rfl, rfl, rfl, by decide +kernel, rfl, by decide +kernel, by decide +kernel⟩
abbrev s_Ratio_init : Stmt := inClass (topS 38) 1
theorem sc_Ratio_init : FnScope (["self", "top", "bottom", "shared"] : List Str) (["self", "top", "bottom"] : List Str) (defScope s_Ratio_init) := ⟨rfl, rfl, rfl, by decide +kernel, rfl, by decide +kernel, by decide +kernel⟩
abbrev s_Ratio_eq : Stmt := inClass (topS 38) 2
theorem sc_Ratio_eq : FnScope (["self", "other"] : List Str) (["self", "other"] : List Str) (defScope s_Ratio_eq) := ⟨rfl, rfl, rfl, by decide +kernel, rfl, by decide +kernel, by decide +kernel⟩
abbrev s_law_glyphs : Stmt := topS 60
theorem sc_law_glyphs : FnScope (["_law_way", "_law_number", "_law_word", "_law_e"] : List Str) (["_law_way", "_law_number", "_law_word"] : List Str) (defScope s_law_glyphs) := ⟨rfl, rfl, rfl, by decide +kernel, rfl, by decide +kernel, by decide +kernel⟩
abbrev s_law_places : Stmt := topS 61
theorem sc_law_places : FnScope (["_law_way", "_law_number", "_law_word", "_law_e"] : List Str) (["_law_way", "_law_number", "_law_word"] : List Str) (defScope s_law_places) := ⟨rfl, rfl, rfl, by decide +kernel, rfl, by decide +kernel, by decide +kernel⟩
abbrev s_law_names : Stmt := topS 62
theorem sc_law_names : FnScope (["_law_way", "_law_word", "_law_e"] : List Str) (["_law_way", "_law_word"] : List Str) (defScope s_law_names) := ⟨rfl, rfl, rfl, by decide +kernel, rfl, by decide +kernel, by decide +kernel⟩
abbrev s_is_between : Stmt := topS 23
theorem sc_is_between : FnScope (["value", "low", "high"] : List Str) (["value", "low", "high"] : List Str) (defScope s_is_between) := ⟨rfl, rfl, rfl, by decide +kernel, rfl, by decide +kernel, by decide +kernel⟩
abbrev s_check_between : Stmt := topS 24
theorem sc_check_between : FnScope (["value", "low", "high"] : List Str) (["value", "low", "high"] : List Str) (defScope s_check_between) := ⟨rfl, rfl, rfl, by decide +kernel, rfl, by decide +kernel, by decide +kernel⟩
abbrev s_font_order : Stmt := topS 53
theorem sc_font_order : FnScope (["glyphs", "others", "glyph", "names"] : List Str) (["glyphs"] : List Str) (defScope s_font_order) := ⟨rfl, rfl, rfl, by decide +kernel, rfl, by decide +kernel, by decide +kernel⟩
abbrev s_is_name : Stmt := topS 54
theorem sc_is_name : FnScope (["glyph", "letter"] : List Str) (["glyph"] : List Str) (defScope s_is_name) := ⟨rfl, rfl, rfl, by decide +kernel, rfl, by decide +kernel, by decide +kernel⟩
abbrev s_Font_known : Stmt := inClass (topS 55) 17
theorem sc_Font_known : FnScope (["self", "glyph"] : List Str) (["self", "glyph"] : List Str) (defScope s_Font_known) := ⟨rfl, rfl, rfl, by decide +kernel, rfl, by decide +kernel, by decide +kernel⟩
abbrev s_Font_ligatures : Stmt := inClass (topS 55) 13
theorem sc_Font_ligatures : FnScope (["self", "glyph"] : List Str) (["self"] : List Str) (defScope s_Font_ligatures) := ⟨rfl, rfl, rfl, by decide +kernel, rfl, by decide +kernel, by decide +kernel⟩
abbrev s_Font_put_blank : Stmt := inClass (topS 55) 28
theorem sc_Font_put_blank : FnScope (["self", "advance"] : List Str) (["self", "advance"] : List Str) (defScope s_Font_put_blank) := ⟨rfl, rfl, rfl, by decide +kernel, rfl, by decide +kernel, by decide +kernel⟩
abbrev s_Font_put_advance : Stmt := inClass (topS 55) 25
theorem sc_Font_put_advance : FnScope (["self", "glyph", "advance", "letter", "pair"] : List Str) (["self", "glyph", "advance"] : List Str) (defScope s_Font_put_advance) := ⟨rfl, rfl, rfl, by decide +kernel, rfl, by decide +kernel, by decide +kernel⟩
abbrev s_Font_init : Stmt := inClass (topS 55) 4
theorem sc_Font_init : FnScope (["self", "advances", "kerns", "blank", "glyph", "pair"] : List Str) (["self", "advances", "kerns", "blank"] : List Str) (defScope s_Font_init) := ⟨rfl, rfl, rfl, by decide +kernel, rfl, by decide +kernel, by decide +kernel⟩
abbrev s_Font_contains : Stmt := inClass (topS 55) 8
theorem sc_Font_contains : FnScope (["self", "glyph"] : List Str) (["self", "glyph"] : List Str) (defScope s_Font_contains) := ⟨rfl, rfl, rfl, by decide +kernel, rfl, by decide +kernel, by decide +kernel⟩
abbrev s_Font_letters : Stmt := inClass (topS 55) 12
theorem sc_Font_letters : FnScope (["self", "glyph"] : List Str) (["self"] : List Str) (defScope s_Font_letters) := ⟨rfl, rfl, rfl, by decide +kernel, rfl, by decide +kernel, by decide +kernel⟩
abbrev s_Font_copy : Stmt := inClass (topS 55) 22
theorem sc_Font_copy : FnScope (["self"] : List Str) (["self"] : List Str) (defScope s_Font_copy) := ⟨rfl, rfl, rfl, by decide +kernel, rfl, by decide +kernel, by decide +kernel⟩
abbrev s_proper_beginnings : Stmt := topS 27
theorem sc_proper_beginnings : FnScope (["font", "beginnings", "ligature", "end"] : List Str) (["font"] : List Str) (defScope s_proper_beginnings) := ⟨rfl, rfl, rfl, by decide +kernel, rfl, by decide +kernel, by decide +kernel⟩
abbrev s_drain : Stmt := topS 29
theorem sc_drain : FnScope (["font", "row", "glyphs", "at", "glyph"] : List Str) (["font", "row"] : List Str) (defScope s_drain) := ⟨rfl, rfl, rfl, by decide +kernel, rfl, by decide +kernel, by decide +kernel⟩
abbrev s_added_width : Stmt := topS 31
theorem sc_added_width : FnScope (["font", "last", "glyphs", "total", "glyph"] : List Str) (["font", "last", "glyphs"] : List Str) (defScope s_added_width) := ⟨rfl, rfl, rfl, by decide +kernel, rfl, by decide +kernel, by decide +kernel⟩
abbrev s_Joined_rest : Stmt := inClass (topS 34) 2
theorem sc_Joined_rest : FnScope (["self", "which", "place", "face"] : List Str) (["self", "which", "place"] : List Str) (defScope s_Joined_rest) := ⟨rfl, rfl, rfl, by decide +kernel, rfl, by decide +kernel, by decide +kernel⟩
abbrev s_Joined_explore : Stmt := inClass (topS 34) 1
theorem sc_Joined_explore : FnScope (["self", "numbers", "beginnings", "number", "place", "row", "letter", "left", "first_width", "right", "second_width", "following"] : List Str) (["self"] : List Str) (defScope s_Joined_explore) := ⟨rfl, rfl, rfl, by decide +kernel, rfl, by decide +kernel, by decide +kernel⟩
abbrev s_Joined_letters : Stmt := inClass (topS 34) 3
theorem sc_Joined_letters : FnScope (["self"] : List Str) (["self"] : List Str) (defScope s_Joined_letters) := ⟨rfl, rfl, rfl, by decide +kernel, rfl, by decide +kernel, by decide +kernel⟩
abbrev s_Joined_init : Stmt := inClass (topS 34) 0
theorem sc_Joined_init : FnScope (["self", "first", "second", "letter"] : List Str) (["self", "first", "second"] : List Str) (defScope s_Joined_init) := ⟨rfl, rfl, rfl, by decide +kernel, rfl, by decide +kernel, by decide +kernel⟩
abbrev s_Font_undo : Stmt := inClass (topS 55) 36
theorem sc_Font_undo : FnScope (["self"] : List Str) (["self"] : List Str) (defScope s_Font_undo) := ⟨rfl, rfl, rfl, by decide +kernel, rfl, by decide +kernel, by decide +kernel⟩
abbrev s_extreme : Stmt := topS 49
theorem sc_extreme : FnScope (["joined", "ring", "rate", "values", "back", "better", "excess", "where"] : List Str) (["joined"] : List Str) (defScope s_extreme) := ⟨rfl, rfl, rfl, by decide +kernel, rfl, by decide +kernel, by decide +kernel⟩
abbrev s_worst_rate : Stmt := topS 50
theorem sc_worst_rate : FnScope (["joined"] : List Str) (["joined"] : List Str) (defScope s_worst_rate) := ⟨rfl, rfl, rfl, by decide +kernel, rfl, by decide +kernel, by decide +kernel⟩
abbrev s_law_kinds : Stmt := topS 64
theorem sc_law_kinds : FnScope (["_law_e", "_law_kinds_here", "_law_kind"] : List Str) (["_law_e"] : List Str) (defScope s_law_kinds) := ⟨rfl, rfl, rfl, by decide +kernel, rfl, by decide +kernel, by decide +kernel⟩
abbrev s_law_plain : Stmt := topS 63
theorem sc_law_plain : FnScope (["_law_way", "_law_e", "_law_plain_here", "_law_others"] : List Str) (["_law_way"] : List Str) (defScope s_law_plain) := ⟨rfl, rfl, rfl, by decide +kernel, rfl, by decide +kernel, by decide +kernel⟩
abbrev s_law_bag : Stmt := topS 57
theorem sc_law_bag : FnScope (["_law_script"] : List Str) (["_law_script"] : List Str) (defScope s_law_bag) := ⟨rfl, rfl, rfl, by decide +kernel, rfl, by decide +kernel, by decide +kernel⟩
abbrev s_law_take : Stmt := topS 58
theorem sc_law_take : FnScope (["_law_bag_here", "_law_size", "_law_digit", "_law_cell"] : List Str) (["_law_bag_here", "_law_size"] : List Str) (defScope s_law_take) := ⟨rfl, rfl, rfl, by decide +kernel, rfl, by decide +kernel, by decide +kernel⟩
abbrev s_law_text : Stmt := topS 59
theorem sc_law_text : FnScope (["_law_bag_here", "_law_letters", "_law_long", "_law_k"] : List Str) (["_law_bag_here", "_law_letters", "_law_long"] : List Str) (defScope s_law_text) := ⟨rfl, rfl, rfl, by decide +kernel, rfl, by decide +kernel, by decide +kernel⟩
abbrev s_law : Stmt := topS 65
theorem sc_law : FnScope (["_law_script", "_law_bag_here", "_law_number", "_law_word", "_law_way", "_law_good"] : List Str) (["_law_script"] : List Str) (defScope s_law) := ⟨rfl, rfl, rfl, by decide +kernel, rfl, by decide +kernel, by decide +kernel⟩
abbrev s_InvalidNumber_init : Stmt := inClass (topS 4) 0
abbrev s_InvalidGlyph_init : Stmt := inClass (topS 3) 0
abbrev s_UnknownGlyph_init : Stmt := inClass (topS 5) 0
abbrev s_TooMany_init : Stmt := inClass (topS 6) 0
abbrev s_Overlap_init : Stmt := inClass (topS 7) 0
abbrev s_InUse_init : Stmt := inClass (topS 8) 0
abbrev s_DeedRefused_init : Stmt := inClass (topS 9) 0
abbrev s_InvalidLine_init : Stmt := inClass (topS 10) 0
abbrev s_UnknownLetter_init : Stmt := inClass (topS 11) 0
abbrev s_InvalidState_init : Stmt := inClass (topS 12) 0
abbrev s_InvalidText_init : Stmt := inClass (topS 13) 0
abbrev s_Contradiction_init : Stmt := inClass (topS 14) 0
abbrev s_NameTaken_init : Stmt := inClass (topS 15) 0
abbrev s_UnknownName_init : Stmt := inClass (topS 16) 0
abbrev s_UnknownKind_init : Stmt := inClass (topS 17) 0
abbrev s_InvalidOptions_init : Stmt := inClass (topS 18) 0
/-! ### what the top has left: the places -/
section
open PySem PySem.Spec PyProof.Rows L2
def dx_is_integer : DefX := ⟨fun K => (He.fAd K ("is_integer", none)), "is_integer", "is_integer", defArgs s_is_integer, defBody s_is_integer, defScope s_is_integer, [], [], []⟩
def dx_greatest_divisor : DefX := ⟨fun K => (He.fAd K ("greatest_divisor", none)), "greatest_divisor", "greatest_divisor", defArgs s_greatest_divisor, defBody s_greatest_divisor, defScope s_greatest_divisor, [], [], []⟩
def dx_Ratio_init : DefX := ⟨fun K => (He.ma K (He.ga K "Ratio") "__init__"), "__init__", "Ratio.__init__", defArgs s_Ratio_init, defBody s_Ratio_init, defScope s_Ratio_init, [.int 1], [], []⟩
def dx_Ratio_eq : DefX := ⟨fun K => (He.ma K (He.ga K "Ratio") "__eq__"), "__eq__", "Ratio.__eq__", defArgs s_Ratio_eq, defBody s_Ratio_eq, defScope s_Ratio_eq, [], [], []⟩
def dx_law_glyphs : DefX := ⟨fun K => (He.fAd K ("_law_glyphs", none)), "_law_glyphs", "_law_glyphs", defArgs s_law_glyphs, defBody s_law_glyphs, defScope s_law_glyphs, [], [], []⟩
def dx_law_places : DefX := ⟨fun K => (He.fAd K ("_law_places", none)), "_law_places", "_law_places", defArgs s_law_places, defBody s_law_places, defScope s_law_places, [], [], []⟩
def dx_law_names : DefX := ⟨fun K => (He.fAd K ("_law_names", none)), "_law_names", "_law_names", defArgs s_law_names, defBody s_law_names, defScope s_law_names, [], [], []⟩
def dx_is_between : DefX := ⟨fun K => (He.fAd K ("is_between", none)), "is_between", "is_between", defArgs s_is_between, defBody s_is_between, defScope s_is_between, [], [], []⟩
def dx_check_between : DefX := ⟨fun K => (He.fAd K ("check_between", none)), "check_between", "check_between", defArgs s_check_between, defBody s_check_between, defScope s_check_between, [], [], []⟩
def dx_font_order : DefX := ⟨fun K => (He.fAd K ("font_order", none)), "font_order", "font_order", defArgs s_font_order, defBody s_font_order, defScope s_font_order, [], [], []⟩
def dx_is_name : DefX := ⟨fun K => (He.fAd K ("is_name", none)), "is_name", "is_name", defArgs s_is_name, defBody s_is_name, defScope s_is_name, [], [], []⟩
def dx_Font_known : DefX := ⟨fun K => (He.ma K (He.ga K "Font") "known"), "known", "Font.known", defArgs s_Font_known, defBody s_Font_known, defScope s_Font_known, [], [], []⟩
def dx_Font_ligatures : DefX := ⟨fun K => (prAt K (He.ma K (He.ga K "Font") "ligatures")), "ligatures", "Font.ligatures", defArgs s_Font_ligatures, defBody s_Font_ligatures, defScope s_Font_ligatures, [], [], []⟩
def dx_Font_put_blank : DefX := ⟨fun K => (He.ma K (He.ga K "Font") "put_blank"), "put_blank", "Font.put_blank", defArgs s_Font_put_blank, defBody s_Font_put_blank, defScope s_Font_put_blank, [], [], []⟩
def dx_Font_put_advance : DefX := ⟨fun K => (He.ma K (He.ga K "Font") "put_advance"), "put_advance", "Font.put_advance", defArgs s_Font_put_advance, defBody s_Font_put_advance, defScope s_Font_put_advance, [], [], []⟩
def dx_Font_init : DefX := ⟨fun K => (He.ma K (He.ga K "Font") "__init__"), "__init__", "Font.__init__", defArgs s_Font_init, defBody s_Font_init, defScope s_Font_init, [.non], [("blank", .int 250)], []⟩
def dx_Font_contains : DefX := ⟨fun K => (He.ma K (He.ga K "Font") "__contains__"), "__contains__", "Font.__contains__", defArgs s_Font_contains, defBody s_Font_contains, defScope s_Font_contains, [], [], []⟩
def dx_Font_letters : DefX := ⟨fun K => (prAt K (He.ma K (He.ga K "Font") "letters")), "letters", "Font.letters", defArgs s_Font_letters, defBody s_Font_letters, defScope s_Font_letters, [], [], []⟩
def dx_Font_copy : DefX := ⟨fun K => (He.ma K (He.ga K "Font") "copy"), "copy", "Font.copy", defArgs s_Font_copy, defBody s_Font_copy, defScope s_Font_copy, [], [], []⟩
def dx_proper_beginnings : DefX := ⟨fun K => (He.fAd K ("proper_beginnings", none)), "proper_beginnings", "proper_beginnings", defArgs s_proper_beginnings, defBody s_proper_beginnings, defScope s_proper_beginnings, [], [], []⟩
def dx_drain : DefX := ⟨fun K => (He.fAd K ("drain", none)), "drain", "drain", defArgs s_drain, defBody s_drain, defScope s_drain, [], [], []⟩
def dx_added_width : DefX := ⟨fun K => (He.fAd K ("added_width", none)), "added_width", "added_width", defArgs s_added_width, defBody s_added_width, defScope s_added_width, [], [], []⟩
def dx_Joined_rest : DefX := ⟨fun K => (He.ma K (He.ga K "Joined") "rest"), "rest", "Joined.rest", defArgs s_Joined_rest, defBody s_Joined_rest, defScope s_Joined_rest, [], [], []⟩
def dx_Joined_explore : DefX := ⟨fun K => (He.ma K (He.ga K "Joined") "explore"), "explore", "Joined.explore", defArgs s_Joined_explore, defBody s_Joined_explore, defScope s_Joined_explore, [], [], []⟩
def dx_Joined_letters : DefX := ⟨fun K => (prAt K (He.ma K (He.ga K "Joined") "letters")), "letters", "Joined.letters", defArgs s_Joined_letters, defBody s_Joined_letters, defScope s_Joined_letters, [], [], []⟩
def dx_Joined_init : DefX := ⟨fun K => (He.ma K (He.ga K "Joined") "__init__"), "__init__", "Joined.__init__", defArgs s_Joined_init, defBody s_Joined_init, defScope s_Joined_init, [], [], []⟩
def dx_Font_undo : DefX := ⟨fun K => (He.ma K (He.ga K "Font") "undo"), "undo", "Font.undo", defArgs s_Font_undo, defBody s_Font_undo, defScope s_Font_undo, [], [], []⟩
def dx_extreme : DefX := ⟨fun K => (He.fAd K ("extreme", none)), "extreme", "extreme", defArgs s_extreme, defBody s_extreme, defScope s_extreme, [], [], []⟩
def dx_worst_rate : DefX := ⟨fun K => (He.fAd K ("worst_rate", none)), "worst_rate", "worst_rate", defArgs s_worst_rate, defBody s_worst_rate, defScope s_worst_rate, [], [], []⟩
def dx_law_kinds : DefX := ⟨fun K => (He.fAd K ("_law_kinds", none)), "_law_kinds", "_law_kinds", defArgs s_law_kinds, defBody s_law_kinds, defScope s_law_kinds, [], [], []⟩
def dx_law_plain : DefX := ⟨fun K => (He.fAd K ("_law_plain", none)), "_law_plain", "_law_plain", defArgs s_law_plain, defBody s_law_plain, defScope s_law_plain, [], [], []⟩
def dx_law_bag : DefX := ⟨fun K => (He.fAd K ("_law_bag", none)), "_law_bag", "_law_bag", defArgs s_law_bag, defBody s_law_bag, defScope s_law_bag, [], [], []⟩
def dx_law_take : DefX := ⟨fun K => (He.fAd K ("_law_take", none)), "_law_take", "_law_take", defArgs s_law_take, defBody s_law_take, defScope s_law_take, [], [], []⟩
def dx_law_text : DefX := ⟨fun K => (He.fAd K ("_law_text", none)), "_law_text", "_law_text", defArgs s_law_text, defBody s_law_text, defScope s_law_text, [], [], []⟩
def dx_law : DefX := ⟨fun K => (He.fAd K ("law", none)), "law", "law", defArgs s_law, defBody s_law, defScope s_law, [], [], []⟩
def dx_InvalidNumber_init : DefX := ⟨fun K => (He.ma K (He.ga K "InvalidNumber") "__init__"), "__init__", "InvalidNumber.__init__", defArgs s_InvalidNumber_init, defBody s_InvalidNumber_init, defScope s_InvalidNumber_init, [], [], ["__class__"]⟩
def dx_InvalidGlyph_init : DefX := ⟨fun K => (He.ma K (He.ga K "InvalidGlyph") "__init__"), "__init__", "InvalidGlyph.__init__", defArgs s_InvalidGlyph_init, defBody s_InvalidGlyph_init, defScope s_InvalidGlyph_init, [], [], ["__class__"]⟩
def dx_UnknownGlyph_init : DefX := ⟨fun K => (He.ma K (He.ga K "UnknownGlyph") "__init__"), "__init__", "UnknownGlyph.__init__", defArgs s_UnknownGlyph_init, defBody s_UnknownGlyph_init, defScope s_UnknownGlyph_init, [], [], ["__class__"]⟩
def dx_TooMany_init : DefX := ⟨fun K => (He.ma K (He.ga K "TooMany") "__init__"), "__init__", "TooMany.__init__", defArgs s_TooMany_init, defBody s_TooMany_init, defScope s_TooMany_init, [], [], ["__class__"]⟩
def dx_Overlap_init : DefX := ⟨fun K => (He.ma K (He.ga K "Overlap") "__init__"), "__init__", "Overlap.__init__", defArgs s_Overlap_init, defBody s_Overlap_init, defScope s_Overlap_init, [], [], ["__class__"]⟩
def dx_InUse_init : DefX := ⟨fun K => (He.ma K (He.ga K "InUse") "__init__"), "__init__", "InUse.__init__", defArgs s_InUse_init, defBody s_InUse_init, defScope s_InUse_init, [], [], ["__class__"]⟩
def dx_DeedRefused_init : DefX := ⟨fun K => (He.ma K (He.ga K "DeedRefused") "__init__"), "__init__", "DeedRefused.__init__", defArgs s_DeedRefused_init, defBody s_DeedRefused_init, defScope s_DeedRefused_init, [], [], ["__class__"]⟩
def dx_InvalidLine_init : DefX := ⟨fun K => (He.ma K (He.ga K "InvalidLine") "__init__"), "__init__", "InvalidLine.__init__", defArgs s_InvalidLine_init, defBody s_InvalidLine_init, defScope s_InvalidLine_init, [], [], ["__class__"]⟩
def dx_UnknownLetter_init : DefX := ⟨fun K => (He.ma K (He.ga K "UnknownLetter") "__init__"), "__init__", "UnknownLetter.__init__", defArgs s_UnknownLetter_init, defBody s_UnknownLetter_init, defScope s_UnknownLetter_init, [], [], ["__class__"]⟩
def dx_InvalidState_init : DefX := ⟨fun K => (He.ma K (He.ga K "InvalidState") "__init__"), "__init__", "InvalidState.__init__", defArgs s_InvalidState_init, defBody s_InvalidState_init, defScope s_InvalidState_init, [], [], ["__class__"]⟩
def dx_InvalidText_init : DefX := ⟨fun K => (He.ma K (He.ga K "InvalidText") "__init__"), "__init__", "InvalidText.__init__", defArgs s_InvalidText_init, defBody s_InvalidText_init, defScope s_InvalidText_init, [], [], ["__class__"]⟩
def dx_Contradiction_init : DefX := ⟨fun K => (He.ma K (He.ga K "Contradiction") "__init__"), "__init__", "Contradiction.__init__", defArgs s_Contradiction_init, defBody s_Contradiction_init, defScope s_Contradiction_init, [], [], ["__class__"]⟩
def dx_NameTaken_init : DefX := ⟨fun K => (He.ma K (He.ga K "NameTaken") "__init__"), "__init__", "NameTaken.__init__", defArgs s_NameTaken_init, defBody s_NameTaken_init, defScope s_NameTaken_init, [], [], ["__class__"]⟩
def dx_UnknownName_init : DefX := ⟨fun K => (He.ma K (He.ga K "UnknownName") "__init__"), "__init__", "UnknownName.__init__", defArgs s_UnknownName_init, defBody s_UnknownName_init, defScope s_UnknownName_init, [], [], ["__class__"]⟩
def dx_UnknownKind_init : DefX := ⟨fun K => (He.ma K (He.ga K "UnknownKind") "__init__"), "__init__", "UnknownKind.__init__", defArgs s_UnknownKind_init, defBody s_UnknownKind_init, defScope s_UnknownKind_init, [], [], ["__class__"]⟩
def dx_InvalidOptions_init : DefX := ⟨fun K => (He.ma K (He.ga K "InvalidOptions") "__init__"), "__init__", "InvalidOptions.__init__", defArgs s_InvalidOptions_init, defBody s_InvalidOptions_init, defScope s_InvalidOptions_init, [], [], ["__class__"]⟩
def fnL : List DefX := [dx_is_integer, dx_greatest_divisor, dx_Ratio_init, dx_Ratio_eq, dx_law_glyphs, dx_law_places, dx_law_names, dx_is_between, dx_check_between, dx_font_order, dx_is_name, dx_Font_known, dx_Font_ligatures, dx_Font_put_blank, dx_Font_put_advance, dx_Font_init, dx_Font_contains, dx_Font_letters, dx_Font_copy, dx_proper_beginnings, dx_drain, dx_added_width, dx_Joined_rest, dx_Joined_explore, dx_Joined_letters, dx_Joined_init, dx_Font_undo, dx_extreme, dx_worst_rate, dx_law_kinds, dx_law_plain, dx_law_bag, dx_law_take, dx_law_text, dx_law, dx_InvalidNumber_init, dx_InvalidGlyph_init, dx_UnknownGlyph_init, dx_TooMany_init, dx_Overlap_init, dx_InUse_init, dx_DeedRefused_init, dx_InvalidLine_init, dx_UnknownLetter_init, dx_InvalidState_init, dx_InvalidText_init, dx_Contradiction_init, dx_NameTaken_init, dx_UnknownName_init, dx_UnknownKind_init, dx_InvalidOptions_init]
def fxL : List (Fg → Bool) := [fun K => (He.Fa.glo "is_integer").ok K,
  fun K => (He.Fa.glo "greatest_divisor").ok K,
  fun K => (He.Fa.meth "Ratio" "__eq__").ok K,
  fun K => (He.Fa.glo "_law_glyphs").ok K,
  fun K => (He.Fa.glo "_law_places").ok K,
  fun K => (He.Fa.glo "_law_names").ok K,
  fun K => (He.Fa.glo "is_between").ok K,
  fun K => (He.Fa.glo "check_between").ok K,
  fun K => (He.Fa.glo "font_order").ok K,
  fun K => (He.Fa.glo "is_name").ok K,
  fun K => (He.Fa.meth "Font" "known").ok K,
  prB "Font" "ligatures",
  fun K => (He.Fa.meth "Font" "put_blank").ok K,
  fun K => (He.Fa.meth "Font" "put_advance").ok K,
  fun K => (He.Fa.meth "Font" "__contains__").ok K,
  prB "Font" "letters",
  fun K => (He.Fa.meth "Font" "copy").ok K,
  fun K => (He.Fa.glo "proper_beginnings").ok K,
  fun K => (He.Fa.glo "drain").ok K,
  fun K => (He.Fa.glo "added_width").ok K,
  fun K => (He.Fa.meth "Joined" "rest").ok K,
  fun K => (He.Fa.meth "Joined" "explore").ok K,
  prB "Joined" "letters",
  fun K => (He.Fa.meth "Font" "undo").ok K,
  fun K => (He.Fa.glo "extreme").ok K,
  fun K => (He.Fa.glo "worst_rate").ok K,
  fun K => (He.Fa.glo "_law_kinds").ok K,
  fun K => (He.Fa.glo "_law_plain").ok K,
  fun K => (He.Fa.glo "_law_bag").ok K,
  fun K => (He.Fa.glo "_law_take").ok K,
  fun K => (He.Fa.glo "_law_text").ok K,
  fun K => (He.Fa.glo "law").ok K,
  crB "Font",
  cvB "Font" "MOST_ADVANCE" 1000000,
  cvB "Font" "MOST_LETTERS" 6,
  cvB "Font" "MOST_LIGATURES" 40,
  fun K => (He.Fa.glo "Ratio").ok K,
  fun K => (He.Fa.cls "Ratio").ok K,
  insB "Ratio",
  fun K => (He.Fa.mkr "Ratio").ok K,
  fun K => (He.Fa.glo "FontError").ok K,
  fun K => (He.Fa.glo "NothingToUndo").ok K,
  fun K => (He.Fa.glo "NoCommonLetters").ok K,
  fun K => (He.Fa.glo "Font").ok K,
  fun K => (He.Fa.cls "Font").ok K,
  insB "Font",
  fun K => (He.Fa.mkr "Font").ok K,
  fun K => (He.Fa.glo "Joined").ok K,
  fun K => (He.Fa.cls "Joined").ok K,
  insB "Joined",
  fun K => (He.Fa.mkr "Joined").ok K,
  errB (Str.ofString "/claim/cut.py") "InvalidNumber",
  fun K => He.eqO (PySem.W.findIn K (.ref (He.ga K "InvalidNumber")) "value") (some none),
  errB (Str.ofString "/claim/cut.py") "InvalidGlyph",
  fun K => He.eqO (PySem.W.findIn K (.ref (He.ga K "InvalidGlyph")) "glyph") (some none),
  errB (Str.ofString "/claim/cut.py") "UnknownGlyph",
  fun K => He.eqO (PySem.W.findIn K (.ref (He.ga K "UnknownGlyph")) "glyph") (some none),
  errB (Str.ofString "/claim/cut.py") "TooMany",
  fun K => He.eqO (PySem.W.findIn K (.ref (He.ga K "TooMany")) "limit") (some none),
  errB (Str.ofString "/claim/cut.py") "Overlap",
  fun K => He.eqO (PySem.W.findIn K (.ref (He.ga K "Overlap")) "left") (some none),
  fun K => He.eqO (PySem.W.findIn K (.ref (He.ga K "Overlap")) "right") (some none),
  errB (Str.ofString "/claim/cut.py") "InUse",
  fun K => He.eqO (PySem.W.findIn K (.ref (He.ga K "InUse")) "user") (some none),
  errB (Str.ofString "/claim/cut.py") "DeedRefused",
  fun K => He.eqO (PySem.W.findIn K (.ref (He.ga K "DeedRefused")) "index") (some none),
  errB (Str.ofString "/claim/cut.py") "InvalidLine",
  fun K => He.eqO (PySem.W.findIn K (.ref (He.ga K "InvalidLine")) "line") (some none),
  errB (Str.ofString "/claim/cut.py") "UnknownLetter",
  fun K => He.eqO (PySem.W.findIn K (.ref (He.ga K "UnknownLetter")) "letter") (some none),
  fun K => He.eqO (PySem.W.findIn K (.ref (He.ga K "UnknownLetter")) "index") (some none),
  errB (Str.ofString "/claim/cut.py") "InvalidState",
  fun K => He.eqO (PySem.W.findIn K (.ref (He.ga K "InvalidState")) "number") (some none),
  errB (Str.ofString "/claim/cut.py") "InvalidText",
  fun K => He.eqO (PySem.W.findIn K (.ref (He.ga K "InvalidText")) "index") (some none),
  errB (Str.ofString "/claim/cut.py") "Contradiction",
  fun K => He.eqO (PySem.W.findIn K (.ref (He.ga K "Contradiction")) "combination") (some none),
  errB (Str.ofString "/claim/cut.py") "NameTaken",
  fun K => He.eqO (PySem.W.findIn K (.ref (He.ga K "NameTaken")) "name") (some none),
  errB (Str.ofString "/claim/cut.py") "UnknownName",
  fun K => He.eqO (PySem.W.findIn K (.ref (He.ga K "UnknownName")) "name") (some none),
  errB (Str.ofString "/claim/cut.py") "UnknownKind",
  fun K => He.eqO (PySem.W.findIn K (.ref (He.ga K "UnknownKind")) "kind") (some none),
  errB (Str.ofString "/claim/cut.py") "InvalidOptions",
  fun K => He.eqO (PySem.W.findIn K (.ref (He.ga K "InvalidOptions")) "kind") (some none),
  fun K => (He.Fa.free "ValueError").ok K,
  fun K => (He.Fa.free "abs").ok K,
  fun K => (He.Fa.free "bool").ok K,
  fun K => (He.Fa.free "int").ok K,
  fun K => (He.Fa.free "isinstance").ok K,
  fun K => (He.Fa.free "len").ok K,
  fun K => (He.Fa.free "list").ok K,
  fun K => (He.Fa.free "range").ok K,
  fun K => (He.Fa.free "sorted").ok K,
  fun K => (He.Fa.free "str").ok K,
  fun K => (He.Fa.noat "Ratio" "top").ok K,
  fun K => (He.Fa.noat "Ratio" "bottom").ok K,
  fun K => decide (PySem.W.excIn K (He.ga K "NothingToUndo") [.type "ValueError", .type "Exception", .type "BaseException", .type "object"] "ValueError.__new__" = true),
  fun K => decide (PySem.W.keepIn K (.ref (He.ga K "NothingToUndo")) = true),
  fun K => decide (PySem.W.typeIn K (.ref (He.ga K "NothingToUndo")) = some (.type "type")),
  excB "NothingToUndo",
  fun K => decide (PySem.W.excIn K (He.ga K "NoCommonLetters") [.type "ValueError", .type "Exception", .type "BaseException", .type "object"] "ValueError.__new__" = true),
  fun K => decide (PySem.W.keepIn K (.ref (He.ga K "NoCommonLetters")) = true),
  fun K => decide (PySem.W.typeIn K (.ref (He.ga K "NoCommonLetters")) = some (.type "type")),
  excB "NoCommonLetters",
  fun K => decide (PySem.W.typeIn K (.ref (He.ga K "FontError")) = some (.type "type")),
  fun K => decide (PySem.W.subIn K (.ref (He.ga K "FontError")) (.type "BaseException") = some true),
  fun K => decide ((PySem.W.clsIn K (He.ga K "FontError")).isSome = true),
  fun K => decide ((PySem.W.clsIn K (He.ga K "InvalidGlyph")).map (·.mro) = some [.ref (He.ga K "InvalidGlyph"), .ref (He.ga K "FontError"), .type "ValueError", .type "Exception", .type "BaseException", .type "object"]),
  fun K => decide ((PySem.W.clsIn K (He.ga K "InvalidNumber")).map (·.mro) = some [.ref (He.ga K "InvalidNumber"), .ref (He.ga K "FontError"), .type "ValueError", .type "Exception", .type "BaseException", .type "object"]),
  fun K => decide ((PySem.W.clsIn K (He.ga K "UnknownGlyph")).map (·.mro) = some [.ref (He.ga K "UnknownGlyph"), .ref (He.ga K "FontError"), .type "ValueError", .type "Exception", .type "BaseException", .type "object"]),
  fun K => decide ((PySem.W.clsIn K (He.ga K "TooMany")).map (·.mro) = some [.ref (He.ga K "TooMany"), .ref (He.ga K "FontError"), .type "ValueError", .type "Exception", .type "BaseException", .type "object"]),
  fun K => decide ((PySem.W.clsIn K (He.ga K "Overlap")).map (·.mro) = some [.ref (He.ga K "Overlap"), .ref (He.ga K "FontError"), .type "ValueError", .type "Exception", .type "BaseException", .type "object"]),
  fun K => decide ((PySem.W.clsIn K (He.ga K "InUse")).map (·.mro) = some [.ref (He.ga K "InUse"), .ref (He.ga K "FontError"), .type "ValueError", .type "Exception", .type "BaseException", .type "object"]),
  fun K => decide ((PySem.W.clsIn K (He.ga K "DeedRefused")).map (·.mro) = some [.ref (He.ga K "DeedRefused"), .ref (He.ga K "FontError"), .type "ValueError", .type "Exception", .type "BaseException", .type "object"]),
  fun K => decide ((PySem.W.clsIn K (He.ga K "InvalidLine")).map (·.mro) = some [.ref (He.ga K "InvalidLine"), .ref (He.ga K "FontError"), .type "ValueError", .type "Exception", .type "BaseException", .type "object"]),
  fun K => decide ((PySem.W.clsIn K (He.ga K "UnknownLetter")).map (·.mro) = some [.ref (He.ga K "UnknownLetter"), .ref (He.ga K "FontError"), .type "ValueError", .type "Exception", .type "BaseException", .type "object"]),
  fun K => decide ((PySem.W.clsIn K (He.ga K "InvalidState")).map (·.mro) = some [.ref (He.ga K "InvalidState"), .ref (He.ga K "FontError"), .type "ValueError", .type "Exception", .type "BaseException", .type "object"]),
  fun K => decide ((PySem.W.clsIn K (He.ga K "InvalidText")).map (·.mro) = some [.ref (He.ga K "InvalidText"), .ref (He.ga K "FontError"), .type "ValueError", .type "Exception", .type "BaseException", .type "object"]),
  fun K => decide ((PySem.W.clsIn K (He.ga K "Contradiction")).map (·.mro) = some [.ref (He.ga K "Contradiction"), .ref (He.ga K "FontError"), .type "ValueError", .type "Exception", .type "BaseException", .type "object"]),
  fun K => decide ((PySem.W.clsIn K (He.ga K "NameTaken")).map (·.mro) = some [.ref (He.ga K "NameTaken"), .ref (He.ga K "FontError"), .type "ValueError", .type "Exception", .type "BaseException", .type "object"]),
  fun K => decide ((PySem.W.clsIn K (He.ga K "UnknownName")).map (·.mro) = some [.ref (He.ga K "UnknownName"), .ref (He.ga K "FontError"), .type "ValueError", .type "Exception", .type "BaseException", .type "object"]),
  fun K => decide ((PySem.W.clsIn K (He.ga K "UnknownKind")).map (·.mro) = some [.ref (He.ga K "UnknownKind"), .ref (He.ga K "FontError"), .type "ValueError", .type "Exception", .type "BaseException", .type "object"]),
  fun K => decide ((PySem.W.clsIn K (He.ga K "InvalidOptions")).map (·.mro) = some [.ref (He.ga K "InvalidOptions"), .ref (He.ga K "FontError"), .type "ValueError", .type "Exception", .type "BaseException", .type "object"]),
  fun K => decide ((PySem.W.clsIn K (He.ga K "NothingToUndo")).map (·.mro) = some [.ref (He.ga K "NothingToUndo"), .ref (He.ga K "FontError"), .type "ValueError", .type "Exception", .type "BaseException", .type "object"]),
  fun K => decide ((PySem.W.clsIn K (He.ga K "NoCommonLetters")).map (·.mro) = some [.ref (He.ga K "NoCommonLetters"), .ref (He.ga K "FontError"), .type "ValueError", .type "Exception", .type "BaseException", .type "object"]),
  fun K => decide (([(He.ga K "InvalidGlyph"), (He.ga K "InvalidNumber"), (He.ga K "UnknownGlyph"), (He.ga K "TooMany"), (He.ga K "Overlap"), (He.ga K "InUse"), (He.ga K "DeedRefused"), (He.ga K "InvalidLine"), (He.ga K "UnknownLetter"), (He.ga K "InvalidState"), (He.ga K "InvalidText"), (He.ga K "Contradiction"), (He.ga K "NameTaken"), (He.ga K "UnknownName"), (He.ga K "UnknownKind"), (He.ga K "InvalidOptions"), (He.ga K "NothingToUndo"), (He.ga K "NoCommonLetters"), (He.ga K "FontError")] : List Addr).Nodup),
  fun K => decide ((He.ga K "Joined") ≠ (He.ga K "Font")),
  fun K => (He.Fa.noat "Font" "rows").ok K,
  fun K => (He.Fa.noat "Font" "pairs").ok K,
  fun K => (He.Fa.noat "Font" "space").ok K,
  fun K => (He.Fa.noat "Font" "past").ok K,
  fun K => (He.Fa.noat "Joined" "faces").ok K,
  fun K => (He.Fa.noat "Joined" "common").ok K,
  fun K => (He.Fa.noat "Joined" "places").ok K,
  fun K => (He.Fa.noat "Joined" "ways").ok K,
  fun K => (He.Fa.noat "Joined" "steps").ok K,
  fun K => (He.Fa.noat "Joined" "ends").ok K]
def tfL : List He.Defn := [("font_order", none)]
def names : List Str := (["_wall", "FontError", "InvalidGlyph", "InvalidNumber", "UnknownGlyph", "TooMany", "Overlap", "InUse", "DeedRefused", "InvalidLine", "UnknownLetter", "InvalidState", "InvalidText", "Contradiction", "NameTaken", "UnknownName", "UnknownKind", "InvalidOptions", "NothingToUndo", "NoCommonLetters", "is_integer", "is_between", "check_between", "is_numeral", "proper_beginnings", "longest_glyph", "drain", "settle", "added_width", "read_letter"] : List Str) ++ (["Joined", "greatest_divisor", "as_ratio", "Ratio", "Extreme", "trace", "ring_of", "relax", "longest", "first_ring", "mean_of", "best_end", "text_to", "extreme", "worst_rate", "BLANK", "font_order", "is_name", "Font", "_law_bag", "_law_take", "_law_text", "_law_glyphs", "_law_places", "_law_names", "_law_plain", "_law_kinds"] : List Str)
def nms : Nms := ⟨(["Ratio", "FontError", "NothingToUndo", "NoCommonLetters", "Font", "Joined", "InvalidNumber", "InvalidGlyph", "UnknownGlyph", "TooMany", "Overlap", "InUse", "DeedRefused", "InvalidLine", "UnknownLetter", "InvalidState", "InvalidText", "Contradiction", "NameTaken", "UnknownName", "UnknownKind", "InvalidOptions", "is_integer", "greatest_divisor", "_law_glyphs"] : List Str) ++ (["_law_places", "_law_names", "is_between", "check_between", "font_order", "is_name", "proper_beginnings", "drain", "added_width", "extreme", "worst_rate", "_law_kinds", "_law_plain", "_law_bag", "_law_take", "_law_text", "law"] : List Str), ([("Ratio", "__init__"), ("Ratio", "__eq__"), ("Font", "known"), ("Font", "ligatures"), ("Font", "put_blank"), ("Font", "put_advance"), ("Font", "__init__"), ("Font", "__contains__"), ("Font", "letters"), ("Font", "copy"), ("Joined", "rest"), ("Joined", "explore"), ("Joined", "letters"), ("Joined", "__init__"), ("Font", "undo"), ("InvalidNumber", "__init__"), ("InvalidGlyph", "__init__"), ("UnknownGlyph", "__init__"), ("TooMany", "__init__"), ("Overlap", "__init__"), ("InUse", "__init__"), ("DeedRefused", "__init__"), ("InvalidLine", "__init__"), ("UnknownLetter", "__init__"), ("InvalidState", "__init__")] : List (Str × Str)) ++ ([("InvalidText", "__init__"), ("Contradiction", "__init__"), ("NameTaken", "__init__"), ("UnknownName", "__init__"), ("UnknownKind", "__init__"), ("InvalidOptions", "__init__")] : List (Str × Str))⟩
abbrev hk : PySem.W.Hook := hookY nms fnL tfL fxL
def ob (s : PySem.W.SharedT) : AlY := obsY nms fnL tfL fxL (HandSHeadRun.getT s)
theorem ob_eq (s : PySem.W.SharedT) : ob s = hk.obs s.abs := obsY_eq (HandSHeadRun.getT_eq s)
set_option maxHeartbeats 0 in
theorem run (w : World) : HandSHeadRun.RunEq (PySem.W.OpenLaw.row PySem.Challenge.rw_fontgap_k72_errors_of_their_own_kinds) (PySem.W.view (PySem.W.OpenLaw.row PySem.Challenge.rw_fontgap_k72_errors_of_their_own_kinds).prog [65]) hk ob 30000 names w := by
  refine runX fun os => ?_
  kernel_rfl
end
structure Ad where
  f_is_integer : Addr
  d_is_integer : FuncData
  f_greatest_divisor : Addr
  d_greatest_divisor : FuncData
  f_Ratio_init : Addr
  d_Ratio_init : FuncData
  v1_Ratio_init : List Value
  f_Ratio_eq : Addr
  d_Ratio_eq : FuncData
  f_law_glyphs : Addr
  d_law_glyphs : FuncData
  f_law_places : Addr
  d_law_places : FuncData
  f_law_names : Addr
  d_law_names : FuncData
  f_is_between : Addr
  d_is_between : FuncData
  f_check_between : Addr
  d_check_between : FuncData
  f_font_order : Addr
  d_font_order : FuncData
  c_font_order : Addr
  P_font_order : Addr
  f_is_name : Addr
  d_is_name : FuncData
  f_Font_known : Addr
  d_Font_known : FuncData
  f_Font_ligatures : Addr
  d_Font_ligatures : FuncData
  p_Font_ligatures : Addr
  f_Font_put_blank : Addr
  d_Font_put_blank : FuncData
  f_Font_put_advance : Addr
  d_Font_put_advance : FuncData
  f_Font_init : Addr
  d_Font_init : FuncData
  g2_blank_Font_init : List Value → List Value → List Value
  v1_Font_init : List Value
  f_Font_contains : Addr
  d_Font_contains : FuncData
  f_Font_letters : Addr
  d_Font_letters : FuncData
  p_Font_letters : Addr
  f_Font_copy : Addr
  d_Font_copy : FuncData
  f_proper_beginnings : Addr
  d_proper_beginnings : FuncData
  f_drain : Addr
  d_drain : FuncData
  f_added_width : Addr
  d_added_width : FuncData
  f_Joined_rest : Addr
  d_Joined_rest : FuncData
  f_Joined_explore : Addr
  d_Joined_explore : FuncData
  f_Joined_letters : Addr
  d_Joined_letters : FuncData
  p_Joined_letters : Addr
  f_Joined_init : Addr
  d_Joined_init : FuncData
  f_Font_undo : Addr
  d_Font_undo : FuncData
  f_extreme : Addr
  d_extreme : FuncData
  f_worst_rate : Addr
  d_worst_rate : FuncData
  f_law_kinds : Addr
  d_law_kinds : FuncData
  f_law_plain : Addr
  d_law_plain : FuncData
  f_law_bag : Addr
  d_law_bag : FuncData
  f_law_take : Addr
  d_law_take : FuncData
  f_law_text : Addr
  d_law_text : FuncData
  f_law : Addr
  d_law : FuncData
  C_Ratio : Addr
  C_FontError : Addr
  C_NothingToUndo : Addr
  C_NoCommonLetters : Addr
  C_Font : Addr
  C_Joined : Addr
  C_InvalidNumber : Addr
  i_InvalidNumber : Addr
  c_InvalidNumber : Addr
  k_InvalidNumber : Addr
  C_InvalidGlyph : Addr
  i_InvalidGlyph : Addr
  c_InvalidGlyph : Addr
  k_InvalidGlyph : Addr
  C_UnknownGlyph : Addr
  i_UnknownGlyph : Addr
  c_UnknownGlyph : Addr
  k_UnknownGlyph : Addr
  C_TooMany : Addr
  i_TooMany : Addr
  c_TooMany : Addr
  k_TooMany : Addr
  C_Overlap : Addr
  i_Overlap : Addr
  c_Overlap : Addr
  k_Overlap : Addr
  C_InUse : Addr
  i_InUse : Addr
  c_InUse : Addr
  k_InUse : Addr
  C_DeedRefused : Addr
  i_DeedRefused : Addr
  c_DeedRefused : Addr
  k_DeedRefused : Addr
  C_InvalidLine : Addr
  i_InvalidLine : Addr
  c_InvalidLine : Addr
  k_InvalidLine : Addr
  C_UnknownLetter : Addr
  i_UnknownLetter : Addr
  c_UnknownLetter : Addr
  k_UnknownLetter : Addr
  C_InvalidState : Addr
  i_InvalidState : Addr
  c_InvalidState : Addr
  k_InvalidState : Addr
  C_InvalidText : Addr
  i_InvalidText : Addr
  c_InvalidText : Addr
  k_InvalidText : Addr
  C_Contradiction : Addr
  i_Contradiction : Addr
  c_Contradiction : Addr
  k_Contradiction : Addr
  C_NameTaken : Addr
  i_NameTaken : Addr
  c_NameTaken : Addr
  k_NameTaken : Addr
  C_UnknownName : Addr
  i_UnknownName : Addr
  c_UnknownName : Addr
  k_UnknownName : Addr
  C_UnknownKind : Addr
  i_UnknownKind : Addr
  c_UnknownKind : Addr
  k_UnknownKind : Addr
  C_InvalidOptions : Addr
  i_InvalidOptions : Addr
  c_InvalidOptions : Addr
  k_InvalidOptions : Addr
/-- .. and what is true of them -/
structure Txt (P : Program) (K : PySem.W.Frag) (mg : Str → Option Value) (base : Heap) (a : Ad) : Prop where
  F_is_integer : Fun K "is_integer" "is_integer" s_is_integer a.f_is_integer a.d_is_integer
  B_is_integer : Binds K a.d_is_integer (["value"] : List Str) []
  g_is_integer : mg "is_integer" = some (.ref a.f_is_integer)
  k_is_integer : PySem.W.keepIn K (.ref a.f_is_integer) = true
  F_greatest_divisor : Fun K "greatest_divisor" "greatest_divisor" s_greatest_divisor a.f_greatest_divisor a.d_greatest_divisor
  B_greatest_divisor : Binds K a.d_greatest_divisor (["left", "right"] : List Str) []
  g_greatest_divisor : mg "greatest_divisor" = some (.ref a.f_greatest_divisor)
  k_greatest_divisor : PySem.W.keepIn K (.ref a.f_greatest_divisor) = true
  F_Ratio_init : FunD K "__init__" "Ratio.__init__" (defArgs s_Ratio_init) (defBody s_Ratio_init) (defScope s_Ratio_init) [V.int 1] [] a.f_Ratio_init a.d_Ratio_init
  B_Ratio_init : Binds K a.d_Ratio_init (["self", "top", "bottom"] : List Str) []
  B1_Ratio_init : Binds K a.d_Ratio_init (["self", "top", "bottom"] : List Str) a.v1_Ratio_init
  V1_Ratio_init : Vals [V.int 1] a.v1_Ratio_init
  F_Ratio_eq : Fun K "__eq__" "Ratio.__eq__" s_Ratio_eq a.f_Ratio_eq a.d_Ratio_eq
  B_Ratio_eq : Binds K a.d_Ratio_eq (["self", "other"] : List Str) []
  M_Ratio_eq : Meth K a.C_Ratio "__eq__" a.f_Ratio_eq
  F_law_glyphs : Fun K "_law_glyphs" "_law_glyphs" s_law_glyphs a.f_law_glyphs a.d_law_glyphs
  B_law_glyphs : Binds K a.d_law_glyphs (["_law_way", "_law_number", "_law_word"] : List Str) []
  g_law_glyphs : mg "_law_glyphs" = some (.ref a.f_law_glyphs)
  k_law_glyphs : PySem.W.keepIn K (.ref a.f_law_glyphs) = true
  F_law_places : Fun K "_law_places" "_law_places" s_law_places a.f_law_places a.d_law_places
  B_law_places : Binds K a.d_law_places (["_law_way", "_law_number", "_law_word"] : List Str) []
  g_law_places : mg "_law_places" = some (.ref a.f_law_places)
  k_law_places : PySem.W.keepIn K (.ref a.f_law_places) = true
  F_law_names : Fun K "_law_names" "_law_names" s_law_names a.f_law_names a.d_law_names
  B_law_names : Binds K a.d_law_names (["_law_way", "_law_word"] : List Str) []
  g_law_names : mg "_law_names" = some (.ref a.f_law_names)
  k_law_names : PySem.W.keepIn K (.ref a.f_law_names) = true
  F_is_between : Fun K "is_between" "is_between" s_is_between a.f_is_between a.d_is_between
  B_is_between : Binds K a.d_is_between (["value", "low", "high"] : List Str) []
  g_is_between : mg "is_between" = some (.ref a.f_is_between)
  k_is_between : PySem.W.keepIn K (.ref a.f_is_between) = true
  F_check_between : Fun K "check_between" "check_between" s_check_between a.f_check_between a.d_check_between
  B_check_between : Binds K a.d_check_between (["value", "low", "high"] : List Str) []
  g_check_between : mg "check_between" = some (.ref a.f_check_between)
  k_check_between : PySem.W.keepIn K (.ref a.f_check_between) = true
  F_font_order : FunC K "font_order" "font_order" s_font_order a.f_font_order a.d_font_order a.c_font_order
  TB_font_order : LamX.TabB base mg a.c_font_order a.P_font_order
  B_font_order : Binds K a.d_font_order (["glyphs"] : List Str) []
  g_font_order : mg "font_order" = some (.ref a.f_font_order)
  k_font_order : PySem.W.keepIn K (.ref a.f_font_order) = true
  F_is_name : Fun K "is_name" "is_name" s_is_name a.f_is_name a.d_is_name
  B_is_name : Binds K a.d_is_name (["glyph"] : List Str) []
  g_is_name : mg "is_name" = some (.ref a.f_is_name)
  k_is_name : PySem.W.keepIn K (.ref a.f_is_name) = true
  F_Font_known : Fun K "known" "Font.known" s_Font_known a.f_Font_known a.d_Font_known
  B_Font_known : Binds K a.d_Font_known (["self", "glyph"] : List Str) []
  M_Font_known : Meth K a.C_Font "known" a.f_Font_known
  F_Font_ligatures : Fun K "ligatures" "Font.ligatures" s_Font_ligatures a.f_Font_ligatures a.d_Font_ligatures
  B_Font_ligatures : Binds K a.d_Font_ligatures (["self"] : List Str) []
  P_Font_ligatures : PropOf K a.C_Font "ligatures" a.p_Font_ligatures a.f_Font_ligatures
  F_Font_put_blank : Fun K "put_blank" "Font.put_blank" s_Font_put_blank a.f_Font_put_blank a.d_Font_put_blank
  B_Font_put_blank : Binds K a.d_Font_put_blank (["self", "advance"] : List Str) []
  M_Font_put_blank : Meth K a.C_Font "put_blank" a.f_Font_put_blank
  F_Font_put_advance : Fun K "put_advance" "Font.put_advance" s_Font_put_advance a.f_Font_put_advance a.d_Font_put_advance
  B_Font_put_advance : Binds K a.d_Font_put_advance (["self", "glyph", "advance"] : List Str) []
  M_Font_put_advance : Meth K a.C_Font "put_advance" a.f_Font_put_advance
  F_Font_init : FunD K "__init__" "Font.__init__" (defArgs s_Font_init) (defBody s_Font_init) (defScope s_Font_init) [V.non] [("blank", V.int 250)] a.f_Font_init a.d_Font_init
  KB2_blank_Font_init : KBn K a.d_Font_init (["self", "advances", "kerns", "blank"] : List Str) 3 (["blank"] : List Str) a.g2_blank_Font_init (fun vs zs => vs ++ [] ++ zs)
  B1_Font_init : Binds K a.d_Font_init (["self", "advances", "kerns", "blank"] : List Str) a.v1_Font_init
  V1_Font_init : Vals [V.non, V.int 250] a.v1_Font_init
  F_Font_contains : Fun K "__contains__" "Font.__contains__" s_Font_contains a.f_Font_contains a.d_Font_contains
  B_Font_contains : Binds K a.d_Font_contains (["self", "glyph"] : List Str) []
  M_Font_contains : Meth K a.C_Font "__contains__" a.f_Font_contains
  F_Font_letters : Fun K "letters" "Font.letters" s_Font_letters a.f_Font_letters a.d_Font_letters
  B_Font_letters : Binds K a.d_Font_letters (["self"] : List Str) []
  P_Font_letters : PropOf K a.C_Font "letters" a.p_Font_letters a.f_Font_letters
  F_Font_copy : Fun K "copy" "Font.copy" s_Font_copy a.f_Font_copy a.d_Font_copy
  B_Font_copy : Binds K a.d_Font_copy (["self"] : List Str) []
  M_Font_copy : Meth K a.C_Font "copy" a.f_Font_copy
  F_proper_beginnings : Fun K "proper_beginnings" "proper_beginnings" s_proper_beginnings a.f_proper_beginnings a.d_proper_beginnings
  B_proper_beginnings : Binds K a.d_proper_beginnings (["font"] : List Str) []
  g_proper_beginnings : mg "proper_beginnings" = some (.ref a.f_proper_beginnings)
  k_proper_beginnings : PySem.W.keepIn K (.ref a.f_proper_beginnings) = true
  F_drain : Fun K "drain" "drain" s_drain a.f_drain a.d_drain
  B_drain : Binds K a.d_drain (["font", "row"] : List Str) []
  g_drain : mg "drain" = some (.ref a.f_drain)
  k_drain : PySem.W.keepIn K (.ref a.f_drain) = true
  F_added_width : Fun K "added_width" "added_width" s_added_width a.f_added_width a.d_added_width
  B_added_width : Binds K a.d_added_width (["font", "last", "glyphs"] : List Str) []
  g_added_width : mg "added_width" = some (.ref a.f_added_width)
  k_added_width : PySem.W.keepIn K (.ref a.f_added_width) = true
  F_Joined_rest : Fun K "rest" "Joined.rest" s_Joined_rest a.f_Joined_rest a.d_Joined_rest
  B_Joined_rest : Binds K a.d_Joined_rest (["self", "which", "place"] : List Str) []
  M_Joined_rest : Meth K a.C_Joined "rest" a.f_Joined_rest
  F_Joined_explore : Fun K "explore" "Joined.explore" s_Joined_explore a.f_Joined_explore a.d_Joined_explore
  B_Joined_explore : Binds K a.d_Joined_explore (["self"] : List Str) []
  M_Joined_explore : Meth K a.C_Joined "explore" a.f_Joined_explore
  F_Joined_letters : Fun K "letters" "Joined.letters" s_Joined_letters a.f_Joined_letters a.d_Joined_letters
  B_Joined_letters : Binds K a.d_Joined_letters (["self"] : List Str) []
  P_Joined_letters : PropOf K a.C_Joined "letters" a.p_Joined_letters a.f_Joined_letters
  F_Joined_init : Fun K "__init__" "Joined.__init__" s_Joined_init a.f_Joined_init a.d_Joined_init
  B_Joined_init : Binds K a.d_Joined_init (["self", "first", "second"] : List Str) []
  F_Font_undo : Fun K "undo" "Font.undo" s_Font_undo a.f_Font_undo a.d_Font_undo
  B_Font_undo : Binds K a.d_Font_undo (["self"] : List Str) []
  M_Font_undo : Meth K a.C_Font "undo" a.f_Font_undo
  F_extreme : Fun K "extreme" "extreme" s_extreme a.f_extreme a.d_extreme
  B_extreme : Binds K a.d_extreme (["joined"] : List Str) []
  g_extreme : mg "extreme" = some (.ref a.f_extreme)
  k_extreme : PySem.W.keepIn K (.ref a.f_extreme) = true
  F_worst_rate : Fun K "worst_rate" "worst_rate" s_worst_rate a.f_worst_rate a.d_worst_rate
  B_worst_rate : Binds K a.d_worst_rate (["joined"] : List Str) []
  g_worst_rate : mg "worst_rate" = some (.ref a.f_worst_rate)
  k_worst_rate : PySem.W.keepIn K (.ref a.f_worst_rate) = true
  F_law_kinds : Fun K "_law_kinds" "_law_kinds" s_law_kinds a.f_law_kinds a.d_law_kinds
  B_law_kinds : Binds K a.d_law_kinds (["_law_e"] : List Str) []
  g_law_kinds : mg "_law_kinds" = some (.ref a.f_law_kinds)
  k_law_kinds : PySem.W.keepIn K (.ref a.f_law_kinds) = true
  F_law_plain : Fun K "_law_plain" "_law_plain" s_law_plain a.f_law_plain a.d_law_plain
  B_law_plain : Binds K a.d_law_plain (["_law_way"] : List Str) []
  g_law_plain : mg "_law_plain" = some (.ref a.f_law_plain)
  k_law_plain : PySem.W.keepIn K (.ref a.f_law_plain) = true
  F_law_bag : Fun K "_law_bag" "_law_bag" s_law_bag a.f_law_bag a.d_law_bag
  B_law_bag : Binds K a.d_law_bag (["_law_script"] : List Str) []
  g_law_bag : mg "_law_bag" = some (.ref a.f_law_bag)
  k_law_bag : PySem.W.keepIn K (.ref a.f_law_bag) = true
  F_law_take : Fun K "_law_take" "_law_take" s_law_take a.f_law_take a.d_law_take
  B_law_take : Binds K a.d_law_take (["_law_bag_here", "_law_size"] : List Str) []
  g_law_take : mg "_law_take" = some (.ref a.f_law_take)
  k_law_take : PySem.W.keepIn K (.ref a.f_law_take) = true
  F_law_text : Fun K "_law_text" "_law_text" s_law_text a.f_law_text a.d_law_text
  B_law_text : Binds K a.d_law_text (["_law_bag_here", "_law_letters", "_law_long"] : List Str) []
  g_law_text : mg "_law_text" = some (.ref a.f_law_text)
  k_law_text : PySem.W.keepIn K (.ref a.f_law_text) = true
  F_law : Fun K "law" "law" s_law a.f_law a.d_law
  B_law : Binds K a.d_law (["_law_script"] : List Str) []
  g_law : mg "law" = some (.ref a.f_law)
  k_law : PySem.W.keepIn K (.ref a.f_law) = true
  cr_Font : ClX.CRead K a.C_Font (.type "type")
  cv_Font_MOST_ADVANCE : ∃ u, ClX.CVal K a.C_Font (.type "type") "MOST_ADVANCE" (.int 1000000) u
  cv_Font_MOST_LETTERS : ∃ u, ClX.CVal K a.C_Font (.type "type") "MOST_LETTERS" (.int 6) u
  cv_Font_MOST_LIGATURES : ∃ u, ClX.CVal K a.C_Font (.type "type") "MOST_LIGATURES" (.int 40) u
  g_Ratio : mg "Ratio" = some (.ref a.C_Ratio)
  c_Ratio : Cls K a.C_Ratio
  I_Ratio : InsC K a.C_Ratio
  M_Ratio : Mk K a.C_Ratio a.f_Ratio_init
  g_FontError : mg "FontError" = some (.ref a.C_FontError)
  g_NothingToUndo : mg "NothingToUndo" = some (.ref a.C_NothingToUndo)
  g_NoCommonLetters : mg "NoCommonLetters" = some (.ref a.C_NoCommonLetters)
  g_Font : mg "Font" = some (.ref a.C_Font)
  c_Font : Cls K a.C_Font
  I_Font : InsC K a.C_Font
  M_Font : Mk K a.C_Font a.f_Font_init
  g_Joined : mg "Joined" = some (.ref a.C_Joined)
  c_Joined : Cls K a.C_Joined
  I_Joined : InsC K a.C_Joined
  M_Joined : Mk K a.C_Joined a.f_Joined_init
  E_InvalidNumber : ErrC P K mg "InvalidNumber" "InvalidNumber.__init__" (defArgs s_InvalidNumber_init) (defBody s_InvalidNumber_init) (defScope s_InvalidNumber_init) a.C_InvalidNumber a.i_InvalidNumber a.c_InvalidNumber a.k_InvalidNumber
  Y_InvalidNumber : Txt1 "InvalidNumber.__init__" "value" "not a valid number" (defArgs s_InvalidNumber_init) (defBody s_InvalidNumber_init) (defScope s_InvalidNumber_init)
  X_InvalidNumber : ExcC K a.C_InvalidNumber
  x_InvalidNumber_value : PySem.W.findIn K (.ref a.C_InvalidNumber) "value" = some none
  E_InvalidGlyph : ErrC P K mg "InvalidGlyph" "InvalidGlyph.__init__" (defArgs s_InvalidGlyph_init) (defBody s_InvalidGlyph_init) (defScope s_InvalidGlyph_init) a.C_InvalidGlyph a.i_InvalidGlyph a.c_InvalidGlyph a.k_InvalidGlyph
  Y_InvalidGlyph : Txt1 "InvalidGlyph.__init__" "glyph" "not a glyph name" (defArgs s_InvalidGlyph_init) (defBody s_InvalidGlyph_init) (defScope s_InvalidGlyph_init)
  X_InvalidGlyph : ExcC K a.C_InvalidGlyph
  x_InvalidGlyph_glyph : PySem.W.findIn K (.ref a.C_InvalidGlyph) "glyph" = some none
  E_UnknownGlyph : ErrC P K mg "UnknownGlyph" "UnknownGlyph.__init__" (defArgs s_UnknownGlyph_init) (defBody s_UnknownGlyph_init) (defScope s_UnknownGlyph_init) a.C_UnknownGlyph a.i_UnknownGlyph a.c_UnknownGlyph a.k_UnknownGlyph
  Y_UnknownGlyph : Txt1 "UnknownGlyph.__init__" "glyph" "the font does not have the glyph" (defArgs s_UnknownGlyph_init) (defBody s_UnknownGlyph_init) (defScope s_UnknownGlyph_init)
  X_UnknownGlyph : ExcC K a.C_UnknownGlyph
  x_UnknownGlyph_glyph : PySem.W.findIn K (.ref a.C_UnknownGlyph) "glyph" = some none
  E_TooMany : ErrC P K mg "TooMany" "TooMany.__init__" (defArgs s_TooMany_init) (defBody s_TooMany_init) (defScope s_TooMany_init) a.C_TooMany a.i_TooMany a.c_TooMany a.k_TooMany
  Y_TooMany : Txt1 "TooMany.__init__" "limit" "too many ligatures" (defArgs s_TooMany_init) (defBody s_TooMany_init) (defScope s_TooMany_init)
  X_TooMany : ExcC K a.C_TooMany
  x_TooMany_limit : PySem.W.findIn K (.ref a.C_TooMany) "limit" = some none
  E_Overlap : ErrC P K mg "Overlap" "Overlap.__init__" (defArgs s_Overlap_init) (defBody s_Overlap_init) (defScope s_Overlap_init) a.C_Overlap a.i_Overlap a.c_Overlap a.k_Overlap
  Y_Overlap : Txt2 "Overlap.__init__" "left" "right" "the kern takes back more than an advance" (defArgs s_Overlap_init) (defBody s_Overlap_init) (defScope s_Overlap_init)
  X_Overlap : ExcC K a.C_Overlap
  x_Overlap_left : PySem.W.findIn K (.ref a.C_Overlap) "left" = some none
  x_Overlap_right : PySem.W.findIn K (.ref a.C_Overlap) "right" = some none
  E_InUse : ErrC P K mg "InUse" "InUse.__init__" (defArgs s_InUse_init) (defBody s_InUse_init) (defScope s_InUse_init) a.C_InUse a.i_InUse a.c_InUse a.k_InUse
  Y_InUse : Txt1 "InUse.__init__" "user" "still in use" (defArgs s_InUse_init) (defBody s_InUse_init) (defScope s_InUse_init)
  X_InUse : ExcC K a.C_InUse
  x_InUse_user : PySem.W.findIn K (.ref a.C_InUse) "user" = some none
  E_DeedRefused : ErrC P K mg "DeedRefused" "DeedRefused.__init__" (defArgs s_DeedRefused_init) (defBody s_DeedRefused_init) (defScope s_DeedRefused_init) a.C_DeedRefused a.i_DeedRefused a.c_DeedRefused a.k_DeedRefused
  Y_DeedRefused : Txt1 "DeedRefused.__init__" "index" "a deed is refused" (defArgs s_DeedRefused_init) (defBody s_DeedRefused_init) (defScope s_DeedRefused_init)
  X_DeedRefused : ExcC K a.C_DeedRefused
  x_DeedRefused_index : PySem.W.findIn K (.ref a.C_DeedRefused) "index" = some none
  E_InvalidLine : ErrC P K mg "InvalidLine" "InvalidLine.__init__" (defArgs s_InvalidLine_init) (defBody s_InvalidLine_init) (defScope s_InvalidLine_init) a.C_InvalidLine a.i_InvalidLine a.c_InvalidLine a.k_InvalidLine
  Y_InvalidLine : Txt1 "InvalidLine.__init__" "line" "invalid line in a written font" (defArgs s_InvalidLine_init) (defBody s_InvalidLine_init) (defScope s_InvalidLine_init)
  X_InvalidLine : ExcC K a.C_InvalidLine
  x_InvalidLine_line : PySem.W.findIn K (.ref a.C_InvalidLine) "line" = some none
  E_UnknownLetter : ErrC P K mg "UnknownLetter" "UnknownLetter.__init__" (defArgs s_UnknownLetter_init) (defBody s_UnknownLetter_init) (defScope s_UnknownLetter_init) a.C_UnknownLetter a.i_UnknownLetter a.c_UnknownLetter a.k_UnknownLetter
  Y_UnknownLetter : Txt2 "UnknownLetter.__init__" "letter" "index" "unknown letter in a text" (defArgs s_UnknownLetter_init) (defBody s_UnknownLetter_init) (defScope s_UnknownLetter_init)
  X_UnknownLetter : ExcC K a.C_UnknownLetter
  x_UnknownLetter_letter : PySem.W.findIn K (.ref a.C_UnknownLetter) "letter" = some none
  x_UnknownLetter_index : PySem.W.findIn K (.ref a.C_UnknownLetter) "index" = some none
  E_InvalidState : ErrC P K mg "InvalidState" "InvalidState.__init__" (defArgs s_InvalidState_init) (defBody s_InvalidState_init) (defScope s_InvalidState_init) a.C_InvalidState a.i_InvalidState a.c_InvalidState a.k_InvalidState
  Y_InvalidState : Txt1 "InvalidState.__init__" "number" "no state has this number" (defArgs s_InvalidState_init) (defBody s_InvalidState_init) (defScope s_InvalidState_init)
  X_InvalidState : ExcC K a.C_InvalidState
  x_InvalidState_number : PySem.W.findIn K (.ref a.C_InvalidState) "number" = some none
  E_InvalidText : ErrC P K mg "InvalidText" "InvalidText.__init__" (defArgs s_InvalidText_init) (defBody s_InvalidText_init) (defScope s_InvalidText_init) a.C_InvalidText a.i_InvalidText a.c_InvalidText a.k_InvalidText
  Y_InvalidText : Txt1 "InvalidText.__init__" "index" "blank in a wrong place" (defArgs s_InvalidText_init) (defBody s_InvalidText_init) (defScope s_InvalidText_init)
  X_InvalidText : ExcC K a.C_InvalidText
  x_InvalidText_index : PySem.W.findIn K (.ref a.C_InvalidText) "index" = some none
  E_Contradiction : ErrC P K mg "Contradiction" "Contradiction.__init__" (defArgs s_Contradiction_init) (defBody s_Contradiction_init) (defScope s_Contradiction_init) a.C_Contradiction a.i_Contradiction a.c_Contradiction a.k_Contradiction
  Y_Contradiction : Txt1 "Contradiction.__init__" "combination" "the measurement contradicts earlier ones" (defArgs s_Contradiction_init) (defBody s_Contradiction_init) (defScope s_Contradiction_init)
  X_Contradiction : ExcC K a.C_Contradiction
  x_Contradiction_combination : PySem.W.findIn K (.ref a.C_Contradiction) "combination" = some none
  E_NameTaken : ErrC P K mg "NameTaken" "NameTaken.__init__" (defArgs s_NameTaken_init) (defBody s_NameTaken_init) (defScope s_NameTaken_init) a.C_NameTaken a.i_NameTaken a.c_NameTaken a.k_NameTaken
  Y_NameTaken : Txt1 "NameTaken.__init__" "name" "the name is taken" (defArgs s_NameTaken_init) (defBody s_NameTaken_init) (defScope s_NameTaken_init)
  X_NameTaken : ExcC K a.C_NameTaken
  x_NameTaken_name : PySem.W.findIn K (.ref a.C_NameTaken) "name" = some none
  E_UnknownName : ErrC P K mg "UnknownName" "UnknownName.__init__" (defArgs s_UnknownName_init) (defBody s_UnknownName_init) (defScope s_UnknownName_init) a.C_UnknownName a.i_UnknownName a.c_UnknownName a.k_UnknownName
  Y_UnknownName : Txt1 "UnknownName.__init__" "name" "unknown name" (defArgs s_UnknownName_init) (defBody s_UnknownName_init) (defScope s_UnknownName_init)
  X_UnknownName : ExcC K a.C_UnknownName
  x_UnknownName_name : PySem.W.findIn K (.ref a.C_UnknownName) "name" = some none
  E_UnknownKind : ErrC P K mg "UnknownKind" "UnknownKind.__init__" (defArgs s_UnknownKind_init) (defBody s_UnknownKind_init) (defScope s_UnknownKind_init) a.C_UnknownKind a.i_UnknownKind a.c_UnknownKind a.k_UnknownKind
  Y_UnknownKind : Txt1 "UnknownKind.__init__" "kind" "unknown kind of claim" (defArgs s_UnknownKind_init) (defBody s_UnknownKind_init) (defScope s_UnknownKind_init)
  X_UnknownKind : ExcC K a.C_UnknownKind
  x_UnknownKind_kind : PySem.W.findIn K (.ref a.C_UnknownKind) "kind" = some none
  E_InvalidOptions : ErrC P K mg "InvalidOptions" "InvalidOptions.__init__" (defArgs s_InvalidOptions_init) (defBody s_InvalidOptions_init) (defScope s_InvalidOptions_init) a.C_InvalidOptions a.i_InvalidOptions a.c_InvalidOptions a.k_InvalidOptions
  Y_InvalidOptions : Txt1 "InvalidOptions.__init__" "kind" "wrong options for the kind of claim" (defArgs s_InvalidOptions_init) (defBody s_InvalidOptions_init) (defScope s_InvalidOptions_init)
  X_InvalidOptions : ExcC K a.C_InvalidOptions
  x_InvalidOptions_kind : PySem.W.findIn K (.ref a.C_InvalidOptions) "kind" = some none
  n_ValueError : mg "ValueError" = none
  n_abs : mg "abs" = none
  n_bool : mg "bool" = none
  n_int : mg "int" = none
  n_isinstance : mg "isinstance" = none
  n_len : mg "len" = none
  n_list : mg "list" = none
  n_range : mg "range" = none
  n_sorted : mg "sorted" = none
  n_str : mg "str" = none
  na_Ratio_top : NoAttr K a.C_Ratio "top"
  na_Ratio_bottom : NoAttr K a.C_Ratio "bottom"
  xi_NothingToUndo : PySem.W.excIn K a.C_NothingToUndo [.type "ValueError", .type "Exception", .type "BaseException", .type "object"] "ValueError.__new__" = true
  kp_NothingToUndo : PySem.W.keepIn K (.ref a.C_NothingToUndo) = true
  ty_NothingToUndo : PySem.W.typeIn K (.ref a.C_NothingToUndo) = some (.type "type")
  X_NothingToUndo : ExcC K a.C_NothingToUndo
  xi_NoCommonLetters : PySem.W.excIn K a.C_NoCommonLetters [.type "ValueError", .type "Exception", .type "BaseException", .type "object"] "ValueError.__new__" = true
  kp_NoCommonLetters : PySem.W.keepIn K (.ref a.C_NoCommonLetters) = true
  ty_NoCommonLetters : PySem.W.typeIn K (.ref a.C_NoCommonLetters) = some (.type "type")
  X_NoCommonLetters : ExcC K a.C_NoCommonLetters
  ty_FontError : PySem.W.typeIn K (.ref a.C_FontError) = some (.type "type")
  be_FontError : PySem.W.subIn K (.ref a.C_FontError) (.type "BaseException") = some true
  cl_FontError : (PySem.W.clsIn K a.C_FontError).isSome = true
  mr_InvalidGlyph : (PySem.W.clsIn K a.C_InvalidGlyph).map (·.mro) = some [.ref a.C_InvalidGlyph, .ref a.C_FontError, .type "ValueError", .type "Exception", .type "BaseException", .type "object"]
  mr_InvalidNumber : (PySem.W.clsIn K a.C_InvalidNumber).map (·.mro) = some [.ref a.C_InvalidNumber, .ref a.C_FontError, .type "ValueError", .type "Exception", .type "BaseException", .type "object"]
  mr_UnknownGlyph : (PySem.W.clsIn K a.C_UnknownGlyph).map (·.mro) = some [.ref a.C_UnknownGlyph, .ref a.C_FontError, .type "ValueError", .type "Exception", .type "BaseException", .type "object"]
  mr_TooMany : (PySem.W.clsIn K a.C_TooMany).map (·.mro) = some [.ref a.C_TooMany, .ref a.C_FontError, .type "ValueError", .type "Exception", .type "BaseException", .type "object"]
  mr_Overlap : (PySem.W.clsIn K a.C_Overlap).map (·.mro) = some [.ref a.C_Overlap, .ref a.C_FontError, .type "ValueError", .type "Exception", .type "BaseException", .type "object"]
  mr_InUse : (PySem.W.clsIn K a.C_InUse).map (·.mro) = some [.ref a.C_InUse, .ref a.C_FontError, .type "ValueError", .type "Exception", .type "BaseException", .type "object"]
  mr_DeedRefused : (PySem.W.clsIn K a.C_DeedRefused).map (·.mro) = some [.ref a.C_DeedRefused, .ref a.C_FontError, .type "ValueError", .type "Exception", .type "BaseException", .type "object"]
  mr_InvalidLine : (PySem.W.clsIn K a.C_InvalidLine).map (·.mro) = some [.ref a.C_InvalidLine, .ref a.C_FontError, .type "ValueError", .type "Exception", .type "BaseException", .type "object"]
  mr_UnknownLetter : (PySem.W.clsIn K a.C_UnknownLetter).map (·.mro) = some [.ref a.C_UnknownLetter, .ref a.C_FontError, .type "ValueError", .type "Exception", .type "BaseException", .type "object"]
  mr_InvalidState : (PySem.W.clsIn K a.C_InvalidState).map (·.mro) = some [.ref a.C_InvalidState, .ref a.C_FontError, .type "ValueError", .type "Exception", .type "BaseException", .type "object"]
  mr_InvalidText : (PySem.W.clsIn K a.C_InvalidText).map (·.mro) = some [.ref a.C_InvalidText, .ref a.C_FontError, .type "ValueError", .type "Exception", .type "BaseException", .type "object"]
  mr_Contradiction : (PySem.W.clsIn K a.C_Contradiction).map (·.mro) = some [.ref a.C_Contradiction, .ref a.C_FontError, .type "ValueError", .type "Exception", .type "BaseException", .type "object"]
  mr_NameTaken : (PySem.W.clsIn K a.C_NameTaken).map (·.mro) = some [.ref a.C_NameTaken, .ref a.C_FontError, .type "ValueError", .type "Exception", .type "BaseException", .type "object"]
  mr_UnknownName : (PySem.W.clsIn K a.C_UnknownName).map (·.mro) = some [.ref a.C_UnknownName, .ref a.C_FontError, .type "ValueError", .type "Exception", .type "BaseException", .type "object"]
  mr_UnknownKind : (PySem.W.clsIn K a.C_UnknownKind).map (·.mro) = some [.ref a.C_UnknownKind, .ref a.C_FontError, .type "ValueError", .type "Exception", .type "BaseException", .type "object"]
  mr_InvalidOptions : (PySem.W.clsIn K a.C_InvalidOptions).map (·.mro) = some [.ref a.C_InvalidOptions, .ref a.C_FontError, .type "ValueError", .type "Exception", .type "BaseException", .type "object"]
  mr_NothingToUndo : (PySem.W.clsIn K a.C_NothingToUndo).map (·.mro) = some [.ref a.C_NothingToUndo, .ref a.C_FontError, .type "ValueError", .type "Exception", .type "BaseException", .type "object"]
  mr_NoCommonLetters : (PySem.W.clsIn K a.C_NoCommonLetters).map (·.mro) = some [.ref a.C_NoCommonLetters, .ref a.C_FontError, .type "ValueError", .type "Exception", .type "BaseException", .type "object"]
  nd_all : ([a.C_InvalidGlyph, a.C_InvalidNumber, a.C_UnknownGlyph, a.C_TooMany, a.C_Overlap, a.C_InUse, a.C_DeedRefused, a.C_InvalidLine, a.C_UnknownLetter, a.C_InvalidState, a.C_InvalidText, a.C_Contradiction, a.C_NameTaken, a.C_UnknownName, a.C_UnknownKind, a.C_InvalidOptions, a.C_NothingToUndo, a.C_NoCommonLetters, a.C_FontError] : List Addr).Nodup
  ne_jf : a.C_Joined ≠ a.C_Font
  na_Font_rows : NoAttr K a.C_Font "rows"
  na_Font_pairs : NoAttr K a.C_Font "pairs"
  na_Font_space : NoAttr K a.C_Font "space"
  na_Font_past : NoAttr K a.C_Font "past"
  na_Joined_faces : NoAttr K a.C_Joined "faces"
  na_Joined_common : NoAttr K a.C_Joined "common"
  na_Joined_places : NoAttr K a.C_Joined "places"
  na_Joined_ways : NoAttr K a.C_Joined "ways"
  na_Joined_steps : NoAttr K a.C_Joined "steps"
  na_Joined_ends : NoAttr K a.C_Joined "ends"
theorem bb_ValueError : bootBuiltins "ValueError" = some (.type "ValueError") := by decide +kernel
theorem bb_abs : bootBuiltins "abs" = some (.builtin "abs") := by decide +kernel
theorem bb_bool : bootBuiltins "bool" = some (.type "bool") := by decide +kernel
theorem bb_int : bootBuiltins "int" = some (.type "int") := by decide +kernel
theorem bb_isinstance : bootBuiltins "isinstance" = some (.builtin "isinstance") := by decide +kernel
theorem bb_len : bootBuiltins "len" = some (.builtin "len") := by decide +kernel
theorem bb_list : bootBuiltins "list" = some (.type "list") := by decide +kernel
theorem bb_range : bootBuiltins "range" = some (.type "range") := by decide +kernel
theorem bb_sorted : bootBuiltins "sorted" = some (.builtin "sorted") := by decide +kernel
theorem bb_str : bootBuiltins "str" = some (.type "str") := by decide +kernel
end FG
namespace FG
open PySem PySem.Spec L2
local macro_rules | `(tactic| walk_at "s") => `(tactic| first
  | with_reducible refine w_seq ?_
  | with_reducible refine w_asg ?_
  | with_reducible refine w_ifs ?_
  | with_reducible refine w_ret ?_
  | with_reducible refine w_drop ?_
  | ((with_reducible refine' w_var ?h1 ?_); case h1 => rfl)
  | with_reducible refine w_c ?_
  | with_reducible refine w_op ?_
  | with_reducible refine w_I0 ?_
  | with_reducible refine w_cons ?_
  | with_reducible refine w_nil ?_
  | ((with_reducible refine' w_gname ?h1 ?_); case h1 => dsimp only [List.set])
  | with_reducible refine w_test ?_
  | with_reducible refine w_bl ?_
  | with_reducible refine w_blE ?_
  | with_reducible refine w_cb ?_
  | with_reducible refine w_call ?_
  | with_reducible refine w_callSD ?_
  | with_reducible refine w_callS ?_
  | with_reducible refine w_andV ?_
  | with_reducible refine w_orV ?_
  | with_reducible refine w_notV ?_
  | with_reducible refine w_and ?_
  | with_reducible refine w_or ?_
  | with_reducible refine w_not ?_
  | with_reducible refine w_if ?_
  | with_reducible refine w_un ?_
  | with_reducible refine w_U ?_
  | with_reducible refine w_next ?_
  | with_reducible refine w_retN ?_
  | with_reducible refine w_tB ?_
  | with_reducible refine w_tup ?_
  | with_reducible refine w_lst ?_
  | with_reducible refine w_abs ?_
  | with_reducible refine w_int1 ?_
  | ((with_reducible refine' w_eq ?h1 ?_); case h1 => rfl)
  | ((with_reducible refine' w_ne ?h1 ?_); case h1 => rfl)
  | with_reducible refine w_gsub ?_
  | with_reducible refine w_sfld ?_
  | with_reducible refine w_par ?_
  | with_reducible refine w_rs ?_
  | with_reducible refine w_forR1 ?_
  | with_reducible refine w_forR2 ?_
  | with_reducible refine w_forL ?_
  | with_reducible refine w_fld ?_
  | with_reducible refine iteT ?_
  | with_reducible refine iteF ?_
  | with_reducible refine iteNT ?_
  | with_reducible refine iteNF ?_
  | with_reducible refine w_mk1 ?_
  | with_reducible refine w_mk2 ?_
  | with_reducible refine w_one ?_
  | with_reducible refine w_two ?_
  | with_reducible refine w_sl ?_
  | with_reducible refine w_nopart ?_
  | with_reducible refine w_part ?_
  | with_reducible refine w_exI ?_
  | with_reducible refine w_mks ?_
  | with_reducible refine w_isN ?_
  | with_reducible refine w_notN ?_
  | with_reducible refine w_min2 ?_
  | with_reducible refine w_max2 ?_
  | ((with_reducible refine' w_ix ?h1 ?h2 ?_); (case h1 => walk_at "q"); (case h2 => rfl))
  | ((with_reducible refine' w_ixT ?h1 ?h2 ?_); (case h1 => walk_at "q"); (case h2 => rfl))
  | ((with_reducible refine' w_setL ?h1 ?h2 ?_); (case h1 => walk_at "h"); (case h2 => rfl))
  | ((with_reducible refine' w_lenS ?h1 ?_); (case h1 => walk_at "q"))
  | ((with_reducible refine' w_lenT ?h1 ?_); (case h1 => walk_at "q"))
  | ((with_reducible refine' w_I ?h1 ?_); (case h1 => first | (show (0 : Int) < _; first | decide | assumption) | exact ⟨by decide, by decide, by decide⟩ | (show CDivX _ _; exact ⟨by decide, by decide +kernel⟩) | (show CDivX _ _; with_reducible apply_assumption) | (show CMulW _ _; exact small_mul (by with_reducible assumption) (by with_reducible assumption)) | (show CMul _ _; first | exact Or.inl ⟨by decide, by decide⟩ | exact Or.inr ⟨by decide, by decide⟩ | exact Or.inl ⟨by omega, by omega⟩ | exact Or.inr ⟨by omega, by omega⟩))))
local macro_rules | `(tactic| walk_at "h") => `(tactic| first | with_reducible assumption | exact upd_same | (refine upd_old ?_ ?_ <;> with_reducible assumption) | ((refine (upd_ne ?_).trans ?_) <;> (first | assumption | walk_at "h" | exact Ne.symm (by assumption))))
local macro_rules | `(tactic| walk_at "q") => `(tactic| first | with_reducible assumption | exact SqL.of (by walk_at "h") | exact SqT.of (by walk_at "h"))
local macro_rules | `(tactic| walk_at "w") => `(tactic| repeat (walk_at "s"))

/-- what isinstance(x, int) and not isinstance(x, bool) gives -/
def IsI (K : PySem.W.Frag) (H : Hp) (x : V) (b : Bool) : Prop := ∃ t b1 b2, TyX K H x t ∧ PySem.W.kitOne K t (.type "int") = some b1 ∧ (b1 = true → PySem.W.kitOne K t (.type "bool") = some b2) ∧ b = (b1 && !b2)
theorem isI_int {K : PySem.W.Frag} {H : Hp} (i : Int) : IsI K H (.int i) true := ⟨_, true, false, .base (.int i), kit_ty (by decide +kernel), fun _ => kit_ty (by decide +kernel), rfl⟩
theorem isI_bl {K : PySem.W.Frag} {H : Hp} (b : Bool) : IsI K H (.bl b) false := ⟨_, true, true, .base (.bl b), kit_ty (by decide +kernel), fun _ => kit_ty (by decide +kernel), rfl⟩
theorem isI_non {K : PySem.W.Frag} {H : Hp} : IsI K H .non false := ⟨_, false, false, .base .non, kit_ty (by decide +kernel), (fun z => by cases z), rfl⟩
theorem isI_str {K : PySem.W.Frag} {H : Hp} (x : Str) : IsI K H (.str x) false := ⟨_, false, false, .base (.str x), kit_ty (by decide +kernel), (fun z => by cases z), rfl⟩
theorem isI_lst {K : PySem.W.Frag} {H : Hp} {a : Addr} {xs : List V} (e : H a = some (.lst xs)) : IsI K H (.ref a) false := ⟨_, false, false, .base (.lst e), kit_ty (by decide +kernel), (fun z => by cases z), rfl⟩
theorem isI_tup {K : PySem.W.Frag} {H : Hp} {a : Addr} {xs : List V} (e : H a = some (.tup xs)) : IsI K H (.ref a) false := ⟨_, false, false, .base (.tup e), kit_ty (by decide +kernel), (fun z => by cases z), rfl⟩
/-- both defs that ask it -/
abbrev sp_isint (K : PySem.W.Frag) : Sp := sp1 fun x H Q _ => ∃ b, IsI K H x b ∧ Q (.bl b) H

abbrev sp_is_integer (K : PySem.W.Frag) (a : Ad) : Sp := sp_isint K
theorem ok_is_integer {P : Program} {w : World} {K : PySem.W.Frag} {mg : Str → Option Value} {base : Heap} {a : Ad} (T : Txt P K mg base a) : FnOk P w K mg base CX0 1 a.f_is_integer a.d_is_integer (["value"] : List Str) (sp_is_integer K a) := by
  refine T.F_is_integer.ok sc_is_integer (fun vs H Q E h => sp1_len h) (fun cdv A outer s H vs Q E hr h => ?_)
  have hu := hu_of hr
  refine ⟨_, (pss_one (ps_ret (pe_and (pe_callB call_isi (by rfl) T.n_isinstance bb_isinstance (pa_cons (pv 0) (pa_cons (pe_bltn (v := .ty "int") (by rfl) T.n_int bb_int rfl) pa_nil))) (pe_one (pe_not (pe_callB call_isi (by rfl) T.n_isinstance bb_isinstance (pa_cons (pv 0) (pa_cons (pe_bltn (v := .ty "bool") (by rfl) T.n_bool bb_bool rfl) pa_nil)))))))), ?_⟩
  try dsimp only [L2.cxOf]
  obtain ⟨x, rfl, b, ⟨t, b1, b2, ty, k1, k2, rfl⟩, k⟩ := h
  rw [show L2.start (["value"] : List Str) [x] = ([some (x)] : L2.St) from rfl]
  walk_at "w"
  refine w_isi (.ty "int") ty k1 ?_
  walk_at "w"
  refine it_b (fun e1 => ?_) (fun e1 => ?_)
  · walk_at "w"
    refine w_isi (.ty "bool") ty (k2 e1) ?_
    walk_at "w"
    subst e1
    exact k
  · subst e1
    exact k

def sp_greatest_divisor (K : PySem.W.Frag) (a : Ad) : Sp := sp2 fun x y H Q _ => ∃ l r : Int, x = .int l ∧ y = .int r ∧ Q (.int (Int.gcd l r : Nat)) H
theorem ok_greatest_divisor {P : Program} {w : World} {K : PySem.W.Frag} {mg : Str → Option Value} {base : Heap} {a : Ad} (T : Txt P K mg base a) : FnOk P w K mg base CX0 1 a.f_greatest_divisor a.d_greatest_divisor (["left", "right"] : List Str) (sp_greatest_divisor K a) := by
  refine T.F_greatest_divisor.ok sc_greatest_divisor (fun vs H Q E h => sp2_len h) (fun cdv A outer s H vs Q E hr h => ?_)
  have hu := hu_of hr
  refine ⟨_, (pss_cons (ps_set (i := 0) sc_greatest_divisor.nd rfl (Or.inl rfl) (pe_callB qc_abs (by rfl) T.n_abs bb_abs (pa_cons (pv 0) pa_nil)))
      (pss_cons (ps_set (i := 1) sc_greatest_divisor.nd rfl (Or.inl rfl) (pe_callB qc_abs (by rfl) T.n_abs bb_abs (pa_cons (pv 1) pa_nil)))
      (pss_cons (ps_while PassesOwn.never (pt_cmpR op_gt (pv 1) pe_int (nomark _)) (pss_one (ps_par (i := 0) (j := 1) (by rfl) sc_greatest_divisor.nd rfl rfl (by decide) rfl rfl (pa_cons (pv 1) (pa_cons (pe_op op_mod (pv 0) (pv 1)) pa_nil)) (by rfl))))
      (pss_one (ps_ret (pv 0)))))), ?_⟩
  try dsimp only [L2.cxOf]
  obtain ⟨x, y, rfl, l, r, rfl, rfl, k⟩ := h
  rw [show L2.start (["left", "right"] : List Str) [(.int l), (.int r)] = ([some ((.int l)), some ((.int r))] : L2.St) from rfl]
  walk_at "w"
  refine while_by (fun σ' H' => H' = H ∧ ∃ p : Int × Int, σ' = [some (.int p.1), some (.int p.2)] ∧ 0 ≤ p.1 ∧ 0 ≤ p.2 ∧ Int.gcd p.1 p.2 = Int.gcd l r) (fun σ' _ => match σ' with | [_, some (.int z)] => z.toNat | _ => 0) ?_ ?_ ?_
  · have e1 := pabs_eq l
    have e2 := pabs_eq r
    refine ⟨rfl, (pabs l, pabs r), rfl, ?_, ?_, ?_⟩
    · show 0 ≤ pabs l
      omega
    · show 0 ≤ pabs r
      omega
    · show Int.gcd (pabs l) (pabs r) = Int.gcd l r
      rw [e1, e2]
      rfl
  · rintro σ' H' ⟨rfl, p, rfl, h1, h2, h3⟩
    walk_at "w"
    refine it_dec (fun c => ?_) (fun c => ?_)
    · walk_at "w"
      refine ⟨⟨rfl, (p.2, p.1 % p.2), rfl, h2, Int.emod_nonneg _ (by omega), ?_⟩, ?_⟩
      · have e : eStep p = (p.2, p.1 % p.2) := if_pos c
        have q := eStep_gcd (p := p)
        rw [e] at q
        exact q.trans h3
      · show (p.1 % p.2).toNat < p.2.toNat
        have := Int.emod_lt_of_pos p.1 c
        have := Int.emod_nonneg p.1 (show p.2 ≠ 0 by omega)
        omega
    · walk_at "w"
      have z : p.2 = 0 := by omega
      rw [z, Int.gcd_zero_right] at h3
      have e : p.1 = ((Int.gcd l r : Nat) : Int) := by omega
      rw [e]
      exact k
  · intro σ' H' Q1 Q2 m z
    obtain ⟨v, e1, z⟩ := z
    obtain ⟨i, j, e3, e4, b, e5, z⟩ := z
    exact ⟨v, e1, i, j, e3, e4, b, e5, m _ _ z⟩

/-- InvalidNumber(v) is raised -/
abbrev raiseIN (a : Ad) (v : V) (H : Hp) (E : XK) : Prop := ∀ d, H d = none → E (.ref a.C_InvalidNumber) (some d) (upd H d (.xd [("value", v)]))
theorem ratio_put {x y : V} : putF "bottom" y (putF "top" x []) = ([("top", x), ("bottom", y)] : List (Str × V)) := by
  have h : ¬ (("top" : Str) = "bottom") := by decide +kernel
  show (if ("top" : Str) = "bottom" then [(("top" : Str), y)] else (("top" : Str), x) :: putF "bottom" y []) = _
  rw [if_neg h]
  rfl

def sp_Ratio_init (K : PySem.W.Frag) (a : Ad) : Sp := sp3 fun s x y H Q E => ∃ (p dx : Addr) (bt : Bool), s = .ref p ∧ H p = some (.ins a.C_Ratio dx []) ∧ IsI K H x bt ∧ (bt = false → raiseIN a x H E) ∧
  (bt = true → ∃ t : Int, x = .int t ∧ ∃ bb, IsI K H y bb ∧ (bb = false → raiseIN a y H E) ∧ (bb = true → ∃ b : Int, y = .int b ∧ (b = 0 → raiseIN a y H E) ∧
    (b ≠ 0 → b.natAbs < 2 ^ 8000 ∧ Q .non (upd H p (.ins a.C_Ratio dx [("top", .int (lowT t b)), ("bottom", .int (lowB t b))])))))
theorem ok_Ratio_init {P : Program} {w : World} {K : PySem.W.Frag} {mg : Str → Option Value} {base : Heap} {a : Ad} (T : Txt P K mg base a) : FnOk P w K mg base (L2.CX P w) 2 a.f_Ratio_init a.d_Ratio_init (["self", "top", "bottom"] : List Str) (sp_Ratio_init K a) := by
  refine T.F_Ratio_init.ok sc_Ratio_init (fun vs H Q E h => sp3_len h) (fun cdv A outer s H vs Q E hr h => ?_)
  have hu := hu_of hr
  refine ⟨_, (pss_cons (ps_if (pt_not (pt_val (pe_call (ok_is_integer T) (hr.mono (by decide)) rfl T.g_is_integer T.k_is_integer T.B_is_integer .nil pass0 (pa_cons (pv 1) pa_nil)))) (pss_one (ps_rs rfl (takes_of rfl rfl rfl rfl) (pmk1 T.E_InvalidNumber T.Y_InvalidNumber T.x_InvalidNumber_value hr (pa_cons (pv 1) pa_nil)))) pss_nil)
      (pss_cons (ps_if (PW.pt (pw_or (pt_not (pt_val (pe_call (ok_is_integer T) (hr.mono (by decide)) rfl T.g_is_integer T.k_is_integer T.B_is_integer .nil pass0 (pa_cons (pv 2) pa_nil)))) (pw_or1 (pt_cmpR op_eq (pv 2) pe_int (nomark _))))) (pss_one (ps_rs rfl (takes_of rfl rfl rfl rfl) (pmk1 T.E_InvalidNumber T.Y_InvalidNumber T.x_InvalidNumber_value hr (pa_cons (pv 2) pa_nil)))) pss_nil)
      (pss_cons (ps_set (i := 3) sc_Ratio_init.nd rfl (Or.inl rfl) (pe_call (ok_greatest_divisor T) (hr.mono (by decide)) rfl T.g_greatest_divisor T.k_greatest_divisor T.B_greatest_divisor .nil pass0 (pa_cons (pv 1) (pa_cons (pv 2) pa_nil))))
      (Evl.pss_cut (ps_if (pt_cmpR op_lt (pv 2) pe_int (nomark _)) (pss_one (ps_set (i := 3) sc_Ratio_init.nd rfl (Or.inl rfl) (pe_un un_neg (pv 3)))) pss_nil)
      (pss_cons (ps_fld (pv 0) (pe_op op_fdivX (pv 1) (pv 3)) rfl)
      (pss_one (ps_fld (pv 0) (pe_op op_fdivX (pv 2) (pv 3)) rfl))))))), ?_⟩
  try dsimp only [L2.cxOf]
  obtain ⟨s0, x, y, rfl, p, dx, bt, rfl, hp, hx, k0, k1⟩ := h
  rw [show L2.start (["self", "top", "bottom", "shared"] : List Str) [(.ref p), x, y] = ([some ((.ref p)), some (x), some (y), none] : L2.St) from rfl]
  walk_at "w"
  refine ⟨x, rfl, bt, hx, ?_⟩
  cases bt with
  | false =>
    walk_at "w"
    exact k0 rfl
  | true =>
    obtain ⟨t, rfl, bb, hy, k2, k3⟩ := k1 rfl
    walk_at "w"
    refine ⟨y, rfl, bb, hy, ?_⟩
    cases bb with
    | false =>
      walk_at "w"
      exact k2 rfl
    | true =>
      obtain ⟨b, rfl, k4, k5⟩ := k3 rfl
      walk_at "w"
      refine it_dec (fun c => ?_) (fun c => ?_)
      · walk_at "w"
        exact k4 (V.int.inj c)
      · walk_at "w"
        have hb : b ≠ 0 := fun z => c (congrArg V.int z)
        obtain ⟨hz, k6⟩ := k5 hb
        refine ⟨.int t, .int b, rfl, t, b, rfl, rfl, ?_⟩
        have g0 := gcd_pos_of (t := t) hb
        have g1 : Int.gcd t b ≤ b.natAbs := Int.gcd_le_natAbs_right t hb
        have dx0 : ∀ i, CDivX i (sgn b (Int.gcd t b)) := fun i => divX (sgn_ne hb) (Nat.lt_of_le_of_lt (by unfold sgn; split <;> omega) hz) (by decide) (by decide)
        walk_at "w"
        refine ⟨fun σ' H' => H' = H ∧ σ' = [some (.ref p), some (.int t), some (.int b), some (.int (sgn b (Int.gcd t b)))], ?_, ?_⟩
        · walk_at "w"
          refine it_dec (fun c => ?_) (fun c => ?_)
          · walk_at "w"
            exact ⟨rfl, by rw [show sgn b (Int.gcd t b) = -((Int.gcd t b : Nat) : Int) from if_pos c]⟩
          · walk_at "w"
            exact ⟨rfl, by rw [show sgn b (Int.gcd t b) = ((Int.gcd t b : Nat) : Int) from if_neg c]⟩
        · rintro σ' H' ⟨rfl, rfl⟩
          walk_at "w"
          refine ⟨p, _, dx, _, rfl, hp, T.c_Ratio, T.na_Ratio_top, by decide, ?_⟩
          walk_at "w"
          refine ⟨p, _, dx, _, rfl, upd_same, T.c_Ratio, T.na_Ratio_bottom, by show 1 < 1000; decide, ?_⟩
          rw [upd_upd, ratio_put]
          exact k6

/-- a ratio t over b stands at p -/
def rfields (t b : Int) : List (Str × V) := [("top", .int t), ("bottom", .int b)]
structure RatioAt (a : Ad) (H : Hp) (p : Addr) (t b : Int) : Prop where
  ex : ∃ dx, H p = some (.ins a.C_Ratio dx (rfields t b))
theorem rl_top (t b : Int) : (rfields t b).lookup ("top" : Str) = some (.int t) := by simp [rfields, List.lookup]
theorem rl_bottom (t b : Int) : (rfields t b).lookup ("bottom" : Str) = some (.int b) := by
  have h : (("bottom" : Str) == "top") = false := by decide +kernel
  simp [rfields, List.lookup, h]
theorem RatioAt.same {a : Ad} {H H' : Hp} {p : Addr} {t b : Int} (R : RatioAt a H p t b) (s : Same H H') : RatioAt a H' p t b := by
  obtain ⟨dx, h⟩ := R.ex
  exact ⟨dx, s _ _ h⟩

/-- Ratio(t, b) with b not 0 -/
theorem init_ok {K : PySem.W.Frag} {a : Ad} {H : Hp} {p dx : Addr} {t b : Int} {Q : VK} {E : XK} (hp : H p = some (.ins a.C_Ratio dx [])) (hb : b ≠ 0) (hz : b.natAbs < 2 ^ 8000)
    (k : Q .non (upd H p (.ins a.C_Ratio dx (rfields (lowT t b) (lowB t b))))) : sp_Ratio_init K a [.ref p, .int t, .int b] H Q E :=
  ⟨_, _, _, rfl, p, dx, true, rfl, hp, isI_int _, (fun z => by cases z), fun _ => ⟨t, rfl, true, isI_int _, (fun z => by cases z), fun _ => ⟨b, rfl, fun z => absurd z hb, fun _ => ⟨hz, k⟩⟩⟩⟩
/-- the new instance, made whole: nothing else is touched -/
theorem made_same {H : Hp} {z dz C : Addr} {fs gs : List (Str × V)} (nz : H z = none) (nd : H dz = none) : Same H (upd (upd (upd H dz (.own z)) z (.ins C dz fs)) z (.ins C dz gs)) := by
  rw [upd_upd]
  exact Same.upd (Same.new nd) nz
theorem made_at {a : Ad} {H : Hp} {z dz : Addr} {fs : List (Str × V)} {t b : Int} : RatioAt a (upd (upd (upd H dz (.own z)) z (.ins a.C_Ratio dz fs)) z (.ins a.C_Ratio dz (rfields t b))) z t b := ⟨dz, upd_same⟩

/-! ### the errors' classes -/
/-- a class right below FontError -/
structure OwnE (K : PySem.W.Frag) (a : Ad) (D : Addr) : Prop where
  mro : (PySem.W.clsIn K D).map (·.mro) = some [.ref D, .ref a.C_FontError, .type "ValueError", .type "Exception", .type "BaseException", .type "object"]
  ty : PySem.W.typeIn K (.ref D) = some (.type "type")
section
variable {K : PySem.W.Frag} {a : Ad} {C D : Addr}
theorem OwnE.some (o : OwnE K a D) : (PySem.W.clsIn K D).isSome = true := by
  have h := o.mro
  cases e : PySem.W.clsIn K D with
  | none => rw [e] at h; cases h
  | some cd => rfl
theorem OwnE.sub (o : OwnE K a D) (c : Value) : PySem.W.subIn K (.ref D) c = .some (([.ref D, .ref a.C_FontError, .type "ValueError", .type "Exception", .type "BaseException", .type "object"] : List Value).contains c) := by
  have h := o.mro
  show PySem.W.mroIn K D c = _
  unfold PySem.W.mroIn
  cases e : PySem.W.clsIn K D with
  | none => rw [e] at h; cases h
  | some cd =>
    rw [e] at h
    have h2 : cd.mro = _ := Option.some.inj h
    rw [Option.bind_some, h2]
    rfl
theorem OwnE.kcls (o : OwnE K a D) (o' : OwnE K a C) : PySem.W.kitCls K (.ref D) (.ref C) = .some (decide (C = D ∨ C = a.C_FontError)) := by
  show (if ((PySem.W.clsIn K C).isSome && PySem.W.typeIn K (.ref C) == .some (.type "type")) = true then PySem.W.subIn K (.ref D) (.ref C) else none) = _
  rw [o'.some, o'.ty, if_pos (by rfl), o.sub]
  congr 1
  rw [Bool.eq_iff_iff]
  simp
theorem OwnE.kit (o : OwnE K a D) (o' : OwnE K a C) : PySem.W.kitOne K (.ref D) (.ref C) = .some (decide (C = D ∨ C = a.C_FontError)) := by
  by_cases h : C = D
  · subst h
    rw [kit_self, decide_eq_true (.inl rfl)]
  · unfold PySem.W.kitOne
    rw [if_neg (by simpa using fun z => h z.symm)]
    exact o.kcls o'
theorem OwnE.kitFE (o : OwnE K a D) (h1 : PySem.W.typeIn K (.ref a.C_FontError) = .some (.type "type")) (h2 : (PySem.W.clsIn K a.C_FontError).isSome = true) : PySem.W.kitCls K (.ref D) (.ref a.C_FontError) = .some true := by
  show (if ((PySem.W.clsIn K a.C_FontError).isSome && PySem.W.typeIn K (.ref a.C_FontError) == .some (.type "type")) = true then PySem.W.subIn K (.ref D) (.ref a.C_FontError) else none) = _
  rw [h1, h2, if_pos (by rfl), o.sub]
  congr 1
  simp
theorem OwnE.kitVE (o : OwnE K a D) : PySem.W.kitOne K (.ref D) (.type "ValueError") = .some true := by
  unfold PySem.W.kitOne
  rw [if_neg (by simp)]
  show (if PySem.W.kitMeta "ValueError" = true then PySem.W.subIn K (.ref D) (.type "ValueError") else none) = _
  rw [if_pos (by decide +kernel), o.sub]
  congr 1
theorem OwnE.exm (o : OwnE K a D) (o' : OwnE K a C) : PySem.W.exmOne K (.ref D) (.ref C) = .some (decide (C = D ∨ C = a.C_FontError)) := by
  unfold PySem.W.exmOne
  rw [o'.sub, if_pos (by simp)]
  exact o.kcls o'
end
/-- the errors with values, all errors, all and FontError -/
def errL (a : Ad) : List Addr := [a.C_InvalidGlyph, a.C_InvalidNumber, a.C_UnknownGlyph, a.C_TooMany, a.C_Overlap, a.C_InUse, a.C_DeedRefused, a.C_InvalidLine, a.C_UnknownLetter, a.C_InvalidState, a.C_InvalidText, a.C_Contradiction, a.C_NameTaken, a.C_UnknownName, a.C_UnknownKind, a.C_InvalidOptions]
def allL (a : Ad) : List Addr := errL a ++ [a.C_NothingToUndo, a.C_NoCommonLetters]
section
variable {P : Program} {K : PySem.W.Frag} {mg : Str → Option Value} {base : Heap} {a : Ad} (T : Txt P K mg base a)
include T
theorem ownL : ∀ D ∈ allL a, OwnE K a D := by
  intro D h
  simp only [allL, errL, List.cons_append, List.nil_append, List.mem_cons, List.not_mem_nil, or_false] at h
  rcases h with rfl | rfl | rfl | rfl | rfl | rfl | rfl | rfl | rfl | rfl | rfl | rfl | rfl | rfl | rfl | rfl | rfl | rfl
  · exact ⟨T.mr_InvalidGlyph, T.E_InvalidGlyph.tyC⟩
  · exact ⟨T.mr_InvalidNumber, T.E_InvalidNumber.tyC⟩
  · exact ⟨T.mr_UnknownGlyph, T.E_UnknownGlyph.tyC⟩
  · exact ⟨T.mr_TooMany, T.E_TooMany.tyC⟩
  · exact ⟨T.mr_Overlap, T.E_Overlap.tyC⟩
  · exact ⟨T.mr_InUse, T.E_InUse.tyC⟩
  · exact ⟨T.mr_DeedRefused, T.E_DeedRefused.tyC⟩
  · exact ⟨T.mr_InvalidLine, T.E_InvalidLine.tyC⟩
  · exact ⟨T.mr_UnknownLetter, T.E_UnknownLetter.tyC⟩
  · exact ⟨T.mr_InvalidState, T.E_InvalidState.tyC⟩
  · exact ⟨T.mr_InvalidText, T.E_InvalidText.tyC⟩
  · exact ⟨T.mr_Contradiction, T.E_Contradiction.tyC⟩
  · exact ⟨T.mr_NameTaken, T.E_NameTaken.tyC⟩
  · exact ⟨T.mr_UnknownName, T.E_UnknownName.tyC⟩
  · exact ⟨T.mr_UnknownKind, T.E_UnknownKind.tyC⟩
  · exact ⟨T.mr_InvalidOptions, T.E_InvalidOptions.tyC⟩
  · exact ⟨T.mr_NothingToUndo, T.ty_NothingToUndo⟩
  · exact ⟨T.mr_NoCommonLetters, T.ty_NoCommonLetters⟩
theorem excL : ∀ D ∈ allL a, ExcC K D := by
  intro D h
  simp only [allL, errL, List.cons_append, List.nil_append, List.mem_cons, List.not_mem_nil, or_false] at h
  rcases h with rfl | rfl | rfl | rfl | rfl | rfl | rfl | rfl | rfl | rfl | rfl | rfl | rfl | rfl | rfl | rfl | rfl | rfl
  · exact T.X_InvalidGlyph
  · exact T.X_InvalidNumber
  · exact T.X_UnknownGlyph
  · exact T.X_TooMany
  · exact T.X_Overlap
  · exact T.X_InUse
  · exact T.X_DeedRefused
  · exact T.X_InvalidLine
  · exact T.X_UnknownLetter
  · exact T.X_InvalidState
  · exact T.X_InvalidText
  · exact T.X_Contradiction
  · exact T.X_NameTaken
  · exact T.X_UnknownName
  · exact T.X_UnknownKind
  · exact T.X_InvalidOptions
  · exact T.X_NothingToUndo
  · exact T.X_NoCommonLetters
theorem ndL : (allL a ++ [a.C_FontError]).Nodup := T.nd_all
theorem neFE {D : Addr} (h : D ∈ allL a) : D ≠ a.C_FontError := fun z => by
  have nd := ndL T
  rw [List.nodup_append] at nd
  exact nd.2.2 D h _ (by simp) z
omit T in
theorem nodup_ix {l : List Addr} (nd : l.Nodup) {i j : Nat} {x : Addr} (hi : l[i]? = some x) (hj : l[j]? = some x) : i = j := by
  obtain ⟨h1, _⟩ := List.getElem?_eq_some_iff.mp hi
  exact (List.getElem?_inj h1 nd).mp (hi.trans hj.symm)
/-- who is caught by whom -/
theorem exm_ij {i j : Nat} {C D : Addr} (hi : (allL a)[i]? = some D) (hj : (allL a)[j]? = some C) : PySem.W.exmOne K (.ref D) (.ref C) = some (decide (j = i)) := by
  have mC := List.mem_of_getElem? hj
  rw [(ownL T D (List.mem_of_getElem? hi)).exm (ownL T C mC)]
  congr 1
  have nd : (allL a).Nodup := (List.nodup_append.mp (ndL T)).1
  have fe := neFE T mC
  refine decide_eq_decide.mpr ⟨fun z => ?_, fun z => ?_⟩
  · rcases z with z | z
    · obtain ⟨h1, e1⟩ := List.getElem?_eq_some_iff.mp hi
      obtain ⟨h2, e2⟩ := List.getElem?_eq_some_iff.mp hj
      exact nodup_ix nd hj (by rw [hi, z])
    · exact absurd z fe
  · subst z
    exact .inl (Option.some.inj (hj.symm.trans hi))
theorem exmFE {D : Addr} (h : D ∈ allL a) : PySem.W.exmOne K (.ref D) (.ref a.C_FontError) = some true := by
  unfold PySem.W.exmOne
  rw [T.be_FontError, if_pos (by rfl)]
  exact (ownL T D h).kitFE T.ty_FontError T.cl_FontError
theorem kitFE {D : Addr} (h : D ∈ allL a) : PySem.W.kitOne K (.ref D) (.ref a.C_FontError) = some true := by
  unfold PySem.W.kitOne
  rw [if_neg (by simpa using neFE T h)]
  exact (ownL T D h).kitFE T.ty_FontError T.cl_FontError
end
theorem lk1 {f : Str} {v : V} {r : List (Str × V)} : List.lookup f ((f, v) :: r) = some v := by simp [List.lookup]
theorem lk2 {f g : Str} {u v : V} {r : List (Str × V)} (h : (f == g) = false) : List.lookup f ((g, u) :: (f, v) :: r) = some v := by simp [List.lookup, h]
theorem wAll_no {K : PySem.W.Frag} {Wo : WX} {D : Ends} {q : Value × Nat × Suite} {r : List (Value × Nat × Suite)} {cls : Value} {d : Option Addr} {σ : L2.St} {H : Hp} (e : PySem.W.exmOne K cls q.1 = some false) (k : wAll K Wo D r cls d σ H) : wAll K Wo D (q :: r) cls d σ H := ⟨false, e, (fun z => nomatch z), fun _ => k⟩
theorem wAll_yes {K : PySem.W.Frag} {Wo : WX} {D : Ends} {q : Value × Nat × Suite} {r : List (Value × Nat × Suite)} {cls : Value} {d : Option Addr} {σ : L2.St} {H : Hp} (e : PySem.W.exmOne K cls q.1 = some true) (k : ∀ a, H a = none → q.2.2 a cls d (asD q.2.1 D) (σ.set q.2.1 (some (.ref a))) H) : wAll K Wo D (q :: r) cls d σ H := ⟨true, e, fun _ => k, (fun z => nomatch z)⟩

theorem okA_is_integer {P : Program} {w : World} {K : PySem.W.Frag} {mg : Str → Option Value} {base : Heap} {a : Ad} (T : Txt P K mg base a) : FnA P w K mg base 1 a.f_is_integer a.d_is_integer (["value"] : List Str) (sp_is_integer K a) := by
  refine funA T.F_is_integer sc_is_integer (fun vs H Q h => sp1_len h) (fun cdv A outer s H vs Q hr h => ?_)
  have hu := hu_ofA hr
  refine ⟨_, (pss_one (ps_ret (pe_and (pe_callB call_isi (by rfl) T.n_isinstance bb_isinstance (pa_cons (pv 0) (pa_cons (pe_bltn (v := .ty "int") (by rfl) T.n_int bb_int rfl) pa_nil))) (pe_one (pe_not (pe_callB call_isi (by rfl) T.n_isinstance bb_isinstance (pa_cons (pv 0) (pa_cons (pe_bltn (v := .ty "bool") (by rfl) T.n_bool bb_bool rfl) pa_nil)))))))), ?_⟩
  try dsimp only [L2.cxOf]
  obtain ⟨x, rfl, b, ⟨t, b1, b2, ty, k1, k2, rfl⟩, k⟩ := h
  rw [show L2.start (["value"] : List Str) [x] = ([some (x)] : L2.St) from rfl]
  walk_at "w"
  refine w_isi (.ty "int") ty k1 ?_
  walk_at "w"
  refine it_b (fun e1 => ?_) (fun e1 => ?_)
  · walk_at "w"
    refine w_isi (.ty "bool") ty (k2 e1) ?_
    walk_at "w"
    subst e1
    exact k
  · subst e1
    exact k

theorem okH_greatest_divisor {P : Program} {w : World} {K : PySem.W.Frag} {mg : Str → Option Value} {base : Heap} {a : Ad} (T : Txt P K mg base a) : L2H.FnH P w K mg base CX0 1 a.f_greatest_divisor a.d_greatest_divisor (["left", "right"] : List Str) (sp_greatest_divisor K a) := by
  refine funH T.F_greatest_divisor sc_greatest_divisor (fun vs H Q E h => sp2_len h) (fun cdv A outer s H vs Q E p hot hr h => ?_)
  have hu := hu_ofA hr
  refine ⟨_, (pss_cons (ps_set (i := 0) sc_greatest_divisor.nd rfl (Or.inl rfl) (pe_callB qc_abs (by rfl) T.n_abs bb_abs (pa_cons (pv 0) pa_nil)))
      (pss_cons (ps_set (i := 1) sc_greatest_divisor.nd rfl (Or.inl rfl) (pe_callB qc_abs (by rfl) T.n_abs bb_abs (pa_cons (pv 1) pa_nil)))
      (pss_cons (ps_while PassesOwn.never (pt_cmpR op_gt (pv 1) pe_int (nomark _)) (pss_one (ps_parH (i := 0) (j := 1) (hotN (env := default) hot) sc_greatest_divisor.nd rfl rfl (by decide) rfl rfl (pa_cons (pv 1) (pa_cons (pe_op op_mod (pv 0) (pv 1)) pa_nil)) (by rfl))))
      (pss_one (ps_ret (pv 0)))))), ?_⟩
  try dsimp only [L2.cxOf]
  obtain ⟨x, y, rfl, l, r, rfl, rfl, k⟩ := h
  rw [show L2.start (["left", "right"] : List Str) [(.int l), (.int r)] = ([some ((.int l)), some ((.int r))] : L2.St) from rfl]
  walk_at "w"
  refine while_by (fun σ' H' => H' = H ∧ ∃ p : Int × Int, σ' = [some (.int p.1), some (.int p.2)] ∧ 0 ≤ p.1 ∧ 0 ≤ p.2 ∧ Int.gcd p.1 p.2 = Int.gcd l r) (fun σ' _ => match σ' with | [_, some (.int z)] => z.toNat | _ => 0) ?_ ?_ ?_
  · have e1 := pabs_eq l
    have e2 := pabs_eq r
    refine ⟨rfl, (pabs l, pabs r), rfl, ?_, ?_, ?_⟩
    · show 0 ≤ pabs l
      omega
    · show 0 ≤ pabs r
      omega
    · show Int.gcd (pabs l) (pabs r) = Int.gcd l r
      rw [e1, e2]
      rfl
  · rintro σ' H' ⟨rfl, p, rfl, h1, h2, h3⟩
    walk_at "w"
    refine it_dec (fun c => ?_) (fun c => ?_)
    · walk_at "w"
      refine ⟨⟨rfl, (p.2, p.1 % p.2), rfl, h2, Int.emod_nonneg _ (by omega), ?_⟩, ?_⟩
      · have e : eStep p = (p.2, p.1 % p.2) := if_pos c
        have q := eStep_gcd (p := p)
        rw [e] at q
        exact q.trans h3
      · show (p.1 % p.2).toNat < p.2.toNat
        have := Int.emod_lt_of_pos p.1 c
        have := Int.emod_nonneg p.1 (show p.2 ≠ 0 by omega)
        omega
    · walk_at "w"
      have z : p.2 = 0 := by omega
      rw [z, Int.gcd_zero_right] at h3
      have e : p.1 = ((Int.gcd l r : Nat) : Int) := by omega
      rw [e]
      exact k
  · intro σ' H' Q1 Q2 m z
    obtain ⟨v, e1, z⟩ := z
    obtain ⟨i, j, e3, e4, b, e5, z⟩ := z
    exact ⟨v, e1, i, j, e3, e4, b, e5, m _ _ z⟩

def spA_Ratio_init (K : PySem.W.Frag) (a : Ad) : Sp := sp3 fun s x y H Q _ => ∃ (p dx : Addr) (t b : Int), s = .ref p ∧ x = .int t ∧ y = .int b ∧ H p = some (.ins a.C_Ratio dx []) ∧ b ≠ 0 ∧ b.natAbs < 2 ^ 8000 ∧ Q .non (upd H p (.ins a.C_Ratio dx (rfields (lowT t b) (lowB t b))))
theorem okC_Ratio_init {P : Program} {w : World} {K : PySem.W.Frag} {mg : Str → Option Value} {base : Heap} {a : Ad} (T : Txt P K mg base a) : FnOk P w K mg base CX0 2 a.f_Ratio_init a.d_Ratio_init (["self", "top", "bottom"] : List Str) (spA_Ratio_init K a) := by
  refine FunD.ok0 T.F_Ratio_init sc_Ratio_init (fun vs H Q E h => sp3_len h) (fun cdv A outer s H vs Q E hr h => ?_)
  have hu := hu_of hr
  refine ⟨_, (pss_cons (ps_if (pt_not (pt_val (pe_call (ok_is_integer T) (hr.mono (by decide)) rfl T.g_is_integer T.k_is_integer T.B_is_integer .nil pass0 (pa_cons (pv 1) pa_nil)))) (pss_one ps_never) pss_nil)
      (pss_cons (ps_if (PW.pt (pw_or (pt_not (pt_val (pe_call (ok_is_integer T) (hr.mono (by decide)) rfl T.g_is_integer T.k_is_integer T.B_is_integer .nil pass0 (pa_cons (pv 2) pa_nil)))) (pw_or1 (pt_cmpR op_eq (pv 2) pe_int (nomark _))))) (pss_one ps_never) pss_nil)
      (pss_cons (ps_set (i := 3) sc_Ratio_init.nd rfl (Or.inl rfl) (pe_call (ok_greatest_divisor T) (hr.mono (by decide)) rfl T.g_greatest_divisor T.k_greatest_divisor T.B_greatest_divisor .nil pass0 (pa_cons (pv 1) (pa_cons (pv 2) pa_nil))))
      (Evl.pss_cut (ps_if (pt_cmpR op_lt (pv 2) pe_int (nomark _)) (pss_one (ps_set (i := 3) sc_Ratio_init.nd rfl (Or.inl rfl) (pe_un un_neg (pv 3)))) pss_nil)
      (pss_cons (ps_fld (pv 0) (pe_op op_fdivX (pv 1) (pv 3)) rfl)
      (pss_one (ps_fld (pv 0) (pe_op op_fdivX (pv 2) (pv 3)) rfl))))))), ?_⟩
  try dsimp only [L2.cxOf]
  obtain ⟨s0, x, y, rfl, p, dx, t, b, rfl, rfl, rfl, hp, hb, hz, k⟩ := h
  rw [show L2.start (["self", "top", "bottom", "shared"] : List Str) [(.ref p), (.int t), (.int b)] = ([some ((.ref p)), some ((.int t)), some ((.int b)), none] : L2.St) from rfl]
  walk_at "w"
  refine ⟨_, rfl, true, isI_int t, ?_⟩
  walk_at "w"
  refine ⟨_, rfl, true, isI_int b, ?_⟩
  walk_at "w"
  refine it_neg (fun z => hb (V.int.inj z)) ?_
  walk_at "w"
  refine ⟨.int t, .int b, rfl, t, b, rfl, rfl, ?_⟩
  have g0 := gcd_pos_of (t := t) hb
  have g1 : Int.gcd t b ≤ b.natAbs := Int.gcd_le_natAbs_right t hb
  have dx0 : ∀ i, CDivX i (sgn b (Int.gcd t b)) := fun i => divX (sgn_ne hb) (Nat.lt_of_le_of_lt (by unfold sgn; split <;> omega) hz) (by decide) (by decide)
  walk_at "w"
  refine ⟨fun σ' H' => H' = H ∧ σ' = [some (.ref p), some (.int t), some (.int b), some (.int (sgn b (Int.gcd t b)))], ?_, ?_⟩
  · walk_at "w"
    refine it_dec (fun c => ?_) (fun c => ?_)
    · walk_at "w"
      exact ⟨rfl, by rw [show sgn b (Int.gcd t b) = -((Int.gcd t b : Nat) : Int) from if_pos c]⟩
    · walk_at "w"
      exact ⟨rfl, by rw [show sgn b (Int.gcd t b) = ((Int.gcd t b : Nat) : Int) from if_neg c]⟩
  · rintro σ' H' ⟨rfl, rfl⟩
    walk_at "w"
    refine ⟨p, _, dx, _, rfl, hp, T.c_Ratio, T.na_Ratio_top, by decide, ?_⟩
    walk_at "w"
    refine ⟨p, _, dx, _, rfl, upd_same, T.c_Ratio, T.na_Ratio_bottom, by show 1 < 1000; decide, ?_⟩
    rw [upd_upd, ratio_put]
    exact k

theorem okH_Ratio_init {P : Program} {w : World} {K : PySem.W.Frag} {mg : Str → Option Value} {base : Heap} {a : Ad} (T : Txt P K mg base a) : L2H.FnH P w K mg base CX0 2 a.f_Ratio_init a.d_Ratio_init (["self", "top", "bottom"] : List Str) (spA_Ratio_init K a) := by
  refine funDH T.F_Ratio_init sc_Ratio_init (fun vs H Q E h => sp3_len h) (fun cdv A outer s H vs Q E p hot hr h => ?_)
  have hu := hu_ofA hr
  refine ⟨_, (pss_cons (ps_if (pt_not (pt_val (pe_callA (okA_is_integer T) (hr.mono (by decide)) rfl T.g_is_integer T.k_is_integer T.B_is_integer .nil (pa_cons (pv 1) pa_nil)))) (pss_one ps_never) pss_nil)
      (pss_cons (ps_if (PW.pt (pw_or (pt_not (pt_val (pe_callA (okA_is_integer T) (hr.mono (by decide)) rfl T.g_is_integer T.k_is_integer T.B_is_integer .nil (pa_cons (pv 2) pa_nil)))) (pw_or1 (pt_cmpR op_eq (pv 2) pe_int (nomark _))))) (pss_one ps_never) pss_nil)
      (pss_cons (ps_set (i := 3) sc_Ratio_init.nd rfl (Or.inl rfl) (pe_callHn (okH_greatest_divisor T) (hotN (env := default) hot) (hr.mono (by decide)) rfl T.g_greatest_divisor T.k_greatest_divisor T.B_greatest_divisor (pa_cons (pv 1) (pa_cons (pv 2) pa_nil))))
      (Evl.pss_cut (ps_if (pt_cmpR op_lt (pv 2) pe_int (nomark _)) (pss_one (ps_set (i := 3) sc_Ratio_init.nd rfl (Or.inl rfl) (pe_un un_neg (pv 3)))) pss_nil)
      (pss_cons (ps_fld (pv 0) (pe_op op_fdivX (pv 1) (pv 3)) rfl)
      (pss_one (ps_fld (pv 0) (pe_op op_fdivX (pv 2) (pv 3)) rfl))))))), ?_⟩
  try dsimp only [L2.cxOf]
  obtain ⟨s0, x, y, rfl, p, dx, t, b, rfl, rfl, rfl, hp, hb, hz, k⟩ := h
  rw [show L2.start (["self", "top", "bottom", "shared"] : List Str) [(.ref p), (.int t), (.int b)] = ([some ((.ref p)), some ((.int t)), some ((.int b)), none] : L2.St) from rfl]
  walk_at "w"
  refine ⟨_, rfl, true, isI_int t, ?_⟩
  walk_at "w"
  refine ⟨_, rfl, true, isI_int b, ?_⟩
  walk_at "w"
  refine it_neg (fun z => hb (V.int.inj z)) ?_
  walk_at "w"
  refine ⟨.int t, .int b, rfl, t, b, rfl, rfl, ?_⟩
  have g0 := gcd_pos_of (t := t) hb
  have g1 : Int.gcd t b ≤ b.natAbs := Int.gcd_le_natAbs_right t hb
  have dx0 : ∀ i, CDivX i (sgn b (Int.gcd t b)) := fun i => divX (sgn_ne hb) (Nat.lt_of_le_of_lt (by unfold sgn; split <;> omega) hz) (by decide) (by decide)
  walk_at "w"
  refine ⟨fun σ' H' => H' = H ∧ σ' = [some (.ref p), some (.int t), some (.int b), some (.int (sgn b (Int.gcd t b)))], ?_, ?_⟩
  · walk_at "w"
    refine it_dec (fun c => ?_) (fun c => ?_)
    · walk_at "w"
      exact ⟨rfl, by rw [show sgn b (Int.gcd t b) = -((Int.gcd t b : Nat) : Int) from if_pos c]⟩
    · walk_at "w"
      exact ⟨rfl, by rw [show sgn b (Int.gcd t b) = ((Int.gcd t b : Nat) : Int) from if_neg c]⟩
  · rintro σ' H' ⟨rfl, rfl⟩
    walk_at "w"
    refine ⟨p, _, dx, _, rfl, hp, T.c_Ratio, T.na_Ratio_top, by decide, ?_⟩
    walk_at "w"
    refine ⟨p, _, dx, _, rfl, upd_same, T.c_Ratio, T.na_Ratio_bottom, by show 1 < 1000; decide, ?_⟩
    rw [upd_upd, ratio_put]
    exact k

def sp_Ratio_eq (K : PySem.W.Frag) (a : Ad) : Sp := sp2 fun x y H Q _ => ∃ (p q : Addr) (t b : Int), x = .ref p ∧ RatioAt a H p t b ∧ y = .ref q ∧ RatioAt a H q t b ∧ Q (.bl true) H
theorem ok_Ratio_eq {P : Program} {w : World} {K : PySem.W.Frag} {mg : Str → Option Value} {base : Heap} {a : Ad} (T : Txt P K mg base a) : FnOk P w K mg base CX0 1 a.f_Ratio_eq a.d_Ratio_eq (["self", "other"] : List Str) (sp_Ratio_eq K a) := by
  refine T.F_Ratio_eq.ok sc_Ratio_eq (fun vs H Q E h => sp2_len h) (fun cdv A outer s H vs Q E hr h => ?_)
  have hu := hu_of hr
  refine ⟨_, (pss_one (ps_ret (pe_and (pe_callB call_isi (by rfl) T.n_isinstance bb_isinstance (pa_cons (pv 1) (pa_cons (pe_glob (v := .ref a.C_Ratio) rfl T.g_Ratio rfl) pa_nil))) (pe_and (pe_cmpR op_eq (pe_fld (pv 0) rfl) (pe_fld (pv 1) rfl) (nomark _)) (pe_one (pe_cmpR op_eq (pe_fld (pv 0) rfl) (pe_fld (pv 1) rfl) (nomark _))))))), ?_⟩
  try dsimp only [L2.cxOf]
  obtain ⟨x, y, rfl, p, q, t, b, rfl, R, rfl, R1, k⟩ := h
  obtain ⟨dx, hp⟩ := R.ex
  obtain ⟨dq, hq⟩ := R1.ex
  rw [show L2.start (["self", "other"] : List Str) [(.ref p), (.ref q)] = ([some ((.ref p)), some ((.ref q))] : L2.St) from rfl]
  walk_at "w"
  refine w_isi (.own _) (ty_ins hq T.c_Ratio T.I_Ratio) kit_self ?_
  walk_at "w"
  refine ⟨p, _, dx, _, _, rfl, hp, T.c_Ratio, T.na_Ratio_top, rl_top t b, ?_⟩
  walk_at "w"
  refine ⟨q, _, dq, _, _, rfl, hq, T.c_Ratio, T.na_Ratio_top, rl_top t b, ?_⟩
  walk_at "w"
  refine it_pos rfl ?_
  walk_at "w"
  refine ⟨p, _, dx, _, _, rfl, hp, T.c_Ratio, T.na_Ratio_bottom, rl_bottom t b, ?_⟩
  walk_at "w"
  refine ⟨q, _, dq, _, _, rfl, hq, T.c_Ratio, T.na_Ratio_bottom, rl_bottom t b, ?_⟩
  walk_at "w"
  rw [decide_eq_true rfl]
  exact k

theorem okA_Ratio_eq {P : Program} {w : World} {K : PySem.W.Frag} {mg : Str → Option Value} {base : Heap} {a : Ad} (T : Txt P K mg base a) : FnA P w K mg base 1 a.f_Ratio_eq a.d_Ratio_eq (["self", "other"] : List Str) (sp_Ratio_eq K a) := by
  refine funA T.F_Ratio_eq sc_Ratio_eq (fun vs H Q h => sp2_len h) (fun cdv A outer s H vs Q hr h => ?_)
  have hu := hu_ofA hr
  refine ⟨_, (pss_one (ps_ret (pe_and (pe_callB call_isi (by rfl) T.n_isinstance bb_isinstance (pa_cons (pv 1) (pa_cons (pe_glob (v := .ref a.C_Ratio) rfl T.g_Ratio rfl) pa_nil))) (pe_and (pe_cmpR op_eq (pe_fld (pv 0) rfl) (pe_fld (pv 1) rfl) (nomark _)) (pe_one (pe_cmpR op_eq (pe_fld (pv 0) rfl) (pe_fld (pv 1) rfl) (nomark _))))))), ?_⟩
  try dsimp only [L2.cxOf]
  obtain ⟨x, y, rfl, p, q, t, b, rfl, R, rfl, R1, k⟩ := h
  obtain ⟨dx, hp⟩ := R.ex
  obtain ⟨dq, hq⟩ := R1.ex
  rw [show L2.start (["self", "other"] : List Str) [(.ref p), (.ref q)] = ([some ((.ref p)), some ((.ref q))] : L2.St) from rfl]
  walk_at "w"
  refine w_isi (.own _) (ty_ins hq T.c_Ratio T.I_Ratio) kit_self ?_
  walk_at "w"
  refine ⟨p, _, dx, _, _, rfl, hp, T.c_Ratio, T.na_Ratio_top, rl_top t b, ?_⟩
  walk_at "w"
  refine ⟨q, _, dq, _, _, rfl, hq, T.c_Ratio, T.na_Ratio_top, rl_top t b, ?_⟩
  walk_at "w"
  refine it_pos rfl ?_
  walk_at "w"
  refine ⟨p, _, dx, _, _, rfl, hp, T.c_Ratio, T.na_Ratio_bottom, rl_bottom t b, ?_⟩
  walk_at "w"
  refine ⟨q, _, dq, _, _, rfl, hq, T.c_Ratio, T.na_Ratio_bottom, rl_bottom t b, ?_⟩
  walk_at "w"
  rw [decide_eq_true rfl]
  exact k

def sp_law_glyphs (K : PySem.W.Frag) (a : Ad) : Sp := sp3 fun x y z H Q _ => ∃ (i : Nat) (n : Int) (w : Str), x = .int (0 + i : Nat) ∧ i < 6 ∧ y = .int n ∧ z = .str w ∧ w.length ≤ 100 ∧ ∀ H', Same H H' → Q (.bl true) H'
theorem ok_law_glyphs {P : Program} {w : World} {K : PySem.W.Frag} {mg : Str → Option Value} {base : Heap} {a : Ad} (T : Txt P K mg base a) : FnOk P w K mg base CX0 1 a.f_law_glyphs a.d_law_glyphs (["_law_way", "_law_number", "_law_word"] : List Str) (sp_law_glyphs K a) := by
  refine T.F_law_glyphs.ok sc_law_glyphs (fun vs H Q E h => sp3_len h) (fun cdv A outer s H vs Q E hr h => ?_)
  have hu := hu_of hr
  refine ⟨_, (pss_cons (ps_tryA rfl rfl sc_law_glyphs.nd takes0 (fun W pn xe tk po => (pss_cons (ps_if (pt_cmpR op_eq (pv 0) pe_int (nomark _)) (pss_one (ps_rs rfl tk (pmk1 T.E_InvalidGlyph T.Y_InvalidGlyph T.x_InvalidGlyph_glyph hr (pa_cons (pv 2) pa_nil)))) pss_nil)
      (pss_cons (ps_if (pt_cmpR op_eq (pv 0) pe_int (nomark _)) (pss_one (ps_rs rfl tk (pmk1 T.E_InvalidNumber T.Y_InvalidNumber T.x_InvalidNumber_value hr (pa_cons (pv 1) pa_nil)))) pss_nil)
      (pss_cons (ps_if (pt_cmpR op_eq (pv 0) pe_int (nomark _)) (pss_one (ps_rs rfl tk (pmk1 T.E_UnknownGlyph T.Y_UnknownGlyph T.x_UnknownGlyph_glyph hr (pa_cons (pv 2) pa_nil)))) pss_nil)
      (pss_cons (ps_if (pt_cmpR op_eq (pv 0) pe_int (nomark _)) (pss_one (ps_rs rfl tk (pmk1 T.E_TooMany T.Y_TooMany T.x_TooMany_limit hr (pa_cons (pv 1) pa_nil)))) pss_nil)
      (pss_cons (ps_if (pt_cmpR op_eq (pv 0) pe_int (nomark _)) (pss_one (ps_rs rfl tk (pmk2 T.E_Overlap T.Y_Overlap T.x_Overlap_left T.x_Overlap_right hr (pa_cons (pv 2) (pa_cons (pe_op qo_addS (pv 2) pe_str) pa_nil))))) pss_nil)
      (pss_one (ps_if (pt_cmpR op_eq (pv 0) pe_int (nomark _)) (pss_one (ps_rs rfl tk (pmk1 T.E_InUse T.Y_InUse T.x_InUse_user hr (pa_cons (pv 2) pa_nil)))) pss_nil))))))))
      (Clauses.cons (i := 3) ⟨rfl, by decide, .inl T.E_InvalidGlyph.gC⟩ rfl rfl (fun ae oe cls de pn hz hf => (pss_one (ps_ret (pe_and (pe_cmpR op_eq (pv 0) pe_int (nomark _)) (pe_one (pe_cmpR op_eq (pe_xf (xfC_of T.E_InvalidGlyph) T.x_InvalidGlyph_glyph hz hf (pv 3)) (pv 2) (nomark _)))))))
      (Clauses.cons (i := 3) ⟨rfl, by decide, .inl T.E_InvalidNumber.gC⟩ rfl rfl (fun ae oe cls de pn hz hf => (pss_one (ps_ret (pe_and (pe_cmpR op_eq (pv 0) pe_int (nomark _)) (pe_one (pe_cmpR op_eq (pe_xf (xfC_of T.E_InvalidNumber) T.x_InvalidNumber_value hz hf (pv 3)) (pv 1) (nomark _)))))))
      (Clauses.cons (i := 3) ⟨rfl, by decide, .inl T.E_UnknownGlyph.gC⟩ rfl rfl (fun ae oe cls de pn hz hf => (pss_one (ps_ret (pe_and (pe_cmpR op_eq (pv 0) pe_int (nomark _)) (pe_one (pe_cmpR op_eq (pe_xf (xfC_of T.E_UnknownGlyph) T.x_UnknownGlyph_glyph hz hf (pv 3)) (pv 2) (nomark _)))))))
      (Clauses.cons (i := 3) ⟨rfl, by decide, .inl T.E_TooMany.gC⟩ rfl rfl (fun ae oe cls de pn hz hf => (pss_one (ps_ret (pe_and (pe_cmpR op_eq (pv 0) pe_int (nomark _)) (pe_one (pe_cmpR op_eq (pe_xf (xfC_of T.E_TooMany) T.x_TooMany_limit hz hf (pv 3)) (pv 1) (nomark _)))))))
      (Clauses.cons (i := 3) ⟨rfl, by decide, .inl T.E_Overlap.gC⟩ rfl rfl (fun ae oe cls de pn hz hf => (pss_one (ps_ret (pe_and (pe_cmpR op_eq (pv 0) pe_int (nomark _)) (pe_and (pe_cmpR op_eq (pe_xf (xfC_of T.E_Overlap) T.x_Overlap_left hz hf (pv 3)) (pv 2) (nomark _)) (pe_one (pe_cmpR op_eq (pe_xf (xfC_of T.E_Overlap) T.x_Overlap_right hz hf (pv 3)) (pe_op qo_addS (pv 2) pe_str) (nomark _))))))))
      (Clauses.cons (i := 3) ⟨rfl, by decide, .inl T.E_InUse.gC⟩ rfl rfl (fun ae oe cls de pn hz hf => (pss_one (ps_ret (pe_and (pe_cmpR op_eq (pv 0) pe_int (nomark _)) (pe_one (pe_cmpR op_eq (pe_xf (xfC_of T.E_InUse) T.x_InUse_user hz hf (pv 3)) (pv 2) (nomark _)))))))
      Clauses.nil)))))))
      (pss_one (ps_ret pe_bl))), ?_⟩
  try dsimp only [L2.cxOf]
  obtain ⟨x, y, z, rfl, i, n, w, rfl, hi, rfl, rfl, hw, k⟩ := h
  rw [show L2.start (["_law_way", "_law_number", "_law_word", "_law_e"] : List Str) [(.int (0 + i : Nat)), (.int n), (.str w)] = ([some ((.int (0 + i : Nat))), some ((.int n)), some ((.str w)), none] : L2.St) from rfl]
  have sz : sizeLine = 16777216 := by decide
  match i, hi with
  | 0, _ =>
    walk_at "w"
    refine it_pos (by decide) ?_
    walk_at "w"
    intro d hd
    refine wAll_yes (exm_ij T (i := 0) (j := 0) rfl rfl) fun ae hae => ?_
    walk_at "w"
    refine it_pos (by decide) ?_
    walk_at "w"
    refine ⟨_, rfl, rfl, rfl, d, _, _, rfl, upd_same, lk1, ?_⟩
    walk_at "w"
    rw [decide_eq_true rfl]
    exact k _ (Same.new hd)
  | 1, _ =>
    walk_at "w"
    refine it_neg (by decide) ?_
    walk_at "w"
    refine it_pos (by decide) ?_
    walk_at "w"
    intro d hd
    refine wAll_no (exm_ij T (i := 1) (j := 0) rfl rfl) ?_
    refine wAll_yes (exm_ij T (i := 1) (j := 1) rfl rfl) fun ae hae => ?_
    walk_at "w"
    refine it_pos (by decide) ?_
    walk_at "w"
    refine ⟨_, rfl, rfl, rfl, d, _, _, rfl, upd_same, lk1, ?_⟩
    walk_at "w"
    rw [decide_eq_true rfl]
    exact k _ (Same.new hd)
  | 2, _ =>
    walk_at "w"
    refine it_neg (by decide) ?_
    walk_at "w"
    refine it_neg (by decide) ?_
    walk_at "w"
    refine it_pos (by decide) ?_
    walk_at "w"
    intro d hd
    refine wAll_no (exm_ij T (i := 2) (j := 0) rfl rfl) ?_
    refine wAll_no (exm_ij T (i := 2) (j := 1) rfl rfl) ?_
    refine wAll_yes (exm_ij T (i := 2) (j := 2) rfl rfl) fun ae hae => ?_
    walk_at "w"
    refine it_pos (by decide) ?_
    walk_at "w"
    refine ⟨_, rfl, rfl, rfl, d, _, _, rfl, upd_same, lk1, ?_⟩
    walk_at "w"
    rw [decide_eq_true rfl]
    exact k _ (Same.new hd)
  | 3, _ =>
    walk_at "w"
    refine it_neg (by decide) ?_
    walk_at "w"
    refine it_neg (by decide) ?_
    walk_at "w"
    refine it_neg (by decide) ?_
    walk_at "w"
    refine it_pos (by decide) ?_
    walk_at "w"
    intro d hd
    refine wAll_no (exm_ij T (i := 3) (j := 0) rfl rfl) ?_
    refine wAll_no (exm_ij T (i := 3) (j := 1) rfl rfl) ?_
    refine wAll_no (exm_ij T (i := 3) (j := 2) rfl rfl) ?_
    refine wAll_yes (exm_ij T (i := 3) (j := 3) rfl rfl) fun ae hae => ?_
    walk_at "w"
    refine it_pos (by decide) ?_
    walk_at "w"
    refine ⟨_, rfl, rfl, rfl, d, _, _, rfl, upd_same, lk1, ?_⟩
    walk_at "w"
    rw [decide_eq_true rfl]
    exact k _ (Same.new hd)
  | 4, _ =>
    walk_at "w"
    refine it_neg (by decide) ?_
    walk_at "w"
    refine it_neg (by decide) ?_
    walk_at "w"
    refine it_neg (by decide) ?_
    walk_at "w"
    refine it_neg (by decide) ?_
    walk_at "w"
    refine it_pos (by decide) ?_
    walk_at "w"
    refine w_addS (by show w.length + 1 ≤ sizeLine; omega) ?_
    walk_at "w"
    intro d hd
    refine wAll_no (exm_ij T (i := 4) (j := 0) rfl rfl) ?_
    refine wAll_no (exm_ij T (i := 4) (j := 1) rfl rfl) ?_
    refine wAll_no (exm_ij T (i := 4) (j := 2) rfl rfl) ?_
    refine wAll_no (exm_ij T (i := 4) (j := 3) rfl rfl) ?_
    refine wAll_yes (exm_ij T (i := 4) (j := 4) rfl rfl) fun ae hae => ?_
    walk_at "w"
    refine it_pos (by decide) ?_
    walk_at "w"
    refine ⟨_, rfl, rfl, rfl, d, _, _, rfl, upd_same, lk1, ?_⟩
    walk_at "w"
    refine it_pos rfl ?_
    walk_at "w"
    refine ⟨_, rfl, rfl, rfl, d, _, _, rfl, upd_same, lk2 (by decide +kernel), ?_⟩
    walk_at "w"
    refine w_addS (by show w.length + 1 ≤ sizeLine; omega) ?_
    walk_at "w"
    rw [decide_eq_true rfl]
    exact k _ (Same.new hd)
  | 5, _ =>
    walk_at "w"
    refine it_neg (by decide) ?_
    walk_at "w"
    refine it_neg (by decide) ?_
    walk_at "w"
    refine it_neg (by decide) ?_
    walk_at "w"
    refine it_neg (by decide) ?_
    walk_at "w"
    refine it_neg (by decide) ?_
    walk_at "w"
    refine it_pos (by decide) ?_
    walk_at "w"
    intro d hd
    refine wAll_no (exm_ij T (i := 5) (j := 0) rfl rfl) ?_
    refine wAll_no (exm_ij T (i := 5) (j := 1) rfl rfl) ?_
    refine wAll_no (exm_ij T (i := 5) (j := 2) rfl rfl) ?_
    refine wAll_no (exm_ij T (i := 5) (j := 3) rfl rfl) ?_
    refine wAll_no (exm_ij T (i := 5) (j := 4) rfl rfl) ?_
    refine wAll_yes (exm_ij T (i := 5) (j := 5) rfl rfl) fun ae hae => ?_
    walk_at "w"
    refine it_pos (by decide) ?_
    walk_at "w"
    refine ⟨_, rfl, rfl, rfl, d, _, _, rfl, upd_same, lk1, ?_⟩
    walk_at "w"
    rw [decide_eq_true rfl]
    exact k _ (Same.new hd)

def sp_law_places (K : PySem.W.Frag) (a : Ad) : Sp := sp3 fun x y z H Q _ => ∃ (i : Nat) (n : Int) (w : Str), x = .int (6 + i : Nat) ∧ i < 6 ∧ y = .int n ∧ z = .str w ∧ w.length ≤ 100 ∧ ∀ H', Same H H' → Q (.bl true) H'
theorem ok_law_places {P : Program} {w : World} {K : PySem.W.Frag} {mg : Str → Option Value} {base : Heap} {a : Ad} (T : Txt P K mg base a) : FnOk P w K mg base CX0 4 a.f_law_places a.d_law_places (["_law_way", "_law_number", "_law_word"] : List Str) (sp_law_places K a) := by
  refine T.F_law_places.ok sc_law_places (fun vs H Q E h => sp3_len h) (fun cdv A outer s H vs Q E hr h => ?_)
  have hu := hu_of hr
  refine ⟨_, (pss_cons (ps_tryN rfl rfl sc_law_places.nd takes0N (fun W pn xe tk po => (pss_cons (ps_if (pt_cmpR op_eq (pv 0) pe_int (nomark _)) (pss_one (ps_rsN rfl tk (pmk1N T.E_DeedRefused T.Y_DeedRefused T.x_DeedRefused_index hr (pa_cons (pv 1) pa_nil)))) pss_nil)
      (pss_cons (ps_if (pt_cmpR op_eq (pv 0) pe_int (nomark _)) (pss_one (ps_rsN rfl tk (pmk1N T.E_InvalidLine T.Y_InvalidLine T.x_InvalidLine_line hr (pa_cons (pv 1) pa_nil)))) pss_nil)
      (pss_cons (ps_if (pt_cmpR op_eq (pv 0) pe_int (nomark _)) (pss_one (ps_rsN rfl tk (pmk2N T.E_UnknownLetter T.Y_UnknownLetter T.x_UnknownLetter_letter T.x_UnknownLetter_index hr (pa_cons (pv 2) (pa_cons (pv 1) pa_nil))))) pss_nil)
      (pss_cons (ps_if (pt_cmpR op_eq (pv 0) pe_int (nomark _)) (pss_one (ps_rsN rfl tk (pmk1N T.E_InvalidState T.Y_InvalidState T.x_InvalidState_number hr (pa_cons (pv 1) pa_nil)))) pss_nil)
      (pss_cons (ps_if (pt_cmpR op_eq (pv 0) pe_int (nomark _)) (pss_one (ps_rsN rfl tk (pmk1N T.E_InvalidText T.Y_InvalidText T.x_InvalidText_index hr (pa_cons (pv 1) pa_nil)))) pss_nil)
      (pss_one (ps_if (pt_cmpR op_eq (pv 0) pe_int (nomark _)) (pss_one (ps_rsN rfl tk (pmk1N T.E_Contradiction T.Y_Contradiction T.x_Contradiction_combination hr (pa_cons (pe_lst (pa_cons (pe_mkS T.M_Ratio (okC_Ratio_init T) (hr.mono (by decide)) rfl T.g_Ratio T.B1_Ratio_init T.V1_Ratio_init (fun σ => pass0S σ) (pa_cons (pv 1) pa_nil)) pa_nil)) pa_nil)))) pss_nil))))))))
      (ClausesN.cons (i := 3) ⟨rfl, by decide, .inl T.E_DeedRefused.gC⟩ rfl rfl (fun ae oe cls de pn hzn hf => have hz := hzn.zc; (pss_one (ps_ret (pe_and (pe_cmpR op_eq (pv 0) pe_int (nomark _)) (pe_one (pe_cmpR op_eq (pe_xf (xfC_of T.E_DeedRefused) T.x_DeedRefused_index hz hf (pv 3)) (pv 1) (nomark _)))))))
      (ClausesN.cons (i := 3) ⟨rfl, by decide, .inl T.E_InvalidLine.gC⟩ rfl rfl (fun ae oe cls de pn hzn hf => have hz := hzn.zc; (pss_one (ps_ret (pe_and (pe_cmpR op_eq (pv 0) pe_int (nomark _)) (pe_one (pe_cmpR op_eq (pe_xf (xfC_of T.E_InvalidLine) T.x_InvalidLine_line hz hf (pv 3)) (pv 1) (nomark _)))))))
      (ClausesN.cons (i := 3) ⟨rfl, by decide, .inl T.E_UnknownLetter.gC⟩ rfl rfl (fun ae oe cls de pn hzn hf => have hz := hzn.zc; (pss_one (ps_ret (pe_and (pe_cmpR op_eq (pv 0) pe_int (nomark _)) (pe_and (pe_cmpR op_eq (pe_xf (xfC_of T.E_UnknownLetter) T.x_UnknownLetter_letter hz hf (pv 3)) (pv 2) (nomark _)) (pe_one (pe_cmpR op_eq (pe_xf (xfC_of T.E_UnknownLetter) T.x_UnknownLetter_index hz hf (pv 3)) (pv 1) (nomark _))))))))
      (ClausesN.cons (i := 3) ⟨rfl, by decide, .inl T.E_InvalidState.gC⟩ rfl rfl (fun ae oe cls de pn hzn hf => have hz := hzn.zc; (pss_one (ps_ret (pe_and (pe_cmpR op_eq (pv 0) pe_int (nomark _)) (pe_one (pe_cmpR op_eq (pe_xf (xfC_of T.E_InvalidState) T.x_InvalidState_number hz hf (pv 3)) (pv 1) (nomark _)))))))
      (ClausesN.cons (i := 3) ⟨rfl, by decide, .inl T.E_InvalidText.gC⟩ rfl rfl (fun ae oe cls de pn hzn hf => have hz := hzn.zc; (pss_one (ps_ret (pe_and (pe_cmpR op_eq (pv 0) pe_int (nomark _)) (pe_one (pe_cmpR op_eq (pe_xf (xfC_of T.E_InvalidText) T.x_InvalidText_index hz hf (pv 3)) (pv 1) (nomark _)))))))
      (ClausesN.cons (i := 3) ⟨rfl, by decide, .inl T.E_Contradiction.gC⟩ rfl rfl (fun ae oe cls de pn hzn hf => have hz := hzn.zc; (pss_one (ps_ret (pe_and (pe_cmpR op_eq (pv 0) pe_int (nomark _)) (pe_one (pe_cmpR (op_eqOneA T.M_Ratio_eq.at_ T.M_Ratio_eq.fn (okA_Ratio_eq T) (L2H.roomH_mark (hr.mono (by decide)) _) T.B_Ratio_eq) (pe_xf (xfC_of T.E_Contradiction) T.x_Contradiction_combination hz hf (pv 3)) (pe_lst (pa_cons (pe_mkH T.M_Ratio (okH_Ratio_init T) (hotS hzn hf) (L2H.roomH_mark (hr.mono (by decide)) _) rfl T.g_Ratio T.B1_Ratio_init T.V1_Ratio_init (pa_cons (pv 1) pa_nil)) pa_nil)) (nomark _)))))))
      ClausesN.nil)))))))
      (pss_one (ps_ret pe_bl))), ?_⟩
  try dsimp only [L2.cxOf]
  obtain ⟨x, y, z, rfl, i, n, w, rfl, hi, rfl, rfl, hw, k⟩ := h
  rw [show L2.start (["_law_way", "_law_number", "_law_word", "_law_e"] : List Str) [(.int (6 + i : Nat)), (.int n), (.str w)] = ([some ((.int (6 + i : Nat))), some ((.int n)), some ((.str w)), none] : L2.St) from rfl]
  have sz : sizeLine = 16777216 := by decide
  match i, hi with
  | 0, _ =>
    walk_at "w"
    refine it_pos (by decide) ?_
    walk_at "w"
    intro d hd
    refine wAll_yes (exm_ij T (i := 6) (j := 6) rfl rfl) fun ae hae => ?_
    walk_at "w"
    refine it_pos (by decide) ?_
    walk_at "w"
    refine ⟨_, rfl, rfl, rfl, d, _, _, rfl, upd_same, lk1, ?_⟩
    walk_at "w"
    rw [decide_eq_true rfl]
    exact k _ (Same.new hd)
  | 1, _ =>
    walk_at "w"
    refine it_neg (by decide) ?_
    walk_at "w"
    refine it_pos (by decide) ?_
    walk_at "w"
    intro d hd
    refine wAll_no (exm_ij T (i := 7) (j := 6) rfl rfl) ?_
    refine wAll_yes (exm_ij T (i := 7) (j := 7) rfl rfl) fun ae hae => ?_
    walk_at "w"
    refine it_pos (by decide) ?_
    walk_at "w"
    refine ⟨_, rfl, rfl, rfl, d, _, _, rfl, upd_same, lk1, ?_⟩
    walk_at "w"
    rw [decide_eq_true rfl]
    exact k _ (Same.new hd)
  | 2, _ =>
    walk_at "w"
    refine it_neg (by decide) ?_
    walk_at "w"
    refine it_neg (by decide) ?_
    walk_at "w"
    refine it_pos (by decide) ?_
    walk_at "w"
    intro d hd
    refine wAll_no (exm_ij T (i := 8) (j := 6) rfl rfl) ?_
    refine wAll_no (exm_ij T (i := 8) (j := 7) rfl rfl) ?_
    refine wAll_yes (exm_ij T (i := 8) (j := 8) rfl rfl) fun ae hae => ?_
    walk_at "w"
    refine it_pos (by decide) ?_
    walk_at "w"
    refine ⟨_, rfl, rfl, rfl, d, _, _, rfl, upd_same, lk1, ?_⟩
    walk_at "w"
    refine it_pos rfl ?_
    walk_at "w"
    refine ⟨_, rfl, rfl, rfl, d, _, _, rfl, upd_same, lk2 (by decide +kernel), ?_⟩
    walk_at "w"
    rw [decide_eq_true rfl]
    exact k _ (Same.new hd)
  | 3, _ =>
    walk_at "w"
    refine it_neg (by decide) ?_
    walk_at "w"
    refine it_neg (by decide) ?_
    walk_at "w"
    refine it_neg (by decide) ?_
    walk_at "w"
    refine it_pos (by decide) ?_
    walk_at "w"
    intro d hd
    refine wAll_no (exm_ij T (i := 9) (j := 6) rfl rfl) ?_
    refine wAll_no (exm_ij T (i := 9) (j := 7) rfl rfl) ?_
    refine wAll_no (exm_ij T (i := 9) (j := 8) rfl rfl) ?_
    refine wAll_yes (exm_ij T (i := 9) (j := 9) rfl rfl) fun ae hae => ?_
    walk_at "w"
    refine it_pos (by decide) ?_
    walk_at "w"
    refine ⟨_, rfl, rfl, rfl, d, _, _, rfl, upd_same, lk1, ?_⟩
    walk_at "w"
    rw [decide_eq_true rfl]
    exact k _ (Same.new hd)
  | 4, _ =>
    walk_at "w"
    refine it_neg (by decide) ?_
    walk_at "w"
    refine it_neg (by decide) ?_
    walk_at "w"
    refine it_neg (by decide) ?_
    walk_at "w"
    refine it_neg (by decide) ?_
    walk_at "w"
    refine it_pos (by decide) ?_
    walk_at "w"
    intro d hd
    refine wAll_no (exm_ij T (i := 10) (j := 6) rfl rfl) ?_
    refine wAll_no (exm_ij T (i := 10) (j := 7) rfl rfl) ?_
    refine wAll_no (exm_ij T (i := 10) (j := 8) rfl rfl) ?_
    refine wAll_no (exm_ij T (i := 10) (j := 9) rfl rfl) ?_
    refine wAll_yes (exm_ij T (i := 10) (j := 10) rfl rfl) fun ae hae => ?_
    walk_at "w"
    refine it_pos (by decide) ?_
    walk_at "w"
    refine ⟨_, rfl, rfl, rfl, d, _, _, rfl, upd_same, lk1, ?_⟩
    walk_at "w"
    rw [decide_eq_true rfl]
    exact k _ (Same.new hd)
  | 5, _ =>
    walk_at "w"
    refine it_neg (by decide) ?_
    walk_at "w"
    refine it_neg (by decide) ?_
    walk_at "w"
    refine it_neg (by decide) ?_
    walk_at "w"
    refine it_neg (by decide) ?_
    walk_at "w"
    refine it_neg (by decide) ?_
    walk_at "w"
    refine it_pos (by decide) ?_
    walk_at "w"
    intro z dz nz nd ne
    refine ⟨_, _, _, rfl, z, dz, n, 1, rfl, rfl, rfl, upd_same, by decide, by decide +kernel, rfl, ?_⟩
    have s1 : Same H _ := made_same (C := a.C_Ratio) (fs := []) (gs := rfields (lowT n 1) (lowB n 1)) nz nd
    have hz1 : upd (upd (upd H dz (.own z)) z (.ins a.C_Ratio dz [])) z (.ins a.C_Ratio dz (rfields (lowT n 1) (lowB n 1))) z = some (.ins a.C_Ratio dz (rfields (lowT n 1) (lowB n 1))) := upd_same
    generalize upd (upd (upd H dz (.own z)) z (.ins a.C_Ratio dz [])) z (.ins a.C_Ratio dz (rfields (lowT n 1) (lowB n 1))) = H1 at s1 hz1 ⊢
    walk_at "w"
    refine ⟨by show 1 ≤ sizeLine; decide, fun l nl => ?_⟩
    walk_at "w"
    intro d hd
    refine wAll_no (exm_ij T (i := 11) (j := 6) rfl rfl) ?_
    refine wAll_no (exm_ij T (i := 11) (j := 7) rfl rfl) ?_
    refine wAll_no (exm_ij T (i := 11) (j := 8) rfl rfl) ?_
    refine wAll_no (exm_ij T (i := 11) (j := 9) rfl rfl) ?_
    refine wAll_no (exm_ij T (i := 11) (j := 10) rfl rfl) ?_
    refine wAll_yes (exm_ij T (i := 11) (j := 11) rfl rfl) fun ae hae => ?_
    walk_at "w"
    refine it_pos (by decide) ?_
    walk_at "w"
    refine ⟨_, rfl, rfl, rfl, d, _, _, rfl, upd_same, lk1, ?_⟩
    walk_at "w"
    have s2 : Same H1 (upd (upd H1 l (.lst [.ref z])) d (.xd [("combination", .ref l)])) := Same.trans (Same.new nl) (Same.new hd)
    have hl2 : upd (upd H1 l (.lst [.ref z])) d (.xd [("combination", .ref l)]) l = some (.lst [.ref z]) := upd_old upd_same hd
    generalize upd (upd H1 l (.lst [.ref z])) d (.xd [("combination", .ref l)]) = H2 at s2 hl2 hae ⊢
    intro z2 dz2 nz2 nd2 ne2
    refine ⟨_, _, _, rfl, z2, dz2, n, 1, rfl, rfl, rfl, upd_same, by decide, by decide +kernel, rfl, ?_⟩
    have s3 : Same H2 _ := made_same (C := a.C_Ratio) (fs := []) (gs := rfields (lowT n 1) (lowB n 1)) nz2 nd2
    have hz3 : upd (upd (upd H2 dz2 (.own z2)) z2 (.ins a.C_Ratio dz2 [])) z2 (.ins a.C_Ratio dz2 (rfields (lowT n 1) (lowB n 1))) z2 = some (.ins a.C_Ratio dz2 (rfields (lowT n 1) (lowB n 1))) := upd_same
    generalize upd (upd (upd H2 dz2 (.own z2)) z2 (.ins a.C_Ratio dz2 [])) z2 (.ins a.C_Ratio dz2 (rfields (lowT n 1) (lowB n 1))) = H3 at s3 hz3 ⊢
    have zz : z ≠ z2 := ne_of_none (s2 _ _ hz1) nz2
    walk_at "w"
    refine ⟨by show 1 ≤ sizeLine; decide, fun l2 nl2 => ?_⟩
    have s4 : Same H (upd H3 l2 (.lst [.ref z2])) := ((s1.trans s2).trans s3).trans (Same.new nl2)
    have e1 := (Same.new (o := .lst [.ref z2]) nl2) _ _ (s3 _ _ (s2 _ _ hz1))
    have e2 := (Same.new (o := .lst [.ref z2]) nl2) _ _ hz3
    refine ⟨l, l2, z, z2, dz, dz2, _, _, rfl, rfl, (Same.new nl2) _ _ (s3 _ _ hl2), upd_same, zz, e1, e2, ?_⟩
    exact ⟨_, _, rfl, z, z2, _, _, rfl, ⟨dz, e1⟩, rfl, ⟨dz2, e2⟩, rfl, Ext.rfl', k _ s4⟩

def sp_law_names (K : PySem.W.Frag) (a : Ad) : Sp := sp2 fun x z H Q _ => ∃ (i : Nat) (w : Str), x = .int (12 + i : Nat) ∧ i < 4 ∧ z = .str w ∧ w.length ≤ 100 ∧ ∀ H', Same H H' → Q (.bl true) H'
theorem ok_law_names {P : Program} {w : World} {K : PySem.W.Frag} {mg : Str → Option Value} {base : Heap} {a : Ad} (T : Txt P K mg base a) : FnOk P w K mg base CX0 1 a.f_law_names a.d_law_names (["_law_way", "_law_word"] : List Str) (sp_law_names K a) := by
  refine T.F_law_names.ok sc_law_names (fun vs H Q E h => sp2_len h) (fun cdv A outer s H vs Q E hr h => ?_)
  have hu := hu_of hr
  refine ⟨_, (pss_cons (ps_tryA rfl rfl sc_law_names.nd takes0 (fun W pn xe tk po => (pss_cons (ps_if (pt_cmpR op_eq (pv 0) pe_int (nomark _)) (pss_one (ps_rs rfl tk (pmk1 T.E_NameTaken T.Y_NameTaken T.x_NameTaken_name hr (pa_cons (pv 1) pa_nil)))) pss_nil)
      (pss_cons (ps_if (pt_cmpR op_eq (pv 0) pe_int (nomark _)) (pss_one (ps_rs rfl tk (pmk1 T.E_UnknownName T.Y_UnknownName T.x_UnknownName_name hr (pa_cons (pv 1) pa_nil)))) pss_nil)
      (pss_cons (ps_if (pt_cmpR op_eq (pv 0) pe_int (nomark _)) (pss_one (ps_rs rfl tk (pmk1 T.E_UnknownKind T.Y_UnknownKind T.x_UnknownKind_kind hr (pa_cons (pv 1) pa_nil)))) pss_nil)
      (pss_one (ps_if (pt_cmpR op_eq (pv 0) pe_int (nomark _)) (pss_one (ps_rs rfl tk (pmk1 T.E_InvalidOptions T.Y_InvalidOptions T.x_InvalidOptions_kind hr (pa_cons (pv 1) pa_nil)))) pss_nil))))))
      (Clauses.cons (i := 2) ⟨rfl, by decide, .inl T.E_NameTaken.gC⟩ rfl rfl (fun ae oe cls de pn hz hf => (pss_one (ps_ret (pe_and (pe_cmpR op_eq (pv 0) pe_int (nomark _)) (pe_one (pe_cmpR op_eq (pe_xf (xfC_of T.E_NameTaken) T.x_NameTaken_name hz hf (pv 2)) (pv 1) (nomark _)))))))
      (Clauses.cons (i := 2) ⟨rfl, by decide, .inl T.E_UnknownName.gC⟩ rfl rfl (fun ae oe cls de pn hz hf => (pss_one (ps_ret (pe_and (pe_cmpR op_eq (pv 0) pe_int (nomark _)) (pe_one (pe_cmpR op_eq (pe_xf (xfC_of T.E_UnknownName) T.x_UnknownName_name hz hf (pv 2)) (pv 1) (nomark _)))))))
      (Clauses.cons (i := 2) ⟨rfl, by decide, .inl T.E_UnknownKind.gC⟩ rfl rfl (fun ae oe cls de pn hz hf => (pss_one (ps_ret (pe_and (pe_cmpR op_eq (pv 0) pe_int (nomark _)) (pe_one (pe_cmpR op_eq (pe_xf (xfC_of T.E_UnknownKind) T.x_UnknownKind_kind hz hf (pv 2)) (pv 1) (nomark _)))))))
      (Clauses.cons (i := 2) ⟨rfl, by decide, .inl T.E_InvalidOptions.gC⟩ rfl rfl (fun ae oe cls de pn hz hf => (pss_one (ps_ret (pe_and (pe_cmpR op_eq (pv 0) pe_int (nomark _)) (pe_one (pe_cmpR op_eq (pe_xf (xfC_of T.E_InvalidOptions) T.x_InvalidOptions_kind hz hf (pv 2)) (pv 1) (nomark _)))))))
      Clauses.nil)))))
      (pss_one (ps_ret pe_bl))), ?_⟩
  try dsimp only [L2.cxOf]
  obtain ⟨x, z, rfl, i, w, rfl, hi, rfl, hw, k⟩ := h
  rw [show L2.start (["_law_way", "_law_word", "_law_e"] : List Str) [(.int (12 + i : Nat)), (.str w)] = ([some ((.int (12 + i : Nat))), some ((.str w)), none] : L2.St) from rfl]
  have sz : sizeLine = 16777216 := by decide
  match i, hi with
  | 0, _ =>
    walk_at "w"
    refine it_pos (by decide) ?_
    walk_at "w"
    intro d hd
    refine wAll_yes (exm_ij T (i := 12) (j := 12) rfl rfl) fun ae hae => ?_
    walk_at "w"
    refine it_pos (by decide) ?_
    walk_at "w"
    refine ⟨_, rfl, rfl, rfl, d, _, _, rfl, upd_same, lk1, ?_⟩
    walk_at "w"
    rw [decide_eq_true rfl]
    exact k _ (Same.new hd)
  | 1, _ =>
    walk_at "w"
    refine it_neg (by decide) ?_
    walk_at "w"
    refine it_pos (by decide) ?_
    walk_at "w"
    intro d hd
    refine wAll_no (exm_ij T (i := 13) (j := 12) rfl rfl) ?_
    refine wAll_yes (exm_ij T (i := 13) (j := 13) rfl rfl) fun ae hae => ?_
    walk_at "w"
    refine it_pos (by decide) ?_
    walk_at "w"
    refine ⟨_, rfl, rfl, rfl, d, _, _, rfl, upd_same, lk1, ?_⟩
    walk_at "w"
    rw [decide_eq_true rfl]
    exact k _ (Same.new hd)
  | 2, _ =>
    walk_at "w"
    refine it_neg (by decide) ?_
    walk_at "w"
    refine it_neg (by decide) ?_
    walk_at "w"
    refine it_pos (by decide) ?_
    walk_at "w"
    intro d hd
    refine wAll_no (exm_ij T (i := 14) (j := 12) rfl rfl) ?_
    refine wAll_no (exm_ij T (i := 14) (j := 13) rfl rfl) ?_
    refine wAll_yes (exm_ij T (i := 14) (j := 14) rfl rfl) fun ae hae => ?_
    walk_at "w"
    refine it_pos (by decide) ?_
    walk_at "w"
    refine ⟨_, rfl, rfl, rfl, d, _, _, rfl, upd_same, lk1, ?_⟩
    walk_at "w"
    rw [decide_eq_true rfl]
    exact k _ (Same.new hd)
  | 3, _ =>
    walk_at "w"
    refine it_neg (by decide) ?_
    walk_at "w"
    refine it_neg (by decide) ?_
    walk_at "w"
    refine it_neg (by decide) ?_
    walk_at "w"
    refine it_pos (by decide) ?_
    walk_at "w"
    intro d hd
    refine wAll_no (exm_ij T (i := 15) (j := 12) rfl rfl) ?_
    refine wAll_no (exm_ij T (i := 15) (j := 13) rfl rfl) ?_
    refine wAll_no (exm_ij T (i := 15) (j := 14) rfl rfl) ?_
    refine wAll_yes (exm_ij T (i := 15) (j := 15) rfl rfl) fun ae hae => ?_
    walk_at "w"
    refine it_pos (by decide) ?_
    walk_at "w"
    refine ⟨_, rfl, rfl, rfl, d, _, _, rfl, upd_same, lk1, ?_⟩
    walk_at "w"
    rw [decide_eq_true rfl]
    exact k _ (Same.new hd)

/-! ### a font's rows, plainly -/
abbrev Rows := List (Str × Int)
def encV (r : List (Str × V)) : List (L2.Key × V) := r.map fun x => (Sum.inr x.1, x.2)
def encR (r : Rows) : List (L2.Key × V) := r.map fun x => (Sum.inr x.1, V.int x.2)
def getR {α : Type} (r : List (Str × α)) (g : Str) : Option α := (r.find? fun x => decide (x.1 = g)).map (·.2)
def putR {α : Type} (r : List (Str × α)) (g : Str) (n : α) : List (Str × α) := if (r.any fun x => decide (x.1 = g)) = true then r.map (fun x => if x.1 = g then (x.1, n) else x) else r ++ [(g, n)]
theorem encR_V (r : Rows) : encR r = encV (r.map fun x => (x.1, V.int x.2)) := by simp [encR, encV]
theorem val_encV (r : List (Str × V)) (g : Str) : valV (encV r) (Sum.inr g) = getR r g := by
  unfold valV getR encV
  rw [List.find?_map]
  simp only [Option.map_map]
  congr 1
  congr 1
  funext x
  simp
theorem val_encR (r : Rows) (g : Str) : valV (encR r) (Sum.inr g) = (getR r g).map V.int := by
  unfold valV getR encR
  rw [List.find?_map]
  simp only [Option.map_map]
  congr 1
  congr 1
  funext x
  simp
theorem put_encV (r : List (Str × V)) (g : Str) (n : V) : putK (encV r) (Sum.inr g) n = encV (putR r g n) := by
  unfold putK putR encV
  rw [List.any_map]
  have e : ((fun kv : L2.Key × V => decide (kv.1 = Sum.inr g)) ∘ fun x : Str × V => ((Sum.inr x.1 : L2.Key), x.2)) = fun x => decide (x.1 = g) := by
    funext x
    simp
  rw [e]
  split
  · simp only [List.map_map]
    congr 1
    funext x
    by_cases c : x.1 = g <;> simp [c]
  · simp
theorem putR_map {α β : Type} (f : α → β) (r : List (Str × α)) (g : Str) (n : α) : putR (r.map fun x => (x.1, f x.2)) g (f n) = (putR r g n).map fun x => (x.1, f x.2) := by
  unfold putR
  rw [List.any_map]
  have e : ((fun x : Str × β => decide (x.1 = g)) ∘ fun x : Str × α => (x.1, f x.2)) = fun x => decide (x.1 = g) := by
    funext x
    rfl
  rw [e]
  split
  · simp only [List.map_map]
    congr 1
    funext x
    by_cases c : x.1 = g <;> simp [c]
  · simp
theorem put_encR (r : Rows) (g : Str) (n : Int) : putK (encR r) (Sum.inr g) (V.int n) = encR (putR r g n) := by
  rw [encR_V, encR_V, put_encV, putR_map]
theorem getR_put_same {α : Type} (r : List (Str × α)) (g : Str) (n : α) : getR (putR r g n) g = some n := by
  unfold getR putR
  split
  · rename_i h
    rw [List.find?_map]
    have e : ((fun x : Str × α => decide (x.1 = g)) ∘ fun x => if x.1 = g then (x.1, n) else x) = fun x => decide (x.1 = g) := by
      funext x
      by_cases c : x.1 = g <;> simp [c]
    rw [e]
    obtain ⟨y, hy⟩ := Option.isSome_iff_exists.mp (List.find?_isSome.mpr (List.any_eq_true.mp h))
    rw [hy]
    have hg : y.1 = g := by simpa using List.find?_some hy
    simp [hg]
  · rename_i h
    have h0 : r.find? (fun x => decide (x.1 = g)) = none := by
      rw [List.find?_eq_none]
      intro x hx c
      exact h (List.any_eq_true.mpr ⟨x, hx, c⟩)
    rw [List.find?_append, h0]
    simp
theorem getR_put_ne {α : Type} (r : List (Str × α)) (g k : Str) (n : α) (h : k ≠ g) : getR (putR r g n) k = getR r k := by
  unfold getR putR
  split
  · rw [List.find?_map]
    have e : ((fun x : Str × α => decide (x.1 = k)) ∘ fun x => if x.1 = g then (x.1, n) else x) = fun x => decide (x.1 = k) := by
      funext x
      by_cases c : x.1 = g
      · simp [c]
      · simp [c]
    rw [e]
    cases q : r.find? (fun x => decide (x.1 = k)) with
    | none => rfl
    | some y =>
      have hk : y.1 = k := by simpa using List.find?_some q
      have : ¬ y.1 = g := fun z => h (hk.symm.trans z)
      simp [this]
  · rw [List.find?_append]
    have e : List.find? (fun x : Str × α => decide (x.1 = k)) [(g, n)] = none := by
      simp [Ne.symm h]
    rw [e]
    simp
theorem keys_put {α : Type} (r : List (Str × α)) (g : Str) (n : α) : (putR r g n).map (·.1) = if g ∈ r.map (·.1) then r.map (·.1) else r.map (·.1) ++ [g] := by
  unfold putR
  by_cases c : g ∈ r.map (·.1)
  · have h : (r.any fun x => decide (x.1 = g)) = true := by
      obtain ⟨x, hx, e⟩ := List.mem_map.mp c
      exact List.any_eq_true.mpr ⟨x, hx, by simp [e]⟩
    rw [if_pos h, if_pos c, List.map_map]
    congr 1
    funext x
    by_cases c : x.1 = g <;> simp [c]
  · have h : ¬ (r.any fun x => decide (x.1 = g)) = true := fun z => c (by
      obtain ⟨x, hx, e⟩ := List.any_eq_true.mp z
      exact List.mem_map.mpr ⟨x, hx, by simpa using e⟩)
    rw [if_neg h, if_neg c]
    simp
theorem getR_mem {α : Type} {r : List (Str × α)} {g : Str} : (getR r g).isSome = true ↔ g ∈ r.map (·.1) := by
  unfold getR
  rw [Option.isSome_map, List.find?_isSome]
  constructor
  · rintro ⟨x, hx, e⟩
    exact List.mem_map.mpr ⟨x, hx, by simpa using e⟩
  · intro h
    obtain ⟨x, hx, e⟩ := List.mem_map.mp h
    exact ⟨x, hx, by simp [e]⟩
theorem keys_encV (r : List (Str × V)) : (encV r).map (·.1) = (r.map (·.1)).map (Sum.inr : Str → L2.Key) := by simp [encV]
theorem keys_encR (r : Rows) : (encR r).map (·.1) = (r.map (·.1)).map (Sum.inr : Str → L2.Key) := by simp [encR]
/-- a glyph's name -/
def isName (z : Str) : Bool := decide (1 ≤ z.length ∧ z.length ≤ 6) && z.cps.toList.all fun c => decide (97 ≤ c ∧ c ≤ 122)
def ligs (r : Rows) : List Str := (r.map (·.1)).filter fun z => decide (1 < z.length)
/-- why an advance is refused -/
inductive FErr where
  | ig (g : Str) | inn (v : V) | ug (g : Str) | tm
def one (c : Nat) : Str := ⟨#[c]⟩
def missing (r : Rows) (z : Str) : Option Nat := z.cps.toList.find? fun c => (getR r (one c)).isNone
def paRes (r : Rows) (z : Str) (y : V) : Except FErr Rows :=
  if isName z = true then match y with
    | .int n => if 0 ≤ n ∧ n ≤ 1000000 then (if 1 < z.length then match missing r z with
        | some c => .error (.ug (one c))
        | none => if (getR r z).isNone = true ∧ 40 ≤ (ligs r).length then .error .tm else .ok (putR r z n) else .ok (putR r z n)) else .error (.inn y)
    | v => .error (.inn v)
  else .error (.ig z)

theorem units64 {k : Nat} {A : Around} (hr : Room k A) : A.units + 64 < cLine := by
  have := hr.un
  omega
local macro_rules | `(tactic| walk_at "s2") => `(tactic| first
  | with_reducible refine w_chain ?_
  | with_reducible refine w_leS ?_
  | with_reducible refine w_for ?_
  | with_reducible refine w_lc ?_
  | with_reducible refine w_iL ?_
  | with_reducible refine w_iK ?_
  | with_reducible refine w_iS ?_
  | with_reducible refine w_iT ?_
  | with_reducible refine w_iR1 ?_
  | with_reducible refine w_dnew ?_
  | with_reducible refine w_dget ?_
  | with_reducible refine w_din ?_
  | with_reducible refine w_dnin ?_
  | with_reducible refine w_dput ?_
  | with_reducible refine w_prop ?_
  | with_reducible refine w_meth ?_
  | with_reducible refine w_mtS ?_
  | with_reducible refine w_cval ?_
  | with_reducible refine w_mkKS ?_
  | with_reducible refine w_bm ?_
  | with_reducible refine w_bm0 ?_)
local macro_rules | `(tactic| walk_at "w") => `(tactic| repeat (first | walk_at "s" | walk_at "s2"))

def isIntV : V → Bool
  | .int _ => true
  | _ => false
abbrev qfo : Str := ("font_order" : Str) ++ ".<locals>." ++ "<lambda>"
/-- font_order's table of code objects stands -/
abbrev Tab (a : Ad) (H : Hp) : Prop := LamX.TabS H a.P_font_order qfo
theorem Tab.same {a : Ad} {H H' : Hp} (t : Tab a H) (s : Same H H') : Tab a H' := LamX.TabS.ext t s
theorem Tab.new {a : Ad} {H : Hp} {p : Addr} {o : HO} (t : Tab a H) (n : H p = none) : Tab a (upd H p o) := Tab.same t (Same.new n)
/-- not a table, not a code object -/
def Pl : HO → Prop
  | .tbl _ => False
  | .ext _ => False
  | _ => True
theorem Tab.upd {a : Ad} {H : Hp} {p : Addr} {u o : HO} (t : Tab a H) (h : H p = some u) (pl : Pl u) : Tab a (L2.upd H p o) := by
  obtain ⟨ps, h1, h2, h3⟩ := t
  refine ⟨ps, ?_, h2, fun pos cv hc => ?_⟩
  · rw [upd_ne (fun z => by rw [← z, h1] at h; cases h; exact pl)]
    exact h1
  · obtain ⟨c, e1, e2⟩ := h3 pos cv hc
    refine ⟨c, e1, ?_⟩
    rw [upd_ne (fun z => by rw [← z, e2] at h; unfold LamX.CodeO at h; cases h; exact pl)]
    exact e2
/-- all but what stands at bs and the tables stays -/
def Fr (bs : List Addr) (H H' : Hp) : Prop := ∀ b o, H b = some o → NT o → b ∉ bs → H' b = some o
theorem Fr.of {bs : List Addr} {H H' : Hp} (e : Ex H H') : Fr bs H H' := fun b o h n _ => e b o h n
theorem Fr.refl {bs : List Addr} {H : Hp} : Fr bs H H := fun _ _ h _ _ => h
theorem Fr.trans {bs : List Addr} {H H1 H2 : Hp} (x : Fr bs H H1) (y : Fr bs H1 H2) : Fr bs H H2 := fun b o h n k => y b o (x b o h n k) n k
theorem Fr.upd {bs : List Addr} {H H1 : Hp} {p : Addr} {o : HO} (x : Fr bs H H1) (h : p ∈ bs) : Fr bs H (L2.upd H1 p o) := fun b u e n k => by
  rw [upd_ne (fun z => k (by rw [z]; exact h))]
  exact x b u e n k
theorem Fr.new {bs : List Addr} {H H1 : Hp} {p : Addr} {o : HO} (x : Fr bs H H1) (h : H1 p = none) : Fr bs H (L2.upd H1 p o) := fun b u e n k => upd_old (x b u e n k) h
theorem Fr.mono {bs cs : List Addr} {H H' : Hp} (x : Fr bs H H') (h : ∀ b ∈ bs, b ∈ cs) : Fr cs H H' := fun b o e n k => x b o e n fun z => k (h b z)
def ffields (ro pr pa : Addr) (s : Int) : List (Str × V) := [("rows", .ref ro), ("pairs", .ref pr), ("space", .int s), ("past", .ref pa)]
theorem fk1 : (("pairs" : Str) == "rows") = false := by decide +kernel
theorem fk2 : (("space" : Str) == "rows") = false := by decide +kernel
theorem fk3 : (("space" : Str) == "pairs") = false := by decide +kernel
theorem fk4 : (("past" : Str) == "rows") = false := by decide +kernel
theorem fk5 : (("past" : Str) == "pairs") = false := by decide +kernel
theorem fk6 : (("past" : Str) == "space") = false := by decide +kernel
section
variable {ro pr pa : Addr} {s : Int}
theorem ff_rows : (ffields ro pr pa s).lookup ("rows" : Str) = some (.ref ro) := by simp [ffields, List.lookup]
theorem ff_pairs : (ffields ro pr pa s).lookup ("pairs" : Str) = some (.ref pr) := by simp [ffields, List.lookup, fk1]
theorem ff_space : (ffields ro pr pa s).lookup ("space" : Str) = some (.int s) := by simp [ffields, List.lookup, fk2, fk3]
theorem ff_past : (ffields ro pr pa s).lookup ("past" : Str) = some (.ref pa) := by simp [ffields, List.lookup, fk4, fk5, fk6]
theorem ff_no {f : Str} (h : (["rows", "pairs", "space", "past"] : List Str).all (fun x => !(f == x)) = true) : (ffields ro pr pa s).lookup f = none := by
  simp only [List.all_cons, List.all_nil, Bool.and_true, Bool.and_eq_true, Bool.not_eq_true'] at h
  simp [ffields, List.lookup, h.1, h.2.1, h.2.2.1, h.2.2.2]
theorem ff_put (n : Int) : putF "space" (.int n) (ffields ro pr pa s) = ffields ro pr pa n := by
  have h1 : ¬ (("rows" : Str) = "space") := by decide +kernel
  have h2 : ¬ (("pairs" : Str) = "space") := by decide +kernel
  simp [ffields, putF, h1, h2]
end
/-- a font without kerns stands at p -/
structure FontAt (a : Ad) (H : Hp) (p dx ro pr pa : Addr) (r : Rows) (s : Int) : Prop where
  ins : H p = some (.ins a.C_Font dx (ffields ro pr pa s))
  row : H ro = some (.dK (encR r))
  pai : H pr = some (.dK [])
  ne : ro ≠ pr
theorem FontAt.fr {a : Ad} {H H' : Hp} {p dx ro pr pa : Addr} {r : Rows} {s : Int} {bs : List Addr} (F : FontAt a H p dx ro pr pa r s) (x : Fr bs H H') (h1 : p ∉ bs) (h2 : ro ∉ bs) (h3 : pr ∉ bs) : FontAt a H' p dx ro pr pa r s :=
  ⟨x _ _ F.ins trivial h1, x _ _ F.row trivial h2, x _ _ F.pai trivial h3, F.ne⟩
theorem FontAt.ex {a : Ad} {H H' : Hp} {p dx ro pr pa : Addr} {r : Rows} {s : Int} (F : FontAt a H p dx ro pr pa r s) (x : Ex H H') : FontAt a H' p dx ro pr pa r s := F.fr (bs := []) (Fr.of x) (by simp) (by simp) (by simp)
/-- its rows are put anew -/
theorem FontAt.put {a : Ad} {H : Hp} {p dx ro pr pa : Addr} {r : Rows} {s : Int} (F : FontAt a H p dx ro pr pa r s) (r' : Rows) : FontAt a (upd H ro (.dK (encR r'))) p dx ro pr pa r' s :=
  ⟨by rw [upd_ne (ne_of F.ins F.row (by intro z; cases z))]; exact F.ins, upd_same, by rw [upd_ne (Ne.symm F.ne)]; exact F.pai, F.ne⟩
/-- an error is raised behind H -/
abbrev raiseG (a : Ad) (H : Hp) (E : XK) (C : Addr) (fs : List (Str × V)) : Prop := ∀ H' d, Ex H H' → Tab a H' → H' d = none → E (.ref C) (some d) (upd H' d (.xd fs))
def raiseF (a : Ad) (H : Hp) (E : XK) : FErr → Prop
  | .ig g => raiseG a H E a.C_InvalidGlyph [("glyph", .str g)]
  | .inn v => raiseG a H E a.C_InvalidNumber [("value", v)]
  | .ug g => raiseG a H E a.C_UnknownGlyph [("glyph", .str g)]
  | .tm => raiseG a H E a.C_TooMany [("limit", .int 40)]
theorem raiseF.ex {a : Ad} {H H1 : Hp} {E : XK} {e : FErr} (h : raiseF a H E e) (x : Ex H H1) : raiseF a H1 E e := by
  cases e <;> exact fun H' d y => h H' d (x.trans y)
theorem kitSS {K : PySem.W.Frag} : PySem.W.kitOne K (.type "str") (.type "str") = some true := kit_ty (by decide +kernel)
theorem ltOne (c d : Nat) : decide (([c] : List Nat) < [d]) = decide (c < d) := decide_eq_decide.mpr (by rw [List.cons_lt_cons_iff]; simp)
theorem aCps : (Str.ofString "a").cps.toList = [97] := by decide +kernel
theorem zCps : (Str.ofString "z").cps.toList = [122] := by decide +kernel
section
variable {P : Program} {K : PySem.W.Frag} {mg : Str → Option Value} {base : Heap} {a : Ad} {H : Hp} {p dx ro pr pa : Addr} {r : Rows} {s : Int} {R : V → Prop}
theorem FontAt.rowsF (F : FontAt a H p dx ro pr pa r s) (T : Txt P K mg base a) (k : R (.ref ro)) : ∃ a' C dx fs v, V.ref p = .ref a' ∧ H a' = some (.ins C dx fs) ∧ Cls K C ∧ NoAttr K C "rows" ∧ fs.lookup ("rows" : Str) = some v ∧ R v := ⟨p, _, dx, _, _, rfl, F.ins, T.c_Font, T.na_Font_rows, ff_rows, k⟩
theorem FontAt.pairsF (F : FontAt a H p dx ro pr pa r s) (T : Txt P K mg base a) (k : R (.ref pr)) : ∃ a' C dx fs v, V.ref p = .ref a' ∧ H a' = some (.ins C dx fs) ∧ Cls K C ∧ NoAttr K C "pairs" ∧ fs.lookup ("pairs" : Str) = some v ∧ R v := ⟨p, _, dx, _, _, rfl, F.ins, T.c_Font, T.na_Font_pairs, ff_pairs, k⟩
theorem FontAt.spaceF (F : FontAt a H p dx ro pr pa r s) (T : Txt P K mg base a) (k : R (.int s)) : ∃ a' C dx fs v, V.ref p = .ref a' ∧ H a' = some (.ins C dx fs) ∧ Cls K C ∧ NoAttr K C "space" ∧ fs.lookup ("space" : Str) = some v ∧ R v := ⟨p, _, dx, _, _, rfl, F.ins, T.c_Font, T.na_Font_space, ff_space, k⟩
theorem FontAt.pastF (F : FontAt a H p dx ro pr pa r s) (T : Txt P K mg base a) (k : R (.ref pa)) : ∃ a' C dx fs v, V.ref p = .ref a' ∧ H a' = some (.ins C dx fs) ∧ Cls K C ∧ NoAttr K C "past" ∧ fs.lookup ("past" : Str) = some v ∧ R v := ⟨p, _, dx, _, _, rfl, F.ins, T.c_Font, T.na_Font_past, ff_past, k⟩
theorem FontAt.get (F : FontAt a H p dx ro pr pa r s) (g : Str) : DGet H ro (.str g) ((getR r g).map V.int) := by
  have h := DGet.k (k := (Sum.inr g : L2.Key)) F.row
  rw [val_encR] at h
  exact h
end

def sp_is_between (K : PySem.W.Frag) (a : Ad) : Sp := sp3 fun x lo hi H Q _ => ∃ (l h : Int) (b : Bool), lo = .int l ∧ hi = .int h ∧ IsI K H x b ∧ (b = false → Q (.bl false) H) ∧ (b = true → ∃ n : Int, x = .int n ∧ Q (.bl (decide (l ≤ n ∧ n ≤ h))) H)
theorem ok_is_between {P : Program} {w : World} {K : PySem.W.Frag} {mg : Str → Option Value} {base : Heap} {a : Ad} (T : Txt P K mg base a) : FnOk P w K mg base CX0 2 a.f_is_between a.d_is_between (["value", "low", "high"] : List Str) (sp_is_between K a) := by
  refine T.F_is_between.ok sc_is_between (fun vs H Q E h => sp3_len h) (fun cdv A outer s H vs Q E hr h => ?_)
  have hu := hu_of hr
  refine ⟨_, (pss_cons (ps_if (pt_not (pt_val (pe_call (ok_is_integer T) (hr.mono (by decide)) rfl T.g_is_integer T.k_is_integer T.B_is_integer .nil pass0 (pa_cons (pv 0) pa_nil)))) (pss_one (ps_ret pe_bl)) pss_nil)
      (pss_one (ps_ret (pe_chain op_le op_le (pv 1) (pv 0) (pv 2))))), ?_⟩
  try dsimp only [L2.cxOf]
  obtain ⟨x, lo, hi, rfl, l, h, b, rfl, rfl, hx, k0, k1⟩ := h
  rw [show L2.start (["value", "low", "high"] : List Str) [x, (.int l), (.int h)] = ([some (x), some ((.int l)), some ((.int h))] : L2.St) from rfl]
  walk_at "w"
  refine ⟨x, rfl, b, hx, ?_⟩
  cases b with
  | false =>
    walk_at "w"
    exact k0 rfl
  | true =>
    obtain ⟨n, rfl, k⟩ := k1 rfl
    walk_at "w"
    refine it_dec (fun c => ?_) (fun c => ?_)
    · walk_at "w"
      rw [show decide (l ≤ n ∧ n ≤ h) = decide (n ≤ h) from decide_eq_decide.mpr ⟨fun z => z.2, fun z => ⟨c, z⟩⟩] at k
      exact k
    · rw [decide_eq_false (fun z => c z.1)] at k
      exact k

def sp_check_between (K : PySem.W.Frag) (a : Ad) : Sp := sp3 fun x lo hi H Q E => ∃ (l h : Int) (b : Bool), lo = .int l ∧ hi = .int h ∧ IsI K H x b ∧ (b = false → raiseIN a x H E) ∧ (b = true → ∃ n : Int, x = .int n ∧ (l ≤ n ∧ n ≤ h → Q .non H) ∧ (¬ (l ≤ n ∧ n ≤ h) → raiseIN a x H E))
theorem ok_check_between {P : Program} {w : World} {K : PySem.W.Frag} {mg : Str → Option Value} {base : Heap} {a : Ad} (T : Txt P K mg base a) : FnOk P w K mg base (L2.CX P w) 3 a.f_check_between a.d_check_between (["value", "low", "high"] : List Str) (sp_check_between K a) := by
  refine T.F_check_between.okX sc_check_between (fun vs H Q E h => sp3_len h) (fun cdv A outer s H vs Q E hr h => ?_)
  have hu := hu_of hr
  refine ⟨_, (pss_one (ps_if (pt_not (pt_val (pe_call (ok_is_between T) (hr.mono (by decide)) rfl T.g_is_between T.k_is_between T.B_is_between .nil pass0 (pa_cons (pv 0) (pa_cons (pv 1) (pa_cons (pv 2) pa_nil)))))) (pss_one (ps_rs rfl (takes_of rfl rfl rfl rfl) (pmk1 T.E_InvalidNumber T.Y_InvalidNumber T.x_InvalidNumber_value hr (pa_cons (pv 0) pa_nil)))) pss_nil)), ?_⟩
  try dsimp only [L2.cxOf]
  obtain ⟨x, lo, hi, rfl, l, h, b, rfl, rfl, hx, k0, k1⟩ := h
  rw [show L2.start (["value", "low", "high"] : List Str) [x, (.int l), (.int h)] = ([some (x), some ((.int l)), some ((.int h))] : L2.St) from rfl]
  walk_at "w"
  refine ⟨x, _, _, rfl, l, h, b, rfl, rfl, hx, fun e => ?_, fun e => ?_⟩
  · walk_at "w"
    exact k0 e
  · obtain ⟨n, rfl, k2, k3⟩ := k1 e
    refine ⟨n, rfl, ?_⟩
    walk_at "w"
    refine it_ndec (fun c => ?_) (fun c => ?_)
    · walk_at "w"
      exact k2 c
    · walk_at "w"
      exact k3 c

def sp_font_order (K : PySem.W.Frag) (a : Ad) : Sp := sp1 fun x H Q _ => ∃ (p : Addr) (ss : List Str), x = .ref p ∧ (SqL K H p (ss.map V.str) ∨ ∃ kvs, H p = some (.dK kvs) ∧ kvs.map (·.1) = ss.map Sum.inr) ∧ ss.length ≤ 1000 ∧ (∀ z ∈ ss, z.length ≤ sizeLine) ∧ Tab a H ∧
  ∀ H' l, Ex H H' → Tab a H' → New H l → H' l = some (.lst ((ss.mergeSort rankLe).map V.str)) → Q (.ref l) H'
theorem ok_font_order {P : Program} {w : World} {K : PySem.W.Frag} {mg : Str → Option Value} {base : Heap} {a : Ad} (T : Txt P K mg base a) : FnOk P w K mg base CX0 3 a.f_font_order a.d_font_order (["glyphs"] : List Str) (sp_font_order K a) := by
  refine T.F_font_order.ok sc_font_order (fun vs H Q E h => sp1_len h) (fun A outer s H vs Q E hr h => ?_)
  have hu := hu_of hr
  refine ⟨_, (pss_cons (ps_or (ps_lock (ps_setLc (i := 1) (own := [("glyph", 2)]) (g := gName 2) (by rfl) sc_font_order.nd rfl rfl (sw_true rfl rfl rfl (by decide +kernel)) (pi_keys (pv 0)) (blkOk_by (own := [("glyph", 2)]) (N := ["glyphs", "others", "glyph", "names"]) (sc := defScope s_font_order) (by decide +kernel)) (fun _ _ _ _ _ => (pg_name (i := 2) sc_font_order.nd rfl (Or.inl rfl))) (fun _ _ _ _ _ => (pts_one (pt_not (pt_val (pe_callB (show CallR _ _ (rIsi K) from call_isi) (by rfl) T.n_isinstance bb_isinstance (pa_cons (pv 2) (pa_cons (pe_bltn (v := .ty "str") (by rfl) T.n_str bb_str rfl) pa_nil))))))) (fun _ _ _ _ _ => (pv 2))))
      (ps_setLc (i := 1) (own := [("glyph", 2)]) (g := gName 2) (by rfl) sc_font_order.nd rfl rfl (sw_true rfl rfl rfl (by decide +kernel)) (pi_list (pv 0)) (blkOk_by (own := [("glyph", 2)]) (N := ["glyphs", "others", "glyph", "names"]) (sc := defScope s_font_order) (by decide +kernel)) (fun _ _ _ _ _ => (pg_name (i := 2) sc_font_order.nd rfl (Or.inl rfl))) (fun _ _ _ _ _ => (pts_one (pt_not (pt_val (pe_callB (show CallR _ _ (rIsi K) from call_isi) (by rfl) T.n_isinstance bb_isinstance (pa_cons (pv 2) (pa_cons (pe_bltn (v := .ty "str") (by rfl) T.n_str bb_str rfl) pa_nil))))))) (fun _ _ _ _ _ => (pv 2))))
      (pss_cons (ps_or (ps_lock (ps_setLc (i := 3) (own := [("glyph", 2)]) (g := gName 2) (by rfl) sc_font_order.nd rfl rfl (sw_true rfl rfl rfl (by decide +kernel)) (pi_keys (pv 0)) (blkOk_by (own := [("glyph", 2)]) (N := ["glyphs", "others", "glyph", "names"]) (sc := defScope s_font_order) (by decide +kernel)) (fun _ _ _ _ _ => (pg_name (i := 2) sc_font_order.nd rfl (Or.inl rfl))) (fun _ _ _ _ _ => (pts_one (pt_val (pe_callB (show CallR _ _ (rIsi K) from call_isi) (by rfl) T.n_isinstance bb_isinstance (pa_cons (pv 2) (pa_cons (pe_bltn (v := .ty "str") (by rfl) T.n_str bb_str rfl) pa_nil)))))) (fun _ _ _ _ _ => (pv 2))))
      (ps_setLc (i := 3) (own := [("glyph", 2)]) (g := gName 2) (by rfl) sc_font_order.nd rfl rfl (sw_true rfl rfl rfl (by decide +kernel)) (pi_list (pv 0)) (blkOk_by (own := [("glyph", 2)]) (N := ["glyphs", "others", "glyph", "names"]) (sc := defScope s_font_order) (by decide +kernel)) (fun _ _ _ _ _ => (pg_name (i := 2) sc_font_order.nd rfl (Or.inl rfl))) (fun _ _ _ _ _ => (pts_one (pt_val (pe_callB (show CallR _ _ (rIsi K) from call_isi) (by rfl) T.n_isinstance bb_isinstance (pa_cons (pv 2) (pa_cons (pe_bltn (v := .ty "str") (by rfl) T.n_str bb_str rfl) pa_nil)))))) (fun _ _ _ _ _ => (pv 2))))
      (pss_one (ps_ret (pe_op op_cat (pv 1) (pe_sortLam T.TB_font_order rfl rfl ⟨rfl, rfl, rfl, by decide +kernel, by decide +kernel, rfl, rfl, by decide +kernel⟩ (by rfl) (fun _ _ _ _ _ => rfl) (pv 3) (by rfl) T.n_sorted T.n_len (hr.mono (by decide)) (units64 hr))))))), ?_⟩
  try dsimp only [L2.cxOf]
  obtain ⟨x, rfl, p, ss, rfl, hs, hn, hl, tb, k⟩ := h
  rw [show L2.start (["glyphs", "others", "glyph", "names"] : List Str) [(.ref p)] = ([some ((.ref p)), none, none, none] : L2.St) from rfl]
  have sz : sizeLine = 16777216 := by decide
  have fin : ∀ (D1 D2 : Addr) (σ0 : Option V), H D1 = none → upd H D1 (.lst []) D2 = none → tRet (tOp rCat (tVar 1) (tSortLam K a.P_font_order qfo (tVar 3))) { nx := fun x H' => Q V.non H', rt := Q } [some (V.ref p), some (V.ref D1), σ0, some (V.ref D2)] (upd (upd H D1 (.lst [])) D2 (.lst (ss.map V.str))) := by
    intro D1 D2 σ0 n1 n2
    have e2 : Ex H (upd (upd H D1 (.lst [])) D2 (.lst (ss.map V.str))) := (Ex.new n1).trans (Ex.new n2)
    walk_at "w"
    refine w_sortLam ?_
    walk_at "w"
    refine ⟨D2, ss, rfl, SqL.of upd_same, hl, Tab.new (Tab.new tb n1) n2, fun H2 x2 t2 q nq => ?_⟩
    have h1 : H2 D1 = some (.lst []) := x2 _ _ (upd_old upd_same n2) trivial
    refine w_cat (upd_old h1 nq) upd_same ?_ fun l nl => ?_
    · rw [List.length_map, List.length_mergeSort, sz]
      show 0 + ss.length ≤ _
      omega
    · rw [List.nil_append]
      have x3 : Ex H2 (upd (upd H2 q (.lst ((ss.mergeSort rankLe).map V.str))) l (.lst ((ss.mergeSort rankLe).map V.str))) := (Ex.new nq).trans (Ex.new nl)
      refine k _ l ((e2.trans x2).trans x3) (Tab.new (Tab.new t2 nq) nl) (New.back (New.of nl) ((e2.trans x2).trans (Ex.new nq))) upd_same
  have isS : ∀ (z : Str) (H' : Hp), TyX K H' (.str z) (.type "str") := fun z H' => .base (.str z)
  have kS : PySem.W.kitOne K (.type "str") (.type "str") = some true := kit_ty (by decide +kernel)
  rcases hs with hs | ⟨kvs, hd, hk⟩
  · have item : ∀ {i : Nat} {x : V}, (ss.map V.str)[i]? = some x → ∃ z, x = .str z ∧ ss[i]? = some z := fun {i x} e => by
      rw [List.getElem?_map] at e
      obtain ⟨z, h1, h2⟩ := Option.map_eq_some_iff.mp e
      exact ⟨z, h2.symm, h1⟩
    walk_at "w"
    refine w_inr ?_
    walk_at "w"
    refine ⟨p, rfl, ⟨_, hs⟩, lcsW (walk_list (xs := ss.map V.str)) (fun D i H' => H D = none ∧ H' = upd H D (.lst [])) (fun D hD => ⟨hD, rfl⟩) (fun D i H' _ ⟨hD, e⟩ => by rw [e]; exact (Ex.new hD).sqL hs) ?_ ?_⟩
    · rintro D i x H1 H' hi ⟨hD, rfl⟩ ⟨rfl, hx⟩
      obtain ⟨z, rfl, _⟩ := item hx
      walk_at "w"
      refine ⟨rfl, ?_⟩
      walk_at "w"
      refine w_isi (.ty "str") (isS z _) kS ?_
      walk_at "w"
      exact ⟨hD, rfl⟩
    · rintro D1 H' ⟨n1, rfl⟩
      have hs1 := (Ex.new (o := .lst []) n1).sqL hs
      walk_at "w"
      refine w_inr ?_
      walk_at "w"
      refine ⟨p, rfl, ⟨_, hs1⟩, lcsW (walk_list (xs := ss.map V.str)) (fun D i H' => upd H D1 (.lst []) D = none ∧ H' = upd (upd H D1 (.lst [])) D (.lst ((ss.take i).map V.str))) (fun D hD => ⟨hD, rfl⟩) (fun D i H' _ ⟨hD, e⟩ => by rw [e]; exact (Ex.new hD).sqL hs1) ?_ ?_⟩
      · rintro D i x H1 H' hi ⟨hD, rfl⟩ ⟨rfl, hx⟩
        obtain ⟨z, rfl, hz⟩ := item hx
        walk_at "w"
        refine ⟨rfl, ?_⟩
        walk_at "w"
        refine w_isi (.ty "str") (isS z _) kS ?_
        walk_at "w"
        refine ⟨_, upd_same, ?_, hD, ?_⟩
        · rw [List.length_map, List.length_take, sz]
          omega
        · rw [upd_upd, List.take_add_one, hz]
          simp
      · rintro D2 H' ⟨n2, rfl⟩
        rw [List.length_map, List.take_length]
        refine w_gname rfl ?_
        exact fin D1 D2 _ n1 n2
  · have item : ∀ {i : Nat} {x : V}, (∃ k v, kvs[i]? = some (k, v) ∧ x = kV k) → ∃ z, x = .str z ∧ ss[i]? = some z := fun {i x} ⟨k, v, e, ex⟩ => by
      have h1 : (kvs.map (·.1))[i]? = some k := by rw [List.getElem?_map, e]; rfl
      rw [hk, List.getElem?_map] at h1
      obtain ⟨z, h2, h3⟩ := Option.map_eq_some_iff.mp h1
      exact ⟨z, by rw [ex, ← h3]; rfl, h2⟩
    have hlen : kvs.length = ss.length := by
      have := congrArg List.length hk
      simpa using this
    walk_at "w"
    refine w_inl (w_lock hd trivial fun od => ?_)
    walk_at "w"
    have ed : ∀ D, upd H p (.frz od (.dK kvs)) D = none → H D = none ∧ D ≠ p := fun D e => by
      have n : D ≠ p := fun z => by rw [z, upd_same] at e; cases e
      rw [upd_ne n] at e
      exact ⟨e, n⟩
    refine ⟨p, od, rfl, .inl ⟨kvs, upd_same, lcsW walk_keys (fun D i H' => upd H p (.frz od (.dK kvs)) D = none ∧ H' = upd (upd H p (.frz od (.dK kvs))) D (.lst [])) (fun D hD => ⟨hD, rfl⟩) (fun D i H' _ ⟨hD, e⟩ => by rw [e]; exact upd_old upd_same hD) ?_ ?_⟩⟩
    · rintro D i x H1 H' hi ⟨hD, rfl⟩ ⟨rfl, hx⟩
      obtain ⟨z, rfl, _⟩ := item hx
      walk_at "w"
      refine ⟨rfl, ?_⟩
      walk_at "w"
      refine w_isi (.ty "str") (isS z _) kS ?_
      walk_at "w"
      exact ⟨hD, rfl⟩
    · rintro D1 H' ⟨m1, rfl⟩
      obtain ⟨n1, q1⟩ := ed D1 m1
      walk_at "w"
      refine ⟨upd_old upd_same m1, ?_⟩
      rw [upd_lock hd q1]
      have hd1 : upd H D1 (.lst []) p = some (.dK kvs) := upd_old hd n1
      walk_at "w"
      refine w_inl (w_lock hd1 trivial fun od2 => ?_)
      walk_at "w"
      have ed2 : ∀ D, upd (upd H D1 (.lst [])) p (.frz od2 (.dK kvs)) D = none → upd H D1 (.lst []) D = none ∧ D ≠ p := fun D e => by
        have n : D ≠ p := fun z => by rw [z, upd_same] at e; cases e
        rw [upd_ne n] at e
        exact ⟨e, n⟩
      refine ⟨p, od2, rfl, .inl ⟨kvs, upd_same, lcsW walk_keys (fun D i H' => upd (upd H D1 (.lst [])) p (.frz od2 (.dK kvs)) D = none ∧ H' = upd (upd (upd H D1 (.lst [])) p (.frz od2 (.dK kvs))) D (.lst ((ss.take i).map V.str))) (fun D hD => ⟨hD, rfl⟩) (fun D i H' _ ⟨hD, e⟩ => by rw [e]; exact upd_old upd_same hD) ?_ ?_⟩⟩
      · rintro D i x H1 H' hi ⟨hD, rfl⟩ ⟨rfl, hx⟩
        obtain ⟨z, rfl, hz⟩ := item hx
        walk_at "w"
        refine ⟨rfl, ?_⟩
        walk_at "w"
        refine w_isi (.ty "str") (isS z _) kS ?_
        walk_at "w"
        refine ⟨_, upd_same, ?_, hD, ?_⟩
        · rw [List.length_map, List.length_take, sz]
          omega
        · rw [upd_upd, List.take_add_one, hz]
          simp
      · rintro D2 H' ⟨m2, rfl⟩
        obtain ⟨n2, q2⟩ := ed2 D2 m2
        rw [hlen, List.take_length]
        walk_at "w"
        refine ⟨upd_old upd_same m2, ?_⟩
        rw [upd_lock hd1 q2]
        exact fin D1 D2 _ n1 n2

def sp_is_name (K : PySem.W.Frag) (a : Ad) : Sp := sp1 fun x H Q _ => ∃ z : Str, x = .str z ∧ z.length ≤ sizeLine ∧ Q (.bl (isName z)) H
theorem ok_is_name {P : Program} {w : World} {K : PySem.W.Frag} {mg : Str → Option Value} {base : Heap} {a : Ad} (T : Txt P K mg base a) : FnOk P w K mg base CX0 1 a.f_is_name a.d_is_name (["glyph"] : List Str) (sp_is_name K a) := by
  refine T.F_is_name.ok sc_is_name (fun vs H Q E h => sp1_len h) (fun cdv A outer s H vs Q E hr h => ?_)
  have hu := hu_of hr
  refine ⟨_, (pss_cons (ps_if (PW.pt (pw_or (pt_not (pt_val (pe_callB call_isi (by rfl) T.n_isinstance bb_isinstance (pa_cons (pv 0) (pa_cons (pe_bltn (v := .ty "str") (by rfl) T.n_str bb_str rfl) pa_nil))))) (pw_or1 (pt_not (pt_chain op_le op_le pe_int (pe_callB qc_lenX (by rfl) T.n_len bb_len (pa_cons (pv 0) pa_nil)) (ClX.pe_cval (pe_glob (v := .ref a.C_Font) rfl T.g_Font rfl))))))) (pss_one (ps_ret pe_bl)) pss_nil)
      (pss_cons (ps_for PassesOwn.never rfl (pi_str (pv 0)) (pg_name (i := 1) sc_is_name.nd rfl (Or.inl rfl)) (pss_one (ps_if (pt_not (pt_chain qo_leS qo_leS pe_str (pv 1) pe_str)) (pss_one (ps_ret pe_bl)) pss_nil)))
      (pss_one (ps_ret pe_bl)))), ?_⟩
  try dsimp only [L2.cxOf]
  obtain ⟨x, rfl, z, rfl, hz, k⟩ := h
  rw [show L2.start (["glyph", "letter"] : List Str) [(.str z)] = ([some ((.str z)), none] : L2.St) from rfl]
  walk_at "w"
  refine w_isi (.ty "str") (.base (.str z)) kitSS ?_
  obtain ⟨u6, cv6⟩ := T.cv_Font_MOST_LETTERS
  have fin : 1 ≤ z.length → z.length ≤ 6 → isName z = z.cps.toList.all fun c => decide (97 ≤ c ∧ c ≤ 122) := fun h1 h2 => by
    unfold isName
    rw [decide_eq_true ⟨h1, h2⟩, Bool.true_and]
  walk_at "w"
  refine w_lenX hz ?_
  walk_at "w"
  refine it_dec (fun c1 => ?_) (fun c1 => ?_)
  · walk_at "w"
    refine ⟨_, _, _, _, rfl, T.cr_Font, cv6, ?_⟩
    walk_at "w"
    refine it_ndec (fun c2 => ?_) (fun c2 => ?_)
    · rw [fin (by omega) (by omega)] at k
      walk_at "w"
      refine ⟨z, rfl, turnsW walk_str (fun i σ' H' => H' = H ∧ (∃ z0, σ' = [some (.str z), z0]) ∧ ((z.cps.toList.take i).all fun c => decide (97 ≤ c ∧ c ≤ 122)) = true) ⟨rfl, ⟨_, rfl⟩, by simp⟩ (fun _ _ _ _ _ => trivial) ?_ ?_⟩
      · rintro i x σ' H1 H' hi ⟨rfl, ⟨z0, rfl⟩, ok⟩ ⟨rfl, c, hc, rfl⟩
        have hc' : z.cps.toList[i]? = some c := by rw [Array.getElem?_toList]; exact hc
        walk_at "w"
        rw [aCps, ltOne]
        refine it_ndec (fun d1 => ?_) (fun d1 => ?_)
        · walk_at "w"
          rw [List.all_eq_false.mpr ⟨c, List.mem_of_getElem? hc', by simp; omega⟩] at k
          exact k
        · walk_at "w"
          rw [zCps, ltOne, Bool.not_not]
          refine it_dec (fun d2 => ?_) (fun d2 => ?_)
          · walk_at "w"
            rw [List.all_eq_false.mpr ⟨c, List.mem_of_getElem? hc', by simp; omega⟩] at k
            exact k
          · walk_at "w"
            refine ⟨rfl, ⟨_, rfl⟩, ?_⟩
            rw [List.take_add_one, hc', List.all_append, ok]
            simp
            omega
      · rintro σ' H1 ⟨rfl, ⟨z0, rfl⟩, ok⟩
        walk_at "w"
        rw [show z.cps.toList.take z.cps.size = z.cps.toList from List.take_of_length_le (by simp)] at ok
        rw [ok] at k
        exact k
    · walk_at "w"
      rw [show isName z = false from by unfold isName; rw [decide_eq_false (by omega), Bool.false_and]] at k
      exact k
  · walk_at "w"
    rw [show isName z = false from by unfold isName; rw [decide_eq_false (by omega), Bool.false_and]] at k
    exact k

def sp_Font_known (K : PySem.W.Frag) (a : Ad) : Sp := sp2 fun s x H Q _ => ∃ (p dx ro pr pa : Addr) (r : Rows) (sp : Int) (z : Str), s = .ref p ∧ x = .str z ∧ FontAt a H p dx ro pr pa r sp ∧ Q (.bl (getR r z).isSome) H
theorem ok_Font_known {P : Program} {w : World} {K : PySem.W.Frag} {mg : Str → Option Value} {base : Heap} {a : Ad} (T : Txt P K mg base a) : FnOk P w K mg base CX0 1 a.f_Font_known a.d_Font_known (["self", "glyph"] : List Str) (sp_Font_known K a) := by
  refine T.F_Font_known.ok sc_Font_known (fun vs H Q E h => sp2_len h) (fun cdv A outer s H vs Q E hr h => ?_)
  have hu := hu_of hr
  refine ⟨_, (pss_one (ps_ret (pe_and (pe_callB call_isi (by rfl) T.n_isinstance bb_isinstance (pa_cons (pv 1) (pa_cons (pe_bltn (v := .ty "str") (by rfl) T.n_str bb_str rfl) pa_nil))) (pe_one (pe_cmp (pc_din hu (pv 1) (pe_fld (pv 0) rfl)) rfl))))), ?_⟩
  try dsimp only [L2.cxOf]
  obtain ⟨s0, x, rfl, p, dx, ro, pr, pa, r, sp, z, rfl, rfl, F, k⟩ := h
  rw [show L2.start (["self", "glyph"] : List Str) [(.ref p), (.str z)] = ([some ((.ref p)), some ((.str z))] : L2.St) from rfl]
  walk_at "w"
  refine w_isi (.ty "str") (.base (.str z)) kitSS ?_
  walk_at "w"
  refine F.rowsF T ?_
  walk_at "w"
  refine ⟨ro, _, rfl, F.get z, ?_⟩
  rw [Option.isSome_map]
  exact k

def sp_Font_ligatures (K : PySem.W.Frag) (a : Ad) : Sp := sp1 fun s H Q _ => ∃ (p dx ro pr pa : Addr) (r : Rows) (sp : Int), s = .ref p ∧ FontAt a H p dx ro pr pa r sp ∧ r.length ≤ 1000 ∧ (∀ x ∈ r, x.1.length ≤ sizeLine) ∧ Tab a H ∧
  ∀ H' l, Ex H H' → Tab a H' → New H l → H' l = some (.lst (((ligs r).mergeSort rankLe).map V.str)) → Q (.ref l) H'
theorem ok_Font_ligatures {P : Program} {w : World} {K : PySem.W.Frag} {mg : Str → Option Value} {base : Heap} {a : Ad} (T : Txt P K mg base a) : FnOk P w K mg base CX0 4 a.f_Font_ligatures a.d_Font_ligatures (["self"] : List Str) (sp_Font_ligatures K a) := by
  refine T.F_Font_ligatures.ok sc_Font_ligatures (fun vs H Q E h => sp1_len h) (fun cdv A outer s H vs Q E hr h => ?_)
  have hu := hu_of hr
  refine ⟨_, (pss_one (ps_ret (pe_call (ok_font_order T) (hr.mono (by decide)) rfl T.g_font_order T.k_font_order T.B_font_order .nil pass0 (pa_cons (pe_lock (pe_lc (own := [("glyph", 1)]) (g := gName 1) (by rfl) sc_Font_ligatures.nd (pi_keys (pe_fld (pv 0) rfl)) (blkOk_by (own := [("glyph", 1)]) (N := ["self", "glyph"]) (sc := defScope s_Font_ligatures) (by decide +kernel)) (fun _ _ _ _ _ => (pg_name (i := 1) sc_Font_ligatures.nd rfl (Or.inl rfl))) (fun _ _ _ _ _ => (pts_one (pt_cmpR op_gt (pe_callB qc_lenX (by rfl) T.n_len bb_len (pa_cons (pv 1) pa_nil)) pe_int (nomark _)))) (fun _ _ _ _ _ => (pv 1)))) pa_nil)))), ?_⟩
  try dsimp only [L2.cxOf]
  obtain ⟨s0, rfl, p, dx, ro, pr, pa, r, sp, rfl, F, hn, hl, tb, k⟩ := h
  rw [show L2.start (["self", "glyph"] : List Str) [(.ref p)] = ([some ((.ref p)), none] : L2.St) from rfl]
  have sz : sizeLine = 16777216 := by decide
  walk_at "w"
  refine w_lockE F.row trivial fun od => ?_
  have ed : ∀ D, upd H ro (.frz od (.dK (encR r))) D = none → H D = none ∧ D ≠ ro := fun D e => by
    have n : D ≠ ro := fun z => by rw [z, upd_same] at e; cases e
    rw [upd_ne n] at e
    exact ⟨e, n⟩
  walk_at "w"
  refine ⟨p, _, dx, _, _, rfl, (by rw [upd_ne (ne_of F.ins F.row (by intro z; cases z))]; exact F.ins), T.c_Font, T.na_Font_rows, ff_rows, ?_⟩
  walk_at "w"
  refine ⟨ro, od, rfl, .inl ⟨encR r, upd_same, lcsW walk_keys (fun D i H' => upd H ro (.frz od (.dK (encR r))) D = none ∧ H' = upd (upd H ro (.frz od (.dK (encR r)))) D (.lst ((((r.map (·.1)).take i).filter fun z => decide (1 < z.length)).map V.str))) (fun D hD => ⟨hD, by simp⟩) (fun D i H' _ ⟨hD, e⟩ => by rw [e]; exact upd_old upd_same hD) ?_ ?_⟩⟩
  · rintro D i x H1 H' hi ⟨hD, rfl⟩ ⟨rfl, kk, v, hx, rfl⟩
    obtain ⟨y, hy, rfl⟩ : ∃ y : Str × Int, r[i]? = some y ∧ kk = Sum.inr y.1 := by
      unfold encR at hx
      rw [List.getElem?_map] at hx
      obtain ⟨y, h1, h2⟩ := Option.map_eq_some_iff.mp hx
      exact ⟨y, h1, (congrArg Prod.fst h2).symm⟩
    have hz := hl y (List.mem_of_getElem? hy)
    have ht : (r.map (·.1))[i]? = some y.1 := by rw [List.getElem?_map, hy]; rfl
    show gName 1 (.str y.1) _ _ _
    walk_at "w"
    refine ⟨rfl, ?_⟩
    walk_at "w"
    refine w_lenX hz ?_
    walk_at "w"
    refine it_dec (fun c => ?_) (fun c => ?_)
    · walk_at "w"
      refine ⟨_, upd_same, ?_, hD, ?_⟩
      · have := List.length_filter_le (fun z : Str => decide (1 < z.length)) ((r.map (·.1)).take i)
        rw [List.length_map, sz]
        rw [List.length_take] at this
        rw [List.length_map] at this
        omega
      · rw [upd_upd, List.take_add_one, ht, List.filter_append]
        have c' : 1 < y.1.length := by omega
        simp [c']
    · refine ⟨hD, ?_⟩
      rw [List.take_add_one, ht, List.filter_append]
      have c' : ¬ 1 < y.1.length := by omega
      simp [c']
  · rintro D H' ⟨m1, rfl⟩
    obtain ⟨n1, q1⟩ := ed D m1
    refine ⟨upd_old upd_same m1, ?_⟩
    rw [upd_lock F.row q1]
    rw [show (r.map (·.1)).take (encR r).length = r.map (·.1) from List.take_of_length_le (by simp [encR])]
    walk_at "w"
    refine ⟨_, rfl, D, ligs r, rfl, .inl (SqL.of upd_same), ?_, ?_, Tab.new tb n1, fun H' l x t n e => ?_⟩
    · have := List.length_filter_le (fun z : Str => decide (1 < z.length)) (r.map (·.1))
      unfold ligs
      rw [List.length_map] at this
      omega
    · intro z hz
      obtain ⟨h1, _⟩ := List.mem_filter.mp hz
      obtain ⟨y, h2, rfl⟩ := List.mem_map.mp h1
      exact hl y h2
    · exact k H' l ((Ex.new n1).trans x) t (New.back n (Ex.new n1)) e

def sp_Font_put_blank (K : PySem.W.Frag) (a : Ad) : Sp := sp2 fun s y H Q E => ∃ (p dx : Addr) (fs : List (Str × V)) (b : Bool), s = .ref p ∧ H p = some (.ins a.C_Font dx fs) ∧ fs.length < 1000 ∧ IsI K H y b ∧ (b = false → raiseIN a y H E) ∧
  (b = true → ∃ n : Int, y = .int n ∧ (0 ≤ n ∧ n ≤ 1000000 → Q .non (upd H p (.ins a.C_Font dx (putF "space" y fs)))) ∧ (¬ (0 ≤ n ∧ n ≤ 1000000) → raiseIN a y H E))
theorem ok_Font_put_blank {P : Program} {w : World} {K : PySem.W.Frag} {mg : Str → Option Value} {base : Heap} {a : Ad} (T : Txt P K mg base a) : FnOk P w K mg base (L2.CX P w) 4 a.f_Font_put_blank a.d_Font_put_blank (["self", "advance"] : List Str) (sp_Font_put_blank K a) := by
  refine T.F_Font_put_blank.okX sc_Font_put_blank (fun vs H Q E h => sp2_len h) (fun cdv A outer s H vs Q E hr h => ?_)
  have hu := hu_of hr
  refine ⟨_, (pss_cons (ps_expr (pe_callSD (ok_check_between T) (hr.mono (by decide)) rfl T.g_check_between T.k_check_between T.B_check_between .nil (fun σ => passAt (takes_of rfl rfl rfl rfl) σ) (pa_cons (pv 1) (pa_cons pe_int (pa_cons (ClX.pe_cval (pe_glob (v := .ref a.C_Font) rfl T.g_Font rfl)) pa_nil)))))
      (pss_one (ps_fld (pv 0) (pv 1) rfl))), ?_⟩
  try dsimp only [L2.cxOf]
  obtain ⟨s0, y, rfl, p, dx, fs, b, rfl, hp, hf, hy, k0, k1⟩ := h
  obtain ⟨u6, cv6⟩ := T.cv_Font_MOST_ADVANCE
  rw [show L2.start (["self", "advance"] : List Str) [(.ref p), y] = ([some ((.ref p)), some (y)] : L2.St) from rfl]
  walk_at "w"
  refine ⟨_, _, _, _, rfl, T.cr_Font, cv6, ?_⟩
  walk_at "w"
  refine ⟨y, _, _, rfl, 0, 1000000, b, rfl, rfl, hy, fun e => ?_, fun e => ?_⟩
  · exact k0 e
  · obtain ⟨n, rfl, k2, k3⟩ := k1 e
    refine ⟨n, rfl, fun c => ?_, fun c => k3 c⟩
    walk_at "w"
    exact ⟨p, _, dx, _, rfl, hp, T.c_Font, T.na_Font_space, hf, k2 c⟩

def sp_Font_put_advance (K : PySem.W.Frag) (a : Ad) : Sp := sp3 fun s x y H Q E => ∃ (p dx ro pr pa : Addr) (r : Rows) (sp : Int) (z : Str), s = .ref p ∧ x = .str z ∧ FontAt a H p dx ro pr pa r sp ∧ r.length ≤ 900 ∧ (∀ x ∈ r, x.1.length ≤ sizeLine) ∧ z.length ≤ sizeLine ∧ IsI K H y (isIntV y) ∧ Tab a H ∧
  match paRes r z y with
  | .error e => raiseF a H E e
  | .ok r' => ∀ H', Ex H H' → Tab a H' → Q .non (upd H' ro (.dK (encR r')))
theorem ok_Font_put_advance {P : Program} {w : World} {K : PySem.W.Frag} {mg : Str → Option Value} {base : Heap} {a : Ad} (T : Txt P K mg base a) : FnOk P w K mg base (L2.CX P w) 6 a.f_Font_put_advance a.d_Font_put_advance (["self", "glyph", "advance"] : List Str) (sp_Font_put_advance K a) := by
  refine T.F_Font_put_advance.okX sc_Font_put_advance (fun vs H Q E h => sp3_len h) (fun cdv A outer s H vs Q E hr h => ?_)
  have hu := hu_of hr
  refine ⟨_, (pss_cons (ps_if (pt_not (pt_val (pe_call (ok_is_name T) (hr.mono (by decide)) rfl T.g_is_name T.k_is_name T.B_is_name .nil pass0 (pa_cons (pv 1) pa_nil)))) (pss_one (ps_rs rfl (takes_of rfl rfl rfl rfl) (pmk1 T.E_InvalidGlyph T.Y_InvalidGlyph T.x_InvalidGlyph_glyph hr (pa_cons (pv 1) pa_nil)))) pss_nil)
      (pss_cons (ps_expr (pe_callSD (ok_check_between T) (hr.mono (by decide)) rfl T.g_check_between T.k_check_between T.B_check_between .nil (fun σ => passAt (takes_of rfl rfl rfl rfl) σ) (pa_cons (pv 2) (pa_cons pe_int (pa_cons (ClX.pe_cval (pe_glob (v := .ref a.C_Font) rfl T.g_Font rfl)) pa_nil)))))
      (Evl.pss_cut (ps_if (pt_cmpR op_gt (pe_callB qc_lenX (by rfl) T.n_len bb_len (pa_cons (pv 1) pa_nil)) pe_int (nomark _)) (pss_cons (ps_for PassesOwn.leaving rfl (pi_str (pv 1)) (pg_name (i := 3) sc_Font_put_advance.nd rfl (Or.inl rfl)) (pss_one (ps_if (pt_cmp (pc_dnotin hu (pv 3) (pe_fld (pv 0) rfl))) (pss_one (ps_rs rfl (takes_of rfl rfl rfl rfl) (pmk1 T.E_UnknownGlyph T.Y_UnknownGlyph T.x_UnknownGlyph_glyph hr (pa_cons (pv 3) pa_nil)))) pss_nil)))
      (pss_one (ps_if (PW.pt (pw_and (pt_cmp (pc_dnotin hu (pv 1) (pe_fld (pv 0) rfl))) (pw_and1 (pt_cmpR op_ge (pe_callB qc_len (by rfl) T.n_len bb_len (pa_cons (pe_prop (pv 0) T.c_Font T.P_Font_ligatures (ok_Font_ligatures T) (hr.mono (by decide)) T.B_Font_ligatures .nil pass0 rfl) pa_nil)) (ClX.pe_cval (pe_glob (v := .ref a.C_Font) rfl T.g_Font rfl)) (nomark _))))) (pss_one (ps_rs rfl (takes_of rfl rfl rfl rfl) (pmk1 T.E_TooMany T.Y_TooMany T.x_TooMany_limit hr (pa_cons (ClX.pe_cval (pe_glob (v := .ref a.C_Font) rfl T.g_Font rfl)) pa_nil)))) pss_nil))) pss_nil)
      (pss_cons (ps_for PassesOwn.leaving rfl (pi_list (pe_callB (cr_sortStr (units64 hr)) (by rfl) T.n_sorted bb_sorted (pa_cons (pe_callTy (call_listD rfl) (by rfl) T.n_list bb_list (pa_cons (pe_fld (pv 0) rfl) pa_nil)) pa_nil))) (pg_name (i := 4) sc_Font_put_advance.nd rfl (Or.inl rfl)) (pss_one ps_never))
      (pss_one (ps_dput hu (pe_fld (pv 0) rfl) (pv 1) (pv 2) rfl)))))), ?_⟩
  try dsimp only [L2.cxOf]
  obtain ⟨s0, x, y, rfl, p, dx, ro, pr, pa, r, sp, z, rfl, rfl, F, hn, hl, hz, hy, tb, k⟩ := h
  obtain ⟨u6, cv6⟩ := T.cv_Font_MOST_ADVANCE
  obtain ⟨u7, cv7⟩ := T.cv_Font_MOST_LIGATURES
  rw [show L2.start (["self", "glyph", "advance", "letter", "pair"] : List Str) [(.ref p), (.str z), y] = ([some ((.ref p)), some ((.str z)), some (y), none, none] : L2.St) from rfl]
  walk_at "w"
  refine ⟨_, rfl, z, rfl, hz, ?_⟩
  walk_at "w"
  cases c1 : isName z with
  | false =>
    walk_at "w"
    rw [show paRes r z y = .error (.ig z) from by unfold paRes; rw [if_neg (by rw [c1]; decide)]] at k
    exact fun d hd => k H d (Ex.refl H) tb hd
  | true =>
    walk_at "w"
    refine ⟨_, _, _, _, rfl, T.cr_Font, cv6, ?_⟩
    walk_at "w"
    refine ⟨y, _, _, rfl, 0, 1000000, isIntV y, rfl, rfl, hy, fun e => ?_, fun e => ?_⟩
    · rw [show paRes r z y = .error (.inn y) from by
        unfold paRes
        rw [if_pos c1]
        cases y <;> first | rfl | cases e] at k
      exact fun d hd => k H d (Ex.refl H) tb hd
    · obtain ⟨n, rfl⟩ : ∃ n, y = .int n := by
        cases y <;> first | exact ⟨_, rfl⟩ | cases e
      refine ⟨n, rfl, fun c2 => ?_, fun c2 => ?_⟩
      · have e0 : paRes r z (.int n) = (if 1 < z.length then match missing r z with
            | some c => .error (.ug (one c))
            | none => if (getR r z).isNone = true ∧ 40 ≤ (ligs r).length then .error .tm else .ok (putR r z n) else .ok (putR r z n)) := by
          unfold paRes
          rw [if_pos c1]
          exact if_pos c2
        refine ⟨fun σ' H' => Ex H H' ∧ Tab a H' ∧ (∃ l, σ' = [some (.ref p), some (.str z), some (.int n), l, none]) ∧ paRes r z (.int n) = .ok (putR r z n), ?_, ?_⟩
        · walk_at "w"
          refine w_lenX hz ?_
          walk_at "w"
          refine it_dec (fun c3 => ?_) (fun c3 => ?_)
          · have c3' : 1 < z.length := by omega
            rw [if_pos c3'] at e0
            walk_at "w"
            refine ⟨z, rfl, turnsW walk_str (fun i σ' H' => H' = H ∧ (∃ l, σ' = [some (.ref p), some (.str z), some (.int n), l, none]) ∧ ∀ c ∈ z.cps.toList.take i, (getR r (one c)).isSome = true) ⟨rfl, ⟨_, rfl⟩, by simp⟩ (fun _ _ _ _ _ => trivial) ?_ ?_⟩
            · rintro i x σ' H1 H' hi ⟨rfl, ⟨l0, rfl⟩, ok⟩ ⟨rfl, c, hc, rfl⟩
              have hc' : z.cps.toList[i]? = some c := by rw [Array.getElem?_toList]; exact hc
              walk_at "w"
              refine F.rowsF T ?_
              walk_at "w"
              refine ⟨ro, _, rfl, F.get _, ?_⟩
              rw [Option.isSome_map]
              walk_at "w"
              cases q : getR r (one c) with
              | none =>
                rw [show getR r { cps := #[c] } = none from q]
                refine iteT ?_
                walk_at "w"
                have hm : missing r z = some c := by
                  unfold missing
                  rw [List.find?_eq_some_iff_append]
                  refine ⟨by rw [q]; rfl, z.cps.toList.take i, z.cps.toList.drop (i + 1), ?_, fun b hb => ?_⟩
                  · obtain ⟨hi', e⟩ := List.getElem?_eq_some_iff.mp hc'
                    rw [← e, ← List.drop_eq_getElem_cons, List.take_append_drop]
                  · have := ok b hb
                    cases q' : getR r (one b) with
                    | none => rw [q'] at this; cases this
                    | some v => rfl
                rw [hm] at e0
                rw [e0] at k
                exact fun d hd => k _ d (Ex.refl _) tb hd
              | some m =>
                rw [show getR r { cps := #[c] } = some m from q]
                refine iteF ?_
                walk_at "w"
                refine ⟨rfl, ⟨_, rfl⟩, fun b hb => ?_⟩
                rw [List.take_add_one, hc'] at hb
                rcases List.mem_append.mp hb with hb | hb
                · exact ok b hb
                · have : b = c := by simpa using hb
                  rw [this, q]
                  rfl
            · rintro σ' H1 ⟨rfl, ⟨l0, rfl⟩, ok⟩
              rw [show z.cps.toList.take z.cps.size = z.cps.toList from List.take_of_length_le (by simp)] at ok
              have hm : missing r z = none := by
                unfold missing
                rw [List.find?_eq_none]
                intro b hb c
                have := ok b hb
                cases q' : getR r (one b) with
                | none => rw [q'] at this; cases this
                | some v => rw [q'] at c; cases c
              rw [hm] at e0
              dsimp only at e0
              walk_at "w"
              refine F.rowsF T ?_
              walk_at "w"
              refine ⟨ro, _, rfl, F.get _, ?_⟩
              rw [Option.isSome_map]
              walk_at "w"
              cases q : getR r z with
              | some m =>
                refine iteF ?_
                walk_at "w"
                rw [q, if_neg (fun z => by cases z.1)] at e0
                exact ⟨Ex.refl _, tb, ⟨_, rfl⟩, e0⟩
              | none =>
                refine iteT ?_
                walk_at "w"
                refine ⟨p, dx, _, rfl, F.ins, _, rfl, p, dx, ro, pr, pa, r, sp, rfl, F, by omega, hl, tb, fun H2 l x2 t2 n2 e2 => ?_⟩
                walk_at "w"
                refine ⟨_, _, _, _, rfl, T.cr_Font, cv7, ?_⟩
                rw [List.length_map, List.length_mergeSort]
                walk_at "w"
                refine it_dec (fun c4 => ?_) (fun c4 => ?_)
                · walk_at "w"
                  refine ⟨_, _, _, _, rfl, T.cr_Font, cv7, ?_⟩
                  walk_at "w"
                  rw [q, if_pos ⟨rfl, by omega⟩] at e0
                  rw [e0] at k
                  exact fun d hd => k _ d x2 t2 hd
                · walk_at "w"
                  rw [q, if_neg (by omega)] at e0
                  exact ⟨x2, t2, ⟨_, rfl⟩, e0⟩
          · rw [if_neg (by omega)] at e0
            walk_at "w"
            exact ⟨Ex.refl _, tb, ⟨_, rfl⟩, e0⟩
        · rintro σ' H1 ⟨x1, t1, ⟨l0, rfl⟩, e1⟩
          rw [e1] at k
          have F1 := F.ex x1
          walk_at "w"
          refine F1.pairsF T ?_
          walk_at "w"
          refine ⟨pr, [], rfl, .inl F1.pai, fun q nq => ?_⟩
          walk_at "w"
          refine ⟨q, [], rfl, SqL.of upd_same, fun q2 nq2 => ?_⟩
          have x2 : Ex H1 (upd (upd H1 q (.lst (List.map (fun kv : L2.Key × V => kV kv.1) []))) q2 (.lst (([] : List Str).mergeSort strLe |>.map V.str))) := (Ex.new nq).trans (Ex.new nq2)
          have t2 : Tab a (upd (upd H1 q (.lst (List.map (fun kv : L2.Key × V => kV kv.1) []))) q2 (.lst (([] : List Str).mergeSort strLe |>.map V.str))) := Tab.new (Tab.new t1 nq) nq2
          have s2 : (upd (upd H1 q (.lst (List.map (fun kv : L2.Key × V => kV kv.1) []))) q2 (.lst (([] : List Str).mergeSort strLe |>.map V.str))) q2 = some (.lst []) := by rw [upd_same, List.mergeSort_nil]; rfl
          generalize (upd (upd H1 q (.lst (List.map (fun kv : L2.Key × V => kV kv.1) []))) q2 (.lst (([] : List Str).mergeSort strLe |>.map V.str))) = H2 at x2 t2 s2 ⊢
          refine ⟨q2, rfl, ⟨_, SqL.of s2⟩, turnsW (walk_list (xs := [])) (fun i σ' H' => H' = H2 ∧ σ' = [some (.ref p), some (.str z), some (.int n), l0, none]) ⟨rfl, rfl⟩ (fun i σ' H' _ ⟨e, _⟩ => by rw [e]; exact SqL.of s2) ?_ ?_⟩
          · rintro i x σ' H3 H' hi
            exact absurd hi (by simp)
          · rintro σ' H3 ⟨rfl, rfl⟩
            have F2 := F1.ex x2
            walk_at "w"
            refine F2.rowsF T ?_
            walk_at "w"
            refine ⟨ro, _, rfl, DPut.k (k := (Sum.inr z : L2.Key)) F2.row ?_, ?_⟩
            · have sz : sizeLine = 16777216 := by decide
              rw [sz]
              simp only [encR, List.length_map]
              omega
            · rw [put_encR]
              exact k _ (x1.trans x2) t2
      · rw [show paRes r z (.int n) = .error (.inn (.int n)) from by
          unfold paRes
          rw [if_pos c1]
          exact if_neg c2] at k
        exact fun d hd => k H d (Ex.refl H) tb hd

/-- the advances of es in the order gs -/
def runPA (es : List (Str × V)) : List Str → Rows → Except FErr Rows
  | [], r => .ok r
  | g :: gs, r => match paRes r g ((getR es g).getD .non) with
    | .ok r' => runPA es gs r'
    | .error e => .error e
theorem runPA_app {es : List (Str × V)} {r r' : Rows} : ∀ {l m : List Str}, runPA es l r = .ok r' → runPA es (l ++ m) r = runPA es m r'
  | [], m, h => by
    cases h
    rfl
  | g :: l, m, h => by
    unfold runPA at h
    show (match paRes r g ((getR es g).getD .non) with
      | .ok r' => runPA es (l ++ m) r'
      | .error e => .error e) = _
    cases q : paRes r g ((getR es g).getD .non) with
    | error e => rw [q] at h; cases h
    | ok r1 =>
      rw [q] at h
      exact runPA_app (l := l) h
theorem runPA_ok {es : List (Str × V)} {r r' : Rows} {g : Str} {m : List Str} (h : paRes r g ((getR es g).getD .non) = .ok r') : runPA es (g :: m) r = runPA es m r' := by
  rw [runPA, h]
theorem runPA_er {es : List (Str × V)} {r : Rows} {g : Str} {m : List Str} {e : FErr} (h : paRes r g ((getR es g).getD .non) = .error e) : runPA es (g :: m) r = .error e := by
  rw [runPA, h]
theorem paRes_put {r r' : Rows} {z : Str} {y : V} (h : paRes r z y = .ok r') : ∃ n, y = .int n ∧ r' = putR r z n ∧ 0 ≤ n ∧ n ≤ 1000000 := by
  unfold paRes at h
  split at h
  · cases y with
    | int n =>
      dsimp only at h
      split at h
      · rename_i c
        refine ⟨n, rfl, ?_, c.1, c.2⟩
        split at h
        · split at h
          · cases h
          · split at h
            · cases h
            · cases h
              rfl
        · cases h
          rfl
      · cases h
    | _ => cases h
  · cases h
theorem putR_len {r : Rows} {z : Str} {n : Int} : (putR r z n).length ≤ r.length + 1 := by
  unfold putR
  split
  · simp
  · simp
theorem putR_names {r : Rows} {z : Str} {n : Int} {P : Str → Prop} (h : ∀ x ∈ r, P x.1) (hz : P z) : ∀ x ∈ putR r z n, P x.1 := fun x hx => by
  have m : x.1 ∈ (putR r z n).map (·.1) := List.mem_map.mpr ⟨x, hx, rfl⟩
  rw [keys_put] at m
  split at m
  · obtain ⟨y, hy, e⟩ := List.mem_map.mp m
    rw [← e]
    exact h y hy
  · rcases List.mem_append.mp m with m | m
    · obtain ⟨y, hy, e⟩ := List.mem_map.mp m
      rw [← e]
      exact h y hy
    · rw [List.mem_singleton.mp m]
      exact hz
def raiseFB (a : Ad) (bs : List Addr) (H : Hp) (E : XK) : FErr → Prop
  | .ig g => ∀ H' d, Fr bs H H' → Tab a H' → H' d = none → E (.ref a.C_InvalidGlyph) (some d) (upd H' d (.xd [("glyph", .str g)]))
  | .inn v => ∀ H' d, Fr bs H H' → Tab a H' → H' d = none → E (.ref a.C_InvalidNumber) (some d) (upd H' d (.xd [("value", v)]))
  | .ug g => ∀ H' d, Fr bs H H' → Tab a H' → H' d = none → E (.ref a.C_UnknownGlyph) (some d) (upd H' d (.xd [("glyph", .str g)]))
  | .tm => ∀ H' d, Fr bs H H' → Tab a H' → H' d = none → E (.ref a.C_TooMany) (some d) (upd H' d (.xd [("limit", .int 40)]))
theorem raiseFB.at {a : Ad} {bs : List Addr} {H H1 : Hp} {E : XK} {e : FErr} (h : raiseFB a bs H E e) (x : Fr bs H H1) : raiseF a H1 E e := by
  cases e <;> exact fun H' d y => h H' d (x.trans (Fr.of y))
theorem ff_put1 (ro : Addr) : putF "rows" (.ref ro) [] = ([("rows", .ref ro)] : List (Str × V)) := rfl
theorem ff_put2 (ro pr : Addr) : putF "pairs" (.ref pr) [("rows", .ref ro)] = ([("rows", .ref ro), ("pairs", .ref pr)] : List (Str × V)) := by
  have h1 : ¬ (("rows" : Str) = "pairs") := by decide +kernel
  simp [putF, h1]
theorem ff_put3 (ro pr : Addr) (y : V) : putF "space" y [("rows", .ref ro), ("pairs", .ref pr)] = ([("rows", .ref ro), ("pairs", .ref pr), ("space", y)] : List (Str × V)) := by
  have h1 : ¬ (("rows" : Str) = "space") := by decide +kernel
  have h2 : ¬ (("pairs" : Str) = "space") := by decide +kernel
  simp [putF, h1, h2]
theorem ff_put4 (ro pr pa : Addr) (n : Int) : putF "past" (.ref pa) [("rows", .ref ro), ("pairs", .ref pr), ("space", .int n)] = ffields ro pr pa n := by
  have h1 : ¬ (("rows" : Str) = "past") := by decide +kernel
  have h2 : ¬ (("pairs" : Str) = "past") := by decide +kernel
  have h3 : ¬ (("space" : Str) = "past") := by decide +kernel
  simp [ffields, putF, h1, h2, h3]
theorem none_of {H : Hp} {p q : Addr} {o : HO} (h : upd H p o q = none) : q ≠ p ∧ H q = none := by
  have n : q ≠ p := fun z => by rw [z, upd_same] at h; cases h
  rw [upd_ne n] at h
  exact ⟨n, h⟩

def sp_Font_init (K : PySem.W.Frag) (a : Ad) : Sp := sp4 fun s x kr bl H Q E => ∃ (p dx d : Addr) (es : List (Str × V)) (n : Int), s = .ref p ∧ x = .ref d ∧ (kr = .non ∨ ∃ q, kr = .ref q ∧ H q = some (.dK [])) ∧ bl = .int n ∧ H p = some (.ins a.C_Font dx []) ∧ H d = some (.dK (encV es)) ∧ (es.map (·.1)).Nodup ∧ es.length ≤ 500 ∧ (∀ x ∈ es, x.1.length ≤ sizeLine) ∧ (∀ x ∈ es, ∀ H', IsI K H' x.2 (isIntV x.2)) ∧ 0 ≤ n ∧ n ≤ 1000000 ∧ Tab a H ∧
  match runPA es ((es.map (·.1)).mergeSort rankLe) [] with
  | .error e => raiseFB a [p] H E e
  | .ok r => ∀ H' ro pr pa, Fr [p] H H' → Tab a H' → FontAt a H' p dx ro pr pa r n → H' pa = some (.lst []) → New H ro → New H pr → New H pa → Q .non H'
theorem ok_Font_init {P : Program} {w : World} {K : PySem.W.Frag} {mg : Str → Option Value} {base : Heap} {a : Ad} (T : Txt P K mg base a) : FnOk P w K mg base (L2.CX P w) 7 a.f_Font_init a.d_Font_init (["self", "advances", "kerns", "blank"] : List Str) (sp_Font_init K a) := by
  refine T.F_Font_init.ok sc_Font_init (fun vs H Q E h => sp4_len h) (fun cdv A outer s H vs Q E hr h => ?_)
  have hu := hu_of hr
  refine ⟨_, (pss_cons (ps_fld (pv 0) pe_dnewK rfl)
      (pss_cons (ps_fld (pv 0) pe_dnewK rfl)
      (pss_cons (ps_fld (pv 0) pe_int rfl)
      (pss_cons (ps_fld (pv 0) (pe_lst pa_nil) rfl)
      (pss_cons (ps_expr (pe_mtS (pv 0) T.c_Font T.M_Font_put_blank (ok_Font_put_blank T) (hr.mono (by decide)) T.B_Font_put_blank .nil (fun σ => passAt (takes_of rfl rfl rfl rfl) σ) (pa_cons (pv 3) pa_nil)))
      (pss_cons (ps_for PassesOwn.leaving rfl (pi_list (pe_call (ok_font_order T) (hr.mono (by decide)) rfl T.g_font_order T.k_font_order T.B_font_order .nil pass0 (pa_cons (pv 1) pa_nil))) (pg_name (i := 4) sc_Font_init.nd rfl (Or.inl rfl)) (pss_one (ps_expr (pe_mtS (pv 0) T.c_Font T.M_Font_put_advance (ok_Font_put_advance T) (hr.mono (by decide)) T.B_Font_put_advance .nil (fun σ => passAt (takes_of rfl rfl rfl rfl) σ) (pa_cons (pv 4) (pa_cons (pe_dget hu (pv 1) (pv 4) (fun _ _ => rfl)) pa_nil))))))
      (pss_one (ps_if (pt_cmpR qo_notN (pv 2) pe_non (nomark _)) (pss_one (ps_for PassesOwn.leaving rfl (pi_list (pe_callB (cr_sortStr (units64 hr)) (by rfl) T.n_sorted bb_sorted (pa_cons (pe_callTy (call_listD rfl) (by rfl) T.n_list bb_list (pa_cons (pv 2) pa_nil)) pa_nil))) (pg_name (i := 5) sc_Font_init.nd rfl (Or.inl rfl)) (pss_one ps_never))) pss_nil)))))))), ?_⟩
  try dsimp only [L2.cxOf]
  obtain ⟨s0, x, kr, bl, rfl, p, dx, d, es, n, rfl, rfl, hkr, rfl, hp, hd, nd, hlen, hnm, hI, n0, n1, tb, k⟩ := h
  rw [show L2.start (["self", "advances", "kerns", "blank", "glyph", "pair"] : List Str) [(.ref p), (.ref d), kr, (.int n)] = ([some ((.ref p)), some ((.ref d)), some (kr), some ((.int n)), none, none] : L2.St) from rfl]
  walk_at "w"
  intro ro nro
  walk_at "w"
  refine ⟨p, _, dx, _, rfl, upd_old hp nro, T.c_Font, T.na_Font_rows, by decide, ?_⟩
  walk_at "w"
  intro pr npr
  obtain ⟨d1, npr1⟩ := none_of npr
  obtain ⟨d2, npr2⟩ := none_of npr1
  walk_at "w"
  refine ⟨p, _, dx, _, rfl, upd_old upd_same npr, T.c_Font, T.na_Font_pairs, by show 1 < 1000; decide, ?_⟩
  walk_at "w"
  refine ⟨p, _, dx, _, rfl, upd_same, T.c_Font, T.na_Font_space, by rw [ff_put1, ff_put2]; show 2 < 1000; decide, ?_⟩
  rw [ff_put1, ff_put2, ff_put3]
  walk_at "w"
  refine ⟨by decide, fun pa npa => ?_⟩
  obtain ⟨d3, npa1⟩ := none_of npa
  obtain ⟨_, npa2⟩ := none_of npa1
  obtain ⟨d4, npa3⟩ := none_of npa2
  obtain ⟨_, npa4⟩ := none_of npa3
  obtain ⟨d5, npa5⟩ := none_of npa4
  walk_at "w"
  refine ⟨p, _, dx, _, rfl, upd_old upd_same npa, T.c_Font, T.na_Font_past, by show 3 < 1000; decide, ?_⟩
  rw [ff_put4]
  walk_at "w"
  refine ⟨p, dx, _, rfl, upd_same, ff_no (by decide +kernel), ?_⟩
  walk_at "w"
  refine ⟨_, _, rfl, p, dx, _, true, rfl, upd_same, by show 4 < 1000; decide, isI_int n, (fun z => by cases z), fun _ => ⟨n, rfl, fun _ => ?_, fun z => absurd ⟨n0, n1⟩ z⟩⟩
  rw [ff_put, upd_upd]
  -- the empty font
  have nep : ro ≠ p := fun z => by rw [z, hp] at nro; cases nro
  have F0 : FontAt a (upd (upd (upd (upd (upd (upd (upd H ro (.dK [])) p (.ins a.C_Font dx [("rows", .ref ro)])) pr (.dK [])) p (.ins a.C_Font dx [("rows", .ref ro), ("pairs", .ref pr)])) p (.ins a.C_Font dx [("rows", .ref ro), ("pairs", .ref pr), ("space", .int 0)])) pa (.lst [])) p (.ins a.C_Font dx (ffields ro pr pa n))) p dx ro pr pa [] n :=
    ⟨upd_same, by rw [upd_ne nep, upd_ne (Ne.symm d5), upd_ne nep, upd_ne nep, upd_ne (Ne.symm d2), upd_ne nep, upd_same]; rfl, by rw [upd_ne d1, upd_ne (Ne.symm d4), upd_ne d1, upd_ne d1, upd_same], Ne.symm d2⟩
  have A0 : (upd (upd (upd (upd (upd (upd (upd H ro (.dK [])) p (.ins a.C_Font dx [("rows", .ref ro)])) pr (.dK [])) p (.ins a.C_Font dx [("rows", .ref ro), ("pairs", .ref pr)])) p (.ins a.C_Font dx [("rows", .ref ro), ("pairs", .ref pr), ("space", .int 0)])) pa (.lst [])) p (.ins a.C_Font dx (ffields ro pr pa n))) pa = some (.lst []) := by rw [upd_ne d3, upd_same]
  have R0 : Fr [p] H (upd (upd (upd (upd (upd (upd (upd H ro (.dK [])) p (.ins a.C_Font dx [("rows", .ref ro)])) pr (.dK [])) p (.ins a.C_Font dx [("rows", .ref ro), ("pairs", .ref pr)])) p (.ins a.C_Font dx [("rows", .ref ro), ("pairs", .ref pr), ("space", .int 0)])) pa (.lst [])) p (.ins a.C_Font dx (ffields ro pr pa n))) :=
    (((((((Fr.refl.new nro).upd (by simp)).new npr).upd (by simp)).upd (by simp)).new npa).upd (by simp))
  have T0 : Tab a (upd (upd (upd (upd (upd (upd (upd H ro (.dK [])) p (.ins a.C_Font dx [("rows", .ref ro)])) pr (.dK [])) p (.ins a.C_Font dx [("rows", .ref ro), ("pairs", .ref pr)])) p (.ins a.C_Font dx [("rows", .ref ro), ("pairs", .ref pr), ("space", .int 0)])) pa (.lst [])) p (.ins a.C_Font dx (ffields ro pr pa n))) :=
    Tab.upd (Tab.new (Tab.upd (Tab.upd (Tab.new (Tab.upd (Tab.new tb nro) (upd_old hp nro) trivial) npr) (upd_old upd_same npr) trivial) upd_same trivial) npa) (upd_old upd_same npa) trivial
  generalize (upd (upd (upd (upd (upd (upd (upd H ro (.dK [])) p (.ins a.C_Font dx [("rows", .ref ro)])) pr (.dK [])) p (.ins a.C_Font dx [("rows", .ref ro), ("pairs", .ref pr)])) p (.ins a.C_Font dx [("rows", .ref ro), ("pairs", .ref pr), ("space", .int 0)])) pa (.lst [])) p (.ins a.C_Font dx (ffields ro pr pa n))) = H5 at F0 A0 R0 T0 ⊢
  clear npr npr1 npa npa1 npa2 npa3 npa4
  have hdp : d ∉ [p] := by
    simp
    exact ne_of hd hp (by intro z; cases z)
  have hd5 := R0 _ _ hd trivial hdp
  walk_at "w"
  refine ⟨_, rfl, d, es.map (·.1), rfl, .inr ⟨_, hd5, keys_encV es⟩, by rw [List.length_map]; omega, fun z hz => ?_, T0, fun H6 l x6 t6 n6 e6 => ?_⟩
  · obtain ⟨y, hy, rfl⟩ := List.mem_map.mp hz
    exact hnm y hy
  have hmem : ∀ g, g ∈ (es.map (·.1)).mergeSort rankLe → g ∈ es.map (·.1) := fun g hg => (List.mergeSort_perm _ _).mem_iff.mp hg
  generalize hord : (es.map (·.1)).mergeSort rankLe = ord at k e6 hmem
  have hol : ord.length ≤ 500 := by
    rw [← hord, List.length_mergeSort, List.length_map]
    exact hlen
  have F6 := F0.ex x6
  have ron : ro ∉ [p] := by simp; exact nep
  have lro : l ≠ ro := fun z => n6 (.dK (encR [])) (by rw [z]; exact F0.row) trivial
  have frP : ∀ H', Fr [ro] H6 H' → Fr [p] H H' := fun H' R7 b o hb nt nb => R7 _ _ (x6 _ _ (R0 b o hb nt nb) nt) nt (by simp; exact fun z => by rw [z, nro] at hb; cases hb)
  refine ⟨l, rfl, ⟨_, SqL.of e6⟩, turnsW (walk_list (xs := ord.map V.str)) (fun i σ' H' => ∃ r, runPA es (ord.take i) [] = .ok r ∧ FontAt a H' p dx ro pr pa r n ∧ Fr [ro] H6 H' ∧ Tab a H' ∧ r.length ≤ i ∧ (∀ x ∈ r, x.1.length ≤ sizeLine) ∧ ∃ g0, σ' = [some (.ref p), some (.ref d), some kr, some (.int n), g0, none]) ⟨[], rfl, F6, Fr.refl, t6, by simp, by simp, _, rfl⟩ ?_ ?_ ?_⟩
  · rintro i σ' H' _ ⟨r, _, _, R, _⟩
    exact SqL.of (R _ _ e6 trivial (by simp; exact lro))
  · rintro i x σ' H7 H' hi ⟨r, er, F7, R7, t7, lr, nr, g0, rfl⟩ ⟨rfl, hx⟩
    rw [List.getElem?_map] at hx
    obtain ⟨g, hg, rfl⟩ := Option.map_eq_some_iff.mp hx
    obtain ⟨v, hv⟩ : ∃ v, getR es g = some v := Option.isSome_iff_exists.mp (getR_mem.mpr (hmem g (List.mem_of_getElem? hg)))
    obtain ⟨⟨g', v'⟩, hm, e1, e2⟩ : ∃ y ∈ es, y.1 = g ∧ y.2 = v := by
      unfold getR at hv
      obtain ⟨y, h1, h2⟩ := Option.map_eq_some_iff.mp hv
      exact ⟨y, List.mem_of_find?_eq_some h1, by simpa using List.find?_some h1, h2⟩
    dsimp only at e1 e2
    subst e1 e2
    have hd7 : H' d = some (.dK (encV es)) := R7 _ _ (x6 _ _ hd5 trivial) trivial (by simp; exact fun z => absurd (by rw [z, nro] at hd; exact hd) (by intro z; cases z))
    have dg : DGet H' d (.str g') (some v') := by
      have h := DGet.k (k := (Sum.inr g' : L2.Key)) hd7
      rw [val_encV, hv] at h
      exact h
    have hi5 : i < 500 := by
      rw [List.length_map] at hi
      omega
    have split1 : ord = ord.take i ++ g' :: ord.drop (i + 1) := by
      obtain ⟨hi', e⟩ := List.getElem?_eq_some_iff.mp hg
      rw [← e, ← List.drop_eq_getElem_cons, List.take_append_drop]
    walk_at "w"
    refine ⟨p, dx, _, rfl, F7.ins, ff_no (by decide +kernel), ?_⟩
    walk_at "w"
    refine ⟨d, v', rfl, dg, ?_⟩
    walk_at "w"
    refine ⟨_, _, _, rfl, p, dx, ro, pr, pa, r, n, g', rfl, rfl, F7, by omega, nr, hnm _ hm, hI _ hm _, t7, ?_⟩
    cases q : paRes r g' v' with
    | error e =>
      have er2 : runPA es ord [] = .error e := by
        rw [split1, runPA_app er, runPA_er (by rw [hv]; exact q)]
      rw [er2] at k
      exact raiseFB.at k (frP _ R7)
    | ok r' =>
      obtain ⟨m, rfl, rfl, _, _⟩ := paRes_put q
      refine fun H8 x8 t8 => ?_
      walk_at "w"
      refine ⟨putR r g' m, ?_, (F7.ex x8).put _, (R7.trans (Fr.of x8)).upd (by simp), Tab.upd t8 (F7.ex x8).row trivial, ?_, putR_names (P := fun z => z.length ≤ sizeLine) nr (hnm _ hm), _, rfl⟩
      · rw [List.take_add_one, hg, runPA_app er]
        show runPA es [g'] r = _
        rw [runPA_ok (by rw [hv]; exact q)]
        rfl
      · have := putR_len (r := r) (z := g') (n := m)
        omega
  · rintro σ' H7 ⟨r, er, F7, R7, t7, lr, nr, g0, rfl⟩
    rw [List.length_map, List.take_length] at er
    rw [er] at k
    have hpa := R7 _ _ (x6 _ _ A0 trivial) trivial (by simp; exact d5)
    rcases hkr with rfl | ⟨q, rfl, hq⟩
    · walk_at "w"
      refine it_npos rfl ?_
      walk_at "w"
      exact k H7 ro pr pa (frP _ R7) t7 F7 hpa (New.of nro) (New.of npr2) (New.of npa5)
    · have hq7 : H7 q = some (.dK []) := frP _ R7 _ _ hq trivial (by simp; exact ne_of hq hp (by intro z; cases z))
      walk_at "w"
      refine it_nneg (fun z => nomatch z) ?_
      walk_at "w"
      refine ⟨q, [], rfl, .inl hq7, fun l1 nl1 => ?_⟩
      walk_at "w"
      refine ⟨l1, [], rfl, SqL.of upd_same, fun l2 nl2 => ?_⟩
      have x8 : Ex H7 (upd (upd H7 l1 (.lst (List.map (fun kv : L2.Key × V => kV kv.1) []))) l2 (.lst (([] : List Str).mergeSort strLe |>.map V.str))) := (Ex.new nl1).trans (Ex.new nl2)
      have t8 : Tab a (upd (upd H7 l1 (.lst (List.map (fun kv : L2.Key × V => kV kv.1) []))) l2 (.lst (([] : List Str).mergeSort strLe |>.map V.str))) := Tab.new (Tab.new t7 nl1) nl2
      have s8 : (upd (upd H7 l1 (.lst (List.map (fun kv : L2.Key × V => kV kv.1) []))) l2 (.lst (([] : List Str).mergeSort strLe |>.map V.str))) l2 = some (.lst []) := by rw [upd_same, List.mergeSort_nil]; rfl
      generalize (upd (upd H7 l1 (.lst (List.map (fun kv : L2.Key × V => kV kv.1) []))) l2 (.lst (([] : List Str).mergeSort strLe |>.map V.str))) = H8 at x8 t8 s8 ⊢
      refine ⟨l2, rfl, ⟨_, SqL.of s8⟩, turnsW (walk_list (xs := [])) (fun i σ' H' => H' = H8) rfl (fun i σ' H' _ e => by rw [e]; exact SqL.of s8) ?_ ?_⟩
      · rintro i x σ' H3 H' hi
        exact absurd hi (by simp)
      · rintro σ' H9 rfl
        exact k _ ro pr pa ((frP _ R7).trans (Fr.of x8)) t8 (F7.ex x8) (x8 _ _ hpa trivial) (New.of nro) (New.of npr2) (New.of npa5)

/-- while, the state's word with a measure -/
theorem w_while {c : TT} {tb : TS} {D : Ends} {σ : L2.St} {H : Hp} (Pv : Nat → L2.St → Hp → Prop) (h0 : ∃ m, Pv m σ H)
    (hs : ∀ m σ H, Pv m σ H → c σ H fun b H1 => if b = true then ∃ N : L2.St → Hp → Prop, (∀ σ' H', N σ' H' → ∃ m', m' < m ∧ Pv m' σ' H') ∧ tb { D with nx := N, ct := N, bk := D.nx } σ H1 else D.nx σ H1) : tWhile c tb D σ H := ⟨Pv, h0, hs⟩
/-- the body of a turn, by what holds behind it -/
theorem w_turn {tb : TS} {D : Ends} {σ : L2.St} {H : Hp} {Pv : Nat → L2.St → Hp → Prop} {m : Nat} (k : tb { D with nx := fun σ' H' => ∃ m', m' < m ∧ Pv m' σ' H', ct := fun σ' H' => ∃ m', m' < m ∧ Pv m' σ' H', bk := D.nx } σ H) :
    ∃ N : L2.St → Hp → Prop, (∀ σ' H', N σ' H' → ∃ m', m' < m ∧ Pv m' σ' H') ∧ tb { D with nx := N, ct := N, bk := D.nx } σ H := ⟨_, fun _ _ z => z, k⟩
def lets (r : Rows) : List Str := (r.map (·.1)).filter fun z => decide (z.length = 1)

def sp_Font_contains (K : PySem.W.Frag) (a : Ad) : Sp := sp2 fun s x H Q _ => ∃ (p dx ro pr pa : Addr) (r : Rows) (sp : Int) (z : Str), s = .ref p ∧ x = .str z ∧ FontAt a H p dx ro pr pa r sp ∧ Q (.bl (getR r z).isSome) H
theorem ok_Font_contains {P : Program} {w : World} {K : PySem.W.Frag} {mg : Str → Option Value} {base : Heap} {a : Ad} (T : Txt P K mg base a) : FnOk P w K mg base CX0 2 a.f_Font_contains a.d_Font_contains (["self", "glyph"] : List Str) (sp_Font_contains K a) := by
  refine T.F_Font_contains.ok sc_Font_contains (fun vs H Q E h => sp2_len h) (fun cdv A outer s H vs Q E hr h => ?_)
  have hu := hu_of hr
  refine ⟨_, (pss_one (ps_ret (pe_meth (pv 0) T.c_Font T.M_Font_known (ok_Font_known T) (hr.mono (by decide)) T.B_Font_known .nil pass0 (pa_cons (pv 1) pa_nil)))), ?_⟩
  try dsimp only [L2.cxOf]
  obtain ⟨s0, x, rfl, p, dx, ro, pr, pa, r, sp, z, rfl, rfl, F, k⟩ := h
  rw [show L2.start (["self", "glyph"] : List Str) [(.ref p), (.str z)] = ([some ((.ref p)), some ((.str z))] : L2.St) from rfl]
  walk_at "w"
  refine ⟨p, dx, _, rfl, F.ins, ff_no (by decide +kernel), ?_⟩
  walk_at "w"
  exact ⟨_, _, rfl, p, dx, ro, pr, pa, r, sp, z, rfl, rfl, F, k⟩

def sp_Font_letters (K : PySem.W.Frag) (a : Ad) : Sp := sp1 fun s H Q _ => ∃ (p dx ro pr pa : Addr) (r : Rows) (sp : Int), s = .ref p ∧ FontAt a H p dx ro pr pa r sp ∧ r.length ≤ 1000 ∧ (∀ x ∈ r, x.1.length ≤ sizeLine) ∧ Tab a H ∧
  ∀ H' l, Ex H H' → Tab a H' → New H l → H' l = some (.lst (((lets r).mergeSort rankLe).map V.str)) → Q (.ref l) H'
theorem ok_Font_letters {P : Program} {w : World} {K : PySem.W.Frag} {mg : Str → Option Value} {base : Heap} {a : Ad} (T : Txt P K mg base a) : FnOk P w K mg base CX0 4 a.f_Font_letters a.d_Font_letters (["self"] : List Str) (sp_Font_letters K a) := by
  refine T.F_Font_letters.ok sc_Font_letters (fun vs H Q E h => sp1_len h) (fun cdv A outer s H vs Q E hr h => ?_)
  have hu := hu_of hr
  refine ⟨_, (pss_one (ps_ret (pe_call (ok_font_order T) (hr.mono (by decide)) rfl T.g_font_order T.k_font_order T.B_font_order .nil pass0 (pa_cons (pe_lock (pe_lc (own := [("glyph", 1)]) (g := gName 1) (by rfl) sc_Font_letters.nd (pi_keys (pe_fld (pv 0) rfl)) (blkOk_by (own := [("glyph", 1)]) (N := ["self", "glyph"]) (sc := defScope s_Font_letters) (by decide +kernel)) (fun _ _ _ _ _ => (pg_name (i := 1) sc_Font_letters.nd rfl (Or.inl rfl))) (fun _ _ _ _ _ => (pts_one (pt_cmpR op_eq (pe_callB qc_lenX (by rfl) T.n_len bb_len (pa_cons (pv 1) pa_nil)) pe_int (nomark _)))) (fun _ _ _ _ _ => (pv 1)))) pa_nil)))), ?_⟩
  try dsimp only [L2.cxOf]
  obtain ⟨s0, rfl, p, dx, ro, pr, pa, r, sp, rfl, F, hn, hl, tb, k⟩ := h
  rw [show L2.start (["self", "glyph"] : List Str) [(.ref p)] = ([some ((.ref p)), none] : L2.St) from rfl]
  have sz : sizeLine = 16777216 := by decide
  walk_at "w"
  refine w_lockE F.row trivial fun od => ?_
  have ed : ∀ D, upd H ro (.frz od (.dK (encR r))) D = none → H D = none ∧ D ≠ ro := fun D e => by
    have n : D ≠ ro := fun z => by rw [z, upd_same] at e; cases e
    rw [upd_ne n] at e
    exact ⟨e, n⟩
  walk_at "w"
  refine ⟨p, _, dx, _, _, rfl, (by rw [upd_ne (ne_of F.ins F.row (by intro z; cases z))]; exact F.ins), T.c_Font, T.na_Font_rows, ff_rows, ?_⟩
  walk_at "w"
  refine ⟨ro, od, rfl, .inl ⟨encR r, upd_same, lcsW walk_keys (fun D i H' => upd H ro (.frz od (.dK (encR r))) D = none ∧ H' = upd (upd H ro (.frz od (.dK (encR r)))) D (.lst ((((r.map (·.1)).take i).filter fun z => decide (z.length = 1)).map V.str))) (fun D hD => ⟨hD, by simp⟩) (fun D i H' _ ⟨hD, e⟩ => by rw [e]; exact upd_old upd_same hD) ?_ ?_⟩⟩
  · rintro D i x H1 H' hi ⟨hD, rfl⟩ ⟨rfl, kk, v, hx, rfl⟩
    obtain ⟨y, hy, rfl⟩ : ∃ y : Str × Int, r[i]? = some y ∧ kk = Sum.inr y.1 := by
      unfold encR at hx
      rw [List.getElem?_map] at hx
      obtain ⟨y, h1, h2⟩ := Option.map_eq_some_iff.mp hx
      exact ⟨y, h1, (congrArg Prod.fst h2).symm⟩
    have hz := hl y (List.mem_of_getElem? hy)
    have ht : (r.map (·.1))[i]? = some y.1 := by rw [List.getElem?_map, hy]; rfl
    show gName 1 (.str y.1) _ _ _
    walk_at "w"
    refine ⟨rfl, ?_⟩
    walk_at "w"
    refine w_lenX hz ?_
    walk_at "w"
    refine it_dec (fun c => ?_) (fun c => ?_)
    · have c' : y.1.length = 1 := Int.ofNat_inj.mp (V.int.inj c)
      walk_at "w"
      refine ⟨_, upd_same, ?_, hD, ?_⟩
      · have := List.length_filter_le (fun z : Str => decide (z.length = 1)) ((r.map (·.1)).take i)
        rw [List.length_map, sz]
        rw [List.length_take] at this
        rw [List.length_map] at this
        omega
      · rw [upd_upd, List.take_add_one, ht, List.filter_append]
        simp [c']
    · refine ⟨hD, ?_⟩
      rw [List.take_add_one, ht, List.filter_append]
      have c' : ¬ y.1.length = 1 := fun z => c (congrArg (fun n : Nat => V.int n) z)
      simp [c']
  · rintro D H' ⟨m1, rfl⟩
    obtain ⟨n1, q1⟩ := ed D m1
    refine ⟨upd_old upd_same m1, ?_⟩
    rw [upd_lock F.row q1]
    rw [show (r.map (·.1)).take (encR r).length = r.map (·.1) from List.take_of_length_le (by simp [encR])]
    walk_at "w"
    refine ⟨_, rfl, D, lets r, rfl, .inl (SqL.of upd_same), ?_, ?_, Tab.new tb n1, fun H' l x t n e => ?_⟩
    · have := List.length_filter_le (fun z : Str => decide (z.length = 1)) (r.map (·.1))
      unfold lets
      rw [List.length_map] at this
      omega
    · intro z hz
      obtain ⟨h1, _⟩ := List.mem_filter.mp hz
      obtain ⟨y, h2, rfl⟩ := List.mem_map.mp h1
      exact hl y h2
    · exact k H' l ((Ex.new n1).trans x) t (New.back n (Ex.new n1)) e

def sp_Font_copy (K : PySem.W.Frag) (a : Ad) : Sp := sp1 fun s H Q _ => ∃ (p dx ro pr pa : Addr) (r r' : Rows) (sp : Int), s = .ref p ∧ FontAt a H p dx ro pr pa r sp ∧ (r.map (·.1)).Nodup ∧ r.length ≤ 500 ∧ (∀ x ∈ r, x.1.length ≤ sizeLine) ∧ 0 ≤ sp ∧ sp ≤ 1000000 ∧ Tab a H ∧
  runPA (r.map fun x => (x.1, V.int x.2)) ((r.map (·.1)).mergeSort rankLe) [] = .ok r' ∧
  ∀ H' z dz ro' pr' pa', Ex H H' → Tab a H' → FontAt a H' z dz ro' pr' pa' r' sp → H' pa' = some (.lst []) → New H z → New H ro' → New H pr' → New H pa' → Q (.ref z) H'
theorem ok_Font_copy {P : Program} {w : World} {K : PySem.W.Frag} {mg : Str → Option Value} {base : Heap} {a : Ad} (T : Txt P K mg base a) : FnOk P w K mg base (L2.CX P w) 9 a.f_Font_copy a.d_Font_copy (["self"] : List Str) (sp_Font_copy K a) := by
  refine T.F_Font_copy.okX sc_Font_copy (fun vs H Q E h => sp1_len h) (fun cdv A outer s H vs Q E hr h => ?_)
  have hu := hu_of hr
  refine ⟨_, (pss_one (ps_ret (pe_mkKS T.M_Font (ok_Font_init T) (hr.mono (by decide)) rfl T.g_Font T.KB2_blank_Font_init (fun σ => passAt (takes_of rfl rfl rfl rfl) σ) (pa_cons (pe_fld (pv 0) rfl) (pa_cons (pe_fld (pv 0) rfl) pa_nil)) (pk_cons (pe_fld (pv 0) rfl) pk_nil)))), ?_⟩
  try dsimp only [L2.cxOf]
  obtain ⟨s0, rfl, p, dx, ro, pr, pa, r, r', sp, rfl, F, nd, hlen, hnm, n0, n1, tb, hrun, k⟩ := h
  rw [show L2.start (["self"] : List Str) [(.ref p)] = ([some ((.ref p))] : L2.St) from rfl]
  have kk : (r.map fun x => (x.1, V.int x.2)).map (·.1) = r.map (·.1) := by simp
  walk_at "w"
  refine F.rowsF T ?_
  walk_at "w"
  refine F.pairsF T ?_
  walk_at "w"
  refine F.spaceF T ?_
  walk_at "w"
  refine ⟨rfl, rfl, fun z dz nz ndz nzz => ?_⟩
  have nz2 : upd H dz (.own z) z = none := by rw [upd_ne (Ne.symm nzz)]; exact nz
  have x1 : Ex H (upd (upd H dz (.own z)) z (.ins a.C_Font dz [])) := (Ex.new ndz).trans (Ex.new nz2)
  have t1 : Tab a (upd (upd H dz (.own z)) z (.ins a.C_Font dz [])) := Tab.new (Tab.new tb ndz) nz2
  have F1 := F.ex x1
  have hro : upd (upd H dz (.own z)) z (.ins a.C_Font dz []) ro = some (.dK (encV (r.map fun x => (x.1, V.int x.2)))) := by rw [← encR_V]; exact F1.row
  refine ⟨_, _, _, _, rfl, z, dz, ro, r.map fun x => (x.1, V.int x.2), sp, rfl, rfl, .inr ⟨pr, rfl, F1.pai⟩, rfl, upd_same, hro, by rw [kk]; exact nd, by rw [List.length_map]; exact hlen, fun x hx => ?_, fun x hx H' => ?_, n0, n1, t1, ?_⟩
  · obtain ⟨y, hy, rfl⟩ := List.mem_map.mp hx
    exact hnm y hy
  · obtain ⟨y, hy, rfl⟩ := List.mem_map.mp hx
    exact isI_int _
  · rw [kk, hrun]
    intro H' ro' pr' pa' R t2 F2 hp2 w1 w2 w3
    have x2 : Ex H H' := fun b o hb nt => R b o (x1 b o hb nt) nt (by simp; exact ne_of_none hb nz)
    exact ⟨rfl, k H' z dz ro' pr' pa' x2 t2 F2 hp2 (New.of nz) (New.back w1 x1) (New.back w2 x1) (New.back w3 x1)⟩

/-- a font without glyphs -/
def EmptyF (a : Ad) (H : Hp) (p : Addr) : Prop := ∃ dx ro pr pa s, FontAt a H p dx ro pr pa [] s ∧ 0 ≤ s ∧ s ≤ 1000000
theorem EmptyF.ex {a : Ad} {H H' : Hp} {p : Addr} (F : EmptyF a H p) (x : Ex H H') : EmptyF a H' p := by
  obtain ⟨dx, ro, pr, pa, s, F, h⟩ := F
  exact ⟨dx, ro, pr, pa, s, F.ex x, h⟩
/-- .. stays where nothing but lists and other instances are written -/
theorem EmptyF.fr {a : Ad} {H H' : Hp} {p : Addr} {bs : List Addr} (F : EmptyF a H p) (x : Fr bs H H') (h : ∀ b ∈ bs, ∃ o, H b = some o ∧ (∀ kvs, o ≠ .dK kvs) ∧ ∀ dx fs, o ≠ .ins a.C_Font dx fs) : EmptyF a H' p := by
  obtain ⟨dx, ro, pr, pa, s, F, hs⟩ := F
  refine ⟨dx, ro, pr, pa, s, F.fr x (fun z => ?_) (fun z => ?_) (fun z => ?_), hs⟩
  · obtain ⟨o, h1, _, h3⟩ := h _ z
    exact h3 _ _ (Option.some.inj (h1.symm.trans F.ins))
  · obtain ⟨o, h1, h2, _⟩ := h _ z
    exact h2 _ (Option.some.inj (h1.symm.trans F.row))
  · obtain ⟨o, h1, h2, _⟩ := h _ z
    exact h2 _ (Option.some.inj (h1.symm.trans F.pai))
def jfields (fc cm pl wy st en : Addr) : List (Str × V) := [("faces", .ref fc), ("common", .ref cm), ("places", .ref pl), ("ways", .ref wy), ("steps", .ref st), ("ends", .ref en)]
section
variable {fc cm pl wy st en : Addr}
theorem jf_faces : (jfields fc cm pl wy st en).lookup ("faces" : Str) = some (.ref fc) := by simp [jfields, List.lookup]
theorem jf_common : (jfields fc cm pl wy st en).lookup ("common" : Str) = some (.ref cm) := by
  have h1 : (("common" : Str) == "faces") = false := by decide +kernel
  simp [jfields, List.lookup, h1]
theorem jf_places : (jfields fc cm pl wy st en).lookup ("places" : Str) = some (.ref pl) := by
  have h1 : (("places" : Str) == "faces") = false := by decide +kernel
  have h2 : (("places" : Str) == "common") = false := by decide +kernel
  simp [jfields, List.lookup, h1, h2]
theorem jf_steps : (jfields fc cm pl wy st en).lookup ("steps" : Str) = some (.ref st) := by
  have h1 : (("steps" : Str) == "faces") = false := by decide +kernel
  have h2 : (("steps" : Str) == "common") = false := by decide +kernel
  have h3 : (("steps" : Str) == "places") = false := by decide +kernel
  have h4 : (("steps" : Str) == "ways") = false := by decide +kernel
  simp [jfields, List.lookup, h1, h2, h3, h4]
theorem jf_ends : (jfields fc cm pl wy st en).lookup ("ends" : Str) = some (.ref en) := by
  have h1 : (("ends" : Str) == "faces") = false := by decide +kernel
  have h2 : (("ends" : Str) == "common") = false := by decide +kernel
  have h3 : (("ends" : Str) == "places") = false := by decide +kernel
  have h4 : (("ends" : Str) == "ways") = false := by decide +kernel
  have h5 : (("ends" : Str) == "steps") = false := by decide +kernel
  simp [jfields, List.lookup, h1, h2, h3, h4, h5]
theorem jf_no {f : Str} (h : (["faces", "common", "places", "ways", "steps", "ends"] : List Str).all (fun x => !(f == x)) = true) : (jfields fc cm pl wy st en).lookup f = none := by
  simp only [List.all_cons, List.all_nil, Bool.and_true, Bool.and_eq_true, Bool.not_eq_true'] at h
  simp [jfields, List.lookup, h.1, h.2.1, h.2.2.1, h.2.2.2.1, h.2.2.2.2.1, h.2.2.2.2.2]
end
theorem putF_new {f : Str} {v : V} (ks : List Str) : ∀ {fs : List (Str × V)}, fs.map (·.1) = ks → (ks.all fun x => !(x == f)) = true → putF f v fs = fs ++ [(f, v)] := by
  induction ks with
  | nil =>
    intro fs e _
    rw [List.map_eq_nil_iff.mp e]
    rfl
  | cons k ks ih =>
    intro fs e h
    cases fs with
    | nil => cases e
    | cons y fs =>
      rw [List.map_cons] at e
      injection e with e1 e2
      rw [List.all_cons, Bool.and_eq_true] at h
      have e : ¬ y.1 = f := by rw [e1]; simpa using h.1
      show (if y.1 = f then _ else _) = _
      rw [if_neg e, ih e2 h.2]
      rfl

def sp_proper_beginnings (K : PySem.W.Frag) (a : Ad) : Sp := sp1 fun x H Q _ => ∃ p, x = .ref p ∧ EmptyF a H p ∧ Tab a H ∧ ∀ d H', Ex H H' → Tab a H' → H' d = some (.dK []) → Q (.ref d) H'
theorem ok_proper_beginnings {P : Program} {w : World} {K : PySem.W.Frag} {mg : Str → Option Value} {base : Heap} {a : Ad} (T : Txt P K mg base a) : FnOk P w K mg base CX0 6 a.f_proper_beginnings a.d_proper_beginnings (["font"] : List Str) (sp_proper_beginnings K a) := by
  refine T.F_proper_beginnings.ok sc_proper_beginnings (fun vs H Q E h => sp1_len h) (fun cdv A outer s H vs Q E hr h => ?_)
  have hu := hu_of hr
  refine ⟨_, (pss_cons (ps_set (i := 1) sc_proper_beginnings.nd rfl (Or.inl rfl) pe_dnewK)
      (pss_cons (ps_for PassesOwn.never rfl (pi_list (pe_prop (pv 0) T.c_Font T.P_Font_ligatures (ok_Font_ligatures T) (hr.mono (by decide)) T.B_Font_ligatures .nil pass0 rfl)) (pg_name (i := 2) sc_proper_beginnings.nd rfl (Or.inl rfl)) pss_never)
      (pss_one (ps_ret (pv 1))))), ?_⟩
  try dsimp only [L2.cxOf]
  obtain ⟨x, rfl, p, rfl, F, tb, k⟩ := h
  rw [show L2.start (["font", "beginnings", "ligature", "end"] : List Str) [(.ref p)] = ([some ((.ref p)), none, none, none] : L2.St) from rfl]
  walk_at "w"
  intro d nd
  have x1 : Ex H (upd H d (.dK [])) := Ex.new nd
  obtain ⟨dx, ro, pr, pa, s, F1, _⟩ := F.ex x1
  walk_at "w"
  refine ⟨p, dx, _, rfl, F1.ins, _, rfl, p, dx, ro, pr, pa, [], s, rfl, F1, by decide, by simp, Tab.new tb nd, fun H2 l x2 t2 n2 e2 => ?_⟩
  rw [show (((ligs []).mergeSort rankLe).map V.str) = [] from by rw [show ligs [] = [] from rfl, List.mergeSort_nil]; rfl] at e2
  refine ⟨l, rfl, ⟨_, SqL.of e2⟩, turnsW (walk_list (xs := [])) (fun i σ' H' => H' = H2 ∧ ∃ z1 z2, σ' = [some (.ref p), some (.ref d), z1, z2]) ⟨rfl, _, _, rfl⟩ (fun i σ' H' _ ⟨e, _⟩ => by rw [e]; exact SqL.of e2) ?_ ?_⟩
  · rintro i x σ' H3 H' hi
    exact absurd hi (by simp)
  · rintro σ' H3 ⟨rfl, z1, z2, rfl⟩
    walk_at "w"
    exact k d _ (x1.trans x2) t2 (x2 _ _ upd_same trivial)

def sp_drain (K : PySem.W.Frag) (a : Ad) : Sp := sp2 fun x y H Q _ => y = .str "" ∧ ∀ l, H l = none → Q (.ref l) (upd H l (.lst []))
theorem ok_drain {P : Program} {w : World} {K : PySem.W.Frag} {mg : Str → Option Value} {base : Heap} {a : Ad} (T : Txt P K mg base a) : FnOk P w K mg base CX0 2 a.f_drain a.d_drain (["font", "row"] : List Str) (sp_drain K a) := by
  refine T.F_drain.ok sc_drain (fun vs H Q E h => sp2_len h) (fun cdv A outer s H vs Q E hr h => ?_)
  have hu := hu_of hr
  refine ⟨_, (pss_cons (ps_set (i := 2) sc_drain.nd rfl (Or.inl rfl) (pe_lst pa_nil))
      (pss_cons (ps_set (i := 3) sc_drain.nd rfl (Or.inl rfl) pe_int)
      (pss_cons (ps_while PassesOwn.never (pt_cmpR op_lt (pv 3) (pe_callB qc_lenX (by rfl) T.n_len bb_len (pa_cons (pv 1) pa_nil)) (nomark _)) pss_never)
      (pss_one (ps_ret (pv 2)))))), ?_⟩
  try dsimp only [L2.cxOf]
  obtain ⟨x, y, rfl, rfl, k⟩ := h
  rw [show L2.start (["font", "row", "glyphs", "at", "glyph"] : List Str) [x, (.str "")] = ([some (x), some ((.str "")), none, none, none] : L2.St) from rfl]
  walk_at "w"
  refine ⟨by decide, fun l nl => ?_⟩
  walk_at "w"
  refine w_while (fun m σ' H' => H' = upd H l (.lst []) ∧ ∃ z, σ' = [some x, some (.str ""), some (.ref l), some (.int 0), z]) ⟨0, rfl, _, rfl⟩ ?_
  rintro m σ' H' ⟨rfl, z, rfl⟩
  walk_at "w"
  refine w_lenX (by decide +kernel) ?_
  walk_at "w"
  refine it_neg (by decide +kernel) ?_
  walk_at "w"
  exact k l nl

def sp_added_width (K : PySem.W.Frag) (a : Ad) : Sp := sp3 fun x y z H Q _ => ∃ l, z = .ref l ∧ H l = some (.lst []) ∧ Q (.int 0) H
theorem ok_added_width {P : Program} {w : World} {K : PySem.W.Frag} {mg : Str → Option Value} {base : Heap} {a : Ad} (T : Txt P K mg base a) : FnOk P w K mg base CX0 3 a.f_added_width a.d_added_width (["font", "last", "glyphs"] : List Str) (sp_added_width K a) := by
  refine T.F_added_width.ok sc_added_width (fun vs H Q E h => sp3_len h) (fun cdv A outer s H vs Q E hr h => ?_)
  have hu := hu_of hr
  refine ⟨_, (pss_cons (ps_set (i := 3) sc_added_width.nd rfl (Or.inl rfl) pe_int)
      (pss_cons (ps_for PassesOwn.never rfl (pi_list (pv 2)) (pg_name (i := 4) sc_added_width.nd rfl (Or.inl rfl)) pss_never)
      (pss_one (ps_ret (pv 3))))), ?_⟩
  try dsimp only [L2.cxOf]
  obtain ⟨x, y, z, rfl, l, rfl, hl, k⟩ := h
  rw [show L2.start (["font", "last", "glyphs", "total", "glyph"] : List Str) [x, y, (.ref l)] = ([some (x), some (y), some ((.ref l)), none, none] : L2.St) from rfl]
  walk_at "w"
  refine ⟨l, rfl, ⟨_, SqL.of hl⟩, turnsW (walk_list (xs := [])) (fun i σ' H' => H' = H ∧ σ' = [some x, some y, some (.ref l), some (.int 0), none]) ⟨rfl, rfl⟩ (fun i σ' H' _ ⟨e, _⟩ => by rw [e]; exact SqL.of hl) ?_ ?_⟩
  · rintro i x σ' H3 H' hi
    exact absurd hi (by simp)
  · rintro σ' H3 ⟨rfl, rfl⟩
    walk_at "w"
    exact k

def sp_Joined_rest (K : PySem.W.Frag) (a : Ad) : Sp := sp3 fun s x y H Q _ => ∃ (p dx fc cm pl wy st en f1 f2 q : Addr) (i : Nat), s = .ref p ∧ x = .int i ∧ i < 2 ∧ y = .ref q ∧ H p = some (.ins a.C_Joined dx (jfields fc cm pl wy st en)) ∧ H fc = some (.tup [.ref f1, .ref f2]) ∧ H q = some (.tup [.str "", .str ""]) ∧ Tab a H ∧
  ∀ H', Ex H H' → Tab a H' → Q (.int 0) H'
theorem ok_Joined_rest {P : Program} {w : World} {K : PySem.W.Frag} {mg : Str → Option Value} {base : Heap} {a : Ad} (T : Txt P K mg base a) : FnOk P w K mg base CX0 4 a.f_Joined_rest a.d_Joined_rest (["self", "which", "place"] : List Str) (sp_Joined_rest K a) := by
  refine T.F_Joined_rest.ok sc_Joined_rest (fun vs H Q E h => sp3_len h) (fun cdv A outer s H vs Q E hr h => ?_)
  have hu := hu_of hr
  refine ⟨_, (pss_cons (ps_set (i := 3) sc_Joined_rest.nd rfl (Or.inl rfl) (pe_ix ix_tup (pe_fld (pv 0) rfl) (pv 1) (fun _ _ => rfl)))
      (pss_one (ps_ret (pe_call (ok_added_width T) (hr.mono (by decide)) rfl T.g_added_width T.k_added_width T.B_added_width .nil pass0 (pa_cons (pv 3) (pa_cons (pe_ix ix_tup (pv 2) pe_int (fun _ _ => rfl)) (pa_cons (pe_call (ok_drain T) (hr.mono (by decide)) rfl T.g_drain T.k_drain T.B_drain .nil pass0 (pa_cons (pv 3) (pa_cons (pe_ix ix_tup (pv 2) pe_int (fun _ _ => rfl)) pa_nil))) pa_nil))))))), ?_⟩
  try dsimp only [L2.cxOf]
  obtain ⟨s0, x, y, rfl, p, dx, fc, cm, pl, wy, st, en, f1, f2, q, i, rfl, rfl, hi, rfl, hp, hfc, hq, tb, k⟩ := h
  rw [show L2.start (["self", "which", "place", "face"] : List Str) [(.ref p), (.int i), (.ref q)] = ([some ((.ref p)), some ((.int i)), some ((.ref q)), none] : L2.St) from rfl]
  obtain ⟨f, hf⟩ : ∃ f, atI ([.ref f1, .ref f2] : List V) (i : Int) = some (.ref f) := by
    match i, hi with
    | 0, _ => exact ⟨f1, rfl⟩
    | 1, _ => exact ⟨f2, rfl⟩
  walk_at "w"
  refine ⟨p, _, dx, _, _, rfl, hp, T.c_Joined, T.na_Joined_faces, jf_faces, ?_⟩
  walk_at "w"
  refine w_ixT (SqT.of hfc) hf ?_
  walk_at "w"
  refine ⟨_, _, rfl, rfl, fun l nl => ?_⟩
  walk_at "w"
  exact ⟨_, _, _, rfl, l, rfl, upd_same, k _ (Ex.new nl) (Tab.new tb nl)⟩

def sp_Joined_explore (K : PySem.W.Frag) (a : Ad) : Sp := sp1 fun s H Q _ => ∃ (p dx fc cm pl wy st en f1 f2 t0 : Addr), s = .ref p ∧ H p = some (.ins a.C_Joined dx (jfields fc cm pl wy st en)) ∧ H fc = some (.tup [.ref f1, .ref f2]) ∧ EmptyF a H f1 ∧ EmptyF a H f2 ∧ H cm = some (.lst []) ∧ H pl = some (.lst [.ref t0]) ∧
  H t0 = some (.tup [.str "", .str "", .str "", .str ""]) ∧ H st = some (.lst []) ∧ H en = some (.lst []) ∧ st ≠ en ∧ st ≠ pl ∧ en ≠ pl ∧ st ≠ cm ∧ en ≠ cm ∧ Tab a H ∧ ∀ H', Fr [st, en] H H' → Tab a H' → Q .non H'
theorem ok_Joined_explore {P : Program} {w : World} {K : PySem.W.Frag} {mg : Str → Option Value} {base : Heap} {a : Ad} (T : Txt P K mg base a) : FnOk P w K mg base CX0 7 a.f_Joined_explore a.d_Joined_explore (["self"] : List Str) (sp_Joined_explore K a) := by
  refine T.F_Joined_explore.ok sc_Joined_explore (fun vs H Q E h => sp1_len h) (fun cdv A outer s H vs Q E hr h => ?_)
  have hu := hu_of hr
  refine ⟨_, (pss_cons (ps_set (i := 1) sc_Joined_explore.nd rfl (Or.inl rfl) (pe_dispT1 hu (pe_tup (pa_cons pe_str (pa_cons pe_str (pa_cons pe_str (pa_cons pe_str pa_nil))))) pe_int))
      (pss_cons (ps_set (i := 2) sc_Joined_explore.nd rfl (Or.inl rfl) (pe_tup (pa_cons (pe_call (ok_proper_beginnings T) (hr.mono (by decide)) rfl T.g_proper_beginnings T.k_proper_beginnings T.B_proper_beginnings .nil pass0 (pa_cons (pe_ix ix_tup (pe_fld (pv 0) rfl) pe_int (fun _ _ => rfl)) pa_nil)) (pa_cons (pe_call (ok_proper_beginnings T) (hr.mono (by decide)) rfl T.g_proper_beginnings T.k_proper_beginnings T.B_proper_beginnings .nil pass0 (pa_cons (pe_ix ix_tup (pe_fld (pv 0) rfl) pe_int (fun _ _ => rfl)) pa_nil)) pa_nil))))
      (pss_one (ps_while PassesOwn.never (pt_cmpR op_lt (pe_callB qc_len (by rfl) T.n_len bb_len (pa_cons (pe_fld (pv 0) rfl) pa_nil)) (pe_callB qc_len (by rfl) T.n_len bb_len (pa_cons (pe_fld (pv 0) rfl) pa_nil)) (nomark _)) (pss_cons (ps_set (i := 3) sc_Joined_explore.nd rfl (Or.inl rfl) (pe_callB qc_len (by rfl) T.n_len bb_len (pa_cons (pe_fld (pv 0) rfl) pa_nil)))
      (pss_cons (ps_set (i := 4) sc_Joined_explore.nd rfl (Or.inl rfl) (pe_ix ix_list (pe_fld (pv 0) rfl) (pv 3) (fun _ _ => rfl)))
      (pss_cons (ps_set (i := 5) sc_Joined_explore.nd rfl (Or.inl rfl) pe_dnewK)
      (pss_cons (ps_for PassesOwn.never rfl (pi_list (pe_fld (pv 0) rfl)) (pg_name (i := 6) sc_Joined_explore.nd rfl (Or.inl rfl)) pss_never)
      (pss_cons (ps_expr (pe_bm PySem.F.plainAttrs_list PySem.F.slot_list_append PySem.F.type_list_append mt_append (pe_fld (pv 0) rfl) (pa_cons (pv 5) pa_nil)))
      (pss_one (ps_expr (pe_bm PySem.F.plainAttrs_list PySem.F.slot_list_append PySem.F.type_list_append mt_append (pe_fld (pv 0) rfl) (pa_cons (pe_tup (pa_cons (pe_meth (pv 0) T.c_Joined T.M_Joined_rest (ok_Joined_rest T) (hr.mono (by decide)) T.B_Joined_rest .nil pass0 (pa_cons pe_int (pa_cons (pe_slice sl_tup (pv 4) po_none (po_some pe_int)) pa_nil))) (pa_cons (pe_meth (pv 0) T.c_Joined T.M_Joined_rest (ok_Joined_rest T) (hr.mono (by decide)) T.B_Joined_rest .nil pass0 (pa_cons pe_int (pa_cons (pe_slice sl_tup (pv 4) (po_some pe_int) po_none) pa_nil))) pa_nil))) pa_nil))))))))))))), ?_⟩
  try dsimp only [L2.cxOf]
  obtain ⟨s0, rfl, p, dx, fc, cm, pl, wy, st, en, f1, f2, t0, rfl, hp, hfc, F1, F2, hcm, hpl, ht0, hst, hen, d1, d2, d3, d4, d5, tb, k⟩ := h
  rw [show L2.start (["self", "numbers", "beginnings", "number", "place", "row", "letter", "left", "first_width", "right", "second_width", "following"] : List Str) [(.ref p)] = ([some ((.ref p)), none, none, none, none, none, none, none, none, none, none, none] : L2.St) from rfl]
  walk_at "w"
  intro nm nnm
  walk_at "w"
  refine ⟨by show 4 ≤ sizeLine; decide, fun kt nkt => ?_⟩
  walk_at "w"
  refine ⟨upd_old upd_same nkt, kt, [.inr "", .inr "", .inr "", .inr ""], rfl, upd_same, ?_⟩
  have hne : kt ≠ nm := fun z => by rw [z, upd_same] at nkt; cases nkt
  have x1 : Ex H (upd (upd (upd H nm (.dT [])) kt (.tup [.str "", .str "", .str "", .str ""])) nm (.dT [([.inr "", .inr "", .inr "", .inr ""], .int 0)])) := fun b o hb nt => by
    rw [upd_ne (ne_of_none hb nnm)]
    exact (Ex.new (o := .dT []) nnm).trans (Ex.new nkt) b o hb nt
  have t1 : Tab a (upd (upd (upd H nm (.dT [])) kt (.tup [.str "", .str "", .str "", .str ""])) nm (.dT [([.inr "", .inr "", .inr "", .inr ""], .int 0)])) := Tab.upd (Tab.new (Tab.new tb nnm) nkt) (upd_old upd_same nkt) trivial
  generalize upd (upd (upd H nm (.dT [])) kt (.tup [.str "", .str "", .str "", .str ""])) nm (.dT [([.inr "", .inr "", .inr "", .inr ""], .int 0)]) = H1 at x1 t1 ⊢
  walk_at "w"
  refine ⟨p, _, dx, _, _, rfl, x1 _ _ hp trivial, T.c_Joined, T.na_Joined_faces, jf_faces, ?_⟩
  walk_at "w"
  refine w_ixT (SqT.of (x1 _ _ hfc trivial)) rfl ?_
  walk_at "w"
  refine ⟨_, rfl, f1, rfl, F1.ex x1, t1, fun b1 H2 x2 t2 e2 => ?_⟩
  have x12 := x1.trans x2
  walk_at "w"
  refine ⟨p, _, dx, _, _, rfl, x12 _ _ hp trivial, T.c_Joined, T.na_Joined_faces, jf_faces, ?_⟩
  walk_at "w"
  refine w_ixT (SqT.of (x12 _ _ hfc trivial)) rfl ?_
  walk_at "w"
  refine ⟨_, rfl, f2, rfl, F2.ex x12, t2, fun b2 H3 x3 t3 e3 => ?_⟩
  have x13 := x12.trans x3
  walk_at "w"
  refine ⟨by show 2 ≤ sizeLine; decide, fun bg nbg => ?_⟩
  have x14 : Ex H (upd H3 bg (.tup [.ref b1, .ref b2])) := x13.trans (Ex.new nbg)
  have t4 : Tab a (upd H3 bg (.tup [.ref b1, .ref b2])) := Tab.new t3 nbg
  generalize upd H3 bg (.tup [.ref b1, .ref b2]) = H4 at x14 t4 ⊢
  walk_at "w"
  have keep : ∀ {H' : Hp} {b : Addr} {o : HO}, Fr [st, en] H H' → H b = some o → NT o → (∀ xs, o ≠ .lst xs) → H' b = some o := fun {H' b o} R hb nt hl => R b o hb nt (by
    simp
    exact ⟨ne_of hb hst (hl _), ne_of hb hen (hl _)⟩)
  refine w_while (fun m σ' H' => Fr [st, en] H H' ∧ Tab a H' ∧ (∃ z1 z2 z3 z4 z5 z6 z7 z8 z9 z10 z11, σ' = [some (.ref p), z1, z2, z3, z4, z5, z6, z7, z8, z9, z10, z11]) ∧ ((m = 1 ∧ H' st = some (.lst []) ∧ H' en = some (.lst [])) ∨ (m = 0 ∧ ∃ v, H' st = some (.lst [v])))) ⟨1, Fr.of x14, t4, ⟨_, _, _, _, _, _, _, _, _, _, _, rfl⟩, .inl ⟨rfl, x14 _ _ hst trivial, x14 _ _ hen trivial⟩⟩ ?_
  rintro m σ' H5 ⟨R5, t5, ⟨z1, z2, z3, z4, z5, z6, z7, z8, z9, z10, z11, rfl⟩, hm⟩
  have hp5 := keep R5 hp trivial (by intro xs z; cases z)
  have hpl5 : H5 pl = some (.lst [.ref t0]) := R5 _ _ hpl trivial (by simp; exact ⟨Ne.symm d2, Ne.symm d3⟩)
  walk_at "w"
  refine ⟨p, _, dx, _, _, rfl, hp5, T.c_Joined, T.na_Joined_steps, jf_steps, ?_⟩
  rcases hm with ⟨rfl, hs5, he5⟩ | ⟨rfl, v, hs5⟩
  · walk_at "w"
    refine ⟨p, _, dx, _, _, rfl, hp5, T.c_Joined, T.na_Joined_places, jf_places, ?_⟩
    walk_at "w"
    refine it_pos (by show (0 : Int) < 1; decide) (w_turn ?_)
    walk_at "w"
    refine ⟨p, _, dx, _, _, rfl, hp5, T.c_Joined, T.na_Joined_steps, jf_steps, ?_⟩
    walk_at "w"
    refine ⟨p, _, dx, _, _, rfl, hp5, T.c_Joined, T.na_Joined_places, jf_places, ?_⟩
    walk_at "w"
    intro rw nrw
    walk_at "w"
    refine ⟨p, _, dx, _, _, rfl, upd_old hp5 nrw, T.c_Joined, T.na_Joined_common, jf_common, ?_⟩
    have hcm6 : upd H5 rw (.dK []) cm = some (.lst []) := upd_old (R5 _ _ hcm trivial (by simp; exact ⟨Ne.symm d4, Ne.symm d5⟩)) nrw
    walk_at "w"
    refine ⟨cm, rfl, ⟨_, SqL.of hcm6⟩, turnsW (walk_list (xs := [])) (fun i σ' H' => H' = upd H5 rw (.dK []) ∧ ∃ z5 z6 z7 z8 z9 z10 z11, σ' = [some (.ref p), z1, z2, some (.int 0), some (.ref t0), some (.ref rw), z6, z7, z8, z9, z10, z11]) ⟨rfl, z5, z6, z7, z8, z9, z10, z11, rfl⟩ (fun i σ' H' _ ⟨e, _⟩ => by rw [e]; exact SqL.of hcm6) ?_ ?_⟩
    · rintro i x σ' H3 H' hi
      exact absurd hi (by simp)
    rintro σ' H6 ⟨rfl, y5, y6, y7, y8, y9, y10, y11, rfl⟩
    have R6 : Fr [st, en] H (upd H5 rw (.dK [])) := R5.new nrw
    have t6 : Tab a (upd H5 rw (.dK [])) := Tab.new t5 nrw
    have hs6 := upd_old (p := rw) (u := .dK []) hs5 nrw
    have he6 := upd_old (p := rw) (u := .dK []) he5 nrw
    generalize upd H5 rw (.dK []) = H6 at R6 t6 hs6 he6 ⊢
    walk_at "w"
    refine ⟨p, _, dx, _, _, rfl, keep R6 hp trivial (by intro xs z; cases z), T.c_Joined, T.na_Joined_steps, jf_steps, ?_⟩
    walk_at "w"
    refine ⟨.inl ⟨rfl, _, SqL.of hs6⟩, ?_⟩
    walk_at "w"
    refine ⟨st, [], _, rfl, rfl, hs6, by show 0 < sizeLine; decide, ?_⟩
    have R7 : Fr [st, en] H (upd H6 st (.lst ([] ++ [.ref rw]))) := R6.upd (by simp)
    have t7 : Tab a (upd H6 st (.lst ([] ++ [.ref rw]))) := Tab.upd t6 hs6 trivial
    have hs7 : upd H6 st (.lst ([] ++ [.ref rw])) st = some (.lst [.ref rw]) := upd_same
    have he7 : upd H6 st (.lst ([] ++ [.ref rw])) en = some (.lst []) := by rw [upd_ne (Ne.symm d1)]; exact he6
    generalize upd H6 st (.lst ([] ++ [.ref rw])) = H7 at R7 t7 hs7 he7 ⊢
    have hp7 := keep R7 hp trivial (by intro xs z; cases z)
    walk_at "w"
    refine ⟨p, _, dx, _, _, rfl, hp7, T.c_Joined, T.na_Joined_ends, jf_ends, ?_⟩
    walk_at "w"
    refine ⟨.inl ⟨rfl, _, SqL.of he7⟩, ?_⟩
    walk_at "w"
    refine ⟨p, dx, _, rfl, hp7, jf_no (by decide +kernel), ?_⟩
    walk_at "w"
    refine ⟨t0, _, rfl, SqT.of (keep R7 ht0 trivial (by intro xs z; cases z)), by decide, fun q1 nq1 => ?_⟩
    have x8 : Ex H7 (upd H7 q1 (.tup (cutV [.str "", .str "", .str "", .str ""] none (some 2)))) := Ex.new nq1
    walk_at "w"
    refine ⟨_, _, _, rfl, p, dx, fc, cm, pl, wy, st, en, f1, f2, q1, 0, rfl, rfl, by decide, rfl, x8 _ _ hp7 trivial, x8 _ _ (keep R7 hfc trivial (by intro xs z; cases z)) trivial, upd_same, Tab.new t7 nq1, fun H8 x9 t8 => ?_⟩
    have x18 := x8.trans x9
    walk_at "w"
    refine ⟨p, dx, _, rfl, x18 _ _ hp7 trivial, jf_no (by decide +kernel), ?_⟩
    walk_at "w"
    refine ⟨t0, _, rfl, SqT.of (x18 _ _ (keep R7 ht0 trivial (by intro xs z; cases z)) trivial), by decide, fun q2 nq2 => ?_⟩
    have x28 : Ex H7 (upd H8 q2 (.tup (cutV [.str "", .str "", .str "", .str ""] (some 2) none))) := x18.trans (Ex.new nq2)
    walk_at "w"
    refine ⟨_, _, _, rfl, p, dx, fc, cm, pl, wy, st, en, f1, f2, q2, 1, rfl, rfl, by decide, rfl, x28 _ _ hp7 trivial, x28 _ _ (keep R7 hfc trivial (by intro xs z; cases z)) trivial, upd_same, Tab.new t8 nq2, fun H9 x10 t9 => ?_⟩
    have x19 := x28.trans x10
    walk_at "w"
    refine ⟨by show 2 ≤ sizeLine; decide, fun q3 nq3 => ?_⟩
    have x20 := x19.trans (Ex.new (o := .tup [.int 0, .int 0]) nq3)
    refine ⟨en, [], _, rfl, rfl, x20 _ _ he7 trivial, by show 0 < sizeLine; decide, ?_⟩
    refine ⟨0, by decide, (R7.trans (Fr.of x20)).upd (by simp), Tab.upd (Tab.new t9 nq3) (x20 _ _ he7 trivial) trivial, ⟨_, _, _, _, _, _, _, _, _, _, _, rfl⟩, .inr ⟨rfl, .ref rw, ?_⟩⟩
    rw [upd_ne d1]
    exact x20 _ _ hs7 trivial
  · walk_at "w"
    refine ⟨p, _, dx, _, _, rfl, hp5, T.c_Joined, T.na_Joined_places, jf_places, ?_⟩
    walk_at "w"
    refine it_neg (by show ¬ (1 : Int) < 1; decide) ?_
    walk_at "w"
    exact k _ R5 t5

def sp_Joined_letters (K : PySem.W.Frag) (a : Ad) : Sp := sp1 fun s H Q _ => ∃ (p dx cm : Addr) (fs : List (Str × V)) (xs : List V), s = .ref p ∧ H p = some (.ins a.C_Joined dx fs) ∧ fs.lookup ("common" : Str) = some (.ref cm) ∧ H cm = some (.lst xs) ∧ ∀ l, H l = none → Q (.ref l) (upd H l (.lst xs))
theorem ok_Joined_letters {P : Program} {w : World} {K : PySem.W.Frag} {mg : Str → Option Value} {base : Heap} {a : Ad} (T : Txt P K mg base a) : FnOk P w K mg base CX0 1 a.f_Joined_letters a.d_Joined_letters (["self"] : List Str) (sp_Joined_letters K a) := by
  refine T.F_Joined_letters.ok sc_Joined_letters (fun vs H Q E h => sp1_len h) (fun cdv A outer s H vs Q E hr h => ?_)
  have hu := hu_of hr
  refine ⟨_, (pss_one (ps_ret (pe_callTy qc_list (by rfl) T.n_list bb_list (pa_cons (pe_fld (pv 0) rfl) pa_nil)))), ?_⟩
  try dsimp only [L2.cxOf]
  obtain ⟨s0, rfl, p, dx, cm, fs, xs, rfl, hp, hf, hcm, k⟩ := h
  rw [show L2.start (["self"] : List Str) [(.ref p)] = ([some ((.ref p))] : L2.St) from rfl]
  walk_at "w"
  refine ⟨p, _, dx, _, _, rfl, hp, T.c_Joined, T.na_Joined_common, hf, ?_⟩
  walk_at "w"
  exact w_listS (SqL.of hcm) k

def sp_Joined_init (K : PySem.W.Frag) (a : Ad) : Sp := sp3 fun s x y H Q _ => ∃ (p dx g1 g2 : Addr), s = .ref p ∧ x = .ref g1 ∧ y = .ref g2 ∧ H p = some (.ins a.C_Joined dx []) ∧ EmptyF a H g1 ∧ EmptyF a H g2 ∧ a.C_Joined ≠ a.C_Font ∧ Tab a H ∧
  ∀ H' cm fs, Fr [p] H H' → Tab a H' → H' p = some (.ins a.C_Joined dx fs) → fs.lookup ("common" : Str) = some (.ref cm) → H' cm = some (.lst []) → Q .non H'
theorem ok_Joined_init {P : Program} {w : World} {K : PySem.W.Frag} {mg : Str → Option Value} {base : Heap} {a : Ad} (T : Txt P K mg base a) : FnOk P w K mg base (L2.CX P w) 10 a.f_Joined_init a.d_Joined_init (["self", "first", "second"] : List Str) (sp_Joined_init K a) := by
  refine T.F_Joined_init.okX sc_Joined_init (fun vs H Q E h => sp3_len h) (fun cdv A outer s H vs Q E hr h => ?_)
  have hu := hu_of hr
  refine ⟨_, (pss_cons (ps_fld (pv 0) (pe_tup (pa_cons (pe_mt0S (pv 1) T.c_Font T.M_Font_copy (ok_Font_copy T) (hr.mono (by decide)) T.B_Font_copy .nil (fun σ => passAt (takes_of rfl rfl rfl rfl) σ)) (pa_cons (pe_mt0S (pv 2) T.c_Font T.M_Font_copy (ok_Font_copy T) (hr.mono (by decide)) T.B_Font_copy .nil (fun σ => passAt (takes_of rfl rfl rfl rfl) σ)) pa_nil))) rfl)
      (pss_cons (ps_fld (pv 0) (pe_lc (own := [("letter", 3)]) (g := gName 3) (by rfl) sc_Joined_init.nd (pi_list (pe_prop (pv 1) T.c_Font T.P_Font_letters (ok_Font_letters T) (hr.mono (by decide)) T.B_Font_letters .nil pass0 rfl)) (blkOk_by (own := [("letter", 3)]) (N := ["self", "first", "second", "letter"]) (sc := defScope s_Joined_init) (by decide +kernel)) (fun _ _ _ _ _ => (pg_name (i := 3) sc_Joined_init.nd rfl (Or.inl rfl))) (fun _ _ _ _ _ => (pts_one (pt_cmpR (op_inO T.M_Font_contains.at_ T.M_Font_contains.fn (ok_Font_contains T) (hr.mono (by decide)) T.B_Font_contains) (pv 3) (pv 2) (by rfl)))) (fun _ _ _ _ _ => (pv 3))) rfl)
      (pss_cons (ps_fld (pv 0) (pe_lst (pa_cons (pe_tup (pa_cons pe_str (pa_cons pe_str (pa_cons pe_str (pa_cons pe_str pa_nil))))) pa_nil)) rfl)
      (pss_cons (ps_fld (pv 0) (pe_lst (pa_cons pe_str pa_nil)) rfl)
      (pss_cons (ps_fld (pv 0) (pe_lst pa_nil) rfl)
      (pss_cons (ps_fld (pv 0) (pe_lst pa_nil) rfl)
      (pss_one (ps_expr (pe_meth0 (pv 0) T.c_Joined T.M_Joined_explore (ok_Joined_explore T) (hr.mono (by decide)) T.B_Joined_explore .nil pass0))))))))), ?_⟩
  try dsimp only [L2.cxOf]
  obtain ⟨s0, x, y, rfl, p, dx, g1, g2, rfl, rfl, rfl, hp, F1, F2, hjf, tb, k⟩ := h
  rw [show L2.start (["self", "first", "second", "letter"] : List Str) [(.ref p), (.ref g1), (.ref g2)] = ([some ((.ref p)), some ((.ref g1)), some ((.ref g2)), none] : L2.St) from rfl]
  have emp : ∀ {H' : Hp} {g : Addr}, EmptyF a H g → Fr [p] H H' → EmptyF a H' g := fun {H' g} F R => F.fr R (fun b hb => by
    rw [List.mem_singleton.mp hb]
    exact ⟨_, hp, (fun kvs z => nomatch z), fun dx fs z => hjf (by injection z)⟩)
  have E1 := F1
  obtain ⟨dx1, ro1, pr1, pa1, s1, F1', h1a, h1b⟩ := F1
  walk_at "w"
  refine ⟨g1, dx1, _, rfl, F1'.ins, ff_no (by decide +kernel), ?_⟩
  refine ⟨_, rfl, g1, dx1, ro1, pr1, pa1, [], [], s1, rfl, F1', by simp, by decide, by simp, h1a, h1b, tb, by rw [List.map_nil, List.map_nil, List.mergeSort_nil]; rfl, fun H1 f1 dz1 ro3 pr3 pa3 x1 t1 G1 _ w1 _ _ _ => ?_⟩
  obtain ⟨dx2, ro2, pr2, pa2, s2, F2', h2a, h2b⟩ := F2.ex x1
  walk_at "w"
  refine ⟨g2, dx2, _, rfl, F2'.ins, ff_no (by decide +kernel), ?_⟩
  refine ⟨_, rfl, g2, dx2, ro2, pr2, pa2, [], [], s2, rfl, F2', by simp, by decide, by simp, h2a, h2b, t1, by rw [List.map_nil, List.map_nil, List.mergeSort_nil]; rfl, fun H2 f2 dz2 ro4 pr4 pa4 x2 t2 G2 _ w2 _ _ _ => ?_⟩
  walk_at "w"
  refine ⟨by show 2 ≤ sizeLine; decide, fun fc nfc => ?_⟩
  have x13 : Ex H (upd H2 fc (.tup [.ref f1, .ref f2])) := (x1.trans x2).trans (Ex.new nfc)
  have Ef1 : EmptyF a (upd H2 fc (.tup [.ref f1, .ref f2])) f1 := ⟨dz1, ro3, pr3, pa3, s1, (G1.ex x2).ex (Ex.new nfc), h1a, h1b⟩
  have Ef2 : EmptyF a (upd H2 fc (.tup [.ref f1, .ref f2])) f2 := ⟨dz2, ro4, pr4, pa4, s2, G2.ex (Ex.new nfc), h2a, h2b⟩
  have hfc : upd H2 fc (.tup [.ref f1, .ref f2]) fc = some (.tup [.ref f1, .ref f2]) := upd_same
  have t3 : Tab a (upd H2 fc (.tup [.ref f1, .ref f2])) := Tab.new t2 nfc
  generalize upd H2 fc (.tup [.ref f1, .ref f2]) = H3 at x13 Ef1 Ef2 hfc t3 ⊢
  have hp3 := x13 _ _ hp trivial
  walk_at "w"
  refine ⟨p, _, dx, _, rfl, hp3, T.c_Joined, T.na_Joined_faces, by decide, ?_⟩
  have R4 : Fr [p] H3 (upd H3 p (.ins a.C_Joined dx (putF "faces" (.ref fc) []))) := Fr.refl.upd (by simp)
  have t4 : Tab a (upd H3 p (.ins a.C_Joined dx (putF "faces" (.ref fc) []))) := Tab.upd t3 hp3 trivial
  have hp4 : upd H3 p (.ins a.C_Joined dx (putF "faces" (.ref fc) [])) p = some (.ins a.C_Joined dx [("faces", .ref fc)]) := upd_same
  generalize upd H3 p (.ins a.C_Joined dx (putF "faces" (.ref fc) [])) = H4 at R4 t4 hp4 ⊢
  have R14 : Fr [p] H H4 := (Fr.of x13).trans R4
  obtain ⟨dx5, ro5, pr5, pa5, s5, G5, _, _⟩ := emp E1 R14
  walk_at "w"
  refine ⟨g1, dx5, _, rfl, G5.ins, _, rfl, g1, dx5, ro5, pr5, pa5, [], s5, rfl, G5, by decide, by simp, t4, fun H5 l5 x5 t5 n5 e5 => ?_⟩
  rw [show (((lets []).mergeSort rankLe).map V.str) = [] from by rw [show lets [] = [] from rfl, List.mergeSort_nil]; rfl] at e5
  refine ⟨l5, rfl, ⟨_, SqL.of e5⟩, lcsW (walk_list (xs := [])) (fun D i H' => H5 D = none ∧ H' = upd H5 D (.lst [])) (fun D hD => ⟨hD, rfl⟩) (fun D i H' _ ⟨hD, e⟩ => by rw [e]; exact SqL.of (upd_old e5 hD)) ?_ ?_⟩
  · rintro D i x H3 H' hi
    exact absurd hi (by simp)
  rintro cm H6 ⟨ncm, rfl⟩
  have x6 : Ex H4 (upd H5 cm (.lst [])) := x5.trans (Ex.new ncm)
  have t6 : Tab a (upd H5 cm (.lst [])) := Tab.new t5 ncm
  have hc6 : upd H5 cm (.lst []) cm = some (.lst []) := upd_same
  generalize upd H5 cm (.lst []) = H6 at x6 t6 hc6 ⊢
  have hp6 := x6 _ _ hp4 trivial
  walk_at "w"
  refine ⟨p, _, dx, _, rfl, hp6, T.c_Joined, T.na_Joined_common, by show 1 < 1000; decide, ?_⟩
  have cp : cm ≠ p := ne_of hc6 hp6 (by intro z; cases z)
  have R7 : Fr [p] H6 (upd H6 p (.ins a.C_Joined dx (putF "common" (.ref cm) [("faces", .ref fc)]))) := Fr.refl.upd (by simp)
  have t7 : Tab a (upd H6 p (.ins a.C_Joined dx (putF "common" (.ref cm) [("faces", .ref fc)]))) := Tab.upd t6 hp6 trivial
  have hp7 : upd H6 p (.ins a.C_Joined dx (putF "common" (.ref cm) [("faces", .ref fc)])) p = some (.ins a.C_Joined dx [("faces", .ref fc), ("common", .ref cm)]) := by
    rw [putF_new (["faces"]) rfl (by decide +kernel)]
    exact upd_same
  have hc7 : upd H6 p (.ins a.C_Joined dx (putF "common" (.ref cm) [("faces", .ref fc)])) cm = some (.lst []) := by rw [upd_ne cp]; exact hc6
  generalize upd H6 p (.ins a.C_Joined dx (putF "common" (.ref cm) [("faces", .ref fc)])) = H7 at R7 t7 hp7 hc7 ⊢
  have R17 : Fr [p] H3 H7 := (R4.trans (Fr.of x6)).trans R7
  walk_at "w"
  refine ⟨by show 4 ≤ sizeLine; decide, fun t0 nt0 => ?_⟩
  walk_at "w"
  refine ⟨by show 1 ≤ sizeLine; decide, fun pl npl => ?_⟩
  have x8 : Ex H7 (upd (upd H7 t0 (.tup [.str "", .str "", .str "", .str ""])) pl (.lst [.ref t0])) := (Ex.new nt0).trans (Ex.new npl)
  have t8 : Tab a (upd (upd H7 t0 (.tup [.str "", .str "", .str "", .str ""])) pl (.lst [.ref t0])) := Tab.new (Tab.new t7 nt0) npl
  have ht8 : upd (upd H7 t0 (.tup [.str "", .str "", .str "", .str ""])) pl (.lst [.ref t0]) t0 = some (.tup [.str "", .str "", .str "", .str ""]) := upd_old upd_same npl
  have hl8 : upd (upd H7 t0 (.tup [.str "", .str "", .str "", .str ""])) pl (.lst [.ref t0]) pl = some (.lst [.ref t0]) := upd_same
  have cpl : cm ≠ pl := fun z => by rw [← z] at npl; exact absurd ((upd_old hc7 nt0).symm.trans npl) (by intro z; cases z)
  generalize upd (upd H7 t0 (.tup [.str "", .str "", .str "", .str ""])) pl (.lst [.ref t0]) = H8 at x8 t8 ht8 hl8 ⊢
  have hp8 := x8 _ _ hp7 trivial
  walk_at "w"
  refine ⟨p, _, dx, _, rfl, hp8, T.c_Joined, T.na_Joined_places, by show 2 < 1000; decide, ?_⟩
  rw [putF_new (["faces", "common"]) rfl (by decide +kernel)]
  walk_at "w"
  refine ⟨by show 1 ≤ sizeLine; decide, fun wy nwy => ?_⟩
  walk_at "w"
  refine ⟨p, _, dx, _, rfl, upd_old upd_same nwy, T.c_Joined, T.na_Joined_ways, by show 3 < 1000; decide, ?_⟩
  rw [putF_new (["faces", "common", "places"]) rfl (by decide +kernel)]
  walk_at "w"
  refine ⟨by decide, fun st nst => ?_⟩
  walk_at "w"
  refine ⟨p, _, dx, _, rfl, upd_old upd_same nst, T.c_Joined, T.na_Joined_steps, by show 4 < 1000; decide, ?_⟩
  rw [putF_new (["faces", "common", "places", "ways"]) rfl (by decide +kernel)]
  walk_at "w"
  refine ⟨by decide, fun en nen => ?_⟩
  walk_at "w"
  refine ⟨p, _, dx, _, rfl, upd_old upd_same nen, T.c_Joined, T.na_Joined_ends, by show 5 < 1000; decide, ?_⟩
  rw [putF_new (["faces", "common", "places", "ways", "steps"]) rfl (by decide +kernel)]
  obtain ⟨e1, nen1⟩ := none_of nen
  obtain ⟨e2, nen2⟩ := none_of nen1
  obtain ⟨_, nen3⟩ := none_of nen2
  obtain ⟨e4, nen4⟩ := none_of nen3
  obtain ⟨_, nen5⟩ := none_of nen4
  obtain ⟨s1', nst1⟩ := none_of nst
  obtain ⟨s2', nst2⟩ := none_of nst1
  obtain ⟨_, nst3⟩ := none_of nst2
  obtain ⟨w1', nwy1⟩ := none_of nwy
  generalize hH9 : upd (upd (upd (upd (upd (upd (upd H8 p _) wy _) p _) st _) p _) en _) p _ = H9
  have hp9 : H9 p = some (.ins a.C_Joined dx (jfields fc cm pl wy st en)) := by rw [← hH9]; exact upd_same
  have he9 : H9 en = some (.lst []) := by rw [← hH9, upd_ne e1]; exact upd_same
  have hs9 : H9 st = some (.lst []) := by rw [← hH9, upd_ne s1', upd_ne (Ne.symm e2), upd_ne s1']; exact upd_same
  have R9 : Fr [p] H8 H9 := by
    rw [← hH9]
    exact ((((((Fr.refl.upd (by simp)).new nwy).upd (by simp)).new nst).upd (by simp)).new nen).upd (by simp)
  have t9 : Tab a H9 := by
    rw [← hH9]
    exact Tab.upd (Tab.new (Tab.upd (Tab.new (Tab.upd (Tab.new (Tab.upd t8 hp8 trivial) nwy) (upd_old upd_same nwy) trivial) nst) (upd_old upd_same nst) trivial) nen) (upd_old upd_same nen) trivial
  clear hH9
  have R89 : Fr [p] H3 H9 := (R17.trans (Fr.of x8)).trans R9
  have stc : st ≠ cm := fun z => by
    rw [z] at nst3
    exact absurd ((x8 _ _ hc7 trivial).symm.trans nst3) (by intro z; cases z)
  have enc : en ≠ cm := fun z => by
    rw [z] at nen5
    exact absurd ((x8 _ _ hc7 trivial).symm.trans nen5) (by intro z; cases z)
  have stp : st ≠ pl := fun z => by
    rw [z] at nst3
    exact absurd (hl8.symm.trans nst3) (by intro z; cases z)
  have enp : en ≠ pl := fun z => by
    rw [z] at nen5
    exact absurd (hl8.symm.trans nen5) (by intro z; cases z)
  have nin : ∀ {b : Addr} {o : HO}, H8 b = some o → (∀ dx fs, o ≠ .ins a.C_Joined dx fs) → b ∉ [p] := fun {b o} hb hn => by
    simp
    exact fun z => hn dx _ (Option.some.inj (hb.symm.trans (by rw [z]; exact hp8)))
  have hc9 : H9 cm = some (.lst []) := R9 _ _ (x8 _ _ hc7 trivial) trivial (by simpa using cp)
  have hl9 : H9 pl = some (.lst [.ref t0]) := R9 _ _ hl8 trivial (nin hl8 (by intro dx fs z; cases z))
  have ht9 : H9 t0 = some (.tup [.str "", .str "", .str "", .str ""]) := R9 _ _ ht8 trivial (nin ht8 (by intro dx fs z; cases z))
  have hf9 : H9 fc = some (.tup [.ref f1, .ref f2]) := R89 _ _ hfc trivial (by simp; exact ne_of hfc hp3 (by intro z; cases z))
  have emp3 : ∀ {g : Addr}, EmptyF a H3 g → EmptyF a H9 g := fun {g} F => F.fr R89 (fun b hb => by
    rw [List.mem_singleton.mp hb]
    exact ⟨_, hp3, (fun kvs z => nomatch z), fun dx fs z => hjf (by injection z)⟩)
  walk_at "w"
  refine ⟨p, dx, _, rfl, hp9, jf_no (by decide +kernel), ?_⟩
  walk_at "w"
  refine ⟨_, rfl, p, dx, fc, cm, pl, wy, st, en, f1, f2, t0, rfl, hp9, hf9, emp3 Ef1, emp3 Ef2, hc9, hl9, ht9, hs9, he9, Ne.symm e2, stp, enp, stc, enc, t9, fun H10 R10 t10 => ?_⟩
  walk_at "w"
  refine k H10 cm _ ?_ t10 (R10 _ _ hp9 trivial (by simp; exact ⟨ne_of hp9 hs9 (by intro z; cases z), ne_of hp9 he9 (by intro z; cases z)⟩)) jf_common (R10 _ _ hc9 trivial (by simp; exact ⟨Ne.symm stc, Ne.symm enc⟩))
  intro b o hb nt nb
  have h9 := R89 b o (x13 b o hb nt) nt nb
  have h8 := (R17.trans (Fr.of x8)) b o (x13 b o hb nt) nt nb
  refine R10 b o h9 nt ?_
  simp
  exact ⟨ne_of_none h8 nst3, ne_of_none h8 nen5⟩

--CUT
section
variable {P : Program} {K : PySem.W.Frag} {mg : Str → Option Value} {base : Heap} {a : Ad} (T : Txt P K mg base a)
include T
theorem kit_ij {i j : Nat} {C D : Addr} (hi : (allL a)[i]? = some D) (hj : (allL a)[j]? = some C) : PySem.W.kitOne K (.ref D) (.ref C) = some (decide (j = i)) := by
  have mC := List.mem_of_getElem? hj
  rw [(ownL T D (List.mem_of_getElem? hi)).kit (ownL T C mC)]
  congr 1
  have nd : (allL a).Nodup := (List.nodup_append.mp (ndL T)).1
  have fe := neFE T mC
  refine decide_eq_decide.mpr ⟨fun z => ?_, fun z => ?_⟩
  · rcases z with z | z
    · obtain ⟨h1, e1⟩ := List.getElem?_eq_some_iff.mp hi
      obtain ⟨h2, e2⟩ := List.getElem?_eq_some_iff.mp hj
      exact nodup_ix nd hj (by rw [hi, z])
    · exact absurd z fe
  · subst z
    exact .inl (Option.some.inj (hj.symm.trans hi))
theorem w_isV {i j : Nat} {C D e dd : Addr} {fs : List (Str × V)} {H : Hp} {Q : VK} (hi : (allL a)[i]? = some D) (hj : (allL a)[j]? = some C) (he : H e = some (EvO (.ref D) dd e)) (hd : H dd = some (.xd fs)) (k : Q (.bl (decide (j = i))) H) : rIsV K [.ref e, .ref C] H Q :=
  ⟨e, _, _, D, dd, fs, _, rfl, .own _, he, excL T D (List.mem_of_getElem? hi), hd, kit_ij T hi hj, k⟩
theorem w_isVF {i : Nat} {D e dd : Addr} {fs : List (Str × V)} {H : Hp} {Q : VK} (hi : (allL a)[i]? = some D) (he : H e = some (EvO (.ref D) dd e)) (hd : H dd = some (.xd fs)) (k : Q (.bl true) H) : rIsV K [.ref e, .ref a.C_FontError] H Q :=
  ⟨e, _, _, D, dd, fs, _, rfl, .own _, he, excL T D (List.mem_of_getElem? hi), hd, kitFE T (List.mem_of_getElem? hi), k⟩
theorem w_isVE {i : Nat} {D e dd : Addr} {fs : List (Str × V)} {H : Hp} {Q : VK} (hi : (allL a)[i]? = some D) (he : H e = some (EvO (.ref D) dd e)) (hd : H dd = some (.xd fs)) (k : Q (.bl true) H) : rIsV K [.ref e, .ty "ValueError"] H Q :=
  ⟨e, _, _, D, dd, fs, _, rfl, .ty _, he, excL T D (List.mem_of_getElem? hi), hd, (ownL T D (List.mem_of_getElem? hi)).kitVE, k⟩
theorem w_isP {i j : Nat} {C D ae : Addr} {b : Bool} {H : Hp} {Q : VK} (hi : (allL a)[i]? = some D) (hj : (allL a)[j]? = some C) (e : decide (j = i) = b) (k : Q (.bl b) H) : rIsN K ae (.ref D) none [.ref ae, .ref C] H Q :=
  ⟨_, _, D, b, rfl, .own _, rfl, excL T D (List.mem_of_getElem? hi), rfl, by rw [← e]; exact kit_ij T hi hj, k⟩
theorem w_isPE {i : Nat} {D ae : Addr} {H : Hp} {Q : VK} (hi : (allL a)[i]? = some D) (k : Q (.bl true) H) : rIsN K ae (.ref D) none [.ref ae, .ty "ValueError"] H Q :=
  ⟨_, _, D, true, rfl, .ty _, rfl, excL T D (List.mem_of_getElem? hi), rfl, (ownL T D (List.mem_of_getElem? hi)).kitVE, k⟩
end
def kindsL (i : Nat) : List Bool := [decide (0 = i), decide (1 = i), decide (2 = i), decide (3 = i), decide (4 = i), decide (5 = i), decide (6 = i), decide (7 = i), decide (8 = i), decide (9 = i), decide (10 = i), decide (11 = i), decide (12 = i), decide (13 = i), decide (14 = i), decide (15 = i), decide (16 = i), decide (17 = i), true]
theorem sameEx {H H' : Hp} (s : Same H H') : Ex H H' := fun b o h _ => s b o h
/-- a list under way beside another one -/
structure PlSt (H0 G : Hp) (lp l : Addr) (ys xs : List V) : Prop where
  same : Same H0 G
  one : G lp = some (.lst ys)
  two : G l = some (.lst xs)
  nw : H0 l = none
  ne : l ≠ lp
theorem PlSt.cat {H0 G : Hp} {lp l : Addr} {ys xs zs : List V} {Q : VK} (S : PlSt H0 G lp l ys xs) (h1 : zs.length ≤ sizeLine) (h2 : xs.length + zs.length ≤ sizeLine) (k : ∀ G' l', PlSt H0 G' lp l' ys (xs ++ zs) → Q (.ref l') G') :
    zs.length ≤ sizeLine ∧ ∀ p, G p = none → rCat (.ref l) (.ref p) (upd G p (.lst zs)) Q :=
  ⟨h1, fun p np => w_cat (upd_old S.two np) upd_same h2 fun q nq => k _ _ ⟨(S.same.trans (Same.new np)).trans (Same.new nq), upd_old (upd_old S.one np) nq, upd_same, S.same.free ((Same.new np).free nq), fun z => by rw [z] at nq; rw [upd_old S.one np] at nq; cases nq⟩⟩
theorem PlSt.app {H0 G : Hp} {lp l : Addr} {ys xs zs : List V} (S : PlSt H0 G lp l ys xs) : PlSt H0 (upd G l (.lst zs)) lp l ys zs :=
  ⟨fun b o hb => by rw [upd_ne (ne_of_none hb S.nw)]; exact S.same b o hb, by rw [upd_ne (Ne.symm S.ne)]; exact S.one, upd_same, S.nw, S.ne⟩
theorem lst_cat {H0 H : Hp} {l : Addr} {xs zs : List V} {Q : VK} (s : Same H0 H) (hl : H l = some (.lst xs)) (h1 : zs.length ≤ sizeLine) (h2 : xs.length + zs.length ≤ sizeLine) (k : ∀ H' l', Same H0 H' → H' l' = some (.lst (xs ++ zs)) → Q (.ref l') H') :
    zs.length ≤ sizeLine ∧ ∀ p, H p = none → rCat (.ref l) (.ref p) (upd H p (.lst zs)) Q :=
  ⟨h1, fun p np => w_cat (upd_old hl np) upd_same h2 fun q nq => k _ _ ((s.trans (Same.new np)).trans (Same.new nq)) upd_same⟩
theorem kinds_two : ∀ i : Nat, i < 16 → ((kindsL i).filter id).length = 2 := by decide

def sp_Font_undo (K : PySem.W.Frag) (a : Ad) : Sp := sp1 fun s H Q E => ∃ (p dx ro pr pa : Addr) (r : Rows) (sp : Int), s = .ref p ∧ FontAt a H p dx ro pr pa r sp ∧ H pa = some (.lst []) ∧ E (.ref a.C_NothingToUndo) none H
theorem ok_Font_undo {P : Program} {w : World} {K : PySem.W.Frag} {mg : Str → Option Value} {base : Heap} {a : Ad} (T : Txt P K mg base a) : FnOk P w K mg base (L2.CX P w) 1 a.f_Font_undo a.d_Font_undo (["self"] : List Str) (sp_Font_undo K a) := by
  refine T.F_Font_undo.okX sc_Font_undo (fun vs H Q E h => sp1_len h) (fun cdv A outer s H vs Q E hr h => ?_)
  have hu := hu_of hr
  refine ⟨_, (pss_cons (ps_if (pt_cmpR op_eq (pe_callB qc_len (by rfl) T.n_len bb_len (pa_cons (pe_fld (pv 0) rfl) pa_nil)) pe_int (nomark _)) (pss_one (ps_rs rfl (takes_of rfl rfl rfl rfl) (pmk_own PySem.F.excBase_ValueError T.xi_NothingToUndo T.g_NothingToUndo T.kp_NothingToUndo (raises_own T.X_NothingToUndo.hs T.ty_NothingToUndo) rfl))) pss_nil)
      (pss_one ps_never)), ?_⟩
  try dsimp only [L2.cxOf]
  obtain ⟨s0, rfl, p, dx, ro, pr, pa, r, sp, rfl, F, hpa, k⟩ := h
  rw [show L2.start (["self"] : List Str) [(.ref p)] = ([some ((.ref p))] : L2.St) from rfl]
  walk_at "w"
  refine F.pastF T ?_
  walk_at "w"
  refine it_pos rfl ?_
  walk_at "w"
  exact k

def sp_extreme (K : PySem.W.Frag) (a : Ad) : Sp := sp1 fun s H Q E => ∃ (p dx cm : Addr) (fs : List (Str × V)), s = .ref p ∧ H p = some (.ins a.C_Joined dx fs) ∧ fs.lookup ("common" : Str) = some (.ref cm) ∧ H cm = some (.lst []) ∧ ∀ H', Same H H' → E (.ref a.C_NoCommonLetters) none H'
theorem ok_extreme {P : Program} {w : World} {K : PySem.W.Frag} {mg : Str → Option Value} {base : Heap} {a : Ad} (T : Txt P K mg base a) : FnOk P w K mg base (L2.CX P w) 5 a.f_extreme a.d_extreme (["joined"] : List Str) (sp_extreme K a) := by
  refine T.F_extreme.okX sc_extreme (fun vs H Q E h => sp1_len h) (fun cdv A outer s H vs Q E hr h => ?_)
  have hu := hu_of hr
  refine ⟨_, (pss_cons (ps_if (pt_cmpR (op_eqD hr.units) (pe_prop (pv 0) T.c_Joined T.P_Joined_letters (ok_Joined_letters T) (hr.mono (by decide)) T.B_Joined_letters .nil pass0 rfl) (pe_lst pa_nil) (nomark _)) (pss_one (ps_rs rfl (takes_of rfl rfl rfl rfl) (pmk_own PySem.F.excBase_ValueError T.xi_NoCommonLetters T.g_NoCommonLetters T.kp_NoCommonLetters (raises_own T.X_NoCommonLetters.hs T.ty_NoCommonLetters) rfl))) pss_nil)
      pss_never), ?_⟩
  try dsimp only [L2.cxOf]
  obtain ⟨s0, rfl, p, dx, cm, fs, rfl, hp, hf, hcm, k⟩ := h
  rw [show L2.start (["joined", "ring", "rate", "values", "back", "better", "excess", "where"] : List Str) [(.ref p)] = ([some ((.ref p)), none, none, none, none, none, none, none] : L2.St) from rfl]
  walk_at "w"
  refine ⟨p, dx, _, rfl, hp, _, rfl, p, dx, cm, fs, [], rfl, hp, hf, hcm, fun l nl => ?_⟩
  walk_at "w"
  refine ⟨by decide, fun l2 nl2 => ?_⟩
  refine ⟨.list [], .list [], .lst (SqL.of (upd_old upd_same nl2)) .nil, .lst (SqL.of upd_same) .nil, rfl, rfl, ?_⟩
  walk_at "w"
  rw [show PyData.eqv (.list []) (.list []) = true from rfl]
  walk_at "w"
  exact k _ ((Same.new nl).trans (Same.new nl2))

def sp_worst_rate (K : PySem.W.Frag) (a : Ad) : Sp := sp1 fun s H Q E => ∃ (p dx cm : Addr) (fs : List (Str × V)), s = .ref p ∧ H p = some (.ins a.C_Joined dx fs) ∧ fs.lookup ("common" : Str) = some (.ref cm) ∧ H cm = some (.lst []) ∧ ∀ H', Same H H' → E (.ref a.C_NoCommonLetters) none H'
theorem ok_worst_rate {P : Program} {w : World} {K : PySem.W.Frag} {mg : Str → Option Value} {base : Heap} {a : Ad} (T : Txt P K mg base a) : FnOk P w K mg base (L2.CX P w) 6 a.f_worst_rate a.d_worst_rate (["joined"] : List Str) (sp_worst_rate K a) := by
  refine T.F_worst_rate.okX sc_worst_rate (fun vs H Q E h => sp1_len h) (fun cdv A outer s H vs Q E hr h => ?_)
  have hu := hu_of hr
  refine ⟨_, (pss_one (ps_ret (pe_fld (pe_callSD (ok_extreme T) (hr.mono (by decide)) rfl T.g_extreme T.k_extreme T.B_extreme .nil (fun σ => passAt (takes_of rfl rfl rfl rfl) σ) (pa_cons (pv 0) pa_nil)) rfl))), ?_⟩
  try dsimp only [L2.cxOf]
  obtain ⟨s0, rfl, p, dx, cm, fs, rfl, hp, hf, hcm, k⟩ := h
  rw [show L2.start (["joined"] : List Str) [(.ref p)] = ([some ((.ref p))] : L2.St) from rfl]
  walk_at "w"
  exact ⟨_, rfl, p, dx, cm, fs, rfl, hp, hf, hcm, k⟩

def sp_law_kinds (K : PySem.W.Frag) (a : Ad) : Sp := sp1 fun x H Q _ => ∃ (e dd D : Addr) (fs : List (Str × V)) (i : Nat), x = .ref e ∧ i < 16 ∧ (allL a)[i]? = some D ∧ H e = some (EvO (.ref D) dd e) ∧ H dd = some (.xd fs) ∧ ∀ H', Same H H' → Q (.bl true) H'
theorem ok_law_kinds {P : Program} {w : World} {K : PySem.W.Frag} {mg : Str → Option Value} {base : Heap} {a : Ad} (T : Txt P K mg base a) : FnOk P w K mg base CX0 1 a.f_law_kinds a.d_law_kinds (["_law_e"] : List Str) (sp_law_kinds K a) := by
  refine T.F_law_kinds.ok sc_law_kinds (fun vs H Q E h => sp1_len h) (fun cdv A outer s H vs Q E hr h => ?_)
  have hu := hu_of hr
  refine ⟨_, (pss_cons (ps_set (i := 1) sc_law_kinds.nd rfl (Or.inl rfl) (pe_lst (pa_cons (pe_callB call_isV (by rfl) T.n_isinstance bb_isinstance (pa_cons (pv 0) (pa_cons (pe_glob (v := .ref a.C_InvalidGlyph) rfl T.E_InvalidGlyph.gC rfl) pa_nil))) (pa_cons (pe_callB call_isV (by rfl) T.n_isinstance bb_isinstance (pa_cons (pv 0) (pa_cons (pe_glob (v := .ref a.C_InvalidNumber) rfl T.E_InvalidNumber.gC rfl) pa_nil))) (pa_cons (pe_callB call_isV (by rfl) T.n_isinstance bb_isinstance (pa_cons (pv 0) (pa_cons (pe_glob (v := .ref a.C_UnknownGlyph) rfl T.E_UnknownGlyph.gC rfl) pa_nil))) pa_nil)))))
      (pss_cons (ps_set (i := 1) sc_law_kinds.nd rfl (Or.inl rfl) (pe_op op_cat (pv 1) (pe_lst (pa_cons (pe_callB call_isV (by rfl) T.n_isinstance bb_isinstance (pa_cons (pv 0) (pa_cons (pe_glob (v := .ref a.C_TooMany) rfl T.E_TooMany.gC rfl) pa_nil))) (pa_cons (pe_callB call_isV (by rfl) T.n_isinstance bb_isinstance (pa_cons (pv 0) (pa_cons (pe_glob (v := .ref a.C_Overlap) rfl T.E_Overlap.gC rfl) pa_nil))) (pa_cons (pe_callB call_isV (by rfl) T.n_isinstance bb_isinstance (pa_cons (pv 0) (pa_cons (pe_glob (v := .ref a.C_InUse) rfl T.E_InUse.gC rfl) pa_nil))) (pa_cons (pe_callB call_isV (by rfl) T.n_isinstance bb_isinstance (pa_cons (pv 0) (pa_cons (pe_glob (v := .ref a.C_DeedRefused) rfl T.E_DeedRefused.gC rfl) pa_nil))) pa_nil)))))))
      (pss_cons (ps_set (i := 1) sc_law_kinds.nd rfl (Or.inl rfl) (pe_op op_cat (pv 1) (pe_lst (pa_cons (pe_callB call_isV (by rfl) T.n_isinstance bb_isinstance (pa_cons (pv 0) (pa_cons (pe_glob (v := .ref a.C_InvalidLine) rfl T.E_InvalidLine.gC rfl) pa_nil))) (pa_cons (pe_callB call_isV (by rfl) T.n_isinstance bb_isinstance (pa_cons (pv 0) (pa_cons (pe_glob (v := .ref a.C_UnknownLetter) rfl T.E_UnknownLetter.gC rfl) pa_nil))) (pa_cons (pe_callB call_isV (by rfl) T.n_isinstance bb_isinstance (pa_cons (pv 0) (pa_cons (pe_glob (v := .ref a.C_InvalidState) rfl T.E_InvalidState.gC rfl) pa_nil))) pa_nil))))))
      (pss_cons (ps_set (i := 1) sc_law_kinds.nd rfl (Or.inl rfl) (pe_op op_cat (pv 1) (pe_lst (pa_cons (pe_callB call_isV (by rfl) T.n_isinstance bb_isinstance (pa_cons (pv 0) (pa_cons (pe_glob (v := .ref a.C_InvalidText) rfl T.E_InvalidText.gC rfl) pa_nil))) (pa_cons (pe_callB call_isV (by rfl) T.n_isinstance bb_isinstance (pa_cons (pv 0) (pa_cons (pe_glob (v := .ref a.C_Contradiction) rfl T.E_Contradiction.gC rfl) pa_nil))) (pa_cons (pe_callB call_isV (by rfl) T.n_isinstance bb_isinstance (pa_cons (pv 0) (pa_cons (pe_glob (v := .ref a.C_NameTaken) rfl T.E_NameTaken.gC rfl) pa_nil))) pa_nil))))))
      (pss_cons (ps_set (i := 1) sc_law_kinds.nd rfl (Or.inl rfl) (pe_op op_cat (pv 1) (pe_lst (pa_cons (pe_callB call_isV (by rfl) T.n_isinstance bb_isinstance (pa_cons (pv 0) (pa_cons (pe_glob (v := .ref a.C_UnknownName) rfl T.E_UnknownName.gC rfl) pa_nil))) (pa_cons (pe_callB call_isV (by rfl) T.n_isinstance bb_isinstance (pa_cons (pv 0) (pa_cons (pe_glob (v := .ref a.C_UnknownKind) rfl T.E_UnknownKind.gC rfl) pa_nil))) (pa_cons (pe_callB call_isV (by rfl) T.n_isinstance bb_isinstance (pa_cons (pv 0) (pa_cons (pe_glob (v := .ref a.C_InvalidOptions) rfl T.E_InvalidOptions.gC rfl) pa_nil))) pa_nil))))))
      (pss_cons (ps_set (i := 1) sc_law_kinds.nd rfl (Or.inl rfl) (pe_op op_cat (pv 1) (pe_lst (pa_cons (pe_callB call_isV (by rfl) T.n_isinstance bb_isinstance (pa_cons (pv 0) (pa_cons (pe_glob (v := .ref a.C_NothingToUndo) rfl T.g_NothingToUndo rfl) pa_nil))) (pa_cons (pe_callB call_isV (by rfl) T.n_isinstance bb_isinstance (pa_cons (pv 0) (pa_cons (pe_glob (v := .ref a.C_NoCommonLetters) rfl T.g_NoCommonLetters rfl) pa_nil))) (pa_cons (pe_callB call_isV (by rfl) T.n_isinstance bb_isinstance (pa_cons (pv 0) (pa_cons (pe_glob (v := .ref a.C_FontError) rfl T.g_FontError rfl) pa_nil))) pa_nil))))))
      (pss_one (ps_ret (pe_and (pe_cmpR op_eq (pe_callB qc_len (by rfl) T.n_len bb_len (pa_cons (pe_lc (own := [("_law_kind", 2)]) (g := gName 2) (by rfl) sc_law_kinds.nd (pi_list (pv 1)) (blkOk_by (own := [("_law_kind", 2)]) (N := ["_law_e", "_law_kinds_here", "_law_kind"]) (sc := defScope s_law_kinds) (by decide +kernel)) (fun _ _ _ _ _ => (pg_name (i := 2) sc_law_kinds.nd rfl (Or.inl rfl))) (fun _ _ _ _ _ => (pts_one (pt_val (pv 2)))) (fun _ _ _ _ _ => (pv 2))) pa_nil)) pe_int (nomark _)) (pe_and (pe_callB call_isV (by rfl) T.n_isinstance bb_isinstance (pa_cons (pv 0) (pa_cons (pe_glob (v := .ref a.C_FontError) rfl T.g_FontError rfl) pa_nil))) (pe_one (pe_callB call_isV (by rfl) T.n_isinstance bb_isinstance (pa_cons (pv 0) (pa_cons (pe_bltn (v := .ty "ValueError") (by rfl) T.n_ValueError bb_ValueError rfl) pa_nil)))))))))))))), ?_⟩
  try dsimp only [L2.cxOf]
  obtain ⟨x, rfl, e, dd, D, fs, i, rfl, hi16, hi, he, hd, k⟩ := h
  rw [show L2.start (["_law_e", "_law_kinds_here", "_law_kind"] : List Str) [(.ref e)] = ([some ((.ref e)), none, none] : L2.St) from rfl]
  have s0 : Same H H := fun _ _ z => z
  walk_at "w"
  refine w_isV T (j := 0) hi rfl (s0 _ _ he) (s0 _ _ hd) ?_
  walk_at "w"
  refine w_isV T (j := 1) hi rfl (s0 _ _ he) (s0 _ _ hd) ?_
  walk_at "w"
  refine w_isV T (j := 2) hi rfl (s0 _ _ he) (s0 _ _ hd) ?_
  walk_at "w"
  refine ⟨by show 3 ≤ sizeLine; decide, fun l0 n0 => ?_⟩
  have hl1 : upd H l0 (.lst [.bl (decide (0 = i)), .bl (decide (1 = i)), .bl (decide (2 = i))]) l0 = some (.lst [.bl (decide (0 = i)), .bl (decide (1 = i)), .bl (decide (2 = i))]) := upd_same
  have s1 : Same H (upd H l0 (.lst [.bl (decide (0 = i)), .bl (decide (1 = i)), .bl (decide (2 = i))])) := Same.new n0
  generalize upd H l0 (.lst [.bl (decide (0 = i)), .bl (decide (1 = i)), .bl (decide (2 = i))]) = H1 at hl1 s1 ⊢
  walk_at "w"
  refine w_isV T (j := 3) hi rfl (s1 _ _ he) (s1 _ _ hd) ?_
  walk_at "w"
  refine w_isV T (j := 4) hi rfl (s1 _ _ he) (s1 _ _ hd) ?_
  walk_at "w"
  refine w_isV T (j := 5) hi rfl (s1 _ _ he) (s1 _ _ hd) ?_
  walk_at "w"
  refine w_isV T (j := 6) hi rfl (s1 _ _ he) (s1 _ _ hd) ?_
  walk_at "w"
  refine lst_cat s1 hl1 (by show 4 ≤ sizeLine; decide) (by show 7 ≤ sizeLine; decide) fun H2 l1 s2 hl2 => ?_
  walk_at "w"
  refine w_isV T (j := 7) hi rfl (s2 _ _ he) (s2 _ _ hd) ?_
  walk_at "w"
  refine w_isV T (j := 8) hi rfl (s2 _ _ he) (s2 _ _ hd) ?_
  walk_at "w"
  refine w_isV T (j := 9) hi rfl (s2 _ _ he) (s2 _ _ hd) ?_
  walk_at "w"
  refine lst_cat s2 hl2 (by show 3 ≤ sizeLine; decide) (by show 10 ≤ sizeLine; decide) fun H3 l2 s3 hl3 => ?_
  walk_at "w"
  refine w_isV T (j := 10) hi rfl (s3 _ _ he) (s3 _ _ hd) ?_
  walk_at "w"
  refine w_isV T (j := 11) hi rfl (s3 _ _ he) (s3 _ _ hd) ?_
  walk_at "w"
  refine w_isV T (j := 12) hi rfl (s3 _ _ he) (s3 _ _ hd) ?_
  walk_at "w"
  refine lst_cat s3 hl3 (by show 3 ≤ sizeLine; decide) (by show 13 ≤ sizeLine; decide) fun H4 l3 s4 hl4 => ?_
  walk_at "w"
  refine w_isV T (j := 13) hi rfl (s4 _ _ he) (s4 _ _ hd) ?_
  walk_at "w"
  refine w_isV T (j := 14) hi rfl (s4 _ _ he) (s4 _ _ hd) ?_
  walk_at "w"
  refine w_isV T (j := 15) hi rfl (s4 _ _ he) (s4 _ _ hd) ?_
  walk_at "w"
  refine lst_cat s4 hl4 (by show 3 ≤ sizeLine; decide) (by show 16 ≤ sizeLine; decide) fun H5 l4 s5 hl5 => ?_
  walk_at "w"
  refine w_isV T (j := 16) hi rfl (s5 _ _ he) (s5 _ _ hd) ?_
  walk_at "w"
  refine w_isV T (j := 17) hi rfl (s5 _ _ he) (s5 _ _ hd) ?_
  walk_at "w"
  refine w_isVF T hi (s5 _ _ he) (s5 _ _ hd) ?_
  walk_at "w"
  refine lst_cat s5 hl5 (by show 3 ≤ sizeLine; decide) (by show 19 ≤ sizeLine; decide) fun H6 l5 s6 hl6 => ?_
  walk_at "w"
  have hk : H6 l5 = some (.lst ((kindsL i).map V.bl)) := hl6
  have two := kinds_two i hi16
  refine ⟨l5, rfl, ⟨_, SqL.of hk⟩, lcsW (walk_list (xs := (kindsL i).map V.bl)) (fun D n H' => H6 D = none ∧ H' = upd H6 D (.lst ((((kindsL i).take n).filter id).map V.bl))) (fun D hD => ⟨hD, rfl⟩) (fun D n H' _ ⟨hD, e⟩ => by rw [e]; exact SqL.of (upd_old hk hD)) ?_ ?_⟩
  · rintro D n x H7 H' hn ⟨hD, rfl⟩ ⟨rfl, hx⟩
    rw [List.getElem?_map] at hx
    obtain ⟨c, hc, rfl⟩ := Option.map_eq_some_iff.mp hx
    have lt : (((kindsL i).take n).filter id).length < sizeLine := Nat.lt_of_le_of_lt (Nat.le_trans (List.length_filter_le _ _) (Nat.le_trans (List.length_take_le _ _) (show n ≤ 19 from by rw [List.length_map] at hn; exact Nat.le_of_lt hn))) (by decide)
    walk_at "w"
    refine ⟨rfl, ?_⟩
    walk_at "w"
    cases c with
    | true =>
      walk_at "w"
      refine ⟨_, upd_same, by rw [List.length_map]; exact lt, hD, ?_⟩
      rw [upd_upd, List.take_add_one, hc, List.filter_append, List.map_append]
      rfl
    | false =>
      walk_at "w"
      refine ⟨hD, ?_⟩
      rw [List.take_add_one, hc, List.filter_append]
      simp
  · rintro D H' ⟨hD, rfl⟩
    rw [List.length_map, List.take_length]
    have s7 : Same H (upd H6 D (.lst (((kindsL i).filter id).map V.bl))) := s6.trans (Same.new hD)
    walk_at "w"
    refine it_pos (by rw [List.length_map, two]; rfl) ?_
    walk_at "w"
    refine w_isVF T hi (s7 _ _ he) (s7 _ _ hd) ?_
    walk_at "w"
    refine w_isVE T hi (s7 _ _ he) (s7 _ _ hd) ?_
    exact k _ s7

def sp_law_plain (K : PySem.W.Frag) (a : Ad) : Sp := sp1 fun x H Q _ => (x = .int 0 ∨ x = .int 1) ∧ Tab a H ∧ ∀ H', Ex H H' → Tab a H' → Q (.bl true) H'
theorem ok_law_plain {P : Program} {w : World} {K : PySem.W.Frag} {mg : Str → Option Value} {base : Heap} {a : Ad} (T : Txt P K mg base a) : FnOk P w K mg base CX0 12 a.f_law_plain a.d_law_plain (["_law_way"] : List Str) (sp_law_plain K a) := by
  refine T.F_law_plain.ok sc_law_plain (fun vs H Q E h => sp1_len h) (fun cdv A outer s H vs Q E hr h => ?_)
  have hu := hu_of hr
  refine ⟨_, (pss_cons (ps_try_as (i := 1) rfl rfl sc_law_plain.nd rfl rfl ⟨rfl, by decide, .inl T.g_FontError⟩ takes0 (fun W pn xe tk po => (pss_cons (ps_if (pt_cmpR op_eq (pv 0) pe_int (nomark _)) (pss_one (ps_expr (pe_mt0S (pe_mkS T.M_Font (ok_Font_init T) (hr.mono (by decide)) rfl T.g_Font T.B1_Font_init T.V1_Font_init (fun σ => passAt tk σ) (pa_cons pe_dnewK pa_nil)) T.c_Font T.M_Font_undo (ok_Font_undo T) (hr.mono (by decide)) T.B_Font_undo .nil (fun σ => passAt tk σ)))) pss_nil)
      (pss_one (ps_if (pt_cmpR op_eq (pv 0) pe_int (nomark _)) (pss_one (ps_expr (pe_callSD (ok_worst_rate T) (hr.mono (by decide)) rfl T.g_worst_rate T.k_worst_rate T.B_worst_rate .nil (fun σ => passAt tk σ) (pa_cons (pe_mkS T.M_Joined (ok_Joined_init T) (hr.mono (by decide)) rfl T.g_Joined T.B_Joined_init .nil (fun σ => passAt tk σ) (pa_cons (pe_mkS T.M_Font (ok_Font_init T) (hr.mono (by decide)) rfl T.g_Font T.B1_Font_init T.V1_Font_init (fun σ => passAt tk σ) (pa_cons pe_dnewK pa_nil)) (pa_cons (pe_mkS T.M_Font (ok_Font_init T) (hr.mono (by decide)) rfl T.g_Font T.B1_Font_init T.V1_Font_init (fun σ => passAt tk σ) (pa_cons pe_dnewK pa_nil)) pa_nil))) pa_nil)))) pss_nil)))) (fun ae oe cls de pn hz hf => (pss_cons (ps_set (i := 2) sc_law_plain.nd rfl (Or.inl rfl) (pe_lst (pa_cons (pe_callB (call_isN hz hf) (by rfl) T.n_isinstance bb_isinstance (pa_cons (pv 1) (pa_cons (pe_glob (v := .ref a.C_NothingToUndo) rfl T.g_NothingToUndo rfl) pa_nil))) (pa_cons (pe_callB (call_isN hz hf) (by rfl) T.n_isinstance bb_isinstance (pa_cons (pv 1) (pa_cons (pe_glob (v := .ref a.C_NoCommonLetters) rfl T.g_NoCommonLetters rfl) pa_nil))) pa_nil))))
      (pss_cons (ps_set (i := 3) sc_law_plain.nd rfl (Or.inl rfl) (pe_lst (pa_cons (pe_callB (call_isN hz hf) (by rfl) T.n_isinstance bb_isinstance (pa_cons (pv 1) (pa_cons (pe_glob (v := .ref a.C_InvalidGlyph) rfl T.E_InvalidGlyph.gC rfl) pa_nil))) (pa_cons (pe_callB (call_isN hz hf) (by rfl) T.n_isinstance bb_isinstance (pa_cons (pv 1) (pa_cons (pe_glob (v := .ref a.C_InvalidNumber) rfl T.E_InvalidNumber.gC rfl) pa_nil))) (pa_cons (pe_callB (call_isN hz hf) (by rfl) T.n_isinstance bb_isinstance (pa_cons (pv 1) (pa_cons (pe_glob (v := .ref a.C_UnknownGlyph) rfl T.E_UnknownGlyph.gC rfl) pa_nil))) pa_nil)))))
      (pss_cons (ps_set (i := 3) sc_law_plain.nd rfl (Or.inl rfl) (pe_op op_cat (pv 3) (pe_lst (pa_cons (pe_callB (call_isN hz hf) (by rfl) T.n_isinstance bb_isinstance (pa_cons (pv 1) (pa_cons (pe_glob (v := .ref a.C_TooMany) rfl T.E_TooMany.gC rfl) pa_nil))) (pa_cons (pe_callB (call_isN hz hf) (by rfl) T.n_isinstance bb_isinstance (pa_cons (pv 1) (pa_cons (pe_glob (v := .ref a.C_Overlap) rfl T.E_Overlap.gC rfl) pa_nil))) (pa_cons (pe_callB (call_isN hz hf) (by rfl) T.n_isinstance bb_isinstance (pa_cons (pv 1) (pa_cons (pe_glob (v := .ref a.C_InUse) rfl T.E_InUse.gC rfl) pa_nil))) pa_nil))))))
      (pss_cons (ps_expr (show PE _ _ (tBM K _ _ _ _) from pe_bm PySem.F.plainAttrs_list PySem.F.slot_list_append PySem.F.type_list_append mt_append (pv 3) (pa_cons (pe_callB (call_isN hz hf) (by rfl) T.n_isinstance bb_isinstance (pa_cons (pv 1) (pa_cons (pe_glob (v := .ref a.C_DeedRefused) rfl T.E_DeedRefused.gC rfl) pa_nil))) pa_nil)))
      (pss_cons (ps_set (i := 3) sc_law_plain.nd rfl (Or.inl rfl) (pe_op op_cat (pv 3) (pe_lst (pa_cons (pe_callB (call_isN hz hf) (by rfl) T.n_isinstance bb_isinstance (pa_cons (pv 1) (pa_cons (pe_glob (v := .ref a.C_InvalidLine) rfl T.E_InvalidLine.gC rfl) pa_nil))) (pa_cons (pe_callB (call_isN hz hf) (by rfl) T.n_isinstance bb_isinstance (pa_cons (pv 1) (pa_cons (pe_glob (v := .ref a.C_UnknownLetter) rfl T.E_UnknownLetter.gC rfl) pa_nil))) (pa_cons (pe_callB (call_isN hz hf) (by rfl) T.n_isinstance bb_isinstance (pa_cons (pv 1) (pa_cons (pe_glob (v := .ref a.C_InvalidState) rfl T.E_InvalidState.gC rfl) pa_nil))) pa_nil))))))
      (pss_cons (ps_set (i := 3) sc_law_plain.nd rfl (Or.inl rfl) (pe_op op_cat (pv 3) (pe_lst (pa_cons (pe_callB (call_isN hz hf) (by rfl) T.n_isinstance bb_isinstance (pa_cons (pv 1) (pa_cons (pe_glob (v := .ref a.C_InvalidText) rfl T.E_InvalidText.gC rfl) pa_nil))) (pa_cons (pe_callB (call_isN hz hf) (by rfl) T.n_isinstance bb_isinstance (pa_cons (pv 1) (pa_cons (pe_glob (v := .ref a.C_Contradiction) rfl T.E_Contradiction.gC rfl) pa_nil))) (pa_cons (pe_callB (call_isN hz hf) (by rfl) T.n_isinstance bb_isinstance (pa_cons (pv 1) (pa_cons (pe_glob (v := .ref a.C_NameTaken) rfl T.E_NameTaken.gC rfl) pa_nil))) pa_nil))))))
      (pss_cons (ps_set (i := 3) sc_law_plain.nd rfl (Or.inl rfl) (pe_op op_cat (pv 3) (pe_lst (pa_cons (pe_callB (call_isN hz hf) (by rfl) T.n_isinstance bb_isinstance (pa_cons (pv 1) (pa_cons (pe_glob (v := .ref a.C_UnknownName) rfl T.E_UnknownName.gC rfl) pa_nil))) (pa_cons (pe_callB (call_isN hz hf) (by rfl) T.n_isinstance bb_isinstance (pa_cons (pv 1) (pa_cons (pe_glob (v := .ref a.C_UnknownKind) rfl T.E_UnknownKind.gC rfl) pa_nil))) (pa_cons (pe_callB (call_isN hz hf) (by rfl) T.n_isinstance bb_isinstance (pa_cons (pv 1) (pa_cons (pe_glob (v := .ref a.C_InvalidOptions) rfl T.E_InvalidOptions.gC rfl) pa_nil))) pa_nil))))))
      (pss_one (ps_ret (pe_and (pe_cmpR (show OpR _ _ (rEqD K) from (op_eqD hr.units)) (pv 2) (pe_lst (pa_cons (pe_cmpR op_eq (pv 0) pe_int (nomark _)) (pa_cons (pe_cmpR op_eq (pv 0) pe_int (nomark _)) pa_nil))) (nomark _)) (pe_and (pe_callB (call_isN hz hf) (by rfl) T.n_isinstance bb_isinstance (pa_cons (pv 1) (pa_cons (pe_bltn (v := .ty "ValueError") (by rfl) T.n_ValueError bb_ValueError rfl) pa_nil))) (pe_one (pe_cmpR (show OpR _ _ (rIn K true) from op_notIn_seq) pe_bl (pv 3) (by rfl))))))))))))))))
      (pss_one (ps_ret pe_bl))), ?_⟩
  try dsimp only [L2.cxOf]
  obtain ⟨x, rfl, hx, tb, k⟩ := h
  rw [show L2.start (["_law_way", "_law_e", "_law_plain_here", "_law_others"] : List Str) [x] = ([some (x), none, none, none] : L2.St) from rfl]
  have run0 : runPA ([] : List (Str × V)) ((([] : List (Str × V)).map (·.1)).mergeSort rankLe) [] = .ok [] := by rw [List.map_nil, List.mergeSort_nil]; rfl
  rcases hx with rfl | rfl
  · walk_at "w"
    refine it_pos (by decide) ?_
    walk_at "w"
    have x0 : Ex H H := fun _ _ z _ => z
    intro d1 nd1
    walk_at "w"
    intro z1 dz1 nz1 ndz1 nzz1
    have nz1a : upd (upd H d1 (.dK [])) dz1 (.own z1) z1 = none := by rw [upd_ne (Ne.symm nzz1)]; exact nz1
    have y1 : Ex H (upd (upd (upd H d1 (.dK [])) dz1 (.own z1)) z1 (.ins a.C_Font dz1 [])) := ((Ex.new nd1).trans (Ex.new ndz1)).trans (Ex.new nz1a)
    have u1 : Tab a (upd (upd (upd H d1 (.dK [])) dz1 (.own z1)) z1 (.ins a.C_Font dz1 [])) := Tab.new (Tab.new (Tab.new tb nd1) ndz1) nz1a
    refine ⟨_, _, _, _, rfl, z1, dz1, d1, [], 250, rfl, rfl, .inl rfl, rfl, upd_same, upd_old (upd_old upd_same ndz1) nz1a, by simp, by decide, by simp, by simp, by decide, by decide, u1, ?_⟩
    rw [run0]
    intro H1 ro1 pr1 pa1 R1 t1 F1 hp1 w11 w21 w31
    refine ⟨rfl, ?_⟩
    have x1 : Ex H H1 := fun b o hb nt => R1 b o (y1 b o (x0 b o hb nt) nt) nt (by simp; exact ne_of_none (upd_old (x0 b o hb nt) nd1) nz1)
    walk_at "w"
    refine ⟨z1, dz1, _, rfl, F1.ins, ff_no (by decide +kernel), ?_⟩
    refine ⟨_, rfl, z1, dz1, ro1, pr1, pa1, [], 250, rfl, F1, hp1, ?_⟩
    refine ⟨true, exmFE T (List.mem_of_getElem? (i := 16) rfl), fun _ ae hae => ?_, fun z => by cases z⟩
    walk_at "w"
    refine w_isP T (i := 16) (j := 16) rfl rfl (show _ = true from rfl) ?_
    walk_at "w"
    refine w_isP T (i := 16) (j := 17) rfl rfl (show _ = false from rfl) ?_
    walk_at "w"
    refine ⟨by show 2 ≤ sizeLine; decide, fun lp np => ?_⟩
    walk_at "w"
    refine w_isP T (i := 16) (j := 0) rfl rfl (show _ = false from rfl) ?_
    walk_at "w"
    refine w_isP T (i := 16) (j := 1) rfl rfl (show _ = false from rfl) ?_
    walk_at "w"
    refine w_isP T (i := 16) (j := 2) rfl rfl (show _ = false from rfl) ?_
    walk_at "w"
    refine ⟨by show 3 ≤ sizeLine; decide, fun l0 n0 => ?_⟩
    obtain ⟨n0a, n0b⟩ := none_of n0
    have S1 : PlSt H1 (upd (upd H1 lp (.lst [.bl true, .bl false])) l0 (.lst [.bl false, .bl false, .bl false])) lp l0 [.bl true, .bl false] [.bl false, .bl false, .bl false] := ⟨(Same.new np).trans (Same.new n0), upd_old upd_same n0, upd_same, n0b, n0a⟩
    generalize upd (upd H1 lp (.lst [.bl true, .bl false])) l0 (.lst [.bl false, .bl false, .bl false]) = G1 at S1 ⊢
    walk_at "w"
    refine w_isP T (i := 16) (j := 3) rfl rfl (show _ = false from rfl) ?_
    walk_at "w"
    refine w_isP T (i := 16) (j := 4) rfl rfl (show _ = false from rfl) ?_
    walk_at "w"
    refine w_isP T (i := 16) (j := 5) rfl rfl (show _ = false from rfl) ?_
    walk_at "w"
    refine S1.cat (by show 3 ≤ sizeLine; decide) (by show 6 ≤ sizeLine; decide) fun G2 l1 S2 => ?_
    walk_at "w"
    refine ⟨.inl ⟨rfl, _, SqL.of S2.two⟩, ?_⟩
    walk_at "w"
    refine w_isP T (i := 16) (j := 6) rfl rfl (show _ = false from rfl) ?_
    walk_at "w"
    refine ⟨l1, _, _, rfl, rfl, S2.two, by show 6 < sizeLine; decide, ?_⟩
    have S3 : PlSt H1 (upd G2 l1 (.lst ([.bl false, .bl false, .bl false] ++ [.bl false, .bl false, .bl false] ++ [.bl false]))) lp l1 [.bl true, .bl false] ([.bl false, .bl false, .bl false] ++ [.bl false, .bl false, .bl false] ++ [.bl false]) := S2.app
    generalize upd G2 l1 (.lst ([.bl false, .bl false, .bl false] ++ [.bl false, .bl false, .bl false] ++ [.bl false])) = G3 at S3 ⊢
    walk_at "w"
    refine w_isP T (i := 16) (j := 7) rfl rfl (show _ = false from rfl) ?_
    walk_at "w"
    refine w_isP T (i := 16) (j := 8) rfl rfl (show _ = false from rfl) ?_
    walk_at "w"
    refine w_isP T (i := 16) (j := 9) rfl rfl (show _ = false from rfl) ?_
    walk_at "w"
    refine S3.cat (by show 3 ≤ sizeLine; decide) (by show 10 ≤ sizeLine; decide) fun G4 l3 S4 => ?_
    walk_at "w"
    refine w_isP T (i := 16) (j := 10) rfl rfl (show _ = false from rfl) ?_
    walk_at "w"
    refine w_isP T (i := 16) (j := 11) rfl rfl (show _ = false from rfl) ?_
    walk_at "w"
    refine w_isP T (i := 16) (j := 12) rfl rfl (show _ = false from rfl) ?_
    walk_at "w"
    refine S4.cat (by show 3 ≤ sizeLine; decide) (by show 13 ≤ sizeLine; decide) fun G5 l4 S5 => ?_
    walk_at "w"
    refine w_isP T (i := 16) (j := 13) rfl rfl (show _ = false from rfl) ?_
    walk_at "w"
    refine w_isP T (i := 16) (j := 14) rfl rfl (show _ = false from rfl) ?_
    walk_at "w"
    refine w_isP T (i := 16) (j := 15) rfl rfl (show _ = false from rfl) ?_
    walk_at "w"
    refine S5.cat (by show 3 ≤ sizeLine; decide) (by show 16 ≤ sizeLine; decide) fun G6 l5 S6 => ?_
    walk_at "w"
    refine ⟨by show 2 ≤ sizeLine; decide, fun lq nq => ?_⟩
    rw [show decide (V.int 0 = V.int 0) = true from decide_eq_true rfl, show decide (V.int 0 = V.int 1) = false from decide_eq_false (by decide)]
    refine ⟨.list [.bool true, .bool false], .list [.bool true, .bool false], .lst (SqL.of (upd_old S6.one nq)) (.cons (.bl _) (.cons (.bl _) .nil)), .lst (SqL.of upd_same) (.cons (.bl _) (.cons (.bl _) .nil)), rfl, rfl, ?_⟩
    rw [show PyData.eqv (.list [.bool true, .bool false]) (.list [.bool true, .bool false]) = true from by decide]
    walk_at "w"
    refine w_isPE T (i := 16) rfl ?_
    walk_at "w"
    refine ⟨l5, _, rfl, .inl (SqL.of (upd_old S6.two nq)), rfl, by decide, ?_⟩
    have sf := S6.same.trans (Same.new (o := .lst [.bl true, .bl false]) nq)
    exact k _ (x1.trans (sameEx sf)) (Tab.same t1 sf)
  · walk_at "w"
    refine it_neg (by decide) ?_
    walk_at "w"
    refine it_pos (by decide) ?_
    walk_at "w"
    have x0 : Ex H H := fun _ _ z _ => z
    intro d1 nd1
    walk_at "w"
    intro z1 dz1 nz1 ndz1 nzz1
    have nz1a : upd (upd H d1 (.dK [])) dz1 (.own z1) z1 = none := by rw [upd_ne (Ne.symm nzz1)]; exact nz1
    have y1 : Ex H (upd (upd (upd H d1 (.dK [])) dz1 (.own z1)) z1 (.ins a.C_Font dz1 [])) := ((Ex.new nd1).trans (Ex.new ndz1)).trans (Ex.new nz1a)
    have u1 : Tab a (upd (upd (upd H d1 (.dK [])) dz1 (.own z1)) z1 (.ins a.C_Font dz1 [])) := Tab.new (Tab.new (Tab.new tb nd1) ndz1) nz1a
    refine ⟨_, _, _, _, rfl, z1, dz1, d1, [], 250, rfl, rfl, .inl rfl, rfl, upd_same, upd_old (upd_old upd_same ndz1) nz1a, by simp, by decide, by simp, by simp, by decide, by decide, u1, ?_⟩
    rw [run0]
    intro H1 ro1 pr1 pa1 R1 t1 F1 hp1 w11 w21 w31
    refine ⟨rfl, ?_⟩
    have x1 : Ex H H1 := fun b o hb nt => R1 b o (y1 b o (x0 b o hb nt) nt) nt (by simp; exact ne_of_none (upd_old (x0 b o hb nt) nd1) nz1)
    walk_at "w"
    intro d2 nd2
    walk_at "w"
    intro z2 dz2 nz2 ndz2 nzz2
    have nz2a : upd (upd H1 d2 (.dK [])) dz2 (.own z2) z2 = none := by rw [upd_ne (Ne.symm nzz2)]; exact nz2
    have y2 : Ex H1 (upd (upd (upd H1 d2 (.dK [])) dz2 (.own z2)) z2 (.ins a.C_Font dz2 [])) := ((Ex.new nd2).trans (Ex.new ndz2)).trans (Ex.new nz2a)
    have u2 : Tab a (upd (upd (upd H1 d2 (.dK [])) dz2 (.own z2)) z2 (.ins a.C_Font dz2 [])) := Tab.new (Tab.new (Tab.new t1 nd2) ndz2) nz2a
    refine ⟨_, _, _, _, rfl, z2, dz2, d2, [], 250, rfl, rfl, .inl rfl, rfl, upd_same, upd_old (upd_old upd_same ndz2) nz2a, by simp, by decide, by simp, by simp, by decide, by decide, u2, ?_⟩
    rw [run0]
    intro H2 ro2 pr2 pa2 R2 t2 F2 hp2 w12 w22 w32
    refine ⟨rfl, ?_⟩
    have x2 : Ex H H2 := fun b o hb nt => R2 b o (y2 b o (x1 b o hb nt) nt) nt (by simp; exact ne_of_none (upd_old (x1 b o hb nt) nd2) nz2)
    have E1 : EmptyF a H2 z1 := ⟨dz1, ro1, pr1, pa1, 250, F1.ex (fun b o hb nt => R2 b o (y2 b o hb nt) nt (by simp; exact ne_of_none (upd_old hb nd2) nz2)), by decide, by decide⟩
    have E2 : EmptyF a H2 z2 := ⟨dz2, ro2, pr2, pa2, 250, F2, by decide, by decide⟩
    walk_at "w"
    intro j dj nj ndj njj
    have nja : upd H2 dj (.own j) j = none := by rw [upd_ne (Ne.symm njj)]; exact nj
    have y3 : Ex H2 (upd (upd H2 dj (.own j)) j (.ins a.C_Joined dj [])) := (Ex.new ndj).trans (Ex.new nja)
    have u3 : Tab a (upd (upd H2 dj (.own j)) j (.ins a.C_Joined dj [])) := Tab.new (Tab.new t2 ndj) nja
    refine ⟨_, _, _, rfl, j, dj, z1, z2, rfl, rfl, rfl, upd_same, E1.ex y3, E2.ex y3, T.ne_jf, u3, fun H3 cm fs R3 t3 hj hf hcm => ⟨rfl, ?_⟩⟩
    have x3 : Ex H H3 := fun b o hb nt => R3 b o (y3 b o (x2 b o hb nt) nt) nt (by simp; exact ne_of_none (x2 b o hb nt) nj)
    walk_at "w"
    refine ⟨_, rfl, j, dj, cm, fs, rfl, hj, hf, hcm, fun H4 s4 => ?_⟩
    have x4 : Ex H H4 := x3.trans (sameEx s4)
    have t4 : Tab a H4 := Tab.same t3 s4
    refine ⟨true, exmFE T (List.mem_of_getElem? (i := 17) rfl), fun _ ae hae => ?_, fun z => by cases z⟩
    walk_at "w"
    refine w_isP T (i := 17) (j := 16) rfl rfl (show _ = false from rfl) ?_
    walk_at "w"
    refine w_isP T (i := 17) (j := 17) rfl rfl (show _ = true from rfl) ?_
    walk_at "w"
    refine ⟨by show 2 ≤ sizeLine; decide, fun lp np => ?_⟩
    walk_at "w"
    refine w_isP T (i := 17) (j := 0) rfl rfl (show _ = false from rfl) ?_
    walk_at "w"
    refine w_isP T (i := 17) (j := 1) rfl rfl (show _ = false from rfl) ?_
    walk_at "w"
    refine w_isP T (i := 17) (j := 2) rfl rfl (show _ = false from rfl) ?_
    walk_at "w"
    refine ⟨by show 3 ≤ sizeLine; decide, fun l0 n0 => ?_⟩
    obtain ⟨n0a, n0b⟩ := none_of n0
    have S1 : PlSt H4 (upd (upd H4 lp (.lst [.bl false, .bl true])) l0 (.lst [.bl false, .bl false, .bl false])) lp l0 [.bl false, .bl true] [.bl false, .bl false, .bl false] := ⟨(Same.new np).trans (Same.new n0), upd_old upd_same n0, upd_same, n0b, n0a⟩
    generalize upd (upd H4 lp (.lst [.bl false, .bl true])) l0 (.lst [.bl false, .bl false, .bl false]) = G1 at S1 ⊢
    walk_at "w"
    refine w_isP T (i := 17) (j := 3) rfl rfl (show _ = false from rfl) ?_
    walk_at "w"
    refine w_isP T (i := 17) (j := 4) rfl rfl (show _ = false from rfl) ?_
    walk_at "w"
    refine w_isP T (i := 17) (j := 5) rfl rfl (show _ = false from rfl) ?_
    walk_at "w"
    refine S1.cat (by show 3 ≤ sizeLine; decide) (by show 6 ≤ sizeLine; decide) fun G2 l1 S2 => ?_
    walk_at "w"
    refine ⟨.inl ⟨rfl, _, SqL.of S2.two⟩, ?_⟩
    walk_at "w"
    refine w_isP T (i := 17) (j := 6) rfl rfl (show _ = false from rfl) ?_
    walk_at "w"
    refine ⟨l1, _, _, rfl, rfl, S2.two, by show 6 < sizeLine; decide, ?_⟩
    have S3 : PlSt H4 (upd G2 l1 (.lst ([.bl false, .bl false, .bl false] ++ [.bl false, .bl false, .bl false] ++ [.bl false]))) lp l1 [.bl false, .bl true] ([.bl false, .bl false, .bl false] ++ [.bl false, .bl false, .bl false] ++ [.bl false]) := S2.app
    generalize upd G2 l1 (.lst ([.bl false, .bl false, .bl false] ++ [.bl false, .bl false, .bl false] ++ [.bl false])) = G3 at S3 ⊢
    walk_at "w"
    refine w_isP T (i := 17) (j := 7) rfl rfl (show _ = false from rfl) ?_
    walk_at "w"
    refine w_isP T (i := 17) (j := 8) rfl rfl (show _ = false from rfl) ?_
    walk_at "w"
    refine w_isP T (i := 17) (j := 9) rfl rfl (show _ = false from rfl) ?_
    walk_at "w"
    refine S3.cat (by show 3 ≤ sizeLine; decide) (by show 10 ≤ sizeLine; decide) fun G4 l3 S4 => ?_
    walk_at "w"
    refine w_isP T (i := 17) (j := 10) rfl rfl (show _ = false from rfl) ?_
    walk_at "w"
    refine w_isP T (i := 17) (j := 11) rfl rfl (show _ = false from rfl) ?_
    walk_at "w"
    refine w_isP T (i := 17) (j := 12) rfl rfl (show _ = false from rfl) ?_
    walk_at "w"
    refine S4.cat (by show 3 ≤ sizeLine; decide) (by show 13 ≤ sizeLine; decide) fun G5 l4 S5 => ?_
    walk_at "w"
    refine w_isP T (i := 17) (j := 13) rfl rfl (show _ = false from rfl) ?_
    walk_at "w"
    refine w_isP T (i := 17) (j := 14) rfl rfl (show _ = false from rfl) ?_
    walk_at "w"
    refine w_isP T (i := 17) (j := 15) rfl rfl (show _ = false from rfl) ?_
    walk_at "w"
    refine S5.cat (by show 3 ≤ sizeLine; decide) (by show 16 ≤ sizeLine; decide) fun G6 l5 S6 => ?_
    walk_at "w"
    refine ⟨by show 2 ≤ sizeLine; decide, fun lq nq => ?_⟩
    rw [show decide (V.int 1 = V.int 0) = false from decide_eq_false (by decide), show decide (V.int 1 = V.int 1) = true from decide_eq_true rfl]
    refine ⟨.list [.bool false, .bool true], .list [.bool false, .bool true], .lst (SqL.of (upd_old S6.one nq)) (.cons (.bl _) (.cons (.bl _) .nil)), .lst (SqL.of upd_same) (.cons (.bl _) (.cons (.bl _) .nil)), rfl, rfl, ?_⟩
    rw [show PyData.eqv (.list [.bool false, .bool true]) (.list [.bool false, .bool true]) = true from by decide]
    walk_at "w"
    refine w_isPE T (i := 17) rfl ?_
    walk_at "w"
    refine ⟨l5, _, rfl, .inl (SqL.of (upd_old S6.two nq)), rfl, by decide, ?_⟩
    have sf := S6.same.trans (Same.new (o := .lst [.bl false, .bl true]) nq)
    exact k _ (x4.trans (sameEx sf)) (Tab.same t4 sf)

/-- the law's bag of draws at b -/
def bagL (it : Addr) (p r s c : Int) : List V := [.ref it, .int p, .int r, .int s, .int c]
structure BagAt (H : Hp) (b it : Addr) : Prop where
  ex : ∃ (ns : List Int) (p r s c : Int), H b = some (.lst (bagL it p r s c)) ∧ H it = some (.lst (ns.map V.int)) ∧ b ≠ it ∧ 0 ≤ p ∧ 0 ≤ s ∧ s < 2147483647
theorem BagAt.lst {H : Hp} {b it : Addr} (B : BagAt H b it) : ∃ xs, H b = some (.lst xs) := by
  obtain ⟨ns, p, r, s, c, h, _⟩ := B.ex
  exact ⟨_, h⟩
theorem BagAt.same {H H' : Hp} {b it : Addr} (B : BagAt H b it) (s : Same H H') : BagAt H' b it := by
  obtain ⟨ns, p, r, s', c, h1, h2, h3⟩ := B.ex
  exact ⟨ns, p, r, s', c, s _ _ h1, s _ _ h2, h3⟩
theorem BagAt.put {H : Hp} {b it : Addr} {ns : List Int} {p r s c : Int} (h2 : H it = some (.lst (ns.map V.int))) (hb : b ≠ it) (hp : 0 ≤ p) (hs : 0 ≤ s) (hs2 : s < 2147483647) : BagAt (upd H b (.lst (bagL it p r s c))) b it :=
  ⟨ns, p, r, s, c, upd_same, by rw [upd_ne (Ne.symm hb)]; exact h2, hb, hp, hs, hs2⟩

def sp_law_bag (K : PySem.W.Frag) (a : Ad) : Sp := sp1 fun x H Q _ => ∃ (s : Addr) (ns : List Int), x = .ref s ∧ SqL K H s (ns.map V.int) ∧ ∀ b it H', H b = none → H it = none → Same H H' → BagAt H' b it → Q (.ref b) H'
theorem ok_law_bag {P : Program} {w : World} {K : PySem.W.Frag} {mg : Str → Option Value} {base : Heap} {a : Ad} (T : Txt P K mg base a) : FnOk P w K mg base CX0 1 a.f_law_bag a.d_law_bag (["_law_script"] : List Str) (sp_law_bag K a) := by
  refine T.F_law_bag.ok sc_law_bag (fun vs H Q E h => sp1_len h) (fun cdv A outer s H vs Q E hr h => ?_)
  have hu := hu_of hr
  refine ⟨_, (pss_one (ps_ret (pe_lst (pa_cons (pe_callTy qc_list (by rfl) T.n_list bb_list (pa_cons (pe_slice sl_list (pv 0) po_none (po_some pe_int)) pa_nil)) (pa_cons pe_int (pa_cons pe_int (pa_cons pe_int (pa_cons pe_int pa_nil)))))))), ?_⟩
  try dsimp only [L2.cxOf]
  obtain ⟨x, rfl, s0, ns, rfl, hS, k⟩ := h
  rw [show L2.start (["_law_script"] : List Str) [(.ref s0)] = ([some ((.ref s0))] : L2.St) from rfl]
  walk_at "w"
  refine w_slL hS fun p1 n1 => ?_
  walk_at "w"
  refine w_listS (SqL.of upd_same) fun p2 n2 => ?_
  walk_at "w"
  refine ⟨by show 5 ≤ sizeLine; decide, fun b n3 => ?_⟩
  have z1 : H p2 = none := (Same.new (o := .lst (cutV (ns.map V.int) none (some 63))) n1).free n2
  have z2 : (upd H p1 (.lst (cutV (ns.map V.int) none (some 63)))) b = none := (Same.new n2).free n3
  have z3 : H b = none := (Same.new n1).free z2
  have e2 : b ≠ p2 := fun z => by
    rw [z, upd_same] at n3
    cases n3
  refine k b p2 _ z3 z1 (Same.upd (Same.upd (Same.new n1) z1) z3) ?_
  obtain ⟨ms, em⟩ : ∃ ms : List Int, cutV (ns.map V.int) none (some 63) = ms.map V.int := by
    unfold cutV
    rw [← List.map_drop, ← List.map_take]
    exact ⟨_, rfl⟩
  rw [em]
  exact BagAt.put upd_same e2 (by decide) (by decide) (by decide)

def sp_law_take (K : PySem.W.Frag) (a : Ad) : Sp := sp2 fun x y H Q _ => ∃ (b it : Addr) (n : Int), x = .ref b ∧ y = .int n ∧ BagAt H b it ∧ 0 < n ∧ n.natAbs < 2 ^ 8000 ∧ ∀ r H', 0 ≤ r → r < n → BagAt H' b it → (∀ c, c ≠ b → H' c = H c) → Q (.int r) H'
theorem ok_law_take {P : Program} {w : World} {K : PySem.W.Frag} {mg : Str → Option Value} {base : Heap} {a : Ad} (T : Txt P K mg base a) : FnOk P w K mg base CX0 1 a.f_law_take a.d_law_take (["_law_bag_here", "_law_size"] : List Str) (sp_law_take K a) := by
  refine T.F_law_take.ok sc_law_take (fun vs H Q E h => sp2_len h) (fun cdv A outer s H vs Q E hr h => ?_)
  have hu := hu_of hr
  refine ⟨_, (pss_cons (ps_if (pt_cmpR op_ge (pe_ix ix_list (pv 0) pe_int (fun _ _ => rfl)) (pe_op op_pow pe_int pe_int) (nomark _)) (pss_cons (ps_set (i := 2) sc_law_take.nd rfl (Or.inl rfl) (pe_op op_mod (pe_callTy qc_int1 (by rfl) T.n_int bb_int (pa_cons (pe_ix ix_list (pv 0) pe_int (fun _ _ => rfl)) pa_nil)) (pv 1)))
      (pss_cons (ps_asg (pe_op op_fdivX (pe_ix ix_list (pv 0) pe_int (fun _ _ => rfl)) (pv 1)) (pg_sub (pv 0) pe_int set_list))
      (pss_one (ps_ret (pv 2))))) pss_nil)
      (pss_cons (ps_set (i := 3) sc_law_take.nd rfl (Or.inl rfl) pe_int)
      (Evl.pss_cut (ps_if (pt_cmpR op_lt (pe_ix ix_list (pv 0) pe_int (fun _ _ => rfl)) (pe_callB qc_len (by rfl) T.n_len bb_len (pa_cons (pe_ix ix_list (pv 0) pe_int (fun _ _ => rfl)) pa_nil)) (nomark _)) (pss_cons (ps_set (i := 3) sc_law_take.nd rfl (Or.inl rfl) (pe_ix ix_list (pe_ix ix_list (pv 0) pe_int (fun _ _ => rfl)) (pe_ix ix_list (pv 0) pe_int (fun _ _ => rfl)) (fun _ _ => rfl)))
      (pss_one (ps_asg (pe_op op_add (pe_ix ix_list (pv 0) pe_int (fun _ _ => rfl)) pe_int) (pg_sub (pv 0) pe_int set_list)))) pss_nil)
      (pss_cons (ps_if (pt_cmpR op_ge (pv 3) (pe_op op_pow pe_int pe_int) (nomark _)) (pss_cons (ps_asg (pe_op op_fdivX (pv 3) (pv 1)) (pg_sub (pv 0) pe_int set_list))
      (pss_one (ps_ret (pe_op op_mod (pe_callTy qc_int1 (by rfl) T.n_int bb_int (pa_cons (pv 3) pa_nil)) (pv 1))))) pss_nil)
      (pss_cons (ps_asg (pe_op op_add (pe_ix ix_list (pv 0) pe_int (fun _ _ => rfl)) pe_int) (pg_sub (pv 0) pe_int set_list))
      (pss_cons (ps_asg (pe_op op_mod (pe_callTy qc_int1 (by rfl) T.n_int bb_int (pa_cons (pe_op op_add (pe_op op_add (pe_op op_mul (pe_ix ix_list (pv 0) pe_int (fun _ _ => rfl)) pe_int) (pv 3)) (pe_op op_mul (pe_ix ix_list (pv 0) pe_int (fun _ _ => rfl)) pe_int)) pa_nil)) pe_int) (pg_sub (pv 0) pe_int set_list))
      (pss_one (ps_ret (pe_op op_mod (pe_op op_fdivX (pe_op op_mod (pe_callTy qc_int1 (by rfl) T.n_int bb_int (pa_cons (pe_op op_mul (pe_ix ix_list (pv 0) pe_int (fun _ _ => rfl)) (pe_ix ix_list (pv 0) pe_int (fun _ _ => rfl))) pa_nil)) pe_int) pe_int) (pv 1)))))))))), ?_⟩
  try dsimp only [L2.cxOf]
  obtain ⟨x, y, rfl, b, it, n, rfl, rfl, B, hn, hz, k⟩ := h
  obtain ⟨ns, p, r, s0, c, hb, hit, hne, hp, hs, hs2⟩ := B.ex
  have dn : ∀ i, CDivX i n := fun i => divX (by omega) hz (by decide) (by decide)
  have mn : ∀ i : Int, 0 ≤ i % n ∧ i % n < n := fun i => ⟨Int.emod_nonneg _ (by omega), Int.emod_lt_of_pos _ hn⟩
  have fr : ∀ (o : HO) (c : Addr), c ≠ b → upd H b o c = H c := fun o c z => upd_ne z
  rw [show L2.start (["_law_bag_here", "_law_size", "_law_digit", "_law_cell"] : List Str) [(.ref b), (.int n)] = ([some ((.ref b)), some ((.int n)), none, none] : L2.St) from rfl]
  walk_at "w"
  refine it_dec (fun c1 => ?_) (fun c1 => ?_)
  · walk_at "w"
    exact k _ _ (mn r).1 (mn r).2 (BagAt.put hit hne hp hs hs2) (fr _)
  · walk_at "w"
    refine ⟨fun σ' H' => ∃ cell p', σ' = [some (.ref b), some (.int n), none, some (.int cell)] ∧ 0 ≤ p' ∧ H' b = some (.lst (bagL it p' r s0 c)) ∧ ∀ z, z ≠ b → H' z = H z, ?_, ?_⟩
    · walk_at "w"
      refine it_dec (fun c2 => ?_) (fun c2 => ?_)
      · walk_at "w"
        obtain ⟨j, rfl⟩ := Int.eq_ofNat_of_zero_le hp
        rw [List.length_map] at c2
        have hj : j < ns.length := Int.ofNat_lt.mp c2
        refine w_ix (SqL.of hit) (at_of (j := j) rfl (by rw [List.getElem?_map, List.getElem?_eq_getElem hj]; rfl)) ?_
        walk_at "w"
        exact ⟨_, (j : Int) + 1, rfl, by omega, upd_same, fun z hz => upd_ne hz⟩
      · walk_at "w"
        exact ⟨0, p, rfl, hp, hb, fun _ _ => rfl⟩
    · rintro σ' H' ⟨cell, p', rfl, hp', hb', fr'⟩
      have hit' : H' it = some (.lst (ns.map V.int)) := (fr' it (Ne.symm hne)).trans hit
      walk_at "w"
      refine it_dec (fun c3 => ?_) (fun c3 => ?_)
      · walk_at "w"
        exact k _ _ (mn _).1 (mn _).2 (BagAt.put hit' hne hp' hs hs2) fun z hz => (upd_ne hz).trans (fr' z hz)
      · have q0 := Int.emod_nonneg (s0 * 48271 + cell + (c + 1) * 69621) (show (2147483647 : Int) ≠ 0 by decide)
        have q1 := Int.emod_lt_of_pos (s0 * 48271 + cell + (c + 1) * 69621) (show (0 : Int) < 2147483647 by decide)
        walk_at "w"
        refine k _ _ (mn _).1 (mn _).2 ?_ fun z hz => ((upd_ne hz).trans (upd_ne hz)).trans (fr' z hz)
        rw [upd_upd]
        exact BagAt.put hit' hne hp' q0 q1

/-- a law's helper has drawn from the bag at b -/
structure Drew (a : Ad) (b it : Addr) (H H' : Hp) : Prop where
  bag : BagAt H' b it
  fr : Fr [b] H H'
  tab : Tab a H → Tab a H'
theorem Tab.but {a : Ad} {H H' : Hp} {b : Addr} {u : HO} (t : Tab a H) (h : H b = some u) (pl : Pl u) (e : ∀ c, c ≠ b → H' c = H c) : Tab a H' := by
  obtain ⟨ps, h1, h2, h3⟩ := t
  refine ⟨ps, ?_, h2, fun pos cv hc => ?_⟩
  · rw [e _ (fun z => by rw [← z, h1] at h; cases h; exact pl)]
    exact h1
  · obtain ⟨c, e1, e2⟩ := h3 pos cv hc
    refine ⟨c, e1, ?_⟩
    rw [e _ (fun z => by rw [← z, e2] at h; unfold LamX.CodeO at h; cases h; exact pl)]
    exact e2
section
variable {a : Ad} {H H' H1 H2 : Hp} {b it p : Addr}
theorem BagAt.fr {bs : List Addr} (B : BagAt H b it) (x : Fr bs H H') (h : b ∉ bs) (h' : it ∉ bs) : BagAt H' b it := by
  obtain ⟨ns, p, r, s', c, h1, h2, h3⟩ := B.ex
  exact ⟨ns, p, r, s', c, x _ _ h1 trivial h, x _ _ h2 trivial h', h3⟩
theorem BagAt.exx (B : BagAt H b it) (x : Ex H H') : BagAt H' b it := B.fr (bs := []) (Fr.of x) (by simp) (by simp)
theorem BagAt.neNew (B : BagAt H b it) (n : New H p) : p ≠ b ∧ p ≠ it := by
  obtain ⟨ns, p', r, s', c, h1, h2, _⟩ := B.ex
  exact ⟨fun z => n.ne h1 trivial z.symm, fun z => n.ne h2 trivial z.symm⟩
theorem BagAt.upd {o : HO} (B : BagAt H b it) (h : p ≠ b) (h' : p ≠ it) : BagAt (L2.upd H p o) b it := by
  obtain ⟨ns, p', r, s', c, h1, h2, h3⟩ := B.ex
  exact ⟨ns, p', r, s', c, by rw [upd_ne (Ne.symm h)]; exact h1, by rw [upd_ne (Ne.symm h')]; exact h2, h3⟩
theorem BagAt.neKind {u : HO} (B : BagAt H b it) (h : H p = some u) (k : ∀ xs, u ≠ .lst xs) : p ≠ b ∧ p ≠ it := by
  obtain ⟨ns, p', r, s', c, h1, h2, _⟩ := B.ex
  exact ⟨ne_of h h1 (k _), ne_of h h2 (k _)⟩
theorem Drew.refl (B : BagAt H b it) : Drew a b it H H := ⟨B, Fr.refl, id⟩
theorem Drew.trans (x : Drew a b it H H1) (y : Drew a b it H1 H2) : Drew a b it H H2 := ⟨y.bag, x.fr.trans y.fr, fun t => y.tab (x.tab t)⟩
theorem Drew.take (B : BagAt H b it) (B' : BagAt H' b it) (e : ∀ c, c ≠ b → H' c = H c) : Drew a b it H H' := by
  obtain ⟨xs, hb⟩ := B.lst
  refine ⟨B', fun c o hc _ n => ?_, fun t => Tab.but t hb trivial e⟩
  rw [e c (by simpa using n)]
  exact hc
theorem Drew.ex (B : BagAt H b it) (x : Ex H H') (t : Tab a H → Tab a H') : Drew a b it H H' := ⟨B.exx x, Fr.of x, t⟩
theorem Drew.new {o : HO} (x : Drew a b it H H1) (n : H1 p = none) : Drew a b it H (upd H1 p o) := ⟨x.bag.same (Same.new n), x.fr.new n, fun t => Tab.new (x.tab t) n⟩
/-- something that is new since H is changed -/
theorem Drew.upd {u o : HO} (x : Drew a b it H H1) (B : BagAt H b it) (n : New H p) (h : H1 p = some u) (pl : Pl u) : Drew a b it H (L2.upd H1 p o) :=
  ⟨x.bag.upd (B.neNew n).1 (B.neNew n).2, fun c w hc nt nb => by rw [upd_ne (n.ne hc nt)]; exact x.fr c w hc nt nb, fun t => Tab.upd (x.tab t) h pl⟩
theorem Drew.new' (x : Drew a b it H H1) (n : New H1 p) : New H p := fun o h nt => n o (x.fr p o h nt (by simpa using (x.bag.neNew n).1)) nt
theorem Drew.at {o : HO} (x : Drew a b it H H1) (h : H p = some o) (nt : NT o) (n : p ≠ b) : H1 p = some o := x.fr _ _ h nt (by simpa using n)
end
def letterAt (st sp : Int) (k : Nat) : Str := one (97 + ((st + k * sp) % 26).toNat)

theorem pick {ls : List Str} {r : Int} (h0 : 0 ≤ r) (h1 : r < ls.length) : ∃ s ∈ ls, atI (ls.map V.str) r = some (V.str s) := by
  obtain ⟨v, e, m⟩ := atI_mem (xs := ls.map V.str) h0 (by rw [List.length_map]; exact h1)
  obtain ⟨s, hs, rfl⟩ := List.mem_map.mp m
  exact ⟨s, hs, e⟩
theorem cps_app (x y : Str) : (x ++ y).cps.toList = x.cps.toList ++ y.cps.toList := by
  show (x.cps ++ y.cps).toList = _
  simp
theorem len_cps (x : Str) : x.length = x.cps.toList.length := by simp [Str.length]
theorem lenA (x y : Str) : (x ++ y).length = x.length + y.length := by rw [len_cps, cps_app, List.length_append, ← len_cps, ← len_cps]

theorem w_m1 {σ : L2.St} {H : Hp} {Q : VK} {r : V → List V → Hp → VK → Prop} {to te : TE} (k : to σ H fun x H1 => (∃ a, x = .str a) ∧ te σ H1 fun y H2 => r x [y] H2 Q) : tM1 r to te σ H Q := k
theorem join_len : ∀ ys : List Str, (Txt.join (Str.ofString "") ys).length = (ys.map (·.length)).sum := by
  intro ys
  rw [TL.join_eq]
  induction ys with
  | nil => rfl
  | cons x r ih =>
    cases r with
    | nil => simp [Str.join]
    | cons z r =>
      show (x ++ Str.ofString "" ++ Str.join (Str.ofString "") (z :: r)).length = _
      rw [lenA, lenA, ih, List.map_cons (f := fun x : Str => x.length) (a := x), List.sum_cons]
      have e0 : (Str.ofString "").length = 0 := by decide +kernel
      omega
local macro_rules | `(tactic| walk_at "s") => `(tactic| first
  | with_reducible refine w_m1 ?_
  | with_reducible refine w_mkV1 ?_
  | with_reducible refine w_mkV2 ?_)

def sp_law_text (K : PySem.W.Frag) (a : Ad) : Sp := sp3 fun x y z H Q _ => ∃ (b it q : Addr) (ls : List Str) (lg : Int), x = .ref b ∧ y = .ref q ∧ z = .int lg ∧ BagAt H b it ∧ H q = some (.lst (ls.map V.str)) ∧ q ≠ b ∧ ls ≠ [] ∧ ls.length ≤ 100 ∧ 0 ≤ lg ∧ lg ≤ 60 ∧ (∀ s ∈ ls, s.length = 1) ∧
  ∀ (w : Str) H', Drew a b it H H' → (w.length : Int) ≤ lg → Q (.str w) H'
theorem ok_law_text {P : Program} {w : World} {K : PySem.W.Frag} {mg : Str → Option Value} {base : Heap} {a : Ad} (T : Txt P K mg base a) : FnOk P w K mg base CX0 2 a.f_law_text a.d_law_text (["_law_bag_here", "_law_letters", "_law_long"] : List Str) (sp_law_text K a) := by
  refine T.F_law_text.ok sc_law_text (fun vs H Q E h => sp3_len h) (fun cdv A outer s H vs Q E hr h => ?_)
  have hu := hu_of hr
  refine ⟨_, (pss_one (ps_ret (pe_join pe_str (pe_lc (own := [("_law_k", 3)]) (g := gName 3) (tt := tYes) (by rfl) sc_law_text.nd (pi_range1 (by rfl) T.n_range (pa_cons (pe_call (ok_law_take T) (hr.mono (by decide)) rfl T.g_law_take T.k_law_take T.B_law_take .nil pass0 (pa_cons (pv 0) (pa_cons (pe_op op_add (pv 2) pe_int) pa_nil))) pa_nil)) (blkOk_by (own := [("_law_k", 3)]) (N := ["_law_bag_here", "_law_letters", "_law_long", "_law_k"]) (sc := defScope s_law_text) (by decide +kernel)) (fun _ _ _ _ _ => (pg_name (i := 3) sc_law_text.nd rfl (Or.inl rfl))) (fun _ _ _ _ _ => pts_nil) (fun _ _ _ _ _ => (pe_ix (show IxR _ (rIxL K) from ix_list) (pv 1) (pe_call (ok_law_take T) (hr.mono (by decide)) rfl T.g_law_take T.k_law_take T.B_law_take .nil pass0 (pa_cons (pv 0) (pa_cons (pe_callB (show CallR _ _ (rLenQ K) from qc_len) (by rfl) T.n_len bb_len (pa_cons (pv 1) pa_nil)) pa_nil))) (fun _ _ => rfl))))))), ?_⟩
  try dsimp only [L2.cxOf]
  obtain ⟨x, y, z, rfl, b, it, q, ls, lg, rfl, rfl, rfl, B, hq, nqb, ne, hl, l0, l6, hone, k⟩ := h
  rw [show L2.start (["_law_bag_here", "_law_letters", "_law_long", "_law_k"] : List Str) [(.ref b), (.ref q), (.int lg)] = ([some ((.ref b)), some ((.ref q)), some ((.int lg)), none] : L2.St) from rfl]
  have sz : sizeLine = 16777216 := by decide
  have hpos : 0 < ls.length := by
    cases ls with
    | nil => exact absurd rfl ne
    | cons _ _ => simp
  walk_at "w"
  refine ⟨⟨_, rfl⟩, ?_⟩
  walk_at "w"
  refine ⟨_, _, rfl, b, it, lg + 1, rfl, rfl, B, by omega, by omega, fun r H1 r0 r1 B1 fr1 => ?_⟩
  have D1 : Drew a b it H H1 := Drew.take B B1 fr1
  walk_at "w"
  refine ⟨r, rfl, by omega, by omega, lcsW walk_range (fun D i H' => Drew a b it H H' ∧ New H1 D ∧ D ≠ b ∧ ∃ ys : List Str, H' D = some (.lst (ys.map V.str)) ∧ ys.length = i ∧ ∀ s ∈ ys, s.length = 1) (fun D hD => ⟨D1.new hD, New.of hD, (B1.neNew (New.of hD)).1, [], upd_same, rfl, by simp⟩) (fun _ _ _ _ _ => trivial) ?_ ?_⟩
  · rintro D i x H3 H' hi ⟨D3, nD, nDb, ys, hD, ly, hy⟩ ⟨rfl, rfl⟩
    have hq3 : H' q = some (.lst (ls.map V.str)) := D3.fr _ _ hq trivial (by simpa using nqb)
    walk_at "w"
    refine ⟨rfl, ?_⟩
    unfold tYes
    walk_at "w"
    refine ⟨_, _, rfl, b, it, ls.length, rfl, by rw [List.length_map], D3.bag, by omega, by omega, fun r2 H4 r20 r21 B4 fr4 => ?_⟩
    have D34 : Drew a b it H' H4 := Drew.take D3.bag B4 fr4
    obtain ⟨s, hs, e⟩ := pick r20 r21
    refine w_ix (SqL.of (D34.at hq3 trivial nqb)) e ?_
    have hD4 := D34.at hD trivial nDb
    refine ⟨_, hD4, by rw [List.length_map, sz]; omega, ?_⟩
    have nHD : New H D := D1.new' nD
    refine ⟨(D3.trans D34).upd B nHD hD4 trivial, nD, nDb, ys ++ [s], by rw [upd_same]; simp, by simp [ly], fun t ht => ?_⟩
    rcases List.mem_append.mp ht with ht | ht
    · exact hy t ht
    · rw [List.mem_singleton.mp ht]; exact hone s hs
  · rintro D H' ⟨D3, nD, nDb, ys, hD, ly, hy⟩
    have sum1 : ∀ zs : List Str, (∀ s ∈ zs, s.length = 1) → (zs.map (·.length)).sum = zs.length := fun zs => by
      induction zs with
      | nil => intro _; rfl
      | cons z zs ih => intro h; rw [List.map_cons, List.sum_cons, ih fun s hs => h s (.tail _ hs), h z (.head _), List.length_cons]; omega
    have s1 := sum1 ys hy
    have e0 : (Str.ofString "").length = 0 := by decide +kernel
    refine ⟨_, D, ys, rfl, rfl, .inl (SqL.of hD), by rw [s1, e0]; omega, ?_⟩
    refine k _ H' D3 ?_
    rw [join_len, s1]
    omega

def sp_law (K : PySem.W.Frag) (a : Ad) : Sp := sp1 fun x H Q _ => ∃ (s : Addr) (ns : List Int), x = .ref s ∧ SqL K H s (ns.map V.int) ∧ ns.length ≤ 63 ∧ Tab a H ∧ ∀ H', Q (.bl true) H'
theorem ok_law {P : Program} {w : World} {K : PySem.W.Frag} {mg : Str → Option Value} {base : Heap} {a : Ad} (T : Txt P K mg base a) : FnOk P w K mg base CX0 13 a.f_law a.d_law (["_law_script"] : List Str) (sp_law K a) := by
  refine T.F_law.ok sc_law (fun vs H Q E h => sp1_len h) (fun cdv A outer s H vs Q E hr h => ?_)
  have hu := hu_of hr
  refine ⟨_, (pss_cons (ps_set (i := 1) sc_law.nd rfl (Or.inl rfl) (pe_call (ok_law_bag T) (hr.mono (by decide)) rfl T.g_law_bag T.k_law_bag T.B_law_bag .nil pass0 (pa_cons (pv 0) pa_nil)))
      (pss_cons (ps_set (i := 2) sc_law.nd rfl (Or.inl rfl) (pe_op op_sub (pe_call (ok_law_take T) (hr.mono (by decide)) rfl T.g_law_take T.k_law_take T.B_law_take .nil pass0 (pa_cons (pv 1) (pa_cons pe_int pa_nil))) pe_int))
      (pss_cons (ps_set (i := 3) sc_law.nd rfl (Or.inl rfl) (pe_call (ok_law_text T) (hr.mono (by decide)) rfl T.g_law_text T.k_law_text T.B_law_text .nil pass0 (pa_cons (pv 1) (pa_cons (pe_lst (pa_cons pe_str (pa_cons pe_str (pa_cons pe_str pa_nil)))) (pa_cons pe_int pa_nil)))))
      (pss_cons (ps_for PassesOwn.never rfl (pi_range1 (by rfl) T.n_range (pa_cons pe_int pa_nil)) (pg_name (i := 4) sc_law.nd rfl (Or.inl rfl)) (pss_cons (ps_if (PW.pt (pw_or (pt_not (pt_val (pe_call (ok_law_glyphs T) (hr.mono (by decide)) rfl T.g_law_glyphs T.k_law_glyphs T.B_law_glyphs .nil pass0 (pa_cons (pv 4) (pa_cons (pv 2) (pa_cons (pv 3) pa_nil)))))) (pw_or1 (pt_not (pt_val (pe_call (ok_law_places T) (hr.mono (by decide)) rfl T.g_law_places T.k_law_places T.B_law_places .nil pass0 (pa_cons (pe_op op_add pe_int (pv 4)) (pa_cons (pv 2) (pa_cons (pv 3) pa_nil))))))))) (pss_one (ps_ret pe_bl)) pss_nil)
      (pss_one (ps_if (PW.pt (pw_and (pt_cmpR op_lt (pv 4) pe_int (nomark _)) (pw_and1 (pt_not (pt_val (pe_call (ok_law_names T) (hr.mono (by decide)) rfl T.g_law_names T.k_law_names T.B_law_names .nil pass0 (pa_cons (pe_op op_add pe_int (pv 4)) (pa_cons (pv 3) pa_nil)))))))) (pss_one (ps_ret pe_bl)) pss_nil))))
      (pss_cons (ps_set (i := 5) sc_law.nd rfl (Or.inl rfl) (pe_and (pe_call (ok_law_kinds T) (hr.mono (by decide)) rfl T.g_law_kinds T.k_law_kinds T.B_law_kinds .nil pass0 (pa_cons (pev1 T.E_InvalidGlyph T.Y_InvalidGlyph T.x_InvalidGlyph_glyph hr (pa_cons (pv 3) pa_nil)) pa_nil)) (pe_and (pe_call (ok_law_kinds T) (hr.mono (by decide)) rfl T.g_law_kinds T.k_law_kinds T.B_law_kinds .nil pass0 (pa_cons (pev1 T.E_InvalidNumber T.Y_InvalidNumber T.x_InvalidNumber_value hr (pa_cons (pv 2) pa_nil)) pa_nil)) (pe_one (pe_call (ok_law_kinds T) (hr.mono (by decide)) rfl T.g_law_kinds T.k_law_kinds T.B_law_kinds .nil pass0 (pa_cons (pev1 T.E_UnknownGlyph T.Y_UnknownGlyph T.x_UnknownGlyph_glyph hr (pa_cons (pv 3) pa_nil)) pa_nil))))))
      (pss_cons (ps_set (i := 5) sc_law.nd rfl (Or.inl rfl) (pe_and (pv 5) (pe_and (pe_call (ok_law_kinds T) (hr.mono (by decide)) rfl T.g_law_kinds T.k_law_kinds T.B_law_kinds .nil pass0 (pa_cons (pev1 T.E_TooMany T.Y_TooMany T.x_TooMany_limit hr (pa_cons (pv 2) pa_nil)) pa_nil)) (pe_and (pe_call (ok_law_kinds T) (hr.mono (by decide)) rfl T.g_law_kinds T.k_law_kinds T.B_law_kinds .nil pass0 (pa_cons (pev2 T.E_Overlap T.Y_Overlap T.x_Overlap_left T.x_Overlap_right hr (pa_cons (pv 3) (pa_cons (pv 3) pa_nil))) pa_nil)) (pe_one (pe_call (ok_law_kinds T) (hr.mono (by decide)) rfl T.g_law_kinds T.k_law_kinds T.B_law_kinds .nil pass0 (pa_cons (pev1 T.E_InUse T.Y_InUse T.x_InUse_user hr (pa_cons (pv 3) pa_nil)) pa_nil)))))))
      (pss_cons (ps_set (i := 5) sc_law.nd rfl (Or.inl rfl) (pe_and (pv 5) (pe_and (pe_call (ok_law_kinds T) (hr.mono (by decide)) rfl T.g_law_kinds T.k_law_kinds T.B_law_kinds .nil pass0 (pa_cons (pev1 T.E_DeedRefused T.Y_DeedRefused T.x_DeedRefused_index hr (pa_cons (pv 2) pa_nil)) pa_nil)) (pe_one (pe_call (ok_law_kinds T) (hr.mono (by decide)) rfl T.g_law_kinds T.k_law_kinds T.B_law_kinds .nil pass0 (pa_cons (pev1 T.E_InvalidLine T.Y_InvalidLine T.x_InvalidLine_line hr (pa_cons (pv 2) pa_nil)) pa_nil))))))
      (pss_cons (ps_set (i := 5) sc_law.nd rfl (Or.inl rfl) (pe_and (pv 5) (pe_and (pe_call (ok_law_kinds T) (hr.mono (by decide)) rfl T.g_law_kinds T.k_law_kinds T.B_law_kinds .nil pass0 (pa_cons (pev2 T.E_UnknownLetter T.Y_UnknownLetter T.x_UnknownLetter_letter T.x_UnknownLetter_index hr (pa_cons (pv 3) (pa_cons pe_int pa_nil))) pa_nil)) (pe_one (pe_call (ok_law_kinds T) (hr.mono (by decide)) rfl T.g_law_kinds T.k_law_kinds T.B_law_kinds .nil pass0 (pa_cons (pev1 T.E_InvalidState T.Y_InvalidState T.x_InvalidState_number hr (pa_cons (pv 2) pa_nil)) pa_nil))))))
      (pss_cons (ps_set (i := 5) sc_law.nd rfl (Or.inl rfl) (pe_and (pv 5) (pe_and (pe_call (ok_law_kinds T) (hr.mono (by decide)) rfl T.g_law_kinds T.k_law_kinds T.B_law_kinds .nil pass0 (pa_cons (pev1 T.E_InvalidText T.Y_InvalidText T.x_InvalidText_index hr (pa_cons (pv 2) pa_nil)) pa_nil)) (pe_one (pe_call (ok_law_kinds T) (hr.mono (by decide)) rfl T.g_law_kinds T.k_law_kinds T.B_law_kinds .nil pass0 (pa_cons (pev1 T.E_Contradiction T.Y_Contradiction T.x_Contradiction_combination hr (pa_cons (pe_lst pa_nil) pa_nil)) pa_nil))))))
      (pss_cons (ps_set (i := 5) sc_law.nd rfl (Or.inl rfl) (pe_and (pv 5) (pe_and (pe_call (ok_law_kinds T) (hr.mono (by decide)) rfl T.g_law_kinds T.k_law_kinds T.B_law_kinds .nil pass0 (pa_cons (pev1 T.E_NameTaken T.Y_NameTaken T.x_NameTaken_name hr (pa_cons (pv 3) pa_nil)) pa_nil)) (pe_and (pe_call (ok_law_kinds T) (hr.mono (by decide)) rfl T.g_law_kinds T.k_law_kinds T.B_law_kinds .nil pass0 (pa_cons (pev1 T.E_UnknownName T.Y_UnknownName T.x_UnknownName_name hr (pa_cons (pv 3) pa_nil)) pa_nil)) (pe_one (pe_call (ok_law_kinds T) (hr.mono (by decide)) rfl T.g_law_kinds T.k_law_kinds T.B_law_kinds .nil pass0 (pa_cons (pev1 T.E_UnknownKind T.Y_UnknownKind T.x_UnknownKind_kind hr (pa_cons (pv 3) pa_nil)) pa_nil)))))))
      (pss_one (ps_ret (pe_and (pv 5) (pe_and (pe_call (ok_law_kinds T) (hr.mono (by decide)) rfl T.g_law_kinds T.k_law_kinds T.B_law_kinds .nil pass0 (pa_cons (pev1 T.E_InvalidOptions T.Y_InvalidOptions T.x_InvalidOptions_kind hr (pa_cons (pv 3) pa_nil)) pa_nil)) (pe_and (pe_call (ok_law_plain T) (hr.mono (by decide)) rfl T.g_law_plain T.k_law_plain T.B_law_plain .nil pass0 (pa_cons pe_int pa_nil)) (pe_one (pe_call (ok_law_plain T) (hr.mono (by decide)) rfl T.g_law_plain T.k_law_plain T.B_law_plain .nil pass0 (pa_cons pe_int pa_nil)))))))))))))))))), ?_⟩
  try dsimp only [L2.cxOf]
  obtain ⟨x, rfl, s0, ns, rfl, hS, hlen, tb, k⟩ := h
  rw [show L2.start (["_law_script", "_law_bag_here", "_law_number", "_law_word", "_law_way", "_law_good"] : List Str) [(.ref s0)] = ([some ((.ref s0)), none, none, none, none, none] : L2.St) from rfl]
  walk_at "w"
  refine ⟨_, rfl, s0, ns, rfl, hS, fun b it H1 nb nit s1 B1 => ?_⟩
  have t1 : Tab a H1 := Tab.same tb s1
  walk_at "w"
  refine ⟨_, _, rfl, b, it, 2001, rfl, rfl, B1, by decide, by decide +kernel, fun r H2 r0 r1 B2 fr2 => ?_⟩
  have D2 : Drew a b it H1 H2 := Drew.take B1 B2 fr2
  have t2 := D2.tab t1
  walk_at "w"
  refine ⟨by show 3 ≤ sizeLine; decide, fun q nq => ?_⟩
  walk_at "w"
  refine ⟨_, _, _, rfl, b, it, q, ["a", "b", "z"], 8, rfl, rfl, rfl, B2.same (Same.new nq), upd_same, (B2.neNew (New.of nq)).1, (fun z => nomatch z), by decide, by decide, by decide, by decide +kernel, fun w H3 D3 lw => ?_⟩
  have t3 := D3.tab (Tab.new t2 nq)
  have lw100 : w.length ≤ 100 := by omega
  generalize r - 1000 = n
  walk_at "w"
  refine ⟨6, rfl, by decide, by decide, ?_⟩
  refine turnsR (fun i σ' H' => Tab a H' ∧ ∃ k0, σ' = [some (.ref s0), some (.ref b), some (.int n), some (.str w), k0, none]) ⟨t3, _, rfl⟩ ?_ ?_
  · rintro i σ' H4 hi ⟨t4, k0, rfl⟩
    have hi6 : i < 6 := hi
    rw [show (0 : Int) + (i : Int) = ((i : Nat) : Int) by omega]
    walk_at "w"
    refine ⟨_, _, _, rfl, i, n, w, by rw [Nat.zero_add], hi6, rfl, rfl, lw100, fun H5 s5 => ?_⟩
    walk_at "w"
    refine ⟨_, _, _, rfl, i, n, w, by rw [show (6 : Int) + (i : Int) = ((6 + i : Nat) : Int) by omega], hi6, rfl, rfl, lw100, fun H6 s6 => ?_⟩
    have t6 : Tab a H6 := Tab.same t4 (s5.trans s6)
    walk_at "w"
    refine it_dec (fun c => ?_) (fun c => ?_)
    · walk_at "w"
      refine ⟨_, _, rfl, i, w, by rw [show (12 : Int) + (i : Int) = ((12 + i : Nat) : Int) by omega], by omega, rfl, lw100, fun H7 s7 => ?_⟩
      walk_at "w"
      exact ⟨Tab.same t6 s7, _, rfl⟩
    · walk_at "w"
      exact ⟨t6, _, rfl⟩
  · rintro σ' H4 ⟨t4, k0, rfl⟩
    walk_at "w"
    intro e5 d5 ne5 nd5 ned5
    refine ⟨_, rfl, e5, d5, a.C_InvalidGlyph, _, 0, rfl, by decide, rfl, upd_same, (by rw [upd_ne (Ne.symm ned5)]; exact upd_same), fun H5 s5 => ?_⟩
    have t5 : Tab a H5 := Tab.same (Tab.new (Tab.new t4 nd5) (by rw [upd_ne ned5]; exact ne5)) s5
    clear s5 ne5 nd5 ned5
    walk_at "w"
    intro e6 d6 ne6 nd6 ned6
    refine ⟨_, rfl, e6, d6, a.C_InvalidNumber, _, 1, rfl, by decide, rfl, upd_same, (by rw [upd_ne (Ne.symm ned6)]; exact upd_same), fun H6 s6 => ?_⟩
    have t6 : Tab a H6 := Tab.same (Tab.new (Tab.new t5 nd6) (by rw [upd_ne ned6]; exact ne6)) s6
    clear s6 ne6 nd6 ned6
    walk_at "w"
    intro e7 d7 ne7 nd7 ned7
    refine ⟨_, rfl, e7, d7, a.C_UnknownGlyph, _, 2, rfl, by decide, rfl, upd_same, (by rw [upd_ne (Ne.symm ned7)]; exact upd_same), fun H7 s7 => ?_⟩
    have t7 : Tab a H7 := Tab.same (Tab.new (Tab.new t6 nd7) (by rw [upd_ne ned7]; exact ne7)) s7
    clear s7 ne7 nd7 ned7
    walk_at "w"
    intro e8 d8 ne8 nd8 ned8
    refine ⟨_, rfl, e8, d8, a.C_TooMany, _, 3, rfl, by decide, rfl, upd_same, (by rw [upd_ne (Ne.symm ned8)]; exact upd_same), fun H8 s8 => ?_⟩
    have t8 : Tab a H8 := Tab.same (Tab.new (Tab.new t7 nd8) (by rw [upd_ne ned8]; exact ne8)) s8
    clear s8 ne8 nd8 ned8
    walk_at "w"
    intro e9 d9 ne9 nd9 ned9
    refine ⟨_, rfl, e9, d9, a.C_Overlap, _, 4, rfl, by decide, rfl, upd_same, (by rw [upd_ne (Ne.symm ned9)]; exact upd_same), fun H9 s9 => ?_⟩
    have t9 : Tab a H9 := Tab.same (Tab.new (Tab.new t8 nd9) (by rw [upd_ne ned9]; exact ne9)) s9
    clear s9 ne9 nd9 ned9
    walk_at "w"
    intro e10 d10 ne10 nd10 ned10
    refine ⟨_, rfl, e10, d10, a.C_InUse, _, 5, rfl, by decide, rfl, upd_same, (by rw [upd_ne (Ne.symm ned10)]; exact upd_same), fun H10 s10 => ?_⟩
    have t10 : Tab a H10 := Tab.same (Tab.new (Tab.new t9 nd10) (by rw [upd_ne ned10]; exact ne10)) s10
    clear s10 ne10 nd10 ned10
    walk_at "w"
    intro e11 d11 ne11 nd11 ned11
    refine ⟨_, rfl, e11, d11, a.C_DeedRefused, _, 6, rfl, by decide, rfl, upd_same, (by rw [upd_ne (Ne.symm ned11)]; exact upd_same), fun H11 s11 => ?_⟩
    have t11 : Tab a H11 := Tab.same (Tab.new (Tab.new t10 nd11) (by rw [upd_ne ned11]; exact ne11)) s11
    clear s11 ne11 nd11 ned11
    walk_at "w"
    intro e12 d12 ne12 nd12 ned12
    refine ⟨_, rfl, e12, d12, a.C_InvalidLine, _, 7, rfl, by decide, rfl, upd_same, (by rw [upd_ne (Ne.symm ned12)]; exact upd_same), fun H12 s12 => ?_⟩
    have t12 : Tab a H12 := Tab.same (Tab.new (Tab.new t11 nd12) (by rw [upd_ne ned12]; exact ne12)) s12
    clear s12 ne12 nd12 ned12
    walk_at "w"
    intro e13 d13 ne13 nd13 ned13
    refine ⟨_, rfl, e13, d13, a.C_UnknownLetter, _, 8, rfl, by decide, rfl, upd_same, (by rw [upd_ne (Ne.symm ned13)]; exact upd_same), fun H13 s13 => ?_⟩
    have t13 : Tab a H13 := Tab.same (Tab.new (Tab.new t12 nd13) (by rw [upd_ne ned13]; exact ne13)) s13
    clear s13 ne13 nd13 ned13
    walk_at "w"
    intro e14 d14 ne14 nd14 ned14
    refine ⟨_, rfl, e14, d14, a.C_InvalidState, _, 9, rfl, by decide, rfl, upd_same, (by rw [upd_ne (Ne.symm ned14)]; exact upd_same), fun H14 s14 => ?_⟩
    have t14 : Tab a H14 := Tab.same (Tab.new (Tab.new t13 nd14) (by rw [upd_ne ned14]; exact ne14)) s14
    clear s14 ne14 nd14 ned14
    walk_at "w"
    intro e15 d15 ne15 nd15 ned15
    refine ⟨_, rfl, e15, d15, a.C_InvalidText, _, 10, rfl, by decide, rfl, upd_same, (by rw [upd_ne (Ne.symm ned15)]; exact upd_same), fun H15 s15 => ?_⟩
    have t15 : Tab a H15 := Tab.same (Tab.new (Tab.new t14 nd15) (by rw [upd_ne ned15]; exact ne15)) s15
    clear s15 ne15 nd15 ned15
    walk_at "w"
    refine ⟨by decide, fun lc nlc => ?_⟩
    walk_at "w"
    intro e16 d16 ne16 nd16 ned16
    refine ⟨_, rfl, e16, d16, a.C_Contradiction, _, 11, rfl, by decide, rfl, upd_same, (by rw [upd_ne (Ne.symm ned16)]; exact upd_same), fun H16 s16 => ?_⟩
    have t16 : Tab a H16 := Tab.same (Tab.new (Tab.new (Tab.new t15 nlc) nd16) (by rw [upd_ne ned16]; exact ne16)) s16
    clear s16 ne16 nd16 ned16
    walk_at "w"
    intro e17 d17 ne17 nd17 ned17
    refine ⟨_, rfl, e17, d17, a.C_NameTaken, _, 12, rfl, by decide, rfl, upd_same, (by rw [upd_ne (Ne.symm ned17)]; exact upd_same), fun H17 s17 => ?_⟩
    have t17 : Tab a H17 := Tab.same (Tab.new (Tab.new t16 nd17) (by rw [upd_ne ned17]; exact ne17)) s17
    clear s17 ne17 nd17 ned17
    walk_at "w"
    intro e18 d18 ne18 nd18 ned18
    refine ⟨_, rfl, e18, d18, a.C_UnknownName, _, 13, rfl, by decide, rfl, upd_same, (by rw [upd_ne (Ne.symm ned18)]; exact upd_same), fun H18 s18 => ?_⟩
    have t18 : Tab a H18 := Tab.same (Tab.new (Tab.new t17 nd18) (by rw [upd_ne ned18]; exact ne18)) s18
    clear s18 ne18 nd18 ned18
    walk_at "w"
    intro e19 d19 ne19 nd19 ned19
    refine ⟨_, rfl, e19, d19, a.C_UnknownKind, _, 14, rfl, by decide, rfl, upd_same, (by rw [upd_ne (Ne.symm ned19)]; exact upd_same), fun H19 s19 => ?_⟩
    have t19 : Tab a H19 := Tab.same (Tab.new (Tab.new t18 nd19) (by rw [upd_ne ned19]; exact ne19)) s19
    clear s19 ne19 nd19 ned19
    walk_at "w"
    intro e20 d20 ne20 nd20 ned20
    refine ⟨_, rfl, e20, d20, a.C_InvalidOptions, _, 15, rfl, by decide, rfl, upd_same, (by rw [upd_ne (Ne.symm ned20)]; exact upd_same), fun H20 s20 => ?_⟩
    have t20 : Tab a H20 := Tab.same (Tab.new (Tab.new t19 nd20) (by rw [upd_ne ned20]; exact ne20)) s20
    clear s20 ne20 nd20 ned20
    walk_at "w"
    refine ⟨_, rfl, .inl rfl, t20, fun H21 x21 t21 => ?_⟩
    walk_at "w"
    exact ⟨_, rfl, .inr rfl, t21, fun H22 x22 t22 => k _⟩

theorem sp_law_start {K : PySem.W.Frag} {a : Ad} {H : Hp} {z : Addr} {ns : List Int} (h4 : SqL K H z (ns.map V.int)) (h1 : ns.length ≤ 63) (h3 : H a.P_font_order = some (.tbl #[])) : sp_law K a [.ref z] H (fun v _ => v = .bl true) fun _ _ _ => False := ⟨_, rfl, z, ns, rfl, h4, h1, LamX.TabS.nil h3, fun _ => rfl⟩

end FG
namespace FG
open PySem PySem.Spec PyProof.Rows L2
theorem y_InvalidNumber : Txt1 "InvalidNumber.__init__" "value" "not a valid number" (defArgs s_InvalidNumber_init) (defBody s_InvalidNumber_init) (defScope s_InvalidNumber_init) where
  ex := ⟨_, _, _, _, _, _, _, _, _, _, _, _, rfl, rfl, rfl, fun L fI cc cda => ⟨by rfl, by rfl, by rfl, _, by rfl⟩⟩
  bind := fun _ _ _ _ _ _ _ _ _ => rfl
  nself := by decide +kernel
  ndbg := by decide +kernel
  ks := by decide +kernel
  kc := by decide +kernel
  k0 := by decide +kernel
  k1 := by decide +kernel
  cells := by decide +kernel
  kind := rfl
  co := rfl
  gen := rfl
theorem y_InvalidGlyph : Txt1 "InvalidGlyph.__init__" "glyph" "not a glyph name" (defArgs s_InvalidGlyph_init) (defBody s_InvalidGlyph_init) (defScope s_InvalidGlyph_init) where
  ex := ⟨_, _, _, _, _, _, _, _, _, _, _, _, rfl, rfl, rfl, fun L fI cc cda => ⟨by rfl, by rfl, by rfl, _, by rfl⟩⟩
  bind := fun _ _ _ _ _ _ _ _ _ => rfl
  nself := by decide +kernel
  ndbg := by decide +kernel
  ks := by decide +kernel
  kc := by decide +kernel
  k0 := by decide +kernel
  k1 := by decide +kernel
  cells := by decide +kernel
  kind := rfl
  co := rfl
  gen := rfl
theorem y_UnknownGlyph : Txt1 "UnknownGlyph.__init__" "glyph" "the font does not have the glyph" (defArgs s_UnknownGlyph_init) (defBody s_UnknownGlyph_init) (defScope s_UnknownGlyph_init) where
  ex := ⟨_, _, _, _, _, _, _, _, _, _, _, _, rfl, rfl, rfl, fun L fI cc cda => ⟨by rfl, by rfl, by rfl, _, by rfl⟩⟩
  bind := fun _ _ _ _ _ _ _ _ _ => rfl
  nself := by decide +kernel
  ndbg := by decide +kernel
  ks := by decide +kernel
  kc := by decide +kernel
  k0 := by decide +kernel
  k1 := by decide +kernel
  cells := by decide +kernel
  kind := rfl
  co := rfl
  gen := rfl
theorem y_TooMany : Txt1 "TooMany.__init__" "limit" "too many ligatures" (defArgs s_TooMany_init) (defBody s_TooMany_init) (defScope s_TooMany_init) where
  ex := ⟨_, _, _, _, _, _, _, _, _, _, _, _, rfl, rfl, rfl, fun L fI cc cda => ⟨by rfl, by rfl, by rfl, _, by rfl⟩⟩
  bind := fun _ _ _ _ _ _ _ _ _ => rfl
  nself := by decide +kernel
  ndbg := by decide +kernel
  ks := by decide +kernel
  kc := by decide +kernel
  k0 := by decide +kernel
  k1 := by decide +kernel
  cells := by decide +kernel
  kind := rfl
  co := rfl
  gen := rfl
theorem y_Overlap : Txt2 "Overlap.__init__" "left" "right" "the kern takes back more than an advance" (defArgs s_Overlap_init) (defBody s_Overlap_init) (defScope s_Overlap_init) where
  ex := ⟨_, _, _, _, _, _, _, _, _, _, _, _, _, _, _, _, rfl, rfl, rfl, fun L fI cc cda => ⟨by rfl, by rfl, by rfl, by rfl, _, by rfl⟩⟩
  bind := fun _ _ _ _ _ _ _ _ _ _ => rfl
  nself := by decide +kernel
  ndbg := by decide +kernel
  nself2 := by decide +kernel
  nff := by decide +kernel
  ndbg2 := by decide +kernel
  ks := by decide +kernel
  kc := by decide +kernel
  k0 := by decide +kernel
  k1 := by decide +kernel
  k2 := by decide +kernel
  cells := by decide +kernel
  kind := rfl
  co := rfl
  gen := rfl
theorem y_InUse : Txt1 "InUse.__init__" "user" "still in use" (defArgs s_InUse_init) (defBody s_InUse_init) (defScope s_InUse_init) where
  ex := ⟨_, _, _, _, _, _, _, _, _, _, _, _, rfl, rfl, rfl, fun L fI cc cda => ⟨by rfl, by rfl, by rfl, _, by rfl⟩⟩
  bind := fun _ _ _ _ _ _ _ _ _ => rfl
  nself := by decide +kernel
  ndbg := by decide +kernel
  ks := by decide +kernel
  kc := by decide +kernel
  k0 := by decide +kernel
  k1 := by decide +kernel
  cells := by decide +kernel
  kind := rfl
  co := rfl
  gen := rfl
theorem y_DeedRefused : Txt1 "DeedRefused.__init__" "index" "a deed is refused" (defArgs s_DeedRefused_init) (defBody s_DeedRefused_init) (defScope s_DeedRefused_init) where
  ex := ⟨_, _, _, _, _, _, _, _, _, _, _, _, rfl, rfl, rfl, fun L fI cc cda => ⟨by rfl, by rfl, by rfl, _, by rfl⟩⟩
  bind := fun _ _ _ _ _ _ _ _ _ => rfl
  nself := by decide +kernel
  ndbg := by decide +kernel
  ks := by decide +kernel
  kc := by decide +kernel
  k0 := by decide +kernel
  k1 := by decide +kernel
  cells := by decide +kernel
  kind := rfl
  co := rfl
  gen := rfl
theorem y_InvalidLine : Txt1 "InvalidLine.__init__" "line" "invalid line in a written font" (defArgs s_InvalidLine_init) (defBody s_InvalidLine_init) (defScope s_InvalidLine_init) where
  ex := ⟨_, _, _, _, _, _, _, _, _, _, _, _, rfl, rfl, rfl, fun L fI cc cda => ⟨by rfl, by rfl, by rfl, _, by rfl⟩⟩
  bind := fun _ _ _ _ _ _ _ _ _ => rfl
  nself := by decide +kernel
  ndbg := by decide +kernel
  ks := by decide +kernel
  kc := by decide +kernel
  k0 := by decide +kernel
  k1 := by decide +kernel
  cells := by decide +kernel
  kind := rfl
  co := rfl
  gen := rfl
theorem y_UnknownLetter : Txt2 "UnknownLetter.__init__" "letter" "index" "unknown letter in a text" (defArgs s_UnknownLetter_init) (defBody s_UnknownLetter_init) (defScope s_UnknownLetter_init) where
  ex := ⟨_, _, _, _, _, _, _, _, _, _, _, _, _, _, _, _, rfl, rfl, rfl, fun L fI cc cda => ⟨by rfl, by rfl, by rfl, by rfl, _, by rfl⟩⟩
  bind := fun _ _ _ _ _ _ _ _ _ _ => rfl
  nself := by decide +kernel
  ndbg := by decide +kernel
  nself2 := by decide +kernel
  nff := by decide +kernel
  ndbg2 := by decide +kernel
  ks := by decide +kernel
  kc := by decide +kernel
  k0 := by decide +kernel
  k1 := by decide +kernel
  k2 := by decide +kernel
  cells := by decide +kernel
  kind := rfl
  co := rfl
  gen := rfl
theorem y_InvalidState : Txt1 "InvalidState.__init__" "number" "no state has this number" (defArgs s_InvalidState_init) (defBody s_InvalidState_init) (defScope s_InvalidState_init) where
  ex := ⟨_, _, _, _, _, _, _, _, _, _, _, _, rfl, rfl, rfl, fun L fI cc cda => ⟨by rfl, by rfl, by rfl, _, by rfl⟩⟩
  bind := fun _ _ _ _ _ _ _ _ _ => rfl
  nself := by decide +kernel
  ndbg := by decide +kernel
  ks := by decide +kernel
  kc := by decide +kernel
  k0 := by decide +kernel
  k1 := by decide +kernel
  cells := by decide +kernel
  kind := rfl
  co := rfl
  gen := rfl
theorem y_InvalidText : Txt1 "InvalidText.__init__" "index" "blank in a wrong place" (defArgs s_InvalidText_init) (defBody s_InvalidText_init) (defScope s_InvalidText_init) where
  ex := ⟨_, _, _, _, _, _, _, _, _, _, _, _, rfl, rfl, rfl, fun L fI cc cda => ⟨by rfl, by rfl, by rfl, _, by rfl⟩⟩
  bind := fun _ _ _ _ _ _ _ _ _ => rfl
  nself := by decide +kernel
  ndbg := by decide +kernel
  ks := by decide +kernel
  kc := by decide +kernel
  k0 := by decide +kernel
  k1 := by decide +kernel
  cells := by decide +kernel
  kind := rfl
  co := rfl
  gen := rfl
theorem y_Contradiction : Txt1 "Contradiction.__init__" "combination" "the measurement contradicts earlier ones" (defArgs s_Contradiction_init) (defBody s_Contradiction_init) (defScope s_Contradiction_init) where
  ex := ⟨_, _, _, _, _, _, _, _, _, _, _, _, rfl, rfl, rfl, fun L fI cc cda => ⟨by rfl, by rfl, by rfl, _, by rfl⟩⟩
  bind := fun _ _ _ _ _ _ _ _ _ => rfl
  nself := by decide +kernel
  ndbg := by decide +kernel
  ks := by decide +kernel
  kc := by decide +kernel
  k0 := by decide +kernel
  k1 := by decide +kernel
  cells := by decide +kernel
  kind := rfl
  co := rfl
  gen := rfl
theorem y_NameTaken : Txt1 "NameTaken.__init__" "name" "the name is taken" (defArgs s_NameTaken_init) (defBody s_NameTaken_init) (defScope s_NameTaken_init) where
  ex := ⟨_, _, _, _, _, _, _, _, _, _, _, _, rfl, rfl, rfl, fun L fI cc cda => ⟨by rfl, by rfl, by rfl, _, by rfl⟩⟩
  bind := fun _ _ _ _ _ _ _ _ _ => rfl
  nself := by decide +kernel
  ndbg := by decide +kernel
  ks := by decide +kernel
  kc := by decide +kernel
  k0 := by decide +kernel
  k1 := by decide +kernel
  cells := by decide +kernel
  kind := rfl
  co := rfl
  gen := rfl
theorem y_UnknownName : Txt1 "UnknownName.__init__" "name" "unknown name" (defArgs s_UnknownName_init) (defBody s_UnknownName_init) (defScope s_UnknownName_init) where
  ex := ⟨_, _, _, _, _, _, _, _, _, _, _, _, rfl, rfl, rfl, fun L fI cc cda => ⟨by rfl, by rfl, by rfl, _, by rfl⟩⟩
  bind := fun _ _ _ _ _ _ _ _ _ => rfl
  nself := by decide +kernel
  ndbg := by decide +kernel
  ks := by decide +kernel
  kc := by decide +kernel
  k0 := by decide +kernel
  k1 := by decide +kernel
  cells := by decide +kernel
  kind := rfl
  co := rfl
  gen := rfl
theorem y_UnknownKind : Txt1 "UnknownKind.__init__" "kind" "unknown kind of claim" (defArgs s_UnknownKind_init) (defBody s_UnknownKind_init) (defScope s_UnknownKind_init) where
  ex := ⟨_, _, _, _, _, _, _, _, _, _, _, _, rfl, rfl, rfl, fun L fI cc cda => ⟨by rfl, by rfl, by rfl, _, by rfl⟩⟩
  bind := fun _ _ _ _ _ _ _ _ _ => rfl
  nself := by decide +kernel
  ndbg := by decide +kernel
  ks := by decide +kernel
  kc := by decide +kernel
  k0 := by decide +kernel
  k1 := by decide +kernel
  cells := by decide +kernel
  kind := rfl
  co := rfl
  gen := rfl
theorem y_InvalidOptions : Txt1 "InvalidOptions.__init__" "kind" "wrong options for the kind of claim" (defArgs s_InvalidOptions_init) (defBody s_InvalidOptions_init) (defScope s_InvalidOptions_init) where
  ex := ⟨_, _, _, _, _, _, _, _, _, _, _, _, rfl, rfl, rfl, fun L fI cc cda => ⟨by rfl, by rfl, by rfl, _, by rfl⟩⟩
  bind := fun _ _ _ _ _ _ _ _ _ => rfl
  nself := by decide +kernel
  ndbg := by decide +kernel
  ks := by decide +kernel
  kc := by decide +kernel
  k0 := by decide +kernel
  k1 := by decide +kernel
  cells := by decide +kernel
  kind := rfl
  co := rfl
  gen := rfl
noncomputable def adK (K : Fg) : Ad := { f_is_integer := (He.fAd K ("is_integer", none)), d_is_integer := fdAt K (He.fAd K ("is_integer", none)), f_greatest_divisor := (He.fAd K ("greatest_divisor", none)), d_greatest_divisor := fdAt K (He.fAd K ("greatest_divisor", none)), f_Ratio_init := (He.ma K (He.ga K "Ratio") "__init__"), d_Ratio_init := fdAt K (He.ma K (He.ga K "Ratio") "__init__"), v1_Ratio_init := Classical.epsilon fun v => Vals [V.int 1] v ∧ Binds K (fdAt K (He.ma K (He.ga K "Ratio") "__init__")) (["self", "top", "bottom"] : List Str) v, f_Ratio_eq := (He.ma K (He.ga K "Ratio") "__eq__"), d_Ratio_eq := fdAt K (He.ma K (He.ga K "Ratio") "__eq__"), f_law_glyphs := (He.fAd K ("_law_glyphs", none)), d_law_glyphs := fdAt K (He.fAd K ("_law_glyphs", none)), f_law_places := (He.fAd K ("_law_places", none)), d_law_places := fdAt K (He.fAd K ("_law_places", none)), f_law_names := (He.fAd K ("_law_names", none)), d_law_names := fdAt K (He.fAd K ("_law_names", none)), f_is_between := (He.fAd K ("is_between", none)), d_is_between := fdAt K (He.fAd K ("is_between", none)), f_check_between := (He.fAd K ("check_between", none)), d_check_between := fdAt K (He.fAd K ("check_between", none)), f_font_order := (He.fAd K ("font_order", none)), d_font_order := fdAt K (He.fAd K ("font_order", none)), c_font_order := He.codeOf K ("font_order", none), P_font_order := (He.cT K ("font_order", none)).2, f_is_name := (He.fAd K ("is_name", none)), d_is_name := fdAt K (He.fAd K ("is_name", none)), f_Font_known := (He.ma K (He.ga K "Font") "known"), d_Font_known := fdAt K (He.ma K (He.ga K "Font") "known"), f_Font_ligatures := (prAt K (He.ma K (He.ga K "Font") "ligatures")), d_Font_ligatures := fdAt K (prAt K (He.ma K (He.ga K "Font") "ligatures")), p_Font_ligatures := He.ma K (He.ga K "Font") "ligatures", f_Font_put_blank := (He.ma K (He.ga K "Font") "put_blank"), d_Font_put_blank := fdAt K (He.ma K (He.ga K "Font") "put_blank"), f_Font_put_advance := (He.ma K (He.ga K "Font") "put_advance"), d_Font_put_advance := fdAt K (He.ma K (He.ga K "Font") "put_advance"), f_Font_init := (He.ma K (He.ga K "Font") "__init__"), d_Font_init := fdAt K (He.ma K (He.ga K "Font") "__init__"), g2_blank_Font_init := Classical.epsilon fun g => KBn K (fdAt K (He.ma K (He.ga K "Font") "__init__")) (["self", "advances", "kerns", "blank"] : List Str) 3 (["blank"] : List Str) g (fun vs zs => vs ++ [] ++ zs), v1_Font_init := Classical.epsilon fun v => Vals [V.non, V.int 250] v ∧ Binds K (fdAt K (He.ma K (He.ga K "Font") "__init__")) (["self", "advances", "kerns", "blank"] : List Str) v, f_Font_contains := (He.ma K (He.ga K "Font") "__contains__"), d_Font_contains := fdAt K (He.ma K (He.ga K "Font") "__contains__"), f_Font_letters := (prAt K (He.ma K (He.ga K "Font") "letters")), d_Font_letters := fdAt K (prAt K (He.ma K (He.ga K "Font") "letters")), p_Font_letters := He.ma K (He.ga K "Font") "letters", f_Font_copy := (He.ma K (He.ga K "Font") "copy"), d_Font_copy := fdAt K (He.ma K (He.ga K "Font") "copy"), f_proper_beginnings := (He.fAd K ("proper_beginnings", none)), d_proper_beginnings := fdAt K (He.fAd K ("proper_beginnings", none)), f_drain := (He.fAd K ("drain", none)), d_drain := fdAt K (He.fAd K ("drain", none)), f_added_width := (He.fAd K ("added_width", none)), d_added_width := fdAt K (He.fAd K ("added_width", none)), f_Joined_rest := (He.ma K (He.ga K "Joined") "rest"), d_Joined_rest := fdAt K (He.ma K (He.ga K "Joined") "rest"), f_Joined_explore := (He.ma K (He.ga K "Joined") "explore"), d_Joined_explore := fdAt K (He.ma K (He.ga K "Joined") "explore"), f_Joined_letters := (prAt K (He.ma K (He.ga K "Joined") "letters")), d_Joined_letters := fdAt K (prAt K (He.ma K (He.ga K "Joined") "letters")), p_Joined_letters := He.ma K (He.ga K "Joined") "letters", f_Joined_init := (He.ma K (He.ga K "Joined") "__init__"), d_Joined_init := fdAt K (He.ma K (He.ga K "Joined") "__init__"), f_Font_undo := (He.ma K (He.ga K "Font") "undo"), d_Font_undo := fdAt K (He.ma K (He.ga K "Font") "undo"), f_extreme := (He.fAd K ("extreme", none)), d_extreme := fdAt K (He.fAd K ("extreme", none)), f_worst_rate := (He.fAd K ("worst_rate", none)), d_worst_rate := fdAt K (He.fAd K ("worst_rate", none)), f_law_kinds := (He.fAd K ("_law_kinds", none)), d_law_kinds := fdAt K (He.fAd K ("_law_kinds", none)), f_law_plain := (He.fAd K ("_law_plain", none)), d_law_plain := fdAt K (He.fAd K ("_law_plain", none)), f_law_bag := (He.fAd K ("_law_bag", none)), d_law_bag := fdAt K (He.fAd K ("_law_bag", none)), f_law_take := (He.fAd K ("_law_take", none)), d_law_take := fdAt K (He.fAd K ("_law_take", none)), f_law_text := (He.fAd K ("_law_text", none)), d_law_text := fdAt K (He.fAd K ("_law_text", none)), f_law := (He.fAd K ("law", none)), d_law := fdAt K (He.fAd K ("law", none)), C_Ratio := He.ga K "Ratio", C_FontError := He.ga K "FontError", C_NothingToUndo := He.ga K "NothingToUndo", C_NoCommonLetters := He.ga K "NoCommonLetters", C_Font := He.ga K "Font", C_Joined := He.ga K "Joined", C_InvalidNumber := He.ga K "InvalidNumber", i_InvalidNumber := (He.ma K (He.ga K "InvalidNumber") "__init__"), c_InvalidNumber := ccAt K (He.ma K (He.ga K "InvalidNumber") "__init__"), k_InvalidNumber := cdAt K (He.ma K (He.ga K "InvalidNumber") "__init__"), C_InvalidGlyph := He.ga K "InvalidGlyph", i_InvalidGlyph := (He.ma K (He.ga K "InvalidGlyph") "__init__"), c_InvalidGlyph := ccAt K (He.ma K (He.ga K "InvalidGlyph") "__init__"), k_InvalidGlyph := cdAt K (He.ma K (He.ga K "InvalidGlyph") "__init__"), C_UnknownGlyph := He.ga K "UnknownGlyph", i_UnknownGlyph := (He.ma K (He.ga K "UnknownGlyph") "__init__"), c_UnknownGlyph := ccAt K (He.ma K (He.ga K "UnknownGlyph") "__init__"), k_UnknownGlyph := cdAt K (He.ma K (He.ga K "UnknownGlyph") "__init__"), C_TooMany := He.ga K "TooMany", i_TooMany := (He.ma K (He.ga K "TooMany") "__init__"), c_TooMany := ccAt K (He.ma K (He.ga K "TooMany") "__init__"), k_TooMany := cdAt K (He.ma K (He.ga K "TooMany") "__init__"), C_Overlap := He.ga K "Overlap", i_Overlap := (He.ma K (He.ga K "Overlap") "__init__"), c_Overlap := ccAt K (He.ma K (He.ga K "Overlap") "__init__"), k_Overlap := cdAt K (He.ma K (He.ga K "Overlap") "__init__"), C_InUse := He.ga K "InUse", i_InUse := (He.ma K (He.ga K "InUse") "__init__"), c_InUse := ccAt K (He.ma K (He.ga K "InUse") "__init__"), k_InUse := cdAt K (He.ma K (He.ga K "InUse") "__init__"), C_DeedRefused := He.ga K "DeedRefused", i_DeedRefused := (He.ma K (He.ga K "DeedRefused") "__init__"), c_DeedRefused := ccAt K (He.ma K (He.ga K "DeedRefused") "__init__"), k_DeedRefused := cdAt K (He.ma K (He.ga K "DeedRefused") "__init__"), C_InvalidLine := He.ga K "InvalidLine", i_InvalidLine := (He.ma K (He.ga K "InvalidLine") "__init__"), c_InvalidLine := ccAt K (He.ma K (He.ga K "InvalidLine") "__init__"), k_InvalidLine := cdAt K (He.ma K (He.ga K "InvalidLine") "__init__"), C_UnknownLetter := He.ga K "UnknownLetter", i_UnknownLetter := (He.ma K (He.ga K "UnknownLetter") "__init__"), c_UnknownLetter := ccAt K (He.ma K (He.ga K "UnknownLetter") "__init__"), k_UnknownLetter := cdAt K (He.ma K (He.ga K "UnknownLetter") "__init__"), C_InvalidState := He.ga K "InvalidState", i_InvalidState := (He.ma K (He.ga K "InvalidState") "__init__"), c_InvalidState := ccAt K (He.ma K (He.ga K "InvalidState") "__init__"), k_InvalidState := cdAt K (He.ma K (He.ga K "InvalidState") "__init__"), C_InvalidText := He.ga K "InvalidText", i_InvalidText := (He.ma K (He.ga K "InvalidText") "__init__"), c_InvalidText := ccAt K (He.ma K (He.ga K "InvalidText") "__init__"), k_InvalidText := cdAt K (He.ma K (He.ga K "InvalidText") "__init__"), C_Contradiction := He.ga K "Contradiction", i_Contradiction := (He.ma K (He.ga K "Contradiction") "__init__"), c_Contradiction := ccAt K (He.ma K (He.ga K "Contradiction") "__init__"), k_Contradiction := cdAt K (He.ma K (He.ga K "Contradiction") "__init__"), C_NameTaken := He.ga K "NameTaken", i_NameTaken := (He.ma K (He.ga K "NameTaken") "__init__"), c_NameTaken := ccAt K (He.ma K (He.ga K "NameTaken") "__init__"), k_NameTaken := cdAt K (He.ma K (He.ga K "NameTaken") "__init__"), C_UnknownName := He.ga K "UnknownName", i_UnknownName := (He.ma K (He.ga K "UnknownName") "__init__"), c_UnknownName := ccAt K (He.ma K (He.ga K "UnknownName") "__init__"), k_UnknownName := cdAt K (He.ma K (He.ga K "UnknownName") "__init__"), C_UnknownKind := He.ga K "UnknownKind", i_UnknownKind := (He.ma K (He.ga K "UnknownKind") "__init__"), c_UnknownKind := ccAt K (He.ma K (He.ga K "UnknownKind") "__init__"), k_UnknownKind := cdAt K (He.ma K (He.ga K "UnknownKind") "__init__"), C_InvalidOptions := He.ga K "InvalidOptions", i_InvalidOptions := (He.ma K (He.ga K "InvalidOptions") "__init__"), c_InvalidOptions := ccAt K (He.ma K (He.ga K "InvalidOptions") "__init__"), k_InvalidOptions := cdAt K (He.ma K (He.ga K "InvalidOptions") "__init__") }
abbrev Sy (h : Heap) (K : Fg) : Prop := Says2 fnL tfL fxL h K
section
variable {K : Fg} {h : Heap} {mg : Str → Option Value} {base : Heap}
theorem df_is_integer (c : Sy h K) : FunD K "is_integer" "is_integer" (defArgs s_is_integer) (defBody s_is_integer) (defScope s_is_integer) [] [] (adK K).f_is_integer (adK K).d_is_integer := DefX.funD (d := dx_is_integer) (c.def_ 0) rfl
theorem df_greatest_divisor (c : Sy h K) : FunD K "greatest_divisor" "greatest_divisor" (defArgs s_greatest_divisor) (defBody s_greatest_divisor) (defScope s_greatest_divisor) [] [] (adK K).f_greatest_divisor (adK K).d_greatest_divisor := DefX.funD (d := dx_greatest_divisor) (c.def_ 1) rfl
theorem df_Ratio_init (c : Sy h K) : FunD K "__init__" "Ratio.__init__" (defArgs s_Ratio_init) (defBody s_Ratio_init) (defScope s_Ratio_init) [V.int 1] [] (adK K).f_Ratio_init (adK K).d_Ratio_init := DefX.funD (d := dx_Ratio_init) (c.def_ 2) rfl
theorem bv1_Ratio_init (c : Sy h K) : Vals [V.int 1] (adK K).v1_Ratio_init ∧ Binds K (adK K).d_Ratio_init (["self", "top", "bottom"] : List Str) (adK K).v1_Ratio_init := eps (P := fun v => Vals [V.int 1] v ∧ Binds K (fdAt K (He.ma K (He.ga K "Ratio") "__init__")) (["self", "top", "bottom"] : List Str) v) (FunD.binds1 (ps := (["self", "top", "bottom"] : List Str)) (df_Ratio_init c) 2 0 (by simp) (by decide) (fun T kV doc pm an cdv ct us its h1 h2 => match us, its, h1, h2 with | [_, _], [_], _, _ => ⟨_, rfl, rfl⟩))
theorem df_Ratio_eq (c : Sy h K) : FunD K "__eq__" "Ratio.__eq__" (defArgs s_Ratio_eq) (defBody s_Ratio_eq) (defScope s_Ratio_eq) [] [] (adK K).f_Ratio_eq (adK K).d_Ratio_eq := DefX.funD (d := dx_Ratio_eq) (c.def_ 3) rfl
theorem df_law_glyphs (c : Sy h K) : FunD K "_law_glyphs" "_law_glyphs" (defArgs s_law_glyphs) (defBody s_law_glyphs) (defScope s_law_glyphs) [] [] (adK K).f_law_glyphs (adK K).d_law_glyphs := DefX.funD (d := dx_law_glyphs) (c.def_ 4) rfl
theorem df_law_places (c : Sy h K) : FunD K "_law_places" "_law_places" (defArgs s_law_places) (defBody s_law_places) (defScope s_law_places) [] [] (adK K).f_law_places (adK K).d_law_places := DefX.funD (d := dx_law_places) (c.def_ 5) rfl
theorem df_law_names (c : Sy h K) : FunD K "_law_names" "_law_names" (defArgs s_law_names) (defBody s_law_names) (defScope s_law_names) [] [] (adK K).f_law_names (adK K).d_law_names := DefX.funD (d := dx_law_names) (c.def_ 6) rfl
theorem df_is_between (c : Sy h K) : FunD K "is_between" "is_between" (defArgs s_is_between) (defBody s_is_between) (defScope s_is_between) [] [] (adK K).f_is_between (adK K).d_is_between := DefX.funD (d := dx_is_between) (c.def_ 7) rfl
theorem df_check_between (c : Sy h K) : FunD K "check_between" "check_between" (defArgs s_check_between) (defBody s_check_between) (defScope s_check_between) [] [] (adK K).f_check_between (adK K).d_check_between := DefX.funD (d := dx_check_between) (c.def_ 8) rfl
theorem df_font_order (c : Sy h K) : FunD K "font_order" "font_order" (defArgs s_font_order) (defBody s_font_order) (defScope s_font_order) [] [] (adK K).f_font_order (adK K).d_font_order := DefX.funD (d := dx_font_order) (c.def_ 9) rfl
theorem df_is_name (c : Sy h K) : FunD K "is_name" "is_name" (defArgs s_is_name) (defBody s_is_name) (defScope s_is_name) [] [] (adK K).f_is_name (adK K).d_is_name := DefX.funD (d := dx_is_name) (c.def_ 10) rfl
theorem df_Font_known (c : Sy h K) : FunD K "known" "Font.known" (defArgs s_Font_known) (defBody s_Font_known) (defScope s_Font_known) [] [] (adK K).f_Font_known (adK K).d_Font_known := DefX.funD (d := dx_Font_known) (c.def_ 11) rfl
theorem df_Font_ligatures (c : Sy h K) : FunD K "ligatures" "Font.ligatures" (defArgs s_Font_ligatures) (defBody s_Font_ligatures) (defScope s_Font_ligatures) [] [] (adK K).f_Font_ligatures (adK K).d_Font_ligatures := DefX.funD (d := dx_Font_ligatures) (c.def_ 12) rfl
theorem df_Font_put_blank (c : Sy h K) : FunD K "put_blank" "Font.put_blank" (defArgs s_Font_put_blank) (defBody s_Font_put_blank) (defScope s_Font_put_blank) [] [] (adK K).f_Font_put_blank (adK K).d_Font_put_blank := DefX.funD (d := dx_Font_put_blank) (c.def_ 13) rfl
theorem df_Font_put_advance (c : Sy h K) : FunD K "put_advance" "Font.put_advance" (defArgs s_Font_put_advance) (defBody s_Font_put_advance) (defScope s_Font_put_advance) [] [] (adK K).f_Font_put_advance (adK K).d_Font_put_advance := DefX.funD (d := dx_Font_put_advance) (c.def_ 14) rfl
theorem df_Font_init (c : Sy h K) : FunD K "__init__" "Font.__init__" (defArgs s_Font_init) (defBody s_Font_init) (defScope s_Font_init) [V.non] [("blank", V.int 250)] (adK K).f_Font_init (adK K).d_Font_init := DefX.funD (d := dx_Font_init) (c.def_ 15) rfl
theorem bg2_blank_Font_init (c : Sy h K) : KBn K (adK K).d_Font_init (["self", "advances", "kerns", "blank"] : List Str) 3 (["blank"] : List Str) (adK K).g2_blank_Font_init (fun vs zs => vs ++ [] ++ zs) := eps (P := fun g => KBn K (fdAt K (He.ma K (He.ga K "Font") "__init__")) (["self", "advances", "kerns", "blank"] : List Str) 3 (["blank"] : List Str) g (fun vs zs => vs ++ [] ++ zs)) (by
  obtain ⟨it, mv, q⟩ := FunD.kbinds (ps := (["self", "advances", "kerns", "blank"] : List Str)) (df_Font_init c) 3 (["blank"] : List Str) [] (fun us its mv ws => us ++ its.drop 1 ++ ws) (by simp) (by simp) (by simp) (fun r1 r2 _ r4 => (r1.append (r2.drop 1)).append r4) (fun T D doc pm an cdv ct us its mv ws h1 h2 h3 h4 => match us, its, mv, ws, h1, h2, h3, h4 with | [_, _, _], [_], [], [_], _, _, _, _ => ⟨_, rfl, rfl⟩)
  exact ⟨_, q⟩)
theorem bv1_Font_init (c : Sy h K) : Vals [V.non, V.int 250] (adK K).v1_Font_init ∧ Binds K (adK K).d_Font_init (["self", "advances", "kerns", "blank"] : List Str) (adK K).v1_Font_init := eps (P := fun v => Vals [V.non, V.int 250] v ∧ Binds K (fdAt K (He.ma K (He.ga K "Font") "__init__")) (["self", "advances", "kerns", "blank"] : List Str) v) (FunD.binds (ps := (["self", "advances", "kerns", "blank"] : List Str)) (df_Font_init c) 2 0 (by simp) (by decide) (fun T D doc pm an cdv ct us its ks h1 h2 h3 => match us, its, ks, h1, h2, h3 with | [_, _], [_], [_], _, _, _ => ⟨_, rfl, _, _, _, _, _, _, rfl, rfl, rfl⟩) (by simp))
theorem df_Font_contains (c : Sy h K) : FunD K "__contains__" "Font.__contains__" (defArgs s_Font_contains) (defBody s_Font_contains) (defScope s_Font_contains) [] [] (adK K).f_Font_contains (adK K).d_Font_contains := DefX.funD (d := dx_Font_contains) (c.def_ 16) rfl
theorem df_Font_letters (c : Sy h K) : FunD K "letters" "Font.letters" (defArgs s_Font_letters) (defBody s_Font_letters) (defScope s_Font_letters) [] [] (adK K).f_Font_letters (adK K).d_Font_letters := DefX.funD (d := dx_Font_letters) (c.def_ 17) rfl
theorem df_Font_copy (c : Sy h K) : FunD K "copy" "Font.copy" (defArgs s_Font_copy) (defBody s_Font_copy) (defScope s_Font_copy) [] [] (adK K).f_Font_copy (adK K).d_Font_copy := DefX.funD (d := dx_Font_copy) (c.def_ 18) rfl
theorem df_proper_beginnings (c : Sy h K) : FunD K "proper_beginnings" "proper_beginnings" (defArgs s_proper_beginnings) (defBody s_proper_beginnings) (defScope s_proper_beginnings) [] [] (adK K).f_proper_beginnings (adK K).d_proper_beginnings := DefX.funD (d := dx_proper_beginnings) (c.def_ 19) rfl
theorem df_drain (c : Sy h K) : FunD K "drain" "drain" (defArgs s_drain) (defBody s_drain) (defScope s_drain) [] [] (adK K).f_drain (adK K).d_drain := DefX.funD (d := dx_drain) (c.def_ 20) rfl
theorem df_added_width (c : Sy h K) : FunD K "added_width" "added_width" (defArgs s_added_width) (defBody s_added_width) (defScope s_added_width) [] [] (adK K).f_added_width (adK K).d_added_width := DefX.funD (d := dx_added_width) (c.def_ 21) rfl
theorem df_Joined_rest (c : Sy h K) : FunD K "rest" "Joined.rest" (defArgs s_Joined_rest) (defBody s_Joined_rest) (defScope s_Joined_rest) [] [] (adK K).f_Joined_rest (adK K).d_Joined_rest := DefX.funD (d := dx_Joined_rest) (c.def_ 22) rfl
theorem df_Joined_explore (c : Sy h K) : FunD K "explore" "Joined.explore" (defArgs s_Joined_explore) (defBody s_Joined_explore) (defScope s_Joined_explore) [] [] (adK K).f_Joined_explore (adK K).d_Joined_explore := DefX.funD (d := dx_Joined_explore) (c.def_ 23) rfl
theorem df_Joined_letters (c : Sy h K) : FunD K "letters" "Joined.letters" (defArgs s_Joined_letters) (defBody s_Joined_letters) (defScope s_Joined_letters) [] [] (adK K).f_Joined_letters (adK K).d_Joined_letters := DefX.funD (d := dx_Joined_letters) (c.def_ 24) rfl
theorem df_Joined_init (c : Sy h K) : FunD K "__init__" "Joined.__init__" (defArgs s_Joined_init) (defBody s_Joined_init) (defScope s_Joined_init) [] [] (adK K).f_Joined_init (adK K).d_Joined_init := DefX.funD (d := dx_Joined_init) (c.def_ 25) rfl
theorem df_Font_undo (c : Sy h K) : FunD K "undo" "Font.undo" (defArgs s_Font_undo) (defBody s_Font_undo) (defScope s_Font_undo) [] [] (adK K).f_Font_undo (adK K).d_Font_undo := DefX.funD (d := dx_Font_undo) (c.def_ 26) rfl
theorem df_extreme (c : Sy h K) : FunD K "extreme" "extreme" (defArgs s_extreme) (defBody s_extreme) (defScope s_extreme) [] [] (adK K).f_extreme (adK K).d_extreme := DefX.funD (d := dx_extreme) (c.def_ 27) rfl
theorem df_worst_rate (c : Sy h K) : FunD K "worst_rate" "worst_rate" (defArgs s_worst_rate) (defBody s_worst_rate) (defScope s_worst_rate) [] [] (adK K).f_worst_rate (adK K).d_worst_rate := DefX.funD (d := dx_worst_rate) (c.def_ 28) rfl
theorem df_law_kinds (c : Sy h K) : FunD K "_law_kinds" "_law_kinds" (defArgs s_law_kinds) (defBody s_law_kinds) (defScope s_law_kinds) [] [] (adK K).f_law_kinds (adK K).d_law_kinds := DefX.funD (d := dx_law_kinds) (c.def_ 29) rfl
theorem df_law_plain (c : Sy h K) : FunD K "_law_plain" "_law_plain" (defArgs s_law_plain) (defBody s_law_plain) (defScope s_law_plain) [] [] (adK K).f_law_plain (adK K).d_law_plain := DefX.funD (d := dx_law_plain) (c.def_ 30) rfl
theorem df_law_bag (c : Sy h K) : FunD K "_law_bag" "_law_bag" (defArgs s_law_bag) (defBody s_law_bag) (defScope s_law_bag) [] [] (adK K).f_law_bag (adK K).d_law_bag := DefX.funD (d := dx_law_bag) (c.def_ 31) rfl
theorem df_law_take (c : Sy h K) : FunD K "_law_take" "_law_take" (defArgs s_law_take) (defBody s_law_take) (defScope s_law_take) [] [] (adK K).f_law_take (adK K).d_law_take := DefX.funD (d := dx_law_take) (c.def_ 32) rfl
theorem df_law_text (c : Sy h K) : FunD K "_law_text" "_law_text" (defArgs s_law_text) (defBody s_law_text) (defScope s_law_text) [] [] (adK K).f_law_text (adK K).d_law_text := DefX.funD (d := dx_law_text) (c.def_ 33) rfl
theorem df_law (c : Sy h K) : FunD K "law" "law" (defArgs s_law) (defBody s_law) (defScope s_law) [] [] (adK K).f_law (adK K).d_law := DefX.funD (d := dx_law) (c.def_ 34) rfl
theorem er_InvalidNumber (X : K.In h) (G : h.Ns mainGlobals mg) (c : Sy h K) : ErrC PySem.Challenge.rw_fontgap_k72_errors_of_their_own_kinds.prog K mg "InvalidNumber" "InvalidNumber.__init__" (defArgs s_InvalidNumber_init) (defBody s_InvalidNumber_init) (defScope s_InvalidNumber_init) (adK K).C_InvalidNumber (adK K).i_InvalidNumber (adK K).c_InvalidNumber (adK K).k_InvalidNumber ∧ ExcC K (adK K).C_InvalidNumber := errB_ok (file := Str.ofString "/claim/cut.py") X G (c.fact 51) (DefX.errFn (d := dx_InvalidNumber_init) (c.def_ 35) rfl rfl rfl) rfl (by rfl)
theorem er_InvalidGlyph (X : K.In h) (G : h.Ns mainGlobals mg) (c : Sy h K) : ErrC PySem.Challenge.rw_fontgap_k72_errors_of_their_own_kinds.prog K mg "InvalidGlyph" "InvalidGlyph.__init__" (defArgs s_InvalidGlyph_init) (defBody s_InvalidGlyph_init) (defScope s_InvalidGlyph_init) (adK K).C_InvalidGlyph (adK K).i_InvalidGlyph (adK K).c_InvalidGlyph (adK K).k_InvalidGlyph ∧ ExcC K (adK K).C_InvalidGlyph := errB_ok (file := Str.ofString "/claim/cut.py") X G (c.fact 53) (DefX.errFn (d := dx_InvalidGlyph_init) (c.def_ 36) rfl rfl rfl) rfl (by rfl)
theorem er_UnknownGlyph (X : K.In h) (G : h.Ns mainGlobals mg) (c : Sy h K) : ErrC PySem.Challenge.rw_fontgap_k72_errors_of_their_own_kinds.prog K mg "UnknownGlyph" "UnknownGlyph.__init__" (defArgs s_UnknownGlyph_init) (defBody s_UnknownGlyph_init) (defScope s_UnknownGlyph_init) (adK K).C_UnknownGlyph (adK K).i_UnknownGlyph (adK K).c_UnknownGlyph (adK K).k_UnknownGlyph ∧ ExcC K (adK K).C_UnknownGlyph := errB_ok (file := Str.ofString "/claim/cut.py") X G (c.fact 55) (DefX.errFn (d := dx_UnknownGlyph_init) (c.def_ 37) rfl rfl rfl) rfl (by rfl)
theorem er_TooMany (X : K.In h) (G : h.Ns mainGlobals mg) (c : Sy h K) : ErrC PySem.Challenge.rw_fontgap_k72_errors_of_their_own_kinds.prog K mg "TooMany" "TooMany.__init__" (defArgs s_TooMany_init) (defBody s_TooMany_init) (defScope s_TooMany_init) (adK K).C_TooMany (adK K).i_TooMany (adK K).c_TooMany (adK K).k_TooMany ∧ ExcC K (adK K).C_TooMany := errB_ok (file := Str.ofString "/claim/cut.py") X G (c.fact 57) (DefX.errFn (d := dx_TooMany_init) (c.def_ 38) rfl rfl rfl) rfl (by rfl)
theorem er_Overlap (X : K.In h) (G : h.Ns mainGlobals mg) (c : Sy h K) : ErrC PySem.Challenge.rw_fontgap_k72_errors_of_their_own_kinds.prog K mg "Overlap" "Overlap.__init__" (defArgs s_Overlap_init) (defBody s_Overlap_init) (defScope s_Overlap_init) (adK K).C_Overlap (adK K).i_Overlap (adK K).c_Overlap (adK K).k_Overlap ∧ ExcC K (adK K).C_Overlap := errB_ok (file := Str.ofString "/claim/cut.py") X G (c.fact 59) (DefX.errFn (d := dx_Overlap_init) (c.def_ 39) rfl rfl rfl) rfl (by rfl)
theorem er_InUse (X : K.In h) (G : h.Ns mainGlobals mg) (c : Sy h K) : ErrC PySem.Challenge.rw_fontgap_k72_errors_of_their_own_kinds.prog K mg "InUse" "InUse.__init__" (defArgs s_InUse_init) (defBody s_InUse_init) (defScope s_InUse_init) (adK K).C_InUse (adK K).i_InUse (adK K).c_InUse (adK K).k_InUse ∧ ExcC K (adK K).C_InUse := errB_ok (file := Str.ofString "/claim/cut.py") X G (c.fact 62) (DefX.errFn (d := dx_InUse_init) (c.def_ 40) rfl rfl rfl) rfl (by rfl)
theorem er_DeedRefused (X : K.In h) (G : h.Ns mainGlobals mg) (c : Sy h K) : ErrC PySem.Challenge.rw_fontgap_k72_errors_of_their_own_kinds.prog K mg "DeedRefused" "DeedRefused.__init__" (defArgs s_DeedRefused_init) (defBody s_DeedRefused_init) (defScope s_DeedRefused_init) (adK K).C_DeedRefused (adK K).i_DeedRefused (adK K).c_DeedRefused (adK K).k_DeedRefused ∧ ExcC K (adK K).C_DeedRefused := errB_ok (file := Str.ofString "/claim/cut.py") X G (c.fact 64) (DefX.errFn (d := dx_DeedRefused_init) (c.def_ 41) rfl rfl rfl) rfl (by rfl)
theorem er_InvalidLine (X : K.In h) (G : h.Ns mainGlobals mg) (c : Sy h K) : ErrC PySem.Challenge.rw_fontgap_k72_errors_of_their_own_kinds.prog K mg "InvalidLine" "InvalidLine.__init__" (defArgs s_InvalidLine_init) (defBody s_InvalidLine_init) (defScope s_InvalidLine_init) (adK K).C_InvalidLine (adK K).i_InvalidLine (adK K).c_InvalidLine (adK K).k_InvalidLine ∧ ExcC K (adK K).C_InvalidLine := errB_ok (file := Str.ofString "/claim/cut.py") X G (c.fact 66) (DefX.errFn (d := dx_InvalidLine_init) (c.def_ 42) rfl rfl rfl) rfl (by rfl)
theorem er_UnknownLetter (X : K.In h) (G : h.Ns mainGlobals mg) (c : Sy h K) : ErrC PySem.Challenge.rw_fontgap_k72_errors_of_their_own_kinds.prog K mg "UnknownLetter" "UnknownLetter.__init__" (defArgs s_UnknownLetter_init) (defBody s_UnknownLetter_init) (defScope s_UnknownLetter_init) (adK K).C_UnknownLetter (adK K).i_UnknownLetter (adK K).c_UnknownLetter (adK K).k_UnknownLetter ∧ ExcC K (adK K).C_UnknownLetter := errB_ok (file := Str.ofString "/claim/cut.py") X G (c.fact 68) (DefX.errFn (d := dx_UnknownLetter_init) (c.def_ 43) rfl rfl rfl) rfl (by rfl)
theorem er_InvalidState (X : K.In h) (G : h.Ns mainGlobals mg) (c : Sy h K) : ErrC PySem.Challenge.rw_fontgap_k72_errors_of_their_own_kinds.prog K mg "InvalidState" "InvalidState.__init__" (defArgs s_InvalidState_init) (defBody s_InvalidState_init) (defScope s_InvalidState_init) (adK K).C_InvalidState (adK K).i_InvalidState (adK K).c_InvalidState (adK K).k_InvalidState ∧ ExcC K (adK K).C_InvalidState := errB_ok (file := Str.ofString "/claim/cut.py") X G (c.fact 71) (DefX.errFn (d := dx_InvalidState_init) (c.def_ 44) rfl rfl rfl) rfl (by rfl)
theorem er_InvalidText (X : K.In h) (G : h.Ns mainGlobals mg) (c : Sy h K) : ErrC PySem.Challenge.rw_fontgap_k72_errors_of_their_own_kinds.prog K mg "InvalidText" "InvalidText.__init__" (defArgs s_InvalidText_init) (defBody s_InvalidText_init) (defScope s_InvalidText_init) (adK K).C_InvalidText (adK K).i_InvalidText (adK K).c_InvalidText (adK K).k_InvalidText ∧ ExcC K (adK K).C_InvalidText := errB_ok (file := Str.ofString "/claim/cut.py") X G (c.fact 73) (DefX.errFn (d := dx_InvalidText_init) (c.def_ 45) rfl rfl rfl) rfl (by rfl)
theorem er_Contradiction (X : K.In h) (G : h.Ns mainGlobals mg) (c : Sy h K) : ErrC PySem.Challenge.rw_fontgap_k72_errors_of_their_own_kinds.prog K mg "Contradiction" "Contradiction.__init__" (defArgs s_Contradiction_init) (defBody s_Contradiction_init) (defScope s_Contradiction_init) (adK K).C_Contradiction (adK K).i_Contradiction (adK K).c_Contradiction (adK K).k_Contradiction ∧ ExcC K (adK K).C_Contradiction := errB_ok (file := Str.ofString "/claim/cut.py") X G (c.fact 75) (DefX.errFn (d := dx_Contradiction_init) (c.def_ 46) rfl rfl rfl) rfl (by rfl)
theorem er_NameTaken (X : K.In h) (G : h.Ns mainGlobals mg) (c : Sy h K) : ErrC PySem.Challenge.rw_fontgap_k72_errors_of_their_own_kinds.prog K mg "NameTaken" "NameTaken.__init__" (defArgs s_NameTaken_init) (defBody s_NameTaken_init) (defScope s_NameTaken_init) (adK K).C_NameTaken (adK K).i_NameTaken (adK K).c_NameTaken (adK K).k_NameTaken ∧ ExcC K (adK K).C_NameTaken := errB_ok (file := Str.ofString "/claim/cut.py") X G (c.fact 77) (DefX.errFn (d := dx_NameTaken_init) (c.def_ 47) rfl rfl rfl) rfl (by rfl)
theorem er_UnknownName (X : K.In h) (G : h.Ns mainGlobals mg) (c : Sy h K) : ErrC PySem.Challenge.rw_fontgap_k72_errors_of_their_own_kinds.prog K mg "UnknownName" "UnknownName.__init__" (defArgs s_UnknownName_init) (defBody s_UnknownName_init) (defScope s_UnknownName_init) (adK K).C_UnknownName (adK K).i_UnknownName (adK K).c_UnknownName (adK K).k_UnknownName ∧ ExcC K (adK K).C_UnknownName := errB_ok (file := Str.ofString "/claim/cut.py") X G (c.fact 79) (DefX.errFn (d := dx_UnknownName_init) (c.def_ 48) rfl rfl rfl) rfl (by rfl)
theorem er_UnknownKind (X : K.In h) (G : h.Ns mainGlobals mg) (c : Sy h K) : ErrC PySem.Challenge.rw_fontgap_k72_errors_of_their_own_kinds.prog K mg "UnknownKind" "UnknownKind.__init__" (defArgs s_UnknownKind_init) (defBody s_UnknownKind_init) (defScope s_UnknownKind_init) (adK K).C_UnknownKind (adK K).i_UnknownKind (adK K).c_UnknownKind (adK K).k_UnknownKind ∧ ExcC K (adK K).C_UnknownKind := errB_ok (file := Str.ofString "/claim/cut.py") X G (c.fact 81) (DefX.errFn (d := dx_UnknownKind_init) (c.def_ 49) rfl rfl rfl) rfl (by rfl)
theorem er_InvalidOptions (X : K.In h) (G : h.Ns mainGlobals mg) (c : Sy h K) : ErrC PySem.Challenge.rw_fontgap_k72_errors_of_their_own_kinds.prog K mg "InvalidOptions" "InvalidOptions.__init__" (defArgs s_InvalidOptions_init) (defBody s_InvalidOptions_init) (defScope s_InvalidOptions_init) (adK K).C_InvalidOptions (adK K).i_InvalidOptions (adK K).c_InvalidOptions (adK K).k_InvalidOptions ∧ ExcC K (adK K).C_InvalidOptions := errB_ok (file := Str.ofString "/claim/cut.py") X G (c.fact 83) (DefX.errFn (d := dx_InvalidOptions_init) (c.def_ 50) rfl rfl rfl) rfl (by rfl)
theorem t_F_is_integer (X : K.In h) (G : h.Ns mainGlobals mg) (c : Sy h K) : Fun K "is_integer" "is_integer" s_is_integer (adK K).f_is_integer (adK K).d_is_integer := funOf (df_is_integer c)
theorem t_B_is_integer (X : K.In h) (G : h.Ns mainGlobals mg) (c : Sy h K) : Binds K (adK K).d_is_integer (["value"] : List Str) [] := (df_is_integer c).bindsN (fun _ _ _ _ _ _ us hl => match us, hl with | [_], _ => rfl)
theorem t_g_is_integer (X : K.In h) (G : h.Ns mainGlobals mg) (c : Sy h K) : mg "is_integer" = some (.ref (adK K).f_is_integer) := He.glo_ok X G (c.fact 0)
theorem t_k_is_integer (X : K.In h) (G : h.Ns mainGlobals mg) (c : Sy h K) : PySem.W.keepIn K (.ref (adK K).f_is_integer) = true := (df_is_integer c).kp
theorem t_F_greatest_divisor (X : K.In h) (G : h.Ns mainGlobals mg) (c : Sy h K) : Fun K "greatest_divisor" "greatest_divisor" s_greatest_divisor (adK K).f_greatest_divisor (adK K).d_greatest_divisor := funOf (df_greatest_divisor c)
theorem t_B_greatest_divisor (X : K.In h) (G : h.Ns mainGlobals mg) (c : Sy h K) : Binds K (adK K).d_greatest_divisor (["left", "right"] : List Str) [] := (df_greatest_divisor c).bindsN (fun _ _ _ _ _ _ us hl => match us, hl with | [_, _], _ => rfl)
theorem t_g_greatest_divisor (X : K.In h) (G : h.Ns mainGlobals mg) (c : Sy h K) : mg "greatest_divisor" = some (.ref (adK K).f_greatest_divisor) := He.glo_ok X G (c.fact 1)
theorem t_k_greatest_divisor (X : K.In h) (G : h.Ns mainGlobals mg) (c : Sy h K) : PySem.W.keepIn K (.ref (adK K).f_greatest_divisor) = true := (df_greatest_divisor c).kp
theorem t_F_Ratio_init (X : K.In h) (G : h.Ns mainGlobals mg) (c : Sy h K) : FunD K "__init__" "Ratio.__init__" (defArgs s_Ratio_init) (defBody s_Ratio_init) (defScope s_Ratio_init) [V.int 1] [] (adK K).f_Ratio_init (adK K).d_Ratio_init := df_Ratio_init c
theorem t_B_Ratio_init (X : K.In h) (G : h.Ns mainGlobals mg) (c : Sy h K) : Binds K (adK K).d_Ratio_init (["self", "top", "bottom"] : List Str) [] := vals_nil (FunD.binds1 (ps := (["self", "top", "bottom"] : List Str)) (df_Ratio_init c) 3 1 (by simp) (by decide) (fun T kV doc pm an cdv ct us its h1 h2 => match us, its, h1, h2 with | [_, _, _], [_], _, _ => ⟨_, rfl, rfl⟩))
theorem t_B1_Ratio_init (X : K.In h) (G : h.Ns mainGlobals mg) (c : Sy h K) : Binds K (adK K).d_Ratio_init (["self", "top", "bottom"] : List Str) (adK K).v1_Ratio_init := (bv1_Ratio_init c).2
theorem t_V1_Ratio_init (X : K.In h) (G : h.Ns mainGlobals mg) (c : Sy h K) : Vals [V.int 1] (adK K).v1_Ratio_init := (bv1_Ratio_init c).1
theorem t_F_Ratio_eq (X : K.In h) (G : h.Ns mainGlobals mg) (c : Sy h K) : Fun K "__eq__" "Ratio.__eq__" s_Ratio_eq (adK K).f_Ratio_eq (adK K).d_Ratio_eq := funOf (df_Ratio_eq c)
theorem t_B_Ratio_eq (X : K.In h) (G : h.Ns mainGlobals mg) (c : Sy h K) : Binds K (adK K).d_Ratio_eq (["self", "other"] : List Str) [] := (df_Ratio_eq c).bindsN (fun _ _ _ _ _ _ us hl => match us, hl with | [_, _], _ => rfl)
theorem t_M_Ratio_eq (X : K.In h) (G : h.Ns mainGlobals mg) (c : Sy h K) : Meth K (adK K).C_Ratio "__eq__" (adK K).f_Ratio_eq := He.meth_ok (c.fact 2)
theorem t_F_law_glyphs (X : K.In h) (G : h.Ns mainGlobals mg) (c : Sy h K) : Fun K "_law_glyphs" "_law_glyphs" s_law_glyphs (adK K).f_law_glyphs (adK K).d_law_glyphs := funOf (df_law_glyphs c)
theorem t_B_law_glyphs (X : K.In h) (G : h.Ns mainGlobals mg) (c : Sy h K) : Binds K (adK K).d_law_glyphs (["_law_way", "_law_number", "_law_word"] : List Str) [] := (df_law_glyphs c).bindsN (fun _ _ _ _ _ _ us hl => match us, hl with | [_, _, _], _ => rfl)
theorem t_g_law_glyphs (X : K.In h) (G : h.Ns mainGlobals mg) (c : Sy h K) : mg "_law_glyphs" = some (.ref (adK K).f_law_glyphs) := He.glo_ok X G (c.fact 3)
theorem t_k_law_glyphs (X : K.In h) (G : h.Ns mainGlobals mg) (c : Sy h K) : PySem.W.keepIn K (.ref (adK K).f_law_glyphs) = true := (df_law_glyphs c).kp
theorem t_F_law_places (X : K.In h) (G : h.Ns mainGlobals mg) (c : Sy h K) : Fun K "_law_places" "_law_places" s_law_places (adK K).f_law_places (adK K).d_law_places := funOf (df_law_places c)
theorem t_B_law_places (X : K.In h) (G : h.Ns mainGlobals mg) (c : Sy h K) : Binds K (adK K).d_law_places (["_law_way", "_law_number", "_law_word"] : List Str) [] := (df_law_places c).bindsN (fun _ _ _ _ _ _ us hl => match us, hl with | [_, _, _], _ => rfl)
theorem t_g_law_places (X : K.In h) (G : h.Ns mainGlobals mg) (c : Sy h K) : mg "_law_places" = some (.ref (adK K).f_law_places) := He.glo_ok X G (c.fact 4)
theorem t_k_law_places (X : K.In h) (G : h.Ns mainGlobals mg) (c : Sy h K) : PySem.W.keepIn K (.ref (adK K).f_law_places) = true := (df_law_places c).kp
theorem t_F_law_names (X : K.In h) (G : h.Ns mainGlobals mg) (c : Sy h K) : Fun K "_law_names" "_law_names" s_law_names (adK K).f_law_names (adK K).d_law_names := funOf (df_law_names c)
theorem t_B_law_names (X : K.In h) (G : h.Ns mainGlobals mg) (c : Sy h K) : Binds K (adK K).d_law_names (["_law_way", "_law_word"] : List Str) [] := (df_law_names c).bindsN (fun _ _ _ _ _ _ us hl => match us, hl with | [_, _], _ => rfl)
theorem t_g_law_names (X : K.In h) (G : h.Ns mainGlobals mg) (c : Sy h K) : mg "_law_names" = some (.ref (adK K).f_law_names) := He.glo_ok X G (c.fact 5)
theorem t_k_law_names (X : K.In h) (G : h.Ns mainGlobals mg) (c : Sy h K) : PySem.W.keepIn K (.ref (adK K).f_law_names) = true := (df_law_names c).kp
theorem t_F_is_between (X : K.In h) (G : h.Ns mainGlobals mg) (c : Sy h K) : Fun K "is_between" "is_between" s_is_between (adK K).f_is_between (adK K).d_is_between := funOf (df_is_between c)
theorem t_B_is_between (X : K.In h) (G : h.Ns mainGlobals mg) (c : Sy h K) : Binds K (adK K).d_is_between (["value", "low", "high"] : List Str) [] := (df_is_between c).bindsN (fun _ _ _ _ _ _ us hl => match us, hl with | [_, _, _], _ => rfl)
theorem t_g_is_between (X : K.In h) (G : h.Ns mainGlobals mg) (c : Sy h K) : mg "is_between" = some (.ref (adK K).f_is_between) := He.glo_ok X G (c.fact 6)
theorem t_k_is_between (X : K.In h) (G : h.Ns mainGlobals mg) (c : Sy h K) : PySem.W.keepIn K (.ref (adK K).f_is_between) = true := (df_is_between c).kp
theorem t_F_check_between (X : K.In h) (G : h.Ns mainGlobals mg) (c : Sy h K) : Fun K "check_between" "check_between" s_check_between (adK K).f_check_between (adK K).d_check_between := funOf (df_check_between c)
theorem t_B_check_between (X : K.In h) (G : h.Ns mainGlobals mg) (c : Sy h K) : Binds K (adK K).d_check_between (["value", "low", "high"] : List Str) [] := (df_check_between c).bindsN (fun _ _ _ _ _ _ us hl => match us, hl with | [_, _, _], _ => rfl)
theorem t_g_check_between (X : K.In h) (G : h.Ns mainGlobals mg) (c : Sy h K) : mg "check_between" = some (.ref (adK K).f_check_between) := He.glo_ok X G (c.fact 7)
theorem t_k_check_between (X : K.In h) (G : h.Ns mainGlobals mg) (c : Sy h K) : PySem.W.keepIn K (.ref (adK K).f_check_between) = true := (df_check_between c).kp
theorem t_F_font_order (X : K.In h) (G : h.Ns mainGlobals mg) (c : Sy h K) : FunC K "font_order" "font_order" s_font_order (adK K).f_font_order (adK K).d_font_order (adK K).c_font_order := funC_of (p := ("font_order", none)) (df_font_order c)
theorem t_B_font_order (X : K.In h) (G : h.Ns mainGlobals mg) (c : Sy h K) : Binds K (adK K).d_font_order (["glyphs"] : List Str) [] := (df_font_order c).bindsN (fun _ _ _ _ _ _ us hl => match us, hl with | [_], _ => rfl)
theorem t_g_font_order (X : K.In h) (G : h.Ns mainGlobals mg) (c : Sy h K) : mg "font_order" = some (.ref (adK K).f_font_order) := He.glo_ok X G (c.fact 8)
theorem t_k_font_order (X : K.In h) (G : h.Ns mainGlobals mg) (c : Sy h K) : PySem.W.keepIn K (.ref (adK K).f_font_order) = true := (df_font_order c).kp
theorem t_F_is_name (X : K.In h) (G : h.Ns mainGlobals mg) (c : Sy h K) : Fun K "is_name" "is_name" s_is_name (adK K).f_is_name (adK K).d_is_name := funOf (df_is_name c)
theorem t_B_is_name (X : K.In h) (G : h.Ns mainGlobals mg) (c : Sy h K) : Binds K (adK K).d_is_name (["glyph"] : List Str) [] := (df_is_name c).bindsN (fun _ _ _ _ _ _ us hl => match us, hl with | [_], _ => rfl)
theorem t_g_is_name (X : K.In h) (G : h.Ns mainGlobals mg) (c : Sy h K) : mg "is_name" = some (.ref (adK K).f_is_name) := He.glo_ok X G (c.fact 9)
theorem t_k_is_name (X : K.In h) (G : h.Ns mainGlobals mg) (c : Sy h K) : PySem.W.keepIn K (.ref (adK K).f_is_name) = true := (df_is_name c).kp
theorem t_F_Font_known (X : K.In h) (G : h.Ns mainGlobals mg) (c : Sy h K) : Fun K "known" "Font.known" s_Font_known (adK K).f_Font_known (adK K).d_Font_known := funOf (df_Font_known c)
theorem t_B_Font_known (X : K.In h) (G : h.Ns mainGlobals mg) (c : Sy h K) : Binds K (adK K).d_Font_known (["self", "glyph"] : List Str) [] := (df_Font_known c).bindsN (fun _ _ _ _ _ _ us hl => match us, hl with | [_, _], _ => rfl)
theorem t_M_Font_known (X : K.In h) (G : h.Ns mainGlobals mg) (c : Sy h K) : Meth K (adK K).C_Font "known" (adK K).f_Font_known := He.meth_ok (c.fact 10)
theorem t_F_Font_ligatures (X : K.In h) (G : h.Ns mainGlobals mg) (c : Sy h K) : Fun K "ligatures" "Font.ligatures" s_Font_ligatures (adK K).f_Font_ligatures (adK K).d_Font_ligatures := funOf (df_Font_ligatures c)
theorem t_B_Font_ligatures (X : K.In h) (G : h.Ns mainGlobals mg) (c : Sy h K) : Binds K (adK K).d_Font_ligatures (["self"] : List Str) [] := (df_Font_ligatures c).bindsN (fun _ _ _ _ _ _ us hl => match us, hl with | [_], _ => rfl)
theorem t_P_Font_ligatures (X : K.In h) (G : h.Ns mainGlobals mg) (c : Sy h K) : PropOf K (adK K).C_Font "ligatures" (adK K).p_Font_ligatures (adK K).f_Font_ligatures := prB_ok (c.fact 11)
theorem t_F_Font_put_blank (X : K.In h) (G : h.Ns mainGlobals mg) (c : Sy h K) : Fun K "put_blank" "Font.put_blank" s_Font_put_blank (adK K).f_Font_put_blank (adK K).d_Font_put_blank := funOf (df_Font_put_blank c)
theorem t_B_Font_put_blank (X : K.In h) (G : h.Ns mainGlobals mg) (c : Sy h K) : Binds K (adK K).d_Font_put_blank (["self", "advance"] : List Str) [] := (df_Font_put_blank c).bindsN (fun _ _ _ _ _ _ us hl => match us, hl with | [_, _], _ => rfl)
theorem t_M_Font_put_blank (X : K.In h) (G : h.Ns mainGlobals mg) (c : Sy h K) : Meth K (adK K).C_Font "put_blank" (adK K).f_Font_put_blank := He.meth_ok (c.fact 12)
theorem t_F_Font_put_advance (X : K.In h) (G : h.Ns mainGlobals mg) (c : Sy h K) : Fun K "put_advance" "Font.put_advance" s_Font_put_advance (adK K).f_Font_put_advance (adK K).d_Font_put_advance := funOf (df_Font_put_advance c)
theorem t_B_Font_put_advance (X : K.In h) (G : h.Ns mainGlobals mg) (c : Sy h K) : Binds K (adK K).d_Font_put_advance (["self", "glyph", "advance"] : List Str) [] := (df_Font_put_advance c).bindsN (fun _ _ _ _ _ _ us hl => match us, hl with | [_, _, _], _ => rfl)
theorem t_M_Font_put_advance (X : K.In h) (G : h.Ns mainGlobals mg) (c : Sy h K) : Meth K (adK K).C_Font "put_advance" (adK K).f_Font_put_advance := He.meth_ok (c.fact 13)
theorem t_F_Font_init (X : K.In h) (G : h.Ns mainGlobals mg) (c : Sy h K) : FunD K "__init__" "Font.__init__" (defArgs s_Font_init) (defBody s_Font_init) (defScope s_Font_init) [V.non] [("blank", V.int 250)] (adK K).f_Font_init (adK K).d_Font_init := df_Font_init c
theorem t_KB2_blank_Font_init (X : K.In h) (G : h.Ns mainGlobals mg) (c : Sy h K) : KBn K (adK K).d_Font_init (["self", "advances", "kerns", "blank"] : List Str) 3 (["blank"] : List Str) (adK K).g2_blank_Font_init (fun vs zs => vs ++ [] ++ zs) := bg2_blank_Font_init c
theorem t_B1_Font_init (X : K.In h) (G : h.Ns mainGlobals mg) (c : Sy h K) : Binds K (adK K).d_Font_init (["self", "advances", "kerns", "blank"] : List Str) (adK K).v1_Font_init := (bv1_Font_init c).2
theorem t_V1_Font_init (X : K.In h) (G : h.Ns mainGlobals mg) (c : Sy h K) : Vals [V.non, V.int 250] (adK K).v1_Font_init := (bv1_Font_init c).1
theorem t_F_Font_contains (X : K.In h) (G : h.Ns mainGlobals mg) (c : Sy h K) : Fun K "__contains__" "Font.__contains__" s_Font_contains (adK K).f_Font_contains (adK K).d_Font_contains := funOf (df_Font_contains c)
theorem t_B_Font_contains (X : K.In h) (G : h.Ns mainGlobals mg) (c : Sy h K) : Binds K (adK K).d_Font_contains (["self", "glyph"] : List Str) [] := (df_Font_contains c).bindsN (fun _ _ _ _ _ _ us hl => match us, hl with | [_, _], _ => rfl)
theorem t_M_Font_contains (X : K.In h) (G : h.Ns mainGlobals mg) (c : Sy h K) : Meth K (adK K).C_Font "__contains__" (adK K).f_Font_contains := He.meth_ok (c.fact 14)
theorem t_F_Font_letters (X : K.In h) (G : h.Ns mainGlobals mg) (c : Sy h K) : Fun K "letters" "Font.letters" s_Font_letters (adK K).f_Font_letters (adK K).d_Font_letters := funOf (df_Font_letters c)
theorem t_B_Font_letters (X : K.In h) (G : h.Ns mainGlobals mg) (c : Sy h K) : Binds K (adK K).d_Font_letters (["self"] : List Str) [] := (df_Font_letters c).bindsN (fun _ _ _ _ _ _ us hl => match us, hl with | [_], _ => rfl)
theorem t_P_Font_letters (X : K.In h) (G : h.Ns mainGlobals mg) (c : Sy h K) : PropOf K (adK K).C_Font "letters" (adK K).p_Font_letters (adK K).f_Font_letters := prB_ok (c.fact 15)
theorem t_F_Font_copy (X : K.In h) (G : h.Ns mainGlobals mg) (c : Sy h K) : Fun K "copy" "Font.copy" s_Font_copy (adK K).f_Font_copy (adK K).d_Font_copy := funOf (df_Font_copy c)
theorem t_B_Font_copy (X : K.In h) (G : h.Ns mainGlobals mg) (c : Sy h K) : Binds K (adK K).d_Font_copy (["self"] : List Str) [] := (df_Font_copy c).bindsN (fun _ _ _ _ _ _ us hl => match us, hl with | [_], _ => rfl)
theorem t_M_Font_copy (X : K.In h) (G : h.Ns mainGlobals mg) (c : Sy h K) : Meth K (adK K).C_Font "copy" (adK K).f_Font_copy := He.meth_ok (c.fact 16)
theorem t_F_proper_beginnings (X : K.In h) (G : h.Ns mainGlobals mg) (c : Sy h K) : Fun K "proper_beginnings" "proper_beginnings" s_proper_beginnings (adK K).f_proper_beginnings (adK K).d_proper_beginnings := funOf (df_proper_beginnings c)
theorem t_B_proper_beginnings (X : K.In h) (G : h.Ns mainGlobals mg) (c : Sy h K) : Binds K (adK K).d_proper_beginnings (["font"] : List Str) [] := (df_proper_beginnings c).bindsN (fun _ _ _ _ _ _ us hl => match us, hl with | [_], _ => rfl)
theorem t_g_proper_beginnings (X : K.In h) (G : h.Ns mainGlobals mg) (c : Sy h K) : mg "proper_beginnings" = some (.ref (adK K).f_proper_beginnings) := He.glo_ok X G (c.fact 17)
theorem t_k_proper_beginnings (X : K.In h) (G : h.Ns mainGlobals mg) (c : Sy h K) : PySem.W.keepIn K (.ref (adK K).f_proper_beginnings) = true := (df_proper_beginnings c).kp
theorem t_F_drain (X : K.In h) (G : h.Ns mainGlobals mg) (c : Sy h K) : Fun K "drain" "drain" s_drain (adK K).f_drain (adK K).d_drain := funOf (df_drain c)
theorem t_B_drain (X : K.In h) (G : h.Ns mainGlobals mg) (c : Sy h K) : Binds K (adK K).d_drain (["font", "row"] : List Str) [] := (df_drain c).bindsN (fun _ _ _ _ _ _ us hl => match us, hl with | [_, _], _ => rfl)
theorem t_g_drain (X : K.In h) (G : h.Ns mainGlobals mg) (c : Sy h K) : mg "drain" = some (.ref (adK K).f_drain) := He.glo_ok X G (c.fact 18)
theorem t_k_drain (X : K.In h) (G : h.Ns mainGlobals mg) (c : Sy h K) : PySem.W.keepIn K (.ref (adK K).f_drain) = true := (df_drain c).kp
theorem t_F_added_width (X : K.In h) (G : h.Ns mainGlobals mg) (c : Sy h K) : Fun K "added_width" "added_width" s_added_width (adK K).f_added_width (adK K).d_added_width := funOf (df_added_width c)
theorem t_B_added_width (X : K.In h) (G : h.Ns mainGlobals mg) (c : Sy h K) : Binds K (adK K).d_added_width (["font", "last", "glyphs"] : List Str) [] := (df_added_width c).bindsN (fun _ _ _ _ _ _ us hl => match us, hl with | [_, _, _], _ => rfl)
theorem t_g_added_width (X : K.In h) (G : h.Ns mainGlobals mg) (c : Sy h K) : mg "added_width" = some (.ref (adK K).f_added_width) := He.glo_ok X G (c.fact 19)
theorem t_k_added_width (X : K.In h) (G : h.Ns mainGlobals mg) (c : Sy h K) : PySem.W.keepIn K (.ref (adK K).f_added_width) = true := (df_added_width c).kp
theorem t_F_Joined_rest (X : K.In h) (G : h.Ns mainGlobals mg) (c : Sy h K) : Fun K "rest" "Joined.rest" s_Joined_rest (adK K).f_Joined_rest (adK K).d_Joined_rest := funOf (df_Joined_rest c)
theorem t_B_Joined_rest (X : K.In h) (G : h.Ns mainGlobals mg) (c : Sy h K) : Binds K (adK K).d_Joined_rest (["self", "which", "place"] : List Str) [] := (df_Joined_rest c).bindsN (fun _ _ _ _ _ _ us hl => match us, hl with | [_, _, _], _ => rfl)
theorem t_M_Joined_rest (X : K.In h) (G : h.Ns mainGlobals mg) (c : Sy h K) : Meth K (adK K).C_Joined "rest" (adK K).f_Joined_rest := He.meth_ok (c.fact 20)
theorem t_F_Joined_explore (X : K.In h) (G : h.Ns mainGlobals mg) (c : Sy h K) : Fun K "explore" "Joined.explore" s_Joined_explore (adK K).f_Joined_explore (adK K).d_Joined_explore := funOf (df_Joined_explore c)
theorem t_B_Joined_explore (X : K.In h) (G : h.Ns mainGlobals mg) (c : Sy h K) : Binds K (adK K).d_Joined_explore (["self"] : List Str) [] := (df_Joined_explore c).bindsN (fun _ _ _ _ _ _ us hl => match us, hl with | [_], _ => rfl)
theorem t_M_Joined_explore (X : K.In h) (G : h.Ns mainGlobals mg) (c : Sy h K) : Meth K (adK K).C_Joined "explore" (adK K).f_Joined_explore := He.meth_ok (c.fact 21)
theorem t_F_Joined_letters (X : K.In h) (G : h.Ns mainGlobals mg) (c : Sy h K) : Fun K "letters" "Joined.letters" s_Joined_letters (adK K).f_Joined_letters (adK K).d_Joined_letters := funOf (df_Joined_letters c)
theorem t_B_Joined_letters (X : K.In h) (G : h.Ns mainGlobals mg) (c : Sy h K) : Binds K (adK K).d_Joined_letters (["self"] : List Str) [] := (df_Joined_letters c).bindsN (fun _ _ _ _ _ _ us hl => match us, hl with | [_], _ => rfl)
theorem t_P_Joined_letters (X : K.In h) (G : h.Ns mainGlobals mg) (c : Sy h K) : PropOf K (adK K).C_Joined "letters" (adK K).p_Joined_letters (adK K).f_Joined_letters := prB_ok (c.fact 22)
theorem t_F_Joined_init (X : K.In h) (G : h.Ns mainGlobals mg) (c : Sy h K) : Fun K "__init__" "Joined.__init__" s_Joined_init (adK K).f_Joined_init (adK K).d_Joined_init := funOf (df_Joined_init c)
theorem t_B_Joined_init (X : K.In h) (G : h.Ns mainGlobals mg) (c : Sy h K) : Binds K (adK K).d_Joined_init (["self", "first", "second"] : List Str) [] := (df_Joined_init c).bindsN (fun _ _ _ _ _ _ us hl => match us, hl with | [_, _, _], _ => rfl)
theorem t_F_Font_undo (X : K.In h) (G : h.Ns mainGlobals mg) (c : Sy h K) : Fun K "undo" "Font.undo" s_Font_undo (adK K).f_Font_undo (adK K).d_Font_undo := funOf (df_Font_undo c)
theorem t_B_Font_undo (X : K.In h) (G : h.Ns mainGlobals mg) (c : Sy h K) : Binds K (adK K).d_Font_undo (["self"] : List Str) [] := (df_Font_undo c).bindsN (fun _ _ _ _ _ _ us hl => match us, hl with | [_], _ => rfl)
theorem t_M_Font_undo (X : K.In h) (G : h.Ns mainGlobals mg) (c : Sy h K) : Meth K (adK K).C_Font "undo" (adK K).f_Font_undo := He.meth_ok (c.fact 23)
theorem t_F_extreme (X : K.In h) (G : h.Ns mainGlobals mg) (c : Sy h K) : Fun K "extreme" "extreme" s_extreme (adK K).f_extreme (adK K).d_extreme := funOf (df_extreme c)
theorem t_B_extreme (X : K.In h) (G : h.Ns mainGlobals mg) (c : Sy h K) : Binds K (adK K).d_extreme (["joined"] : List Str) [] := (df_extreme c).bindsN (fun _ _ _ _ _ _ us hl => match us, hl with | [_], _ => rfl)
theorem t_g_extreme (X : K.In h) (G : h.Ns mainGlobals mg) (c : Sy h K) : mg "extreme" = some (.ref (adK K).f_extreme) := He.glo_ok X G (c.fact 24)
theorem t_k_extreme (X : K.In h) (G : h.Ns mainGlobals mg) (c : Sy h K) : PySem.W.keepIn K (.ref (adK K).f_extreme) = true := (df_extreme c).kp
theorem t_F_worst_rate (X : K.In h) (G : h.Ns mainGlobals mg) (c : Sy h K) : Fun K "worst_rate" "worst_rate" s_worst_rate (adK K).f_worst_rate (adK K).d_worst_rate := funOf (df_worst_rate c)
theorem t_B_worst_rate (X : K.In h) (G : h.Ns mainGlobals mg) (c : Sy h K) : Binds K (adK K).d_worst_rate (["joined"] : List Str) [] := (df_worst_rate c).bindsN (fun _ _ _ _ _ _ us hl => match us, hl with | [_], _ => rfl)
theorem t_g_worst_rate (X : K.In h) (G : h.Ns mainGlobals mg) (c : Sy h K) : mg "worst_rate" = some (.ref (adK K).f_worst_rate) := He.glo_ok X G (c.fact 25)
theorem t_k_worst_rate (X : K.In h) (G : h.Ns mainGlobals mg) (c : Sy h K) : PySem.W.keepIn K (.ref (adK K).f_worst_rate) = true := (df_worst_rate c).kp
theorem t_F_law_kinds (X : K.In h) (G : h.Ns mainGlobals mg) (c : Sy h K) : Fun K "_law_kinds" "_law_kinds" s_law_kinds (adK K).f_law_kinds (adK K).d_law_kinds := funOf (df_law_kinds c)
theorem t_B_law_kinds (X : K.In h) (G : h.Ns mainGlobals mg) (c : Sy h K) : Binds K (adK K).d_law_kinds (["_law_e"] : List Str) [] := (df_law_kinds c).bindsN (fun _ _ _ _ _ _ us hl => match us, hl with | [_], _ => rfl)
theorem t_g_law_kinds (X : K.In h) (G : h.Ns mainGlobals mg) (c : Sy h K) : mg "_law_kinds" = some (.ref (adK K).f_law_kinds) := He.glo_ok X G (c.fact 26)
theorem t_k_law_kinds (X : K.In h) (G : h.Ns mainGlobals mg) (c : Sy h K) : PySem.W.keepIn K (.ref (adK K).f_law_kinds) = true := (df_law_kinds c).kp
theorem t_F_law_plain (X : K.In h) (G : h.Ns mainGlobals mg) (c : Sy h K) : Fun K "_law_plain" "_law_plain" s_law_plain (adK K).f_law_plain (adK K).d_law_plain := funOf (df_law_plain c)
theorem t_B_law_plain (X : K.In h) (G : h.Ns mainGlobals mg) (c : Sy h K) : Binds K (adK K).d_law_plain (["_law_way"] : List Str) [] := (df_law_plain c).bindsN (fun _ _ _ _ _ _ us hl => match us, hl with | [_], _ => rfl)
theorem t_g_law_plain (X : K.In h) (G : h.Ns mainGlobals mg) (c : Sy h K) : mg "_law_plain" = some (.ref (adK K).f_law_plain) := He.glo_ok X G (c.fact 27)
theorem t_k_law_plain (X : K.In h) (G : h.Ns mainGlobals mg) (c : Sy h K) : PySem.W.keepIn K (.ref (adK K).f_law_plain) = true := (df_law_plain c).kp
theorem t_F_law_bag (X : K.In h) (G : h.Ns mainGlobals mg) (c : Sy h K) : Fun K "_law_bag" "_law_bag" s_law_bag (adK K).f_law_bag (adK K).d_law_bag := funOf (df_law_bag c)
theorem t_B_law_bag (X : K.In h) (G : h.Ns mainGlobals mg) (c : Sy h K) : Binds K (adK K).d_law_bag (["_law_script"] : List Str) [] := (df_law_bag c).bindsN (fun _ _ _ _ _ _ us hl => match us, hl with | [_], _ => rfl)
theorem t_g_law_bag (X : K.In h) (G : h.Ns mainGlobals mg) (c : Sy h K) : mg "_law_bag" = some (.ref (adK K).f_law_bag) := He.glo_ok X G (c.fact 28)
theorem t_k_law_bag (X : K.In h) (G : h.Ns mainGlobals mg) (c : Sy h K) : PySem.W.keepIn K (.ref (adK K).f_law_bag) = true := (df_law_bag c).kp
theorem t_F_law_take (X : K.In h) (G : h.Ns mainGlobals mg) (c : Sy h K) : Fun K "_law_take" "_law_take" s_law_take (adK K).f_law_take (adK K).d_law_take := funOf (df_law_take c)
theorem t_B_law_take (X : K.In h) (G : h.Ns mainGlobals mg) (c : Sy h K) : Binds K (adK K).d_law_take (["_law_bag_here", "_law_size"] : List Str) [] := (df_law_take c).bindsN (fun _ _ _ _ _ _ us hl => match us, hl with | [_, _], _ => rfl)
theorem t_g_law_take (X : K.In h) (G : h.Ns mainGlobals mg) (c : Sy h K) : mg "_law_take" = some (.ref (adK K).f_law_take) := He.glo_ok X G (c.fact 29)
theorem t_k_law_take (X : K.In h) (G : h.Ns mainGlobals mg) (c : Sy h K) : PySem.W.keepIn K (.ref (adK K).f_law_take) = true := (df_law_take c).kp
theorem t_F_law_text (X : K.In h) (G : h.Ns mainGlobals mg) (c : Sy h K) : Fun K "_law_text" "_law_text" s_law_text (adK K).f_law_text (adK K).d_law_text := funOf (df_law_text c)
theorem t_B_law_text (X : K.In h) (G : h.Ns mainGlobals mg) (c : Sy h K) : Binds K (adK K).d_law_text (["_law_bag_here", "_law_letters", "_law_long"] : List Str) [] := (df_law_text c).bindsN (fun _ _ _ _ _ _ us hl => match us, hl with | [_, _, _], _ => rfl)
theorem t_g_law_text (X : K.In h) (G : h.Ns mainGlobals mg) (c : Sy h K) : mg "_law_text" = some (.ref (adK K).f_law_text) := He.glo_ok X G (c.fact 30)
theorem t_k_law_text (X : K.In h) (G : h.Ns mainGlobals mg) (c : Sy h K) : PySem.W.keepIn K (.ref (adK K).f_law_text) = true := (df_law_text c).kp
theorem t_F_law (X : K.In h) (G : h.Ns mainGlobals mg) (c : Sy h K) : Fun K "law" "law" s_law (adK K).f_law (adK K).d_law := funOf (df_law c)
theorem t_B_law (X : K.In h) (G : h.Ns mainGlobals mg) (c : Sy h K) : Binds K (adK K).d_law (["_law_script"] : List Str) [] := (df_law c).bindsN (fun _ _ _ _ _ _ us hl => match us, hl with | [_], _ => rfl)
theorem t_g_law (X : K.In h) (G : h.Ns mainGlobals mg) (c : Sy h K) : mg "law" = some (.ref (adK K).f_law) := He.glo_ok X G (c.fact 31)
theorem t_k_law (X : K.In h) (G : h.Ns mainGlobals mg) (c : Sy h K) : PySem.W.keepIn K (.ref (adK K).f_law) = true := (df_law c).kp
theorem t_cr_Font (X : K.In h) (G : h.Ns mainGlobals mg) (c : Sy h K) : ClX.CRead K (adK K).C_Font (.type "type") := crB_ok (c.fact 32)
theorem t_cv_Font_MOST_ADVANCE (X : K.In h) (G : h.Ns mainGlobals mg) (c : Sy h K) : ∃ u, ClX.CVal K (adK K).C_Font (.type "type") "MOST_ADVANCE" (.int 1000000) u := cvB_ok (c.fact 33)
theorem t_cv_Font_MOST_LETTERS (X : K.In h) (G : h.Ns mainGlobals mg) (c : Sy h K) : ∃ u, ClX.CVal K (adK K).C_Font (.type "type") "MOST_LETTERS" (.int 6) u := cvB_ok (c.fact 34)
theorem t_cv_Font_MOST_LIGATURES (X : K.In h) (G : h.Ns mainGlobals mg) (c : Sy h K) : ∃ u, ClX.CVal K (adK K).C_Font (.type "type") "MOST_LIGATURES" (.int 40) u := cvB_ok (c.fact 35)
theorem t_g_Ratio (X : K.In h) (G : h.Ns mainGlobals mg) (c : Sy h K) : mg "Ratio" = some (.ref (adK K).C_Ratio) := He.glo_ok X G (c.fact 36)
theorem t_c_Ratio (X : K.In h) (G : h.Ns mainGlobals mg) (c : Sy h K) : Cls K (adK K).C_Ratio := He.cls_ok (c.fact 37)
theorem t_I_Ratio (X : K.In h) (G : h.Ns mainGlobals mg) (c : Sy h K) : InsC K (adK K).C_Ratio := insB_ok (c.fact 38)
theorem t_M_Ratio (X : K.In h) (G : h.Ns mainGlobals mg) (c : Sy h K) : Mk K (adK K).C_Ratio (adK K).f_Ratio_init := He.mkr_ok (c.fact 39)
theorem t_g_FontError (X : K.In h) (G : h.Ns mainGlobals mg) (c : Sy h K) : mg "FontError" = some (.ref (adK K).C_FontError) := He.glo_ok X G (c.fact 40)
theorem t_g_NothingToUndo (X : K.In h) (G : h.Ns mainGlobals mg) (c : Sy h K) : mg "NothingToUndo" = some (.ref (adK K).C_NothingToUndo) := He.glo_ok X G (c.fact 41)
theorem t_g_NoCommonLetters (X : K.In h) (G : h.Ns mainGlobals mg) (c : Sy h K) : mg "NoCommonLetters" = some (.ref (adK K).C_NoCommonLetters) := He.glo_ok X G (c.fact 42)
theorem t_g_Font (X : K.In h) (G : h.Ns mainGlobals mg) (c : Sy h K) : mg "Font" = some (.ref (adK K).C_Font) := He.glo_ok X G (c.fact 43)
theorem t_c_Font (X : K.In h) (G : h.Ns mainGlobals mg) (c : Sy h K) : Cls K (adK K).C_Font := He.cls_ok (c.fact 44)
theorem t_I_Font (X : K.In h) (G : h.Ns mainGlobals mg) (c : Sy h K) : InsC K (adK K).C_Font := insB_ok (c.fact 45)
theorem t_M_Font (X : K.In h) (G : h.Ns mainGlobals mg) (c : Sy h K) : Mk K (adK K).C_Font (adK K).f_Font_init := He.mkr_ok (c.fact 46)
theorem t_g_Joined (X : K.In h) (G : h.Ns mainGlobals mg) (c : Sy h K) : mg "Joined" = some (.ref (adK K).C_Joined) := He.glo_ok X G (c.fact 47)
theorem t_c_Joined (X : K.In h) (G : h.Ns mainGlobals mg) (c : Sy h K) : Cls K (adK K).C_Joined := He.cls_ok (c.fact 48)
theorem t_I_Joined (X : K.In h) (G : h.Ns mainGlobals mg) (c : Sy h K) : InsC K (adK K).C_Joined := insB_ok (c.fact 49)
theorem t_M_Joined (X : K.In h) (G : h.Ns mainGlobals mg) (c : Sy h K) : Mk K (adK K).C_Joined (adK K).f_Joined_init := He.mkr_ok (c.fact 50)
theorem t_E_InvalidNumber (X : K.In h) (G : h.Ns mainGlobals mg) (c : Sy h K) : ErrC PySem.Challenge.rw_fontgap_k72_errors_of_their_own_kinds.prog K mg "InvalidNumber" "InvalidNumber.__init__" (defArgs s_InvalidNumber_init) (defBody s_InvalidNumber_init) (defScope s_InvalidNumber_init) (adK K).C_InvalidNumber (adK K).i_InvalidNumber (adK K).c_InvalidNumber (adK K).k_InvalidNumber := (er_InvalidNumber X G c).1
theorem t_Y_InvalidNumber (X : K.In h) (G : h.Ns mainGlobals mg) (c : Sy h K) : Txt1 "InvalidNumber.__init__" "value" "not a valid number" (defArgs s_InvalidNumber_init) (defBody s_InvalidNumber_init) (defScope s_InvalidNumber_init) := y_InvalidNumber
theorem t_X_InvalidNumber (X : K.In h) (G : h.Ns mainGlobals mg) (c : Sy h K) : ExcC K (adK K).C_InvalidNumber := (er_InvalidNumber X G c).2
theorem t_x_InvalidNumber_value (X : K.In h) (G : h.Ns mainGlobals mg) (c : Sy h K) : PySem.W.findIn K (.ref (adK K).C_InvalidNumber) "value" = some none := He.eqO_ok (c.fact 52)
theorem t_E_InvalidGlyph (X : K.In h) (G : h.Ns mainGlobals mg) (c : Sy h K) : ErrC PySem.Challenge.rw_fontgap_k72_errors_of_their_own_kinds.prog K mg "InvalidGlyph" "InvalidGlyph.__init__" (defArgs s_InvalidGlyph_init) (defBody s_InvalidGlyph_init) (defScope s_InvalidGlyph_init) (adK K).C_InvalidGlyph (adK K).i_InvalidGlyph (adK K).c_InvalidGlyph (adK K).k_InvalidGlyph := (er_InvalidGlyph X G c).1
theorem t_Y_InvalidGlyph (X : K.In h) (G : h.Ns mainGlobals mg) (c : Sy h K) : Txt1 "InvalidGlyph.__init__" "glyph" "not a glyph name" (defArgs s_InvalidGlyph_init) (defBody s_InvalidGlyph_init) (defScope s_InvalidGlyph_init) := y_InvalidGlyph
theorem t_X_InvalidGlyph (X : K.In h) (G : h.Ns mainGlobals mg) (c : Sy h K) : ExcC K (adK K).C_InvalidGlyph := (er_InvalidGlyph X G c).2
theorem t_x_InvalidGlyph_glyph (X : K.In h) (G : h.Ns mainGlobals mg) (c : Sy h K) : PySem.W.findIn K (.ref (adK K).C_InvalidGlyph) "glyph" = some none := He.eqO_ok (c.fact 54)
theorem t_E_UnknownGlyph (X : K.In h) (G : h.Ns mainGlobals mg) (c : Sy h K) : ErrC PySem.Challenge.rw_fontgap_k72_errors_of_their_own_kinds.prog K mg "UnknownGlyph" "UnknownGlyph.__init__" (defArgs s_UnknownGlyph_init) (defBody s_UnknownGlyph_init) (defScope s_UnknownGlyph_init) (adK K).C_UnknownGlyph (adK K).i_UnknownGlyph (adK K).c_UnknownGlyph (adK K).k_UnknownGlyph := (er_UnknownGlyph X G c).1
theorem t_Y_UnknownGlyph (X : K.In h) (G : h.Ns mainGlobals mg) (c : Sy h K) : Txt1 "UnknownGlyph.__init__" "glyph" "the font does not have the glyph" (defArgs s_UnknownGlyph_init) (defBody s_UnknownGlyph_init) (defScope s_UnknownGlyph_init) := y_UnknownGlyph
theorem t_X_UnknownGlyph (X : K.In h) (G : h.Ns mainGlobals mg) (c : Sy h K) : ExcC K (adK K).C_UnknownGlyph := (er_UnknownGlyph X G c).2
theorem t_x_UnknownGlyph_glyph (X : K.In h) (G : h.Ns mainGlobals mg) (c : Sy h K) : PySem.W.findIn K (.ref (adK K).C_UnknownGlyph) "glyph" = some none := He.eqO_ok (c.fact 56)
theorem t_E_TooMany (X : K.In h) (G : h.Ns mainGlobals mg) (c : Sy h K) : ErrC PySem.Challenge.rw_fontgap_k72_errors_of_their_own_kinds.prog K mg "TooMany" "TooMany.__init__" (defArgs s_TooMany_init) (defBody s_TooMany_init) (defScope s_TooMany_init) (adK K).C_TooMany (adK K).i_TooMany (adK K).c_TooMany (adK K).k_TooMany := (er_TooMany X G c).1
theorem t_Y_TooMany (X : K.In h) (G : h.Ns mainGlobals mg) (c : Sy h K) : Txt1 "TooMany.__init__" "limit" "too many ligatures" (defArgs s_TooMany_init) (defBody s_TooMany_init) (defScope s_TooMany_init) := y_TooMany
theorem t_X_TooMany (X : K.In h) (G : h.Ns mainGlobals mg) (c : Sy h K) : ExcC K (adK K).C_TooMany := (er_TooMany X G c).2
theorem t_x_TooMany_limit (X : K.In h) (G : h.Ns mainGlobals mg) (c : Sy h K) : PySem.W.findIn K (.ref (adK K).C_TooMany) "limit" = some none := He.eqO_ok (c.fact 58)
theorem t_E_Overlap (X : K.In h) (G : h.Ns mainGlobals mg) (c : Sy h K) : ErrC PySem.Challenge.rw_fontgap_k72_errors_of_their_own_kinds.prog K mg "Overlap" "Overlap.__init__" (defArgs s_Overlap_init) (defBody s_Overlap_init) (defScope s_Overlap_init) (adK K).C_Overlap (adK K).i_Overlap (adK K).c_Overlap (adK K).k_Overlap := (er_Overlap X G c).1
theorem t_Y_Overlap (X : K.In h) (G : h.Ns mainGlobals mg) (c : Sy h K) : Txt2 "Overlap.__init__" "left" "right" "the kern takes back more than an advance" (defArgs s_Overlap_init) (defBody s_Overlap_init) (defScope s_Overlap_init) := y_Overlap
theorem t_X_Overlap (X : K.In h) (G : h.Ns mainGlobals mg) (c : Sy h K) : ExcC K (adK K).C_Overlap := (er_Overlap X G c).2
theorem t_x_Overlap_left (X : K.In h) (G : h.Ns mainGlobals mg) (c : Sy h K) : PySem.W.findIn K (.ref (adK K).C_Overlap) "left" = some none := He.eqO_ok (c.fact 60)
theorem t_x_Overlap_right (X : K.In h) (G : h.Ns mainGlobals mg) (c : Sy h K) : PySem.W.findIn K (.ref (adK K).C_Overlap) "right" = some none := He.eqO_ok (c.fact 61)
theorem t_E_InUse (X : K.In h) (G : h.Ns mainGlobals mg) (c : Sy h K) : ErrC PySem.Challenge.rw_fontgap_k72_errors_of_their_own_kinds.prog K mg "InUse" "InUse.__init__" (defArgs s_InUse_init) (defBody s_InUse_init) (defScope s_InUse_init) (adK K).C_InUse (adK K).i_InUse (adK K).c_InUse (adK K).k_InUse := (er_InUse X G c).1
theorem t_Y_InUse (X : K.In h) (G : h.Ns mainGlobals mg) (c : Sy h K) : Txt1 "InUse.__init__" "user" "still in use" (defArgs s_InUse_init) (defBody s_InUse_init) (defScope s_InUse_init) := y_InUse
theorem t_X_InUse (X : K.In h) (G : h.Ns mainGlobals mg) (c : Sy h K) : ExcC K (adK K).C_InUse := (er_InUse X G c).2
theorem t_x_InUse_user (X : K.In h) (G : h.Ns mainGlobals mg) (c : Sy h K) : PySem.W.findIn K (.ref (adK K).C_InUse) "user" = some none := He.eqO_ok (c.fact 63)
theorem t_E_DeedRefused (X : K.In h) (G : h.Ns mainGlobals mg) (c : Sy h K) : ErrC PySem.Challenge.rw_fontgap_k72_errors_of_their_own_kinds.prog K mg "DeedRefused" "DeedRefused.__init__" (defArgs s_DeedRefused_init) (defBody s_DeedRefused_init) (defScope s_DeedRefused_init) (adK K).C_DeedRefused (adK K).i_DeedRefused (adK K).c_DeedRefused (adK K).k_DeedRefused := (er_DeedRefused X G c).1
theorem t_Y_DeedRefused (X : K.In h) (G : h.Ns mainGlobals mg) (c : Sy h K) : Txt1 "DeedRefused.__init__" "index" "a deed is refused" (defArgs s_DeedRefused_init) (defBody s_DeedRefused_init) (defScope s_DeedRefused_init) := y_DeedRefused
theorem t_X_DeedRefused (X : K.In h) (G : h.Ns mainGlobals mg) (c : Sy h K) : ExcC K (adK K).C_DeedRefused := (er_DeedRefused X G c).2
theorem t_x_DeedRefused_index (X : K.In h) (G : h.Ns mainGlobals mg) (c : Sy h K) : PySem.W.findIn K (.ref (adK K).C_DeedRefused) "index" = some none := He.eqO_ok (c.fact 65)
theorem t_E_InvalidLine (X : K.In h) (G : h.Ns mainGlobals mg) (c : Sy h K) : ErrC PySem.Challenge.rw_fontgap_k72_errors_of_their_own_kinds.prog K mg "InvalidLine" "InvalidLine.__init__" (defArgs s_InvalidLine_init) (defBody s_InvalidLine_init) (defScope s_InvalidLine_init) (adK K).C_InvalidLine (adK K).i_InvalidLine (adK K).c_InvalidLine (adK K).k_InvalidLine := (er_InvalidLine X G c).1
theorem t_Y_InvalidLine (X : K.In h) (G : h.Ns mainGlobals mg) (c : Sy h K) : Txt1 "InvalidLine.__init__" "line" "invalid line in a written font" (defArgs s_InvalidLine_init) (defBody s_InvalidLine_init) (defScope s_InvalidLine_init) := y_InvalidLine
theorem t_X_InvalidLine (X : K.In h) (G : h.Ns mainGlobals mg) (c : Sy h K) : ExcC K (adK K).C_InvalidLine := (er_InvalidLine X G c).2
theorem t_x_InvalidLine_line (X : K.In h) (G : h.Ns mainGlobals mg) (c : Sy h K) : PySem.W.findIn K (.ref (adK K).C_InvalidLine) "line" = some none := He.eqO_ok (c.fact 67)
theorem t_E_UnknownLetter (X : K.In h) (G : h.Ns mainGlobals mg) (c : Sy h K) : ErrC PySem.Challenge.rw_fontgap_k72_errors_of_their_own_kinds.prog K mg "UnknownLetter" "UnknownLetter.__init__" (defArgs s_UnknownLetter_init) (defBody s_UnknownLetter_init) (defScope s_UnknownLetter_init) (adK K).C_UnknownLetter (adK K).i_UnknownLetter (adK K).c_UnknownLetter (adK K).k_UnknownLetter := (er_UnknownLetter X G c).1
theorem t_Y_UnknownLetter (X : K.In h) (G : h.Ns mainGlobals mg) (c : Sy h K) : Txt2 "UnknownLetter.__init__" "letter" "index" "unknown letter in a text" (defArgs s_UnknownLetter_init) (defBody s_UnknownLetter_init) (defScope s_UnknownLetter_init) := y_UnknownLetter
theorem t_X_UnknownLetter (X : K.In h) (G : h.Ns mainGlobals mg) (c : Sy h K) : ExcC K (adK K).C_UnknownLetter := (er_UnknownLetter X G c).2
theorem t_x_UnknownLetter_letter (X : K.In h) (G : h.Ns mainGlobals mg) (c : Sy h K) : PySem.W.findIn K (.ref (adK K).C_UnknownLetter) "letter" = some none := He.eqO_ok (c.fact 69)
theorem t_x_UnknownLetter_index (X : K.In h) (G : h.Ns mainGlobals mg) (c : Sy h K) : PySem.W.findIn K (.ref (adK K).C_UnknownLetter) "index" = some none := He.eqO_ok (c.fact 70)
theorem t_E_InvalidState (X : K.In h) (G : h.Ns mainGlobals mg) (c : Sy h K) : ErrC PySem.Challenge.rw_fontgap_k72_errors_of_their_own_kinds.prog K mg "InvalidState" "InvalidState.__init__" (defArgs s_InvalidState_init) (defBody s_InvalidState_init) (defScope s_InvalidState_init) (adK K).C_InvalidState (adK K).i_InvalidState (adK K).c_InvalidState (adK K).k_InvalidState := (er_InvalidState X G c).1
theorem t_Y_InvalidState (X : K.In h) (G : h.Ns mainGlobals mg) (c : Sy h K) : Txt1 "InvalidState.__init__" "number" "no state has this number" (defArgs s_InvalidState_init) (defBody s_InvalidState_init) (defScope s_InvalidState_init) := y_InvalidState
theorem t_X_InvalidState (X : K.In h) (G : h.Ns mainGlobals mg) (c : Sy h K) : ExcC K (adK K).C_InvalidState := (er_InvalidState X G c).2
theorem t_x_InvalidState_number (X : K.In h) (G : h.Ns mainGlobals mg) (c : Sy h K) : PySem.W.findIn K (.ref (adK K).C_InvalidState) "number" = some none := He.eqO_ok (c.fact 72)
theorem t_E_InvalidText (X : K.In h) (G : h.Ns mainGlobals mg) (c : Sy h K) : ErrC PySem.Challenge.rw_fontgap_k72_errors_of_their_own_kinds.prog K mg "InvalidText" "InvalidText.__init__" (defArgs s_InvalidText_init) (defBody s_InvalidText_init) (defScope s_InvalidText_init) (adK K).C_InvalidText (adK K).i_InvalidText (adK K).c_InvalidText (adK K).k_InvalidText := (er_InvalidText X G c).1
theorem t_Y_InvalidText (X : K.In h) (G : h.Ns mainGlobals mg) (c : Sy h K) : Txt1 "InvalidText.__init__" "index" "blank in a wrong place" (defArgs s_InvalidText_init) (defBody s_InvalidText_init) (defScope s_InvalidText_init) := y_InvalidText
theorem t_X_InvalidText (X : K.In h) (G : h.Ns mainGlobals mg) (c : Sy h K) : ExcC K (adK K).C_InvalidText := (er_InvalidText X G c).2
theorem t_x_InvalidText_index (X : K.In h) (G : h.Ns mainGlobals mg) (c : Sy h K) : PySem.W.findIn K (.ref (adK K).C_InvalidText) "index" = some none := He.eqO_ok (c.fact 74)
theorem t_E_Contradiction (X : K.In h) (G : h.Ns mainGlobals mg) (c : Sy h K) : ErrC PySem.Challenge.rw_fontgap_k72_errors_of_their_own_kinds.prog K mg "Contradiction" "Contradiction.__init__" (defArgs s_Contradiction_init) (defBody s_Contradiction_init) (defScope s_Contradiction_init) (adK K).C_Contradiction (adK K).i_Contradiction (adK K).c_Contradiction (adK K).k_Contradiction := (er_Contradiction X G c).1
theorem t_Y_Contradiction (X : K.In h) (G : h.Ns mainGlobals mg) (c : Sy h K) : Txt1 "Contradiction.__init__" "combination" "the measurement contradicts earlier ones" (defArgs s_Contradiction_init) (defBody s_Contradiction_init) (defScope s_Contradiction_init) := y_Contradiction
theorem t_X_Contradiction (X : K.In h) (G : h.Ns mainGlobals mg) (c : Sy h K) : ExcC K (adK K).C_Contradiction := (er_Contradiction X G c).2
theorem t_x_Contradiction_combination (X : K.In h) (G : h.Ns mainGlobals mg) (c : Sy h K) : PySem.W.findIn K (.ref (adK K).C_Contradiction) "combination" = some none := He.eqO_ok (c.fact 76)
theorem t_E_NameTaken (X : K.In h) (G : h.Ns mainGlobals mg) (c : Sy h K) : ErrC PySem.Challenge.rw_fontgap_k72_errors_of_their_own_kinds.prog K mg "NameTaken" "NameTaken.__init__" (defArgs s_NameTaken_init) (defBody s_NameTaken_init) (defScope s_NameTaken_init) (adK K).C_NameTaken (adK K).i_NameTaken (adK K).c_NameTaken (adK K).k_NameTaken := (er_NameTaken X G c).1
theorem t_Y_NameTaken (X : K.In h) (G : h.Ns mainGlobals mg) (c : Sy h K) : Txt1 "NameTaken.__init__" "name" "the name is taken" (defArgs s_NameTaken_init) (defBody s_NameTaken_init) (defScope s_NameTaken_init) := y_NameTaken
theorem t_X_NameTaken (X : K.In h) (G : h.Ns mainGlobals mg) (c : Sy h K) : ExcC K (adK K).C_NameTaken := (er_NameTaken X G c).2
theorem t_x_NameTaken_name (X : K.In h) (G : h.Ns mainGlobals mg) (c : Sy h K) : PySem.W.findIn K (.ref (adK K).C_NameTaken) "name" = some none := He.eqO_ok (c.fact 78)
theorem t_E_UnknownName (X : K.In h) (G : h.Ns mainGlobals mg) (c : Sy h K) : ErrC PySem.Challenge.rw_fontgap_k72_errors_of_their_own_kinds.prog K mg "UnknownName" "UnknownName.__init__" (defArgs s_UnknownName_init) (defBody s_UnknownName_init) (defScope s_UnknownName_init) (adK K).C_UnknownName (adK K).i_UnknownName (adK K).c_UnknownName (adK K).k_UnknownName := (er_UnknownName X G c).1
theorem t_Y_UnknownName (X : K.In h) (G : h.Ns mainGlobals mg) (c : Sy h K) : Txt1 "UnknownName.__init__" "name" "unknown name" (defArgs s_UnknownName_init) (defBody s_UnknownName_init) (defScope s_UnknownName_init) := y_UnknownName
theorem t_X_UnknownName (X : K.In h) (G : h.Ns mainGlobals mg) (c : Sy h K) : ExcC K (adK K).C_UnknownName := (er_UnknownName X G c).2
theorem t_x_UnknownName_name (X : K.In h) (G : h.Ns mainGlobals mg) (c : Sy h K) : PySem.W.findIn K (.ref (adK K).C_UnknownName) "name" = some none := He.eqO_ok (c.fact 80)
theorem t_E_UnknownKind (X : K.In h) (G : h.Ns mainGlobals mg) (c : Sy h K) : ErrC PySem.Challenge.rw_fontgap_k72_errors_of_their_own_kinds.prog K mg "UnknownKind" "UnknownKind.__init__" (defArgs s_UnknownKind_init) (defBody s_UnknownKind_init) (defScope s_UnknownKind_init) (adK K).C_UnknownKind (adK K).i_UnknownKind (adK K).c_UnknownKind (adK K).k_UnknownKind := (er_UnknownKind X G c).1
theorem t_Y_UnknownKind (X : K.In h) (G : h.Ns mainGlobals mg) (c : Sy h K) : Txt1 "UnknownKind.__init__" "kind" "unknown kind of claim" (defArgs s_UnknownKind_init) (defBody s_UnknownKind_init) (defScope s_UnknownKind_init) := y_UnknownKind
theorem t_X_UnknownKind (X : K.In h) (G : h.Ns mainGlobals mg) (c : Sy h K) : ExcC K (adK K).C_UnknownKind := (er_UnknownKind X G c).2
theorem t_x_UnknownKind_kind (X : K.In h) (G : h.Ns mainGlobals mg) (c : Sy h K) : PySem.W.findIn K (.ref (adK K).C_UnknownKind) "kind" = some none := He.eqO_ok (c.fact 82)
theorem t_E_InvalidOptions (X : K.In h) (G : h.Ns mainGlobals mg) (c : Sy h K) : ErrC PySem.Challenge.rw_fontgap_k72_errors_of_their_own_kinds.prog K mg "InvalidOptions" "InvalidOptions.__init__" (defArgs s_InvalidOptions_init) (defBody s_InvalidOptions_init) (defScope s_InvalidOptions_init) (adK K).C_InvalidOptions (adK K).i_InvalidOptions (adK K).c_InvalidOptions (adK K).k_InvalidOptions := (er_InvalidOptions X G c).1
theorem t_Y_InvalidOptions (X : K.In h) (G : h.Ns mainGlobals mg) (c : Sy h K) : Txt1 "InvalidOptions.__init__" "kind" "wrong options for the kind of claim" (defArgs s_InvalidOptions_init) (defBody s_InvalidOptions_init) (defScope s_InvalidOptions_init) := y_InvalidOptions
theorem t_X_InvalidOptions (X : K.In h) (G : h.Ns mainGlobals mg) (c : Sy h K) : ExcC K (adK K).C_InvalidOptions := (er_InvalidOptions X G c).2
theorem t_x_InvalidOptions_kind (X : K.In h) (G : h.Ns mainGlobals mg) (c : Sy h K) : PySem.W.findIn K (.ref (adK K).C_InvalidOptions) "kind" = some none := He.eqO_ok (c.fact 84)
theorem t_n_ValueError (X : K.In h) (G : h.Ns mainGlobals mg) (c : Sy h K) : mg "ValueError" = none := He.free_ok X G (c.fact 85)
theorem t_n_abs (X : K.In h) (G : h.Ns mainGlobals mg) (c : Sy h K) : mg "abs" = none := He.free_ok X G (c.fact 86)
theorem t_n_bool (X : K.In h) (G : h.Ns mainGlobals mg) (c : Sy h K) : mg "bool" = none := He.free_ok X G (c.fact 87)
theorem t_n_int (X : K.In h) (G : h.Ns mainGlobals mg) (c : Sy h K) : mg "int" = none := He.free_ok X G (c.fact 88)
theorem t_n_isinstance (X : K.In h) (G : h.Ns mainGlobals mg) (c : Sy h K) : mg "isinstance" = none := He.free_ok X G (c.fact 89)
theorem t_n_len (X : K.In h) (G : h.Ns mainGlobals mg) (c : Sy h K) : mg "len" = none := He.free_ok X G (c.fact 90)
theorem t_n_list (X : K.In h) (G : h.Ns mainGlobals mg) (c : Sy h K) : mg "list" = none := He.free_ok X G (c.fact 91)
theorem t_n_range (X : K.In h) (G : h.Ns mainGlobals mg) (c : Sy h K) : mg "range" = none := He.free_ok X G (c.fact 92)
theorem t_n_sorted (X : K.In h) (G : h.Ns mainGlobals mg) (c : Sy h K) : mg "sorted" = none := He.free_ok X G (c.fact 93)
theorem t_n_str (X : K.In h) (G : h.Ns mainGlobals mg) (c : Sy h K) : mg "str" = none := He.free_ok X G (c.fact 94)
theorem t_na_Ratio_top (X : K.In h) (G : h.Ns mainGlobals mg) (c : Sy h K) : NoAttr K (adK K).C_Ratio "top" := He.noat_ok (c.fact 95)
theorem t_na_Ratio_bottom (X : K.In h) (G : h.Ns mainGlobals mg) (c : Sy h K) : NoAttr K (adK K).C_Ratio "bottom" := He.noat_ok (c.fact 96)
theorem t_xi_NothingToUndo (X : K.In h) (G : h.Ns mainGlobals mg) (c : Sy h K) : PySem.W.excIn K (adK K).C_NothingToUndo [.type "ValueError", .type "Exception", .type "BaseException", .type "object"] "ValueError.__new__" = true := of_decide_eq_true (c.fact 97)
theorem t_kp_NothingToUndo (X : K.In h) (G : h.Ns mainGlobals mg) (c : Sy h K) : PySem.W.keepIn K (.ref (adK K).C_NothingToUndo) = true := of_decide_eq_true (c.fact 98)
theorem t_ty_NothingToUndo (X : K.In h) (G : h.Ns mainGlobals mg) (c : Sy h K) : PySem.W.typeIn K (.ref (adK K).C_NothingToUndo) = some (.type "type") := of_decide_eq_true (c.fact 99)
theorem t_X_NothingToUndo (X : K.In h) (G : h.Ns mainGlobals mg) (c : Sy h K) : ExcC K (adK K).C_NothingToUndo := excB_ok (c.fact 100)
theorem t_xi_NoCommonLetters (X : K.In h) (G : h.Ns mainGlobals mg) (c : Sy h K) : PySem.W.excIn K (adK K).C_NoCommonLetters [.type "ValueError", .type "Exception", .type "BaseException", .type "object"] "ValueError.__new__" = true := of_decide_eq_true (c.fact 101)
theorem t_kp_NoCommonLetters (X : K.In h) (G : h.Ns mainGlobals mg) (c : Sy h K) : PySem.W.keepIn K (.ref (adK K).C_NoCommonLetters) = true := of_decide_eq_true (c.fact 102)
theorem t_ty_NoCommonLetters (X : K.In h) (G : h.Ns mainGlobals mg) (c : Sy h K) : PySem.W.typeIn K (.ref (adK K).C_NoCommonLetters) = some (.type "type") := of_decide_eq_true (c.fact 103)
theorem t_X_NoCommonLetters (X : K.In h) (G : h.Ns mainGlobals mg) (c : Sy h K) : ExcC K (adK K).C_NoCommonLetters := excB_ok (c.fact 104)
theorem t_ty_FontError (X : K.In h) (G : h.Ns mainGlobals mg) (c : Sy h K) : PySem.W.typeIn K (.ref (adK K).C_FontError) = some (.type "type") := of_decide_eq_true (c.fact 105)
theorem t_be_FontError (X : K.In h) (G : h.Ns mainGlobals mg) (c : Sy h K) : PySem.W.subIn K (.ref (adK K).C_FontError) (.type "BaseException") = some true := of_decide_eq_true (c.fact 106)
theorem t_cl_FontError (X : K.In h) (G : h.Ns mainGlobals mg) (c : Sy h K) : (PySem.W.clsIn K (adK K).C_FontError).isSome = true := of_decide_eq_true (c.fact 107)
theorem t_mr_InvalidGlyph (X : K.In h) (G : h.Ns mainGlobals mg) (c : Sy h K) : (PySem.W.clsIn K (adK K).C_InvalidGlyph).map (·.mro) = some [.ref (adK K).C_InvalidGlyph, .ref (adK K).C_FontError, .type "ValueError", .type "Exception", .type "BaseException", .type "object"] := of_decide_eq_true (c.fact 108)
theorem t_mr_InvalidNumber (X : K.In h) (G : h.Ns mainGlobals mg) (c : Sy h K) : (PySem.W.clsIn K (adK K).C_InvalidNumber).map (·.mro) = some [.ref (adK K).C_InvalidNumber, .ref (adK K).C_FontError, .type "ValueError", .type "Exception", .type "BaseException", .type "object"] := of_decide_eq_true (c.fact 109)
theorem t_mr_UnknownGlyph (X : K.In h) (G : h.Ns mainGlobals mg) (c : Sy h K) : (PySem.W.clsIn K (adK K).C_UnknownGlyph).map (·.mro) = some [.ref (adK K).C_UnknownGlyph, .ref (adK K).C_FontError, .type "ValueError", .type "Exception", .type "BaseException", .type "object"] := of_decide_eq_true (c.fact 110)
theorem t_mr_TooMany (X : K.In h) (G : h.Ns mainGlobals mg) (c : Sy h K) : (PySem.W.clsIn K (adK K).C_TooMany).map (·.mro) = some [.ref (adK K).C_TooMany, .ref (adK K).C_FontError, .type "ValueError", .type "Exception", .type "BaseException", .type "object"] := of_decide_eq_true (c.fact 111)
theorem t_mr_Overlap (X : K.In h) (G : h.Ns mainGlobals mg) (c : Sy h K) : (PySem.W.clsIn K (adK K).C_Overlap).map (·.mro) = some [.ref (adK K).C_Overlap, .ref (adK K).C_FontError, .type "ValueError", .type "Exception", .type "BaseException", .type "object"] := of_decide_eq_true (c.fact 112)
theorem t_mr_InUse (X : K.In h) (G : h.Ns mainGlobals mg) (c : Sy h K) : (PySem.W.clsIn K (adK K).C_InUse).map (·.mro) = some [.ref (adK K).C_InUse, .ref (adK K).C_FontError, .type "ValueError", .type "Exception", .type "BaseException", .type "object"] := of_decide_eq_true (c.fact 113)
theorem t_mr_DeedRefused (X : K.In h) (G : h.Ns mainGlobals mg) (c : Sy h K) : (PySem.W.clsIn K (adK K).C_DeedRefused).map (·.mro) = some [.ref (adK K).C_DeedRefused, .ref (adK K).C_FontError, .type "ValueError", .type "Exception", .type "BaseException", .type "object"] := of_decide_eq_true (c.fact 114)
theorem t_mr_InvalidLine (X : K.In h) (G : h.Ns mainGlobals mg) (c : Sy h K) : (PySem.W.clsIn K (adK K).C_InvalidLine).map (·.mro) = some [.ref (adK K).C_InvalidLine, .ref (adK K).C_FontError, .type "ValueError", .type "Exception", .type "BaseException", .type "object"] := of_decide_eq_true (c.fact 115)
theorem t_mr_UnknownLetter (X : K.In h) (G : h.Ns mainGlobals mg) (c : Sy h K) : (PySem.W.clsIn K (adK K).C_UnknownLetter).map (·.mro) = some [.ref (adK K).C_UnknownLetter, .ref (adK K).C_FontError, .type "ValueError", .type "Exception", .type "BaseException", .type "object"] := of_decide_eq_true (c.fact 116)
theorem t_mr_InvalidState (X : K.In h) (G : h.Ns mainGlobals mg) (c : Sy h K) : (PySem.W.clsIn K (adK K).C_InvalidState).map (·.mro) = some [.ref (adK K).C_InvalidState, .ref (adK K).C_FontError, .type "ValueError", .type "Exception", .type "BaseException", .type "object"] := of_decide_eq_true (c.fact 117)
theorem t_mr_InvalidText (X : K.In h) (G : h.Ns mainGlobals mg) (c : Sy h K) : (PySem.W.clsIn K (adK K).C_InvalidText).map (·.mro) = some [.ref (adK K).C_InvalidText, .ref (adK K).C_FontError, .type "ValueError", .type "Exception", .type "BaseException", .type "object"] := of_decide_eq_true (c.fact 118)
theorem t_mr_Contradiction (X : K.In h) (G : h.Ns mainGlobals mg) (c : Sy h K) : (PySem.W.clsIn K (adK K).C_Contradiction).map (·.mro) = some [.ref (adK K).C_Contradiction, .ref (adK K).C_FontError, .type "ValueError", .type "Exception", .type "BaseException", .type "object"] := of_decide_eq_true (c.fact 119)
theorem t_mr_NameTaken (X : K.In h) (G : h.Ns mainGlobals mg) (c : Sy h K) : (PySem.W.clsIn K (adK K).C_NameTaken).map (·.mro) = some [.ref (adK K).C_NameTaken, .ref (adK K).C_FontError, .type "ValueError", .type "Exception", .type "BaseException", .type "object"] := of_decide_eq_true (c.fact 120)
theorem t_mr_UnknownName (X : K.In h) (G : h.Ns mainGlobals mg) (c : Sy h K) : (PySem.W.clsIn K (adK K).C_UnknownName).map (·.mro) = some [.ref (adK K).C_UnknownName, .ref (adK K).C_FontError, .type "ValueError", .type "Exception", .type "BaseException", .type "object"] := of_decide_eq_true (c.fact 121)
theorem t_mr_UnknownKind (X : K.In h) (G : h.Ns mainGlobals mg) (c : Sy h K) : (PySem.W.clsIn K (adK K).C_UnknownKind).map (·.mro) = some [.ref (adK K).C_UnknownKind, .ref (adK K).C_FontError, .type "ValueError", .type "Exception", .type "BaseException", .type "object"] := of_decide_eq_true (c.fact 122)
theorem t_mr_InvalidOptions (X : K.In h) (G : h.Ns mainGlobals mg) (c : Sy h K) : (PySem.W.clsIn K (adK K).C_InvalidOptions).map (·.mro) = some [.ref (adK K).C_InvalidOptions, .ref (adK K).C_FontError, .type "ValueError", .type "Exception", .type "BaseException", .type "object"] := of_decide_eq_true (c.fact 123)
theorem t_mr_NothingToUndo (X : K.In h) (G : h.Ns mainGlobals mg) (c : Sy h K) : (PySem.W.clsIn K (adK K).C_NothingToUndo).map (·.mro) = some [.ref (adK K).C_NothingToUndo, .ref (adK K).C_FontError, .type "ValueError", .type "Exception", .type "BaseException", .type "object"] := of_decide_eq_true (c.fact 124)
theorem t_mr_NoCommonLetters (X : K.In h) (G : h.Ns mainGlobals mg) (c : Sy h K) : (PySem.W.clsIn K (adK K).C_NoCommonLetters).map (·.mro) = some [.ref (adK K).C_NoCommonLetters, .ref (adK K).C_FontError, .type "ValueError", .type "Exception", .type "BaseException", .type "object"] := of_decide_eq_true (c.fact 125)
theorem t_nd_all (X : K.In h) (G : h.Ns mainGlobals mg) (c : Sy h K) : ([(adK K).C_InvalidGlyph, (adK K).C_InvalidNumber, (adK K).C_UnknownGlyph, (adK K).C_TooMany, (adK K).C_Overlap, (adK K).C_InUse, (adK K).C_DeedRefused, (adK K).C_InvalidLine, (adK K).C_UnknownLetter, (adK K).C_InvalidState, (adK K).C_InvalidText, (adK K).C_Contradiction, (adK K).C_NameTaken, (adK K).C_UnknownName, (adK K).C_UnknownKind, (adK K).C_InvalidOptions, (adK K).C_NothingToUndo, (adK K).C_NoCommonLetters, (adK K).C_FontError] : List Addr).Nodup := of_decide_eq_true (c.fact 126)
theorem t_ne_jf (X : K.In h) (G : h.Ns mainGlobals mg) (c : Sy h K) : (adK K).C_Joined ≠ (adK K).C_Font := of_decide_eq_true (c.fact 127)
theorem t_na_Font_rows (X : K.In h) (G : h.Ns mainGlobals mg) (c : Sy h K) : NoAttr K (adK K).C_Font "rows" := He.noat_ok (c.fact 128)
theorem t_na_Font_pairs (X : K.In h) (G : h.Ns mainGlobals mg) (c : Sy h K) : NoAttr K (adK K).C_Font "pairs" := He.noat_ok (c.fact 129)
theorem t_na_Font_space (X : K.In h) (G : h.Ns mainGlobals mg) (c : Sy h K) : NoAttr K (adK K).C_Font "space" := He.noat_ok (c.fact 130)
theorem t_na_Font_past (X : K.In h) (G : h.Ns mainGlobals mg) (c : Sy h K) : NoAttr K (adK K).C_Font "past" := He.noat_ok (c.fact 131)
theorem t_na_Joined_faces (X : K.In h) (G : h.Ns mainGlobals mg) (c : Sy h K) : NoAttr K (adK K).C_Joined "faces" := He.noat_ok (c.fact 132)
theorem t_na_Joined_common (X : K.In h) (G : h.Ns mainGlobals mg) (c : Sy h K) : NoAttr K (adK K).C_Joined "common" := He.noat_ok (c.fact 133)
theorem t_na_Joined_places (X : K.In h) (G : h.Ns mainGlobals mg) (c : Sy h K) : NoAttr K (adK K).C_Joined "places" := He.noat_ok (c.fact 134)
theorem t_na_Joined_ways (X : K.In h) (G : h.Ns mainGlobals mg) (c : Sy h K) : NoAttr K (adK K).C_Joined "ways" := He.noat_ok (c.fact 135)
theorem t_na_Joined_steps (X : K.In h) (G : h.Ns mainGlobals mg) (c : Sy h K) : NoAttr K (adK K).C_Joined "steps" := He.noat_ok (c.fact 136)
theorem t_na_Joined_ends (X : K.In h) (G : h.Ns mainGlobals mg) (c : Sy h K) : NoAttr K (adK K).C_Joined "ends" := He.noat_ok (c.fact 137)
theorem txt (X : K.In h) (G : h.Ns mainGlobals mg) (c : Sy h K) (TB : ∀ p ∈ ([((adK K).c_font_order, (adK K).P_font_order)] : List (Addr × Addr)), LamX.TabB base mg p.1 p.2) : Txt PySem.Challenge.rw_fontgap_k72_errors_of_their_own_kinds.prog K mg base (adK K) :=
  ⟨t_F_is_integer X G c,
    t_B_is_integer X G c,
    t_g_is_integer X G c,
    t_k_is_integer X G c,
    t_F_greatest_divisor X G c,
    t_B_greatest_divisor X G c,
    t_g_greatest_divisor X G c,
    t_k_greatest_divisor X G c,
    t_F_Ratio_init X G c,
    t_B_Ratio_init X G c,
    t_B1_Ratio_init X G c,
    t_V1_Ratio_init X G c,
    t_F_Ratio_eq X G c,
    t_B_Ratio_eq X G c,
    t_M_Ratio_eq X G c,
    t_F_law_glyphs X G c,
    t_B_law_glyphs X G c,
    t_g_law_glyphs X G c,
    t_k_law_glyphs X G c,
    t_F_law_places X G c,
    t_B_law_places X G c,
    t_g_law_places X G c,
    t_k_law_places X G c,
    t_F_law_names X G c,
    t_B_law_names X G c,
    t_g_law_names X G c,
    t_k_law_names X G c,
    t_F_is_between X G c,
    t_B_is_between X G c,
    t_g_is_between X G c,
    t_k_is_between X G c,
    t_F_check_between X G c,
    t_B_check_between X G c,
    t_g_check_between X G c,
    t_k_check_between X G c,
    t_F_font_order X G c,
    TB ((adK K).c_font_order, (adK K).P_font_order) (by simp),
    t_B_font_order X G c,
    t_g_font_order X G c,
    t_k_font_order X G c,
    t_F_is_name X G c,
    t_B_is_name X G c,
    t_g_is_name X G c,
    t_k_is_name X G c,
    t_F_Font_known X G c,
    t_B_Font_known X G c,
    t_M_Font_known X G c,
    t_F_Font_ligatures X G c,
    t_B_Font_ligatures X G c,
    t_P_Font_ligatures X G c,
    t_F_Font_put_blank X G c,
    t_B_Font_put_blank X G c,
    t_M_Font_put_blank X G c,
    t_F_Font_put_advance X G c,
    t_B_Font_put_advance X G c,
    t_M_Font_put_advance X G c,
    t_F_Font_init X G c,
    t_KB2_blank_Font_init X G c,
    t_B1_Font_init X G c,
    t_V1_Font_init X G c,
    t_F_Font_contains X G c,
    t_B_Font_contains X G c,
    t_M_Font_contains X G c,
    t_F_Font_letters X G c,
    t_B_Font_letters X G c,
    t_P_Font_letters X G c,
    t_F_Font_copy X G c,
    t_B_Font_copy X G c,
    t_M_Font_copy X G c,
    t_F_proper_beginnings X G c,
    t_B_proper_beginnings X G c,
    t_g_proper_beginnings X G c,
    t_k_proper_beginnings X G c,
    t_F_drain X G c,
    t_B_drain X G c,
    t_g_drain X G c,
    t_k_drain X G c,
    t_F_added_width X G c,
    t_B_added_width X G c,
    t_g_added_width X G c,
    t_k_added_width X G c,
    t_F_Joined_rest X G c,
    t_B_Joined_rest X G c,
    t_M_Joined_rest X G c,
    t_F_Joined_explore X G c,
    t_B_Joined_explore X G c,
    t_M_Joined_explore X G c,
    t_F_Joined_letters X G c,
    t_B_Joined_letters X G c,
    t_P_Joined_letters X G c,
    t_F_Joined_init X G c,
    t_B_Joined_init X G c,
    t_F_Font_undo X G c,
    t_B_Font_undo X G c,
    t_M_Font_undo X G c,
    t_F_extreme X G c,
    t_B_extreme X G c,
    t_g_extreme X G c,
    t_k_extreme X G c,
    t_F_worst_rate X G c,
    t_B_worst_rate X G c,
    t_g_worst_rate X G c,
    t_k_worst_rate X G c,
    t_F_law_kinds X G c,
    t_B_law_kinds X G c,
    t_g_law_kinds X G c,
    t_k_law_kinds X G c,
    t_F_law_plain X G c,
    t_B_law_plain X G c,
    t_g_law_plain X G c,
    t_k_law_plain X G c,
    t_F_law_bag X G c,
    t_B_law_bag X G c,
    t_g_law_bag X G c,
    t_k_law_bag X G c,
    t_F_law_take X G c,
    t_B_law_take X G c,
    t_g_law_take X G c,
    t_k_law_take X G c,
    t_F_law_text X G c,
    t_B_law_text X G c,
    t_g_law_text X G c,
    t_k_law_text X G c,
    t_F_law X G c,
    t_B_law X G c,
    t_g_law X G c,
    t_k_law X G c,
    t_cr_Font X G c,
    t_cv_Font_MOST_ADVANCE X G c,
    t_cv_Font_MOST_LETTERS X G c,
    t_cv_Font_MOST_LIGATURES X G c,
    t_g_Ratio X G c,
    t_c_Ratio X G c,
    t_I_Ratio X G c,
    t_M_Ratio X G c,
    t_g_FontError X G c,
    t_g_NothingToUndo X G c,
    t_g_NoCommonLetters X G c,
    t_g_Font X G c,
    t_c_Font X G c,
    t_I_Font X G c,
    t_M_Font X G c,
    t_g_Joined X G c,
    t_c_Joined X G c,
    t_I_Joined X G c,
    t_M_Joined X G c,
    t_E_InvalidNumber X G c,
    t_Y_InvalidNumber X G c,
    t_X_InvalidNumber X G c,
    t_x_InvalidNumber_value X G c,
    t_E_InvalidGlyph X G c,
    t_Y_InvalidGlyph X G c,
    t_X_InvalidGlyph X G c,
    t_x_InvalidGlyph_glyph X G c,
    t_E_UnknownGlyph X G c,
    t_Y_UnknownGlyph X G c,
    t_X_UnknownGlyph X G c,
    t_x_UnknownGlyph_glyph X G c,
    t_E_TooMany X G c,
    t_Y_TooMany X G c,
    t_X_TooMany X G c,
    t_x_TooMany_limit X G c,
    t_E_Overlap X G c,
    t_Y_Overlap X G c,
    t_X_Overlap X G c,
    t_x_Overlap_left X G c,
    t_x_Overlap_right X G c,
    t_E_InUse X G c,
    t_Y_InUse X G c,
    t_X_InUse X G c,
    t_x_InUse_user X G c,
    t_E_DeedRefused X G c,
    t_Y_DeedRefused X G c,
    t_X_DeedRefused X G c,
    t_x_DeedRefused_index X G c,
    t_E_InvalidLine X G c,
    t_Y_InvalidLine X G c,
    t_X_InvalidLine X G c,
    t_x_InvalidLine_line X G c,
    t_E_UnknownLetter X G c,
    t_Y_UnknownLetter X G c,
    t_X_UnknownLetter X G c,
    t_x_UnknownLetter_letter X G c,
    t_x_UnknownLetter_index X G c,
    t_E_InvalidState X G c,
    t_Y_InvalidState X G c,
    t_X_InvalidState X G c,
    t_x_InvalidState_number X G c,
    t_E_InvalidText X G c,
    t_Y_InvalidText X G c,
    t_X_InvalidText X G c,
    t_x_InvalidText_index X G c,
    t_E_Contradiction X G c,
    t_Y_Contradiction X G c,
    t_X_Contradiction X G c,
    t_x_Contradiction_combination X G c,
    t_E_NameTaken X G c,
    t_Y_NameTaken X G c,
    t_X_NameTaken X G c,
    t_x_NameTaken_name X G c,
    t_E_UnknownName X G c,
    t_Y_UnknownName X G c,
    t_X_UnknownName X G c,
    t_x_UnknownName_name X G c,
    t_E_UnknownKind X G c,
    t_Y_UnknownKind X G c,
    t_X_UnknownKind X G c,
    t_x_UnknownKind_kind X G c,
    t_E_InvalidOptions X G c,
    t_Y_InvalidOptions X G c,
    t_X_InvalidOptions X G c,
    t_x_InvalidOptions_kind X G c,
    t_n_ValueError X G c,
    t_n_abs X G c,
    t_n_bool X G c,
    t_n_int X G c,
    t_n_isinstance X G c,
    t_n_len X G c,
    t_n_list X G c,
    t_n_range X G c,
    t_n_sorted X G c,
    t_n_str X G c,
    t_na_Ratio_top X G c,
    t_na_Ratio_bottom X G c,
    t_xi_NothingToUndo X G c,
    t_kp_NothingToUndo X G c,
    t_ty_NothingToUndo X G c,
    t_X_NothingToUndo X G c,
    t_xi_NoCommonLetters X G c,
    t_kp_NoCommonLetters X G c,
    t_ty_NoCommonLetters X G c,
    t_X_NoCommonLetters X G c,
    t_ty_FontError X G c,
    t_be_FontError X G c,
    t_cl_FontError X G c,
    t_mr_InvalidGlyph X G c,
    t_mr_InvalidNumber X G c,
    t_mr_UnknownGlyph X G c,
    t_mr_TooMany X G c,
    t_mr_Overlap X G c,
    t_mr_InUse X G c,
    t_mr_DeedRefused X G c,
    t_mr_InvalidLine X G c,
    t_mr_UnknownLetter X G c,
    t_mr_InvalidState X G c,
    t_mr_InvalidText X G c,
    t_mr_Contradiction X G c,
    t_mr_NameTaken X G c,
    t_mr_UnknownName X G c,
    t_mr_UnknownKind X G c,
    t_mr_InvalidOptions X G c,
    t_mr_NothingToUndo X G c,
    t_mr_NoCommonLetters X G c,
    t_nd_all X G c,
    t_ne_jf X G c,
    t_na_Font_rows X G c,
    t_na_Font_pairs X G c,
    t_na_Font_space X G c,
    t_na_Font_past X G c,
    t_na_Joined_faces X G c,
    t_na_Joined_common X G c,
    t_na_Joined_places X G c,
    t_na_Joined_ways X G c,
    t_na_Joined_steps X G c,
    t_na_Joined_ends X G c⟩
theorem law_at {w : World} {fa : Addr} (X : K.In h) (G : h.Ns mainGlobals mg) (hfa : mg "law" = some (.ref fa)) (c : Sy h K) : LamX.LawAtS PySem.Challenge.rw_fontgap_k72_errors_of_their_own_kinds w K CX0 13 63 "_law_script" mg fa h := by
  have e := hfa.symm.trans (t_g_law X G c)
  have e2 : fa = (adK K).f_law := by injection e with e; injection e
  subst e2
  exact ⟨(adK K).d_law, [((adK K).c_font_order, (adK K).P_font_order)], sp_law K (adK K), fun p hp => by rw [List.mem_singleton.mp hp]; exact c.empty ("font_order", none) (List.mem_singleton.mpr rfl), fun p hp => by rw [List.mem_singleton.mp hp]; exact c.out ("font_order", none) (List.mem_singleton.mpr rfl), fun p hp => by rw [List.mem_singleton.mp hp]; exact PySem.W.codeHd_of_K X (c.hd ("font_order", none) (List.mem_singleton.mpr rfl)), fun s v => FunD.bindsA (ps := (["_law_script"] : List Str)) (df_law c) (fun _ _ _ _ _ _ us hl => match us, hl with | [_], _ => rfl) s [v] rfl, fun H z ns h1 _ h3 h4 => sp_law_start h4 h1 (h3 _ (List.mem_singleton.mpr rfl)), fun base _ _ TB => ok_law (txt X G c TB)⟩
end
end FG
open PySem PySem.W PySem.Calls PyProof.Rows
set_option maxRecDepth 100000 in
set_option maxHeartbeats 0 in
theorem PySem.Challenge.cw_fontgap_k72_errors_of_their_own_kinds_holds : PySem.Challenge.rw_fontgap_k72_errors_of_their_own_kinds.Holds := by
  w_on; refine FG.hol fun said => ?_
  refine HandSHeadRun.head_any (r := OpenLaw.row PySem.Challenge.rw_fontgap_k72_errors_of_their_own_kinds) (q := view (OpenLaw.row PySem.Challenge.rw_fontgap_k72_errors_of_their_own_kinds).prog [65]) (H := FG.hk) (ob := FG.ob) (M := 30000) (loose := FG.names) (d := HandSHeadRun.topDef (OpenLaw.row PySem.Challenge.rw_fontgap_k72_errors_of_their_own_kinds).prog 65) (kwd := []) FG.ob_eq
    (by kernel_rfl) (fun s => by kernel_rfl) FG.run (by kernel_rfl) (by kernel_rfl) (by kernel_rfl) (by rfl) (by first | assumption | decide +kernel) (by decide +kernel) FG.barL ?hw ?hc
  case hw => w_witness2
  case hc =>
    refine LamX.walk_ofTsE (l := PySem.Challenge.rw_fontgap_k72_errors_of_their_own_kinds) (n := 63) (k := 13) (x := "_law_script") (CX := fun _ => L2.CX0) rfl (by decide) (by kernel_rfl) ⟨rfl, by decide, by decide⟩ ?F (fun _ _ _ _ _ z => z)
    intro w mg fa h Y G hmg0
    obtain ⟨K, KX, c⟩ := Y
    have hmg : mg ("law" : PySem.Str) = some (.ref fa) := by
      have e : (HandSHeadRun.topDef (OpenLaw.row PySem.Challenge.rw_fontgap_k72_errors_of_their_own_kinds).prog 65).name = ("law" : PySem.Str) := by kernel_rfl
      rw [← e]
      exact hmg0
    exact ⟨K, KX, FG.law_at KX G hmg c⟩
