import PyProof.Rows.All
import Wide.All
import OpenK.AllK
import Wide.FinOn
import KE.KExcSuper
import HandS.ForMost
import HandS.ForExc
import HandS.ExcInit
import HandS.ExcField
import HandS.IsInst
import HandS.ExcIs
import HandS.TryMany
import HandS.Wide
import HandS.Defaults
import HandS.CallSlots
import HandS.Flow
import HandS.Steps
import HandS.WideBits
import HandS.Evl
import KE.KExcIs
import KE.KOpsOwn
import KE.SortKeyHeap
import KE.SortData
import KE.KLam
import HandS.Lambda
import HandS.SortKw
import HandS.SortRule
import HandS.Property
import HandS.ClsMeth
import HandS.MakeKwOnly
import HandS.Conv
import HandS.FStr
import HandS.DictComp
import HandS.StrMore
import HandS.Style
import PyProof.FString3
import OpenK.KMeth
import OpenK.KOps
import HandS.Walk
import PyProof.StrOps2
import PyProof.Rows.StrBin
import HandS.EndTab
import KE.KCallOwn
import HandS.Codes
import HandS.RaiseMore
import KE.IntTextText
import HandS.ExcValue
import HandS.OwnEq
import HandS.HotCalls
import HandS.ExcInitHot
import KE.KDictDisplayH
import KE.KStateDown
import HandS.Head0
import HandS.Head1
import HandS.Head2
import HandS.HeadEnd
import HandS.HeadHook1
import HandS.HeadHook2
import HandS.HeadHook3
import HandS.HeadHook4
import HandS.HeadWalk
import KE.KWithOwn
import HandS.Finally
import HandS.RaiseFrom
import HandS.SuiteRaise
import HandS.Star
import HandS.HeadNt
import PyProof.ListStr
import PySem.Challenge.RW_fontgap_k15_limits_and_even_fonts
set_option Elab.async false
set_option linter.all false
set_option maxRecDepth 100000
set_option maxHeartbeats 4000000
namespace FG
/-! plain mathematics: Euclid's steps, lowest terms -/
/-- one step of the law's loop -/
def eStep (p : Int × Int) : Int × Int := if p.2 > 0 then (p.2, p.1 % p.2) else p
def eIter : Nat → Int × Int → Int × Int
  | 0, p => p
  | n + 1, p => eStep (eIter n p)
theorem eStep_nonneg {p : Int × Int} (h1 : 0 ≤ p.1) (h2 : 0 ≤ p.2) : 0 ≤ (eStep p).1 ∧ 0 ≤ (eStep p).2 := by
  unfold eStep
  split
  · rename_i h
    exact ⟨h2, Int.emod_nonneg _ (by omega)⟩
  · exact ⟨h1, h2⟩
theorem eStep_gcd {p : Int × Int} : Int.gcd (eStep p).1 (eStep p).2 = Int.gcd p.1 p.2 := by
  unfold eStep
  split
  · show Int.gcd p.2 (p.1 % p.2) = Int.gcd p.1 p.2
    have e : p.1 / p.2 * p.2 + p.1 % p.2 = p.1 := Int.ediv_mul_add_emod _ _
    have q := Int.gcd_mul_right_add_left p.2 (p.1 % p.2) (p.1 / p.2)
    rw [e] at q
    rw [Int.gcd_comm p.2, q]
  · rfl
theorem eIter_gcd (n : Nat) (p : Int × Int) : Int.gcd (eIter n p).1 (eIter n p).2 = Int.gcd p.1 p.2 := by
  induction n with
  | zero => rfl
  | succ n ih => exact eStep_gcd.trans ih
theorem eIter_nonneg (n : Nat) {p : Int × Int} (h1 : 0 ≤ p.1) (h2 : 0 ≤ p.2) : 0 ≤ (eIter n p).1 ∧ 0 ≤ (eIter n p).2 := by
  induction n with
  | zero => exact ⟨h1, h2⟩
  | succ n ih => exact eStep_nonneg ih.1 ih.2
/-- the bound of the second part: two steps halve it -/
theorem eStep_two {p : Int × Int} (h1 : 0 ≤ p.1) (h2 : 0 ≤ p.2) : 2 * (eStep (eStep p)).2 ≤ p.2 := by
  by_cases h : p.2 > 0
  · have e1 : eStep p = (p.2, p.1 % p.2) := if_pos h
    have m0 : 0 ≤ p.1 % p.2 := Int.emod_nonneg _ (by omega)
    have m1 : p.1 % p.2 < p.2 := Int.emod_lt_of_pos _ h
    rw [e1]
    by_cases h' : p.1 % p.2 > 0
    · have e2 : eStep (p.2, p.1 % p.2) = (p.1 % p.2, p.2 % (p.1 % p.2)) := if_pos h'
      rw [e2]
      show 2 * (p.2 % (p.1 % p.2)) ≤ p.2
      generalize hr : p.1 % p.2 = r at *
      have k0 : 0 ≤ p.2 % r := Int.emod_nonneg _ (by omega)
      have k1 : p.2 % r < r := Int.emod_lt_of_pos _ h'
      have k2 : p.2 / r * r + p.2 % r = p.2 := Int.ediv_mul_add_emod _ _
      have k3 : 1 ≤ p.2 / r := by
        have := Int.le_ediv_of_mul_le h' (show 1 * r ≤ p.2 by omega)
        exact this
      have k4 : r ≤ p.2 / r * r := by
        have := Int.mul_le_mul_of_nonneg_right k3 (show 0 ≤ r by omega)
        omega
      omega
    · have e2 : eStep (p.2, p.1 % p.2) = (p.2, p.1 % p.2) := if_neg h'
      rw [e2]
      show 2 * (p.1 % p.2) ≤ p.2
      omega
  · have e1 : eStep p = p := if_neg h
    rw [e1, e1]
    omega
theorem eIter_add (m n : Nat) (p : Int × Int) : eIter (m + n) p = eIter m (eIter n p) := by
  induction m with
  | zero => rw [Nat.zero_add]; rfl
  | succ m ih =>
    rw [Nat.succ_add]
    show eStep (eIter (m + n) p) = eStep (eIter m (eIter n p))
    rw [ih]
theorem eIter_small (j : Nat) : ∀ {p : Int × Int}, 0 ≤ p.1 → 0 ≤ p.2 → p.2 < 2 ^ j → (eIter (2 * j) p).2 = 0 := by
  induction j with
  | zero =>
    intro p h1 h2 h
    have e : (2 : Int) ^ 0 = 1 := by decide
    rw [e] at h
    show p.2 = 0
    omega
  | succ j ih =>
    intro p h1 h2 h
    have e : 2 * (j + 1) = 2 * j + 2 := by omega
    rw [e, eIter_add]
    have q := eIter_nonneg 2 h1 h2
    have t : 2 * (eIter 2 p).2 ≤ p.2 := eStep_two h1 h2
    have pw : (2 : Int) ^ (j + 1) = 2 ^ j * 2 := Int.pow_succ ..
    rw [pw] at h
    refine ih q.1 q.2 ?_
    omega
theorem eIter_400 {p : Int × Int} (h1 : 0 ≤ p.1) (h2 : 0 ≤ p.2) (h : p.2 < 2 ^ 200) : eIter 400 p = (((Int.gcd p.1 p.2 : Nat) : Int), (0 : Int)) := by
  have z := eIter_small 200 h1 h2 h
  have g := eIter_gcd 400 p
  have q := eIter_nonneg 400 h1 h2
  have z' : (eIter 400 p).2 = 0 := z
  rw [z', Int.gcd_zero_right] at g
  have f : (eIter 400 p).1 = ((Int.gcd p.1 p.2 : Nat) : Int) := by
    rw [← g]
    omega
  exact Prod.ext f z'
/-- the python abs -/
def pabs (i : Int) : Int := if i < 0 then -i else i
theorem pabs_eq (i : Int) : pabs i = (i.natAbs : Int) := by
  unfold pabs
  split <;> omega
/-- lowest terms, as the program and the law reckon them -/
def sgn (b : Int) (g : Nat) : Int := if b < 0 then -(g : Int) else (g : Int)
def lowT (t b : Int) : Int := t.fdiv (sgn b (Int.gcd t b))
def lowB (t b : Int) : Int := b.fdiv (sgn b (Int.gcd t b))
theorem gcd_pos_of {t b : Int} (h : b ≠ 0) : 0 < Int.gcd t b := Int.gcd_pos_of_ne_zero_right _ h
theorem sgn_ne {t b : Int} (h : b ≠ 0) : sgn b (Int.gcd t b) ≠ 0 := by
  have := gcd_pos_of (t := t) h
  unfold sgn
  split <;> omega
theorem sgn_mul {b f : Int} {g : Nat} (hf : 0 < f) : sgn (b * f) (g * f.natAbs) = sgn b g * f := by
  unfold sgn
  have e : ((g * f.natAbs : Nat) : Int) = (g : Int) * f := by
    rw [Int.natCast_mul]
    have : (f.natAbs : Int) = f := by omega
    rw [this]
  by_cases h : b < 0
  · have : b * f < 0 := Int.mul_neg_of_neg_of_pos h hf
    rw [if_pos h, if_pos this, e, Int.neg_mul]
  · have : ¬ b * f < 0 := by
      have := Int.mul_nonneg (show 0 ≤ b by omega) (show 0 ≤ f by omega)
      omega
    rw [if_neg h, if_neg this, e]
theorem low_mul {t b f : Int} (hb : b ≠ 0) (hf : 0 < f) : lowT (t * f) (b * f) = lowT t b ∧ lowB (t * f) (b * f) = lowB t b := by
  have g : Int.gcd (t * f) (b * f) = Int.gcd t b * f.natAbs := Int.gcd_mul_right ..
  unfold lowT lowB
  rw [g, sgn_mul hf]
  exact ⟨Int.mul_fdiv_mul_of_pos_left _ _ hf, Int.mul_fdiv_mul_of_pos_left _ _ hf⟩
/-- in lowest terms, over a positive bottom -/
structure Low (t b : Int) : Prop where
  pos : 0 < b
  one : Int.gcd t b = 1
theorem sgn_pos {b : Int} {g : Nat} (h : 0 < b) : sgn b g = (g : Int) := if_neg (by omega)
theorem low_idem {t b : Int} (h : Low t b) : lowT t b = t ∧ lowB t b = b := by
  have e : sgn b (Int.gcd t b) = 1 := by rw [sgn_pos h.pos, h.one]; rfl
  unfold lowT lowB
  rw [e]
  exact ⟨Int.fdiv_one t, Int.fdiv_one b⟩
theorem low_pos {t b : Int} (h : 0 < b) : lowT t b = t / (Int.gcd t b : Nat) ∧ lowB t b = b / (Int.gcd t b : Nat) := by
  unfold lowT lowB
  rw [sgn_pos h]
  exact ⟨Int.fdiv_eq_ediv_of_nonneg _ (by omega), Int.fdiv_eq_ediv_of_nonneg _ (by omega)⟩
theorem low_low {t b : Int} (h : 0 < b) : Low (lowT t b) (lowB t b) := by
  have g0 : 0 < Int.gcd t b := Int.gcd_pos_of_ne_zero_right _ (by omega)
  have d1 : ((Int.gcd t b : Nat) : Int) ∣ t := Int.gcd_dvd_left t b
  have d2 : ((Int.gcd t b : Nat) : Int) ∣ b := Int.gcd_dvd_right t b
  rw [(low_pos h).1, (low_pos h).2]
  refine ⟨?_, ?_⟩
  · exact Int.ediv_pos_of_pos_of_dvd h (by omega) d2
  · rw [Int.gcd_ediv d1 d2, Int.natAbs_natCast]
    exact Nat.div_self g0
theorem low_bound {t b : Int} (h : 0 < b) : (lowT t b).natAbs ≤ t.natAbs ∧ lowB t b ≤ b := by
  have g0 : 0 < Int.gcd t b := Int.gcd_pos_of_ne_zero_right _ (by omega)
  rw [(low_pos h).1, (low_pos h).2]
  refine ⟨?_, ?_⟩
  · rw [Int.natAbs_ediv_of_dvd (Int.gcd_dvd_left t b)]
    exact Nat.div_le_self _ _
  · exact Int.ediv_le_self _ (by omega)
theorem low_neg {t b : Int} (h : Low t b) : Low (-t) b := ⟨h.pos, by rw [Int.neg_gcd]; exact h.one⟩
theorem low_abs {t b : Int} (h : Low t b) : Low (pabs t) b := by
  unfold pabs
  split
  · exact low_neg h
  · exact h
theorem low_one (t : Int) : lowT t 1 = t ∧ lowB t 1 = 1 := by
  have g : Int.gcd t 1 = 1 := Int.gcd_one_right t
  have e : sgn 1 (Int.gcd t 1) = 1 := by rw [g]; rfl
  unfold lowT lowB
  rw [e]
  exact ⟨Int.fdiv_one t, by decide⟩
theorem low_zero {f : Int} (h : 0 < f) : lowT 0 f = 0 ∧ lowB 0 f = 1 := by
  have g : Int.gcd 0 f = f.natAbs := Int.gcd_zero_left f
  have e : sgn f (Int.gcd 0 f) = f := by
    rw [g]
    unfold sgn
    rw [if_neg (by omega)]
    omega
  unfold lowT lowB
  rw [e]
  exact ⟨Int.zero_fdiv f, Int.fdiv_self (by omega)⟩
end FG
/-! own errors below ValueError whose __init__ first calls super().__init__(text) and then stores its parameters -/
namespace FG
open PySem PySem.W PySem.Calls PyProof.Rows PySem.HandSPX

abbrev errFd (qn : Str) (ps : Arguments) (bd : List Stmt) (sc : Scope) (cc : Addr) (kV doc pm : Value) (an : Option Addr) (cd ct : Value) : FuncData :=
  { fnOf "__init__" qn ps bd sc .none kV doc pm an cd ct with closure := [("__class__", cc)] }
/-- what the written part says of such a class at C: its __init__ at fI, the cell of __class__ at cc -/
structure ErrC (P : Program) (K : Frag) (mg : Str → Option Value) (nm qn : Str) (ps : Arguments) (bd : List Stmt) (sc : Scope) (C fI cc cda : Addr) : Prop where
  gC : mg nm = some (.ref C)
  cls : ∃ n1 q N bs bm sn sub ab col dd k0 k1 k2 k3 k5, K.lookup C = some (excClassObj n1 q C N bs bm true sn sub ab col dd k0 k1 k2 k3 k5 "ValueError.__new__") ∧ refsVE bm = true ∧
    alongIn K "__init__" bm = some (some (.builtin "ValueError.__init__"))
  sa : findIn K (.ref C) "__setattr__" = some (some (.builtin "object.__setattr__"))
  ga : findIn K (.ref C) "__getattribute__" = some (some (.builtin "BaseException.__getattribute__"))
  gg : findIn K (.ref C) "__getattr__" = some none
  iC : findIn K (.ref C) "__init__" = some (some (.ref fI))
  tC : typeIn K (.ref fI) = some (.type "function")
  kC : keepIn K (.ref C) = true
  exC : subIn K (.ref C) (.type "BaseException") = some true
  veC : subIn K (.ref C) (.type "ValueError") = some true
  tyC : typeIn K (.ref C) = some (.type "type")
  hdC : hasDictIn K C = true
  meC : mroIn K C (.ref C) = some true
  fn : ∃ (oc : Value) (od : Option Addr) (kV doc pm : Value) (an : Option Addr) (ct : Value) (osl : Array (Option Value)),
    K.lookup fI = some ⟨oc, od, .func (errFd qn ps bd sc cc kV doc pm an (.ref cda) ct), osl⟩ ∧ codeIn K (.ref cda) qn = true
  code : ∃ (cl : Value) (cd : Option Addr) (vs : Array Value) (cs : Array (Option Value)) (file : Str) (tf : Tok), K.lookup cda = some ⟨cl, cd, .fields vs, cs⟩ ∧ vs[2]? = some (.str file tf) ∧ ((P.main.file : Str) == file) = true
  cell : ∃ (cl : Value) (cd : Option Addr) (cs : Array (Option Value)), K.lookup cc = some ⟨cl, cd, .cell (some (.ref C)), cs⟩
  opq : nsIn K cStatics "thirdparty.any" = some none
  sup : mg "super" = none
  top : (P.main.scope.names.lookup ("super" : Str)).isSome = false

/-- the module's names and the built-ins' as they stand -/
structure Names0 (mg : Str → Option Value) (h : Heap) : Prop where
  glob : h.Ns mainGlobals mg
  blt : ∃ mb, h.Ns builtinsNs mb ∧ ∀ x : Str, x ≠ "__name__" → mb x = bootBuiltins x
theorem Names0.keeps {mg : Str → Option Value} {h h' : Heap} (n : Names0 mg h) (k : ∀ b o, h.get? b = some o → h'.get? b = some o) : Names0 mg h' := by
  obtain ⟨g, mb, b1, b2⟩ := n
  exact ⟨g.keeps k, mb, b1.keeps k, b2⟩

/-- super().__init__(text) -/
abbrev supE (p0 p1 p2 p3 p4 : Pos) (msg : Str) (j : Nat) : Expr := .Call (.Attribute (.Call (.Name "super" p0) [] [] p1) "__init__" p2) [.Constant (.str msg) j p3] [] p4
theorem ve_len (v : Value) : [v].length ≤ sizeLine := by
  show 1 ≤ sizeLine
  decide

section
variable {P : Program} {w : World} {A : Around} {E : Value → Shared → Prop} {hh : Heap} {g : Array GenState} {d : Drawn} {tk : Nat} {os : OsState}
/-- the bound ValueError.__init__ is called -/
theorem mw_call {n1 q : Str} {N : Addr} {bs bm : List Value} {hd : Bool} {sn : List Str} {sub : List Value} {ab : Bool} {col : Option Bool} {dd : Option Addr} {k0 k1 k2 k3 k5 : Option Value} {u e t0 C : Addr} {r : List Value} {Q : Value → Shared → Prop}
    (hC : hh.get? C = some (excClassObj n1 q C N bs bm hd sn sub ab col dd k0 k1 k2 k3 k5 "ValueError.__new__")) (he : hh.get? e = some (excO C t0)) (hu : hh.get? u = some (kxs_mw "ValueError.__init__" e)) (hz : r.length ≤ sizeLine)
    (hq : ∀ h' t1, (∀ b o, b ≠ e → hh.get? b = some o → h'.get? b = some o) → h'.get? e = some (excO C t1) → Q .none ⟨h', g, d, tk, os⟩) : wpAny (model P w) A (call (.ref u) r) Q E ⟨hh, g, d, tk, os⟩ := by
  have B := F.excBase_ValueError
  refine wpAny_call (codeAny_of_tree ?_)
  show wpAny _ A.in1 (callAny (.ref u) ⟨r, []⟩) _ _ _
  simp only [callAny]
  refine wpAny_bind (wpAny_load (a := u) hu ?_)
  have c1 : (Value.type "method-wrapper" == Value.type "method" || Value.type "method-wrapper" == Value.type "builtin_function_or_method" || Value.type "method-wrapper" == Value.type "method-wrapper") = true := by decide
  simp only [kxs_mw, c1, if_true]
  refine KFB.if_so (by decide) (wpAny_bind (check_bound_init B.toExcCallFacts hC he rfl (wpAny_bind (wpAny_pure (wpAny_pure ⟨plainId_quiet B.init.plain _, codeAny_builtin B.initEntry ?_⟩)))))
  exact exc_init_tree (cls := .ref C) (t0 := t0) (dv := none) (c2 := .none) (c3 := .none) (b4 := .bool false) he hz fun h' k e' _ => hq h' _ k e'

/-- the statement super().__init__(text) -/
theorem sup_stmt {K : Frag} {mg : Str → Option Value} {nm qn : Str} {ps : Arguments} {bd body : List Stmt} {sc : Scope} {C fI cc cda x t0 L : Addr} {m : Str → Option Value} {msg : Str} {j : Nat} {p0 p1 p2 p3 p4 p5 : Pos} {a0 : Arg} {Q : Flow → Shared → Prop}
    (T : ErrC P K mg nm qn ps bd sc C fI cc cda) (X : K.In hh) (Nm : Names0 mg hh) (hx : hh.get? x = some (excO C t0)) (hn : hh.Ns L m) (hs : m a0.arg = some (.ref x))
    (hp : (ps.posonlyargs ++ ps.args).head? = some a0) (hks : sc.names.lookup ("super" : Str) = some .globalImplicit) (hkc : sc.names.lookup ("__class__" : Str) = some .free) (hka : sc.names.lookup a0.arg = some .local) (hk : sc.kind = .function)
    (hi : interactive (ksEnv qn sc L fI (.ref cda) cc) = false) (hw : swapsWith (supE p0 p1 p2 p3 p4 msg j) none p5.line (ksEnv qn sc L fI (.ref cda) cc) = pure false) {pl : Sem Bool}
    (he : eval (supE p0 p1 p2 p3 p4 msg j) (ksEnv qn sc L fI (.ref cda) cc) = (do
      let ov ← attributeBase (.Call (.Name "super" p0) [] [] p1) "__init__" (ksEnv qn sc L fI (.ref cda) cc) (eval (.Call (.Name "super" p0) [] [] p1) (ksEnv qn sc L fI (.ref cda) cc))
      standAt p2.atName
      let (f, first) ← holding [ov] (getMethod ov "__init__" pl)
      callWith p4 f first (backTo p4 (starEach [.Constant (.str msg) j p3] (ksEnv qn sc L fI (.ref cda) cc))) []))
    (hq : ∀ h' t1 tk', (∀ b o, b ≠ x → hh.get? b = some o → h'.get? b = some o) → h'.get? x = some (excO C t1) → Q .next ⟨h', g, d, tk', os⟩) :
    PySem.wpAt (model P w) A (.func body (ksEnv qn sc L fI (.ref cda) cc)) (exec (.Expr (supE p0 p1 p2 p3 p4 msg j) p5) (ksEnv qn sc L fI (.ref cda) cc)) Q E ⟨hh, g, d, tk, os⟩ := by
  obtain ⟨n1, q, N, bs, bm, sn, sub, ab, col, dd, k0, k1, k2, k3, k5, lC, vm, ai⟩ := T.cls
  obtain ⟨oc, od, kV, doc, pm, an, ct, osl, lf, cdi⟩ := T.fn
  obtain ⟨cl, cd, vs, cs, file, tf, lc, v2, ef⟩ := T.code
  obtain ⟨l1, l2, l3, lcc⟩ := T.cell
  obtain ⟨mb, nb, eb⟩ := Nm.blt
  have hcd : clsIn K C = some { name := n1, bases := bs, mro := .ref C :: bm, ns := N, qualname := q, hasDict := true, slotNames := sn, subclasses := sub, abstract := ab, collection := col, hasDel := false } := by
    unfold clsIn
    rw [lC]
    all_goals rfl
  have hC := X _ _ lC
  have I : InstAt hh x (excO C t0) C none := ⟨hx, rfl, rfl, trivial⟩
  refine ks_wpAt_Expr_any ?_ hi hw
  refine ks_wpAt_MethodCall ?_ he
  refine ks_wpAt_super_base (f := fI) (cc := cda) (ar := a0) hks hkc (by decide) rfl (X _ _ lf) rfl hp rfl (X _ _ lc) rfl v2 ef T.top ?_
  refine ks_loadName_global hk hks (Calls.loadGlobal_builtin Nm.glob T.sup nb ((eb "super" (by decide)).trans (by decide +kernel)) ⟨rfl, ?_⟩)
  refine wpAny_loadName_free (c := cc) (v := .ref C) hk hkc rfl ⟨_, X _ _ lcc, rfl⟩ (wpAny_loadName_local hk hka hn hs ?_)
  refine ks_wpAny_isType_cls hC rfl ⟨rfl, ?_⟩
  refine ks_wpAny_call_super hC rfl hx rfl (fun c z => by cases z) (looks_mroIn X T.meC) fun h1 hso k1' => ?_
  have X1 : K.In h1 := X.keeps k1'
  have I1 : InstAt h1 x (excO C t0) C none := ⟨k1' _ _ hx, rfl, rfl, trivial⟩
  refine kxs_getMethod kxs_ValueError hso (looks_opaque X1 T.opq) (l₀ := .ref C :: bm) (l := bm) ?_ (by simp [List.dropWhile_cons]) X1 ai (I1.type.andThen (looks_subIn X1 T.veC)) (ks_ne X1 I1 hcd) (by decide) ?_
  · exact fun A' Q' E' s' kk qq => wpAny_bind ((looks_clsIn X1 hcd) A' _ E' s' kk (wpAny_pure qq))
  have k2' : ∀ b o, h1.get? b = some o → (h1.push (kxs_mw "ValueError.__init__" x)).get? b = some o := fun b o z => Heap.get?_push_of_some _ z
  have hu : (h1.push (kxs_mw "ValueError.__init__" x)).get? h1.objs.size = some (kxs_mw "ValueError.__init__" x) := Heap.get?_push_at rfl rfl
  refine kxs_callWith (i := "ValueError.__init__") (x := x) (by rfl) (evalArgs_plain ?_)
  refine Calls.spliced_cons (Calls.Constant_str (k := j) (pos := p3) ?_)
  refine Calls.spliced_nil ?_
  refine ⟨hu, ?_⟩
  refine mw_call (k2' _ _ (k1' _ _ hC)) (k2' _ _ (k1' _ _ hx)) hu (ve_len _) fun h' t1 kk e' => hq h' t1 _ (fun b o hb z => kk b o hb (k2' _ _ (k1' _ _ z))) e'

/-- self.f = f, the first one and a further one -/
theorem sto_new {K : Frag} {mg : Str → Option Value} {nm qn : Str} {ps : Arguments} {bd : List Stmt} {sc : Scope} {C fI cc cda x t0 : Addr} {f : Str} {v : Value} {Q : Unit → Shared → Prop} (T : ErrC P K mg nm qn ps bd sc C fI cc cda)
    (X : K.In hh) (hx : hh.get? x = some (excO C t0)) (no : findIn K (.ref C) f = some none)
    (hq : ∀ h' tk' dx, (∀ b o, b ≠ x → hh.get? b = some o → h'.get? b = some o) → hh.objs.size ≤ dx → dx ≠ x → h'.get? x = some { cls := .ref C, dict := some dx, data := .fields #[.ref t0, .none, .none, .none, .bool false, .none] } →
      h'.Ns1 dx (fun y => if y = f then some v else none) → Q () ⟨h', g, d, tk', os⟩) : wpAny (model P w) A (setAttr (.ref x) f v) Q E ⟨hh, g, d, tk, os⟩ := by
  obtain ⟨n1, q, N, bs, bm, sn, sub, ab, col, dd, k0, k1, k2, k3, k5, lC, vm, ai⟩ := T.cls
  have hcd : clsIn K C = some { name := n1, bases := bs, mro := .ref C :: bm, ns := N, qualname := q, hasDict := true, slotNames := sn, subclasses := sub, abstract := ab, collection := col, hasDel := false } := by
    unfold clsIn
    rw [lC]
    all_goals rfl
  have I : InstAt hh x (excO C t0) C none := ⟨hx, rfl, rfl, trivial⟩
  exact set_plain (ox := excO C t0) (od := none) X I T.sa (exc_osa X hx hcd (show refsVE (.ref C :: bm) = true from vm) rfl no fun h' t' dx kk dn de e1 e2 => hq h' t' dx kk dn de e1 e2)
theorem sto_old {K : Frag} {mg : Str → Option Value} {nm qn : Str} {ps : Arguments} {bd : List Stmt} {sc : Scope} {C fI cc cda x t0 dx : Addr} {f f0 : Str} {v v0 : Value} {Q : Unit → Shared → Prop} (T : ErrC P K mg nm qn ps bd sc C fI cc cda)
    (X : K.In hh) (hx : hh.get? x = some { cls := .ref C, dict := some dx, data := .fields #[.ref t0, .none, .none, .none, .bool false, .none] }) (hd : hh.Ns1 dx (fun y => if y = f0 then some v0 else none)) (no : findIn K (.ref C) f = some none)
    (hq : ∀ h' tk', (∀ b o, b ≠ dx → hh.get? b = some o → h'.get? b = some o) → h'.Ns1 dx (fun y => if y = f then some v else if y = f0 then some v0 else none) → Q () ⟨h', g, d, tk', os⟩) : wpAny (model P w) A (setAttr (.ref x) f v) Q E ⟨hh, g, d, tk, os⟩ := by
  obtain ⟨n1, q, N, bs, bm, sn, sub, ab, col, dd, k0, k1, k2, k3, k5, lC, vm, ai⟩ := T.cls
  have hcd : clsIn K C = some { name := n1, bases := bs, mro := .ref C :: bm, ns := N, qualname := q, hasDict := true, slotNames := sn, subclasses := sub, abstract := ab, collection := col, hasDel := false } := by
    unfold clsIn
    rw [lC]
    all_goals rfl
  have hw : Within (fun y => if y = f0 then some v0 else none) [f0] := Within.cons f0 v0 Within.nil
  obtain ⟨oD, _, _, hoD, _, _⟩ := hd.count hw
  refine set_plain (ox := { cls := .ref C, dict := some dx, data := .fields #[.ref t0, .none, .none, .none, .bool false, .none] }) (od := some oD) X ⟨hx, rfl, rfl, hoD⟩ T.sa ?_
  exact OEX.osa_old X hx hd hw (by show 1 ≤ 1000; decide) hcd (show refsVE (.ref C :: bm) = true from vm) rfl no fun h' t' kk e2 => hq h' t' kk e2
end

/-! ### the whole __init__ -/
/-- what the text of an __init__ of one field looks like; L stands for the frame -/
structure Txt1 (qn f msg : Str) (ps : Arguments) (bd : List Stmt) (sc : Scope) : Prop where
  ex : ∃ (p0 p1 p2 p3 p4 p5 q1 q2 q3 q4 : Pos) (j : Nat) (a0 : Arg), bd = [.Expr (supE p0 p1 p2 p3 p4 msg j) p5, .Assign [.Attribute (.Name "self" q1) f q2] (.Name f q3) q4] ∧ (ps.posonlyargs ++ ps.args).head? = some a0 ∧ a0.arg = "self" ∧
    (∀ (L fI cc cda : Addr), interactive (ksEnv qn sc L fI (.ref cda) cc) = false ∧ swapsWith (supE p0 p1 p2 p3 p4 msg j) none p5.line (ksEnv qn sc L fI (.ref cda) cc) = pure false ∧
      swapsWith (.Name f q3) (some (.Attribute (.Name "self" q1) f q2)) q4.line (ksEnv qn sc L fI (.ref cda) cc) = pure false ∧
      ∃ pl : Sem Bool, eval (supE p0 p1 p2 p3 p4 msg j) (ksEnv qn sc L fI (.ref cda) cc) = (do
        let ov ← attributeBase (.Call (.Name "super" p0) [] [] p1) "__init__" (ksEnv qn sc L fI (.ref cda) cc) (eval (.Call (.Name "super" p0) [] [] p1) (ksEnv qn sc L fI (.ref cda) cc))
        standAt p2.atName
        let (f, first) ← holding [ov] (getMethod ov "__init__" pl)
        callWith p4 f first (backTo p4 (starEach [.Constant (.str msg) j p3] (ksEnv qn sc L fI (.ref cda) cc))) []))
  bind : ∀ (cc : Addr) (kV doc pm : Value) (an : Option Addr) (cd ct : Value) (a b : Value), bindArgs (errFd qn ps bd sc cc kV doc pm an cd ct) ⟨[a, b], []⟩ = pure [(("self" : Str), a), (f, b)]
  nself : (f == ("self" : Str)) = false
  ndbg : (f == ("__debug__" : Str)) = false
  ks : sc.names.lookup ("super" : Str) = some .globalImplicit
  kc : sc.names.lookup ("__class__" : Str) = some .free
  k0 : sc.names.lookup ("self" : Str) = some .local
  k1 : sc.names.lookup f = some .local
  cells : ∀ x ∈ sc.names, x.2 ≠ .cell
  kind : sc.kind = .function
  co : sc.isCoroutine = false
  gen : sc.isGenerator = false
structure Txt2 (qn f f2 msg : Str) (ps : Arguments) (bd : List Stmt) (sc : Scope) : Prop where
  ex : ∃ (p0 p1 p2 p3 p4 p5 q1 q2 q3 q4 r1 r2 r3 r4 : Pos) (j : Nat) (a0 : Arg), bd = [.Expr (supE p0 p1 p2 p3 p4 msg j) p5, .Assign [.Attribute (.Name "self" q1) f q2] (.Name f q3) q4, .Assign [.Attribute (.Name "self" r1) f2 r2] (.Name f2 r3) r4] ∧ (ps.posonlyargs ++ ps.args).head? = some a0 ∧ a0.arg = "self" ∧
    (∀ (L fI cc cda : Addr), interactive (ksEnv qn sc L fI (.ref cda) cc) = false ∧ swapsWith (supE p0 p1 p2 p3 p4 msg j) none p5.line (ksEnv qn sc L fI (.ref cda) cc) = pure false ∧
      swapsWith (.Name f q3) (some (.Attribute (.Name "self" q1) f q2)) q4.line (ksEnv qn sc L fI (.ref cda) cc) = pure false ∧
      swapsWith (.Name f2 r3) (some (.Attribute (.Name "self" r1) f2 r2)) r4.line (ksEnv qn sc L fI (.ref cda) cc) = pure false ∧
      ∃ pl : Sem Bool, eval (supE p0 p1 p2 p3 p4 msg j) (ksEnv qn sc L fI (.ref cda) cc) = (do
        let ov ← attributeBase (.Call (.Name "super" p0) [] [] p1) "__init__" (ksEnv qn sc L fI (.ref cda) cc) (eval (.Call (.Name "super" p0) [] [] p1) (ksEnv qn sc L fI (.ref cda) cc))
        standAt p2.atName
        let (f, first) ← holding [ov] (getMethod ov "__init__" pl)
        callWith p4 f first (backTo p4 (starEach [.Constant (.str msg) j p3] (ksEnv qn sc L fI (.ref cda) cc))) []))
  bind : ∀ (cc : Addr) (kV doc pm : Value) (an : Option Addr) (cd ct : Value) (a b c : Value), bindArgs (errFd qn ps bd sc cc kV doc pm an cd ct) ⟨[a, b, c], []⟩ = pure [(("self" : Str), a), (f, b), (f2, c)]
  nself : (f == ("self" : Str)) = false
  nself2 : (f2 == ("self" : Str)) = false
  nff : (f == f2) = false
  ndbg2 : (f2 == ("__debug__" : Str)) = false
  ndbg : (f == ("__debug__" : Str)) = false
  ks : sc.names.lookup ("super" : Str) = some .globalImplicit
  kc : sc.names.lookup ("__class__" : Str) = some .free
  k0 : sc.names.lookup ("self" : Str) = some .local
  k1 : sc.names.lookup f = some .local
  k2 : sc.names.lookup f2 = some .local
  cells : ∀ x ∈ sc.names, x.2 ≠ .cell
  kind : sc.kind = .function
  co : sc.isCoroutine = false
  gen : sc.isGenerator = false
/-- what is left of a made error: its class C, its own dict dx with the fields m -/
structure Made (h h' : Heap) (e C dx : Addr) (m : Str → Option Value) : Prop where
  keep : ∀ b o, h.get? b = some o → h'.get? b = some o
  new : h.objs.size ≤ e
  obj : ∃ oe vs, h'.get? e = some oe ∧ oe.cls = .ref C ∧ oe.dict = some dx ∧ oe.data = .fields vs ∧ vs[1]? = some .none ∧ vs[2]? = some .none ∧ 4 < vs.size
  dbig : h.objs.size ≤ dx
  dne : dx ≠ e
  ns : h'.Ns1 dx m
section
variable {P : Program} {w : World} {A : Around} {R : Result → Shared → Prop} {hp : Heap} {g : Array GenState} {d : Drawn} {tk : Nat} {os : OsState} {K : Frag} {mg : Str → Option Value} {nm qn f f2 msg : Str} {ps : Arguments} {bd : List Stmt} {sc : Scope} {C fI cc cda : Addr}
theorem init1 {x t0 : Addr} {v : Value} (T : ErrC P K mg nm qn ps bd sc C fI cc cda) (Y : Txt1 qn f msg ps bd sc) (no : findIn K (.ref C) f = some none) (X : K.In hp) (lim : hp.NoLimit) (Nm : Names0 mg hp) (hx : hp.get? x = some (excO C t0)) (nx : K.lookup x = none) (room : A.depth < recursionLimit)
    (hq : ∀ h' tk' t1 dx, (∀ b o, b ≠ x → hp.get? b = some o → h'.get? b = some o) → h'.get? x = some { cls := .ref C, dict := some dx, data := .fields #[.ref t1, .none, .none, .none, .bool false, .none] } → hp.objs.size ≤ dx → dx ≠ x →
      h'.Ns1 dx (fun y => if y = f then some v else none) → R (.ok (.ret .none)) ⟨h', g, d, tk', os⟩) : codeAny (model P w) A (.call (.ref fI) ⟨[.ref x, v], []⟩) R ⟨hp, g, d, tk, os⟩ := by
  obtain ⟨oc, od, kV, doc, pm, an, ct, osl, lf, cdi⟩ := T.fn
  obtain ⟨p0, p1, p2, p3, p4, p5, q1, q2, q3, q4, j, a0, eb, hp0, ea0, ht⟩ := Y.ex
  refine ks_codeAny_call_defAt (s := ⟨hp, g, d, tk, os⟩) (fd := errFd qn ps bd sc cc kV doc pm an (.ref cda) ct) (binds := [(("self" : Str), .ref x), (f, v)]) room (X _ _ lf) rfl lim (codeRec_of X cdi) rfl (BindsTo.of_eq (Y.bind cc kV doc pm an (.ref cda) ct _ _)) Y.cells ?_ (fun h₀ ns k => ?_) Y.co Y.gen Y.kind
  · intro z hz
    rcases List.mem_cons.mp hz with rfl | hz
    · exact Y.k0
    · rcases List.mem_cons.mp hz with rfl | hz
      · exact Y.k1
      · cases hz
  have X0 : K.In h₀ := X.keeps k
  have N0 := Nm.keeps k
  have hx0 := k _ _ hx
  have nself : ¬ f = "self" := fun z => by have := Y.nself; rw [z] at this; exact absurd this (by decide)
  have hs : (fun x_1 : Str => List.lookup x_1 [(("self" : Str), Value.ref x), (f, v)].reverse) "self" = some (.ref x) := by
    show List.lookup ("self" : Str) [(f, v), ("self", Value.ref x)] = _
    have z : (("self" : Str) == f) = false := by
      rw [beq_eq_false_iff_ne]
      exact fun q => nself q.symm
    simp [List.lookup, z]
  have hf : (fun x_1 : Str => List.lookup x_1 [(("self" : Str), Value.ref x), (f, v)].reverse) f = some v := by
    show List.lookup f [(f, v), ("self", Value.ref x)] = _
    simp [List.lookup]
  obtain ⟨hi, hw, hw2, pl, he⟩ := ht hp.objs.size fI cc cda
  subst eb
  have nL : x ≠ hp.objs.size := Nat.ne_of_lt (Heap.lt_size hx)
  show PySem.wpAt (model P w) (A.deeper (ksEnv qn sc hp.objs.size fI (.ref cda) cc)) (.func _ (ksEnv qn sc hp.objs.size fI (.ref cda) cc)) (execs _ (ksEnv qn sc hp.objs.size fI (.ref cda) cc)) _ _ _
  refine ks_wpAt_execs_cons (sup_stmt T X0 N0 hx0 ns (by rw [ea0]; exact hs) hp0 Y.ks Y.kc (by rw [ea0]; exact Y.k0) Y.kind hi hw he fun h1 t1 tk1 k1 e1 => ?_)
  have nsL : h1.Ns hp.objs.size (fun x_1 : Str => List.lookup x_1 [(("self" : Str), Value.ref x), (f, v)].reverse) := ns.at fun o z => k1 _ _ (Ne.symm nL) z
  show PySem.wpAt _ _ _ _ _ _ _
  refine PySem.wpAt_of_wpAny ?_
  refine wpAny_execs_cons (plainObj_wpAny_Assign_Attribute ?_ hw2)
  refine wpAny_Name (wpAny_loadName_local Y.kind Y.k1 nsL hf ?_) Y.ndbg
  refine wpAny_Name (wpAny_loadName_local Y.kind Y.k0 nsL hs ?_) (by decide)
  have X1 : K.In h1 := fun a o z => k1 a o (fun q => by
    rw [q, nx] at z
    cases z) (X0 a o z)
  have big : hp.objs.size < h1.objs.size := nsL.lt
  refine sto_new T X1 e1 no fun h' tk' dx k2 dn de e2 e3 => ?_
  refine wpAny_execs_nil ?_
  refine hq h' tk' t1 dx (fun b o hb z => k2 b o hb (k1 b o hb (k b o z))) e2 (Nat.le_trans (Nat.le_of_lt big) dn) de e3
theorem init2 {x t0 : Addr} {v v2 : Value} (T : ErrC P K mg nm qn ps bd sc C fI cc cda) (Y : Txt2 qn f f2 msg ps bd sc) (no : findIn K (.ref C) f = some none) (no2 : findIn K (.ref C) f2 = some none) (X : K.In hp) (lim : hp.NoLimit) (Nm : Names0 mg hp) (hx : hp.get? x = some (excO C t0)) (nx : K.lookup x = none) (room : A.depth < recursionLimit)
    (hq : ∀ h' tk' t1 dx, (∀ b o, b ≠ x → hp.get? b = some o → h'.get? b = some o) → h'.get? x = some { cls := .ref C, dict := some dx, data := .fields #[.ref t1, .none, .none, .none, .bool false, .none] } → hp.objs.size ≤ dx → dx ≠ x →
      h'.Ns1 dx (fun y => if y = f2 then some v2 else if y = f then some v else none) → R (.ok (.ret .none)) ⟨h', g, d, tk', os⟩) : codeAny (model P w) A (.call (.ref fI) ⟨[.ref x, v, v2], []⟩) R ⟨hp, g, d, tk, os⟩ := by
  obtain ⟨oc, od, kV, doc, pm, an, ct, osl, lf, cdi⟩ := T.fn
  obtain ⟨p0, p1, p2, p3, p4, p5, q1, q2, q3, q4, r1, r2, r3, r4, j, a0, eb, hp0, ea0, ht⟩ := Y.ex
  refine ks_codeAny_call_defAt (s := ⟨hp, g, d, tk, os⟩) (fd := errFd qn ps bd sc cc kV doc pm an (.ref cda) ct) (binds := [(("self" : Str), .ref x), (f, v), (f2, v2)]) room (X _ _ lf) rfl lim (codeRec_of X cdi) rfl (BindsTo.of_eq (Y.bind cc kV doc pm an (.ref cda) ct _ _ _)) Y.cells ?_ (fun h₀ ns k => ?_) Y.co Y.gen Y.kind
  · intro z hz
    rcases List.mem_cons.mp hz with rfl | hz
    · exact Y.k0
    · rcases List.mem_cons.mp hz with rfl | hz
      · exact Y.k1
      · rcases List.mem_cons.mp hz with rfl | hz
        · exact Y.k2
        · cases hz
  have X0 : K.In h₀ := X.keeps k
  have N0 := Nm.keeps k
  have hx0 := k _ _ hx
  have ns1 : (("self" : Str) == f) = false := by
    rw [beq_eq_false_iff_ne]
    exact fun q => absurd Y.nself (by rw [← q]; decide)
  have ns2 : (("self" : Str) == f2) = false := by
    rw [beq_eq_false_iff_ne]
    exact fun q => absurd Y.nself2 (by rw [← q]; decide)
  have hs : (fun x_1 : Str => List.lookup x_1 [(("self" : Str), Value.ref x), (f, v), (f2, v2)].reverse) "self" = some (.ref x) := by
    show List.lookup ("self" : Str) [(f2, v2), (f, v), ("self", Value.ref x)] = _
    simp [List.lookup, ns1, ns2]
  have hf : (fun x_1 : Str => List.lookup x_1 [(("self" : Str), Value.ref x), (f, v), (f2, v2)].reverse) f = some v := by
    show List.lookup f [(f2, v2), (f, v), ("self", Value.ref x)] = _
    simp [List.lookup, Y.nff]
  have hf2 : (fun x_1 : Str => List.lookup x_1 [(("self" : Str), Value.ref x), (f, v), (f2, v2)].reverse) f2 = some v2 := by
    show List.lookup f2 [(f2, v2), (f, v), ("self", Value.ref x)] = _
    simp [List.lookup]
  obtain ⟨hi, hw, hw2, hw3, pl, he⟩ := ht hp.objs.size fI cc cda
  subst eb
  have nL : x ≠ hp.objs.size := Nat.ne_of_lt (Heap.lt_size hx)
  show PySem.wpAt (model P w) (A.deeper (ksEnv qn sc hp.objs.size fI (.ref cda) cc)) (.func _ (ksEnv qn sc hp.objs.size fI (.ref cda) cc)) (execs _ (ksEnv qn sc hp.objs.size fI (.ref cda) cc)) _ _ _
  refine ks_wpAt_execs_cons (sup_stmt T X0 N0 hx0 ns (by rw [ea0]; exact hs) hp0 Y.ks Y.kc (by rw [ea0]; exact Y.k0) Y.kind hi hw he fun h1 t1 tk1 k1 e1 => ?_)
  have nsL : h1.Ns hp.objs.size (fun x_1 : Str => List.lookup x_1 [(("self" : Str), Value.ref x), (f, v), (f2, v2)].reverse) := ns.at fun o z => k1 _ _ (Ne.symm nL) z
  show PySem.wpAt _ _ _ _ _ _ _
  refine PySem.wpAt_of_wpAny ?_
  refine wpAny_execs_cons (plainObj_wpAny_Assign_Attribute ?_ hw2)
  refine wpAny_Name (wpAny_loadName_local Y.kind Y.k1 nsL hf ?_) Y.ndbg
  refine wpAny_Name (wpAny_loadName_local Y.kind Y.k0 nsL hs ?_) (by decide)
  have X1 : K.In h1 := fun a o z => k1 a o (fun q => by
    rw [q, nx] at z
    cases z) (X0 a o z)
  have big : hp.objs.size < h1.objs.size := nsL.lt
  refine sto_new T X1 e1 no fun h2 tk2 dx kk dn de e2 e3 => ?_
  have X2 : K.In h2 := fun a o z => kk a o (fun q => by
    rw [q, nx] at z
    cases z) (X1 a o z)
  have nsL2 : h2.Ns hp.objs.size (fun x_1 : Str => List.lookup x_1 [(("self" : Str), Value.ref x), (f, v), (f2, v2)].reverse) := nsL.at fun o z => kk _ _ (Ne.symm nL) z
  show wpAny _ _ (execs _ _) _ _ _
  refine wpAny_execs_cons (plainObj_wpAny_Assign_Attribute ?_ hw3)
  refine wpAny_Name (wpAny_loadName_local Y.kind Y.k2 nsL2 hf2 ?_) Y.ndbg2
  refine wpAny_Name (wpAny_loadName_local Y.kind Y.k0 nsL2 hs ?_) (by decide)
  have nd : ∀ b o, hp.get? b = some o → b ≠ dx := fun b o z => Nat.ne_of_lt (Nat.lt_of_lt_of_le (Heap.lt_size z) (Nat.le_trans (Nat.le_of_lt big) dn))
  refine sto_old T X2 e2 e3 no2 fun h' tk' k3 e4 => ?_
  refine wpAny_execs_nil ?_
  exact hq h' tk' t1 dx (fun b o hb z => k3 b o (nd b o z) (kk b o hb (k1 b o hb (k b o z)))) (k3 _ _ (Ne.symm de) e2) (Nat.le_trans (Nat.le_of_lt big) dn) de e4
/-- C(v, ..): from what __init__ does -/
theorem made_of {us : List Value} {m : Str → Option Value} (T : ErrC P K mg nm qn ps bd sc C fI cc cda) (X : K.In hp) (lim : hp.NoLimit) (Nm : Names0 mg hp) (hz : us.length ≤ sizeLine)
    (ini : ∀ (A' : Around) (hp' : Heap) (x t0 : Addr) (R' : Result → Shared → Prop), K.In hp' → hp'.NoLimit → Names0 mg hp' → hp'.get? x = some (excO C t0) → K.lookup x = none → A'.depth < recursionLimit →
      (∀ h' tk' t1 dx, (∀ b o, b ≠ x → hp'.get? b = some o → h'.get? b = some o) → h'.get? x = some { cls := .ref C, dict := some dx, data := .fields #[.ref t1, .none, .none, .none, .bool false, .none] } → hp'.objs.size ≤ dx → dx ≠ x →
        h'.Ns1 dx m → R' (.ok (.ret .none)) ⟨h', g, d, tk', os⟩) → codeAny (model P w) A' (.call (.ref fI) ⟨.ref x :: us, []⟩) R' ⟨hp', g, d, tk, os⟩)
    (room : A.depth + 1 < recursionLimit) (hq : ∀ h' tk' e dx, Made hp h' e C dx m → R (.ok (.ret (.ref e))) ⟨h', g, d, tk', os⟩) : codeAny (model P w) A (.call (.ref C) ⟨us, []⟩) R ⟨hp, g, d, tk, os⟩ := by
  obtain ⟨n1, q, N, bs, bm, sn, sub, ab, col, dd, k0, k1, k2, k3, k5, lC, vm, ai⟩ := T.cls
  have k : ∀ b o, hp.get? b = some o → ((hp.push (kdv_tup us)).push (excO C hp.objs.size)).get? b = some o := fun b o z => Heap.get?_push_of_some _ (Heap.get?_push_of_some _ z)
  have hx : ((hp.push (kdv_tup us)).push (excO C hp.objs.size)).get? (hp.objs.size + 1) = some (excO C hp.objs.size) := by heap_get
  have nx : K.lookup (hp.objs.size + 1) = none := by
    cases z : K.lookup (hp.objs.size + 1) with
    | none => rfl
    | some o => exact absurd (Nat.lt_of_succ_lt (Heap.lt_size (X _ _ z))) (Nat.lt_irrefl _)
  refine call_own F.excBase_ValueError (fun Y => refsVE_contains Y bm vm) (X _ _ lC) (looks_findIn X T.iC) (fun self => bind_fn X self T.tC) hz ?_
  refine ini _ _ _ _ _ (X.keeps k) (lim.keeps k) (Nm.keeps k) hx nx (by show A.depth + 1 < recursionLimit; exact room) fun h' tk' t1 dx kk e1 dn de ns => ⟨rfl, ?_⟩
  have sz : ((hp.push (kdv_tup us)).push (excO C hp.objs.size)).objs.size = hp.objs.size + 1 + 1 := by rw [Heap.size_push, Heap.size_push]
  rw [sz] at dn
  exact hq h' tk' _ dx ⟨fun b o z => kk b o (Nat.ne_of_lt (Nat.lt_succ_of_lt (Heap.lt_size z))) (k b o z), Nat.le_succ _, ⟨_, _, e1, rfl, rfl, rfl, rfl, rfl, (show 4 < 6 by decide)⟩, Nat.le_trans (Nat.le_trans (Nat.le_succ _) (Nat.le_succ _)) dn, de, ns⟩
end
end FG
namespace FG
open PySem PySem.Spec PyProof.Rows L2
/-! own errors in the hand layer: making, raising -/
theorem relO1 {f : Str} {v : V} {u : Value} (r : RelV v u) (y : Str) : RelO (List.lookup y [(f, v)]) (if y = f then some u else none) := by
  by_cases h : y = f
  · subst h
    simp [List.lookup, RelO, r]
  · have z : (y == f) = false := by simpa using h
    simp [List.lookup, z, h, RelO]
theorem relO2 {f f2 : Str} {v v2 : V} {u u2 : Value} (nf : (f == f2) = false) (r : RelV v u) (r2 : RelV v2 u2) (y : Str) : RelO (List.lookup y [(f, v), (f2, v2)]) (if y = f2 then some u2 else if y = f then some u else none) := by
  by_cases h2 : y = f2
  · subst h2
    have z : (y == f) = false := by
      rw [beq_eq_false_iff_ne] at nf ⊢
      exact fun q => nf q.symm
    simp [List.lookup, z, RelO, r2]
  · have z2 : (y == f2) = false := by simpa using h2
    by_cases h : y = f
    · subst h
      simp [List.lookup, RelO, r, h2]
    · have z : (y == f) = false := by simpa using h
      simp [List.lookup, z, z2, h, h2, RelO]
section
variable {X : Cx} {nm qn f f2 msg : Str} {ps : Arguments} {bd : List Stmt} {sc : Scope} {C fI cc cda : Addr} {a a2 : Expr} {ta tb : TE} {p pos : Pos} {k : Nat}
/-- what making such an error does to the state: e is new, its own dict d is tracked from now on -/
theorem mkp_of {pins : List (Addr × Obj)} {σ : L2.St} {H1 : Hp} {Q : XK} {hp h' : Heap} {g : Array GenState} {dr : Drawn} {tk tk' : Nat} {os : OsState} {e d : Addr} {m : Str → Option Value} {fs : List (Str × V)}
    (T : ErrC X.prog X.K X.mg nm qn ps bd sc C fI cc cda) (I1 : Inv X pins σ H1 ⟨hp, g, dr, tk, os⟩) (M : Made hp h' e C d m) (rel : ∀ y, RelO (fs.lookup y) (m y))
    (q1 : ∀ d, H1 d = none → Q (.ref C) (some d) (upd H1 d (.xd fs))) : MkP X pins σ Q (.ref e) ⟨h', g, dr, tk', os⟩ := by
  obtain ⟨oe, fv, hoe, hc, hd, hdat, h1, _⟩ := M.obj
  have hns := M.ns
  obtain ⟨G', g1, g2⟩ := restrict h' fun b => decide (b ≠ e)
  have gk : ∀ b, b ≠ e → G'.get? b = h'.get? b := fun b hb => g1 b (decide_eq_true hb)
  have ge : G'.get? e = none := g2 e (by simp)
  have old : ∀ b o, hp.get? b = some o → G'.get? b = some o := fun b o z => (gk b (Nat.ne_of_lt (Nat.lt_of_lt_of_le (Heap.lt_size z) M.new))).trans (M.keep b o z)
  have ob : ObjOk X.prog X.w (upd H1 d (.xd fs)) G' d (.xd fs) := ⟨_, hns.at (fun o z => (gk d M.dne).trans z), rel⟩
  have J : Inv X pins σ (upd H1 d (.xd fs)) ⟨G', g, dr, tk', os⟩ := I1.laid (t' := tk') old M.dbig ob
  refine ⟨e, oe, fv, ⟨G', g, dr, tk', os⟩, _, .ref C, some d, rfl, J, fun b o z => ?_, ge, hoe, ⟨hc, hd⟩, hdat, h1, ?_, rfl, I1.bare, raises_own T.exC T.tyC, q1 d (I1.hok.fresh M.dbig)⟩
  · have nb : b ≠ e := fun y => by
      have z' : G'.get? b = some o := z
      rw [y, ge] at z'
      cases z'
    exact (gk b nb).symm.trans z
  · rw [upd_ne (Ne.symm M.dne)]
    exact I1.hok.fresh M.new
theorem names_of {pins : List (Addr × Obj)} {σ : L2.St} {H : Hp} {s : Shared} (I : Inv X pins σ H s) : Names0 X.mg s.heap := by
  obtain ⟨mb, b1, b2⟩ := I.mod.blt
  exact ⟨I.mod.glob.keeps I.bk, mb, b1.keeps I.bk, b2⟩
/-- C(e) -/
def tMk1 (C : Addr) (f : Str) (ta : TA) : L2.St → Hp → XK → Prop := fun σ H Q => ta σ H fun vs H1 => ∃ v, vs = [v] ∧ ∀ d, H1 d = none → Q (.ref C) (some d) (upd H1 d (.xd [(f, v)]))
/-- C(e, e2) -/
def tMk2 (C : Addr) (f f2 : Str) (ta : TA) : L2.St → Hp → XK → Prop := fun σ H Q => ta σ H fun vs H1 => ∃ v v2, vs = [v, v2] ∧ ∀ d, H1 d = none → Q (.ref C) (some d) (upd H1 d (.xd [(f, v), (f2, v2)]))
theorem pmk1 {as : List Expr} {ta : TA} (T : ErrC X.prog X.K X.mg nm qn ps bd sc C fI cc cda) (Y : Txt1 qn f msg ps bd sc) (no : PySem.W.findIn X.K (.ref C) f = some none) (hr : Room k X.A) (ha : PA X (a :: as) ta) (hg : Gl X nm := by rfl) (hdb : (nm == ("__debug__" : Str)) = false := by decide)
    (he : starEach (a :: as) X.env = (false, eval a X.env) :: starEach as X.env := by rfl) (hpl : (backTo pos (starEach as X.env)).any (·.1) = false := by rfl) : PMk X (.Call (.Name nm p) (a :: as) [] pos) (tMk1 C f ta) := by
  intro pins s σ H Q I h
  refine wpAny_Call_Name_kw (ld_glob I hg T.gC ?_ hdb)
  refine PySem.W.callWith_K (h₀ := X.base) I.ok.mod.kin T.kC (thn (ha.run pos pins s σ H _ I h) fun us s1 ⟨vs, H1, I1, r1, v, ev, q1⟩ => ⟨I1.kIn, ?_⟩) he hpl
  subst ev
  have Nm := names_of I1
  have lim := I1.nolimit
  have KI := I1.kIn
  cases r1 with
  | @cons _ u1 _ ur rv rn =>
    cases rn
    obtain ⟨hp, g, dr, tk, os⟩ := s1
    exact wpAny_call (made_of (m := fun y => if y = f then some u1 else none) T KI lim Nm (ve_len _) (fun A' hp' x t0 R' x1 x2 x3 x4 x5 x6 x7 => init1 T Y no x1 x2 x3 x4 x5 x6 x7) (by have := hr.dp; omega) fun h' tk' e d M => mkp_of T I1 M (relO1 rv) q1)
theorem two_len (v v' : Value) : [v, v'].length ≤ sizeLine := by
  show 2 ≤ sizeLine
  decide
theorem pmk2 {as : List Expr} {ta : TA} (T : ErrC X.prog X.K X.mg nm qn ps bd sc C fI cc cda) (Y : Txt2 qn f f2 msg ps bd sc) (no : PySem.W.findIn X.K (.ref C) f = some none) (no2 : PySem.W.findIn X.K (.ref C) f2 = some none) (hr : Room k X.A) (ha : PA X (a :: as) ta) (hg : Gl X nm := by rfl) (hdb : (nm == ("__debug__" : Str)) = false := by decide)
    (he : starEach (a :: as) X.env = (false, eval a X.env) :: starEach as X.env := by rfl) (hpl : (backTo pos (starEach as X.env)).any (·.1) = false := by rfl) : PMk X (.Call (.Name nm p) (a :: as) [] pos) (tMk2 C f f2 ta) := by
  intro pins s σ H Q I h
  refine wpAny_Call_Name_kw (ld_glob I hg T.gC ?_ hdb)
  refine PySem.W.callWith_K (h₀ := X.base) I.ok.mod.kin T.kC (thn (ha.run pos pins s σ H _ I h) fun us s1 ⟨vs, H1, I1, r1, v, v2, ev, q1⟩ => ⟨I1.kIn, ?_⟩) he hpl
  subst ev
  have Nm := names_of I1
  have lim := I1.nolimit
  have KI := I1.kIn
  cases r1 with
  | @cons _ u1 _ ur rv rn =>
    cases rn with
    | @cons _ u2 _ ur2 rv2 rn2 =>
      cases rn2
      obtain ⟨hp, g, dr, tk, os⟩ := s1
      exact wpAny_call (made_of (m := fun y => if y = f2 then some u2 else if y = f then some u1 else none) T KI lim Nm (two_len _ _) (fun A' hp' x t0 R' x1 x2 x3 x4 x5 x6 x7 => init2 T Y no no2 x1 x2 x3 x4 x5 x6 x7) (by have := hr.dp; omega) fun h' tk' e d M => mkp_of T I1 M (relO2 Y.nff rv rv2) q1)
theorem xfC_of (T : ErrC X.prog X.K X.mg nm qn ps bd sc C fI cc cda) : XfC X.K C := ⟨T.ga, T.gg, T.exC, T.hdC⟩
end
end FG
namespace FG
open PySem PySem.Spec L2
/-! further rules of the hand layer -/
section
variable {X : Cx}
/-- // by any divisor but 0 below 2 ^ 9000 in size -/
def CDivX (_ j : Int) : Prop := j ≠ 0 ∧ j.natAbs.log2 < 9000
theorem op_fdivX : OpR X (binaryOp .FloorDiv) (rI CDivX fun i j => .int (i.fdiv j)) := opI fun i j _ _ _ _ _ hc q => PyProof.Rows.floordiv_int hc.1 q (.inl (PyProof.noPylong_of_log2 hc.2))
end
theorem divX {i j : Int} {b : Nat} (h : j ≠ 0) (hb : j.natAbs < 2 ^ b) (h0 : 0 < b) (h9 : b ≤ 9000) : CDivX i j := ⟨h, Nat.lt_of_lt_of_le (PySem.Flt.log2_lt_of h0 hb) h9⟩
/-! ### calls that may raise, wished for at the caller's slots -/
section
variable {X : Cx} {CX : CXT} {k : Nat} {f C : Addr} {fd : FuncData} {ps : List Str} {sp : Sp} {dvs : List V} {ds : List Value} {E : L2.St → XK} {x m : Str} {p pos apos : Pos} {e o : Expr} {es : List Expr} {ta : TE} {t : TA}
/-- C(..), its __init__ may raise -/
def tMkS (C : Addr) (sp : Sp) (dvs : List V) (E : L2.St → XK) (t : TA) : TE := fun σ H Q => t σ H fun vs H1 => ∀ z dz, H1 z = none → H1 dz = none → dz ≠ z →
  sp (.ref z :: (vs ++ dvs)) (upd (upd H1 dz (.own z)) z (.ins C dz [])) (fun v H2 => v = .non ∧ Q (.ref z) H2) (E σ)
theorem mkS_run {pins : List (Addr × Obj)} {σ : L2.St} {H : Hp} {s : Shared} {Q : VK} {us : List Value} {vs : List V} (M : Mk X.K C f) (F : FnOk X.prog X.w X.K X.mg X.base CX k f fd ps sp) (hr : Room (k + 1) X.A) (hb : Binds X.K fd ps ds) (hd : Vals dvs ds)
    (hx : PassesAt CX X σ (E σ)) (I : Inv X pins σ H s) (r : Vals vs us)
    (h : ∀ z dz, H z = none → H dz = none → dz ≠ z → sp (.ref z :: (vs ++ dvs)) (upd (upd H dz (.own z)) z (.ins C dz [])) (fun v H2 => v = .non ∧ Q (.ref z) H2) (E σ)) :
    wpAny (model X.prog X.w) X.A (call (.ref C) us) (EP X pins σ Q) X.xe s := by
  have J := Inv.made (C := C) I
  have q0 := h _ _ (I.hok.fresh (Nat.le_succ s.heap.objs.size)) (I.hok.fresh (Nat.le_refl _)) (Nat.ne_of_lt (Nat.lt_succ_self _))
  have rr : Vals (V.ref (s.heap.objs.size + 1) :: (vs ++ dvs)) (Value.ref (s.heap.objs.size + 1) :: (us ++ ds)) := .cons rfl (r.append hd)
  have ln : (Value.ref (s.heap.objs.size + 1) :: us ++ ds).length = ps.length := rr.length.symm.trans (F.len _ _ _ _ q0)
  have go := F.run _ X.stack _ _ ⟨Value.ref (s.heap.objs.size + 1) :: us, []⟩ _ _ _ (E σ) (hr.make C us []) (J.env0.make C us []) (hb _ (Value.ref (s.heap.objs.size + 1) :: us) J.kIn ln) rr q0
  refine wpAny_call (make_map (f := f) I.kIn M.makes M.init (beq_iff_eq.mp M.fn) (codeAny_mono go fun res s' z => ?_))
  match res, z with
  | .error er, z => exact hx pins _ _ er s' J z
  | .ok (.ret u), z =>
    obtain ⟨v, H2, J2, rv, ev, q2⟩ := J.after z
    subst ev
    exact ⟨rv, ⟨V.ref (s.heap.objs.size + 1), H2, J2, rfl, q2⟩⟩
  | .ok .next, z => exact False.elim z
  | .ok .brk, z => exact False.elim z
  | .ok .cont, z => exact False.elim z
theorem pe_mkS (M : Mk X.K C f) (F : FnOk X.prog X.w X.K X.mg X.base CX k f fd ps sp) (hr : Room (k + 1) X.A) (hg : Gl X x) (hm : X.mg x = some (.ref C)) (hb : Binds X.K fd ps ds) (hd : Vals dvs ds) (hx : ∀ σ, PassesAt CX X σ (E σ)) (ha : PA X (e :: es) t)
    (hdb : (x == ("__debug__" : Str)) = false := by decide) (he : starEach (e :: es) X.env = (false, eval e X.env) :: starEach es X.env := by rfl) (hpl : (backTo pos (starEach es X.env)).any (·.1) = false := by rfl) :
    PE X (.Call (.Name x p) (e :: es) [] pos) (tMkS C sp dvs E t) := ⟨fun pins s σ H Q I h => wpAny_Call_Name_kw (ld_glob I hg hm (PySem.W.callWith_K (h₀ := X.base) I.ok.mod.kin M.kp (thn (ha.run pos pins s σ H _ I h) fun us s1 ⟨vs, H1, I1, r, q⟩ => ⟨I1.kIn, mkS_run M F hr hb hd (hx σ) I1 r q⟩) he hpl) hdb)⟩
/-- o.m(e, ..) that may raise -/
def tMtS (C : Addr) (m : Str) (sp : Sp) (dvs : List V) (E : L2.St → XK) (ta : TE) (t : TA) : TE := fun σ H Q => ta σ H fun y H1 => ∃ a dx fs, y = .ref a ∧ H1 a = some (.ins C dx fs) ∧ fs.lookup m = none ∧ t σ H1 fun vs H2 => sp (.ref a :: (vs ++ dvs)) H2 Q (E σ)
theorem pe_mtS {pl : Sem Bool} (he : PE X o ta) (c : Cls X.K C) (hm : Meth X.K C m f) (F : FnOk X.prog X.w X.K X.mg X.base CX k f fd ps sp) (hr : Room k X.A) (hb : Binds X.K fd ps ds) (hd : Vals dvs ds) (hx : ∀ σ, PassesAt CX X σ (E σ)) (ha : PA X (e :: es) t)
    (hst : starEach (e :: es) X.env = (false, eval e X.env) :: starEach es X.env := by rfl) (hpl : (backTo pos (starEach es X.env)).any (·.1) = false := by rfl)
    (ht : eval (.Call (.Attribute o m apos) (e :: es) [] pos) X.env = (do
      let ov ← eval o X.env
      standAt apos.atName
      let (fn, first) ← holding [ov] (getMethod ov m pl)
      callWith pos fn first (backTo pos (starEach (e :: es) X.env)) (backToKw pos (keywordEach [] X.env))) := by rfl) :
    PE X (.Call (.Attribute o m apos) (e :: es) [] pos) (tMtS C m sp dvs E ta t) := by
  refine ⟨fun pins s σ H Q I h => PySem.W.methodCall_KW (pl := pl) (thn (he.run pins s σ H _ I h) fun u s1 ⟨y, H1, I1, ry, a, dx, fs, ey, ea, l, q⟩ => ?_) ht⟩
  subst ey
  cases (show u = Value.ref a from ry)
  refine getmeth_ok I1 ea c hm l (PySem.W.callWith_K (first := [.ref a]) (h₀ := X.base) I.ok.mod.kin hm.kp (thn (ha.run pos pins s1 σ H1 _ I1 q) fun us s2 ⟨vs, H2, I2, r, q2⟩ => ⟨I2.kIn, ?_⟩) hst hpl)
  exact run_fnSD (us := .ref a :: us) (vs := .ref a :: vs) F hr hb hd (hx σ) I2 (.cons rfl r) q2
theorem pe_mt0S {pl : Sem Bool} (he : PE X o ta) (c : Cls X.K C) (hm : Meth X.K C m f) (F : FnOk X.prog X.w X.K X.mg X.base CX k f fd ps sp) (hr : Room k X.A) (hb : Binds X.K fd ps ds) (hd : Vals dvs ds) (hx : ∀ σ, PassesAt CX X σ (E σ))
    (ht : eval (.Call (.Attribute o m apos) [] [] pos) X.env = (do
      let ov ← eval o X.env
      standAt apos.atName
      let (fn, first) ← holding [ov] (getMethod ov m pl)
      callWith pos fn first (backTo pos (starEach [] X.env)) (backToKw pos (keywordEach [] X.env))) := by rfl) :
    PE X (.Call (.Attribute o m apos) [] [] pos) (tMtS C m sp dvs E ta tNil) := by
  refine ⟨fun pins s σ H Q I h => PySem.W.methodCall_KW (pl := pl) (thn (he.run pins s σ H _ I h) fun u s1 ⟨y, H1, I1, ry, a, dx, fs, ey, ea, l, q⟩ => ?_) ht⟩
  subst ey
  cases (show u = Value.ref a from ry)
  exact getmeth_ok I1 ea c hm l (PySem.W.callWith_K0 (first := [.ref a]) I1.kIn hm.kp (run_fnSD (us := [.ref a]) (vs := [.ref a]) F hr hb hd (hx σ) I1 (.cons rfl .nil) q))
end
/-! ### isinstance of the caught error -/
/-- isinstance(e, c): e the error at a that the suite holds, cls its class, d its dict -/
def rIsX (K : PySem.W.Frag) (a : Addr) (cls : Value) (d : Option Addr) : List V → Hp → VK → Prop := fun xs H Q => ∃ (c : V) (cv : Value) (D dd : Addr) (fs : List (Str × V)) (b : Bool), xs = [.ref a, c] ∧ ClsV c cv ∧ cls = .ref D ∧ ExcC K D ∧ d = some dd ∧ H dd = some (.xd fs) ∧ PySem.W.kitOne K (.ref D) cv = some b ∧ Q (.bl b) H
theorem call_isX {X : Cx} {a : Addr} {cls : Value} {d : Option Addr} {oe : Obj} {pn : List (Addr × Obj)} (hz : Zc cls d oe) (hf : ∃ vs, oe.data = .fields vs) : CallR (X.suite a ((a, oe) :: pn)) (.builtin "isinstance") (rIsX X.K a cls d) := by
  intro pins s σ H xs us Q I r h
  obtain ⟨c, cv, D, dd, fs, b, rfl, hc, rfl, C, rfl, hx, e, q⟩ := h
  obtain ⟨u1, u2, rfl, r1, r2⟩ := vals2 r
  cases (show u1 = Value.ref a from r1)
  have e2 := hc.eq r2
  subst e2
  obtain ⟨hget, _⟩ := I.pin (a, oe) (List.mem_append_left _ List.mem_cons_self)
  obtain ⟨vs, hv⟩ := hf
  obtain ⟨mA, hns, _⟩ := (show ObjOk X.prog X.w H s.heap dd (.xd fs) from I.hok dd _ hx)
  obtain ⟨od, ho, _⟩ := lookIn_ns hns
  have J : PySem.W.InstAt s.heap a oe D (some od) := ⟨hget, hz.1, by unfold PySem.W.notCls; rw [hv] <;> rfl, by rw [hz.2]; exact ho⟩
  obtain ⟨cd, hcd, _⟩ := PySem.W.any_some C.hd
  have Z : PySem.W.KitX X.K (.ref a) (.ref D) (fun h => PySem.W.InstAt h a oe D (some od)) := PySem.W.kitx_exc (by rw [hcd]; rfl) C.hg C.hk C.hs C.ha C.hn C.ht C.hm
  exact PySem.W.kia_one Z I.kIn J e (fun z => nomatch z) fun tk => ⟨.bl b, H, I.kept (t' := tk) fun _ _ z => z, rfl, q⟩
end FG
namespace FG
open PySem PySem.Spec L2
/-! ### loops, by names -/
def ForR (lo : Int) (n : Nat) (g : TG) (tb : TS) (D : Ends) (σ : L2.St) (H : Hp) : Prop := ∃ W : Nat → Nat → L2.St → Hp → Prop, (∃ m, W 0 m σ H) ∧ ∀ i m σ H, W i m σ H →
  ((Itr lo n).stop i H ∧ D.nx σ H) ∨ ((Itr lo n).go i H ∧ ∃ N : L2.St → Hp → Prop, (∀ σ' H', N σ' H' → ∃ m', m' < m ∧ W (i + 1) m' σ' H') ∧ ∀ x H', (Itr lo n).yld i H x H' → g x σ H' fun σ2 H2 => tb { D with nx := N, ct := N, bk := D.nx } σ2 H2)
def ForL (K : PySem.W.Frag) (a : Addr) (g : TG) (tb : TS) (D : Ends) (σ : L2.St) (H : Hp) : Prop := ∃ W : Nat → Nat → L2.St → Hp → Prop, (∃ m, W 0 m σ H) ∧ ∀ i m σ H, W i m σ H →
  ((Itl K a).stop i H ∧ D.nx σ H) ∨ ((Itl K a).go i H ∧ ∃ N : L2.St → Hp → Prop, (∀ σ' H', N σ' H' → ∃ m', m' < m ∧ W (i + 1) m' σ' H') ∧ ∀ x H', (Itl K a).yld i H x H' → g x σ H' fun σ2 H2 => tb { D with nx := N, ct := N, bk := D.nx } σ2 H2)
section
variable {K : PySem.W.Frag} {σ : L2.St} {H : Hp} {D : Ends} {g : TG} {tb : TS} {tar : TA} {tl : TE}
theorem w_forR1 (k : tar σ H fun vs H1 => ∃ j : Int, vs = [.int j] ∧ -(2 ^ 62) ≤ j ∧ j < 2 ^ 62 ∧ ForR 0 j.toNat g tb D σ H1) : tFor (iRng1 tar) g tb D σ H := k
theorem w_forR2 (k : tar σ H fun vs H1 => ∃ i j : Int, vs = [.int i, .int j] ∧ (-(2 ^ 62) ≤ i ∧ i < 2 ^ 62 ∧ -(2 ^ 62) ≤ j ∧ j < 2 ^ 62) ∧ ForR i (j - i).toNat g tb D σ H1) : tFor (iRng2 tar) g tb D σ H := k
theorem w_forL (k : tl σ H fun x H1 => ∃ a, x = .ref a ∧ (∃ xs, SqL K H1 a xs) ∧ ForL K a g tb D σ H1) : tFor (iList K tl) g tb D σ H := k
/-- the turns of a range, by what holds between them -/
theorem turnsR {lo : Int} {n : Nat} (Pv : Nat → L2.St → Hp → Prop) (h0 : Pv 0 σ H) (hs : ∀ (i : Nat) σ H, i < n → Pv i σ H → g (.int (lo + i)) σ H fun σ2 H2 => tb { D with nx := Pv (i + 1), ct := Pv (i + 1), bk := D.nx } σ2 H2) (hd : ∀ σ H, Pv n σ H → D.nx σ H) : ForR lo n g tb D σ H := for_range Pv h0 hs hd
theorem turnsL {a : Addr} {xs : List V} (Pv : Nat → L2.St → Hp → Prop) (h0 : Pv 0 σ H) (hl : ∀ i σ H, i ≤ xs.length → Pv i σ H → SqL K H a xs) (hs : ∀ (i : Nat) x σ H, xs[i]? = some x → Pv i σ H → g x σ H fun σ2 H2 => tb { D with nx := Pv (i + 1), ct := Pv (i + 1), bk := D.nx } σ2 H2) (hd : ∀ σ H, Pv xs.length σ H → D.nx σ H) : ForL K a g tb D σ H := for_list Pv h0 hl hs hd
end
/-! ### readings of built-ins by names -/
def rAbs : List V → Hp → VK → Prop := fun xs H Q => ∃ i, xs = [.int i] ∧ Q (.int (if i < 0 then -i else i)) H
def rInt1 : List V → Hp → VK → Prop := fun xs H Q => (∃ i, xs = [.int i] ∧ Q (.int i) H) ∨ ∃ k, xs = [.bl k] ∧ Q (.int (if k then 1 else 0)) H
def rLenQ (K : PySem.W.Frag) : List V → Hp → VK → Prop := fun xs H Q => ∃ p ys, xs = [.ref p] ∧ (SqL K H p ys ∨ SqT K H p ys) ∧ Q (.int ys.length) H
def rLenX : List V → Hp → VK → Prop := fun xs H Q => ∃ z : Str, xs = [.str z] ∧ z.length ≤ sizeLine ∧ Q (.int z.length) H
def rListQ (K : PySem.W.Frag) : List V → Hp → VK → Prop := fun xs H Q => ∃ p ys, xs = [.ref p] ∧ (SqL K H p ys ∨ SqT K H p ys) ∧ ∀ l, H l = none → Q (.ref l) (upd H l (.lst ys))
def rMin2 : List V → Hp → VK → Prop := fun xs H Q => ∃ i j, xs = [.int i, .int j] ∧ Q (.int (if j < i then j else i)) H
def rMax2 : List V → Hp → VK → Prop := fun xs H Q => ∃ i j, xs = [.int i, .int j] ∧ Q (.int (if j > i then j else i)) H
def rIsNo : R2 := fun x y H Q => y = .non ∧ Q (.bl (decide (x = .non))) H
def rNotNo : R2 := fun x y H Q => y = .non ∧ Q (.bl (!decide (x = .non))) H
def rAddStr : R2 := fun x y H Q => ∃ i j : Str, x = .str i ∧ y = .str j ∧ i.length + j.length ≤ sizeLine ∧ Q (.str (i ++ j)) H
def rStrI : List V → Hp → VK → Prop := fun xs H Q => ∃ i : Int, xs = [.int i] ∧ i.natAbs.log2 < 1920 ∧ Q (.str (toString i)) H
def rIntS : List V → Hp → VK → Prop := fun xs H Q => ∃ (a : Str) (n : Int), xs = [.str a] ∧ PySem.intText? a = some n ∧ a.length ≤ 640 ∧ Q (.int n) H
section
variable {X : Cx}
theorem qc_abs : CallR X (.builtin "abs") rAbs := call_abs
theorem qc_int1 : CallR X (.type "int") rInt1 := call_int1
theorem qc_len : CallR X (.builtin "len") (rLenQ X.K) := call_len_seq
theorem qc_lenX : CallR X (.builtin "len") rLenX := call_len_str
theorem qc_list : CallR X (.type "list") (rListQ X.K) := call_list_of
theorem qc_min2 (hc : X.calm = true) : CallR X (.builtin "min") rMin2 := call_min2 hc
theorem qc_max2 (hc : X.calm = true) : CallR X (.builtin "max") rMax2 := call_max2 hc
theorem qo_isN : OpR X (compareOp .Is) rIsNo := op_isN
theorem qo_notN : OpR X (compareOp .IsNot) rNotNo := op_notN
theorem qo_addS : OpR X (binaryOp .Add) rAddStr := op_add_str
theorem qc_strI : CallR X (.type "str") rStrI := call_str_int
theorem qc_intS : CallR X (.type "int") rIntS := call_int_str
end
/-! ### stepping through a reading: one lemma a construct -/
section
variable {K : PySem.W.Frag} {σ σ' : L2.St} {H : Hp} {Q : VK} {D : Ends} {ta tb te tc : TE} {tt tu : TT} {t u : TS} {tar : TA} {v x y : V} {i : Nat} {g : TG} {r r' : R2} {QB : Bool → Hp → Prop} {QA : List V → Hp → Prop} {QS : L2.St → Hp → Prop}
theorem w_var (h : σ[i]? = some (some v)) (k : Q v H) : tVar i σ H Q := ⟨v, h, k⟩
theorem w_c (k : Q v H) : tC v σ H Q := k
theorem w_op (k : ta σ H fun x H1 => tb σ H1 fun y H2 => r x y H2 Q) : tOp r ta tb σ H Q := k
theorem w_un {r1 : V → Hp → VK → Prop} (k : ta σ H fun x H1 => r1 x H1 Q) : tUn r1 ta σ H Q := k
theorem w_U {g : Int → V} {i : Int} (k : Q (g i) H) : rU g (.int i) H Q := ⟨i, rfl, k⟩
theorem w_I0 {g : Int → Int → V} {i j : Int} (k : Q (g i j) H) : rI0 g (.int i) (.int j) H Q := ⟨i, j, rfl, rfl, k⟩
theorem w_I {C : Int → Int → Prop} {g : Int → Int → V} {i j : Int} (c : C i j) (k : Q (g i j) H) : rI C g (.int i) (.int j) H Q := ⟨i, j, rfl, rfl, c, k⟩
theorem w_eq (c : scal x y = true) (k : Q (.bl (decide (x = y))) H) : rEq x y H Q := ⟨c, k⟩
theorem w_ne (c : scal x y = true) (k : Q (.bl (!decide (x = y))) H) : rNe x y H Q := ⟨c, k⟩
theorem w_test (k : te σ H fun z H1 => ∃ b, z = .bl b ∧ QB b H1) : tTest te σ H QB := k
theorem w_tB (k : te σ H fun z H1 => ∃ b, z = .bl b ∧ QB b H1) : tB te σ H QB := k
theorem w_bl {b : Bool} (k : QB b H) : ∃ b', V.bl b = .bl b' ∧ QB b' H := ⟨b, rfl, k⟩
theorem w_blE {b : Bool} {P : Bool → Prop} (k : P b) : ∃ b', V.bl b = .bl b' ∧ P b' := ⟨b, rfl, k⟩
theorem w_and (k : tt σ H fun c H1 => if c = true then tu σ H1 QB else QB false H1) : tAnd tt tu σ H QB := k
theorem w_or (k : tt σ H fun c H1 => if c = true then QB true H1 else tu σ H1 QB) : tOr tt tu σ H QB := k
theorem w_not (k : tt σ H fun c H1 => QB (!c) H1) : tNot tt σ H QB := k
theorem w_andV (k : ta σ H fun x H1 => ∃ c, x = .bl c ∧ if c = true then tb σ H1 Q else Q (.bl false) H1) : tAndV ta tb σ H Q := k
theorem w_orV (k : ta σ H fun x H1 => ∃ c, x = .bl c ∧ if c = true then Q (.bl true) H1 else tb σ H1 Q) : tOrV ta tb σ H Q := k
theorem w_notV (k : ta σ H fun x H1 => ∃ c, x = .bl c ∧ Q (.bl (!c)) H1) : tNotV ta σ H Q := k
theorem w_if (k : tt σ H fun c H1 => if c = true then ta σ H1 Q else tb σ H1 Q) : tIf tt ta tb σ H Q := k
theorem w_nil (k : QA [] H) : tNil σ H QA := k
theorem w_cons (k : ta σ H fun x H1 => tar σ H1 fun xs H2 => QA (x :: xs) H2) : tCons ta tar σ H QA := k
theorem w_tup (k : tar σ H fun xs H1 => xs.length ≤ sizeLine ∧ ∀ p, H1 p = none → Q (.ref p) (upd H1 p (.tup xs))) : tTup tar σ H Q := k
theorem w_lst (k : tar σ H fun xs H1 => xs.length ≤ sizeLine ∧ ∀ p, H1 p = none → Q (.ref p) (upd H1 p (.lst xs))) : tLst tar σ H Q := k
theorem w_cb {r : List V → Hp → VK → Prop} (k : tar σ H fun vs H1 => r vs H1 Q) : tCB r tar σ H Q := k
theorem w_call {sp : Sp} {dvs : List V} {E : XK} (k : tar σ H fun vs H1 => sp (vs ++ dvs) H1 Q E) : tCall sp dvs E tar σ H Q := k
theorem w_callSD {sp : Sp} {dvs : List V} {E : L2.St → XK} (k : tar σ H fun vs H1 => sp (vs ++ dvs) H1 Q (E σ)) : tCallSD sp dvs E tar σ H Q := k
theorem w_callS {sp : Sp} {E : L2.St → XK} (k : tar σ H fun vs H1 => sp vs H1 Q (E σ)) : tCallS sp E tar σ H Q := k
theorem w_meth {C : Addr} {m : Str} {sp : Sp} {dvs : List V} {E : XK} (k : ta σ H fun x H1 => ∃ a dx fs, x = .ref a ∧ H1 a = some (.ins C dx fs) ∧ fs.lookup m = none ∧ tar σ H1 fun vs H2 => sp (x :: (vs ++ dvs)) H2 Q E) : tMeth C m sp dvs E ta tar σ H Q := k
theorem w_chain (k : ta σ H fun x H1 => tb σ H1 fun y H2 => r x y H2 fun z H3 => ∃ k, z = .bl k ∧ (if k = true then tc σ H3 fun w' H4 => r' y w' H4 Q else Q (.bl false) H3)) : tChain r r' ta tb tc σ H Q := k
/-- statements -/
theorem w_seq (k : t { D with nx := u D } σ H) : tSeq t u D σ H := k
theorem w_next (k : D.nx σ H) : tNext D σ H := k
theorem w_drop (k : te σ H fun _ H1 => D.nx σ H1) : tDrop te D σ H := k
theorem w_ret (k : te σ H D.rt) : tRet te D σ H := k
theorem w_retN (k : D.rt .non H) : tRetN D σ H := k
theorem w_ifs (k : tt σ H fun b H1 => if b = true then t D σ H1 else u D σ H1) : tIfS tt t u D σ H := k
theorem w_asg (k : te σ H fun x H1 => g x σ H1 D.nx) : tAsg te g D σ H := k
theorem w_gname (e : σ.set i (some v) = σ') (k : QS σ' H) : gName i v σ H QS := by
  subst e
  exact k
theorem w_par {j : Nat} (k : tar σ H fun vs H1 => ∃ v w, vs = [v, w] ∧ D.nx ((σ.set i (some v)).set j (some w)) H1) : tPar i j tar D σ H := k
theorem w_ix {p : Addr} {xs : List V} {i : Int} (h : SqL K H p xs) (e : atI xs i = some v) (k : Q v H) : rIxL K (.ref p) (.int i) H Q := ⟨p, xs, i, v, rfl, rfl, h, e, k⟩
theorem w_ixT {p : Addr} {xs : List V} {i : Int} (h : SqT K H p xs) (e : atI xs i = some v) (k : Q v H) : rIxT K (.ref p) (.int i) H Q := ⟨p, xs, i, v, rfl, rfl, h, e, k⟩
theorem w_gsub {to ti : TE} {s : TSet} (k : to σ H fun o H1 => ti σ H1 fun i H2 => s o i v H2 fun H3 => QS σ H3) : gSub to ti s v σ H QS := k
theorem w_setL {p : Addr} {xs : List V} {k : Int} {j : Nat} {P : Hp → Prop} (h : H p = some (.lst xs)) (e : ixN xs.length k = some j) (q : P (upd H p (.lst (xs.set j v)))) : rSetL (.ref p) (.int k) v H P := ⟨p, xs, k, j, rfl, rfl, h, e, q⟩
theorem w_fld {f : Str} (k : ta σ H fun x H1 => ∃ a C dx fs v, x = .ref a ∧ H1 a = some (.ins C dx fs) ∧ Cls K C ∧ NoAttr K C f ∧ fs.lookup f = some v ∧ Q v H1) : tFld K ta f σ H Q := k
theorem w_sfld {f : Str} (k : tb σ H fun y H1 => ta σ H1 fun x H2 => ∃ a C dx fs, x = .ref a ∧ H2 a = some (.ins C dx fs) ∧ Cls K C ∧ NoAttr K C f ∧ fs.length < 1000 ∧ D.nx σ (upd H2 a (.ins C dx (putF f y fs)))) : sFld K ta tb f D σ H := k
theorem w_sl {r : V → Option Int → Option Int → Hp → VK → Prop} {tl th : TO} (k : te σ H fun x H1 => tl σ H1 fun l H2 => th σ H2 fun u H3 => r x l u H3 Q) : tSl r te tl th σ H Q := k
theorem w_nopart {QO : Option Int → Hp → Prop} (k : QO none H) : tNoPart σ H QO := k
theorem w_part {QO : Option Int → Hp → Prop} (k : te σ H fun x H1 => ∃ i, x = .int i ∧ QO (some i) H1) : tPart te σ H QO := k
theorem w_exI {P : Int → Prop} {i : Int} (k : P i) : ∃ i', V.int i = .int i' ∧ P i' := ⟨i, rfl, k⟩
theorem w_exR {P : Addr → Prop} {p : Addr} (k : P p) : ∃ a, V.ref p = .ref a ∧ P a := ⟨p, rfl, k⟩
theorem w_slL {p : Addr} {xs : List V} {lo hi : Option Int} (h : SqL K H p xs) (k : ∀ q, H q = none → Q (.ref q) (upd H q (.lst (cutV xs lo hi)))) : rSlL K (.ref p) lo hi H Q := ⟨p, xs, rfl, h, k⟩
theorem w_mks {C : Addr} {sp : Sp} {dvs : List V} {E : L2.St → XK} (k : tar σ H fun vs H1 => ∀ z dz, H1 z = none → H1 dz = none → dz ≠ z → sp (.ref z :: (vs ++ dvs)) (upd (upd H1 dz (.own z)) z (.ins C dz [])) (fun v H2 => v = .non ∧ Q (.ref z) H2) (E σ)) : tMkS C sp dvs E tar σ H Q := k
theorem w_abs {i : Int} (k : Q (.int (if i < 0 then -i else i)) H) : rAbs [.int i] H Q := ⟨i, rfl, k⟩
theorem w_int1 {i : Int} (k : Q (.int i) H) : rInt1 [.int i] H Q := .inl ⟨i, rfl, k⟩
theorem w_isi {c : V} {t' u' : Value} {b : Bool} (h1 : ClsV c u') (h2 : TyX K H x t') (h3 : PySem.W.kitOne K t' u' = some b) (k : Q (.bl b) H) : rIsi K [x, c] H Q := ⟨x, c, t', u', b, rfl, h1, h2, h3, k⟩
theorem w_lenS {p : Addr} {xs : List V} (h : SqL K H p xs) (k : Q (.int xs.length) H) : rLenQ K [.ref p] H Q := ⟨p, xs, rfl, .inl h, k⟩
theorem w_lenT {p : Addr} {xs : List V} (h : SqT K H p xs) (k : Q (.int xs.length) H) : rLenQ K [.ref p] H Q := ⟨p, xs, rfl, .inr h, k⟩
theorem w_lenX {z : Str} (h : z.length ≤ sizeLine) (k : Q (.int z.length) H) : rLenX [.str z] H Q := ⟨z, rfl, h, k⟩
theorem w_listS {p : Addr} {xs : List V} (h : SqL K H p xs) (k : ∀ l, H l = none → Q (.ref l) (upd H l (.lst xs))) : rListQ K [.ref p] H Q := ⟨p, xs, rfl, .inl h, k⟩
theorem w_min2 {i j : Int} (k : Q (.int (if j < i then j else i)) H) : rMin2 [.int i, .int j] H Q := ⟨i, j, rfl, k⟩
theorem w_max2 {i j : Int} (k : Q (.int (if j > i then j else i)) H) : rMax2 [.int i, .int j] H Q := ⟨i, j, rfl, k⟩
theorem w_isN (k : Q (.bl (decide (x = .non))) H) : rIsNo x .non H Q := ⟨rfl, k⟩
theorem w_notN (k : Q (.bl (!decide (x = .non))) H) : rNotNo x .non H Q := ⟨rfl, k⟩
theorem w_addS {i j : Str} (h : i.length + j.length ≤ sizeLine) (k : Q (.str (i ++ j)) H) : rAddStr (.str i) (.str j) H Q := ⟨i, j, rfl, rfl, h, k⟩
theorem w_strI {i : Int} (h : i.natAbs.log2 < 1920) (k : Q (.str (toString i)) H) : rStrI [.int i] H Q := ⟨i, rfl, h, k⟩
theorem w_intS {z : Str} {n : Int} (h : PySem.intText? z = some n) (h2 : z.length ≤ 640) (k : Q (.int n) H) : rIntS [.str z] H Q := ⟨z, n, rfl, h, h2, k⟩
end
/-- raise, by a name -/
def tRs (W : WX) (t : L2.St → Hp → XK → Prop) : TS := fun _ σ H => t σ H fun cls d H' => W cls d σ H'
theorem ps_rs {X : Cx} {W : WX} {e : Expr} {t : L2.St → Hp → XK → Prop} {pos : Pos} (hc : X.calm = true) (tk : Takes X W) (he : PMk X e t) : PS X (.Raise (some e) none pos) (tRs W t) := ps_raise hc tk he
section
variable {σ : L2.St} {H : Hp} {D : Ends} {W : WX} {t : L2.St → Hp → XK → Prop} {QX : XK} {ta tb : TE} {C : Addr} {f f2 : Str}
theorem w_rs (k : t σ H fun cls d H' => W cls d σ H') : tRs W t D σ H := k
theorem w_mk1 (k : ta σ H fun x H1 => ∃ v, [x] = [v] ∧ ∀ d, H1 d = none → QX (.ref C) (some d) (upd H1 d (.xd [(f, v)]))) : tMk1 C f (tCons ta tNil) σ H QX := k
theorem w_mk2 (k : ta σ H fun x H1 => tb σ H1 fun y H2 => ∃ v v2, [x, y] = [v, v2] ∧ ∀ d, H2 d = none → QX (.ref C) (some d) (upd H2 d (.xd [(f, v), (f2, v2)]))) : tMk2 C f f2 (tCons ta (tCons tb tNil)) σ H QX := k
theorem w_one {x : V} {P : V → Prop} (k : P x) : ∃ v, [x] = [v] ∧ P v := ⟨x, rfl, k⟩
theorem w_two {x y : V} {P : V → V → Prop} (k : P x y) : ∃ v v2, [x, y] = [v, v2] ∧ P v v2 := ⟨x, y, rfl, k⟩
end
theorem it_pos {c A B : Prop} [Decidable c] (hc : c) (h : A) : if decide c = true then A else B := by
  rw [decide_eq_true hc]
  exact iteT h
theorem it_neg {c A B : Prop} [Decidable c] (hc : ¬ c) (h : B) : if decide c = true then A else B := by
  rw [decide_eq_false hc]
  exact iteF h
theorem it_dec {c A B : Prop} [Decidable c] (h1 : c → A) (h2 : ¬ c → B) : if decide c = true then A else B := by
  by_cases h : c
  · exact it_pos h (h1 h)
  · exact it_neg h (h2 h)
theorem it_npos {c A B : Prop} [Decidable c] (hc : c) (h : B) : if (!decide c) = true then A else B := by
  rw [decide_eq_true hc]
  exact iteF h
theorem it_nneg {c A B : Prop} [Decidable c] (hc : ¬ c) (h : A) : if (!decide c) = true then A else B := by
  rw [decide_eq_false hc]
  exact iteT h
theorem it_ndec {c A B : Prop} [Decidable c] (h1 : c → B) (h2 : ¬ c → A) : if (!decide c) = true then A else B := by
  by_cases h : c
  · exact it_npos h (h1 h)
  · exact it_nneg h (h2 h)
theorem iteNT {A B : Prop} (h : B) : if (!true) = true then A else B := iteF h
theorem iteNF {A B : Prop} (h : A) : if (!false) = true then A else B := iteT h
theorem it_b {b : Bool} {A B : Prop} (h1 : b = true → A) (h2 : b = false → B) : if b = true then A else B := by
  cases b
  · exact iteF (h2 rfl)
  · exact iteT (h1 rfl)
/-- heaps -/
theorem upd_old {H : Hp} {a p : Addr} {o u : HO} (h : H a = some o) (n : H p = none) : upd H p u a = some o := by
  rw [upd_ne (ne_of_none h n)]
  exact h
theorem Same.upd {H H' : Hp} {p : Addr} {o : HO} (s : Same H H') (n : H p = none) : Same H (upd H' p o) := fun b u e => by
  rw [upd_ne (ne_of_none e n)]
  exact s b u e
theorem Same.new {H : Hp} {p : Addr} {o : HO} (n : H p = none) : Same H (L2.upd H p o) := fun b u e => upd_old e n
theorem Same.fld {H H' : Hp} (s : Same H H') {p : Addr} (n : H' p = none) : H p = none := s.free n
/-- promises of defs of one to four parameters -/
def sp1 (f : V → Hp → VK → XK → Prop) : Sp := fun vs H Q E => ∃ x, vs = [x] ∧ f x H Q E
def sp2 (f : V → V → Hp → VK → XK → Prop) : Sp := fun vs H Q E => ∃ x y, vs = [x, y] ∧ f x y H Q E
def sp3 (f : V → V → V → Hp → VK → XK → Prop) : Sp := fun vs H Q E => ∃ x y z, vs = [x, y, z] ∧ f x y z H Q E
def sp4 (f : V → V → V → V → Hp → VK → XK → Prop) : Sp := fun vs H Q E => ∃ x y z w, vs = [x, y, z, w] ∧ f x y z w H Q E
theorem sp1_len {f} {vs H Q E} (h : sp1 f vs H Q E) : vs.length = 1 := by obtain ⟨_, rfl, _⟩ := h; rfl
theorem sp2_len {f} {vs H Q E} (h : sp2 f vs H Q E) : vs.length = 2 := by obtain ⟨_, _, rfl, _⟩ := h; rfl
theorem sp3_len {f} {vs H Q E} (h : sp3 f vs H Q E) : vs.length = 3 := by obtain ⟨_, _, _, rfl, _⟩ := h; rfl
theorem sp4_len {f} {vs H Q E} (h : sp4 f vs H Q E) : vs.length = 4 := by obtain ⟨_, _, _, _, rfl, _⟩ := h; rfl
end FG
namespace FG
open PySem PySem.Spec L2
/-- what a class must say so that isinstance asks its instances -/
structure InsC (K : PySem.W.Frag) (C : Addr) : Prop where
  ha : PySem.W.findIn K (.ref C) "__class__" = some (some (.builtin "object.__class__"))
  hn : PySem.W.specialIn K (.builtin "object.__class__") "__get__" = some (some (.builtin "getset_descriptor.__get__"))
  htk : PySem.W.takesIn K (.builtin "object.__class__") = some true
  hm : PySem.W.mroIn K C (.type "object") = some true
theorem ty_ins {K : PySem.W.Frag} {H : Hp} {a C dx : Addr} {fs : List (Str × V)} (e : H a = some (.ins C dx fs)) (c : Cls K C) (I : InsC K C) : TyX K H (.ref a) (.ref C) := .base (.ins e c I.ha I.hn I.htk I.hm)
theorem kit_self {K : PySem.W.Frag} {C : Addr} : PySem.W.kitOne K (.ref C) (.ref C) = some true := by
  unfold PySem.W.kitOne
  rw [if_pos (by simp)]
/-- the arguments of a def with defaults -/
theorem bindsD {K : PySem.W.Frag} {x qual : Str} {params : Arguments} {body : List Stmt} {scope : Scope} {tp f : Addr} {oc kV doc pm cd ct tc : Value} {an od td : Option Addr} {osl ts : Array (Option Value)} {its ds : List Value} {tn : Nat} {ps : List Str}
    (_l : K.lookup f = some ⟨oc, od, .func (PySem.W.fnOf x qual params body scope (.ref tp) kV doc pm an cd ct), osl⟩) (t : K.lookup tp = some ⟨tc, td, .seq its.toArray tn, ts⟩)
    (h : ∀ us : List Value, us.length + ds.length = ps.length → ∃ k, bindArgs (PySem.W.fnOf x qual params body scope (.ref tp) kV doc pm an cd ct) ⟨us, []⟩ = seqItems? (.ref tp) >>= k ∧ k (some its.toArray) = pure (ps.zip (us ++ ds))) :
    Binds K (PySem.W.fnOf x qual params body scope (.ref tp) kV doc pm an cd ct) ps ds := by
  intro s us X hl
  rw [List.length_append] at hl
  obtain ⟨k, e1, e2⟩ := h us hl
  refine BindsTo.of_looks fun M => ?_
  rw [e1]
  exact looks_items X t rfl (.of_pure e2)
/-- an item at a drawn place -/
theorem atI_mem {α : Type} {xs : List α} {r : Int} (h0 : 0 ≤ r) (h1 : r < xs.length) : ∃ v, atI xs r = some v ∧ v ∈ xs := by
  obtain ⟨j, rfl⟩ := Int.eq_ofNat_of_zero_le h0
  have hj : j < xs.length := Int.ofNat_lt.mp h1
  exact ⟨xs[j], atI_nat (List.getElem?_eq_getElem hj), List.getElem_mem hj⟩
theorem keep_of {H H' : Hp} {b c : Addr} {o : HO} (fr : ∀ c, c ≠ b → H' c = H c) (h : H c = some o) (n : c ≠ b) : H' c = some o := (fr c n).trans h
theorem small_mul {i j : Int} (hi : i.natAbs < 2 ^ 1000) (hj : j.natAbs < 2 ^ 1000) : CMulW i j := wide_mul hi hj (by decide) (by decide) (by decide)
theorem small_le {i : Int} {n : Nat} (h : i.natAbs < 2 ^ n) (hn : n ≤ 8000) : i.natAbs < 2 ^ 8000 := Nat.lt_of_lt_of_le h (Nat.pow_le_pow_right (by decide) hn)
theorem mul_small {i j : Int} (hi : i.natAbs < 2 ^ 1000) (hj : j.natAbs < 2 ^ 1000) : (i * j).natAbs < 2 ^ 8000 := small_le (wide_lt hi hj) (by decide)
end FG
namespace FG
open PySem PySem.W PySem.Calls
/-! operators of an own class: a + b, a + n, n + a, -a, abs(a) -/
section
variable {prog : Program} {w : World} {M : Model} {A : Around} {E : Value → Shared → Prop} {hp : Heap} {g : Array GenState} {d : Drawn} {tk : Nat} {os : OsState} {x C dx : Addr} {i : Int} {t : Tok} {P : PySem.Fin → Shared → Prop}
theorem decl_add (hx : hp.get? x = some (instObj C dx)) (hq : P (.done (.ret .notImplemented)) ⟨hp, g, d, tk, os⟩) : wpAny M A (Builtin.«int.__add__» ⟨[.int i t, .ref x], []⟩) P E ⟨hp, g, d, tk, os⟩ := by
  wp_walk
  exact hq
theorem decl_sub (hx : hp.get? x = some (instObj C dx)) (hq : P (.done (.ret .notImplemented)) ⟨hp, g, d, tk, os⟩) : wpAny M A (Builtin.«int.__sub__» ⟨[.int i t, .ref x], []⟩) P E ⟨hp, g, d, tk, os⟩ := by
  wp_walk
  exact hq
theorem decl_mul (hx : hp.get? x = some (instObj C dx)) (hq : P (.done (.ret .notImplemented)) ⟨hp, g, d, tk, os⟩) : wpAny M A (Builtin.«int.__mul__» ⟨[.int i t, .ref x], []⟩) P E ⟨hp, g, d, tk, os⟩ := by
  wp_walk
  exact hq
end
/-- what the written part says of a class's operator nm: the method at f, the turned one at r -/
structure OpC (K : Frag) (C : Addr) (nm : String) (f r : Addr) : Prop where
  hc : selfFirst K C = true
  hs : findIn K (.ref C) (PySem.dunder nm) = some (some (.ref f))
  hf : isFn K (.ref f) = true
  hr : findIn K (.ref C) (dunderR nm) = some (some (.ref r))
  hrf : isFn K (.ref r) = true
  h1 : ∃ fo, findIn K (.type "int") (PySem.dunder nm) = some fo
  h2 : ∃ ro, findIn K (.type "int") (dunderR nm) = some ro
  hsub : subIn K (.type "int") (.ref C) = some false
  hsubR : subIn K (.ref C) (.type "int") = some false
section
variable {prog : Program} {w : World} {A : Around} {E : Value → Shared → Prop} {K : Frag} {x C f r : Addr} {ox : Obj} {od : Option Obj} {i : Int} {t : Tok}
/-- n op a: the int declines, the turned method answers -/
theorem bin_intL {s : Shared} {op : Operator} {Q : Value → Shared → Prop} (X : K.In s.heap) (I : InstAt s.heap x ox C od) (O : OpC K C op.info.2 f r) (fi : fillsNumberSlot (.type "int") op.info.2 = pure true)
    (left : ∀ {Q' : Option Value → Shared → Prop}, Q' none s → wpAny (model prog w) A (tryMethod (.int i t) (PySem.dunder op.info.2) (.ref x)) Q' E s)
    (h : wpAny (model prog w) A (call (.ref r) [.ref x, .int i t]) (CmpBack Q) E s) : wpAny (model prog w) A (binaryOp op (.int i t) (.ref x)) Q E s := by
  obtain ⟨cd, rest, hcd, hm⟩ := ksp_first O.hc
  have hs := O.hs
  have hrr := O.hr
  rcases hi : op.info with ⟨sym, nm'⟩
  rw [hi] at hs hrr fi left
  dsimp only at hs hrr fi left
  have one := ksp_try X I hrr O.hrf h
  obtain ⟨hh, g, d, tt, os⟩ := s
  have L1 : Looks (model prog w) hh (typeOf (.int i t)) (.type "int") := Looks.of_pure rfl
  have L2 : Looks (model prog w) hh (typeOf (.ref x)) (.ref C) := I.type
  have L3 : Looks (model prog w) hh (fillsNumberSlot (.type "int") nm') true := Looks.of_pure fi
  have L4 : Looks (model prog w) hh (fillsNumberSlot (.ref C) nm') true := fills_K X hcd hm hs
  have L5 : Looks (model prog w) hh (isSubtype (.ref C) (.type "int")) false := looks_subIn X O.hsubR
  have L6 : Looks (model prog w) hh (numberSlotInPython (.type "int") nm') false := Looks.of_pure rfl
  have hne : (Value.type "int" == Value.ref C) = false := Bool.eq_false_iff.mpr fun q => by cases beq_iff_eq.mp q
  simp only [binaryOp, hi]
  refine wpAny_holding (wpAny_bind ?_)
  unfold binaryOp1
  refine wpAny_bind (L1.at (wpAny_bind (L2.at (wpAny_bind (L3.at ?_)))))
  simp only [hne, Bool.false_eq_true, if_false]
  refine wpAny_bind (L4.at ?_)
  simp only [Bool.and_self, if_true]
  refine wpAny_bind (L5.at ?_)
  simp only [Bool.false_eq_true, if_false, Bool.not_false, Bool.and_self, if_true]
  refine wpAny_bind (L6.at ?_)
  simp only [Bool.false_eq_true, if_false, if_true]
  refine wpAny_bind (left ?_)
  simp only [Bool.false_eq_true, if_false, if_true, Bool.and_self, Bool.not_false]
  refine wpAny_bind (wpAny_mono one (fun rv s' hr' => ?_) fun _ _ e => e)
  obtain ⟨v, rfl, hq⟩ := hr'
  exact wpAny_bind (wpAny_rule (wpAny_pure (wpAny_pure hq)))
end
end FG
namespace FG
open PySem PySem.Spec L2
theorem back_of {X : Cx} {pins : List (Addr × Obj)} {σ : L2.St} {Q : VK} {v : Value} {s : Shared} (h : EP X pins σ Q v s) : PySem.W.CmpBack (EP X pins σ Q) v s := by
  obtain ⟨y, H, I, r, q⟩ := id h
  cases v with
  | notImplemented =>
    exfalso
    cases y <;> first | exact nomatch (show Value.notImplemented = _ from r) | (obtain ⟨_, z⟩ := (show ∃ t, Value.notImplemented = _ from r); exact nomatch z)
  | _ => exact h
section
variable {X : Cx} {k : Nat} {C f r : Addr} {fd : FuncData} {ps : List Str} {sp : Sp} {op : Operator}
/-- a op y, a of the class C, y of the same class or an int -/
def rOwnB (C : Addr) (sp : Sp) : R2 := fun x y H Q => ∃ a dx fs, x = .ref a ∧ H a = some (.ins C dx fs) ∧ ((∃ i, y = .int i) ∨ ∃ b dy gs, y = .ref b ∧ H b = some (.ins C dy gs)) ∧ sp [.ref a, y] H Q E0
theorem op_ownB (O : OpC X.K C op.info.2 f r) (F : FnOk X.prog X.w X.K X.mg X.base CX0 k f fd ps sp) (hr : Room k X.A) (hb : Binds X.K fd ps []) : OpR X (binaryOp op) (rOwnB C sp) := by
  intro pins s σ H x y v u Q I rx ry h
  obtain ⟨a, dx, fs, rfl, ea, hy, q⟩ := h
  cases (show v = Value.ref a from rx)
  obtain ⟨mA, Ob, _⟩ := ins_get I.hok ea
  obtain ⟨od, J, _⟩ := Ob.look
  obtain ⟨m, fr⟩ := I.fr
  have go := wpAny_mono (run_fn (us := [.ref a, u]) (vs := [.ref a, y]) F hr hb .nil pass0 I (.cons rfl (.cons ry .nil)) q) (fun _ _ z => back_of z) fun _ _ z => z
  rcases hy with ⟨i, rfl⟩ | ⟨b, dy, gs, rfl, eb⟩
  · obtain ⟨t, rfl⟩ := ry
    obtain ⟨fo, h1⟩ := O.h1
    obtain ⟨ro, h2⟩ := O.h2
    exact PySem.W.ksp_binT fr I.ok.mod.kin J rfl O.hc O.hs O.hf O.hr (.inr ⟨_, rfl⟩) h1 h2 O.hsub go
  · cases (show u = Value.ref b from ry)
    obtain ⟨mB, Ob', _⟩ := ins_get I.hok eb
    obtain ⟨od', J', _⟩ := Ob'.look
    exact PySem.W.binop_K fr I.ok.mod.kin J J'.type O.hc O.hs O.hf go
/-- n op a -/
def rOwnR (C : Addr) (sp : Sp) : R2 := fun x y H Q => ∃ a dx fs i, x = .int i ∧ y = .ref a ∧ H a = some (.ins C dx fs) ∧ sp [.ref a, .int i] H Q E0
theorem op_ownR (O : OpC X.K C op.info.2 f r) (F : FnOk X.prog X.w X.K X.mg X.base CX0 k r fd ps sp) (hr : Room k X.A) (hb : Binds X.K fd ps []) (fi : fillsNumberSlot (.type "int") op.info.2 = pure true)
    (left : ∀ {x dx : Addr} {i : Int} {t : Tok} {s : Shared} {E : Value → Shared → Prop} {Q' : Option Value → Shared → Prop}, s.heap.get? x = some (PySem.W.instObj C dx) → Q' none s → wpAny (model X.prog X.w) X.A (tryMethod (.int i t) (PySem.dunder op.info.2) (.ref x)) Q' E s) :
    OpR X (binaryOp op) (rOwnR C sp) := by
  intro pins s σ H x y v u Q I rx ry h
  obtain ⟨a, dx, fs, i, rfl, rfl, ea, q⟩ := h
  cases (show u = Value.ref a from ry)
  obtain ⟨t, rfl⟩ := rx
  obtain ⟨_, _, _, eo, _⟩ := (show ObjOk X.prog X.w H s.heap a (.ins C dx fs) from I.hok a _ ea)
  obtain ⟨mA, Ob, _⟩ := ins_get I.hok ea
  obtain ⟨od, J, _⟩ := Ob.look
  have go := wpAny_mono (run_fn (us := [.ref a, .int i t]) (vs := [.ref a, .int i]) F hr hb .nil pass0 I (.cons rfl (.cons ⟨t, rfl⟩ .nil)) q) (fun _ _ z => back_of z) fun _ _ z => z
  exact bin_intL I.kIn J O fi (fun {Q'} z => left eo z) go
theorem left_add {x dx : Addr} {i : Int} {t : Tok} {s : Shared} {E : Value → Shared → Prop} {Q' : Option Value → Shared → Prop} (hx : s.heap.get? x = some (PySem.W.instObj C dx)) (hq : Q' none s) : wpAny (model X.prog X.w) X.A (tryMethod (.int i t) (PySem.dunder "add") (.ref x)) Q' E s := by
  obtain ⟨hp, g, d, tk, os⟩ := s
  have hT : Shared.TypeIs ⟨hp, g, d, tk, os⟩ (.int i t) "int" := typeIs_int _ i t
  refine @wpAny_tryMethod_declines _ _ _ ⟨hp, g, d, tk, os⟩ (.int i t) (.ref x) "int" (PySem.dunder "add") "int.__add__" _ hT F.slot_int_add ?_
  refine @wpAny_call_entry _ _ _ _ ⟨hp, g, d, tk, os⟩ "int" (PySem.dunder "add") "int.__add__" _ (.int i t) [.ref x] _ F.slot_int_add hT F.entry_int_add ?_ (F.args_int_add_2 _ _)
  exact decl_add hx ⟨_, rfl, rfl, hq⟩
theorem left_sub {x dx : Addr} {i : Int} {t : Tok} {s : Shared} {E : Value → Shared → Prop} {Q' : Option Value → Shared → Prop} (hx : s.heap.get? x = some (PySem.W.instObj C dx)) (hq : Q' none s) : wpAny (model X.prog X.w) X.A (tryMethod (.int i t) (PySem.dunder "sub") (.ref x)) Q' E s := by
  obtain ⟨hp, g, d, tk, os⟩ := s
  have hT : Shared.TypeIs ⟨hp, g, d, tk, os⟩ (.int i t) "int" := typeIs_int _ i t
  refine @wpAny_tryMethod_declines _ _ _ ⟨hp, g, d, tk, os⟩ (.int i t) (.ref x) "int" (PySem.dunder "sub") "int.__sub__" _ hT F.slot_int_sub ?_
  refine @wpAny_call_entry _ _ _ _ ⟨hp, g, d, tk, os⟩ "int" (PySem.dunder "sub") "int.__sub__" _ (.int i t) [.ref x] _ F.slot_int_sub hT F.entry_int_sub ?_ (F.args_int_sub_2 _ _)
  exact decl_sub hx ⟨_, rfl, rfl, hq⟩
theorem left_mul {x dx : Addr} {i : Int} {t : Tok} {s : Shared} {E : Value → Shared → Prop} {Q' : Option Value → Shared → Prop} (hx : s.heap.get? x = some (PySem.W.instObj C dx)) (hq : Q' none s) : wpAny (model X.prog X.w) X.A (tryMethod (.int i t) (PySem.dunder "mul") (.ref x)) Q' E s := by
  obtain ⟨hp, g, d, tk, os⟩ := s
  have hT : Shared.TypeIs ⟨hp, g, d, tk, os⟩ (.int i t) "int" := typeIs_int _ i t
  refine @wpAny_tryMethod_declines _ _ _ ⟨hp, g, d, tk, os⟩ (.int i t) (.ref x) "int" (PySem.dunder "mul") "int.__mul__" _ hT F.slot_int_mul ?_
  refine @wpAny_call_entry _ _ _ _ ⟨hp, g, d, tk, os⟩ "int" (PySem.dunder "mul") "int.__mul__" _ (.int i t) [.ref x] _ F.slot_int_mul hT F.entry_int_mul ?_ (F.args_int_mul_2 _ _)
  exact decl_mul hx ⟨_, rfl, rfl, hq⟩
/-- -a -/
def rOwnU (C : Addr) (sp : Sp) : V → Hp → VK → Prop := fun x H Q => ∃ a dx fs, x = .ref a ∧ H a = some (.ins C dx fs) ∧ sp [.ref a] H Q E0
theorem un_ownN (hs : PySem.W.findIn X.K (.ref C) "__neg__" = some (some (.ref f))) (hf : PySem.W.isFn X.K (.ref f) = true) (F : FnOk X.prog X.w X.K X.mg X.base CX0 k f fd ps sp) (hr : Room k X.A) (hb : Binds X.K fd ps []) : UnR X (unaryOp .USub) (rOwnU C sp) := by
  intro pins s σ H x v Q I rx h
  obtain ⟨a, dx, fs, rfl, ea, q⟩ := h
  cases (show v = Value.ref a from rx)
  obtain ⟨mA, Ob, _⟩ := ins_get I.hok ea
  obtain ⟨od, J, _⟩ := Ob.look
  obtain ⟨m, fr⟩ := I.fr
  exact PySem.W.ksp_neg fr I.ok.mod.kin J hs hf (run_fn (us := [.ref a]) (vs := [.ref a]) F hr hb .nil pass0 I (.cons rfl .nil) q)
/-- abs(a) -/
def rOwnA (C : Addr) (sp : Sp) : List V → Hp → VK → Prop := fun xs H Q => ∃ a dx fs, xs = [.ref a] ∧ H a = some (.ins C dx fs) ∧ sp [.ref a] H Q E0
theorem call_absO (hs : PySem.W.findIn X.K (.ref C) "__abs__" = some (some (.ref f))) (hf : PySem.W.isFn X.K (.ref f) = true) (F : FnOk X.prog X.w X.K X.mg X.base CX0 k f fd ps sp) (hr : Room (k + 1) X.A) (hb : Binds X.K fd ps []) : CallR X (.builtin "abs") (rOwnA C sp) := by
  intro pins s σ H xs us Q I r h
  obtain ⟨a, dx, fs, rfl, ea, q⟩ := h
  obtain ⟨u, rfl, r1⟩ := vals1 r
  cases (show u = Value.ref a from r1)
  obtain ⟨mA, Ob, _⟩ := ins_get I.hok ea
  obtain ⟨od, J, _⟩ := Ob.look
  refine Calls.call_function_entry PyProof.Rows.kind_abs PyProof.Rows.plain_abs PyProof.Rows.entry_abs (PyProof.Rows.args_abs _) ?_
  unfold Builtin.«abs»
  refine wpAny_bind (m := oneArg "abs" _) (wpAny_pure ?_)
  have hl : ([Value.ref a] ++ ([] : List Value)).length = ps.length := by
    rw [← F.len _ _ _ _ q]
    rfl
  have go := F.run X.A.in1 X.stack s H ⟨[.ref a], []⟩ [.ref a] [.ref a] Q E0 hr.in1 I.env0.in1 (hb _ [.ref a] I.kIn hl) (.cons rfl .nil) q
  refine wpAny_bind (PySem.W.special_fn I.kIn J hs (beq_iff_eq.mp hf) (wpAny_call (codeAny_mono go fun res s' z => ?_)))
  match res, z with
  | .error er, z => exact z.elim
  | .ok (.ret u), z => exact wpAny_pure ⟨_, rfl, I.after z⟩
  | .ok .next, z => exact False.elim z
  | .ok .brk, z => exact False.elim z
  | .ok .cont, z => exact False.elim z
end
end FG
namespace FG
open PySem PySem.Spec L2
/-! == of an own class, with both answers; the right side is of the class or an int -/
section
variable {X : Cx} {k : Nat} {C f : Addr} {fd : FuncData} {ps : List Str} {sp : Sp}
theorem op_ownE (hn : PySem.W.notFirst X.K C (.type "int") = true) (hs : PySem.W.findIn X.K (.ref C) "__eq__" = some (some (.ref f))) (hf : PySem.W.isFn X.K (.ref f) = true)
    (F : FnOk X.prog X.w X.K X.mg X.base CX0 k f fd ps sp) (hr : Room k X.A) (hb : Binds X.K fd ps []) : OpR X (compareOp .Eq) (rOwnB C sp) := by
  intro pins s σ H x y v u Q I rx ry h
  obtain ⟨a, dx, fs, rfl, ea, hy, q⟩ := h
  cases (show v = Value.ref a from rx)
  obtain ⟨mA, Ob, _⟩ := ins_get I.hok ea
  obtain ⟨od, J, _⟩ := Ob.look
  obtain ⟨m, fr⟩ := I.fr
  have go := wpAny_mono (run_fn (us := [.ref a, u]) (vs := [.ref a, y]) F hr hb .nil pass0 I (.cons rfl (.cons ry .nil)) q) (fun _ _ z => back_of z) fun _ _ z => z
  show wpAny (model X.prog X.w) X.A (richCompare .Eq (.ref a) u) (EP X pins σ Q) X.xe s
  rcases hy with ⟨i, rfl⟩ | ⟨b, dy, gs, rfl, eb⟩
  · obtain ⟨t, rfl⟩ := ry
    exact PySem.W.cmp_K (op := .Eq) (tb := .type "int") hr.units0 fr I.ok.mod.kin J (PySem.W.Looks.of_pure rfl) hn hs hf go
  · cases (show u = Value.ref b from ry)
    obtain ⟨mB, Ob', _⟩ := ins_get I.hok eb
    obtain ⟨od', J', _⟩ := Ob'.look
    exact PySem.W.cmp_K (op := .Eq) (tb := .ref C) hr.units0 fr I.ok.mod.kin J J'.type (by simp [PySem.W.notFirst]) hs hf go
end
end FG
namespace FG
open PySem PySem.Spec L2
/-! ## sorting: what is tracked, told as data; lists by their one sorted order -/
/-! ### the body (len(g), g) of a key, told exactly -/
section
variable {prog : Program} {w : World} {A : Around} {env : Env} {E : Value → Shared → Prop} {s : Shared}
theorem eval_rank {g z : Str} {t : Tok} {mL mG mB : Str → Option Value} {p1 p2 p3 p4 p5 : Pos} {x1} {Q : Value → Shared → Prop} (hk : env.scope.kind = .function) (hg : env.kindOf g = some .local) (hl : env.kindOf "len" = some .globalImplicit)
    (nL : s.heap.Ns env.locals mL) (eL : mL g = some (.str z t)) (nG : s.heap.Ns env.globals mG) (miss : mG "len" = none) (nB : s.heap.Ns env.builtins mB) (hb : mB "len" = some (.builtin "len")) (hz : z.length ≤ sizeLine) (hd : (g == ("__debug__" : Str)) = false)
    (q : ∀ (t' : Tok) (tk : Nat), Q (.ref s.heap.objs.size) { s with heap := s.heap.push { cls := .type "tuple", data := .seq #[.int z.length t', .str z t] }, toks := tk })
    (hs : starEach [Expr.Call (.Name "len" p1) [.Name g p2] [] p3, .Name g p4] env = [(false, eval (.Call (.Name "len" p1) [.Name g p2] [] p3) env), (false, eval (.Name g p4) env)] := by rfl) :
    wpAny (model prog w) A (eval (.Tuple [.Call (.Name "len" p1) [.Name g p2] [] p3, .Name g p4] x1 p5) env) Q E s := by
  have hn := line63
  refine wpAny_Tuple_spliced ?_
  rw [hs]
  refine Calls.spliced_cons ?_
  refine wpAny_Call_Name_kw (Calls.Name_function_global hk hl (Calls.loadGlobal_builtin nG miss nB hb ?_))
  refine PyProof.Rows.callWith_builtin1 (Calls.spliced_cons (wpAny_Name (wpAny_loadName_local hk hg nL eL ?_) hd))
  refine Calls.spliced_nil ?_
  refine PyProof.Rows.len_str (by omega) ?_
  refine Calls.spliced_cons (wpAny_Name (wpAny_loadName_local hk hg nL eL ?_) hd)
  refine Calls.spliced_nil ⟨?_, q _ _⟩
  show 2 ≤ sizeLine
  decide
end
/-! ### sorted, over what is tracked -/
theorem vals_each {β : Type} {toV : β → V} : ∀ {xs : List β} {us : List Value}, Vals (xs.map toV) us → PySem.W.EachIs (fun v b => RelV (toV b) v) us xs
  | [], _, .nil => .nil
  | _ :: _, _, .cons r t => .cons r (vals_each t)
theorem each_vals {β : Type} {toV : β → V} : ∀ {xs : List β} {us : List Value}, PySem.W.EachIs (fun v b => RelV (toV b) v) us xs → Vals (xs.map toV) us
  | _, _, .nil => .nil
  | _, _, .cons r t => .cons r (each_vals t)
section
variable {X : Cx} {pins : List (Addr × Obj)} {σ : L2.St} {H : Hp} {s : Shared}
theorem each_reads {β : Type} {toV : β → V} {enc : β → PyData} (I : Inv X pins σ H s) : ∀ {xs : List β} {us : List Value}, PySem.W.EachIs (fun v b => RelV (toV b) v) us xs → (∀ b ∈ xs, Dp X.K H (toV b) (enc b)) → PySem.W.EachIs (fun v b => ∃ as, Reads s.heap v (enc b) as) us xs
  | _, _, .nil, _ => .nil
  | _, _, .cons r t, h => .cons (Dp.reads I _ _ _ (h _ List.mem_cons_self) r) (each_reads I t fun b hb => h b (List.mem_cons_of_mem _ hb))
/-- sorted(xs): the items stand for xs, told by enc -/
theorem sort_run {β : Type} {toV : β → V} {enc : β → PyData} {a : Addr} {xs : List β} {Q : VK} (I : Inv X pins σ H s) (hs : SqL X.K H a (xs.map toV)) (hd : ∀ b ∈ xs, Dp X.K H (toV b) (enc b)) (al : PySem.W.AllAlike (xs.map enc)) (so : PySem.W.Sortable (xs.map enc))
    (dp : ∀ b ∈ xs, (enc b).depth ≤ 32) (hu : X.A.units + 64 < cLine) (q : ∀ p, H p = none → Q (.ref p) (upd H p (.lst ((xs.mergeSort (PySem.W.dataLe false enc)).map toV)))) :
    wpAny (model X.prog X.w) X.A (call (.builtin "sorted") [.ref a]) (EP X pins σ Q) X.xe s := by
  obtain ⟨its, rv, hl, hz⟩ := I.list hs
  have e := vals_each rv
  rw [List.length_map] at hz
  refine PySem.W.sorted_data hl.isList e (each_reads I e hd) al so hz (fun b hb => by have := dp b hb; omega) fun out hlen eo => ?_
  obtain ⟨ep, he⟩ := PyProof.Rows.sortedAll_at s.heap its out.toArray
  have hf : H (s.heap.objs.size + 1) = none := I.hok.fresh (Nat.le_succ _)
  refine ⟨.ref (s.heap.objs.size + 1), upd H (s.heap.objs.size + 1) (.lst ((xs.mergeSort (PySem.W.dataLe false enc)).map toV)), I.laid (t' := s.toks) (fun _ _ => PyProof.Rows.sortedAll_old) (Nat.le_succ _) ⟨?_, out, ep, each_vals eo, he⟩, rfl, q _ hf⟩
  rw [List.length_map, List.length_mergeSort]
  exact hz
end
/-- pairs of texts by their order -/
def pairLe (x y : Str × Str) : Bool := decide (x.1.cps.toList < y.1.cps.toList ∨ (x.1 = y.1 ∧ x.2.cps.toList ≤ y.2.cps.toList))
def strLe (x y : Str) : Bool := decide (x.cps.toList ≤ y.cps.toList)
/-- glyphs by their length, then by their name -/
def rankLe (x y : Str) : Bool := decide (x.length < y.length ∨ (x.length = y.length ∧ x.cps.toList ≤ y.cps.toList))
theorem str_ext {x y : Str} (h : x.cps.toList = y.cps.toList) : x = y := by
  cases x; cases y
  simp only [Str.mk.injEq]
  exact Array.ext' h
theorem le_or_lt (x y : List Nat) : x ≤ y ∨ y < x := by
  by_cases h : x ≤ y
  · exact .inl h
  · exact .inr (List.not_le.mp h)
theorem lt_or_eq {x y : List Nat} (h : x ≤ y) : x < y ∨ x = y := by
  by_cases c : y ≤ x
  · exact .inr (List.le_antisymm h c)
  · exact .inl (List.not_le.mp c)
theorem dataLt_ss (x y x' y' : Str) : PySem.W.dataLt (.tuple [.str x, .str y]) (.tuple [.str x', .str y']) = !pairLe (x', y') (x, y) := by
  rw [PySem.W.dataLt_pair (by simp [PySem.W.alike]) (by simp [PySem.W.alike]), PySem.W.dataLt_str, PySem.W.dataLt_str]
  simp only [PyData.eqv, beq_iff_eq, pairLe]
  by_cases h1 : x = x'
  · subst h1
    by_cases h2 : y = y'
    · subst h2
      simp [List.lt_irrefl, List.le_refl]
    · simp only [if_true, h2, if_false, List.lt_irrefl, false_or, true_and]
      by_cases h3 : y.cps.toList < y'.cps.toList
      · simp [h3, List.not_le.mpr h3]
      · have h4 : y'.cps.toList ≤ y.cps.toList := List.not_lt.mp h3
        simp [h3, h4]
  · have n : ¬ x' = x := fun z => h1 z.symm
    simp only [h1, if_false, n, false_and, or_false]
    by_cases h3 : x.cps.toList < x'.cps.toList
    · have h4 : ¬ x'.cps.toList < x.cps.toList := fun z => List.lt_irrefl _ (List.lt_trans h3 z)
      simp [h3, h4]
    · have h4 : x'.cps.toList < x.cps.toList := (lt_or_eq (List.not_lt.mp h3)).resolve_right fun z => n (str_ext z)
      simp [h3, h4]
theorem dataLe_ss {β : Type} (f : β → Str × Str) : PySem.W.dataLe false (fun b => .tuple [.str (f b).1, .str (f b).2]) = fun a b => pairLe (f a) (f b) := by
  funext a b
  show (!PySem.W.dataLt _ _) = _
  rw [dataLt_ss, Bool.not_not]
theorem dataLt_is (x y : Nat) (x' y' : Str) : PySem.W.dataLt (.tuple [.int x, .str x']) (.tuple [.int y, .str y']) = !decide (y < x ∨ (y = x ∧ y'.cps.toList ≤ x'.cps.toList)) := by
  rw [PySem.W.dataLt_pair (by simp [PySem.W.alike]) (by simp [PySem.W.alike]), PySem.W.dataLt_int, PySem.W.dataLt_str]
  simp only [PyData.eqv, beq_iff_eq]
  by_cases h1 : x = y
  · subst h1
    by_cases h2 : x' = y'
    · subst h2
      simp [List.lt_irrefl, List.le_refl]
    · simp only [if_true, h2, if_false, Nat.lt_irrefl, false_or, true_and]
      by_cases h3 : x'.cps.toList < y'.cps.toList
      · simp [h3, List.not_le.mpr h3]
      · simp [h3, List.not_lt.mp h3]
  · have n : ¬ y = x := fun z => h1 z.symm
    have n2 : ¬ (x : Int) = y := by omega
    simp only [n2, if_false, n, false_and, or_false]
    by_cases h3 : x < y
    · have : ¬ y < x := by omega
      have h4 : (x : Int) < y := by omega
      simp [h4, this]
    · have : y < x := by omega
      have h4 : ¬ (x : Int) < y := by omega
      simp [h4, this]
theorem dataLe_rank {β : Type} (f : β → Str) : PySem.W.dataLe false (fun b => .tuple [.int ((f b).length : Nat), .str (f b)]) = fun a b => rankLe (f a) (f b) := by
  funext a b
  show (!PySem.W.dataLt _ _) = _
  rw [dataLt_is, Bool.not_not]
  rfl
/-- sorted(xs), xs a list of pairs of texts -/
def rSortSS (K : PySem.W.Frag) : List V → Hp → VK → Prop := fun vs H Q => ∃ (a : Addr) (zs : List (Addr × Str × Str)), vs = [.ref a] ∧ SqL K H a (zs.map fun z => V.ref z.1) ∧ (∀ z ∈ zs, SqT K H z.1 [.str z.2.1, .str z.2.2]) ∧
  ∀ p, H p = none → Q (.ref p) (upd H p (.lst ((zs.mergeSort fun x y => pairLe x.2 y.2).map fun z => V.ref z.1)))
/-- sorted(xs), xs a list of texts, of any length -/
def rSortStr (K : PySem.W.Frag) : List V → Hp → VK → Prop := fun vs H Q => ∃ (a : Addr) (zs : List Str), vs = [.ref a] ∧ SqL K H a (zs.map V.str) ∧
  ∀ p, H p = none → Q (.ref p) (upd H p (.lst ((zs.mergeSort strLe).map V.str)))
/-- sorted(xs), xs a list of pairs (len(g), g) -/
def rSortIS (K : PySem.W.Frag) : List V → Hp → VK → Prop := fun vs H Q => ∃ (a : Addr) (zs : List (Addr × Str)), vs = [.ref a] ∧ SqL K H a (zs.map fun z => V.ref z.1) ∧ (∀ z ∈ zs, SqT K H z.1 [.int (z.2.length : Nat), .str z.2]) ∧
  ∀ p, H p = none → Q (.ref p) (upd H p (.lst ((zs.mergeSort fun x y => rankLe x.2 y.2).map fun z => V.ref z.1)))
section
variable {X : Cx}
theorem cr_sortSS (hu : X.A.units + 64 < cLine) : CallR X (.builtin "sorted") (rSortSS X.K) := by
  intro pins s σ H vs us Q I r h
  obtain ⟨a, zs, rfl, hs, hx, q⟩ := h
  obtain rfl := Vals.ref1 r
  refine sort_run (toV := fun z : Addr × Str × Str => V.ref z.1) (enc := fun z => .tuple [.str z.2.1, .str z.2.2]) I hs (fun z hz => .tup (hx z hz) (.cons (.str _) (.cons (.str _) .nil))) (PySem.W.AllAlike.of fun _ _ => by simp [PySem.W.alike, PySem.W.alikeAll]) (PySem.W.Sortable.tuples fun _ => ⟨_, _, rfl⟩)
    (fun _ _ => by simp [PyData.depth, PyData.depthAll]) hu fun p hp => ?_
  rw [dataLe_ss fun z : Addr × Str × Str => z.2]
  exact q p hp
theorem cr_sortStr (hu : X.A.units + 64 < cLine) : CallR X (.builtin "sorted") (rSortStr X.K) := by
  intro pins s σ H vs us Q I r h
  obtain ⟨a, zs, rfl, hs, q⟩ := h
  obtain rfl := Vals.ref1 r
  refine sort_run (toV := V.str) (enc := fun z => .str z) I hs (fun z hz => .str _) (PySem.W.AllAlike.of fun _ _ => by simp [PySem.W.alike]) (PySem.W.Sortable.others fun _ => ⟨(fun z => by cases z), (fun _ z => by cases z)⟩)
    (fun _ _ => by simp [PyData.depth]) hu fun p hp => ?_
  rw [PySem.W.dataLe_str fun z : Str => z]
  exact q p hp
theorem cr_sortIS (hu : X.A.units + 64 < cLine) : CallR X (.builtin "sorted") (rSortIS X.K) := by
  intro pins s σ H vs us Q I r h
  obtain ⟨a, zs, rfl, hs, hx, q⟩ := h
  obtain rfl := Vals.ref1 r
  refine sort_run (toV := fun z : Addr × Str => V.ref z.1) (enc := fun z => .tuple [.int (z.2.length : Nat), .str z.2]) I hs (fun z hz => .tup (hx z hz) (.cons (.int _) (.cons (.str _) .nil))) (PySem.W.AllAlike.of fun _ _ => by simp [PySem.W.alike, PySem.W.alikeAll]) (PySem.W.Sortable.tuples fun _ => ⟨_, _, rfl⟩)
    (fun _ _ => by simp [PyData.depth, PyData.depthAll]) hu fun p hp => ?_
  rw [dataLe_rank fun z : Addr × Str => z.2]
  exact q p hp
end
/-! ### a key that gives (len(g), g): a lambda, or a def -/
/-- the names of such a key's scope -/
structure RankS (g : Str) (scope : Scope) : Prop where
  kind : scope.kind = .function
  co : scope.isCoroutine = false
  gen : scope.isGenerator = false
  cell : ∀ y ∈ scope.names, y.2 ≠ .cell
  free : ∀ y ∈ scope.names, y.2 ≠ .free
  own : scope.names.lookup g = some .local
  len : scope.names.lookup ("len" : Str) = some .globalImplicit
  dbg : (g == ("__debug__" : Str)) = false
section
variable {prog : Program} {w : World} {A : Around} {s : Shared}
theorem rank_reads {h : Heap} {z : Str} {t t' : Tok} : Reads (h.push { cls := .type "tuple", data := .seq #[.int z.length t', .str z t] }) (.ref h.objs.size) (.tuple [.int (z.length : Nat), .str z]) [] :=
  .tuple (as := []) (Heap.get?_push_size _ rfl) rfl rfl (.cons (as := []) (bs := []) (.int _ _) (.cons (as := []) (bs := []) (.str _ _) .nil))
theorem lam_key {f c' : Addr} {q g z : Str} {t : Tok} {params : Arguments} {scope : Scope} {cl : List (Str × Addr)} {pm ctv : Value} {mG mB : Str → Option Value} {p1 p2 p3 p4 p5 : Pos} {x1} (L : RankS g scope) (hroom : A.depth < recursionLimit)
    (hf : s.heap.get? f = some (PySem.W.kla_obj "<lambda>" q params (.Tuple [.Call (.Name "len" p1) [.Name g p2] [] p3, .Name g p4] x1 p5) scope cl pm c' ctv)) (hc : s.heap.CodeRec (.ref c') q) (lim : s.heap.NoLimit)
    (hb : ∀ v, bindArgs (PySem.W.kla_fn "<lambda>" q params (.Tuple [.Call (.Name "len" p1) [.Name g p2] [] p3, .Name g p4] x1 p5) scope cl pm (.ref c') ctv) ⟨[v], []⟩ = pure [(g, v)])
    (nG : s.heap.Ns mainGlobals mG) (miss : mG "len" = none) (nB : s.heap.Ns builtinsNs mB) (hB : mB "len" = some (.builtin "len")) (hz : z.length ≤ sizeLine) :
    wpAny (model prog w) A (call (.ref f) [.str z t]) (PySem.W.KeyPure (.tuple [.int (z.length : Nat), .str z]) s) (fun _ _ => False) s := by
  refine wpAny_call (PySem.W.kla_callFunE hroom hf rfl L.co L.gen rfl hc ?_)
  rw [hb]
  refine wpAny_pure (wpAny_newFunctionEnv L.cell (fun y hy => ?_) (fun h₁ hns hsb => ⟨lim.fresh _ hsb, ?_⟩) L.kind)
  · rw [List.mem_singleton] at hy
    rw [hy]
    exact L.own
  have kp : ∀ b o, s.heap.get? b = some o → h₁.get? b = some o := fun b o e => hsb.extBut b o (Nat.ne_of_lt (Heap.lt_size e)) (Heap.get?_push_of_some _ e)
  refine PySem.W.kla_codeExpr ?_
  refine eval_rank (g := g) (z := z) (t := t) L.kind L.own L.len hns (by simp [List.lookup]) (nG.keeps kp) miss (nB.keeps kp) hB hz L.dbg fun t' tk => ?_
  exact ⟨_, tk, rfl, fun b o e => Heap.get?_push_of_some _ (kp b o e), rank_reads⟩
theorem def_key {f : Addr} {name q g z : Str} {t : Tok} {params : Arguments} {scope : Scope} {dV kV doc pm cdv ct oc : Value} {an od : Option Addr} {osl : Array (Option Value)} {mG mB : Str → Option Value} {p1 p2 p3 p4 p5 p6 : Pos} {x1} (L : RankS g scope) (hroom : A.depth < recursionLimit)
    (hf : s.heap.get? f = some ⟨oc, od, .func (PySem.W.fnOf name q params [.Return (some (.Tuple [.Call (.Name "len" p1) [.Name g p2] [] p3, .Name g p4] x1 p5)) p6] scope dV kV doc pm an cdv ct), osl⟩) (hc : s.heap.CodeRec cdv q) (lim : s.heap.NoLimit)
    (hb : ∀ v, BindsTo s (PySem.W.fnOf name q params [.Return (some (.Tuple [.Call (.Name "len" p1) [.Name g p2] [] p3, .Name g p4] x1 p5)) p6] scope dV kV doc pm an cdv ct) ⟨[v], []⟩ [(g, v)])
    (nG : s.heap.Ns mainGlobals mG) (miss : mG "len" = none) (nB : s.heap.Ns builtinsNs mB) (hB : mB "len" = some (.builtin "len")) (hz : z.length ≤ sizeLine) :
    wpAny (model prog w) A (call (.ref f) [.str z t]) (PySem.W.KeyPure (.tuple [.int (z.length : Nat), .str z]) s) (fun _ _ => False) s := by
  refine wpAny_call (codeAny_call_def (binds := [(g, .str z t)]) hroom hf rfl lim hc rfl (hb _) L.cell (fun y hy => ?_) (fun h₁ hns kp => ?_) L.co L.gen L.kind)
  · rw [List.mem_singleton] at hy
    rw [hy]
    exact L.own
  refine wpAny_execs_cons (wpAny_Return_some ?_)
  refine eval_rank (g := g) (z := z) (t := t) L.kind L.own L.len hns (by simp [List.lookup]) (nG.keeps kp) miss (nB.keeps kp) hB hz L.dbg fun t' tk => ?_
  exact ⟨_, tk, rfl, fun b o e => Heap.get?_push_of_some _ (kp b o e), rank_reads⟩
end
/-! ### heaps, but for the tables of code objects -/
def NT : HO → Prop
  | .tbl _ => False
  | _ => True
/-- all but the tables stays -/
def Ex (H H' : Hp) : Prop := ∀ b o, H b = some o → NT o → H' b = some o
theorem Ex.refl (H : Hp) : Ex H H := fun _ _ h _ => h
theorem Ex.trans {H H1 H2 : Hp} (x : Ex H H1) (y : Ex H1 H2) : Ex H H2 := fun b o h n => y b o (x b o h n) n
theorem Same.ex {H H' : Hp} (s : Same H H') : Ex H H' := fun b o h _ => s b o h
theorem Ex.new {H : Hp} {p : Addr} {o : HO} (n : H p = none) : Ex H (upd H p o) := Same.ex (Same.new n)
theorem ext_ex {H H' : Hp} (e : LamX.ExtN H H') : Ex H H' := fun b o h n => e b o h fun ps z => by
  rw [z] at n
  exact n
theorem Ex.sqL {K : PySem.W.Frag} {H H' : Hp} {a : Addr} {xs : List V} (e : Ex H H') (h : SqL K H a xs) : SqL K H' a xs := by
  rcases h with (h | ⟨o, h⟩) | h
  · exact .inl (.inl (e _ _ h trivial))
  · exact .inl (.inr ⟨o, e _ _ h trivial⟩)
  · exact .inr h
theorem Ex.sqT {K : PySem.W.Frag} {H H' : Hp} {a : Addr} {xs : List V} (e : Ex H H') (h : SqT K H a xs) : SqT K H' a xs := by
  rcases h with (h | ⟨o, h⟩) | h
  · exact .inl (.inl (e _ _ h trivial))
  · exact .inl (.inr ⟨o, e _ _ h trivial⟩)
  · exact .inr h
/-- nothing but a table stands at p -/
def New (H : Hp) (p : Addr) : Prop := ∀ o, H p = some o → NT o → False
theorem New.of {H : Hp} {p : Addr} (h : H p = none) : New H p := fun o e _ => by
  rw [h] at e
  cases e
theorem New.ne {H : Hp} {p b : Addr} {o : HO} (n : New H p) (h : H b = some o) (t : NT o) : b ≠ p := fun z => n o (by rw [← z]; exact h) t
theorem New.back {H H' : Hp} {p : Addr} (n : New H' p) (e : Ex H H') : New H p := fun o h t => n o (e p o h t) t
/-! ### sorted(xs, key=f) -/
section
variable {X : Cx}
theorem rank_run {f : Addr} {pins : List (Addr × Obj)} {σ : L2.St} {H : Hp} {s : Shared} {a : Addr} {ss : List Str} {Q : VK} (I : Inv X pins σ H s) (hs : SqL X.K H a (ss.map V.str)) (hu : X.A.units + 64 < cLine)
    (turn : ∀ (z : Str) (t : Tok) (h : Heap) (tk : Nat), z ∈ ss → (∀ b o, s.heap.get? b = some o → h.get? b = some o) → wpAny (model X.prog X.w) X.A.in1.in1 (call (.ref f) [.str z t]) (PySem.W.KeyPure (.tuple [.int (z.length : Nat), .str z]) { s with heap := h, toks := tk }) (fun _ _ => False) { s with heap := h, toks := tk })
    (q : ∀ p, H p = none → Q (.ref p) (upd H p (.lst ((ss.mergeSort rankLe).map V.str)))) : wpAny (model X.prog X.w) X.A (call (.builtin "sorted") [.ref a] [(Str.ofString "key", .ref f)]) (EP X pins σ Q) X.xe s := by
  obtain ⟨its, rv, hl, hz⟩ := I.list hs
  have e := vals_each rv
  rw [List.length_map] at hz
  refine PySem.W.sorted_key_data (b := false) (fun z : Str => .tuple [.int (z.length : Nat), .str z]) hl.isList e (PySem.W.AllAlike.of fun _ _ => by simp [PySem.W.alike, PySem.W.alikeAll]) (PySem.W.Sortable.tuples fun _ => ⟨_, _, rfl⟩) hz (fun z _ => ?_) (PyProof.Rows.ksk_s1 _ _) (fun _ => PyProof.Rows.ksk_l1 _ _) (fun _ => PyProof.Rows.ksk_t1 _ _)
    (fun v z r hm h tk kp => ?_) fun out c h' tk kp fr hD hlen eo => ?_
  · have hd : (PyData.tuple [.int (z.length : Nat), .str z]).depth = 1 := by simp [PyData.depth, PyData.depthAll]
    omega
  · obtain ⟨t, rfl⟩ := r
    exact turn z t h tk hm kp
  · have hf : H (s.heap.objs.size + 1) = none := I.hok.fresh (Nat.le_succ _)
    rw [dataLe_rank fun z : Str => z] at eo
    refine ⟨.ref (s.heap.objs.size + 1), upd H (s.heap.objs.size + 1) (.lst ((ss.mergeSort rankLe).map V.str)), I.laid (t' := tk) kp (Nat.le_succ _) ⟨?_, out, c, each_vals eo, hD⟩, rfl, q _ hf⟩
    rw [List.length_map, List.length_mergeSort]
    exact hz
theorem boot_sorted : bootBuiltins "sorted" = some (.builtin "sorted") := by decide +kernel
theorem blt_len {pins : List (Addr × Obj)} {σ : L2.St} {H : Hp} {s : Shared} (I : Inv X pins σ H s) : ∃ mB, s.heap.Ns builtinsNs mB ∧ mB "len" = some (.builtin "len") := by
  obtain ⟨mb, h1, h2⟩ := I.mod.blt
  exact ⟨mb, h1.keeps I.bk, (h2 "len" (by decide)).trans boot_len⟩
/-- by a def of the form (len(g), g) -/
def rSortRank (K : PySem.W.Frag) (f : Addr) : List V → List V → Hp → VK → Prop := fun vs zs H Q => ∃ (a : Addr) (ss : List Str), vs = [.ref a] ∧ zs = [.ref f] ∧ SqL K H a (ss.map V.str) ∧ (∀ z ∈ ss, z.length ≤ sizeLine) ∧
  ∀ p, H p = none → Q (.ref p) (upd H p (.lst ((ss.mergeSort rankLe).map V.str)))
theorem cr_sortRank {f : Addr} {fd : FuncData} {x q g : Str} {st : Stmt} {p1 p2 p3 p4 p5 p6 : Pos} {x1} (F : Fun X.K x q st f fd) (hb : Binds X.K fd [g] []) (L : RankS g (defScope st)) (hbody : defBody st = [.Return (some (.Tuple [.Call (.Name "len" p1) [.Name g p2] [] p3, .Name g p4] x1 p5)) p6])
    (hm : X.mg "len" = none) (hr : Room 1 X.A) (hu : X.A.units + 64 < cLine) : CallRK X (.builtin "sorted") [Str.ofString "key"] (rSortRank X.K f) := by
  intro pins s σ H vs zs us ws Q I r rz h
  obtain ⟨a, ss, rfl, rfl, hs, hl, k⟩ := h
  obtain rfl := Vals.ref1 r
  obtain rfl := Vals.ref1 rz
  obtain ⟨oc, od, kV, doc, pm, an, cdv, ct, osl, rfl, lk, hcd⟩ := F.ex
  obtain ⟨mB, n1, n2⟩ := blt_len I
  refine rank_run I hs hu (fun z t h tk hz kp => ?_) k
  have KX : X.K.In h := I.kIn.keeps kp
  rw [hbody] at lk hb
  refine def_key (s := { s with heap := h, toks := tk }) L (by have := hr.dp; show X.A.depth < _; omega) (KX _ _ lk) (PySem.W.codeRec_of KX hcd) (I.nolimit.keeps kp) (fun v => hb _ [v] KX rfl) ((I.mod.glob.keeps I.bk).keeps kp) hm (n1.keeps kp) n2 (hl z hz)
/-- by a lambda of that form; the maker's table stands at P -/
def tSortLam (K : PySem.W.Frag) (P : Addr) (q : Str) (te : TE) : TE := fun σ H Q => te σ H fun x H1 => ∃ (a : Addr) (ss : List Str), x = .ref a ∧ SqL K H1 a (ss.map V.str) ∧ (∀ z ∈ ss, z.length ≤ sizeLine) ∧ LamX.TabS H1 P q ∧
  ∀ H2, Ex H1 H2 → LamX.TabS H2 P q → ∀ p, H2 p = none → Q (.ref p) (upd H2 p (.lst ((ss.mergeSort rankLe).map V.str)))
theorem pe_sortLam {c P : Addr} {e : Expr} {te : TE} {params : Arguments} {scope : Scope} {g q : Str} {p pos lpos kpos p1 p2 p3 p4 p5 : Pos} {x1} (TB : LamX.TabB X.base X.mg c P) (hcode : X.env.code = .ref c) (hq : X.env.qual ++ "<lambda>" = q) (L : RankS g scope) (hdef : defaultsOf params X.env = ([], []))
    (hbind : ∀ (cl : List (Str × Addr)) (pm cv ctv v : Value), bindArgs (PySem.W.kla_fn "<lambda>" q params (.Tuple [.Call (.Name "len" p1) [.Name g p2] [] p3, .Name g p4] x1 p5) scope cl pm cv ctv) ⟨[v], []⟩ = pure [(g, v)])
    (he : PE X e te) (hg : Gl X "sorted") (hm : X.mg "sorted" = none) (hml : X.mg "len" = none) (hr : Room 1 X.A) (hu : X.A.units + 64 < cLine)
    (hs0 : starEach [e] X.env = (false, eval e X.env) :: starEach [] X.env := by rfl) (hst : backTo pos (starEach [e] X.env) = (false, eval e X.env) :: backTo pos (starEach [] X.env) := by rfl) (hpl : (backTo pos (starEach [e] X.env)).any (·.1) = false := by rfl) :
    PE X (.Call (.Name "sorted" p) [e] [⟨some "key", .Lambda params (.Tuple [.Call (.Name "len" p1) [.Name g p2] [] p3, .Name g p4] x1 p5) scope lpos, kpos⟩] pos) (tSortLam X.K P q te) := by
  refine ⟨fun pins s σ H Q I h => ?_⟩
  refine wpAny_Call_Name_kw (ld_blt I hg hm boot_sorted ?_)
  have ha := (pa_cons he pa_nil hs0).run pos pins s σ H (fun vs H1 => match vs with
    | [x] => ∃ (a : Addr) (ss : List Str), x = .ref a ∧ SqL X.K H1 a (ss.map V.str) ∧ (∀ z ∈ ss, z.length ≤ sizeLine) ∧ LamX.TabS H1 P q ∧
      ∀ H2, Ex H1 H2 → LamX.TabS H2 P q → ∀ p, H2 p = none → Q (.ref p) (upd H2 p (.lst ((ss.mergeSort rankLe).map V.str)))
    | _ => False) I h
  refine PyProof.Rows.callWith_kw (thn ha fun us s1 ⟨vs, H1, I1, r1, z⟩ => ?_) hst hpl (by rfl) (by rfl)
  obtain ⟨x, rfl⟩ : ∃ x, vs = [x] := by
    match vs, z with
    | [x], _ => exact ⟨x, rfl⟩
  obtain ⟨a, ss, ex, hs, hl, hT, k⟩ := z
  subst ex
  obtain rfl := Vals.ref1 r1
  show wpAny _ _ (evalAll [do let v ← eval (.Lambda params (.Tuple [.Call (.Name "len" p1) [.Name g p2] [] p3, .Name g p4] x1 p5) scope lpos) X.env; standAt pos; pure v]) _ _ s1
  refine wpAny_evalAll_cons (wpAny_bind ?_)
  refine LamX.lam_make2 (T := [(P, q)]) I1 TB hcode (by rw [hq]; simp) (fun p hp _ => by rw [List.mem_singleton.mp hp, hq]) (fun p hp => by rw [List.mem_singleton.mp hp]; exact hT) hdef (fun y hy e => absurd e (L.free y hy)) fun f c' pm ctv H2 s2 I2 eN T2 hf hfn hfr hco => ?_
  refine wpAny_bind (wpAny_standAt (wpAny_pure ?_))
  refine wpAny_evalAll_nil ?_
  have hT2 := T2 _ (List.mem_singleton.mpr rfl)
  obtain ⟨mB, n1, n2⟩ := blt_len I2
  rw [hq] at hf hco
  refine rank_run I2 ((ext_ex eN).sqL hs) hu (fun z t h tk hz kp => ?_) (k H2 (ext_ex eN) hT2)
  obtain ⟨⟨oc, vs, t', hoc, hdc, hvc⟩, _, _⟩ := I2.hok c' _ hco
  exact lam_key (s := { s2 with heap := h, toks := tk }) L (by have := hr.dp; show X.A.depth < _; omega) (kp _ _ hf) ⟨c', oc, vs, t', rfl, kp _ _ hoc, hdc, hvc⟩ (I2.nolimit.keeps kp) (hbind _ _ _ _) ((I2.mod.glob.keeps I2.bk).keeps kp) hml (n1.keeps kp) n2 (hl z hz)
end
end FG
namespace FG
open PySem PySem.Spec L2
/-! ## rules for the fonts -/
/-- a def whose code object's place is known -/
structure FunC (K : PySem.W.Frag) (x qual : Str) (st : Stmt) (f : Addr) (fd : FuncData) (c : Addr) : Prop where
  ex : ∃ (oc : Value) (od : Option Addr) (kV doc pm : Value) (an : Option Addr) (ct : Value) (osl : Array (Option Value)),
    fd = PySem.W.fnOf x qual (defArgs st) (defBody st) (defScope st) .none kV doc pm an (.ref c) ct ∧ K.lookup f = some ⟨oc, od, .func fd, osl⟩ ∧ PySem.W.codeIn K (.ref c) qual = true
section
variable {P : Program} {w : World} {K : PySem.W.Frag} {mg : Str → Option Value} {base : Heap}
theorem FunC.ok {x qual : Str} {st : Stmt} {f c : Addr} {fd : FuncData} {N ps : List Str} {k : Nat} {sp : Sp} (F : FunC K x qual st f fd c) (S : FnScope N ps (defScope st)) (len : ∀ vs H Q E, sp vs H Q E → vs.length = ps.length)
    (hbody : ∀ (A : Around) (outer : List Env) (s : Shared) (H : Hp) (vs : List V) (Q : VK) (E : XK), Room k (A.deeper (PyProof.Rows.envOfC qual (defScope st) s.heap.objs.size f (.ref c))) → sp vs H Q E →
      ∃ t, PSs (cxOf CX0 P w K mg base N qual (defScope st) f (.ref c) A outer s H E).nox (defBody st) t ∧ t { nx := fun _ H' => Q .non H', rt := Q } (start N vs) H) : FnOk P w K mg base CX0 (k + 1) f fd ps sp := by
  obtain ⟨oc, od, kV, doc, pm, an, ct, osl, rfl, lk, hcd⟩ := F.ex
  refine fn_of lk hcd S len fun A outer s H vs Q E hr hsp => ?_
  obtain ⟨t, h, q⟩ := hbody A outer s H vs Q E hr hsp
  exact ⟨t, h.nox, q⟩
end
/-- one of two derivations -/
def tOrS (t u : TS) : TS := fun D σ H => t D σ H ∨ u D σ H
def tOrE (t u : TE) : TE := fun σ H Q => t σ H Q ∨ u σ H Q
theorem ps_or {X : Cx} {st : Stmt} {t u : TS} (h1 : PS X st t) (h2 : PS X st u) : PS X st (tOrS t u) := ⟨fun pins s σ H D I h => h.elim (fun h => h1.run pins s σ H D I h) fun h => h2.run pins s σ H D I h⟩
theorem pe_or2 {X : Cx} {e : Expr} {t u : TE} (h1 : PE X e t) (h2 : PE X e u) : PE X e (tOrE t u) := ⟨fun pins s σ H Q I h => h.elim (fun h => h1.run pins s σ H Q I h) fun h => h2.run pins s σ H Q I h⟩
section
variable {X : Cx} {CX : CXT} {k : Nat} {C f : Addr} {fd : FuncData} {ps : List Str} {sp : Sp}
/-- y in o, y not in o by an own __contains__ that gives True or False -/
def rInO (C : Addr) (sp : Sp) (neg : Bool) : R2 := fun y x H Q => ∃ a dx fs, x = .ref a ∧ H a = some (.ins C dx fs) ∧ sp [.ref a, y] H (fun v H1 => ∃ b, v = .bl b ∧ Q (.bl (neg != b)) H1) E0
theorem op_inO (hs : PySem.W.findIn X.K (.ref C) "__contains__" = some (some (.ref f))) (hf : PySem.W.isFn X.K (.ref f) = true) (F : FnOk X.prog X.w X.K X.mg X.base CX0 k f fd ps sp) (hr : Room k X.A) (hb : Binds X.K fd ps []) : OpR X (compareOp .In) (rInO C sp false) := by
  intro pins s σ H y x u v Q I ry rx h
  obtain ⟨a, dx, fs, rfl, ea, q⟩ := h
  cases (show v = Value.ref a from rx)
  obtain ⟨mA, Ob, _⟩ := ins_get I.hok ea
  obtain ⟨od, J, _⟩ := Ob.look
  obtain ⟨m, fr⟩ := I.fr
  refine PySem.W.in_K fr I.ok.mod.kin J hs hf (thn (run_fn (us := [.ref a, u]) (vs := [.ref a, y]) F hr hb .nil pass0 I (.cons rfl (.cons ry .nil)) q) fun r s' z => ?_)
  obtain ⟨v, H1, I1, rv, b, rfl, q1⟩ := z
  cases rv
  refine wpAny_truthy_bool ⟨.bl b, H1, I1, rfl, ?_⟩
  rw [Bool.false_bne] at q1
  exact q1
theorem op_notInO (hs : PySem.W.findIn X.K (.ref C) "__contains__" = some (some (.ref f))) (hf : PySem.W.isFn X.K (.ref f) = true) (F : FnOk X.prog X.w X.K X.mg X.base CX0 k f fd ps sp) (hr : Room k X.A) (hb : Binds X.K fd ps []) : OpR X (compareOp .NotIn) (rInO C sp true) := by
  intro pins s σ H y x u v Q I ry rx h
  obtain ⟨a, dx, fs, rfl, ea, q⟩ := h
  cases (show v = Value.ref a from rx)
  obtain ⟨mA, Ob, _⟩ := ins_get I.hok ea
  obtain ⟨od, J, _⟩ := Ob.look
  obtain ⟨m, fr⟩ := I.fr
  refine PySem.W.notIn_K fr I.ok.mod.kin J hs hf (thn (run_fn (us := [.ref a, u]) (vs := [.ref a, y]) F hr hb .nil pass0 I (.cons rfl (.cons ry .nil)) q) fun r s' z => ?_)
  obtain ⟨v, H1, I1, rv, b, rfl, q1⟩ := z
  cases rv
  refine wpAny_truthy_bool ⟨.bl (!b), H1, I1, rfl, ?_⟩
  rw [Bool.true_bne] at q1
  exact q1
end
section
variable {X : Cx} {CX : CXT} {k n : Nat} {f C : Addr} {fd : FuncData} {ps ks : List Str} {sp : Sp} {E : L2.St → XK} {x : Str} {p pos : Pos} {e : Expr} {es : List Expr} {kws : List Keyword} {t tk : TA} {g : List Value → List Value → List Value} {gV : List V → List V → List V}
/-- C(.., k = v, ..), its __init__ may raise, wished for at the caller's slots -/
def tMkKS (C : Addr) (n m : Nat) (sp : Sp) (gV : List V → List V → List V) (E : L2.St → XK) (t tk : TA) : TE := fun σ H Q => t σ H fun vs H1 => tk σ H1 fun zs H2 => vs.length = n ∧ zs.length = m ∧ ∀ z dz, H2 z = none → H2 dz = none → dz ≠ z →
  sp (gV (.ref z :: vs) zs) (upd (upd H2 dz (.own z)) z (.ins C dz [])) (fun v H3 => v = .non ∧ Q (.ref z) H3) (E σ)
theorem mkKS_run {pins : List (Addr × Obj)} {σ : L2.St} {H : Hp} {s : Shared} {Q : VK} {us ws : List Value} {vs zs : List V} (M : Mk X.K C f) (F : FnOk X.prog X.w X.K X.mg X.base CX k f fd ps sp) (hr : Room (k + 1) X.A) (hb : KBn X.K fd ps (n + 1) ks g gV)
    (hx : PassesAt CX X σ (E σ)) (I : Inv X pins σ H s) (r : Vals vs us) (rz : Vals zs ws) (l1 : vs.length = n) (l2 : zs.length = ks.length)
    (h : ∀ z dz, H z = none → H dz = none → dz ≠ z → sp (gV (.ref z :: vs) zs) (upd (upd H dz (.own z)) z (.ins C dz [])) (fun v H2 => v = .non ∧ Q (.ref z) H2) (E σ)) :
    wpAny (model X.prog X.w) X.A (call (.ref C) us (ks.zip ws)) (EP X pins σ Q) X.xe s := by
  have J := Inv.made (C := C) I
  have q0 := h _ _ (I.hok.fresh (Nat.le_succ s.heap.objs.size)) (I.hok.fresh (Nat.le_refl _)) (Nat.ne_of_lt (Nat.lt_succ_self _))
  have rr : Vals (V.ref (s.heap.objs.size + 1) :: vs) (Value.ref (s.heap.objs.size + 1) :: us) := .cons rfl r
  have ln : (Value.ref (s.heap.objs.size + 1) :: us).length = n + 1 := rr.length.symm.trans (congrArg Nat.succ l1)
  have go := F.run _ X.stack _ _ ⟨Value.ref (s.heap.objs.size + 1) :: us, ks.zip ws⟩ _ _ _ (E σ) (hr.make C us (ks.zip ws)) (J.env0.make C us (ks.zip ws)) (hb.to _ _ ws J.kIn ln (rz.length.symm.trans l2)) (hb.rel rr rz) q0
  refine wpAny_call (make_map (f := f) I.kIn M.makes M.init (beq_iff_eq.mp M.fn) (codeAny_mono go fun res s' z => ?_))
  match res, z with
  | .error er, z => exact hx pins _ _ er s' J z
  | .ok (.ret u), z =>
    obtain ⟨v, H2, J2, rv, ev, q2⟩ := J.after z
    subst ev
    exact ⟨rv, ⟨V.ref (s.heap.objs.size + 1), H2, J2, rfl, q2⟩⟩
  | .ok .next, z => exact False.elim z
  | .ok .brk, z => exact False.elim z
  | .ok .cont, z => exact False.elim z
theorem pe_mkKS (M : Mk X.K C f) (F : FnOk X.prog X.w X.K X.mg X.base CX k f fd ps sp) (hr : Room (k + 1) X.A) (hg : Gl X x) (hm : X.mg x = some (.ref C)) (hb : KBn X.K fd ps (n + 1) ks g gV) (hx : ∀ σ, PassesAt CX X σ (E σ)) (ha : PA X (e :: es) t) (hkw : PK X kws tk)
    (hall : (backToKw pos (keywordEach kws X.env)).all (·.1.isSome) = true := by rfl) (hks : (backToKw pos (keywordEach kws X.env)).filterMap (·.1) = ks := by rfl) (hdb : (x == ("__debug__" : Str)) = false := by decide)
    (he : starEach (e :: es) X.env = (false, eval e X.env) :: starEach es X.env := by rfl) (hpl : ((backTo pos (starEach (e :: es) X.env)).any (·.1) || (backToKw pos (keywordEach kws X.env)).any (·.1.isNone)) = false := by rfl) :
    PE X (.Call (.Name x p) (e :: es) kws pos) (tMkKS C n ks.length sp gV E t tk) := by
  refine ⟨fun pins s σ H Q I h => wpAny_Call_Name_kw (ld_glob I hg hm ?_ hdb)⟩
  refine PySem.W.callWith_KW (h₀ := X.base) I.ok.mod.kin M.kp hall (thn (ha.run pos pins s σ H _ I h) fun us s1 ⟨vs, H1, I1, r, q⟩ => ?_) hpl he
  refine thn (hkw.run pos pins s1 σ H1 _ I1 q) fun ws s2 ⟨zs, H2, I2, rz, l1, l2, q2⟩ => ⟨I2.kIn, ?_⟩
  rw [hks]
  exact mkKS_run M F hr hb (hx σ) I2 r rz l1 l2 q2
end
section
variable {X : Cx} {k : Nat} {C f : Addr} {fd : FuncData} {ps : List Str} {sp : Sp}
/-- len(o) by an own __len__ -/
def rLenO (C : Addr) (sp : Sp) : List V → Hp → VK → Prop := fun xs H Q => ∃ a dx fs, xs = [.ref a] ∧ H a = some (.ins C dx fs) ∧ sp [.ref a] H (fun v H1 => ∃ n : Nat, v = .int n ∧ n < 2 ^ 62 ∧ Q (.int n) H1) E0
end
end FG
namespace FG
open PySem PySem.Spec L2
/-! ## stepping lemmas for dicts, texts, comprehensions, properties -/
/-- the turns of a comprehension -/
def LcW (J : It) (g : TG) (tt : TT) (te : TE) (vs : List Nat) (σ : L2.St) (Q : VK) (H1 : Hp) : Prop := ∀ D, H1 D = none → ∃ W : Nat → Nat → Hp → Prop, (∃ m, W 0 m (upd H1 D (.lst []))) ∧ ∀ i m H, W i m H →
  (J.stop i H ∧ Q (.ref D) H) ∨ (J.go i H ∧ ∃ Nx : Hp → Prop, (∀ H', Nx H' → ∃ m', m' < m ∧ W (i + 1) m' H') ∧ ∀ x H', J.yld i H x H' → g x (wipe σ vs) H' fun σ2 H2 => wipe σ2 vs = wipe σ vs ∧ tt σ2 H2 fun b H3 =>
    if b = true then te σ2 H3 fun y H4 => ∃ acc, H4 D = some (.lst acc) ∧ acc.length < sizeLine ∧ Nx (upd H4 D (.lst (acc ++ [y]))) else Nx H3)
/-- the turns of a for -/
def ForW (J : It) (g : TG) (tb : TS) (D : Ends) (σ : L2.St) (H : Hp) : Prop := ∃ W : Nat → Nat → L2.St → Hp → Prop, (∃ m, W 0 m σ H) ∧ ∀ i m σ H, W i m σ H →
  (J.stop i H ∧ D.nx σ H) ∨ (J.go i H ∧ ∃ N : L2.St → Hp → Prop, (∀ σ' H', N σ' H' → ∃ m', m' < m ∧ W (i + 1) m' σ' H') ∧ ∀ x H', J.yld i H x H' → g x σ H' fun σ2 H2 => tb { D with nx := N, ct := N, bk := D.nx } σ2 H2)
def rLeS : R2 := fun x y H Q => ∃ i j : Str, x = .str i ∧ y = .str j ∧ Q (.bl (!decide (j.cps.toList < i.cps.toList))) H
theorem qo_leS {X : Cx} : OpR X (compareOp .LtE) rLeS := op_le_str
section
variable {K : PySem.W.Frag} {σ σ' : L2.St} {H : Hp} {Q : VK} {D : Ends} {ta tb te tc td ty tx to : TE} {tt tu : TT} {t u : TS} {tar : TA} {v x y : V} {i : Nat} {g : TG} {wi : TI} {vs : List Nat} {QB : Bool → Hp → Prop} {QA : List V → Hp → Prop}
theorem w_lc (k : wi σ H fun J H1 => LcW J g tt te vs σ Q H1) : tLc wi g tt te vs σ H Q := k
theorem w_iL {R : It → Hp → Prop} (k : te σ H fun x H1 => ∃ a, x = .ref a ∧ (∃ xs, SqL K H1 a xs) ∧ R (Itl K a) H1) : iList K te σ H R := k
theorem w_iK {R : It → Hp → Prop} (k : te σ H fun x H1 => ∃ d o, x = .ref d ∧ ((∃ kvs, H1 d = some (.frz o (.dK kvs)) ∧ R (Itk d o kvs) H1) ∨ ∃ kvs, H1 d = some (.frz o (.dT kvs)) ∧ R (Itkt d o kvs) H1)) : iKeys te σ H R := k
theorem w_iS {R : It → Hp → Prop} (k : te σ H fun v H1 => ∃ x, v = .str x ∧ R (Its x) H1) : iStr te σ H R := k
theorem w_iT {R : It → Hp → Prop} (k : te σ H fun x H1 => ∃ a, x = .ref a ∧ (∃ xs, SqT K H1 a xs) ∧ R (Itt K a) H1) : iTup K te σ H R := k
theorem w_iR1 {R : It → Hp → Prop} (k : tar σ H fun vs H1 => ∃ j : Int, vs = [.int j] ∧ -(2 ^ 62) ≤ j ∧ j < 2 ^ 62 ∧ R (Itr 0 j.toNat) H1) : iRng1 tar σ H R := k
theorem w_for (k : wi σ H fun J H1 => ForW J g t D σ H1) : tFor wi g t D σ H := k
theorem w_dnew (k : ∀ p, H p = none → Q (.ref p) (upd H p (.dK []))) : tDNewK σ H Q := k
theorem w_dget (k : td σ H fun x H1 => ty σ H1 fun y H2 => ∃ a v, x = .ref a ∧ DGet H2 a y (some v) ∧ Q v H2) : tDGet td ty σ H Q := k
theorem w_din (k : ty σ H fun y H1 => td σ H1 fun x H2 => ∃ a o, x = .ref a ∧ DGet H2 a y o ∧ Q (.bl o.isSome) H2) : tDIn ty td σ H Q := k
theorem w_dnin (k : ty σ H fun y H1 => td σ H1 fun x H2 => ∃ a o, x = .ref a ∧ DGet H2 a y o ∧ Q (.bl (!o.isSome)) H2) : tDNotIn ty td σ H Q := k
theorem w_dput (k : tc σ H fun v H1 => td σ H1 fun x H2 => ty σ H2 fun y H3 => ∃ a H', x = .ref a ∧ DPut H3 a y v H' ∧ D.nx σ H') : sDPut td ty tc D σ H := k
theorem w_prop {C : Addr} {sp : Sp} {dvs : List V} {E : XK} (k : ta σ H fun x H1 => ∃ a dx fs, x = .ref a ∧ H1 a = some (.ins C dx fs) ∧ sp (.ref a :: dvs) H1 Q E) : tProp C sp dvs E ta σ H Q := k
theorem w_cval {f : Str} (k : ta σ H fun x H1 => ∃ C mc v u, x = .ref C ∧ ClX.CRead K C mc ∧ ClX.CVal K C mc f v u ∧ Q v H1) : ClX.tCVal K ta f σ H Q := k
theorem w_mtS {C : Addr} {m : Str} {sp : Sp} {dvs : List V} {E : L2.St → XK} (k : ta σ H fun y H1 => ∃ a dx fs, y = .ref a ∧ H1 a = some (.ins C dx fs) ∧ fs.lookup m = none ∧ tar σ H1 fun vs H2 => sp (.ref a :: (vs ++ dvs)) H2 Q (E σ)) : tMtS C m sp dvs E ta tar σ H Q := k
theorem w_mkKS {C : Addr} {n m : Nat} {sp : Sp} {gV : List V → List V → List V} {E : L2.St → XK} {tk : TA} (k : tar σ H fun vs H1 => tk σ H1 fun zs H2 => vs.length = n ∧ zs.length = m ∧ ∀ z dz, H2 z = none → H2 dz = none → dz ≠ z →
  sp (gV (.ref z :: vs) zs) (upd (upd H2 dz (.own z)) z (.ins C dz [])) (fun v H3 => v = .non ∧ Q (.ref z) H3) (E σ)) : tMkKS C n m sp gV E tar tk σ H Q := k
theorem w_bm {T : String} {r : V → List V → Hp → VK → Prop} (k : to σ H fun x H1 => tyV K T x H1 ∧ tar σ H1 fun xs H2 => r x xs H2 Q) : tBM K T r to tar σ H Q := k
theorem w_bm0 {T : String} {r : V → List V → Hp → VK → Prop} (k : to σ H fun x H1 => tyV K T x H1 ∧ r x [] H1 Q) : tBM0 K T r to σ H Q := k
theorem w_append {l : Addr} {xs : List V} {y : V} (h : H l = some (.lst xs)) (hl : xs.length < sizeLine) (k : Q .non (upd H l (.lst (xs ++ [y])))) : tyV K "list" (.ref l) H ∧ rAppend (.ref l) [y] H Q := ⟨.inl ⟨rfl, _, SqL.of h⟩, l, xs, y, rfl, rfl, h, hl, k⟩
theorem w_cat {l b : Addr} {xs zs : List V} (h1 : H l = some (.lst xs)) (h2 : H b = some (.lst zs)) (hl : xs.length + zs.length ≤ sizeLine) (k : ∀ p, H p = none → Q (.ref p) (upd H p (.lst (xs ++ zs)))) : rCat (.ref l) (.ref b) H Q := ⟨l, b, xs, zs, rfl, rfl, h1, h2, hl, k⟩
theorem w_lock {d : Addr} {o : HO} (h : H d = some o) (m : Mut (some o)) (k : ∀ od, t ⟨fun σ' H' => H' d = some (.frz od o) ∧ D.nx σ' (upd H' d o), fun v H' => H' d = some (.frz od o) ∧ D.rt v (upd H' d o), fun σ' H' => H' d = some (.frz od o) ∧ D.bk σ' (upd H' d o), fun σ' H' => H' d = some (.frz od o) ∧ D.ct σ' (upd H' d o)⟩ σ (upd H d (.frz od o))) : tLock t D σ H := ⟨d, o, h, m, k⟩
theorem w_lockE {d : Addr} {o : HO} (h : H d = some o) (m : Mut (some o)) (k : ∀ od, te σ (upd H d (.frz od o)) fun v H' => H' d = some (.frz od o) ∧ Q v (upd H' d o)) : tLockE te σ H Q := ⟨d, o, h, m, k⟩
theorem w_sortLam {P : Addr} {q : Str} (k : te σ H fun x H1 => ∃ (a : Addr) (ss : List Str), x = .ref a ∧ SqL K H1 a (ss.map V.str) ∧ (∀ z ∈ ss, z.length ≤ sizeLine) ∧ LamX.TabS H1 P q ∧
  ∀ H2, Ex H1 H2 → LamX.TabS H2 P q → ∀ p, H2 p = none → Q (.ref p) (upd H2 p (.lst ((ss.mergeSort rankLe).map V.str)))) : tSortLam K P q te σ H Q := k
theorem w_leS {i j : Str} (k : Q (.bl (!decide (j.cps.toList < i.cps.toList))) H) : rLeS (.str i) (.str j) H Q := ⟨i, j, rfl, rfl, k⟩
theorem w_inl (k : t D σ H) : tOrS t u D σ H := .inl k
theorem w_inr (k : u D σ H) : tOrS t u D σ H := .inr k
theorem w_inlE {t u : TE} (k : t σ H Q) : tOrE t u σ H Q := .inl k
theorem w_inrE {t u : TE} (k : u σ H Q) : tOrE t u σ H Q := .inr k
theorem w_ixS {z : Str} {k : Int} {c : Nat} (h : z.length ≤ sizeLine) (e : atI z.cps.toList k = some c) (q : Q (.str ⟨#[c]⟩) H) : rIxS (.str z) (.int k) H Q := ⟨z, k, c, rfl, rfl, h, e, q⟩
theorem w_slS {z : Str} {lo hi : Option Int} (h : z.length ≤ sizeLine) (k : Q (.str (cutS z lo hi)) H) : rSlS (.str z) lo hi H Q := ⟨z, rfl, h, k⟩
end
/-- the turns, by what holds between them -/
theorem turnsW {J : It} {n : Nat} {G : Hp → Prop} {Y : Nat → Hp → V → Hp → Prop} {g : TG} {tb : TS} {D : Ends} {σ : L2.St} {H : Hp} (w : L2.Walk J n G Y) (Pv : Nat → L2.St → Hp → Prop) (h0 : Pv 0 σ H) (hG : ∀ i σ H, i ≤ n → Pv i σ H → G H)
    (hs : ∀ i x σ H H', i < n → Pv i σ H → Y i H x H' → g x σ H' fun σ2 H2 => tb { D with nx := Pv (i + 1), ct := Pv (i + 1), bk := D.nx } σ2 H2) (hd : ∀ σ H, Pv n σ H → D.nx σ H) : ForW J g tb D σ H := for_it w Pv h0 hG hs hd
theorem lcsW {J : It} {n : Nat} {G : Hp → Prop} {Y : Nat → Hp → V → Hp → Prop} {g : TG} {tt : TT} {te : TE} {vs : List Nat} {σ : L2.St} {Q : VK} {H1 : Hp} (w : L2.Walk J n G Y) (Pv : Addr → Nat → Hp → Prop) (h0 : ∀ D, H1 D = none → Pv D 0 (upd H1 D (.lst []))) (hG : ∀ D i H, i ≤ n → Pv D i H → G H)
    (hs : ∀ D i x H H', i < n → Pv D i H → Y i H x H' → g x (wipe σ vs) H' fun σ2 H2 => wipe σ2 vs = wipe σ vs ∧ tt σ2 H2 fun b H3 =>
      if b = true then te σ2 H3 fun y H4 => ∃ acc, H4 D = some (.lst acc) ∧ acc.length < sizeLine ∧ Pv D (i + 1) (upd H4 D (.lst (acc ++ [y]))) else Pv D (i + 1) H3) (hd : ∀ D H, Pv D n H → Q (.ref D) H) : LcW J g tt te vs σ Q H1 :=
  fun D hD => lc_it w (Pv D) (h0 D hD) (hG D) (hs D) (hd D)
theorem upd_lock {H : Hp} {d D : Addr} {o x y : HO} (h : H d = some o) (n : D ≠ d) : upd (upd (upd H d x) D y) d o = upd H D y := by
  funext b
  unfold upd
  by_cases h1 : b = d
  · rw [if_pos h1, if_neg (by rw [h1]; exact Ne.symm n), h1, h]
  · rw [if_neg h1]
    by_cases h2 : b = D
    · rw [if_pos h2, if_pos h2]
    · rw [if_neg h2, if_neg h2, if_neg h1]
theorem upd_same_of {H : Hp} {d : Addr} {o : HO} (h : H d = some o) : upd H d o = H := by
  funext b
  unfold upd
  by_cases h1 : b = d
  · rw [if_pos h1, h1, h]
  · rw [if_neg h1]
/-! ### a text repeated -/
def repS (z : Str) (n : Nat) : Str := ⟨(List.replicate n z.cps.toList).flatten.toArray⟩
def rMulS : R2 := fun x y H Q => ∃ (z : Str) (n : Int), x = .str z ∧ y = .int n ∧ -(2 ^ 62) ≤ n ∧ n < 2 ^ 62 ∧ z.length * n.toNat ≤ sizeLine ∧ Q (.str (repS z n.toNat)) H
theorem rep_foldl (z : Str) : ∀ (n : Nat) (acc : Array Nat), ((List.replicate n z.cps).foldl (· ++ ·) acc).toList = acc.toList ++ (List.replicate n z.cps.toList).flatten
  | 0, acc => by simp
  | n + 1, acc => by
    rw [List.replicate_succ, List.foldl_cons, rep_foldl z n, List.replicate_succ, List.flatten_cons]
    simp
theorem op_mulS {X : Cx} : OpR X (binaryOp .Mult) rMulS := by
  intro pins s σ H x y v u Q I rx ry h
  obtain ⟨z, n, rfl, rfl, h1, h2, hl, q⟩ := h
  obtain ⟨t, rfl⟩ := rx
  obtain ⟨t2, rfl⟩ := ry
  have hs := line63
  refine PySem.P.mul_str (by rw [decide_eq_false (by omega), decide_eq_false (by omega)]; rfl) (fun a b => ?_) (fun a b => ?_) ?_
  · have hz : (z.length : Int) * n ≤ sizeLine := by
      have : ((z.length * n.toNat : Nat) : Int) ≤ sizeLine := by omega
      rw [Int.natCast_mul] at this
      rw [show ((n.toNat : Nat) : Int) = n from Int.toNat_of_nonneg (by omega)] at this
      exact this
    intro c
    have c2 : (2 ^ 63 - 1) / n + 1 ≤ (z.length : Int) := c
    have c3 := Int.lt_ediv_add_one_mul_self (2 ^ 63 - 1) (show 0 < n by omega)
    have c4 := Int.mul_le_mul_of_nonneg_right c2 (show 0 ≤ n by omega)
    omega
  · unfold Builtin.Str.tooLong
    simp
    omega
  · by_cases c1 : n < 1
    · rw [if_pos c1]
      have e : repS z n.toNat = Str.empty := by
        rw [show n.toNat = 0 by omega]
        rfl
      rw [e] at q
      exact ⟨by decide, .str Str.empty, H, I.tok _, ⟨_, rfl⟩, q⟩
    · rw [if_neg c1]
      by_cases c2 : (n == 1 || z.length == 0) = true
      · rw [if_pos c2]
        have e : repS z n.toNat = z := by
          rcases Bool.or_eq_true _ _ ▸ c2 with c | c
          · have : n = 1 := by simpa using c
            subst this
            show (⟨(List.replicate 1 z.cps.toList).flatten.toArray⟩ : Str) = z
            simp
          · have c0 : z.cps.toList = [] := by
              have : z.length = 0 := by simpa using c
              exact List.eq_nil_of_length_eq_zero (by simpa [Str.length] using this)
            unfold repS
            rw [c0]
            have : (List.replicate n.toNat ([] : List Nat)).flatten = [] := by simp
            rw [this]
            exact str_ext (by rw [c0])
        rw [e] at q
        exact ⟨.str z, H, I, ⟨_, rfl⟩, q⟩
      · rw [if_neg c2]
        have e : (⟨(List.replicate n.toNat z.cps).foldl (· ++ ·) #[]⟩ : Str) = repS z n.toNat := str_ext (by rw [rep_foldl]; simp [repS])
        rw [e]
        have hlen : (repS z n.toNat).length = n.toNat * z.length := by
          unfold repS Str.length
          simp
        exact ⟨by rw [hlen, Nat.mul_comm]; exact hl, .str _, H, I.tok _, ⟨_, rfl⟩, q⟩
end FG
namespace FG
open PySem PySem.Builtin
/-- digits in groups of three -/
def commas (d : List Nat) : List Nat :=
  if d.length > 6 then d.take (d.length - 6) ++ 44 :: ((d.drop (d.length - 6)).take 3 ++ 44 :: d.drop (d.length - 3))
  else if d.length > 3 then d.take (d.length - 3) ++ 44 :: d.drop (d.length - 3) else d
def digs (n : Nat) : List Nat := (Nat.toDigits 10 n).map (·.toNat)
def fmtD (d : List Nat) : Str := ⟨(List.replicate (9 - (commas d).length) 32 ++ commas d).toArray⟩
def padR (z : Str) : Str := ⟨(z.cps.toList ++ List.replicate (6 - z.length) 32).toArray⟩
theorem int_fmt (n : Nat) (t u : Tok) (h1 : 1 ≤ (Nat.toDigits 10 n).length) (h2 : (Nat.toDigits 10 n).length ≤ 7) : ∃ K : Option Nat → Sem PySem.Fin, «int.__format__» ⟨[.int n t, .str ">9," u], []⟩ = (overDigitLimit? n >>= K) ∧ K none = retStr (fmtD (digs n)) := by
  refine ⟨_, rfl, ?_⟩
  refine Eq.trans (b := retStr ?y) (by first | rfl | with_unfolding_all rfl) (congrArg retStr ?h)
  case h =>
    rw [decide_eq_false (show ¬ ((n : Int) < 0) by omega)]
    unfold digs
    conv => lhs; pattern Nat.toDigits _ _; change Nat.toDigits 10 n
    generalize Nat.toDigits 10 n = d at h1 h2 ⊢
    match d, h1, h2 with
    | [a], _, _ => kernel_rfl
    | [a, b], _, _ => kernel_rfl
    | [a, b, c], _, _ => kernel_rfl
    | [a, b, c, d], _, _ => kernel_rfl
    | [a, b, c, d, e], _, _ => kernel_rfl
    | [a, b, c, d, e, f], _, _ => kernel_rfl
    | [a, b, c, d, e, f, g], _, _ => kernel_rfl
    | _ :: _ :: _ :: _ :: _ :: _ :: _ :: _ :: _, _, h => simp at h
theorem str_fmt (z : Str) (t u : Tok) (h : z.length ≤ 6) : «str.__format__» ⟨[.str z t, .str "<6" u], []⟩ = (if z.length = 6 then (do rule "str.__format__.unchanged"; ret (.str z t)) else retStr (padR z)) := by
  obtain ⟨⟨l⟩⟩ := z
  match l, h with
  | [], _ => kernel_rfl
  | [_], _ => kernel_rfl
  | [_, _], _ => kernel_rfl
  | [_, _, _], _ => kernel_rfl
  | [_, _, _, _], _ => kernel_rfl
  | [_, _, _, _, _], _ => kernel_rfl
  | [_, _, _, _, _, _], _ => kernel_rfl
  | _ :: _ :: _ :: _ :: _ :: _ :: _ :: _, h => exact absurd h (by simp [Str.length])
section
variable {prog : Program} {w : World} {A : Around} {E : Value → Shared → Prop} {s : Shared}
theorem padR_six {z : Str} (h : z.length = 6) : padR z = z := str_ext (by
  unfold padR
  rw [h]
  simp)
theorem fmt6_run {z : Str} {t : Tok} {Q : Value → Shared → Prop} (h : z.length ≤ 6) (q : ∀ t' tk, Q (.str (padR z) t') { s with toks := tk }) : wpAny (model prog w) A (formatField (.str z t) "<6") Q E s := by
  have hz : (padR z).length ≤ sizeLine := by
    unfold padR Str.length at *
    have : sizeLine = 16777216 := by decide
    simp
    omega
  by_cases c : z.length = 6
  · show wpAny (model prog w) A (holding [.str z t] (pyFormat (.str z t) "<6")) Q E s
    refine wpAny_holding ?_
    unfold pyFormat
    refine wpAny_bind (wpAny_mkStr ?_ (by decide +kernel))
    have T0 : ∀ s' : Shared, s'.TypeIs (.str z t) "str" := fun s' => typeIs_str s' z t
    have g0 : Gives («str.__format__» ⟨[.str z t, .str "<6" s.toks], []⟩) (.val (.str z t)) := by
      rw [str_fmt z t _ h, if_pos c]
      exact Gives.rule (Gives.of_eq rfl)
    refine wpAny_bind (wpAny_callSpecial?_slot (name := Str.ofString "__format__") (T0 _) F.slot_str_format (call_gives F.slot_str_format (T0 _) F.entry_str_format (F.args_str_format_2 _ _) g0 ?_))
    have q' := q t (s.toks + 1)
    rw [padR_six c] at q'
    exact wpAny_bind (wpAny_isInstance (T := "str") (b := true) rfl isSubtype_str_str (wpAny_pure q'))
  · exact wpAny_formatField_spec (by decide +kernel) (fun s' => typeIs_str s' z t) F.slot_str_format F.entry_str_format F.args_str_format_2 (fun u => by rw [str_fmt z t u h, if_neg c]; exact Gives.of_eq rfl) (q _ _) (by decide +kernel) hz
theorem fmt9_run {n : Nat} {t : Tok} {Q : Value → Shared → Prop} (h1 : 1 ≤ (Nat.toDigits 10 n).length) (h2 : (Nat.toDigits 10 n).length ≤ 7) (q : ∀ t' tk, Q (.str (fmtD (digs n)) t') { s with toks := tk }) (hz : (fmtD (digs n)).length ≤ sizeLine) (hn : n < 2 ^ 64) : wpAny (model prog w) A (formatField (.int n t) ">9,") Q E s := by
  refine wpAny_formatField_spec (by decide +kernel) (fun s' => typeIs_int s' n t) F.slot_int_format F.entry_int_format F.args_int_format_2 (fun u => ?_) (q _ _) (by decide +kernel) hz
  obtain ⟨K, e1, e2⟩ := int_fmt n t u h1 h2
  rw [e1, PySem.overDigitLimit_small ?_]
  · show Gives (K none) _
    rw [e2]
    exact Gives.of_eq rfl
  · show n.log2 < 1920
    by_cases c : n = 0
    · rw [c]
      decide
    · exact Nat.lt_trans ((Nat.log2_lt c).mpr hn) (by decide)
end
open L2 PySem.Spec
section
variable {X : Cx}
/-- {e:<6} of a text -/
def tFmt6 (te : TE) : TE := fun σ H Q => te σ H fun x H1 => ∃ z : Str, x = .str z ∧ z.length ≤ 6 ∧ Q (.str (padR z)) H1
theorem pe_fmt6 {e : Expr} {te : TE} {pos p1 p2 : Pos} {k : Nat} (he : PE X e te) : PE X (.FormattedValue e (-1) (some (.JoinedStr [.Constant (.str "<6") k p1] p2)) pos) (tFmt6 te) := by
  refine ⟨fun pins s σ H Q I h => ?_⟩
  refine wpAny_FormattedValue_spec (thn (he.run pins s σ H _ I h) fun v s1 hv => ?_)
  obtain ⟨x, H1, I1, r1, z, rfl, hz, q⟩ := hv
  obtain ⟨t, rfl⟩ := r1
  refine wpAny_JoinedStr_one (Calls.Constant_str ⟨_, _, rfl, fmt6_run hz fun t' tk => ⟨.str (padR z), H1, I1.tok _, ⟨_, rfl⟩, q⟩⟩)
/-- {e:>9,} of an int from 0 to 1000000 -/
def tFmt9 (te : TE) : TE := fun σ H Q => te σ H fun x H1 => ∃ n : Nat, x = .int n ∧ n ≤ 1000000 ∧ Q (.str (fmtD (digs n))) H1
theorem commas_len {d : List Nat} (h : d.length ≤ 7) : (commas d).length ≤ 9 := by
  unfold commas
  split
  · simp
    omega
  · split
    · simp
      omega
    · omega
theorem toDigits_len {n : Nat} (h : n ≤ 1000000) : 1 ≤ (Nat.toDigits 10 n).length ∧ (Nat.toDigits 10 n).length ≤ 7 := by
  exact ⟨PySem.toDigits_len_ge 10 n, PySem.toDigits_len_pow (by decide) (by decide) (by omega)⟩
theorem pe_fmt9 {e : Expr} {te : TE} {pos p1 p2 : Pos} {k : Nat} (he : PE X e te) : PE X (.FormattedValue e (-1) (some (.JoinedStr [.Constant (.str ">9,") k p1] p2)) pos) (tFmt9 te) := by
  refine ⟨fun pins s σ H Q I h => ?_⟩
  refine wpAny_FormattedValue_spec (thn (he.run pins s σ H _ I h) fun v s1 hv => ?_)
  obtain ⟨x, H1, I1, r1, n, rfl, hn, q⟩ := hv
  obtain ⟨t, rfl⟩ := r1
  obtain ⟨l1, l2⟩ := toDigits_len hn
  have hz : (fmtD (digs n)).length ≤ sizeLine := by
    have c := commas_len (d := digs n) (by unfold digs; simp; exact l2)
    have : sizeLine = 16777216 := by decide
    unfold fmtD Str.length
    simp
    omega
  refine wpAny_JoinedStr_one (Calls.Constant_str ⟨_, _, rfl, fmt9_run l1 l2 (fun t' tk => ⟨.str (fmtD (digs n)), H1, I1.tok _, ⟨_, rfl⟩, q⟩) hz (by omega)⟩)
end
section
variable {σ : L2.St} {H : Hp} {Q : VK} {t te : TE} {ts : List TE} {acc : Str} {QS : Str → Hp → Prop} {QB : Bool → Hp → Prop}
theorem w_js (k : t σ H fun x H1 => ∃ y : Str, x = .str y ∧ (acc ++ y).length ≤ sizeLine ∧ tJs ts (acc ++ y) σ H1 QS) : tJs (t :: ts) acc σ H QS := k
theorem w_jsN (k : QS acc H) : tJs [] acc σ H QS := k
theorem w_yes (k : QB true H) : tYes σ H QB := k
theorem w_fmt6 (k : te σ H fun x H1 => ∃ z : Str, x = .str z ∧ z.length ≤ 6 ∧ Q (.str (padR z)) H1) : tFmt6 te σ H Q := k
theorem w_fmt9 (k : te σ H fun x H1 => ∃ n : Nat, x = .int n ∧ n ≤ 1000000 ∧ Q (.str (fmtD (digs n))) H1) : tFmt9 te σ H Q := k
end
end FG
namespace FG
open PySem PySem.Spec L2
/-! str(a), repr(a) of an own class, and a staticmethod called by its class -/
theorem units64b {k : Nat} {A : Around} (hr : Room k A) : A.in1.in1.units < cLine ∧ A.in1.units < cLine := by
  have h := hr.un
  constructor
  · show A.units + 1 + 1 < _
    omega
  · show A.units + 1 < _
    omega
section
variable {X : Cx} {C f p : Addr} {k : Nat} {fd : FuncData} {ps : List Str} {sp : Sp}
/-- a call that hands back a text -/
def rOwnT (C : Addr) (sp : Sp) : List V → Hp → VK → Prop := fun xs H Q => ∃ a dx fs, xs = [.ref a] ∧ H a = some (.ins C dx fs) ∧ sp [.ref a] H (fun v H' => ∃ z : Str, v = .str z ∧ Q v H') E0
theorem call_strO (hs : PySem.W.findIn X.K (.ref C) "__str__" = some (some (.ref f))) (hf : PySem.W.isFn X.K (.ref f) = true) (F : FnOk X.prog X.w X.K X.mg X.base CX0 k f fd ps sp) (hr : Room (k + 2) X.A) (hb : Binds X.K fd ps []) (hu : X.A.in1.in1.units < cLine ∧ X.A.in1.units < cLine) : CallR X (.type "str") (rOwnT C sp) := by
  intro pins s σ H xs us Q I r h
  obtain ⟨a, dx, fs, rfl, ea, q⟩ := h
  obtain ⟨u, rfl, r1⟩ := vals1 r
  cases (show u = Value.ref a from r1)
  obtain ⟨mA, Ob, _⟩ := ins_get I.hok ea
  obtain ⟨od, J, _⟩ := Ob.look
  have hl : ([Value.ref a] ++ ([] : List Value)).length = ps.length := by
    rw [← F.len _ _ _ _ q]
    rfl
  have go := F.run X.A.in1.in1 X.stack s H ⟨[.ref a], []⟩ [.ref a] [.ref a] _ E0 hr.in1.in1 I.env0.in1.in1 (hb _ [.ref a] I.kIn hl) (.cons rfl .nil) q
  refine PySem.W.kso_call hu.1 I.kIn J hs hf (wpAny_call (codeAny_mono go fun res s' z => ?_))
  match res, z with
  | .error er, z => exact z.elim
  | .ok (.ret u), z =>
    obtain ⟨v, H', I', rv, y, rfl, hq⟩ := I.after z
    obtain ⟨t, rfl⟩ := rv
    exact ⟨.str y, H', I', ⟨t, rfl⟩, hq⟩
  | .ok .next, z => exact False.elim z
  | .ok .brk, z => exact False.elim z
  | .ok .cont, z => exact False.elim z
theorem call_reprO (hs : PySem.W.findIn X.K (.ref C) "__repr__" = some (some (.ref f))) (hf : PySem.W.isFn X.K (.ref f) = true) (F : FnOk X.prog X.w X.K X.mg X.base CX0 k f fd ps sp) (hr : Room (k + 1) X.A) (hb : Binds X.K fd ps []) (hu : X.A.in1.in1.units < cLine ∧ X.A.in1.units < cLine) : CallR X (.builtin "repr") (rOwnT C sp) := by
  intro pins s σ H xs us Q I r h
  obtain ⟨a, dx, fs, rfl, ea, q⟩ := h
  obtain ⟨u, rfl, r1⟩ := vals1 r
  cases (show u = Value.ref a from r1)
  obtain ⟨mA, Ob, _⟩ := ins_get I.hok ea
  obtain ⟨od, J, _⟩ := Ob.look
  obtain ⟨m, fr⟩ := I.fr
  have hl : ([Value.ref a] ++ ([] : List Value)).length = ps.length := by
    rw [← F.len _ _ _ _ q]
    rfl
  have go := F.run X.A.in1 X.stack s H ⟨[.ref a], []⟩ [.ref a] [.ref a] _ E0 hr.in1 I.env0.in1 (hb _ [.ref a] I.kIn hl) (.cons rfl .nil) q
  refine PySem.W.repr_K hu.2 fr I.ok.mod.kin J hs hf (wpAny_call (codeAny_mono go fun res s' z => ?_))
  match res, z with
  | .error er, z => exact z.elim
  | .ok (.ret u), z =>
    obtain ⟨v, H', I', rv, y, rfl, hq⟩ := I.after z
    obtain ⟨t, rfl⟩ := rv
    exact ⟨.str y, H', I', ⟨t, rfl⟩, hq⟩
  | .ok .next, z => exact False.elim z
  | .ok .brk, z => exact False.elim z
  | .ok .cont, z => exact False.elim z
/-- C.m is a staticmethod: its record at p, its def at f -/
structure SMet (K : PySem.W.Frag) (C : Addr) (m : Str) (p f : Addr) : Prop where
  at_ : PySem.W.findCls K (.ref C) (.type "type") m = some (.get (.builtin "staticmethod.__get__") (.ref p) .none (.ref C))
  rc : ∃ rest, PySem.W.recIn K p "staticmethod" = some (.ref f :: rest)
def tSMeth (C : Addr) (sp : Sp) (E : L2.St → XK) (ta : TE) (t : TA) : TE := fun σ H Q => ta σ H fun x H1 => x = .ref C ∧ t σ H1 fun vs H2 => sp vs H2 Q (E σ)
theorem pe_smeth {CX : CXT} {o e : Expr} {es : List Expr} {m : Str} {pos apos : Pos} {ta : TE} {t : TA} {pl : Sem Bool} {E : L2.St → XK} (he : PE X o ta) (r : ClX.CRead X.K C (.type "type")) (c : SMet X.K C m p f)
    (F : FnOk X.prog X.w X.K X.mg X.base CX k f fd ps sp) (hr : Room k X.A) (hk : PySem.W.keepIn X.K (.ref f) = true) (hb : Binds X.K fd ps []) (hx : ∀ σ, PassesAt CX X σ (E σ)) (ha : PA X (e :: es) t)
    (hst : starEach (e :: es) X.env = (false, eval e X.env) :: starEach es X.env := by rfl) (hpl : (backTo pos (starEach es X.env)).any (·.1) = false := by rfl)
    (ht : eval (.Call (.Attribute o m apos) (e :: es) [] pos) X.env = (do
      let ov ← eval o X.env
      standAt apos.atName
      let (f, first) ← holding [ov] (getMethod ov m pl)
      callWith pos f first (backTo pos (starEach (e :: es) X.env)) (backToKw pos (keywordEach [] X.env))) := by rfl) :
    PE X (.Call (.Attribute o m apos) (e :: es) [] pos) (tSMeth C sp E ta t) := by
  refine ⟨fun pins s σ H Q I h => ?_⟩
  refine PySem.W.methodCall_KW (pl := pl) (thn (he.run pins s σ H _ I h) fun u s1 ⟨x, H1, I1, rx, ex, q⟩ => ?_) ht
  subst ex
  obtain rfl : u = Value.ref C := rx
  obtain ⟨rest, hp⟩ := c.rc
  refine PySem.W.method_cls I1.kIn r.ga (PySem.W.cls_bind I1.kIn r.rd c.at_ ?_)
  refine wpAny_call (PySem.W.sm_get (s := { s1 with toks := s1.toks + 1 }) I1.kIn hp (PySem.W.handed_on rfl ?_))
  refine PySem.W.callWith_K (h₀ := X.base) (first := []) I.ok.mod.kin hk (thn (ha.run pos pins _ σ H1 _ (I1.tok _) q) fun us s3 ⟨vs, H2, I3, rv, q2⟩ => ⟨I3.kIn, ?_⟩) hst hpl
  exact run_fnSD (dvs := []) F hr hb .nil (hx σ) I3 rv (by rw [List.append_nil]; exact q2)
end
section
variable {σ : L2.St} {H : Hp} {Q : VK}
theorem w_smeth {C : Addr} {sp : Sp} {E : L2.St → XK} {ta : TE} {t : TA} (k : ta σ H fun x H1 => x = .ref C ∧ t σ H1 fun vs H2 => sp vs H2 Q (E σ)) : tSMeth C sp E ta t σ H Q := k
end
end FG
namespace FG
open PySem PySem.Spec L2 SX
/-! whole numbers and ratios as texts (codes) -/
def intL (i : Int) : List Nat := if i < 0 then 45 :: TL.numL i.natAbs else TL.numL i.natAbs
theorem intL_neg {i : Int} (h : i < 0) : intL i = 45 :: TL.numL i.natAbs := if_pos h
theorem intL_pos {i : Int} (h : ¬ i < 0) : intL i = TL.numL i.natAbs := if_neg h
theorem intL_nat (n : Nat) : intL (n : Int) = TL.numL n := by
  rw [intL_pos (by omega)]
  rfl
theorem int_text (i : Int) : Str.ofString (toString i) = S (intL i) := by
  by_cases h : i < 0
  · rw [intL_neg h]
    match i, h with
    | .negSucc n, _ =>
      refine TL.ext_tl ?_
      show (Str.ofString (toString (Int.negSucc n))).cps.toList = _
      rw [PyProof.Rows.signs_ofString]
      show ("-" ++ Nat.repr (n + 1)).toList.map Char.toNat = 45 :: TL.numL (n + 1)
      rw [String.toList_append, List.map_append, Nat.toList_repr]
      rfl
  · rw [intL_pos h]
    obtain ⟨n, rfl⟩ := Int.eq_ofNat_of_zero_le (show 0 ≤ i by omega)
    exact num_S n
theorem dig_back : ∀ c : Nat, c < 58 → (Char.ofNat c).toNat = c := by decide
theorem num_back {cs : List Nat} (h : NumText.AllDigits cs) (hz : cs = [48] ∨ ∃ c r, cs = c :: r ∧ 49 ≤ c) : TL.numL (NumText.digitsVal cs) = cs := by
  rcases hz with rfl | ⟨c, r, e, hc⟩
  · decide +kernel
  · have q := NumText.toDigits_digitsVal r.length cs (by rw [e]; rfl) h (.inr ⟨c, r, e, hc⟩)
    unfold TL.numL
    rw [q, List.map_map]
    refine (List.map_congr_left fun d hd => ?_).trans (List.map_id _)
    have := h d hd
    exact dig_back d (by omega)
theorem numL_head : ∀ {n : Nat}, 1 ≤ n → ∃ c r, TL.numL n = c :: r ∧ 49 ≤ c := by
  intro n
  induction n using Nat.strongRecOn with
  | _ n ih =>
    intro h
    by_cases c : n < 10
    · exact ⟨48 + n, [], TL.numL_lt c, by omega⟩
    · obtain ⟨d, r, e, hd⟩ := ih (n / 10) (by omega) (by omega)
      exact ⟨d, r ++ [48 + n % 10], by rw [TL.numL_step (by omega), e]; rfl, hd⟩
/-- what is_numeral asks -/
def digB (l : List Nat) : Bool := l.all fun c => decide (48 ≤ c) && decide (c ≤ 57)
def isNum (l : List Nat) : Bool :=
  let d := if l.take 1 = [45] then l.drop 1 else l
  if d = [] ∨ digB d = false then false else if d.take 1 = [48] then decide (l = [48]) else true
theorem digB_iff {l : List Nat} : digB l = true ↔ NumText.AllDigits l := by
  unfold digB NumText.AllDigits
  rw [List.all_eq_true]
  exact ⟨fun h c hc => by simpa using h c hc, fun h c hc => by simpa using h c hc⟩
theorem isNum_intL (i : Int) : isNum (intL i) = true := by
  have key : ∀ n : Nat, 1 ≤ n → TL.numL n ≠ [] ∧ digB (TL.numL n) = true ∧ (TL.numL n).take 1 ≠ [48] ∧ (TL.numL n).take 1 ≠ [45] := fun n hn => by
    obtain ⟨c, r, e, hc⟩ := numL_head hn
    refine ⟨TL.numL_ne n, digB_iff.mpr (TL.numL_digits n), ?_, ?_⟩ <;> rw [e] <;> simp <;> omega
  by_cases h : i < 0
  · obtain ⟨h1, h2, h3, h4⟩ := key i.natAbs (by omega)
    rw [intL_neg h]
    unfold isNum
    simp [h1, h2, h3]
  · rw [intL_pos h]
    by_cases z : i.natAbs = 0
    · rw [z]
      decide +kernel
    · obtain ⟨h1, h2, h3, h4⟩ := key i.natAbs (by omega)
      unfold isNum
      simp [h1, h2, h3, h4]
theorem isNum_ex {l : List Nat} (h : isNum l = true) : ∃ i : Int, l = intL i := by
  unfold isNum at h
  by_cases c : l.take 1 = [45]
  · match l, c with
    | x :: d, c =>
      have hx : x = 45 := by simpa using c
      subst hx
      simp only [List.take_succ_cons, List.take_zero, if_true, List.drop_succ_cons, List.drop_zero] at h
      split at h
      · cases h
      · rename_i h1
        have h2 : d ≠ [] := fun z => h1 (.inl z)
        have h3 : digB d = true := by
          cases e : digB d with
          | true => rfl
          | false => exact absurd (.inr e) h1
        have hd := digB_iff.mp h3
        split at h
        · exact absurd (of_decide_eq_true h) (by simp)
        · rename_i h4
          match d, h2, h4, hd with
          | e :: r, _, h4, hd =>
            have he : 49 ≤ e := by
              have := hd e List.mem_cons_self
              have : e ≠ 48 := fun z => h4 (by simp [z])
              omega
            have hp := NumText.digitsVal_pos (cs := r) he
            refine ⟨-((NumText.digitsVal (e :: r) : Nat) : Int), ?_⟩
            rw [intL_neg (by omega), Int.natAbs_neg, Int.natAbs_natCast, num_back hd (.inr ⟨e, r, rfl, he⟩)]
  · rw [if_neg c] at h
    dsimp only at h
    split at h
    · cases h
    · rename_i h1
      have h2 : l ≠ [] := fun z => h1 (.inl z)
      have h3 : digB l = true := by
        cases e : digB l with
        | true => rfl
        | false => exact absurd (.inr e) h1
      have hd := digB_iff.mp h3
      refine ⟨((NumText.digitsVal l : Nat) : Int), ?_⟩
      rw [intL_nat, num_back hd]
      split at h
      · exact .inl (of_decide_eq_true h)
      · rename_i h4
        match l, h2, h4, hd with
        | e :: r, _, h4, hd =>
          have := hd e List.mem_cons_self
          have : e ≠ 48 := fun z => h4 (by simp [z])
          exact .inr ⟨e, r, rfl, by omega⟩
theorem intL_reads {i : Int} (h : (intL i).length ≤ 4300) : intText? (S (intL i)) = some i := by
  by_cases c : i < 0
  · rw [intL_neg c] at h ⊢
    have q := intText_neg (x := S (45 :: TL.numL i.natAbs)) rfl (TL.numL_digits _) (TL.numL_ne _) (by rw [S_len]; exact h)
    rw [q, TL.numL_val]
    congr 1
    omega
  · rw [intL_pos c] at h ⊢
    have q := intText_digits (x := S (TL.numL i.natAbs)) (TL.numL_digits _) (TL.numL_ne _) (by rw [S_len]; exact h)
    rw [q]
    show some ((NumText.digitsVal (TL.numL i.natAbs) : Nat) : Int) = _
    rw [TL.numL_val]
    congr 1
    omega
theorem intL_inj {i j : Int} (h : intL i = intL j) : i = j := by
  have key : ∀ n m : Nat, 45 :: TL.numL n ≠ TL.numL m := fun n m z => by
    have := TL.numL_digits m 45 (by rw [← z]; exact List.mem_cons_self)
    omega
  by_cases c : i < 0 <;> by_cases d : j < 0
  · rw [intL_neg c, intL_neg d] at h
    have := TL.numL_inj (List.cons.inj h).2
    omega
  · rw [intL_neg c, intL_pos d] at h
    exact absurd h (key _ _)
  · rw [intL_pos c, intL_neg d] at h
    exact absurd h.symm (key _ _)
  · rw [intL_pos c, intL_pos d] at h
    have := TL.numL_inj h
    omega
theorem intL_mem {i : Int} {c : Nat} (h : c ∈ intL i) : c = 45 ∨ (48 ≤ c ∧ c ≤ 57) := by
  unfold intL at h
  split at h
  · rcases List.mem_cons.mp h with h | h
    · exact .inl h
    · exact .inr (TL.numL_digits _ c h)
  · exact .inr (TL.numL_digits _ c h)
theorem intL_ne (i : Int) : intL i ≠ [] := by
  unfold intL
  split
  · simp
  · exact TL.numL_ne _
def ratL (t b : Int) : List Nat := if b = 1 then intL t else intL t ++ 47 :: intL b
theorem split1 : ∀ {p p' q q' : List Nat}, 47 ∉ p → 47 ∉ p' → p ++ 47 :: q = p' ++ 47 :: q' → p = p' ∧ q = q'
  | [], [], _, _, _, _, e => ⟨rfl, (List.cons.inj e).2⟩
  | [], c :: p', _, _, _, h2, e => absurd ((List.cons.inj e).1 ▸ List.mem_cons_self) h2
  | c :: p, [], _, _, h1, _, e => absurd ((List.cons.inj e).1 ▸ List.mem_cons_self) h1
  | c :: p, c' :: p', q, q', h1, h2, e => by
    obtain ⟨e1, e2⟩ := List.cons.inj e
    obtain ⟨r1, r2⟩ := split1 (fun z => h1 (List.mem_cons_of_mem _ z)) (fun z => h2 (List.mem_cons_of_mem _ z)) e2
    exact ⟨by rw [e1, r1], r2⟩
theorem intL_47 (i : Int) : 47 ∉ intL i := fun h => by
  have := intL_mem h
  omega
theorem rat_split {p q : List Nat} {t b : Int} (h : p ++ 47 :: q = ratL t b) (hp : 47 ∉ p) : p = intL t ∧ q = intL b ∧ b ≠ 1 := by
  unfold ratL at h
  split at h
  · exact absurd (h ▸ List.mem_append_right _ List.mem_cons_self) (intL_47 t)
  · rename_i c
    obtain ⟨h1, h2⟩ := split1 hp (intL_47 t) h
    exact ⟨h1, h2, c⟩
theorem rat_none {l : List Nat} {t b : Int} (h : l = ratL t b) (hl : 47 ∉ l) : b = 1 ∧ l = intL t := by
  unfold ratL at h
  split at h
  · rename_i c
    exact ⟨c, h⟩
  · exact absurd (h ▸ List.mem_append_right _ List.mem_cons_self) hl
/-- l is the text of the ratio t over b, in lowest terms -/
def RatOk (l : List Nat) (t b : Int) : Prop := 0 < b ∧ Int.gcd t b = 1 ∧ l = ratL t b
theorem rat_uniq {l : List Nat} {t b t' b' : Int} (h : l = ratL t b) (h' : l = ratL t' b') : t = t' ∧ b = b' := by
  by_cases c : 47 ∈ l
  · obtain ⟨p, q, e, hp⟩ := List.eq_append_cons_of_mem c
    subst e
    obtain ⟨h1, h2, _⟩ := rat_split h hp
    obtain ⟨h3, h4, _⟩ := rat_split h' hp
    exact ⟨intL_inj (h1.symm.trans h3), intL_inj (h2.symm.trans h4)⟩
  · obtain ⟨h1, h2⟩ := rat_none h c
    obtain ⟨h3, h4⟩ := rat_none h' c
    exact ⟨intL_inj (h2.symm.trans h4), h1.trans h3.symm⟩
theorem cut_head (l : List Nat) : cutS (S l) none (some 1) = S (l.take 1) := by
  cases l <;> rfl
theorem cut_tail (l : List Nat) : cutS (S l) (some 1) none = S (l.drop 1) := by
  refine TL.ext_tl ?_
  unfold cutS
  have e1 : HT.sIx (S l).length 0 (some 1) = min 1 l.length := by
    rw [S_len]
    unfold HT.sIx
    simp
  have e2 : HT.sIx (S l).length (S l).length none = l.length := by
    rw [S_len]
    unfold HT.sIx
    simp
  rw [e1, e2]
  cases l <;> simp
theorem low_flip {t b : Int} (h : b < 0) : lowT t b = lowT (-t) (-b) ∧ lowB t b = lowB (-t) (-b) := by
  have g : Int.gcd (-t) (-b) = Int.gcd t b := by rw [Int.neg_gcd, Int.gcd_neg]
  have e1 : sgn b (Int.gcd t b) = -((Int.gcd t b : Nat) : Int) := if_pos h
  have e2 : sgn (-b) (Int.gcd t b) = ((Int.gcd t b : Nat) : Int) := sgn_pos (by omega)
  unfold lowT lowB
  rw [g, e1, e2]
  have q1 := Int.neg_fdiv_neg (-t) ((Int.gcd t b : Nat) : Int)
  have q2 := Int.neg_fdiv_neg (-b) ((Int.gcd t b : Nat) : Int)
  rw [Int.neg_neg] at q1 q2
  exact ⟨q1, q2⟩
theorem low_ne {t b : Int} (h : b ≠ 0) : Low (lowT t b) (lowB t b) ∧ (lowT t b).natAbs ≤ t.natAbs ∧ (lowB t b).natAbs ≤ b.natAbs := by
  by_cases c : 0 < b
  · have l := low_low (t := t) c
    have q := low_bound (t := t) c
    have := l.pos
    exact ⟨l, q.1, by omega⟩
  · have f := low_flip (t := t) (show b < 0 by omega)
    rw [f.1, f.2]
    have l := low_low (t := -t) (show 0 < -b by omega)
    have q := low_bound (t := -t) (show 0 < -b by omega)
    have := l.pos
    exact ⟨l, by omega, by omega⟩
theorem numL_up : ∀ n : Nat, n < 10 ^ (TL.numL n).length := by
  intro n
  induction n using Nat.strongRecOn with
  | _ n ih =>
    by_cases c : n < 10
    · rw [TL.numL_lt c]
      exact c
    · rw [TL.numL_step (by omega), List.length_append, List.length_singleton, Nat.pow_succ]
      have := ih (n / 10) (by omega)
      omega
theorem intL_up {i : Int} {k : Nat} (h : (intL i).length ≤ k) : i.natAbs < 10 ^ k := by
  refine Nat.lt_of_lt_of_le (numL_up i.natAbs) (Nat.pow_le_pow_right (by decide) ?_)
  unfold intL at h
  split at h
  · rw [List.length_cons] at h
    omega
  · exact h
/-- what text.partition('/') gives, and what Ratio.read makes of it -/
theorem part_ok {l : List Nat} (asc : ∀ c ∈ l, c < 128) (len : l.length ≤ 100) : ∃ f sl g : List Nat, Txt.partition (S l) (Str.ofString "/") = (S f, S sl, S g) ∧ (∀ c ∈ f, c < 128) ∧ f.length ≤ 100 ∧
    (∀ c ∈ (if sl = [] then [49] else g), c < 128) ∧ (if sl = [] then [49] else g).length ≤ 100 ∧ ∀ t b, l = ratL t b → f = intL t ∧ (if sl = [] then [49] else g) = intL b := by
  rw [show Str.ofString "/" = S [47] from by decide +kernel]
  by_cases c : 47 ∈ l
  · obtain ⟨p, q, e, hp⟩ := List.eq_append_cons_of_mem c
    subst e
    refine ⟨p, [47], q, partition_some (by simp) (par_head (sep := []) q hp), fun c hc => asc c (List.mem_append_left _ hc), ?_, ?_, ?_, ?_⟩
    · rw [List.length_append] at len
      omega
    · rw [if_neg (by simp)]
      exact fun c hc => asc c (List.mem_append_right _ (List.mem_cons_of_mem _ hc))
    · rw [if_neg (by simp)]
      rw [List.length_append, List.length_cons] at len
      omega
    · rw [if_neg (by simp)]
      intro t b h
      obtain ⟨h1, h2, _⟩ := rat_split h hp
      exact ⟨h1, h2⟩
  · refine ⟨l, [], [], partition_none (by simp) (par_head_none (sep := []) c), asc, len, ?_, ?_, ?_⟩
    · rw [if_pos rfl]
      simp
    · rw [if_pos rfl]
      decide
    · rw [if_pos rfl]
      intro t b h
      obtain ⟨h1, h2⟩ := rat_none h c
      subst h1
      exact ⟨h2, by decide +kernel⟩
theorem val_zeros : ∀ z : Nat, NumText.digitsVal (49 :: List.replicate z 48) = 10 ^ z
  | 0 => rfl
  | z + 1 => by
    rw [List.replicate_succ', ← List.cons_append, NumText.digitsVal_snoc, val_zeros z, Nat.pow_succ]
    rfl
theorem all_rep {k d : Nat} (h : 48 ≤ d ∧ d ≤ 57) : NumText.AllDigits (List.replicate k d) := fun c hc => by
  rw [List.eq_of_mem_replicate hc]
  exact h
theorem val_nines (k : Nat) : NumText.digitsVal (List.replicate (k + 1) 57) % 10 = 9 := by
  rw [List.replicate_succ', NumText.digitsVal_snoc]
  omega
/-- the sign's codes -/
def sgL (neg : Bool) : List Nat := if neg then [45] else []
theorem sg_int {neg : Bool} {cs : List Nat} (h : NumText.AllDigits cs) {c : Nat} {r : List Nat} (e : cs = c :: r) (hc : 49 ≤ c) : sgL neg ++ cs = intL (if neg then -((NumText.digitsVal cs : Nat) : Int) else (NumText.digitsVal cs : Nat)) := by
  have hp : 0 < NumText.digitsVal cs := by
    rw [e]
    exact NumText.digitsVal_pos hc
  cases neg with
  | true =>
    show 45 :: cs = intL (-((NumText.digitsVal cs : Nat) : Int))
    rw [intL_neg (by omega), Int.natAbs_neg, Int.natAbs_natCast, num_back h (.inr ⟨c, r, e, hc⟩)]
  | false =>
    show cs = intL ((NumText.digitsVal cs : Nat) : Int)
    rw [intL_nat, num_back h (.inr ⟨c, r, e, hc⟩)]
theorem run_int (neg : Bool) {k d : Nat} (h : 49 ≤ d ∧ d ≤ 57) (hk : 1 ≤ k) : ∃ n : Int, sgL neg ++ List.replicate k d = intL n := by
  obtain ⟨j, rfl⟩ : ∃ j, k = j + 1 := ⟨k - 1, by omega⟩
  exact ⟨_, sg_int (all_rep ⟨by omega, h.2⟩) (c := d) (r := List.replicate j d) rfl h.1⟩
theorem both_int (neg : Bool) (z : Nat) {k : Nat} (hk : 1 ≤ k) : ∃ n m : Int, (sgL neg ++ [49]) ++ List.replicate z 48 = intL n ∧ List.replicate k 57 = intL m ∧ 1 < m ∧ Int.gcd n m = 1 := by
  obtain ⟨j, rfl⟩ : ∃ j, k = j + 1 := ⟨k - 1, by omega⟩
  have v9 := val_nines j
  have a1 : NumText.AllDigits (49 :: List.replicate z 48) := fun c hc => by
    rcases List.mem_cons.mp hc with hc | hc
    · omega
    · have := List.eq_of_mem_replicate hc
      omega
  have e1 := sg_int (neg := neg) a1 (c := 49) (r := List.replicate z 48) rfl (by omega)
  have e2 := sg_int (neg := false) (all_rep (k := j + 1) (d := 57) (by decide)) (c := 57) (r := List.replicate j 57) rfl (by omega)
  rw [val_zeros] at e1
  refine ⟨_, _, by rw [List.append_assoc]; exact e1, e2, ?_, ?_⟩
  · show (1 : Int) < ((NumText.digitsVal (List.replicate (j + 1) 57) : Nat) : Int)
    omega
  · show Int.gcd _ ((NumText.digitsVal (List.replicate (j + 1) 57) : Nat) : Int) = 1
    generalize NumText.digitsVal (List.replicate (j + 1) 57) = v at v9
    have g : Nat.gcd (10 ^ z) v = 1 := by
      refine Nat.Coprime.pow_left z ?_
      show Nat.gcd 10 v = 1
      rw [Nat.gcd_rec, v9]
      decide
    cases neg with
    | true =>
      show Int.gcd (-((10 ^ z : Nat) : Int)) (v : Int) = 1
      rw [Int.neg_gcd]
      exact g
    | false => exact g
theorem rep_S (c n : Nat) : repS (S [c]) n = S (List.replicate n c) := by
  unfold repS
  refine TL.ext_tl ?_
  show (List.replicate n [c]).flatten = List.replicate n c
  induction n with
  | zero => rfl
  | succ n ih => rw [List.replicate_succ, List.flatten_cons, ih]; rfl
end FG
namespace FG
open PySem PySem.Spec PyProof.Rows L2
/-! ## several clauses 'except X as n' -/
abbrev Suite := Addr → Value → Option Addr → TS
def asD (i : Nat) (D : Ends) : Ends := ⟨fun σ H => D.nx (σ.set i none) H, D.rt, fun σ H => D.bk (σ.set i none) H, fun σ H => D.ct (σ.set i none) H⟩
/-- what the clauses wish of what flies, one after the other -/
def wAll (K : PySem.W.Frag) (Wo : WX) (D : Ends) : List (Value × Nat × Suite) → WX
  | [] => Wo
  | q :: r => fun cls d σ H => ∃ b, PySem.W.exmOne K cls q.1 = some b ∧ (b = true → ∀ a, H a = none → q.2.2 a cls d (asD q.2.1 D) (σ.set q.2.1 (some (.ref a))) H) ∧ (b = false → wAll K Wo D r cls d σ H)
inductive Clauses (X : Cx) : List ExceptHandler → List (Value × Nat × Suite) → Prop
  | nil : Clauses X [] []
  | cons {x n : Str} {c : Value} {i : Nat} {ts : Suite} {st : Stmt} {sts : List Stmt} {p1 p2 : Pos} {hs : List ExceptHandler} {l : List (Value × Nat × Suite)} (nm : Names X x c) (sl : X.N[i]? = some n) (lo : X.env.kindOf n = some .local)
      (su : ∀ a oe cls d pn, Zc cls d oe → (∃ vs, oe.data = .fields vs) → PSs (X.suite a ((a, oe) :: pn)) (st :: sts) (ts a cls d)) (more : Clauses X hs l) : Clauses X (.ExceptHandler (some (.Name x p1)) (some n) (st :: sts) p2 :: hs) ((c, i, ts) :: l)
/-- what is known where the body's exception has landed in the frame of the try -/
structure Landed (X : Cx) (pins : List (Addr × Obj)) (σ : L2.St) (H : Hp) (cls : Value) (d : Option Addr) (a : Addr) (B : Heap) (sI s : Shared) : Prop where
  inv : Inv X pins σ H sI
  nb : ∀ b o, sI.heap.get? b = some o → b ∉ frs X.stack → B.get? b = some o
  up : sI.heap.UpToSlots s.heap
  na : H a = none
  os : s.os = sI.os
  ag : AllBare s.gens
  fl : HandSPX.FlyingZ B (X.env :: X.outer) a (Zc cls d) s.heap
section
variable {X : Cx} {pins : List (Addr × Obj)} {σ : L2.St} {H : Hp} {cls : Value} {d : Option Addr} {a : Addr} {B : Heap} {sI s : Shared}
theorem Landed.here (L : Landed X pins σ H cls d a B sI s) : Inv X pins σ H s := L.inv.landed L.nb L.fl.1 L.up L.os L.ag
theorem Landed.again (L : Landed X pins σ H cls d a B sI s) {h' : Heap} (fl : HandSPX.FlyingZ B (X.env :: X.outer) a (Zc cls d) h') (up : s.heap.UpToSlots h') : Landed X pins σ H cls d a B sI { s with heap := h' } := ⟨L.inv, L.nb, L.up.trans up, L.na, L.os, L.ag, fl⟩
theorem Landed.apart (L : Landed X pins σ H cls d a B sI s) (hf : X.env.frame = some X.env.locals) : a ≠ X.env.locals ∧ a ∉ X.fs := by
  obtain ⟨oe, vs, h1, _, h3⟩ := L.fl.there
  have no : a ∉ frs (X.env :: X.outer) := fun m => by
    obtain ⟨_, o', e', hn⟩ := L.fl.2.2.1.mem m
    exact hn vs (by rw [← Option.some.inj (h1.symm.trans e')]; exact h3)
  refine ⟨fun z => no (List.mem_filterMap.mpr ⟨X.env, .head _, hf.trans (congrArg some z.symm)⟩), fun m => ?_⟩
  obtain ⟨e, he, q⟩ := List.mem_filterMap.mp m
  exact no (List.mem_filterMap.mpr ⟨e, .tail _ he, q⟩)
theorem Landed.suite (L : Landed X pins σ H cls d a B sI s) (hf : X.env.frame = some X.env.locals) : ∃ oe vs, s.heap.get? a = some oe ∧ Zc cls d oe ∧ oe.data = .fields vs ∧ Inv (X.suite a ((a, oe) :: (X.pn ++ pins))) [] σ H s := by
  obtain ⟨oe, vs, h1, h2, h3⟩ := L.fl.there
  obtain ⟨n1, n2⟩ := L.apart hf
  exact ⟨oe, vs, h1, h2, h3, L.here.suite h1 h3 L.na n1 n2⟩
theorem names_run {x : Str} {c : Value} {p1 : Pos} {pn : List (Addr × Obj)} {Q E : Value → Shared → Prop} (nm : Names X x c) (S : Inv (X.suite a pn) [] σ H s) (q : Q c s) : wpAny (model X.prog X.w) (X.A.mark (some (.ref a))) (eval (.Name x p1) X.env) Q E s := by
  obtain ⟨g, nd, h | ⟨h, hb, hn⟩⟩ := nm
  · exact ld_glob (X := X.suite a pn) S g h q nd
  · exact ld_blt (X := X.suite a pn) S g h hb q hn nd
/-- behind the suite the name goes -/
theorem suite_end {n : Str} {i : Nat} {p2 : Pos} {D : Ends} {oe : Obj} {f : Flow} {s6 : Shared} (ok : X.Ok) (nd : X.N.Nodup) (sl : X.N[i]? = some n) (lo : X.env.kindOf n = some .local)
    (h : SP (X.suite a ((a, oe) :: (X.pn ++ pins))) [] (asD i D) f s6) : wpAny (model X.prog X.w) X.A (do bindName X.env n .none; unbindBehindTheSuite X.env n p2) (fun _ s7 => SP X pins D f s7) X.xe s6 := by
  cases f with
  | ret u =>
    obtain ⟨v, σ6, H6, S6, r6, q6⟩ := h
    exact gone_ok (S6.unsuite ok) nd sl lo fun _ J => ⟨v, _, _, J, r6, q6⟩
  | next | brk | cont =>
    obtain ⟨σ6, H6, S6, q6⟩ := h
    exact gone_ok (S6.unsuite ok) nd sl lo fun _ J => ⟨_, _, J, q6⟩
/-- nobody names it: it flies on -/
theorem none_names {Wo : WX} {D : Ends} (L : Landed X pins σ H cls d a B sI s) (hs : X.stack = X.env :: X.outer) (hf : X.env.frame = some X.env.locals) (tk : Takes X Wo) (w : Wo cls d σ H) : wpAny (model X.prog X.w) X.A (handleBy (.ref a) X.env []) (SP X pins D) X.xe s := by
  have fin : wpAny (model X.prog X.w) X.A (setFlight (.ref a) X.env.frame) (fun _ s4 => wpAny (model X.prog X.w) X.A (throw (.ref a) : Sem Flow) (SP X pins D) X.xe s4) X.xe s := by
    rw [hf]
    exact HandSPX.setFlight_upZ L.fl fun h4 hh up => wpAny_throw (tk _ _ ⟨a, B, sI, pins, σ, H, cls, d, rfl, L.inv, L.nb, L.up.trans up, .inr (.inr (by rw [hs]; exact hh)), L.na, L.os, L.ag, w⟩)
  obtain ⟨_, _, _, oe, vs, t, ot, ts, he, hz, hd, h1, hr⟩ := id L.fl
  refine wpAny_handleBy_nil ?_
  unfold PySem.passOn
  refine wpAny_bind (wpAny_field he hd h1 ?_)
  rw [if_neg (by simp)]
  first
    | exact wpAny_bind fin
    | exact wpAny_bind (wpAny_pure (wpAny_bind fin))
theorem clauses_run {Wo : WX} {D : Ends} (L : Landed X pins σ H cls d a B sI s) (hs : X.stack = X.env :: X.outer) (hf : X.env.frame = some X.env.locals) (nd : X.N.Nodup) (tk : Takes X Wo) {hds : List ExceptHandler} {l : List (Value × Nat × Suite)} (hc : Clauses X hds l)
    (w : wAll X.K Wo D l cls d σ H) : wpAny (model X.prog X.w) X.A (handleBy (.ref a) X.env hds) (SP X pins D) X.xe s := by
  induction hc with
  | nil => exact none_names L hs hf tk w
  | @cons x n c i ts st sts p1 p2 hs' l' nm sl lo su more ih =>
    obtain ⟨b, e, yes, no⟩ := w
    obtain ⟨oe, vs, g1, g2, g3, S⟩ := L.suite hf
    have ty : PySem.W.Looks (model X.prog X.w) s.heap (typeOf (.ref a)) cls := fun _ _ _ _ k q => wpAny_typeOf_ref (k _ _ g1) (by rw [g2.1]; exact q)
    refine wpAny_handleBy_cons (codeAny_handlers_test (names_run nm S ((PySem.W.exm_one (M := model X.prog X.w) L.here.kIn ty e).here ?_))) (fun z => by cases z)
    cases b with
    | false => exact ih (no rfl)
    | true =>
      refine codeAny_handlers_suite_as (HandSPX.lands_againZ L.fl fun h4 fl4 up4 => ?_)
      obtain ⟨oe4, vs4, k1, k2, k3, S4⟩ := (L.again fl4 up4).suite hf
      refine store_ok (X := X.suite a ((a, oe4) :: (X.pn ++ pins))) (v := .ref a) S4 nd sl (.inl lo) rfl (fun s5 S5 => ?_) (.inr lo)
      exact wpAny_mono ((su a oe4 cls d _ k2 ⟨_, k3⟩).run [] s5 _ H _ S5 (yes rfl a L.na)) (fun f s6 z => suite_end L.inv.ok nd sl lo z) fun _ _ z => False.elim z
end
theorem ps_tryA {X : Cx} {body : List Stmt} {h0 : ExceptHandler} {hds : List ExceptHandler} {l : List (Value × Nat × Suite)} {pos : Pos} {tb : WX → TS} {Wo : WX} (hs : X.stack = X.env :: X.outer) (hf : X.env.frame = some X.env.locals) (nd : X.N.Nodup) (tk : Takes X Wo)
    (hb : ∀ (W : WX) (pn : List (Addr × Obj)) (xe : Value → Shared → Prop), Takes (X.tr pn xe) W → PassesOwn (model X.prog X.w) X.A X.env xe → PSs (X.tr pn xe) body (tb W)) (hc : Clauses X (h0 :: hds) l) :
    PS X (.Try body (h0 :: hds) [] [] pos) (fun D σ H => tb (wAll X.K Wo D l) D σ H) := by
  refine ⟨fun pins s σ H D I h => wpAny_Try_except (wpAny_mono ((hb (wAll X.K Wo D l) (X.pn ++ pins) _ (fun u s' xx => ?_) PassesOwn.looking).run [] s σ H D (I.toTry _) h) (fun f s1 z => ?_) fun _ _ z => z)⟩
  · obtain ⟨a, B, sI, _, σ1, H1, cls, d, rfl, J, nb, up, sky, na, os, ag, w⟩ := xx
    have sky' : Sky B (X.env :: X.outer) a (Zc cls d) X.env.locals s'.heap := by rw [← hs]; exact sky
    exact Sky.land Zc.steady (by rw [I.ok.frames, hs]) hf sky' fun h3 fl3 up3 => clauses_run (s := { s' with heap := h3 }) ⟨J.ofTry I.ok, nb, up.trans up3, na, os, ag, fl3⟩ hs hf nd tk hc w
  · cases f with
    | ret u =>
      obtain ⟨v, σ1, H1, J, r, q⟩ := z
      exact ⟨v, σ1, H1, J.ofTry I.ok, r, q⟩
    | next =>
      obtain ⟨σ1, H1, J, q⟩ := z
      exact wpAny_execs_nil ⟨σ1, H1, J.ofTry I.ok, q⟩
    | brk | cont =>
      obtain ⟨σ1, H1, J, q⟩ := z
      exact ⟨σ1, H1, J.ofTry I.ok, q⟩
/-! ## own errors held as values -/
/-- an own error at a, its class cls, its dict d -/
def EvO (cls : Value) (d a : Addr) : HO := .ext fun h => ∃ (oe : Obj) (vs : Array Value), h.get? a = some oe ∧ Zc cls (some d) oe ∧ oe.data = .fields vs
theorem evO_ok {P : Program} {w : World} {H : Hp} {h : Heap} {a d : Addr} {cls : Value} {oe : Obj} {vs : Array Value} (e : h.get? a = some oe) (z : Zc cls (some d) oe) (q : oe.data = .fields vs) : ObjOk P w H h a (EvO cls d a) :=
  ⟨⟨oe, vs, e, z, q⟩, ⟨oe, e⟩, fun _ _ ⟨o, v, x, r⟩ k => ⟨o, v, k o x, r⟩⟩
section
variable {X : Cx} {nm qn f f2 msg : Str} {ps : Arguments} {bd : List Stmt} {sc : Scope} {C fI cc cda : Addr} {a a2 : Expr} {p pos : Pos} {k : Nat}
theorem val_of {pins : List (Addr × Obj)} {σ : L2.St} {H1 : Hp} {Q : VK} {hp h' : Heap} {g : Array GenState} {dr : Drawn} {tk tk' : Nat} {os : OsState} {e d : Addr} {m : Str → Option Value} {fs : List (Str × V)}
    (I : Inv X pins σ H1 ⟨hp, g, dr, tk, os⟩) (M : Made hp h' e C d m) (rel : ∀ y, RelO (fs.lookup y) (m y))
    (q : ∀ e d, H1 e = none → H1 d = none → e ≠ d → Q (.ref e) (upd (upd H1 d (.xd fs)) e (EvO (.ref C) d e))) : EP X pins σ Q (.ref e) ⟨h', g, dr, tk', os⟩ := by
  obtain ⟨oe, fv, hoe, hc, hd, hdat, _⟩ := M.obj
  obtain ⟨G, g1, g2⟩ := restrict h' fun b => decide (b ≠ e)
  have gk : ∀ b, b ≠ e → G.get? b = h'.get? b := fun b hb => g1 b (decide_eq_true hb)
  have ge : G.get? e = none := g2 e (by simp)
  have J : Inv X pins σ (upd H1 d (.xd fs)) ⟨G, g, dr, tk', os⟩ := I.laid (t' := tk') (fun b o z => (gk b (Nat.ne_of_lt (Nat.lt_of_lt_of_le (Heap.lt_size z) M.new))).trans (M.keep b o z)) M.dbig ⟨_, M.ns.at (fun o z => (gk d M.dne).trans z), rel⟩
  have n1 : H1 e = none := I.hok.fresh M.new
  have n2 : upd H1 d (.xd fs) e = none := (upd_ne (Ne.symm M.dne)).trans n1
  have up : ∀ b o, G.get? b = some o → h'.get? b = some o := fun b o z => by
    by_cases hb : b = e
    · rw [hb, ge] at z
      cases z
    · rw [← gk b hb]
      exact z
  exact ⟨.ref e, _, J.laidN (t' := tk') up ge n2 (evO_ok hoe ⟨hc, hd⟩ hdat), rfl, q e d n1 (I.hok.fresh M.dbig) (Ne.symm M.dne)⟩
/-- C(e, ..) as a value -/
def tMkV1 (C : Addr) (f : Str) (ta : TA) : TE := fun σ H Q => ta σ H fun vs H1 => ∃ v, vs = [v] ∧ ∀ e d, H1 e = none → H1 d = none → e ≠ d → Q (.ref e) (upd (upd H1 d (.xd [(f, v)])) e (EvO (.ref C) d e))
def tMkV2 (C : Addr) (f f2 : Str) (ta : TA) : TE := fun σ H Q => ta σ H fun vs H1 => ∃ v v2, vs = [v, v2] ∧ ∀ e d, H1 e = none → H1 d = none → e ≠ d → Q (.ref e) (upd (upd H1 d (.xd [(f, v), (f2, v2)])) e (EvO (.ref C) d e))
theorem pev1 {as : List Expr} {ta : TA} (T : ErrC X.prog X.K X.mg nm qn ps bd sc C fI cc cda) (Y : Txt1 qn f msg ps bd sc) (no : PySem.W.findIn X.K (.ref C) f = some none) (hr : Room k X.A) (ha : PA X (a :: as) ta) (hg : Gl X nm := by rfl) (hdb : (nm == ("__debug__" : Str)) = false := by decide)
    (he : starEach (a :: as) X.env = (false, eval a X.env) :: starEach as X.env := by rfl) (hpl : (backTo pos (starEach as X.env)).any (·.1) = false := by rfl) : PE X (.Call (.Name nm p) (a :: as) [] pos) (tMkV1 C f ta) := by
  refine ⟨fun pins s σ H Q I h => wpAny_Call_Name_kw (ld_glob I hg T.gC (PySem.W.callWith_K (h₀ := X.base) I.ok.mod.kin T.kC (thn (ha.run pos pins s σ H _ I h) fun us s1 ⟨vs, H1, I1, r1, v, ev, q1⟩ => ⟨I1.kIn, ?_⟩) he hpl) hdb)⟩
  subst ev
  have Nm := names_of I1
  have lim := I1.nolimit
  have KI := I1.kIn
  cases r1 with
  | @cons _ u1 _ ur rv rn =>
    cases rn
    obtain ⟨hp, g, dr, tk, os⟩ := s1
    exact wpAny_call (made_of (m := fun y => if y = f then some u1 else none) T KI lim Nm (ve_len _) (fun A' hp' x t0 R' x1 x2 x3 x4 x5 x6 x7 => init1 T Y no x1 x2 x3 x4 x5 x6 x7) (by have := hr.dp; omega) fun h' tk' e d M => val_of I1 M (relO1 rv) q1)
theorem pev2 {as : List Expr} {ta : TA} (T : ErrC X.prog X.K X.mg nm qn ps bd sc C fI cc cda) (Y : Txt2 qn f f2 msg ps bd sc) (no : PySem.W.findIn X.K (.ref C) f = some none) (no2 : PySem.W.findIn X.K (.ref C) f2 = some none) (hr : Room k X.A) (ha : PA X (a :: as) ta) (hg : Gl X nm := by rfl) (hdb : (nm == ("__debug__" : Str)) = false := by decide)
    (he : starEach (a :: as) X.env = (false, eval a X.env) :: starEach as X.env := by rfl) (hpl : (backTo pos (starEach as X.env)).any (·.1) = false := by rfl) : PE X (.Call (.Name nm p) (a :: as) [] pos) (tMkV2 C f f2 ta) := by
  refine ⟨fun pins s σ H Q I h => wpAny_Call_Name_kw (ld_glob I hg T.gC (PySem.W.callWith_K (h₀ := X.base) I.ok.mod.kin T.kC (thn (ha.run pos pins s σ H _ I h) fun us s1 ⟨vs, H1, I1, r1, v, v2, ev, q1⟩ => ⟨I1.kIn, ?_⟩) he hpl) hdb)⟩
  subst ev
  have Nm := names_of I1
  have lim := I1.nolimit
  have KI := I1.kIn
  cases r1 with
  | @cons _ u1 _ ur rv rn =>
    cases rn with
    | @cons _ u2 _ ur2 rv2 rn2 =>
      cases rn2
      obtain ⟨hp, g, dr, tk, os⟩ := s1
      exact wpAny_call (made_of (m := fun y => if y = f2 then some u2 else if y = f then some u1 else none) T KI lim Nm (two_len _ _) (fun A' hp' x t0 R' x1 x2 x3 x4 x5 x6 x7 => init2 T Y no no2 x1 x2 x3 x4 x5 x6 x7) (by have := hr.dp; omega) fun h' tk' e d M => val_of I1 M (relO2 Y.nff rv rv2) q1)
/-- isinstance(e, c), e such an error -/
def rIsV (K : PySem.W.Frag) : List V → Hp → VK → Prop := fun xs H Q => ∃ (a : Addr) (c : V) (cv : Value) (D dd : Addr) (fs : List (Str × V)) (b : Bool), xs = [.ref a, c] ∧ ClsV c cv ∧ H a = some (EvO (.ref D) dd a) ∧ ExcC K D ∧ H dd = some (.xd fs) ∧ PySem.W.kitOne K (.ref D) cv = some b ∧ Q (.bl b) H
theorem call_isV : CallR X (.builtin "isinstance") (rIsV X.K) := by
  intro pins s σ H xs us Q I r h
  obtain ⟨a, c, cv, D, dd, fs, b, rfl, hc, ea, C, hx, e, q⟩ := h
  obtain ⟨u1, u2, rfl, r1, r2⟩ := vals2 r
  cases (show u1 = Value.ref a from r1)
  have e2 := hc.eq r2
  subst e2
  obtain ⟨⟨oe, vs, hget, hz, hv⟩, _, _⟩ := I.hok a _ ea
  obtain ⟨mA, hns, _⟩ := (show ObjOk X.prog X.w H s.heap dd (.xd fs) from I.hok dd _ hx)
  obtain ⟨od, ho, _⟩ := lookIn_ns hns
  have J : PySem.W.InstAt s.heap a oe D (some od) := ⟨hget, hz.1, by unfold PySem.W.notCls; rw [hv] <;> rfl, by rw [hz.2]; exact ho⟩
  obtain ⟨cd, hcd, _⟩ := PySem.W.any_some C.hd
  have Z : PySem.W.KitX X.K (.ref a) (.ref D) (fun h => PySem.W.InstAt h a oe D (some od)) := PySem.W.kitx_exc (by rw [hcd]; rfl) C.hg C.hk C.hs C.ha C.hn C.ht C.hm
  exact PySem.W.kia_one Z I.kIn J e (fun z => nomatch z) fun tk => ⟨.bl b, H, I.kept (t' := tk) fun _ _ z => z, rfl, q⟩
/-- isinstance(e, c), e the error that the suite holds, without a dict -/
def rIsN (K : PySem.W.Frag) (a : Addr) (cls : Value) (d : Option Addr) : List V → Hp → VK → Prop := fun xs H Q => ∃ (c : V) (cv : Value) (D : Addr) (b : Bool), xs = [.ref a, c] ∧ ClsV c cv ∧ cls = .ref D ∧ ExcC K D ∧ d = none ∧ PySem.W.kitOne K (.ref D) cv = some b ∧ Q (.bl b) H
theorem call_isN {a : Addr} {cls : Value} {d : Option Addr} {oe : Obj} {pn : List (Addr × Obj)} (hz : Zc cls d oe) (hf : ∃ vs, oe.data = .fields vs) : CallR (X.suite a ((a, oe) :: pn)) (.builtin "isinstance") (rIsN X.K a cls d) := by
  intro pins s σ H xs us Q I r h
  obtain ⟨c, cv, D, b, rfl, hc, rfl, C, rfl, e, q⟩ := h
  exact call_isE C hz hf pins s σ H _ us Q I r ⟨c, cv, b, rfl, fun u ru => (hc.eq ru).symm ▸ rfl, e, q⟩
end
section
variable {K : PySem.W.Frag} {σ : L2.St} {H : Hp} {Q : VK} {ta tb : TE} {C : Addr} {f f2 : Str}
theorem w_mkV1 (k : ta σ H fun x H1 => ∃ v, [x] = [v] ∧ ∀ e d, H1 e = none → H1 d = none → e ≠ d → Q (.ref e) (upd (upd H1 d (.xd [(f, v)])) e (EvO (.ref C) d e))) : tMkV1 C f (tCons ta tNil) σ H Q := k
theorem w_mkV2 (k : ta σ H fun x H1 => tb σ H1 fun y H2 => ∃ v v2, [x, y] = [v, v2] ∧ ∀ e d, H2 e = none → H2 d = none → e ≠ d → Q (.ref e) (upd (upd H2 d (.xd [(f, v), (f2, v2)])) e (EvO (.ref C) d e))) : tMkV2 C f f2 (tCons ta (tCons tb tNil)) σ H Q := k
end
end FG
namespace FG
open PySem PySem.Spec PyProof.Rows L2
/-! ## defs that are called anywhere, also while an exception is handled; they let nothing out -/
/-- the context of such a def's body -/
abbrev cxA (P : Program) (w : World) (K : PySem.W.Frag) (mg : Str → Option Value) (base : Heap) (N : List Str) (qual : Str) (scope : Scope) (f : Addr) (cd : Value) (A : Around) (outer : List Env) (s : Shared) (H : Hp) : Cx :=
  { (cxOf CX0 P w K mg base N qual scope f cd A outer s H E0).nox with calm := false }
structure FnA (P : Program) (w : World) (K : PySem.W.Frag) (mg : Str → Option Value) (base : Heap) (k : Nat) (f : Addr) (fd : FuncData) (ps : List Str) (sp : Sp) : Prop where
  len : ∀ vs H Q, sp vs H Q E0 → vs.length = ps.length
  run : ∀ (A : Around) (outer : List Env) (s : Shared) (H : Hp) (args : Args) (us : List Value) (vs : List V) (Q : VK), L2H.RoomH k A → Env0 P w K mg base A outer s H → BindsTo s fd args (ps.zip us) → Vals vs us → sp vs H Q E0 →
    codeAny (model P w) A (.call (.ref f) args) (CR CX0 outer P w H s Q E0) s
section
variable {P : Program} {w : World} {K : PySem.W.Frag} {mg : Str → Option Value} {base : Heap} {f : Addr} {N ps : List Str} {sp : Sp} {k : Nat}
theorem inv_startA {qual : Str} {scope : Scope} {cd : Value} {A : Around} {outer : List Env} {s s1 : Shared} {H : Hp} {us : List Value} {vs : List V} (S : FnScope N ps scope) (e0 : Env0 P w K mg base A outer s H) (hl : vs.length = ps.length) (r : Vals vs us)
    (x : InCallC s s.heap.objs.size (bindL (envOfC qual scope s.heap.objs.size f cd).kindOf (ps.zip us) fun _ => none) (cellsFrom (s.heap.objs.size + 1) scope.names []) (bindC (envOfC qual scope s.heap.objs.size f cd).kindOf (ps.zip us) fun _ => none) s1) :
    Inv (cxA P w K mg base N qual scope f cd A outer s H) [] (L2.start N vs) H s1 := by
  have J := inv_start (CX := CX0) (E := E0) (A := { A with handled := none }) (f := f) (cd := cd) S rfl ⟨e0.frames, e0.mod, e0.bs, e0.bsz, e0.funs, e0.frf, e0.hok, e0.bare⟩ hl r x
  exact ⟨⟨J.ok.mod, J.ok.kind, J.ok.glob, J.ok.blt, J.ok.above, J.ok.inj, J.ok.has, J.ok.cab, (fun z => nomatch z), J.ok.frames, J.ok.stk, J.ok.exf, J.ok.bs, J.ok.bsz, J.ok.noex, J.ok.exfs, J.ok.funs, J.ok.frf⟩, J.os, J.bare, J.base, J.loc, J.cell, J.free, J.freeC, J.pin, J.hok, J.len⟩
theorem fnA_of {name qual : Str} {params : Arguments} {body : List Stmt} {scope : Scope} {dV kV doc pm cdv ct oc : Value} {an od : Option Addr} {osl : Array (Option Value)}
    (lk : K.lookup f = some ⟨oc, od, .func (PySem.W.fnOf name qual params body scope dV kV doc pm an cdv ct), osl⟩) (hcd : PySem.W.codeIn K cdv qual = true) (S : FnScope N ps scope) (len : ∀ vs H Q, sp vs H Q E0 → vs.length = ps.length)
    (hbody : ∀ (A : Around) (outer : List Env) (s : Shared) (H : Hp) (vs : List V) (Q : VK), L2H.RoomH k (A.deeper (envOfC qual scope s.heap.objs.size f cdv)) → sp vs H Q E0 →
      ∃ t, PSs (cxA P w K mg base N qual scope f cdv A outer s H) body t ∧ t { nx := fun _ H' => Q .non H', rt := Q } (L2.start N vs) H) :
    FnA P w K mg base (k + 1) f (PySem.W.fnOf name qual params body scope dV kV doc pm an cdv ct) ps sp := by
  refine ⟨len, fun A outer s H args us vs Q hr e0 hb r hsp => ?_⟩
  have up : ∀ b o, base.get? b = some o → s.heap.get? b = some o := fun b o z => (e0.bs b o z).1
  have KX := e0.mod.kin.keeps up
  refine codeAny_call_function hr.depth (KX _ _ lk) rfl S.co S.gen rfl (PySem.W.codeRec_of KX hcd) (hb _ _ _ _ (wpAny_newFunctionEnv_cells S.kind (fun y hy => ?_) fun env he s1 x => ?_))
  · exact (S.par y.1 (List.of_mem_zip (show (y.1, y.2) ∈ ps.zip us from hy)).1).imp id fun q => ⟨q, PySem.W.cellsFrom_some _ _ _ (.inl q)⟩
  · subst he
    obtain ⟨t, ht, hq⟩ := hbody A outer s H vs Q (hr.deeper _) hsp
    refine ⟨(e0.mod.nolimit.keeps up).keeps x.toInCall.keep, codeAny_func (wpAny_mono (ht.run [] s1 _ H _ (inv_startA S e0 (len _ _ _ hsp) r x) hq) (fun fl s' z => ?_) fun _ _ z => z.elim)⟩
    cases fl with
    | ret u =>
      obtain ⟨v, σ', H', J, rv, q⟩ := z
      exact ⟨v, H', J.os, J.bare, J.base, J.hok, rv, q⟩
    | next =>
      obtain ⟨σ', H', J, q⟩ := z
      exact ⟨V.non, H', J.os, J.bare, J.base, J.hok, rfl, q⟩
    | brk | cont =>
      obtain ⟨_, _, _, q⟩ := z
      exact q.elim
theorem funA {x qual : Str} {st : Stmt} {fd : FuncData} (F : Fun K x qual st f fd) (S : FnScope N ps (defScope st)) (len : ∀ vs H Q, sp vs H Q E0 → vs.length = ps.length)
    (hbody : ∀ (cdv : Value) (A : Around) (outer : List Env) (s : Shared) (H : Hp) (vs : List V) (Q : VK), L2H.RoomH k (A.deeper (envOfC qual (defScope st) s.heap.objs.size f cdv)) → sp vs H Q E0 →
      ∃ t, PSs (cxA P w K mg base N qual (defScope st) f cdv A outer s H) (defBody st) t ∧ t { nx := fun _ H' => Q .non H', rt := Q } (L2.start N vs) H) : FnA P w K mg base (k + 1) f fd ps sp := by
  obtain ⟨oc, od, kV, doc, pm, an, cdv, ct, osl, rfl, lk, hcd⟩ := F.ex
  exact fnA_of lk hcd S len fun A outer s H vs Q hr hsp => hbody cdv A outer s H vs Q hr hsp
theorem funDA {x qual : Str} {params : Arguments} {body : List Stmt} {scope : Scope} {dvs : List V} {kws : List (Str × V)} {fd : FuncData} (F : FunD K x qual params body scope dvs kws f fd) (S : FnScope N ps scope) (len : ∀ vs H Q, sp vs H Q E0 → vs.length = ps.length)
    (hbody : ∀ (cdv : Value) (A : Around) (outer : List Env) (s : Shared) (H : Hp) (vs : List V) (Q : VK), L2H.RoomH k (A.deeper (envOfC qual scope s.heap.objs.size f cdv)) → sp vs H Q E0 →
      ∃ t, PSs (cxA P w K mg base N qual scope f cdv A outer s H) body t ∧ t { nx := fun _ H' => Q .non H', rt := Q } (L2.start N vs) H) : FnA P w K mg base (k + 1) f fd ps sp := by
  obtain ⟨oc, od, dV, kV, doc, pm, an, cdv, ct, osl, rfl, lk, hcd, _, _⟩ := F.ex
  exact fnA_of lk hcd S len fun A outer s H vs Q hr hsp => hbody cdv A outer s H vs Q hr hsp
end
theorem hu_ofA {k : Nat} {A : Around} (hr : L2H.RoomH k A) : A.units + 1 < cLine := by
  have := hr.un
  omega
theorem roomA_in1 {k : Nat} {A : Around} (r : L2H.RoomH (k + 1) A) : L2H.RoomH k A.in1 := ⟨by have := r.dp; show A.depth + 3 * k + 5 < _; omega, by have := r.un; show A.units + 1 + 16 * k + 200 < _; omega⟩
section
variable {X : Cx} {k : Nat} {f C : Addr} {fd : FuncData} {ps : List Str} {sp : Sp} {dvs : List V} {ds : List Value} {x : Str} {p pos : Pos} {e : Expr} {es : List Expr} {t : TA}
theorem run_fnA {pins : List (Addr × Obj)} {σ : L2.St} {H : Hp} {s : Shared} {Q : VK} {us : List Value} {vs : List V} (F : FnA X.prog X.w X.K X.mg X.base k f fd ps sp) (hr : L2H.RoomH k X.A) (hb : Binds X.K fd ps ds) (hd : Vals dvs ds)
    (I : Inv X pins σ H s) (r : Vals vs us) (h : sp (vs ++ dvs) H Q E0) : wpAny (model X.prog X.w) X.A (call (.ref f) us) (EP X pins σ Q) X.xe s := by
  have r2 : Vals (vs ++ dvs) (us ++ ds) := r.append hd
  refine wpAny_call (codeAny_mono (F.run X.A X.stack s H ⟨us, []⟩ (us ++ ds) (vs ++ dvs) Q hr I.env0 (hb s us I.kIn (r2.length.symm.trans (F.len _ _ _ h))) r2 h) fun r s' hq => ?_)
  match r, hq with
  | .ok (.ret u), hq => exact I.after hq
  | .ok .next, hq => exact hq.elim
  | .ok .brk, hq => exact hq.elim
  | .ok .cont, hq => exact hq.elim
  | .error e, hq => exact pass0 pins σ H s e s' I hq
/-- f(e, ..), anywhere -/
theorem pe_callA (F : FnA X.prog X.w X.K X.mg X.base k f fd ps sp) (hr : L2H.RoomH k X.A) (hg : Gl X x) (hm : X.mg x = some (.ref f)) (hk : PySem.W.keepIn X.K (.ref f) = true) (hb : Binds X.K fd ps ds) (hd : Vals dvs ds)
    (ha : PA X (e :: es) t) (hdb : (x == ("__debug__" : Str)) = false := by decide) (he : starEach (e :: es) X.env = (false, eval e X.env) :: starEach es X.env := by rfl) (hpl : (backTo pos (starEach es X.env)).any (·.1) = false := by rfl) :
    PE X (.Call (.Name x p) (e :: es) [] pos) (tCall sp dvs E0 t) :=
  ⟨fun pins s σ H Q I h => wpAny_Call_Name_kw (ld_glob I hg hm (PySem.W.callWith_K (h₀ := X.base) I.ok.mod.kin hk (thn (ha.run pos pins s σ H _ I h) fun us s1 ⟨vs, H1, I1, r, q⟩ => ⟨I1.kIn, run_fnA F hr hb hd I1 r q⟩) he hpl) hdb)⟩
/-- C(e, ..), anywhere -/
theorem mkA_run {pins : List (Addr × Obj)} {σ : L2.St} {H : Hp} {s : Shared} {Q : VK} {us : List Value} {vs : List V} (M : Mk X.K C f) (F : FnA X.prog X.w X.K X.mg X.base k f fd ps sp) (hr : L2H.RoomH (k + 1) X.A) (hb : Binds X.K fd ps ds) (hd : Vals dvs ds) (I : Inv X pins σ H s) (r : Vals vs us)
    (h : ∀ z dz, H z = none → H dz = none → dz ≠ z → sp (.ref z :: (vs ++ dvs)) (upd (upd H dz (.own z)) z (.ins C dz [])) (fun v H2 => v = .non ∧ Q (.ref z) H2) E0) :
    wpAny (model X.prog X.w) X.A (call (.ref C) us) (EP X pins σ Q) X.xe s := by
  have J := Inv.made (C := C) I
  have q0 := h _ _ (I.hok.fresh (Nat.le_succ s.heap.objs.size)) (I.hok.fresh (Nat.le_refl _)) (Nat.ne_of_lt (Nat.lt_succ_self _))
  have rr : Vals (V.ref (s.heap.objs.size + 1) :: (vs ++ dvs)) (Value.ref (s.heap.objs.size + 1) :: (us ++ ds)) := .cons rfl (r.append hd)
  have go := F.run _ X.stack _ _ ⟨Value.ref (s.heap.objs.size + 1) :: us, []⟩ _ _ _ (hr.make C us []) (J.env0.make C us []) (hb _ (Value.ref (s.heap.objs.size + 1) :: us) J.kIn (rr.length.symm.trans (F.len _ _ _ q0))) rr q0
  refine wpAny_call (make_map (f := f) I.kIn M.makes M.init (beq_iff_eq.mp M.fn) (codeAny_mono go fun res s' z => ?_))
  match res, z with
  | .error er, z => exact pass0 pins σ H s er s' I z
  | .ok (.ret u), z =>
    obtain ⟨v, H2, J2, rv, ev, q2⟩ := J.after z
    subst ev
    exact ⟨rv, ⟨V.ref (s.heap.objs.size + 1), H2, J2, rfl, q2⟩⟩
  | .ok .next, z => exact z.elim
  | .ok .brk, z => exact z.elim
  | .ok .cont, z => exact z.elim
theorem pe_mkA (M : Mk X.K C f) (F : FnA X.prog X.w X.K X.mg X.base k f fd ps sp) (hr : L2H.RoomH (k + 1) X.A) (hg : Gl X x) (hm : X.mg x = some (.ref C)) (hb : Binds X.K fd ps ds) (hd : Vals dvs ds) (ha : PA X (e :: es) t)
    (hdb : (x == ("__debug__" : Str)) = false := by decide) (he : starEach (e :: es) X.env = (false, eval e X.env) :: starEach es X.env := by rfl) (hpl : (backTo pos (starEach es X.env)).any (·.1) = false := by rfl) :
    PE X (.Call (.Name x p) (e :: es) [] pos) (tMkS C sp dvs (fun _ => E0) t) :=
  ⟨fun pins s σ H Q I h => wpAny_Call_Name_kw (ld_glob I hg hm (PySem.W.callWith_K (h₀ := X.base) I.ok.mod.kin M.kp (thn (ha.run pos pins s σ H _ I h) fun us s1 ⟨vs, H1, I1, r, q⟩ => ⟨I1.kIn, mkA_run M F hr hb hd I1 r q⟩) he hpl) hdb)⟩
/-- [p] == [q], p and q of one class with an own ==, that are equal -/
def rEqOne (C : Addr) (sp : Sp) : R2 := fun x y H Q => ∃ a b p q dx dy fs gs, x = .ref a ∧ y = .ref b ∧ H a = some (.lst [.ref p]) ∧ H b = some (.lst [.ref q]) ∧ p ≠ q ∧ H p = some (.ins C dx fs) ∧ H q = some (.ins C dy gs) ∧ sp [.ref p, .ref q] H (fun v H1 => v = .bl true ∧ Ext H H1 ∧ Q (.bl true) H1) E0
theorem op_eqOneA (hs : PySem.W.findIn X.K (.ref C) "__eq__" = some (some (.ref f))) (hf : PySem.W.isFn X.K (.ref f) = true) (F : FnA X.prog X.w X.K X.mg X.base k f fd ps sp) (hr : L2H.RoomH (k + 1) X.A) (hb : Binds X.K fd ps []) : OpR X (compareOp .Eq) (rEqOne C sp) := by
  intro pins s σ H x y v u Q I rx ry h
  obtain ⟨a, b, p, q, dx, dy, fs, gs, rfl, rfl, ha, hb', hne, hp, hq, k⟩ := h
  cases (show v = Value.ref a from rx)
  cases (show u = Value.ref b from ry)
  show wpAny (model X.prog X.w) X.A (richCompare .Eq (.ref a) (.ref b)) (EP X pins σ Q) X.xe s
  have one : ∀ {H1 : Hp} {s1 : Shared} {c z : Addr}, Inv X pins σ H1 s1 → H1 c = some (.lst [.ref z]) → ∃ n, s1.heap.get? c = some { cls := .type "list", data := .seq #[.ref z] n } := fun {H1 s1 c z} J e => by
    obtain ⟨_, its, n, r, e⟩ := J.hok c _ e
    cases r with
    | cons r1 r2 =>
      cases r2
      cases r1
      exact ⟨n, e⟩
  have hu : X.A.units < cLine := by have := hr.un; omega
  refine GQ.rc_listG (N := 1) hu (fun i s' => ∃ H1, Inv X pins σ H1 s' ∧ Ext H H1 ∧ ((i = 0 ∧ H1 = H) ∨ (i = 1 ∧ Q (.bl true) H1))) (fun i s' z => ?_) (fun s' z => ?_) ⟨H, I, Ext.rfl', .inl ⟨rfl, rfl⟩⟩
  · obtain ⟨H1, J, ex, z⟩ := z
    obtain ⟨n1, e1⟩ := one J (ex _ _ ha)
    obtain ⟨n2, e2⟩ := one J (ex _ _ hb')
    refine ⟨_, _, n1, n2, e1, e2, rfl, rfl, fun h1 h2 => ?_⟩
    rcases z with ⟨rfl, rfl⟩ | ⟨rfl, _⟩
    · obtain ⟨mA, Ob, _⟩ := ins_get J.hok hp
      obtain ⟨mB, Ob', _⟩ := ins_get J.hok hq
      obtain ⟨od, K1, _⟩ := Ob.look
      obtain ⟨od', K2, _⟩ := Ob'.look
      obtain ⟨m, fr⟩ := J.fr
      have r2 : Vals [V.ref p, V.ref q] [Value.ref p, Value.ref q] := .cons rfl (.cons rfl .nil)
      have bb := hb s' [.ref p, .ref q] J.kIn (by rw [List.append_nil]; exact r2.length.symm.trans (F.len _ _ _ k))
      rw [List.append_nil] at bb
      have go := F.run X.A.in1 X.stack s' H1 ⟨[.ref p, .ref q], []⟩ [.ref p, .ref q] _ _ (roomA_in1 hr) J.env0.in1 bb r2 k
      refine GQ.eqBool_refG hne (PySem.W.cmp_K (op := .Eq) (tb := .ref C) (by show X.A.units + 1 < cLine; have := hr.un; omega) fr J.ok.mod.kin K1 K2.type (by simp [PySem.W.notFirst]) hs hf (wpAny_call (codeAny_mono go fun r s2 w => ?_)))
      match r, w with
      | .ok (.ret u), w =>
        obtain ⟨v, H2, J2, rv, ev, ex2, q2⟩ := J.after w
        subst ev
        cases (show u = Value.bool true from rv)
        exact ⟨true, rfl, rfl, H2, J2, ex2, .inr ⟨rfl, q2⟩⟩
      | .ok .next, w => exact w.elim
      | .ok .brk, w => exact w.elim
      | .ok .cont, w => exact w.elim
      | .error e, w => exact pass0 pins σ H1 s' e s2 J w
    · exact absurd h1 (by show ¬ 1 < 1; omega)
  · obtain ⟨H1, J, _, ⟨z, _⟩ | ⟨_, q1⟩⟩ := z
    · cases z
    · exact ⟨.bl true, H1, J, rfl, q1⟩
end
end FG
namespace FG
open PySem PySem.Spec PyProof.Rows L2
/-! ## several clauses 'except X as n', the exception's context None -/
inductive ClausesN (X : Cx) : List ExceptHandler → List (Value × Nat × Suite) → Prop
  | nil : ClausesN X [] []
  | cons {x n : Str} {c : Value} {i : Nat} {ts : Suite} {st : Stmt} {sts : List Stmt} {p1 p2 : Pos} {hs : List ExceptHandler} {l : List (Value × Nat × Suite)} (nm : Names X x c) (sl : X.N[i]? = some n) (lo : X.env.kindOf n = some .local)
      (su : ∀ a oe cls d pn, L2N.Zn cls d oe → (∃ vs, oe.data = .fields vs) → PSs (X.suite a ((a, oe) :: pn)) (st :: sts) (ts a cls d)) (more : ClausesN X hs l) : ClausesN X (.ExceptHandler (some (.Name x p1)) (some n) (st :: sts) p2 :: hs) ((c, i, ts) :: l)
/-- what is known where the body's exception has landed in the frame of the try -/
structure LandedN (X : Cx) (pins : List (Addr × Obj)) (σ : L2.St) (H : Hp) (cls : Value) (d : Option Addr) (a : Addr) (B : Heap) (sI s : Shared) : Prop where
  inv : Inv X pins σ H sI
  nb : ∀ b o, sI.heap.get? b = some o → b ∉ frs X.stack → B.get? b = some o
  up : sI.heap.UpToSlots s.heap
  na : H a = none
  os : s.os = sI.os
  ag : AllBare s.gens
  fl : HandSPX.FlyingZ B (X.env :: X.outer) a (L2N.Zn cls d) s.heap
section
variable {X : Cx} {pins : List (Addr × Obj)} {σ : L2.St} {H : Hp} {cls : Value} {d : Option Addr} {a : Addr} {B : Heap} {sI s : Shared}
theorem LandedN.here (L : LandedN X pins σ H cls d a B sI s) : Inv X pins σ H s := L.inv.landed L.nb L.fl.1 L.up L.os L.ag
theorem LandedN.again (L : LandedN X pins σ H cls d a B sI s) {h' : Heap} (fl : HandSPX.FlyingZ B (X.env :: X.outer) a (L2N.Zn cls d) h') (up : s.heap.UpToSlots h') : LandedN X pins σ H cls d a B sI { s with heap := h' } := ⟨L.inv, L.nb, L.up.trans up, L.na, L.os, L.ag, fl⟩
theorem LandedN.apart (L : LandedN X pins σ H cls d a B sI s) (hf : X.env.frame = some X.env.locals) : a ≠ X.env.locals ∧ a ∉ X.fs := by
  obtain ⟨oe, vs, h1, _, h3⟩ := L.fl.there
  have no : a ∉ frs (X.env :: X.outer) := fun m => by
    obtain ⟨_, o', e', hn⟩ := L.fl.2.2.1.mem m
    exact hn vs (by rw [← Option.some.inj (h1.symm.trans e')]; exact h3)
  refine ⟨fun z => no (List.mem_filterMap.mpr ⟨X.env, .head _, hf.trans (congrArg some z.symm)⟩), fun m => ?_⟩
  obtain ⟨e, he, q⟩ := List.mem_filterMap.mp m
  exact no (List.mem_filterMap.mpr ⟨e, .tail _ he, q⟩)
theorem LandedN.suite (L : LandedN X pins σ H cls d a B sI s) (hf : X.env.frame = some X.env.locals) : ∃ oe vs, s.heap.get? a = some oe ∧ L2N.Zn cls d oe ∧ oe.data = .fields vs ∧ Inv (X.suite a ((a, oe) :: (X.pn ++ pins))) [] σ H s := by
  obtain ⟨oe, vs, h1, h2, h3⟩ := L.fl.there
  obtain ⟨n1, n2⟩ := L.apart hf
  exact ⟨oe, vs, h1, h2, h3, L.here.suite h1 h3 L.na n1 n2⟩
/-- nobody names it: it flies on -/
theorem none_namesN {Wo : WX} {D : Ends} (L : LandedN X pins σ H cls d a B sI s) (hs : X.stack = X.env :: X.outer) (hf : X.env.frame = some X.env.locals) (tk : L2N.Takes X Wo) (w : Wo cls d σ H) : wpAny (model X.prog X.w) X.A (handleBy (.ref a) X.env []) (SP X pins D) X.xe s := by
  have fin : wpAny (model X.prog X.w) X.A (setFlight (.ref a) X.env.frame) (fun _ s4 => wpAny (model X.prog X.w) X.A (throw (.ref a) : Sem Flow) (SP X pins D) X.xe s4) X.xe s := by
    rw [hf]
    exact HandSPX.setFlight_upZ L.fl fun h4 hh up => wpAny_throw (tk _ _ ⟨a, B, sI, pins, σ, H, cls, d, rfl, L.inv, L.nb, L.up.trans up, .inr (.inr (by rw [hs]; exact hh)), L.na, L.os, L.ag, w⟩)
  obtain ⟨_, _, _, oe, vs, t, ot, ts, he, hz, hd, h1, hr⟩ := id L.fl
  refine wpAny_handleBy_nil ?_
  unfold PySem.passOn
  refine wpAny_bind (wpAny_field he hd h1 ?_)
  rw [if_neg (by simp)]
  first
    | exact wpAny_bind fin
    | exact wpAny_bind (wpAny_pure (wpAny_bind fin))
theorem clauses_runN {Wo : WX} {D : Ends} (L : LandedN X pins σ H cls d a B sI s) (hs : X.stack = X.env :: X.outer) (hf : X.env.frame = some X.env.locals) (nd : X.N.Nodup) (tk : L2N.Takes X Wo) {hds : List ExceptHandler} {l : List (Value × Nat × Suite)} (hc : ClausesN X hds l)
    (w : wAll X.K Wo D l cls d σ H) : wpAny (model X.prog X.w) X.A (handleBy (.ref a) X.env hds) (SP X pins D) X.xe s := by
  induction hc with
  | nil => exact none_namesN L hs hf tk w
  | @cons x n c i ts st sts p1 p2 hs' l' nm sl lo su more ih =>
    obtain ⟨b, e, yes, no⟩ := w
    obtain ⟨oe, vs, g1, g2, g3, S⟩ := L.suite hf
    have ty : PySem.W.Looks (model X.prog X.w) s.heap (typeOf (.ref a)) cls := fun _ _ _ _ k q => wpAny_typeOf_ref (k _ _ g1) (by rw [g2.1]; exact q)
    refine wpAny_handleBy_cons (codeAny_handlers_test (names_run nm S ((PySem.W.exm_one (M := model X.prog X.w) L.here.kIn ty e).here ?_))) (fun z => by cases z)
    cases b with
    | false => exact ih (no rfl)
    | true =>
      refine codeAny_handlers_suite_as (HandSPX.lands_againZ L.fl fun h4 fl4 up4 => ?_)
      obtain ⟨oe4, vs4, k1, k2, k3, S4⟩ := (L.again fl4 up4).suite hf
      refine store_ok (X := X.suite a ((a, oe4) :: (X.pn ++ pins))) (v := .ref a) S4 nd sl (.inl lo) rfl (fun s5 S5 => ?_) (.inr lo)
      exact wpAny_mono ((su a oe4 cls d _ k2 ⟨_, k3⟩).run [] s5 _ H _ S5 (yes rfl a L.na)) (fun f s6 z => suite_end L.inv.ok nd sl lo z) fun _ _ z => False.elim z
end
theorem ps_tryN {X : Cx} {body : List Stmt} {h0 : ExceptHandler} {hds : List ExceptHandler} {l : List (Value × Nat × Suite)} {pos : Pos} {tb : WX → TS} {Wo : WX} (hs : X.stack = X.env :: X.outer) (hf : X.env.frame = some X.env.locals) (nd : X.N.Nodup) (tk : L2N.Takes X Wo)
    (hb : ∀ (W : WX) (pn : List (Addr × Obj)) (xe : Value → Shared → Prop), L2N.Takes (X.tr pn xe) W → PassesOwn (model X.prog X.w) X.A X.env xe → PSs (X.tr pn xe) body (tb W)) (hc : ClausesN X (h0 :: hds) l) :
    PS X (.Try body (h0 :: hds) [] [] pos) (fun D σ H => tb (wAll X.K Wo D l) D σ H) := by
  refine ⟨fun pins s σ H D I h => wpAny_Try_except (wpAny_mono ((hb (wAll X.K Wo D l) (X.pn ++ pins) _ (fun u s' xx => ?_) PassesOwn.looking).run [] s σ H D (I.toTry _) h) (fun f s1 z => ?_) fun _ _ z => z)⟩
  · obtain ⟨a, B, sI, _, σ1, H1, cls, d, rfl, J, nb, up, sky, na, os, ag, w⟩ := xx
    have sky' : Sky B (X.env :: X.outer) a (L2N.Zn cls d) X.env.locals s'.heap := by rw [← hs]; exact sky
    exact L2N.Sky.land L2N.Zn.steady (by rw [I.ok.frames, hs]) hf sky' fun h3 fl3 up3 => clauses_runN (s := { s' with heap := h3 }) ⟨J.ofTry I.ok, nb, up.trans up3, na, os, ag, fl3⟩ hs hf nd tk hc w
  · cases f with
    | ret u =>
      obtain ⟨v, σ1, H1, J, r, q⟩ := z
      exact ⟨v, σ1, H1, J.ofTry I.ok, r, q⟩
    | next =>
      obtain ⟨σ1, H1, J, q⟩ := z
      exact wpAny_execs_nil ⟨σ1, H1, J.ofTry I.ok, q⟩
    | brk | cont =>
      obtain ⟨σ1, H1, J, q⟩ := z
      exact ⟨σ1, H1, J.ofTry I.ok, q⟩
section
variable {X : Cx} {nm qn f f2 msg : Str} {ps : Arguments} {bd : List Stmt} {sc : Scope} {C fI cc cda : Addr} {a a2 : Expr} {ta tb : TE} {p pos : Pos} {k : Nat}
/-- what making such an error does to the state: e is new, its own dict d is tracked from now on -/
theorem mkp_ofN {pins : List (Addr × Obj)} {σ : L2.St} {H1 : Hp} {Q : XK} {hp h' : Heap} {g : Array GenState} {dr : Drawn} {tk tk' : Nat} {os : OsState} {e d : Addr} {m : Str → Option Value} {fs : List (Str × V)}
    (T : ErrC X.prog X.K X.mg nm qn ps bd sc C fI cc cda) (I1 : Inv X pins σ H1 ⟨hp, g, dr, tk, os⟩) (M : Made hp h' e C d m) (rel : ∀ y, RelO (fs.lookup y) (m y))
    (q1 : ∀ d, H1 d = none → Q (.ref C) (some d) (upd H1 d (.xd fs))) : L2N.MkP X pins σ Q (.ref e) ⟨h', g, dr, tk', os⟩ := by
  obtain ⟨oe, fv, hoe, hc, hd, hdat, h1, h2, _⟩ := M.obj
  have hns := M.ns
  obtain ⟨G', g1, g2⟩ := restrict h' fun b => decide (b ≠ e)
  have gk : ∀ b, b ≠ e → G'.get? b = h'.get? b := fun b hb => g1 b (decide_eq_true hb)
  have ge : G'.get? e = none := g2 e (by simp)
  have old : ∀ b o, hp.get? b = some o → G'.get? b = some o := fun b o z => (gk b (Nat.ne_of_lt (Nat.lt_of_lt_of_le (Heap.lt_size z) M.new))).trans (M.keep b o z)
  have ob : ObjOk X.prog X.w (upd H1 d (.xd fs)) G' d (.xd fs) := ⟨_, hns.at (fun o z => (gk d M.dne).trans z), rel⟩
  have J : Inv X pins σ (upd H1 d (.xd fs)) ⟨G', g, dr, tk', os⟩ := I1.laid (t' := tk') old M.dbig ob
  refine ⟨e, oe, fv, ⟨G', g, dr, tk', os⟩, _, .ref C, some d, rfl, J, fun b o z => ?_, ge, hoe, ⟨hc, hd, fun vs z => by rw [hdat] at z; cases z; exact h2⟩, hdat, h1, ?_, rfl, I1.bare, raises_own T.exC T.tyC, q1 d (I1.hok.fresh M.dbig)⟩
  · have nb : b ≠ e := fun y => by
      have z' : G'.get? b = some o := z
      rw [y, ge] at z'
      cases z'
    exact (gk b nb).symm.trans z
  · rw [upd_ne (Ne.symm M.dne)]
    exact I1.hok.fresh M.new
theorem pmk1N {as : List Expr} {ta : TA} (T : ErrC X.prog X.K X.mg nm qn ps bd sc C fI cc cda) (Y : Txt1 qn f msg ps bd sc) (no : PySem.W.findIn X.K (.ref C) f = some none) (hr : Room k X.A) (ha : PA X (a :: as) ta) (hg : Gl X nm := by rfl) (hdb : (nm == ("__debug__" : Str)) = false := by decide)
    (he : starEach (a :: as) X.env = (false, eval a X.env) :: starEach as X.env := by rfl) (hpl : (backTo pos (starEach as X.env)).any (·.1) = false := by rfl) : L2N.PMk X (.Call (.Name nm p) (a :: as) [] pos) (tMk1 C f ta) := by
  intro pins s σ H Q I h
  refine wpAny_Call_Name_kw (ld_glob I hg T.gC ?_ hdb)
  refine PySem.W.callWith_K (h₀ := X.base) I.ok.mod.kin T.kC (thn (ha.run pos pins s σ H _ I h) fun us s1 ⟨vs, H1, I1, r1, v, ev, q1⟩ => ⟨I1.kIn, ?_⟩) he hpl
  subst ev
  have Nm := names_of I1
  have lim := I1.nolimit
  have KI := I1.kIn
  cases r1 with
  | @cons _ u1 _ ur rv rn =>
    cases rn
    obtain ⟨hp, g, dr, tk, os⟩ := s1
    exact wpAny_call (made_of (m := fun y => if y = f then some u1 else none) T KI lim Nm (ve_len _) (fun A' hp' x t0 R' x1 x2 x3 x4 x5 x6 x7 => init1 T Y no x1 x2 x3 x4 x5 x6 x7) (by have := hr.dp; omega) fun h' tk' e d M => mkp_ofN T I1 M (relO1 rv) q1)
theorem pmk2N {as : List Expr} {ta : TA} (T : ErrC X.prog X.K X.mg nm qn ps bd sc C fI cc cda) (Y : Txt2 qn f f2 msg ps bd sc) (no : PySem.W.findIn X.K (.ref C) f = some none) (no2 : PySem.W.findIn X.K (.ref C) f2 = some none) (hr : Room k X.A) (ha : PA X (a :: as) ta) (hg : Gl X nm := by rfl) (hdb : (nm == ("__debug__" : Str)) = false := by decide)
    (he : starEach (a :: as) X.env = (false, eval a X.env) :: starEach as X.env := by rfl) (hpl : (backTo pos (starEach as X.env)).any (·.1) = false := by rfl) : L2N.PMk X (.Call (.Name nm p) (a :: as) [] pos) (tMk2 C f f2 ta) := by
  intro pins s σ H Q I h
  refine wpAny_Call_Name_kw (ld_glob I hg T.gC ?_ hdb)
  refine PySem.W.callWith_K (h₀ := X.base) I.ok.mod.kin T.kC (thn (ha.run pos pins s σ H _ I h) fun us s1 ⟨vs, H1, I1, r1, v, v2, ev, q1⟩ => ⟨I1.kIn, ?_⟩) he hpl
  subst ev
  have Nm := names_of I1
  have lim := I1.nolimit
  have KI := I1.kIn
  cases r1 with
  | @cons _ u1 _ ur rv rn =>
    cases rn with
    | @cons _ u2 _ ur2 rv2 rn2 =>
      cases rn2
      obtain ⟨hp, g, dr, tk, os⟩ := s1
      exact wpAny_call (made_of (m := fun y => if y = f2 then some u2 else if y = f then some u1 else none) T KI lim Nm (two_len _ _) (fun A' hp' x t0 R' x1 x2 x3 x4 x5 x6 x7 => init2 T Y no no2 x1 x2 x3 x4 x5 x6 x7) (by have := hr.dp; omega) fun h' tk' e d M => mkp_ofN T I1 M (relO2 Y.nff rv rv2) q1)
end
theorem takes0N {X : Cx} : L2N.Takes X (fun _ _ _ _ => False) := fun _ _ x => by
  obtain ⟨_, _, _, _, _, _, _, _, _, _, _, _, _, _, _, _, z⟩ := x
  exact z.elim
theorem ps_rsN {X : Cx} {W : WX} {e : Expr} {t : L2.St → Hp → XK → Prop} {pos : Pos} (hc : X.calm = true) (tk : L2N.Takes X W) (he : L2N.PMk X e t) : PS X (.Raise (some e) none pos) (tRs W t) := L2N.ps_raise hc tk he
theorem hotS {X : Cx} {a : Addr} {oe : Obj} {cls : Value} {d : Option Addr} {pn : List (Addr × Obj)} (hz : L2N.Zn cls d oe) (hf : ∃ vs, oe.data = .fields vs) : L2H.HotC (X.suite a ((a, oe) :: pn)) := by
  obtain ⟨vs, e⟩ := hf
  exact ⟨(a, oe), ⟨rfl, vs, e, hz.2.2 vs e⟩, .head _⟩
/-! ## a, b = x, y while an exception is handled -/
section
variable {prog : Program} {w : World} {A : Around} {E : Value → Shared → Prop} {s : Shared}
theorem next_tuple_end_hot {it t x1 : Addr} {i : Nat} {items : Array Value} {Q : Option Value → Shared → Prop} (hot : HotX.HotAt A x1 s.heap) (nx : x1 ≠ it)
    (hit : IsTupIter s.heap it t i) (ht : IsTup s.heap t items) (hx : items[i]? = none)
    (hQ : ∀ h', Heap.ExtBut it s.heap h' → Q none { s with heap := h' }) : wpAny (model prog w) A (pyNext (.ref it)) Q E s := by
  obtain ⟨o, ho, hc, hd⟩ := id hit
  obtain ⟨ol, hol, _, nl, hdl⟩ := ht
  obtain ⟨hh, o1, vs1, h1, d1, c1⟩ := hot
  unfold pyNext
  refine wpAny_bind (wpAny_attempt (wpAny_callSpecial?_slot (name := Str.ofString "__next__") hit.typeIs slot_tupleiter_next
    (wpAny_call_entry slot_tupleiter_next hit.typeIs entry_tupleiter_next ?_ (args_tupleiter_next _))))
  show wpAny _ _ (field (.ref it) 0 >>= _) _ _ s
  refine wpAny_bind (wpAny_field ho hd (x := .ref t) rfl ?_)
  show wpAny _ _ (if (Value.ref t == Value.none) = true then _ else _) _ _ s
  rw [if_neg (show ¬ ((Value.ref t == Value.none) = true) from Bool.false_ne_true)]
  show wpAny _ _ (field (.ref it) 1 >>= _) _ _ s
  refine wpAny_bind (wpAny_field ho hd (x := .int i 0) rfl ?_)
  show wpAny _ _ (seqItems? (.ref t) >>= _) _ _ s
  refine wpAny_bind (wpAny_seqItems hol hdl ?_)
  simp only [Int.toNat_natCast, hx]
  refine wpAny_bind (wpAny_rule (wpAny_bind (wpAny_setField ho hd (by simp) ?_)))
  show wpAny _ _ (newExc (.type "StopIteration") [] >>= _) _ _ _
  refine wpAny_bind ?_
  simp only [newExc, newTuple]
  refine wpAny_bind (wpAny_newObj_type ?_ (by size_fits))
  refine wpAny_bind (m := firstArgMember _ _) (wpAny_of_eq (a := Value.none) (by first | rfl | (simp only [firstArgMember]; rfl)) ?_)
  refine wpAny_newObj_type ?_ (by size_fits)
  have g1 : (s.heap.update it (Obj.mapFields (·.setIfInBounds 0 Value.none))).get? x1 = some o1 := (Heap.get?_update_other _ _ (Ne.symm nx)).trans h1
  refine HotX.raiseNew_hot ⟨hh, o1, vs1, Heap.get?_push_of_some _ (Heap.get?_push_of_some _ g1), d1, c1⟩ (Nat.ne_of_lt (Heap.lt_size (Heap.get?_push_of_some _ g1))) (Heap.get?_push_size _ rfl) rfl (by first | (simp; done) | (simp; omega) | (simp only [Array.size_append]; simp; omega)) ?_
  refine wpAny_bind (wpAny_isInstance (T := "StopIteration") (b := true) ⟨_, Heap.get?_update_self _ (Heap.get?_push_size _ rfl) rfl, rfl⟩ isSubtype_stop ?_)
  refine wpAny_pure (hQ _ fun b o hb e => ?_)
  have e2 : (s.heap.update it (Obj.mapFields (·.setIfInBounds 0 Value.none))).get? b = some o := (Heap.get?_update_other _ _ (Ne.symm hb)).trans e
  rw [Heap.get?_update_other _ _ (Nat.ne_of_gt (Heap.lt_size (Heap.get?_push_of_some _ e2)))]
  exact Heap.get?_push_of_some _ (Heap.get?_push_of_some _ e2)
theorem unpackItems_tuple_hot {t x1 : Addr} {items : Array Value} {Q : List Value → Shared → Prop} (hot : HotX.HotAt A x1 s.heap) (ht : IsTup s.heap t items)
    (hQ : ∀ h', Heap.ExtBut s.heap.objs.size s.heap h' → Q items.toList { s with heap := h' }) : wpAny (model prog w) A (unpackItems (.ref t) items.size none) Q E s := by
  have hlt : t ≠ s.heap.objs.size := by obtain ⟨o, ho, _⟩ := ht; exact Nat.ne_of_lt (Heap.lt_size ho)
  have hx1 : x1 ≠ s.heap.objs.size := by obtain ⟨_, o, vs, ho, _⟩ := hot; exact Nat.ne_of_lt (Heap.lt_size ho)
  unfold unpackItems
  refine wpAny_bind ?_
  · unfold notIterableAtAll
    refine wpAny_bind (wpAny_specialOf ht.typeIs slot_tuple_iter.lookup ?_)
    refine wpAny_pure ?_
    simp only [Bool.false_eq_true, if_false]
    refine wpAny_bind (wpAny_holding (iter_tuple ht ?_))
    refine wpAny_bind (wpAny_holding (draw_tuple hlt items.size 0 _ _ ⟨_, Heap.get?_push_size _ rfl, rfl, rfl⟩ (ht.push _) (by omega) fun h₁ hit₁ hs₁ => ?_))
    have hall : List.take items.size (List.drop 0 items.toList) = items.toList := by
      rw [List.drop_zero]; exact List.take_of_length_le (by simp)
    rw [hall]
    rw [if_neg (by simp)]
    have ht₁ : IsTup h₁ t items := (ht.push _).extBut hs₁.extBut hlt
    obtain ⟨hh, o1, vs1, g1, d1, c1⟩ := hot
    refine wpAny_bind (wpAny_holding (next_tuple_end_hot (x1 := x1) ⟨hh, o1, vs1, hs₁.extBut _ _ hx1 (Heap.get?_push_of_some _ g1), d1, c1⟩ hx1 hit₁ ht₁ (by simp) fun h₂ he₂ => ?_))
    simp only [Option.isSome_none, Bool.false_eq_true, if_false]
    refine wpAny_pure (hQ h₂ fun b o hb e => he₂ b o hb (hs₁.extBut b o hb (Heap.get?_push_of_some _ e)))
end
section
variable {X : Cx} {pos : Pos}
theorem ps_parH {i j : Nat} {x y : Str} {a b : Expr} {ta : TA} {px py pt : Pos} {kt k2 pt2} (hc : L2H.HotC X) (hN : X.N.Nodup) (hi : X.N[i]? = some x) (hj : X.N[j]? = some y) (hij : i ≠ j)
    (hx : X.env.scope.names.lookup x = some .local) (hy : X.env.scope.names.lookup y = some .local) (ha : PA X [a, b] ta)
    (hw : swappedStores [.Tuple [.Name x px, .Name y py] kt pt] (.Tuple [a, b] k2 pt2) X.env = pure (some [x, y]))
    (hs : swapsWithSole [.Tuple [.Name x px, .Name y py] kt pt] (.Tuple [a, b] k2 pt2) pos.line X.env = pure false := by rfl) :
    PS X (.Assign [.Tuple [.Name x px, .Name y py] kt pt] (.Tuple [a, b] k2 pt2) pos) (tPar i j ta) := by
  refine ⟨fun pins s σ H D I h => ?_⟩
  rw [exec_Assign_arm]
  refine wpAny_bind (wpAny_standAt ?_)
  rw [hs]
  refine wpAny_bind (wpAny_pure ?_)
  rw [if_neg (by decide)]
  refine wpAny_bind (Tuple_ (thn (ha.run _ pins s σ H _ I h) fun us s1 ⟨vs, H1, I1, r1, q1⟩ => ?_))
  obtain ⟨v, w, e1, q1⟩ := q1
  subst e1
  obtain ⟨u1, u2, rfl, rv, rw'⟩ : ∃ u1 u2, us = [u1, u2] ∧ RelV v u1 ∧ RelV w u2 := by
    cases r1 with
    | cons p q =>
      cases q with
      | cons p' q' =>
        cases q'
        exact ⟨_, _, rfl, p, p'⟩
  refine wpAny_newObj_type ?_ (by show 2 ≤ sizeLine; decide)
  have I2 : Inv X pins σ H1 { s1 with heap := s1.heap.push { cls := .type "tuple", data := .seq [u1, u2].toArray } } := I1.kept (t' := s1.toks) fun b o e => Heap.get?_push_of_some _ e
  rw [hw]
  refine wpAny_bind (wpAny_pure ?_)
  show wpAny (model X.prog X.w) X.A (do rule "assign.swapped-stores"; let items ← unpackItems (.ref s1.heap.objs.size) 2 none; assignInOrder [fun v => bindName X.env y v, fun v => bindName X.env x v] items.reverse; pure Flow.next) _ _ _
  obtain ⟨x1, hot⟩ := hc.at I2
  refine wpAny_bind (wpAny_rule (wpAny_bind (unpackItems_tuple_hot (items := #[u1, u2]) hot (IsTup.new s1.heap _) fun h' hx' => ?_)))
  have I3 := I2.kept (h' := h') (t' := s1.toks) fun b o e => hx' b o (Nat.ne_of_lt (Heap.lt_size e)) e
  show wpAny _ _ (assignInOrder [fun v => bindName X.env y v, fun v => bindName X.env x v] [u2, u1] >>= fun _ => pure Flow.next) _ _ _
  refine wpAny_bind (assignInOrder_cons (wpAny_bindName (store_ok I3 hN hj (.inl hy) rw' (fun s2 I4 => ?_) (.inr hy))))
  refine assignInOrder_cons (wpAny_bindName (store_ok I4 hN hi (.inl hx) rv (fun s3 I5 => assignInOrder_nil (wpAny_pure ?_)) (.inr hx)))
  rw [List.set_comm _ _ (Ne.symm hij)] at I5
  exact ⟨_, H1, I5, q1⟩
end
/-! ## defs that are called while an exception is handled; they let nothing out -/
abbrev cxHn (P : Program) (w : World) (K : PySem.W.Frag) (mg : Str → Option Value) (base : Heap) (N : List Str) (qual : Str) (scope : Scope) (f : Addr) (cd : Value) (A : Around) (outer : List Env) (s : Shared) (H : Hp) (E : XK) (p : Addr × Obj) : Cx :=
  (L2H.cxH CX0 P w K mg base N qual scope f cd A outer s H E p).nox
section
variable {P : Program} {w : World} {K : PySem.W.Frag} {mg : Str → Option Value} {base : Heap} {f : Addr} {N ps : List Str} {sp : Sp} {k : Nat}
theorem hotN {qual : Str} {scope : Scope} {cd : Value} {A : Around} {outer : List Env} {s : Shared} {H : Hp} {E : XK} {p : Addr × Obj} {env : Env} (h : L2H.Hot1 A p) : L2H.HotC (cxHn P w K mg base N qual scope f cd A outer s H E p) := ⟨p, h, .head _⟩
theorem funH {x qual : Str} {st : Stmt} {fd : FuncData} (F : Fun K x qual st f fd) (S : FnScope N ps (defScope st)) (len : ∀ vs H Q E, sp vs H Q E → vs.length = ps.length)
    (hbody : ∀ (cdv : Value) (A : Around) (outer : List Env) (s : Shared) (H : Hp) (vs : List V) (Q : VK) (E : XK) (p : Addr × Obj), L2H.Hot1 A p → L2H.RoomH k (A.deeper (envOfC qual (defScope st) s.heap.objs.size f cdv)) → sp vs H Q E →
      ∃ t, PSs (cxHn P w K mg base N qual (defScope st) f cdv A outer s H E p) (defBody st) t ∧ t { nx := fun _ H' => Q .non H', rt := Q } (L2.start N vs) H) : L2H.FnH P w K mg base CX0 (k + 1) f fd ps sp := by
  obtain ⟨oc, od, kV, doc, pm, an, cdv, ct, osl, rfl, lk, hcd⟩ := F.ex
  refine L2H.fn_ofH lk hcd S len fun A outer s H vs Q E p hot hr hsp => ?_
  obtain ⟨t, h, q⟩ := hbody cdv A outer s H vs Q E p hot hr hsp
  exact ⟨t, h.nox, q⟩
theorem funDH {x qual : Str} {params : Arguments} {body : List Stmt} {scope : Scope} {dvs : List V} {kws : List (Str × V)} {fd : FuncData} (F : FunD K x qual params body scope dvs kws f fd) (S : FnScope N ps scope) (len : ∀ vs H Q E, sp vs H Q E → vs.length = ps.length)
    (hbody : ∀ (cdv : Value) (A : Around) (outer : List Env) (s : Shared) (H : Hp) (vs : List V) (Q : VK) (E : XK) (p : Addr × Obj), L2H.Hot1 A p → L2H.RoomH k (A.deeper (envOfC qual scope s.heap.objs.size f cdv)) → sp vs H Q E →
      ∃ t, PSs (cxHn P w K mg base N qual scope f cdv A outer s H E p) body t ∧ t { nx := fun _ H' => Q .non H', rt := Q } (L2.start N vs) H) : L2H.FnH P w K mg base CX0 (k + 1) f fd ps sp := by
  obtain ⟨oc, od, dV, kV, doc, pm, an, cdv, ct, osl, rfl, lk, hcd, _, _⟩ := F.ex
  refine L2H.fn_ofH lk hcd S len fun A outer s H vs Q E p hot hr hsp => ?_
  obtain ⟨t, h, q⟩ := hbody cdv A outer s H vs Q E p hot hr hsp
  exact ⟨t, h.nox, q⟩
end
theorem FunD.ok0 {P : Program} {w : World} {K : PySem.W.Frag} {mg : Str → Option Value} {base : Heap} {x qual : Str} {params : Arguments} {body : List Stmt} {scope : Scope} {dvs : List V} {kws : List (Str × V)} {f : Addr} {fd : FuncData} {N ps : List Str} {k : Nat} {sp : Sp}
    (F : FunD K x qual params body scope dvs kws f fd) (S : FnScope N ps scope) (len : ∀ vs H Q E, sp vs H Q E → vs.length = ps.length)
    (hbody : ∀ (cdv : Value) (A : Around) (outer : List Env) (s : Shared) (H : Hp) (vs : List V) (Q : VK) (E : XK), Room k (A.deeper (envOfC qual scope s.heap.objs.size f cdv)) → sp vs H Q E →
      ∃ t, PSs (cxOf CX0 P w K mg base N qual scope f cdv A outer s H E).nox body t ∧ t { nx := fun _ H' => Q .non H', rt := Q } (L2.start N vs) H) : FnOk P w K mg base CX0 (k + 1) f fd ps sp :=
  F.ok S len fun cdv A outer s H vs Q E hr h => by
    obtain ⟨t, a, b⟩ := hbody cdv A outer s H vs Q E hr h
    exact ⟨t, a.nox, b⟩
theorem pass0S {X : Cx} (σ : L2.St) : PassesAt CX0 X σ E0 := fun pins H s e s' I h => pass0 pins σ H s e s' I h
section
variable {X : Cx} {k : Nat} {f C : Addr} {fd : FuncData} {ps : List Str} {sp : Sp} {dvs : List V} {ds : List Value} {x : Str} {p pos : Pos} {e : Expr} {es : List Expr} {t : TA}
/-- f(e, ..) there -/
theorem pe_callHn (F : L2H.FnH X.prog X.w X.K X.mg X.base CX0 k f fd ps sp) (hc : L2H.HotC X) (hr : L2H.RoomH k X.A) (hg : Gl X x) (hm : X.mg x = some (.ref f)) (hk : PySem.W.keepIn X.K (.ref f) = true) (hb : Binds X.K fd ps [])
    (ha : PA X (e :: es) t) (hdb : (x == ("__debug__" : Str)) = false := by decide) (he : starEach (e :: es) X.env = (false, eval e X.env) :: starEach es X.env := by rfl) (hpl : (backTo pos (starEach es X.env)).any (·.1) = false := by rfl) :
    PE X (.Call (.Name x p) (e :: es) [] pos) (tCallS sp (fun _ => E0) t) := L2H.pe_callH (E := fun _ => E0) F hr hc hg hm hk hb (fun σ pins H s e s' I h => pass0 pins σ H s e s' I h) ha hdb he hpl
theorem mkH_run {pins : List (Addr × Obj)} {σ : L2.St} {H : Hp} {s : Shared} {Q : VK} {us : List Value} {vs : List V} (M : Mk X.K C f) (F : L2H.FnH X.prog X.w X.K X.mg X.base CX0 k f fd ps sp) (hc : L2H.HotC X) (hr : L2H.RoomH (k + 1) X.A) (hb : Binds X.K fd ps ds) (hd : Vals dvs ds) (I : Inv X pins σ H s) (r : Vals vs us)
    (h : ∀ z dz, H z = none → H dz = none → dz ≠ z → sp (.ref z :: (vs ++ dvs)) (upd (upd H dz (.own z)) z (.ins C dz [])) (fun v H2 => v = .non ∧ Q (.ref z) H2) E0) :
    wpAny (model X.prog X.w) X.A (call (.ref C) us) (EP X pins σ Q) X.xe s := by
  have J := Inv.made (C := C) I
  have q0 := h _ _ (I.hok.fresh (Nat.le_succ s.heap.objs.size)) (I.hok.fresh (Nat.le_refl _)) (Nat.ne_of_lt (Nat.lt_succ_self _))
  have rr : Vals (V.ref (s.heap.objs.size + 1) :: (vs ++ dvs)) (Value.ref (s.heap.objs.size + 1) :: (us ++ ds)) := .cons rfl (r.append hd)
  obtain ⟨p, hot, hp⟩ := hc
  have P1 := J.pin p (List.mem_append_left _ hp)
  have hpin : L2H.PinOk X.stack _ _ p := ⟨P1.1, P1.2.1, fun hm => (List.mem_cons.mp (J.stkSub p.1 hm)).elim P1.2.2.1 P1.2.2.2.1, P1.2.2.2.2⟩
  have go := F.run _ X.stack _ _ ⟨Value.ref (s.heap.objs.size + 1) :: us, []⟩ _ _ _ _ p (hr.make C us []) hot hpin (J.env0.make C us []) (hb _ (Value.ref (s.heap.objs.size + 1) :: us) J.kIn (rr.length.symm.trans (F.len _ _ _ _ q0))) rr q0
  refine wpAny_call (make_map (f := f) I.kIn M.makes M.init (beq_iff_eq.mp M.fn) (codeAny_mono go fun res s' z => ?_))
  match res, z with
  | .error er, z => exact pass0 pins σ H s er s' I z
  | .ok (.ret u), z =>
    obtain ⟨v, H2, J2, rv, ev, q2⟩ := J.after z
    subst ev
    exact ⟨rv, ⟨V.ref (s.heap.objs.size + 1), H2, J2, rfl, q2⟩⟩
  | .ok .next, z => exact z.elim
  | .ok .brk, z => exact z.elim
  | .ok .cont, z => exact z.elim
theorem pe_mkH (M : Mk X.K C f) (F : L2H.FnH X.prog X.w X.K X.mg X.base CX0 k f fd ps sp) (hc : L2H.HotC X) (hr : L2H.RoomH (k + 1) X.A) (hg : Gl X x) (hm : X.mg x = some (.ref C)) (hb : Binds X.K fd ps ds) (hd : Vals dvs ds) (ha : PA X (e :: es) t)
    (hdb : (x == ("__debug__" : Str)) = false := by decide) (he : starEach (e :: es) X.env = (false, eval e X.env) :: starEach es X.env := by rfl) (hpl : (backTo pos (starEach es X.env)).any (·.1) = false := by rfl) :
    PE X (.Call (.Name x p) (e :: es) [] pos) (tMkS C sp dvs (fun _ => E0) t) :=
  ⟨fun pins s σ H Q I h => wpAny_Call_Name_kw (ld_glob I hg hm (PySem.W.callWith_K (h₀ := X.base) I.ok.mod.kin M.kp (thn (ha.run pos pins s σ H _ I h) fun us s1 ⟨vs, H1, I1, r, q⟩ => ⟨I1.kIn, mkH_run M F hc hr hb hd I1 r q⟩) he hpl) hdb)⟩
end
end FG
namespace FG
open PySem PySem.Spec PyProof.Rows L2
/-! ## {k: v}, k a tuple -/
def tDispT1 (tk tv : TE) : TE := fun σ H Q => ∀ p, H p = none → tk σ (upd H p (.dT [])) fun x H1 => tv σ H1 fun y H2 => H2 p = some (.dT []) ∧ ∃ b k, x = .ref b ∧ H2 b = some (.tup (k.map kV)) ∧ Q (.ref p) (upd H2 p (.dT [(k, y)]))
theorem pe_dispT1 {X : Cx} {pos : Pos} {k v : Expr} {tk tv : TE} (hu : X.A.units + 1 < cLine) (hk : PE X k tk) (hv : PE X v tv) : PE X (.Dict [some k] [v] pos) (tDispT1 tk tv) := by
  refine ⟨fun pins s σ H Q I q => ?_⟩
  have I1 := I.laid (a := s.heap.objs.size) (o := .dT []) (t' := s.toks) (fun _ _ z => Heap.get?_push_of_some _ z) (Nat.le_refl _) (dt_empty s.heap I.big)
  have hp := I.hok.fresh (Nat.le_refl s.heap.objs.size)
  rw [arm_eval_Dict, zip_pairTrees [some k] [v] X.env pos rfl rfl, dictDisplay_pairs _ (by intro z; cases z) (by show 1 < 17; decide)]
  refine wpAny_bind (wpAny_standAt (wpAny_bind (wpAny_subDictH (knd := tupleKind (mixKind X.prog X.w)) (by show X.A.units < cLine; omega) (by show 1 ≤ 15; decide) ?_)))
  refine pairTrees_cons_walk (thn (hk.run pins _ σ _ _ I1 (q _ hp)) fun u s1 ⟨x, H1, J1, rx, q1⟩ => thn (hv.run pins s1 σ H1 _ J1 q1) fun w2 s2 ⟨y, H2, J2, ry, e, b, kk, ex, eb, q2⟩ => pairTrees_nil_walk ?_)
  subst ex
  cases (show u = Value.ref b from rx)
  obtain ⟨_, hd, xs, rel, dd⟩ := dt_of J2.hok e
  cases rel
  refine ⟨[(kk, b, w2)], ⟨rfl, rfl, key_of J2.hok eb, trivial⟩, dd, fun h' tk' dd' hs => wpAny_pure ⟨.ref s.heap.objs.size, _, ?_, rfl, q2⟩⟩
  obtain ⟨o, es, ep, g1, g2, g3, g4, _, g5⟩ := dd'
  refine d_write J2 (by rw [e]; exact True.intro) hs ⟨o, g1⟩ ⟨by show 1 ≤ sizeLine; decide, hd, [(kk, b, w2)], .cons ⟨rfl, ?_, ry⟩ .nil, o, es, ep, g1, g2, g3, g4, g5⟩
  rw [upd_ne (ne_of eb e (fun z => nomatch z))]
  exact eb
section
variable {σ : L2.St} {H : Hp} {Q : VK} {tk tv : TE}
theorem w_dispT1 (k : ∀ p, H p = none → tk σ (upd H p (.dT [])) fun x H1 => tv σ H1 fun y H2 => H2 p = some (.dT []) ∧ ∃ b k, x = .ref b ∧ H2 b = some (.tup (k.map kV)) ∧ Q (.ref p) (upd H2 p (.dT [(k, y)]))) : tDispT1 tk tv σ H Q := k
end
end FG
namespace FG
open PySem PySem.Spec PyProof.Rows L2
/-! ## the head by one run in the kernel: what is read off the heap behind the top -/
abbrev Fg : Type := PySem.W.Frag
def fdAt (K : Fg) (f : Addr) : FuncData := match K.lookup f with
  | some ⟨_, _, .func fd, _⟩ => fd
  | _ => default
/-- a def: where it stands, its text, its defaults, the names of its closure -/
structure DefX where
  at_ : Fg → Addr
  name : Str
  qual : Str
  params : Arguments
  body : List Stmt
  scope : Scope
  dfl : List He.Dv := []
  kwd : List (Str × He.Dv) := []
  clo : List Str := []
abbrev FnX : Type := Option (Str × Str × Arguments × FuncBody × Scope × Addr × List Str × Addr)
def fnX (K : Fg) (f : Addr) : FnX := match K.lookup f with
  | some ⟨_, _, .func fd, _⟩ => some (fd.name, fd.qualname, fd.params, fd.body, fd.scope, fd.globals, fd.closure.map (·.1), fd.builtins)
  | _ => none
def DefX.val (d : DefX) : FnX := some (d.name, d.qual, d.params, .stmts d.body, d.scope, mainGlobals, d.clo, builtinsNs)
def DefX.dvs (K : Fg) (d : DefX) : List V := d.dfl.map (He.Dv.v K)
def DefX.kws (K : Fg) (d : DefX) : List (Str × V) := d.kwd.map fun q => (q.1, q.2.v K)
def DefX.ok (K : Fg) (d : DefX) : Bool := PySem.W.keepIn K (.ref (d.at_ K)) && (match K.lookup (d.at_ K) with
  | some ⟨_, _, .func fd, _⟩ => PySem.W.codeIn K fd.code d.qual && (He.dflB K fd.defaults (d.dvs K) && He.kwdB K fd.kwdefaults (d.kws K))
  | _ => false)
/-- the addresses of a def's cell and code -/
def ccAt (K : Fg) (f : Addr) : Addr := match K.lookup f with
  | some ⟨_, _, .func fd, _⟩ => (match fd.closure with
    | q :: _ => q.2
    | [] => 0)
  | _ => 0
def cdAt (K : Fg) (f : Addr) : Addr := match K.lookup f with
  | some ⟨_, _, .func fd, _⟩ => (match fd.code with
    | .ref c => c
    | _ => 0)
  | _ => 0
section
variable {K : Fg} {d : DefX}
theorem DefX.get (e : fnX K (d.at_ K) = d.val) (c : d.ok K = true) : ∃ (oc : Value) (od : Option Addr) (osl : Array (Option Value)) (dV kV doc pm : Value) (an : Option Addr) (cdv ct : Value) (cl : List (Str × Addr)),
    K.lookup (d.at_ K) = some ⟨oc, od, .func { PySem.W.fnOf d.name d.qual d.params d.body d.scope dV kV doc pm an cdv ct with closure := cl }, osl⟩ ∧ cl.map (·.1) = d.clo ∧ PySem.W.keepIn K (.ref (d.at_ K)) = true ∧ PySem.W.codeIn K cdv d.qual = true ∧ DflV K dV (d.dvs K) ∧ KwdV K kV (d.kws K) := by
  obtain ⟨kp, c2⟩ := He.ba c
  unfold fnX at e
  cases q : K.lookup (d.at_ K) with
  | none =>
    rw [q] at c2
    cases c2
  | some o =>
    obtain ⟨oc, od, dt, osl⟩ := o
    rw [q] at c2 e
    cases dt with
    | func fd =>
      obtain ⟨n1, n2, n3, n4, n5, n6, n7, n8, n9, n10, n11, n12, n13, n14, n15⟩ := fd
      have e2 : (some (n1, n2, n3, n4, n5, n6, n7.map (·.1), n15) : FnX) = some (d.name, d.qual, d.params, .stmts d.body, d.scope, mainGlobals, d.clo, builtinsNs) := e
      simp only [Option.some.injEq, Prod.mk.injEq] at e2
      obtain ⟨h1, h2, h3, h4, h5, h6, h7, h8⟩ := e2
      subst h1 h2 h3 h4 h5 h6 h8
      have c3 : (PySem.W.codeIn K n13 d.qual && (He.dflB K n8 (d.dvs K) && He.kwdB K n9 (d.kws K))) = true := c2
      obtain ⟨k1, k2⟩ := He.ba c3
      obtain ⟨k3, k4⟩ := He.ba k2
      exact ⟨oc, od, osl, n8, n9, n10, n11, n12, n13, n14, n7, rfl, h7, kp, k1, He.dflB_ok k3, He.kwdB_ok k4⟩
    | _ => cases c2
theorem DefX.funD (z : fnX K (d.at_ K) = d.val ∧ d.ok K = true) (hc : d.clo = []) : FunD K d.name d.qual d.params d.body d.scope (d.dvs K) (d.kws K) (d.at_ K) (fdAt K (d.at_ K)) := by
  obtain ⟨oc, od, osl, dV, kV, doc, pm, an, cdv, ct, cl, lk, ec, kp, k1, k3, k4⟩ := DefX.get z.1 z.2
  rw [hc] at ec
  have e0 : cl = [] := List.map_eq_nil_iff.mp ec
  subst e0
  have ef : fdAt K (d.at_ K) = PySem.W.fnOf d.name d.qual d.params d.body d.scope dV kV doc pm an cdv ct := by
    unfold fdAt
    rw [lk]
    try rfl
  rw [ef]
  exact ⟨⟨oc, od, dV, kV, doc, pm, an, cdv, ct, osl, rfl, lk, k1, k3, k4⟩, kp⟩
theorem DefX.errFn (z : fnX K (d.at_ K) = d.val ∧ d.ok K = true) (hc : d.clo = (["__class__"] : List Str)) (hd : d.dfl = []) (hn : d.name = "__init__") : ∃ (oc : Value) (od : Option Addr) (kV doc pm : Value) (an : Option Addr) (ct : Value) (osl : Array (Option Value)),
    K.lookup (d.at_ K) = some ⟨oc, od, .func (errFd d.qual d.params d.body d.scope (ccAt K (d.at_ K)) kV doc pm an (.ref (cdAt K (d.at_ K))) ct), osl⟩ ∧ PySem.W.codeIn K (.ref (cdAt K (d.at_ K))) d.qual = true := by
  obtain ⟨oc, od, osl, dV, kV, doc, pm, an, cdv, ct, cl, lk, ec, kp, k1, k3, k4⟩ := DefX.get z.1 z.2
  obtain ⟨cda, rfl⟩ := He.codeIn_ref k1
  rw [hc] at ec
  obtain ⟨cc, rfl⟩ : ∃ cc, cl = ([(("__class__" : Str), cc)] : List (Str × Addr)) := by
    cases cl with
    | nil => cases ec
    | cons q r =>
      rw [List.map_cons] at ec
      injection ec with e1 e2
      rw [List.map_eq_nil_iff.mp e2]
      exact ⟨q.2, by rw [← e1]⟩
  have hdv : d.dvs K = [] := by
    unfold DefX.dvs
    rw [hd]
    rfl
  rw [hdv] at k3
  have e3 : ccAt K (d.at_ K) = cc := by
    unfold ccAt
    rw [lk]
    try rfl
  have e4 : cdAt K (d.at_ K) = cda := by
    unfold cdAt
    rw [lk]
    try rfl
  rw [e3, e4]
  rcases k3 with ⟨_, rfl⟩ | ⟨e, _⟩
  · rw [hn] at lk
    exact ⟨oc, od, kV, doc, pm, an, ct, osl, lk, k1⟩
  · exact absurd rfl e
end
theorem funOf {K : Fg} {x q : Str} {st : Stmt} {f : Addr} {fd : FuncData} (F : FunD K x q (defArgs st) (defBody st) (defScope st) [] [] f fd) : Fun K x q st f fd := by
  obtain ⟨oc, od, dV, kV, doc, pm, an, cdv, ct, osl, rfl, lk, hcd, hD, _⟩ := F.ex
  rcases hD with ⟨_, rfl⟩ | ⟨e, _⟩
  · exact ⟨⟨oc, od, kV, doc, pm, an, cdv, ct, osl, rfl, lk, hcd⟩, F.kp⟩
  · exact absurd rfl e
theorem funC_of {K : Fg} {x q : Str} {st : Stmt} {fd : FuncData} {p : He.Defn} (F : FunD K x q (defArgs st) (defBody st) (defScope st) [] [] (He.fAd K p) fd) : FunC K x q st (He.fAd K p) fd (He.codeOf K p) := by
  obtain ⟨oc, od, dV, kV, doc, pm, an, cdv, ct, osl, rfl, lk, hcd, hD, _⟩ := F.ex
  obtain ⟨c, rfl⟩ := He.codeIn_ref hcd
  rw [He.codeOf_eq lk rfl]
  rcases hD with ⟨_, rfl⟩ | ⟨e, _⟩
  · exact ⟨oc, od, kV, doc, pm, an, ct, osl, rfl, lk, hcd⟩
  · exact absurd rfl e
/-! ### the Hook -/
/-- what a function, a class, a property names -/
def refsF (g : Addr → Option Obj) (a : Addr) : List Addr := match g a with
  | some ⟨_, _, .func fd, _⟩ => He.refV fd.code ++ He.refV fd.defaults ++ He.refV fd.kwdefaults ++ fd.closure.map (·.2)
  | some ⟨_, _, .cls cd, _⟩ => [cd.ns]
  | some ⟨.type t, _, .fields vs, _⟩ => (match decide (t = "code") with
    | true => []
    | false => vs.toList.flatMap He.refV)
  | _ => []
def frA {β : Type} : List Addr → (List Addr → β) → β
  | [], k => k []
  | a :: r, k => HandSHeadRun.frNat a fun a => frA r fun r' => k (a :: r')
theorem frA_eq {β : Type} : ∀ (l : List Addr) (k : List Addr → β), frA l k = k l
  | [], _ => rfl
  | x :: r, k => by
    show (HandSHeadRun.frNat x fun a => frA r fun r' => k (a :: r')) = _
    rw [HandSHeadRun.frNat_eq, frA_eq r]
/-- the names' objects, what they name; the methods, what they name, what their functions name -/
def as1 (g : Addr → Option Obj) (gl : List Str) : List Addr := (gl.map (He.ga (He.frG g [mainGlobals])))
def as2 (g : Addr → Option Obj) (l : List Addr) : List Addr := [mainGlobals, cStatics] ++ (l ++ l.flatMap (refsF g))
def as3 (g : Addr → Option Obj) (ms : List (Str × Str)) (l : List Addr) : List Addr := ms.map fun p => He.ma (He.frG g l) (He.ga (He.frG g l) p.1) p.2
def as4 (g : Addr → Option Obj) (l : List Addr) : List Addr := l ++ l.flatMap (refsF g)
def asN (g : Addr → Option Obj) (gl : List Str) (ms : List (Str × Str)) : List Addr := as2 g (as1 g gl) ++ as4 g (as4 g (as3 g ms (as2 g (as1 g gl))))
def asNk {β : Type} (g : Addr → Option Obj) (gl : List Str) (ms : List (Str × Str)) (k : List Addr → β) : β :=
  frA (as1 g gl) fun l1 => frA (as2 g l1) fun l2 => frA (as3 g ms l2) fun l3 => frA (as4 g l3) fun l4 => frA (as4 g l4) fun l5 => frA (l2 ++ l5) k
theorem asNk_eq {β : Type} (g : Addr → Option Obj) (gl : List Str) (ms : List (Str × Str)) (k : List Addr → β) : asNk g gl ms k = k (asN g gl ms) := by
  unfold asNk asN
  simp only [frA_eq]
def layK {β : Type} (g : Addr → Option Obj) : List Addr → (Fg → β) → β
  | [], k => k []
  | a :: r, k => match g a with
    | none => layK g r k
    | some ⟨c, d, dt, sl⟩ => match He.emptyTab ⟨c, d, dt, sl⟩ with
      | true => layK g r k
      | false => layK g r fun r' => k ((a, ⟨c, d, dt, sl⟩) :: r')
theorem layK_eq {β : Type} (g : Addr → Option Obj) : ∀ (l : List Addr) (k : Fg → β), layK g l k = k (He.frT g l)
  | [], _ => rfl
  | a :: r, k => by
    unfold layK
    cases e : g a with
    | none =>
      show layK g r k = _
      rw [layK_eq g r]
      congr 1
      unfold He.frT He.frG
      rw [List.filterMap_cons, e]
      rfl
    | some o =>
      obtain ⟨c, d, dt, sl⟩ := o
      show (match He.emptyTab ⟨c, d, dt, sl⟩ with
        | true => layK g r k
        | false => layK g r fun r' => k ((a, ⟨c, d, dt, sl⟩) :: r')) = _
      cases z : He.emptyTab ⟨c, d, dt, sl⟩ with
      | true =>
        show layK g r k = _
        rw [layK_eq g r]
        congr 1
        unfold He.frT He.frG
        rw [List.filterMap_cons, e]
        simp [z]
      | false =>
        show (layK g r fun r' => k ((a, ⟨c, d, dt, sl⟩) :: r')) = _
        rw [layK_eq g r]
        congr 1
        unfold He.frT He.frG
        rw [List.filterMap_cons, e]
        simp [z]
def KY (gl : List Str) (ms : List (Str × Str)) (g : Addr → Option Obj) : Fg := He.frT g (asN g gl ms)
abbrev AlY : Type := List FnX × Bool
def obsK (fn : List DefX) (tf : List He.Defn) (fx : List (Fg → Bool)) (g : Addr → Option Obj) (K : Fg) : AlY := (fn.map (fun d => fnX K (d.at_ K)), (fn.all fun d => d.ok K) && ((fx.all fun f => f K) && He.tabsB g tf K))
/-- the names that are looked at: the module's, the classes' -/
structure Nms where
  gl : List Str
  ms : List (Str × Str)
def obsY (n : Nms) (fn : List DefX) (tf : List He.Defn) (fx : List (Fg → Bool)) (g : Addr → Option Obj) : AlY := asNk g n.gl n.ms fun l => layK g l fun K => obsK fn tf fx g K
structure Says2 (fn : List DefX) (tf : List He.Defn) (fx : List (Fg → Bool)) (h : Heap) (K : Fg) : Prop where
  eq : fn.map (fun d => fnX K (d.at_ K)) = fn.map DefX.val
  ok : (fn.all fun d => d.ok K) = true
  more : (fx.all fun f => f K) = true
  hd : ∀ p ∈ tf, PySem.W.codeHdIn K (He.cT K p).1 (He.cT K p).2 = true
  out : ∀ p ∈ tf, K.lookup (He.cT K p).2 = none
  empty : ∀ p ∈ tf, h.get? (He.cT K p).2 = some { cls := .none, data := .fields #[] }
theorem says2_of {n : Nms} {fn : List DefX} {tf : List He.Defn} {fx : List (Fg → Bool)} {h : Heap} (e : obsY n fn tf fx h.get? = (fn.map DefX.val, true)) : Says2 fn tf fx h (KY n.gl n.ms h.get?) := by
  unfold obsY at e
  rw [asNk_eq, layK_eq] at e
  change obsK fn tf fx h.get? (KY n.gl n.ms h.get?) = _ at e
  have e1 : fn.map (fun d => fnX (KY n.gl n.ms h.get?) (d.at_ (KY n.gl n.ms h.get?))) = fn.map DefX.val := congrArg (fun z : AlY => z.1) e
  have e2 : ((fn.all fun d => d.ok (KY n.gl n.ms h.get?)) && ((fx.all fun f => f (KY n.gl n.ms h.get?)) && He.tabsB h.get? tf (KY n.gl n.ms h.get?))) = true := congrArg (fun z : AlY => z.2) e
  obtain ⟨h1, h2⟩ := He.ba e2
  obtain ⟨h3, h4⟩ := He.ba h2
  have key : ∀ p ∈ tf, PySem.W.codeHdIn (KY n.gl n.ms h.get?) (He.cT (KY n.gl n.ms h.get?) p).1 (He.cT (KY n.gl n.ms h.get?) p).2 = true ∧ ∃ o, h.get? (He.cT (KY n.gl n.ms h.get?) p).2 = some o ∧ He.emptyTab o = true := fun p hp => by
    obtain ⟨h5, h6⟩ := He.ba (List.all_eq_true.mp h4 p hp)
    refine ⟨h5, ?_⟩
    cases q : h.get? (He.cT (KY n.gl n.ms h.get?) p).2 with
    | none =>
      rw [q] at h6
      cases h6
    | some o =>
      rw [q] at h6
      exact ⟨o, rfl, h6⟩
  exact ⟨e1, h1, h3, fun p hp => (key p hp).1, fun p hp => by
    obtain ⟨_, o, q, z⟩ := key p hp
    exact He.frT_none q z, fun p hp => by
    obtain ⟨_, o, q, z⟩ := key p hp
    rw [q, He.emptyTab_eq z]⟩
def hookY (n : Nms) (fn : List DefX) (tf : List He.Defn) (fx : List (Fg → Bool)) : PySem.W.Hook where
  α := AlY
  obs := fun s => obsY n fn tf fx s.heap.get?
  val := fun _ => (fn.map DefX.val, true)
  says := fun _ h => ∃ K : Fg, K.In h ∧ Says2 fn tf fx h K
  of := fun _ _ e => ⟨_, He.frT_in, says2_of e⟩
  keeps := fun _ _ _ ⟨K, hK, c⟩ k => ⟨K, PySem.W.Frag.In.keeps hK k, ⟨c.eq, c.ok, c.more, c.hd, c.out, fun p hp => k _ _ (c.empty p hp)⟩⟩
theorem obsY_eq {n : Nms} {fn : List DefX} {tf : List He.Defn} {fx : List (Fg → Bool)} {g : Addr → Option Obj} {s : Shared} (h : ∀ a, g a = s.heap.get? a) : obsY n fn tf fx g = (hookY n fn tf fx).obs s := by
  have e : g = s.heap.get? := funext h
  rw [e] <;> rfl
section
variable {fn : List DefX} {tf : List He.Defn} {fx : List (Fg → Bool)} {h : Heap} {K : Fg}
theorem Says2.def_ (c : Says2 fn tf fx h K) (i : Nat) {d : DefX} (e : fn[i]? = some d := by rfl) : fnX K (d.at_ K) = d.val ∧ d.ok K = true := by
  have e2 : (fn.map fun d => fnX K (d.at_ K))[i]? = (fn.map DefX.val)[i]? := by rw [c.eq]
  rw [List.getElem?_map, List.getElem?_map, e] at e2
  exact ⟨Option.some.inj e2, List.all_eq_true.mp c.ok d (List.mem_of_getElem? e)⟩
theorem Says2.fact (c : Says2 fn tf fx h K) (i : Nat) {f : Fg → Bool} (e : fx[i]? = some f := by rfl) : f K = true := List.all_eq_true.mp c.more f (List.mem_of_getElem? e)
end
/-! ### facts -/
def clsB (K : Fg) (C : Addr) : Bool := match K.lookup C with
  | some ⟨.type t, _, .cls cd, sl⟩ => (match cd.mro, sl.toList with
    | .ref C' :: bm, [_, _, _, _, some (.builtin n), _] => decide (t = "type") && (decide (C' = C) && (decide (n = "ValueError.__new__") && (!cd.hasDel && (cd.hasDict && (HandSPX.refsVE bm && decide (PySem.W.alongIn K "__init__" bm = some (some (.builtin "ValueError.__init__"))))))))
    | _, _ => false)
  | _ => false
theorem clsB_ok {K : Fg} {C : Addr} (h : clsB K C = true) : ∃ n1 q N bs bm sn sub ab col dd k0 k1 k2 k3 k5, K.lookup C = some (excClassObj n1 q C N bs bm true sn sub ab col dd k0 k1 k2 k3 k5 "ValueError.__new__") ∧ HandSPX.refsVE bm = true ∧
    PySem.W.alongIn K "__init__" bm = some (some (.builtin "ValueError.__init__")) := by
  unfold clsB at h
  split at h
  · rename_i t dd cd sl ho
    split at h
    · rename_i C' bm k0 k1 k2 k3 n k5 hm hs
      obtain ⟨a0, h⟩ := He.ba h
      obtain ⟨a1, h⟩ := He.ba h
      obtain ⟨a2, h⟩ := He.ba h
      obtain ⟨a3, h⟩ := He.ba h
      obtain ⟨a4, h⟩ := He.ba h
      obtain ⟨a5, a6⟩ := He.ba h
      have e0 := of_decide_eq_true a0
      have e1 := of_decide_eq_true a1
      have e2 := of_decide_eq_true a2
      have es : sl = #[k0, k1, k2, k3, some (.builtin n), k5] := by
        rw [← Array.toArray_toList (xs := sl), hs]
      obtain ⟨c1, c2, c3, c4, c5, c6, c7, c8, c9, c10, c11⟩ := cd
      have e3 : c11 = false := by simpa using a3
      have e4 : c6 = true := a4
      have e5 : c3 = .ref C' :: bm := hm
      subst e0 e1 e2 es e3 e4 e5
      exact ⟨_, _, _, _, bm, _, _, _, _, dd, k0, k1, k2, k3, k5, ho, a5, of_decide_eq_true a6⟩
    · cases h
  · cases h
def codeB (file : Str) (K : Fg) (c : Addr) : Bool := match K.lookup c with
  | some ⟨_, _, .fields vs, _⟩ => (match (vs : Array Value)[2]? with
    | some (Value.str f _) => file == f
    | _ => false)
  | _ => false
def cellB (K : Fg) (c C : Addr) : Bool := match K.lookup c with
  | some ⟨_, _, .cell (some (.ref z)), _⟩ => decide (z = C)
  | _ => false
theorem codeB_ok {file : Str} {K : Fg} {c : Addr} (h : codeB file K c = true) : ∃ (cl : Value) (cd : Option Addr) (vs : Array Value) (cs : Array (Option Value)) (f : Str) (tf : Tok), K.lookup c = some ⟨cl, cd, .fields vs, cs⟩ ∧ vs[2]? = some (.str f tf) ∧ (file == f) = true := by
  unfold codeB at h
  split at h
  · rename_i cl cd vs cs ho
    split at h
    · rename_i f tf hv
      exact ⟨cl, cd, vs, cs, f, tf, ho, hv, h⟩
    · cases h
  · cases h
theorem cellB_ok {K : Fg} {c C : Addr} (h : cellB K c C = true) : ∃ (cl : Value) (cd : Option Addr) (cs : Array (Option Value)), K.lookup c = some ⟨cl, cd, .cell (some (.ref C)), cs⟩ := by
  unfold cellB at h
  split at h
  · rename_i cl cd z cs ho
    have e := of_decide_eq_true h
    subst e
    exact ⟨cl, cd, cs, ho⟩
  · cases h
/-- what is looked at of an own error's class -/
def errB (file nm : Str) (K : Fg) : Bool :=
  eqO4 (PySem.W.nsIn K mainGlobals nm) (some (some (.ref (He.ga K nm)))) && (clsB K (He.ga K nm) && (eqO4 (PySem.W.findIn K (.ref (He.ga K nm)) "__setattr__") (some (some (.builtin "object.__setattr__"))) &&
  (eqO4 (PySem.W.findIn K (.ref (He.ga K nm)) "__getattribute__") (some (some (.builtin "BaseException.__getattribute__"))) && (eqO4 (PySem.W.findIn K (.ref (He.ga K nm)) "__getattr__") (some none) &&
  (eqO4 (PySem.W.findIn K (.ref (He.ga K nm)) "__init__") (some (some (.ref (He.ma K (He.ga K nm) "__init__")))) && (decide (PySem.W.typeIn K (.ref (He.ma K (He.ga K nm) "__init__")) = some (.type "function")) && (PySem.W.keepIn K (.ref (He.ga K nm)) &&
  (decide (PySem.W.subIn K (.ref (He.ga K nm)) (.type "BaseException") = some true) && (decide (PySem.W.subIn K (.ref (He.ga K nm)) (.type "ValueError") = some true) && (decide (PySem.W.typeIn K (.ref (He.ga K nm)) = some (.type "type")) && (PySem.W.hasDictIn K (He.ga K nm) &&
  (decide (PySem.W.mroIn K (He.ga K nm) (.ref (He.ga K nm)) = some true) && (codeB file K (cdAt K (He.ma K (He.ga K nm) "__init__")) && (cellB K (ccAt K (He.ma K (He.ga K nm) "__init__")) (He.ga K nm) && (eqO4 (PySem.W.nsIn K cStatics "thirdparty.any") (some none) &&
  (eqO4 (PySem.W.nsIn K mainGlobals "super") (some none) && (eqO4 (PySem.W.findIn K (.ref (He.ga K nm)) "__class__") (some (some (.builtin "object.__class__"))) && (eqO4 (PySem.W.specialIn K (.builtin "object.__class__") "__get__") (some (some (.builtin "getset_descriptor.__get__"))) &&
  (decide (PySem.W.takesIn K (.builtin "object.__class__") = some true) && decide (PySem.W.mroIn K (He.ga K nm) (.type "object") = some true))))))))))))))))))))
where
  eqO4 (a b : Option (Option Value)) : Bool := He.eqO a b
theorem errB_ok {P : Program} {K : Fg} {h : Heap} {mg : Str → Option Value} {file nm qn : Str} {ps : Arguments} {bd : List Stmt} {sc : Scope} (X : K.In h) (G : h.Ns mainGlobals mg) (b : errB file nm K = true)
    (fn : ∃ (oc : Value) (od : Option Addr) (kV doc pm : Value) (an : Option Addr) (ct : Value) (osl : Array (Option Value)), K.lookup (He.ma K (He.ga K nm) "__init__") = some ⟨oc, od, .func (errFd qn ps bd sc (ccAt K (He.ma K (He.ga K nm) "__init__")) kV doc pm an (.ref (cdAt K (He.ma K (He.ga K nm) "__init__"))) ct), osl⟩ ∧
      PySem.W.codeIn K (.ref (cdAt K (He.ma K (He.ga K nm) "__init__"))) qn = true)
    (hf : P.main.file = file) (top : (P.main.scope.names.lookup ("super" : Str)).isSome = false) :
    ErrC P K mg nm qn ps bd sc (He.ga K nm) (He.ma K (He.ga K nm) "__init__") (ccAt K (He.ma K (He.ga K nm) "__init__")) (cdAt K (He.ma K (He.ga K nm) "__init__")) ∧ ExcC K (He.ga K nm) := by
  obtain ⟨a1, b⟩ := He.ba b
  obtain ⟨a2, b⟩ := He.ba b
  obtain ⟨a3, b⟩ := He.ba b
  obtain ⟨a4, b⟩ := He.ba b
  obtain ⟨a5, b⟩ := He.ba b
  obtain ⟨a6, b⟩ := He.ba b
  obtain ⟨a7, b⟩ := He.ba b
  obtain ⟨a8, b⟩ := He.ba b
  obtain ⟨a9, b⟩ := He.ba b
  obtain ⟨a10, b⟩ := He.ba b
  obtain ⟨a11, b⟩ := He.ba b
  obtain ⟨a12, b⟩ := He.ba b
  obtain ⟨a13, b⟩ := He.ba b
  obtain ⟨a14, b⟩ := He.ba b
  obtain ⟨a15, b⟩ := He.ba b
  obtain ⟨a16, b⟩ := He.ba b
  obtain ⟨a17, b⟩ := He.ba b
  obtain ⟨a18, b⟩ := He.ba b
  obtain ⟨a19, b⟩ := He.ba b
  obtain ⟨a20, a21⟩ := He.ba b
  refine ⟨⟨PySem.W.mg_of X G (He.eqO_ok a1), clsB_ok a2, He.eqO_ok a3, He.eqO_ok a4, He.eqO_ok a5, He.eqO_ok a6, of_decide_eq_true a7, a8, of_decide_eq_true a9, of_decide_eq_true a10,
    of_decide_eq_true a11, a12, of_decide_eq_true a13, fn, ?_, cellB_ok a15, He.eqO_ok a16, PySem.W.mg_none_of X G (He.eqO_ok a17), top⟩,
    ⟨He.eqO_ok a4, He.eqO_ok a5, of_decide_eq_true a9, a12, He.eqO_ok a18, He.eqO_ok a19, of_decide_eq_true a20, of_decide_eq_true a21⟩⟩
  obtain ⟨cl, cd, vs, cs, f, tf, h1, h2, h3⟩ := codeB_ok a14
  rw [← hf] at h3
  exact ⟨cl, cd, vs, cs, f, tf, h1, h2, h3⟩
/-- a property -/
def prAt (K : Fg) (p : Addr) : Addr := match PySem.W.recIn K p "property" with
  | some (.ref g :: _) => g
  | _ => 0
def prB (C f : Str) (K : Fg) : Bool := He.eqO (PySem.W.findIn K (.ref (He.ga K C)) f) (some (some (.ref (He.ma K (He.ga K C) f)))) && (He.eqO (PySem.W.specialIn K (.ref (He.ma K (He.ga K C) f)) "__get__") (some (some (.builtin "property.__get__"))) &&
  (decide (PySem.W.takesIn K (.ref (He.ma K (He.ga K C) f)) = some true) && (match PySem.W.recIn K (He.ma K (He.ga K C) f) "property" with
    | some (.ref _ :: _) => true
    | _ => false)))
theorem prB_ok {C f : Str} {K : Fg} (h : prB C f K = true) : PropOf K (He.ga K C) f (He.ma K (He.ga K C) f) (prAt K (He.ma K (He.ga K C) f)) := by
  obtain ⟨a1, h⟩ := He.ba h
  obtain ⟨a2, h⟩ := He.ba h
  obtain ⟨a3, a4⟩ := He.ba h
  refine ⟨He.eqO_ok a1, He.eqO_ok a2, of_decide_eq_true a3, ?_⟩
  unfold prAt
  cases q : PySem.W.recIn K (He.ma K (He.ga K C) f) "property" with
  | none =>
    rw [q] at a4
    cases a4
  | some l =>
    rw [q] at a4
    cases l with
    | nil => cases a4
    | cons v r =>
      cases v with
      | ref g => exact ⟨r, rfl⟩
      | _ => cases a4
/-- a class whose instances isinstance asks -/
def insB (C : Str) (K : Fg) : Bool := He.eqO (PySem.W.findIn K (.ref (He.ga K C)) "__class__") (some (some (.builtin "object.__class__"))) && (He.eqO (PySem.W.specialIn K (.builtin "object.__class__") "__get__") (some (some (.builtin "getset_descriptor.__get__"))) &&
  (decide (PySem.W.takesIn K (.builtin "object.__class__") = some true) && decide (PySem.W.mroIn K (He.ga K C) (.type "object") = some true)))
theorem insB_ok {C : Str} {K : Fg} (h : insB C K = true) : InsC K (He.ga K C) := by
  obtain ⟨a1, h⟩ := He.ba h
  obtain ⟨a2, h⟩ := He.ba h
  obtain ⟨a3, a4⟩ := He.ba h
  exact ⟨He.eqO_ok a1, He.eqO_ok a2, of_decide_eq_true a3, of_decide_eq_true a4⟩
def excB (C : Str) (K : Fg) : Bool := He.eqO (PySem.W.findIn K (.ref (He.ga K C)) "__getattribute__") (some (some (.builtin "BaseException.__getattribute__"))) && (He.eqO (PySem.W.findIn K (.ref (He.ga K C)) "__getattr__") (some none) &&
  (decide (PySem.W.subIn K (.ref (He.ga K C)) (.type "BaseException") = some true) && (PySem.W.hasDictIn K (He.ga K C) && insB C K)))
theorem excB_ok {C : Str} {K : Fg} (h : excB C K = true) : ExcC K (He.ga K C) := by
  obtain ⟨a1, h⟩ := He.ba h
  obtain ⟨a2, h⟩ := He.ba h
  obtain ⟨a3, h⟩ := He.ba h
  obtain ⟨a4, h⟩ := He.ba h
  have I := insB_ok h
  exact ⟨He.eqO_ok a1, He.eqO_ok a2, of_decide_eq_true a3, a4, I.ha, I.hn, I.htk, I.hm⟩
/-- a class's values -/
def crB (C : Str) (K : Fg) : Bool := PySem.W.readsIn K (He.ga K C) (.type "type") && He.eqO (PySem.W.specialIn K (.ref (He.ga K C)) "__getattribute__") (some (some (.builtin "type.__getattribute__")))
theorem crB_ok {C : Str} {K : Fg} (h : crB C K = true) : ClX.CRead K (He.ga K C) (.type "type") := by
  obtain ⟨a1, a2⟩ := He.ba h
  exact ⟨a1, He.eqO_ok a2⟩
def cvB (C x : Str) (n : Int) (K : Fg) : Bool := match PySem.W.findCls K (.ref (He.ga K C)) (.type "type") x with
  | some (.val (.int m _)) => decide (m = n)
  | _ => false
theorem cvB_ok {C x : Str} {n : Int} {K : Fg} (h : cvB C x n K = true) : ∃ u, ClX.CVal K (He.ga K C) (.type "type") x (.int n) u := by
  unfold cvB at h
  split at h
  · rename_i m t e
    have e2 := of_decide_eq_true h
    subst e2
    exact ⟨_, e, ⟨_, rfl⟩⟩
  · cases h
theorem eps {α : Sort _} [Nonempty α] {P : α → Prop} (h : ∃ x, P x) : P (Classical.epsilon P) := Classical.epsilon_spec h
theorem vals_nil {K : Fg} {fd : FuncData} {ps : List Str} (h : ∃ ds, Vals ([] : List V) ds ∧ Binds K fd ps ds) : Binds K fd ps [] := by
  obtain ⟨ds, r, b⟩ := h
  cases r
  exact b
end FG
namespace FG
open PySem PySem.Spec PyProof.Rows L2
/-! ## with C(..): an own manager; what the body raises goes on behind __exit__ -/
section
variable {prog : Program} {w : World} {A : Around} {E : Value → Shared → Prop} {s : Shared} {env : Env} {K : PySem.W.Frag} {x C fe fx : Addr} {ox : Obj} {od : Option Obj} {pos : Pos}
/-- behind the body's exception e -/
def withRest2 (x fx : Addr) (pos : Pos) (env : Env) (e : Value) : Sem Flow := do
  setFlight e none
  standAt pos
  holding [e] do
  let r ← withItem.marked e (.call (.ref fx) ⟨[.ref x] ++ [← typeOf e, e, ← tracebackOf e], []⟩)
  let r ← pure r
  let swallow ← match r with
    | .none => pure false
    | .bool b => pure b
    | _ => do pure ((← withItem.marked e (.call (.type "bool") ⟨[r], []⟩)) == .bool true)
  if swallow then do rule "with.exit-swallows"; setFlight e none; pure .next else passOn "with" e env
def withRest (x fx : Addr) (pos : Pos) (env : Env) (e : Value) : Sem Flow := do
  noteFrame e env
  withRest2 x fx pos env e
theorem with_core {bdy : Sem Flow} {Q : Flow → Shared → Prop} (X : K.In s.heap) (I : PySem.W.InstAt s.heap x ox C od) (he : PySem.W.findIn K (.ref C) "__enter__" = some (some (.ref fe))) (hfe : PySem.W.isFn K (.ref fe) = true) (hx : PySem.W.findIn K (.ref C) "__exit__" = some (some (.ref fx))) (hfx : PySem.W.isFn K (.ref fx) = true)
    (h : wpAny (model prog w) A (call (.ref fe) [.ref x]) (fun v s₂ => wpAny (model prog w) A bdy (fun f s₄ => wpAny (model prog w) A (call (.ref fx) [.ref x, .none, .none, .none]) (fun _ s₅ => Q f s₅) E s₄) (fun e s₄ => wpAny (model prog w) A (withRest x fx pos env e) Q E s₄) s₂) E s) :
    wpAny (model prog w) A (withItem false pos env (pure (.ref x)) none bdy) Q E s := by
  obtain ⟨cd, hcd, ae⟩ := PySem.W.kw_along he
  obtain ⟨cd', hcd', ax⟩ := PySem.W.kw_along hx
  cases hcd.symm.trans hcd'
  obtain ⟨hh, g, d, tt, os⟩ := s
  have L1 : PySem.W.Looks (model prog w) hh (specialOnItsLine (.ref x) "__enter__") (some (.ref fe), cd.mro) := PySem.W.kw_special X I hcd ae
  have L2 : PySem.W.Looks (model prog w) hh (specialOnItsLine (.ref x) "__exit__") (some (.ref fx), cd.mro) := PySem.W.kw_special X I hcd ax
  have L3 : PySem.W.Looks (model prog w) hh (bindSpecial (.ref fe) (.ref x)) (.ref fe, [.ref x]) := PySem.W.bind_fn X _ (beq_iff_eq.mp hfe)
  have L4 : PySem.W.Looks (model prog w) hh (bindSpecial (.ref fx) (.ref x)) (.ref fx, [.ref x]) := PySem.W.bind_fn X _ (beq_iff_eq.mp hfx)
  have L5 : PySem.W.Looks (model prog w) hh (aMethodOfAnotherBuiltinTypeStops (.ref fe) cd.mro) () := PySem.W.Looks.of_pure rfl
  have L6 : PySem.W.Looks (model prog w) hh (aMethodOfAnotherBuiltinTypeStops (.ref fx) cd.mro) () := PySem.W.Looks.of_pure rfl
  unfold withItem
  refine wpAny_bind (wpAny_pure ?_)
  refine wpAny_bind (wpAny_standAt ?_)
  simp only [Bool.false_eq_true, if_false]
  kw_lk
  refine wpAny_mono h (fun v s₂ h₂ => ?_) fun _ _ z => z
  kw_lk
  refine wpAny_attempt (PySem.W.kw_held ?_)
  show wpAny _ _ bdy _ _ _
  refine wpAny_mono h₂ (fun f s₄ h₄ => ?_) (fun e s₄ h₄ => ?_)
  · kw_lk
    refine wpAny_mono h₄ (fun _ s₅ h₅ => ?_) fun _ _ z => z
    kw_lk
    exact h₅
  · exact h₄
end
/-- the ends of the body: behind it __exit__(None, None, None) -/
def dWith (spX : Sp) (x : Addr) (D : Ends) : Ends := { nx := fun σ' H' => spX [.ref x, .non, .non, .non] H' (fun _ H'' => D.nx σ' H'') E0, rt := fun _ _ => False, bk := fun _ _ => False, ct := fun _ _ => False }
/-- what is wished of the body's exception: __exit__(kind, value, trace) gives None, then Wout -/
def wWith (spX : Sp) (x : Addr) (Wout : WX) : WX := fun cls d σ' H' => ∃ c, cls = .ref c ∧ ∀ e t, H' e = none → spX [.ref x, .ref c, .ref e, t] H' (fun v H'' => v = .non ∧ Wout cls d σ' H'') E0
def tWith (C : Addr) (spE spX : Sp) (tc : TE) (tb : WX → TS) (Wout : WX) : TS := fun D σ H => tc σ H fun m H1 => ∃ x dx fs, m = .ref x ∧ H1 x = some (.ins C dx fs) ∧ spE [.ref x] H1 (fun _ H2 => tb (wWith spX x Wout) (dWith spX x D) σ H2) E0
section
variable {X : Cx} {x fx : Addr} {fdX : FuncData} {ps : List Str} {spX : Sp} {kX : Nat} {Wout : WX} {pos : Pos}
theorem with_exc {pins : List (Addr × Obj)} {D : Ends} {u : Value} {s' : Shared} {xe : Value → Shared → Prop} (hs : X.stack = X.env :: X.outer) (hf : X.env.frame = some X.env.locals) (hex : X.ex = []) (ok : X.Ok) (tk : Takes X Wout)
    (FX : FnA X.prog X.w X.K X.mg X.base kX fx fdX ps spX) (rX : L2H.RoomH kX X.A) (bX : Binds X.K fdX ps []) (xx : XE (X.tr (X.pn ++ pins) xe) (wWith spX x Wout) u s') :
    wpAny (model X.prog X.w) X.A (noteFrame u X.env) (fun _ s2 => wpAny (model X.prog X.w) X.A (withRest2 x fx pos X.env u) (SP X pins D) X.xe s2) X.xe s' := by
  have hfr : X.A.frames = some (X.env :: X.outer) := by rw [ok.frames, hs]
  obtain ⟨a, B, sI, pins', σ', H', cls, d, rfl, J', nb, up, sky, na, os, ag, c, rfl, hw⟩ := xx
  have J : Inv X pins σ' H' sI := J'.ofTry ok
  have sky' : Sky B (X.env :: X.outer) a (Zc (.ref c) d) X.env.locals s'.heap := by rw [← hs]; exact sky
  unfold withRest2
  refine (wpAny_mono (Sky.land (Q := fun _ s3 => wpAny (model X.prog X.w) X.A _ (SP X pins D) X.xe s3) Zc.steady hfr hf sky' fun h3 fl3 up3 => ?_) (fun _ s2 z => wpAny_bind z) fun _ _ z => z)
  have J3 : Inv X pins σ' H' { s' with heap := h3 } := J.landed nb fl3.1 (up.trans up3) os ag
  obtain ⟨k1, k2, k3, oe, vs, T, oT, ts, he3, hz, hd, hv1, hnT, hTe, hT, hdT, ht3⟩ := id fl3
  have nT : H' T = none := (J.inGround nb).gone hnT
  have notFr : ∀ (b : Addr) (o : Obj) (fv : Array Value), h3.get? b = some o → o.data = .fields fv → b ∉ frs (X.env :: X.outer) := fun b o fv e dd hm => by
    obtain ⟨_, o', e', hnf⟩ := k3.mem hm
    have eo : o = o' := Option.some.inj (e.symm.trans e')
    rw [← eo] at hnf
    exact hnf _ dd
  have locF : X.env.locals ∈ frs (X.env :: X.outer) := List.mem_filterMap.mpr ⟨X.env, List.mem_cons_self, hf⟩
  have fsF : ∀ b, b ∈ X.fs → b ∈ frs (X.env :: X.outer) := fun b hm => by
    obtain ⟨e, he, q⟩ := List.mem_filterMap.mp hm
    exact List.mem_filterMap.mpr ⟨e, List.mem_cons_of_mem _ he, q⟩
  have fa := notFr a oe vs he3 hd
  have fT := notFr T oT ts hT hdT
  have S3 : Inv (X.suite a ((a, oe) :: (T, oT) :: (X.pn ++ pins))) [] σ' H' { s' with heap := h3 } :=
    ⟨J3.ok.suite _ _, J3.os, J3.bare, J3.base, J3.loc, J3.cell, J3.free, J3.freeC, fun p hp => by
      rw [List.append_nil] at hp
      rcases List.mem_cons.mp hp with z | hp
      · rw [z]
        exact ⟨he3, na, fun z2 => fa (by rw [show a = X.env.locals from z2]; exact locF), fun z2 => fa (fsF _ z2), fun v z2 => by
          have z3 : oe.data = .cell v := z2
          rw [hd] at z3
          cases z3⟩
      · rcases List.mem_cons.mp hp with z | hp
        · rw [z]
          exact ⟨hT, nT, fun z2 => fT (by rw [show T = X.env.locals from z2]; exact locF), fun z2 => fT (fsF _ z2), fun v z2 => by
            have z3 : oT.data = .cell v := z2
            rw [hdT] at z3
            cases z3⟩
        · exact J3.pin p hp, J3.hok, J3.len⟩
  have hc : oe.cls = .ref c := hz.1
  have sz : 3 < ts.size := (Array.getElem?_eq_some_iff.mp ht3).1
  refine wpAny_bind (wpAny_standAt (wpAny_holding ?_))
  refine wpAny_bind (wpAny_typeOf_ref he3 ?_)
  have trace : ∀ {Q' : Value → Shared → Prop}, (∀ v t, RelV v t → Q' t { s' with heap := h3 }) → wpAny (model X.prog X.w) X.A (tracebackOf (.ref a)) Q' X.xe { s' with heap := h3 } := fun {Q'} q => by
    unfold tracebackOf
    refine wpAny_bind (wpAny_field he3 hd hv1 ?_)
    refine wpAny_bind (wpAny_field (x := ts[1]) hT hdT (Array.getElem?_eq_getElem (by omega)) ?_)
    by_cases z : (ts[1] == Value.none) = true
    · rw [if_pos z]
      exact wpAny_pure (q .non .none rfl)
    · rw [if_neg z]
      exact wpAny_pure (q (.ref T) (.ref T) rfl)
  refine wpAny_bind (trace fun tv t rt => ?_)
  rw [hc]
  unfold withItem.marked
  have r4 : Vals [V.ref x, .ref c, .ref a, tv] [Value.ref x, .ref c, .ref a, t] := .cons rfl (.cons rfl (.cons rfl (.cons rt .nil)))
  have q4 := hw a tv na
  have bb := bX { s' with heap := h3 } [Value.ref x, .ref c, .ref a, t] S3.kIn (by rw [List.append_nil]; exact r4.length.symm.trans (FX.len _ _ _ q4))
  rw [List.append_nil] at bb
  have go := FX.run (X.A.mark (some (.ref a))) X.stack { s' with heap := h3 } H' ⟨[Value.ref x, .ref c, .ref a, t], []⟩ _ _ _ ⟨rX.dp, rX.un⟩ S3.env0 bb r4 q4
  refine wpAny_bind (wpAny_bind (wpAny_run (codeAny_mono go fun r s6 hq => ?_) (fun z => by injection z with z; exact ref_ne_byPass a z)))
  match r, hq with
  | .ok .next, hq => exact hq.elim
  | .ok .brk, hq => exact hq.elim
  | .ok .cont, hq => exact hq.elim
  | .error er, hq => exact (show False from hq).elim
  | .ok (.ret u6), hq =>
    obtain ⟨v6, H6, S6, rv6, ev6, q6⟩ := S3.after hq
    subst ev6
    cases (show u6 = Value.none from rv6)
    have J6 : Inv X pins σ' H6 s6 := ⟨ok, S6.os, S6.bare, S6.base, S6.loc, S6.cell, S6.free, S6.freeC, fun p hp => S6.pin p (List.mem_append_left _ (List.mem_cons_of_mem _ (List.mem_cons_of_mem _ hp))), S6.hok, S6.len⟩
    have pa := S6.pin (a, oe) (List.mem_append_left _ List.mem_cons_self)
    have pT := S6.pin (T, oT) (List.mem_append_left _ (List.mem_cons_of_mem _ List.mem_cons_self))
    have ga : s6.heap.get? a = some oe := pa.1
    have gT : s6.heap.get? T = some oT := pT.1
    have na6 : H6 a = none := pa.2.1
    have nT6 : H6 T = none := pT.2.1
    -- what is not the exception's
    have far : ∀ b o, sI.heap.get? b = some o → b ≠ a ∧ b ≠ T := fun b o e => by
      by_cases hb : b ∈ frs X.stack
      · rw [hs] at hb
        exact ⟨fun z => fa (by rw [← z]; exact hb), fun z => fT (by rw [← z]; exact hb)⟩
      · have q := nb b o e hb
        exact ⟨fun z => by
          rw [z, k2] at q
          exact (nomatch q), fun z => by
          rw [z, hnT] at q
          cases q⟩
    have far0 : ∀ b o, X.s_0.heap.get? b = some o → b ≠ a ∧ b ≠ T := fun b o e => by
      obtain ⟨o', q⟩ := J.base.there b o e (by rw [hex]; simp)
      exact far b o' q
    have farP : ∀ p ∈ X.pn ++ pins, p.1 ≠ a ∧ p.1 ≠ T := fun p hp => far p.1 p.2 (J.pin p hp).1
    obtain ⟨G, g1, g2⟩ := restrict s6.heap fun b => !(decide (b = a) || decide (b = T))
    have gIn : ∀ b o, G.get? b = some o → s6.heap.get? b = some o ∧ b ≠ a ∧ b ≠ T := fun b o e => by
      cases q : (!(decide (b = a) || decide (b = T))) with
      | false =>
        rw [g2 b q] at e
        cases e
      | true =>
        rw [g1 b q] at e
        simp only [Bool.not_eq_true', Bool.or_eq_false_iff, decide_eq_false_iff_not] at q
        exact ⟨e, q.1, q.2⟩
    have gOf : ∀ b o, b ≠ a → b ≠ T → s6.heap.get? b = some o → G.get? b = some o := fun b o h1 h2 e => by
      rw [g1 b (by simp [h1, h2])]
      exact e
    have I6 : Inv X pins σ' H6 { s6 with heap := G } := J6.less (fun b o e => (gIn b o e).1) gOf ⟨oe, vs, ga, hd⟩ ⟨oT, ts, gT, hdT⟩ na6 nT6 far0 farP
    -- the ground behind the suite
    have B6in : ∀ b o, (PySem.W.hideAll G (frs X.stack)).get? b = some o → s6.heap.get? b = some o := fun b o e => (gIn b o (PySem.W.of_hideAll _ e)).1
    have Bno : ∀ b, (b = a ∨ b = T) → (PySem.W.hideAll G (frs X.stack)).get? b = none := fun b hb => by
      cases q : (PySem.W.hideAll G (frs X.stack)).get? b with
      | none => rfl
      | some o =>
        obtain ⟨_, n1, n2⟩ := gIn b o (PySem.W.of_hideAll _ q)
        rcases hb with z | z
        · exact absurd z n1
        · exact absurd z n2
    have fl6 : HandSPX.FlyingZ (PySem.W.hideAll G (frs X.stack)) (X.env :: X.outer) a (Zc (.ref c) d) s6.heap := by
      refine ⟨B6in, Bno a (.inl rfl), ?_, oe, vs, T, oT, ts, ga, hz, hd, hv1, Bno T (.inr rfl), hTe, gT, hdT, ht3⟩
      have ff := funFrames_none (B := PySem.W.hideAll G (frs X.stack)) J6.stack fun b hb => PySem.W.hideAll_none _ hb
      rw [← hs]
      exact ff
    refine wpAny_pure (wpAny_bind (wpAny_pure (wpAny_bind (wpAny_pure ?_))))
    show wpAny (model X.prog X.w) X.A (PySem.passOn "with" (.ref a) X.env) (SP X pins D) X.xe s6
    unfold PySem.passOn
    refine wpAny_bind (wpAny_field ga hd hv1 ?_)
    rw [if_neg (show ¬ ((Value.ref T == Value.none) = true) from by simp)]
    have goOn : wpAny (model X.prog X.w) X.A (setFlight (.ref a) X.env.frame) (fun _ s7 => wpAny (model X.prog X.w) X.A (throw (.ref a) : Sem Flow) (SP X pins D) X.xe s7) X.xe s6 := by
      rw [hf]
      refine HandSPX.setFlight_upZ fl6 fun h7 hh7 up7 => wpAny_throw (tk _ _ ?_)
      refine ⟨a, PySem.W.hideAll G (frs X.stack), { s6 with heap := G }, pins, σ', H6, .ref c, d, rfl, I6, fun b o e hb => PySem.W.hideAll_get _ e hb, ?_, .inr (.inr (by rw [← hs] at hh7; exact hh7)), na6, rfl, J6.bare, q6⟩
      exact Heap.UpToSlots.trans (Heap.UpToSlots.of_keeps fun b o e => (gIn b o e).1) up7
    first
      | exact wpAny_bind (wpAny_pure (wpAny_bind goOn))
      | exact wpAny_bind goOn
theorem ps_with {C fe : Addr} {fdE : FuncData} {psE : List Str} {spE : Sp} {kE : Nat} {ctx : Expr} {body : List Stmt} {tc : TE} {tb : WX → TS} (hs : X.stack = X.env :: X.outer) (hf : X.env.frame = some X.env.locals) (hex : X.ex = []) (tk : Takes X Wout)
    (he : PySem.W.findIn X.K (.ref C) "__enter__" = some (some (.ref fe))) (hfe : PySem.W.isFn X.K (.ref fe) = true) (hx : PySem.W.findIn X.K (.ref C) "__exit__" = some (some (.ref fx))) (hfx : PySem.W.isFn X.K (.ref fx) = true)
    (FE : FnA X.prog X.w X.K X.mg X.base kE fe fdE psE spE) (rE : L2H.RoomH kE X.A) (bE : Binds X.K fdE psE []) (FX : FnA X.prog X.w X.K X.mg X.base kX fx fdX ps spX) (rX : L2H.RoomH kX X.A) (bX : Binds X.K fdX ps [])
    (hc : PE X ctx tc) (hb : ∀ (W : WX) (pn : List (Addr × Obj)) (xe : Value → Shared → Prop), Takes (X.tr pn xe) W → PassesOwn (model X.prog X.w) X.A X.env xe → PSs (X.tr pn xe) body (tb W)) :
    PS X (.With [⟨ctx, none⟩] body pos) (tWith C spE spX tc tb Wout) := by
  refine ⟨fun pins s σ H D I h => ?_⟩
  rw [arm_exec_With]
  refine wpAny_bind (wpAny_standAt ?_)
  rw [arm_withItems_cons, arm_withItems_nil]
  have key : ∀ (v : Value) (s1 : Shared), EP X pins σ (fun m H1 => ∃ x dx fs, m = .ref x ∧ H1 x = some (.ins C dx fs) ∧ spE [.ref x] H1 (fun _ H2 => tb (wWith spX x Wout) (dWith spX x D) σ H2) E0) v s1 →
      wpAny (model X.prog X.w) X.A (withItem false ctx.pos X.env (pure v) none (execs body X.env)) (SP X pins D) X.xe s1 := by
    rintro v s1 ⟨m, H1, I1, r1, x, dx, fs, rfl, hx1, q1⟩
    cases (show v = Value.ref x from r1)
    obtain ⟨mA, Ob, _⟩ := ins_get I1.hok hx1
    obtain ⟨od, K1, _⟩ := Ob.look
    refine with_core I1.kIn K1 he hfe hx hfx (wpAny_mono (run_fnA (us := [.ref x]) (vs := [.ref x]) FE rE bE .nil I1 (.cons rfl .nil) q1) (fun v2 s2 z => ?_) fun _ _ z => z)
    obtain ⟨y, H2, I2, ry, q2⟩ := z
    refine wpAny_mono ((hb (wWith spX x Wout) (X.pn ++ pins) (fun u s' => wpAny (model X.prog X.w) X.A (noteFrame u X.env) (fun _ s2 => wpAny (model X.prog X.w) X.A (withRest2 x fx ctx.pos X.env u) (SP X pins D) X.xe s2) X.xe s') (fun u s' xx => with_exc (pins := pins) (D := D) (pos := ctx.pos) hs hf hex I.ok tk FX rX bX xx) PassesOwn.looking).run [] s2 σ H2 _ (I2.toTry _) q2) (fun f s3 z => ?_) fun _ _ z => wpAny_bind z
    cases f with
    | ret u =>
      obtain ⟨_, _, _, _, _, q⟩ := z
      exact False.elim q
    | brk | cont =>
      obtain ⟨_, _, _, q⟩ := z
      exact False.elim q
    | next =>
      obtain ⟨σ3, H3, I3, q3⟩ := z
      have J3 := I3.ofTry I.ok
      refine wpAny_mono (run_fnA (us := [.ref x, .none, .none, .none]) (vs := [.ref x, .non, .non, .non]) FX rX bX .nil J3 (.cons rfl (.cons rfl (.cons rfl (.cons rfl .nil)))) q3) (fun v4 s4 z => ?_) fun _ _ z => z
      obtain ⟨y4, H4, I4, _, q4⟩ := z
      exact ⟨σ3, H4, I4, q4⟩
  have run := hc.run pins s σ H _ I h
  unfold withItem
  refine wpAny_bind (wpAny_mono run (fun v s1 z => ?_) fun _ _ z => z)
  have k := key v s1 z
  unfold withItem at k
  exact k
end
end FG
namespace FG
open PySem PySem.Spec PyProof.Rows L2
/-! ## except C as n: raise E(..) from n -/
/-- the heap behind raise .. from e: field 3 is e, field 4 is True -/
def fromE (h : Heap) (a x1 : Addr) : Heap := (h.update a (Obj.mapFields (·.setIfInBounds 3 (.ref x1)))).update a (Obj.mapFields (·.setIfInBounds 4 (.bool true)))
theorem fromE_at {h : Heap} {a x1 : Addr} {oe : Obj} {vs : Array Value} (ha : h.get? a = some oe) (hd : oe.data = .fields vs) :
    (fromE h a x1).get? a = some ((oe.mapFields (·.setIfInBounds 3 (.ref x1))).mapFields (·.setIfInBounds 4 (.bool true))) ∧ ((oe.mapFields (·.setIfInBounds 3 (.ref x1))).mapFields (·.setIfInBounds 4 (.bool true))).data = .fields ((vs.setIfInBounds 3 (.ref x1)).setIfInBounds 4 (.bool true)) := by
  have hd3 := Obj.data_mapFields hd (·.setIfInBounds 3 (.ref x1))
  have ha3 := Heap.get?_update_self (Obj.mapFields (·.setIfInBounds 3 (.ref x1))) ha (Obj.isFreed_of_fields hd3)
  have hd4 := Obj.data_mapFields hd3 (·.setIfInBounds 4 (.bool true))
  exact ⟨Heap.get?_update_self (Obj.mapFields (·.setIfInBounds 4 (.bool true))) ha3 (Obj.isFreed_of_fields hd4), hd4⟩
theorem fromE_other {h : Heap} {a b x1 : Addr} (hne : a ≠ b) : (fromE h a x1).get? b = h.get? b := by
  unfold fromE
  rw [Heap.get?_update_other _ _ hne, Heap.get?_update_other _ _ hne]
theorem raise_made_hotF {prog : Program} {w : World} {A : Around} {E : Value → Shared → Prop} {env : Env} {s : Shared} {x c : Sem Value} {Q : Flow → Shared → Prop} {x1 : Addr}
    (h : wpAny (model prog w) A x (fun v s₁ => ∃ a oe vs cls, v = .ref a ∧ s₁.heap.get? a = some oe ∧ oe.cls = cls ∧ oe.data = .fields vs ∧ vs[1]? = some .none ∧ 4 < vs.size ∧ x1 ≠ a ∧ HotX.HotAt A x1 s₁.heap ∧ (∀ Q' : Value → Shared → Prop, Q' (.ref x1) s₁ → wpAny (model prog w) A c Q' E s₁) ∧ (∀ Q' : Value → Shared → Prop, Q' (.ref x1) s₁ → wpAny (model prog w) A (excFromValue (.ref x1) "exception causes must derive from BaseException") Q' E s₁) ∧
      PySem.W.Looks (model prog w) s₁.heap (isSubtype cls (.type "BaseException")) true ∧ PySem.W.Looks (model prog w) (fromE s₁.heap a x1) (typeOf cls) (.type "type") ∧
      E (.ref a) { s₁ with heap := (fromE s₁.heap a x1).update a (Obj.mapFields (·.setIfInBounds 2 (.ref x1))) }) E s) :
    wpAny (model prog w) A (raiseStmt env (some x) (some c)) Q E s := by
  unfold raiseStmt
  dsimp only
  refine wpAny_bind (wpAny_mono h (fun v s₁ h₁ => ?_) fun _ _ x => x)
  obtain ⟨a, oe, vs, cls, rfl, ha, hcls, hd, h1, hi, hne, hot, hcs, hce, L1, L3, hE⟩ := h₁
  have LT : PySem.W.Looks (model prog w) s₁.heap (typeOf (.ref a)) cls := fun A Q E s k q => wpAny_typeOf_ref (k _ _ ha) (by rw [hcls]; exact q)
  have LI : PySem.W.Looks (model prog w) s₁.heap (isInstance (.ref a) (.type "BaseException")) true := LT.andThen L1
  have hnt : ∀ {Q' : Bool → Shared → Prop}, Q' false s₁ → wpAny (model prog w) A (isType (.ref a)) Q' E s₁ := by
    intro Q' hq
    simp only [isType, loadHead]
    refine wpAny_bind (wpAny_loadPart ha ?_)
    rw [hd]; exact wpAny_pure hq
  have hd3 := Obj.data_mapFields hd (·.setIfInBounds 3 (.ref x1))
  have ha3 := Heap.get?_update_self (Obj.mapFields (·.setIfInBounds 3 (.ref x1))) ha (Obj.isFreed_of_fields hd3)
  obtain ⟨ha4, hd4⟩ := fromE_at ha hd
  have s3 : 3 < vs.size := by omega
  have s4 : 4 < (vs.setIfInBounds 3 (Value.ref x1)).size := by rw [HotX.set_size]; exact hi
  have s2 : 2 < ((vs.setIfInBounds 3 (Value.ref x1)).setIfInBounds 4 (Value.bool true)).size := by rw [HotX.set_size, HotX.set_size]; omega
  have h14 : ((vs.setIfInBounds 3 (Value.ref x1)).setIfInBounds 4 (Value.bool true))[1]? = some Value.none := HotX.set_other (by decide) (HotX.set_other (by decide) h1)
  have hcls4 : ((oe.mapFields (·.setIfInBounds 3 (.ref x1))).mapFields (·.setIfInBounds 4 (.bool true))).cls = cls := by rw [Obj.cls_mapFields, Obj.cls_mapFields]; exact hcls
  have LT4 : PySem.W.Looks (model prog w) (fromE s₁.heap a x1) (typeOf (.ref a)) cls := fun A Q E s k q => wpAny_typeOf_ref (k _ _ ha4) (by rw [hcls4]; exact q)
  have hnt4 : ∀ {Q' : Bool → Shared → Prop}, Q' false { s₁ with heap := fromE s₁.heap a x1 } → wpAny (model prog w) A (isType (.ref a)) Q' E { s₁ with heap := fromE s₁.heap a x1 } := by
    intro Q' hq
    simp only [isType, loadHead]
    refine wpAny_bind (wpAny_loadPart ha4 ?_)
    rw [hd4]; exact wpAny_pure hq
  have hot4 : HotX.HotAt A x1 (fromE s₁.heap a x1) := by
    obtain ⟨q1, o, vs', q2, q3, q4⟩ := hot
    exact ⟨q1, o, vs', by rw [fromE_other (Ne.symm hne)]; exact q2, q3, q4⟩
  -- what stands behind the two stores
  have rest : wpAny (model prog w) A (do
      let b ← isType (.ref a)
      if b = true then do
        let e ← holding [.ref a] (raisedFor (.ref a) (.ref a))
        setFlight e none
        raiseNew e
      else do
        let e ← raisedInstance (.ref a)
        setFlight e none
        raiseNew e : Sem Flow) Q E { s₁ with heap := fromE s₁.heap a x1 } := by
    refine wpAny_bind (hnt4 ?_)
    simp only [Bool.false_eq_true, if_false]
    unfold raisedInstance
    refine wpAny_bind (wpAny_bind (LT4.here (wpAny_bind (L3.here ?_))))
    rw [if_pos (beq_self_eq_true _)]
    refine wpAny_pure ?_
    unfold setFlight
    refine wpAny_bind (wpAny_bind (wpAny_field ha4 hd4 h14 ?_))
    rw [if_neg (by decide)]
    refine wpAny_pure ?_
    exact HotX.raiseNew_hot hot4 hne ha4 hd4 s2 hE
  refine wpAny_bind (wpAny_holding (hcs _ (wpAny_bind (wpAny_pure ?_))))
  dsimp only
  refine wpAny_bind (wpAny_holding ?_)
  unfold excFromValue isExcClass
  refine wpAny_bind (wpAny_bind (hnt ?_))
  simp only [Bool.false_eq_true, if_false]
  refine wpAny_pure ?_
  simp only [Bool.false_eq_true, if_false]
  refine wpAny_bind (LI.here ?_)
  simp only [if_true]
  refine wpAny_pure ?_
  rw [if_neg (show ¬ ((Value.ref x1 == Value.none) = true) from by simp)]
  first
  | refine wpAny_bind (wpAny_holding (hce _ (wpAny_bind (wpAny_setField ha hd s3 (wpAny_bind (wpAny_setField ha3 hd3 s4 ?_))))))
  | refine wpAny_bind (wpAny_bind (wpAny_holding (hce _ (wpAny_bind (wpAny_setField ha hd s3 (wpAny_setField ha3 hd3 s4 ?_))))))
  | refine wpAny_bind (wpAny_holding (hce _ (wpAny_bind (wpAny_bind (wpAny_setField ha hd s3 (wpAny_bind (wpAny_setField ha3 hd3 s4 ?_)))))))
  first
  | exact rest
  | (dsimp only; exact rest)
  | (refine wpAny_pure ?_; exact rest)
/-- what the clause wishes of what flies: a new error is made and flies on -/
def wRef (K : PySem.W.Frag) (c : Value) (i : Nat) (t : L2.St → Hp → XK → Prop) (Wout : WX) : WX := fun cls d σ H => PySem.W.subIn K cls (.type "BaseException") = some true ∧ ∃ b, PySem.W.exmOne K cls c = some b ∧
  (b = true → ∀ a, H a = none → t (σ.set i (some (.ref a))) H fun cls2 d2 H2 => Wout cls2 d2 ((σ.set i (some (.ref a))).set i none) H2) ∧ (b = false → Wout cls d σ H)
section
variable {X : Cx} {pins : List (Addr × Obj)} {σ : L2.St} {H : Hp} {cls : Value} {d : Option Addr} {a : Addr} {B : Heap} {sI s : Shared} {Wout : WX} {i : Nat} {n : Str} {t : L2.St → Hp → XK → Prop}
/-- the new error in the suite: the frame notes it, the name goes, on it flies -/
theorem refuse_out {K9 : Value → Shared → Prop} {p2 : Pos} (hs : X.stack = X.env :: X.outer) (hf : X.env.frame = some X.env.locals) (hex : X.ex = []) (ok : X.Ok) (nd : X.N.Nodup) (sl : X.N[i]? = some n) (lo : X.env.kindOf n = some .local) (tk : Takes X Wout)
    {A' : Around} (hA : A'.frames = X.A.frames) (hpa : ∀ e s, X.xe e s → K9 e s) {q1 : Addr × Obj} {σ5 : L2.St} {H2 : Hp} {s9 : Shared} {a2 : Addr} {o9 : Obj} {vs9 : Array Value} {cls2 : Value} {d2 : Option Addr}
    (J : Inv (X.suite a (q1 :: (X.pn ++ pins))) [] σ5 H2 sI) (k : ∀ b o, sI.heap.get? b = some o → s9.heap.get? b = some o) (hne : sI.heap.get? a2 = none) (he : s9.heap.get? a2 = some o9) (hz : Zc cls2 d2 o9) (hd : o9.data = .fields vs9) (h1 : vs9[1]? = some .none)
    (na : H2 a2 = none) (os : s9.os = sI.os) (ag : AllBare s9.gens) (w : Wout cls2 d2 (σ5.set i none) H2) {Q9 : Flow → Shared → Prop} {E1 E2 : Value → Shared → Prop} :
    wpAny (model X.prog X.w) A' (noteFrame (.ref a2) X.env) (fun _ s10 => wpAny (model X.prog X.w) A' (do bindName X.env n .none; unbindBehindTheSuite X.env n p2)
      (fun _ s11 => wpAny (model X.prog X.w) A' (PySem.passOn "try.except-as" (.ref a2) X.env : Sem Flow) Q9 K9 s11) E2 s10) E1 s9 := by
  have hfr : A'.frames = some (X.env :: X.outer) := by rw [hA, ok.frames, hs]
  have st9 : (PySem.W.hideAll sI.heap (frs X.stack)).StaysIn s9.heap := fun b o e => k b o (PySem.W.of_hideAll _ e)
  have hen : (PySem.W.hideAll sI.heap (frs X.stack)).get? a2 = none := by
    cases q : (PySem.W.hideAll sI.heap (frs X.stack)).get? a2 with
    | none => rfl
    | some o =>
      have z := PySem.W.of_hideAll _ q
      rw [hne] at z
      cases z
  have ff9 : s9.heap.FunFrames (PySem.W.hideAll sI.heap (frs X.stack)) (X.env :: X.outer) := by
    rw [← hs]
    exact Heap.FunFrames.of_keeps (fun b o e _ => ⟨o, k b o e, rfl⟩) (funFrames_none (show sI.heap.FunFrames _ X.stack from J.stack) fun b hb => PySem.W.hideAll_none _ hb)
  refine HandSPX.look_newZ Zc.steady hfr ff9 hf he st9 hen hd h1 hz fun h10 hh up => ?_
  have J10 : Inv (X.suite a (q1 :: (X.pn ++ pins))) [] σ5 H2 { s9 with heap := h10 } := J.landed (B := PySem.W.hideAll sI.heap (frs X.stack)) (fun b o e hb => PySem.W.hideAll_get _ e hb) hh.1 ((Heap.UpToSlots.of_keeps k).trans up) os ag
  obtain ⟨k1, k2, k3, oA, vA, T, oT, ts, heA, hzA, hdA, hv1, hnT, hTe, hT, hdT, ht3⟩ := id hh
  have nT : H2 T = none := (J.inGround (fun b o e hb => PySem.W.hideAll_get _ e hb)).gone hnT
  have notFr : ∀ (b : Addr) (o : Obj) (fv : Array Value), h10.get? b = some o → o.data = .fields fv → b ∉ frs (X.env :: X.outer) := fun b o fv e dd hm => by
    obtain ⟨_, o', e', hnf⟩ := k3.mem hm
    have eo : o = o' := Option.some.inj (e.symm.trans e')
    rw [← eo] at hnf
    exact hnf _ dd
  have locF : X.env.locals ∈ frs (X.env :: X.outer) := List.mem_filterMap.mpr ⟨X.env, List.mem_cons_self, hf⟩
  have fsF : ∀ b, b ∈ X.fs → b ∈ frs (X.env :: X.outer) := fun b hm => by
    obtain ⟨e, he, q⟩ := List.mem_filterMap.mp hm
    exact List.mem_filterMap.mpr ⟨e, List.mem_cons_of_mem _ he, q⟩
  have fa := notFr a2 oA vA heA hdA
  have fT := notFr T oT ts hT hdT
  have I10 : Inv (X.suite a (q1 :: (X.pn ++ pins))) [(a2, oA), (T, oT)] σ5 H2 { s9 with heap := h10 } :=
    ⟨J10.ok, J10.os, J10.bare, J10.base, J10.loc, J10.cell, J10.free, J10.freeC, fun p hp => by
      rcases List.mem_append.mp hp with hp | hp
      · exact J10.pin p (List.mem_append_left _ hp)
      · rcases List.mem_cons.mp hp with z | hp
        · rw [z]
          exact ⟨heA, na, fun z2 => fa (by rw [show a2 = X.env.locals from z2]; exact locF), fun z2 => fa (fsF _ z2), fun v z2 => by
            have z3 : oA.data = .cell v := z2
            rw [hdA] at z3
            cases z3⟩
        · rw [List.mem_singleton.mp hp]
          exact ⟨hT, nT, fun z2 => fT (by rw [show T = X.env.locals from z2]; exact locF), fun z2 => fT (fsF _ z2), fun v z2 => by
            have z3 : oT.data = .cell v := z2
            rw [hdT] at z3
            cases z3⟩, J10.hok, J10.len⟩
  refine gone_ok (X := X.suite a (q1 :: (X.pn ++ pins))) I10 nd sl lo fun s6 I11 => ?_
  have J6 : Inv X pins (σ5.set i none) H2 s6 := I11.unsuite ok
  have ga : s6.heap.get? a2 = some oA := (I11.pin (a2, oA) (List.mem_append_right _ List.mem_cons_self)).1
  have gT : s6.heap.get? T = some oT := (I11.pin (T, oT) (List.mem_append_right _ (List.mem_cons_of_mem _ List.mem_cons_self))).1
  have far : ∀ b o, sI.heap.get? b = some o → b ≠ a2 ∧ b ≠ T := fun b o e => by
    by_cases hb : b ∈ frs X.stack
    · rw [hs] at hb
      exact ⟨fun z => fa (by rw [← z]; exact hb), fun z => fT (by rw [← z]; exact hb)⟩
    · have q := PySem.W.hideAll_get _ e hb
      exact ⟨fun z => by
        rw [z, k2] at q
        exact (nomatch q), fun z => by
        rw [z, hnT] at q
        cases q⟩
  have far0 : ∀ b o, X.s_0.heap.get? b = some o → b ≠ a2 ∧ b ≠ T := fun b o e => by
    obtain ⟨o', q⟩ := J.base.there b o e (by show b ∉ X.ex; rw [hex]; simp)
    exact far b o' q
  have farP : ∀ p ∈ X.pn ++ pins, p.1 ≠ a2 ∧ p.1 ≠ T := fun p hp => far p.1 p.2 (J.pin p (List.mem_append_left _ (List.mem_cons_of_mem _ hp))).1
  obtain ⟨G, g1, g2⟩ := restrict s6.heap fun b => !(decide (b = a2) || decide (b = T))
  have gIn : ∀ b o, G.get? b = some o → s6.heap.get? b = some o ∧ b ≠ a2 ∧ b ≠ T := fun b o e => by
    cases q : (!(decide (b = a2) || decide (b = T))) with
    | false =>
      rw [g2 b q] at e
      cases e
    | true =>
      rw [g1 b q] at e
      simp only [Bool.not_eq_true', Bool.or_eq_false_iff, decide_eq_false_iff_not] at q
      exact ⟨e, q.1, q.2⟩
  have gOf : ∀ b o, b ≠ a2 → b ≠ T → s6.heap.get? b = some o → G.get? b = some o := fun b o h1 h2 e => by
    rw [g1 b (by simp [h1, h2])]
    exact e
  have I6 : Inv X pins (σ5.set i none) H2 { s6 with heap := G } := J6.less (fun b o e => (gIn b o e).1) gOf ⟨oA, vA, ga, hdA⟩ ⟨oT, ts, gT, hdT⟩ na nT far0 farP
  have B6in : ∀ b o, (PySem.W.hideAll G (frs X.stack)).get? b = some o → s6.heap.get? b = some o := fun b o e => (gIn b o (PySem.W.of_hideAll _ e)).1
  have Bno : ∀ b, (b = a2 ∨ b = T) → (PySem.W.hideAll G (frs X.stack)).get? b = none := fun b hb => by
    cases q : (PySem.W.hideAll G (frs X.stack)).get? b with
    | none => rfl
    | some o =>
      obtain ⟨_, n1, n2⟩ := gIn b o (PySem.W.of_hideAll _ q)
      rcases hb with z | z
      · exact absurd z n1
      · exact absurd z n2
  have ff6 : s6.heap.FunFrames (PySem.W.hideAll G (frs X.stack)) X.stack := funFrames_none (B := PySem.W.hideAll G (frs X.stack)) J6.stack fun b hb => PySem.W.hideAll_none _ hb
  have nb6 : ∀ b o, G.get? b = some o → b ∉ frs X.stack → (PySem.W.hideAll G (frs X.stack)).get? b = some o := fun b o e hb => PySem.W.hideAll_get _ e hb
  generalize PySem.W.hideAll G (frs X.stack) = B6 at B6in Bno ff6 nb6
  unfold PySem.passOn
  refine wpAny_bind (wpAny_field ga hdA hv1 ?_)
  rw [if_neg (show ¬ ((Value.ref T == Value.none) = true) from by simp)]
  have goOn : wpAny (model X.prog X.w) A' (setFlight (.ref a2) X.env.frame) (fun _ s7 => wpAny (model X.prog X.w) A' (throw (.ref a2) : Sem Flow) Q9 K9 s7) K9 s6 := by
    rw [hf]
    refine HandSPX.setFlight_anyZ (Z := Zc cls2 d2) B6in ff6 ⟨oA, vA, T, oT, ts, ga, hzA, hdA, hv1, Bno T (.inr rfl), hTe, gT, hdT, ht3⟩ fun h7 z1 z2 z3 up7 => wpAny_throw (hpa _ _ (tk _ _ ?_))
    exact ⟨a2, B6, { s6 with heap := G }, pins, σ5.set i none, H2, cls2, d2, rfl, I6, nb6, Heap.UpToSlots.trans (Heap.UpToSlots.of_keeps fun b o e => (gIn b o e).1) up7, .inr (.inr ⟨z1, Bno a2 (.inl rfl), z2, z3⟩), na, rfl, J6.bare, w⟩
  first
    | exact wpAny_bind (wpAny_pure (wpAny_bind goOn))
    | exact wpAny_bind goOn
theorem ld_loc {E : Value → Shared → Prop} {i : Nat} {x : Str} {a : Addr} {pos : Pos} {Q : Value → Shared → Prop} (I : Inv X pins σ H s) (hN : X.N[i]? = some x) (lo : X.env.kindOf x = some .local) (hv : σ[i]? = some (some (.ref a))) (hd : (x == ("__debug__" : Str)) = false) (h : Q (.ref a) s) :
    wpAny (model X.prog X.w) X.A (eval (.Name x pos) X.env) Q E s := by
  obtain ⟨m, hn, hl⟩ := I.loc
  obtain ⟨u, r, l⟩ := hl i x _ hN hv (.inl lo)
  cases (show u = Value.ref a from r)
  rcases l with ⟨hk, hm⟩ | ⟨hk, c, hc, hcell⟩
  · exact wpAny_Name (wpAny_loadName_local I.ok.kind hk hn hm h) hd
  · rcases hk with hk | hk
    · exact absurd (lo.symm.trans hk) (by intro z; cases z)
    · exact absurd (lo.symm.trans hk) (by intro z; cases z)
theorem refuse_run {x : Str} {c : Value} {e : Expr} {p1 p2 cp rp : Pos} {D : Ends} (L : LandedN X pins σ H cls d a B sI s) (hs : X.stack = X.env :: X.outer) (hf : X.env.frame = some X.env.locals) (hex : X.ex = []) (nd : X.N.Nodup) (sl : X.N[i]? = some n) (lo : X.env.kindOf n = some .local)
    (nn : (n == ("__debug__" : Str)) = false) (nc : (n == ("__classdict__" : Str)) = false) (nm : Names X x c) (hpa : ∀ hd : Option Value, PassesOwnAt (model X.prog X.w) (X.A.mark hd) X.A X.env X.xe) (tk : Takes X Wout)
    (hme : ∀ (a : Addr) (pn : List (Addr × Obj)), L2H.PMk5 (X.suite a pn) e t) (w : wRef X.K c i t Wout cls d σ H) :
    wpAny (model X.prog X.w) X.A (handleBy (.ref a) X.env [.ExceptHandler (some (.Name x p1)) (some n) [.Raise (some e) (some (.Name n cp)) rp] p2]) (SP X pins D) X.xe s := by
  obtain ⟨hbe, b, ee, yes, no⟩ := w
  obtain ⟨oe, vs, g1, g2, g3, S⟩ := L.suite hf
  have ty : PySem.W.Looks (model X.prog X.w) s.heap (typeOf (.ref a)) cls := fun _ _ _ _ k q => wpAny_typeOf_ref (k _ _ g1) (by rw [g2.1]; exact q)
  refine wpAny_handleBy_cons (codeAny_handlers_test (names_run nm S ((PySem.W.exm_one (M := model X.prog X.w) L.here.kIn ty ee).here ?_))) (fun z => by cases z)
  cases b with
  | false => exact none_names ⟨L.inv, L.nb, L.up, L.na, L.os, L.ag, L2H.flyingZ_imp (fun o z => z.zc) L.fl⟩ hs hf tk (no rfl)
  | true =>
    refine codeAny_handlers_suite_as (HandSPX.lands_againZ L.fl fun h4 fl4 up4 => ?_)
    obtain ⟨oe4, vs4, k1, k2, k3, S4⟩ := (L.again fl4 up4).suite hf
    refine store_ok (X := X.suite a ((a, oe4) :: (X.pn ++ pins))) (v := .ref a) S4 nd sl (.inl lo) rfl (fun s5 S5 => ?_) (.inr lo)
    refine wpAny_execs_cons ?_
    show wpAny _ _ (do standAt rp; raiseStmt X.env (some (do let v ← eval e X.env; standAt rp; pure v)) (some (do let v ← eval (.Name n cp) X.env; standAt rp; pure v))) _ _ _
    refine wpAny_bind (wpAny_standAt (raise_made_hotF (x1 := a) (wpAny_bind (wpAny_mono (hme a ((a, oe4) :: (X.pn ++ pins)) [] s5 _ H _ S5 (yes rfl a L.na)) (fun u s1 hu => wpAny_bind (wpAny_standAt (wpAny_pure ?_))) fun _ _ z => False.elim z))))
    obtain ⟨⟨a2, oe2, vs2, sI2, H2, cls2, d2, rfl, J, k, hne, ha2, hz2, hd2, h12, na2, os2, ag2, r, q⟩, h5⟩ := hu
    have P1 : sI2.heap.get? a = some oe4 := (J.pin (a, oe4) (List.mem_append_left _ List.mem_cons_self)).1
    have nap : a ≠ a2 := fun z => by
      rw [z, hne] at P1
      cases P1
    have g1' : s1.heap.get? a = some oe4 := k _ _ P1
    have hi : 4 < vs2.size := h5 a2 oe2 vs2 rfl ha2 hd2
    have k4 : ∀ b u, sI2.heap.get? b = some u → (fromE s1.heap a2 a).get? b = some u := fun b u z => by
      have nab : a2 ≠ b := fun y => by
        rw [← y, hne] at z
        cases z
      rw [fromE_other nab]
      exact k b u z
    obtain ⟨r1, _⟩ := r (model X.prog X.w) s1.heap (J.kIn.keeps k)
    obtain ⟨_, r2⟩ := r (model X.prog X.w) (fromE s1.heap a2 a) (J.kIn.keeps k4)
    obtain ⟨ha4, hd4⟩ := fromE_at (x1 := a) ha2 hd2
    have J1 : Inv (X.suite a ((a, oe4) :: (X.pn ++ pins))) [] (σ.set i (some (.ref a))) H2 s1 := J.landed (B := sI2.heap) (fun b o e _ => e) k (Heap.UpToSlots.of_keeps k) os2 ag2
    have hin : (σ.set i (some (V.ref a)))[i]? = some (some (V.ref a)) := by
      have hl : i < σ.length := by
        have := L.inv.len
        rw [this]
        exact (List.getElem?_eq_some_iff.mp sl).1
      simp [hl]
    have LT : PySem.W.Looks (model X.prog X.w) s1.heap (typeOf (.ref a)) cls := fun _ _ _ _ kk q => wpAny_typeOf_ref (kk _ _ g1') (by rw [k2.1]; exact q)
    refine ⟨a2, oe2, vs2, cls2, rfl, ha2, hz2.1, hd2, h12, hi, nap, ⟨rfl, oe4, vs4, g1', k3, k2.2.2 vs4 k3⟩, fun Q' q' => ?_, fun Q' q' => ?_, r1, r2, ?_⟩
    · exact wpAny_bind (ld_loc (X := X.suite a ((a, oe4) :: (X.pn ++ pins))) J1 sl lo hin nn (wpAny_bind (wpAny_standAt (wpAny_pure q'))))
    · unfold excFromValue isExcClass
      have hnt : ∀ {Q2 : Bool → Shared → Prop} {E2 : Value → Shared → Prop}, Q2 false s1 → wpAny (model X.prog X.w) (X.A.mark (some (.ref a))) (isType (.ref a)) Q2 E2 s1 := by
        intro Q2 E2 hq
        simp only [isType, loadHead]
        refine wpAny_bind (wpAny_loadPart g1' ?_)
        rw [k3]
        exact wpAny_pure hq
      refine wpAny_bind (wpAny_bind (hnt ?_))
      simp only [Bool.false_eq_true, if_false]
      refine wpAny_pure ?_
      simp only [Bool.false_eq_true, if_false]
      have LI : PySem.W.Looks (model X.prog X.w) s1.heap (isInstance (.ref a) (.type "BaseException")) true := LT.andThen (PySem.W.looks_subIn (J.kIn.keeps k) hbe)
      refine wpAny_bind (LI.here ?_)
      simp only [if_true]
      exact wpAny_pure q'
    · have h12' : (((vs2.setIfInBounds 3 (Value.ref a)).setIfInBounds 4 (Value.bool true)).setIfInBounds 2 (Value.ref a))[1]? = some Value.none := HotX.set_other (by decide) (HotX.set_other (by decide) (HotX.set_other (by decide) h12))
      have hd9 := Obj.data_mapFields hd4 (·.setIfInBounds 2 (Value.ref a))
      have he9 := Heap.get?_update_self (Obj.mapFields (·.setIfInBounds 2 (Value.ref a))) ha4 (Obj.isFreed_of_fields hd9)
      refine refuse_out (X := X) (A' := X.A.mark (some (.ref a))) (s9 := { s1 with heap := (fromE s1.heap a2 a).update a2 (Obj.mapFields (·.setIfInBounds 2 (Value.ref a))) }) (a := a) (q1 := (a, oe4)) (pins := pins) hs hf hex L.inv.ok nd sl lo tk rfl (hpa (some (.ref a))) J (fun b u z => ?_) hne he9
        ⟨by rw [Obj.cls_mapFields, Obj.cls_mapFields, Obj.cls_mapFields]; exact hz2.1, by rw [HandSPX.dict_mapFields, HandSPX.dict_mapFields, HandSPX.dict_mapFields]; exact hz2.2.1⟩ hd9 h12' na2 os2 ag2 q
      have nab : a2 ≠ b := fun y => by
        rw [← y, hne] at z
        cases z
      show ((fromE s1.heap a2 a).update a2 (Obj.mapFields (·.setIfInBounds 2 (.ref a)))).get? b = some u
      rw [Heap.get?_update_other _ _ nab]
      exact k4 b u z
end
theorem ps_refuse {X : Cx} {x n : Str} {c : Value} {i : Nat} {body : List Stmt} {e : Expr} {np cp rp pos pos' : Pos} {tb : WX → TS} {t : L2.St → Hp → XK → Prop} {Wout : WX} (hs : X.stack = X.env :: X.outer) (hf : X.env.frame = some X.env.locals) (hex : X.ex = []) (nd : X.N.Nodup) (sl : X.N[i]? = some n)
    (lo : X.env.kindOf n = some .local) (nn : (n == ("__debug__" : Str)) = false) (nc : (n == ("__classdict__" : Str)) = false) (nm : Names X x c) (hpa : ∀ hd : Option Value, PassesOwnAt (model X.prog X.w) (X.A.mark hd) X.A X.env X.xe) (tk : Takes X Wout)
    (hb : ∀ (W : WX) (pn : List (Addr × Obj)) (xe : Value → Shared → Prop), L2N.Takes (X.tr pn xe) W → PassesOwn (model X.prog X.w) X.A X.env xe → PSs (X.tr pn xe) body (tb W)) (hme : ∀ (a : Addr) (pn : List (Addr × Obj)), L2H.PMk5 (X.suite a pn) e t) :
    PS X (.Try body [.ExceptHandler (some (.Name x np)) (some n) [.Raise (some e) (some (.Name n cp)) rp] pos'] [] [] pos) (fun D σ H => tb (wRef X.K c i t Wout) D σ H) := by
  refine ⟨fun pins s σ H D I h => wpAny_Try_except (wpAny_mono ((hb (wRef X.K c i t Wout) (X.pn ++ pins) _ (fun u s' xx => ?_) PassesOwn.looking).run [] s σ H D (I.toTry _) h) (fun f s1 z => ?_) fun _ _ z => z)⟩
  · obtain ⟨a, B, sI, _, σ1, H1, cls, d, rfl, J, nb, up, sky, na, os, ag, w⟩ := xx
    have sky' : Sky B (X.env :: X.outer) a (L2N.Zn cls d) X.env.locals s'.heap := by rw [← hs]; exact sky
    exact L2N.Sky.land L2N.Zn.steady (by rw [I.ok.frames, hs]) hf sky' fun h3 fl3 up3 => refuse_run (s := { s' with heap := h3 }) ⟨J.ofTry I.ok, nb, up.trans up3, na, os, ag, fl3⟩ hs hf hex nd sl lo nn nc nm hpa tk hme w
  · cases f with
    | ret u =>
      obtain ⟨v, σ1, H1, J, r, q⟩ := z
      exact ⟨v, σ1, H1, J.ofTry I.ok, r, q⟩
    | next =>
      obtain ⟨σ1, H1, J, q⟩ := z
      exact wpAny_execs_nil ⟨σ1, H1, J.ofTry I.ok, q⟩
    | brk | cont =>
      obtain ⟨σ1, H1, J, q⟩ := z
      exact ⟨σ1, H1, J.ofTry I.ok, q⟩
end FG
namespace FG
open PySem PySem.Spec PyProof.Rows L2
/-! ## an own error made in an except suite -/
theorem six_of {h h' : Heap} {e C dx : Addr} {m : Str → Option Value} {s' : Shared} (M : Made h h' e C dx m) (hs : s'.heap = h' := by rfl) : L2H.Six (.ref e) s' := by
  intro a oe vs ea hg hd
  obtain ⟨oe', vs', h1, _, _, h4, _, _, h5⟩ := M.obj
  cases ea
  rw [hs, h1] at hg
  cases hg
  rw [h4] at hd
  cases hd
  exact h5
section
variable {X : Cx} {nm qn f f2 msg : Str} {ps : Arguments} {bd : List Stmt} {sc : Scope} {C fI cc cda : Addr} {a a2 : Expr} {ta tb : TE} {p pos : Pos} {k : Nat}
theorem pmk1F {as : List Expr} {ta : TA} (T : ErrC X.prog X.K X.mg nm qn ps bd sc C fI cc cda) (Y : Txt1 qn f msg ps bd sc) (no : PySem.W.findIn X.K (.ref C) f = some none) (hdp : X.A.depth + 1 < recursionLimit) (ha : PA X (a :: as) ta) (hg : Gl X nm := by rfl) (hdb : (nm == ("__debug__" : Str)) = false := by decide)
    (he : starEach (a :: as) X.env = (false, eval a X.env) :: starEach as X.env := by rfl) (hpl : (backTo pos (starEach as X.env)).any (·.1) = false := by rfl) : L2H.PMk5 X (.Call (.Name nm p) (a :: as) [] pos) (tMk1 C f ta) := by
  intro pins s σ H Q I h
  refine wpAny_Call_Name_kw (ld_glob I hg T.gC ?_ hdb)
  refine PySem.W.callWith_K (h₀ := X.base) I.ok.mod.kin T.kC (thn (ha.run pos pins s σ H _ I h) fun us s1 ⟨vs, H1, I1, r1, v, ev, q1⟩ => ⟨I1.kIn, ?_⟩) he hpl
  subst ev
  have Nm := names_of I1
  have lim := I1.nolimit
  have KI := I1.kIn
  cases r1 with
  | @cons _ u1 _ ur rv rn =>
    cases rn
    obtain ⟨hp, g, dr, tk, os⟩ := s1
    exact wpAny_call (made_of (m := fun y => if y = f then some u1 else none) T KI lim Nm (ve_len _) (fun A' hp' x t0 R' x1 x2 x3 x4 x5 x6 x7 => init1 T Y no x1 x2 x3 x4 x5 x6 x7) hdp fun h' tk' e d M => ⟨mkp_ofN T I1 M (relO1 rv) q1, six_of M⟩)
end
/-! ## a def whose exceptions have the context None lets out exceptions -/
theorem FnOk.weak {P : Program} {w : World} {K : PySem.W.Frag} {mg : Str → Option Value} {base : Heap} {k : Nat} {f : Addr} {fd : FuncData} {ps : List Str} {sp : Sp} (F : FnOk P w K mg base (L2N.CX P w) k f fd ps sp) : FnOk P w K mg base (L2.CX P w) k f fd ps sp := by
  refine ⟨F.len, fun A outer s H args us vs Q E hr e0 hb r h => codeAny_mono (F.run A outer s H args us vs Q E hr e0 hb r h) fun res s' z => ?_⟩
  match res, z with
  | .ok (.ret u), z => exact z
  | .ok .next, z => exact z
  | .ok .brk, z => exact z
  | .ok .cont, z => exact z
  | .error e, z =>
    obtain ⟨a, B, H', cls, d, rfl, fl, hok, ub, na, os, ag, hE⟩ := z
    exact ⟨a, B, H', cls, d, rfl, L2H.flyingZ_imp (fun o z => z.zc) fl, hok, ub, na, os, ag, hE⟩
/-! ## o.f = .. as one of several targets -/
def gFld (K : PySem.W.Frag) (to : TE) (f : Str) : TG := fun v σ H Q => to σ H fun x H1 => ∃ a C dx fs, x = .ref a ∧ H1 a = some (.ins C dx fs) ∧ Cls K C ∧ NoAttr K C f ∧ fs.length < 1000 ∧ Q σ (upd H1 a (.ins C dx (putF f v fs)))
theorem pg_fld {X : Cx} {o : Expr} {to : TE} {f : Str} {pos : Pos} (ho : PE X o to) : PG X (.Attribute o f pos) (gFld X.K to f) := by
  refine ⟨fun pins s σ H v u Q I r h => ?_⟩
  rw [assign_Attribute]
  refine wpAny_bind (wpAny_holding (thn (ho.run pins s σ H _ I h) fun ov s1 ⟨x, H1, I1, rx, a, C, dx, fs, ex, ea, c, n, l, q⟩ => ?_))
  subst ex
  cases (show ov = Value.ref a from rx)
  exact wpAny_bind (wpAny_standAt (wpAny_bind (wpAny_holding (setattr_ok I1 ea c n l r fun s3 I3 => wpAny_release ⟨σ, _, I3, q⟩))))
/-! ## o[k] = v by an own __setitem__ that may raise -/
def gSetO (C : Addr) (sp : Sp) (E : L2.St → XK) (to ti : TE) : TG := fun v σ H Q => to σ H fun x H1 => ti σ H1 fun y H2 => ∃ a dx fs, x = .ref a ∧ H2 a = some (.ins C dx fs) ∧ sp [.ref a, y, v] H2 (fun _ H3 => Q σ H3) (E σ)
theorem pg_setO {X : Cx} {CX : CXT} {k : Nat} {C f : Addr} {fd : FuncData} {ps : List Str} {sp : Sp} {E : L2.St → XK} {o i : Expr} {to ti : TE} {pos : Pos} (ho : PE X o to) (hi : PE X i ti) (hq : PySem.W.noSeq X.K C = true) (hs : PySem.W.findIn X.K (.ref C) "__setitem__" = some (some (.ref f)))
    (hf : PySem.W.isFn X.K (.ref f) = true) (F : FnOk X.prog X.w X.K X.mg X.base CX k f fd ps sp) (hr : Room k X.A) (hb : Binds X.K fd ps []) (hx : ∀ σ, PassesAt CX X σ (E σ))
    (ha : ∀ v, assign (.Subscript o i pos) X.env v = (do
      let ov ← holding [v] (eval o X.env)
      let iv ← holding [v, ov] (eval i X.env)
      standAt pos
      holding [v, ov, iv] (setItem ov iv v)
      release [v, ov, iv] []) := by intro _; rfl) : PG X (.Subscript o i pos) (gSetO C sp E to ti) := by
  refine ⟨fun pins s σ H v u Q I r h => ?_⟩
  rw [ha]
  refine wpAny_bind (wpAny_holding (thn (ho.run pins s σ H _ I h) fun ov s1 ⟨x, H1, I1, rx, q1⟩ => ?_))
  refine wpAny_bind (wpAny_holding (thn (hi.run pins s1 σ H1 _ I1 q1) fun iv s2 ⟨y, H2, I2, ry, a, dx, fs, ex, ea, q⟩ => ?_))
  subst ex
  cases (show ov = Value.ref a from rx)
  obtain ⟨mA, Ob, _⟩ := ins_get I2.hok ea
  obtain ⟨od, J, _⟩ := Ob.look
  obtain ⟨m, fr⟩ := I2.fr
  refine wpAny_bind (wpAny_standAt (wpAny_bind (wpAny_holding (PySem.W.ksp_setItem fr I.ok.mod.kin J hq hs hf (thn (run_fnSD (E := E) (us := [.ref a, iv, u]) (vs := [.ref a, y, v]) (dvs := []) F hr hb .nil (hx σ) I2 (.cons rfl (.cons ry (.cons r .nil))) q) fun w s3 z => ?_)))))
  obtain ⟨_, H3, I3, _, q3⟩ := z
  exact wpAny_release ⟨σ, H3, I3, q3⟩
/-! ## len(o) by an own __len__ -/
theorem call_lenO {X : Cx} {k : Nat} {C f : Addr} {fd : FuncData} {ps : List Str} {sp : Sp} (hs : PySem.W.findIn X.K (.ref C) "__len__" = some (some (.ref f))) (hf : PySem.W.isFn X.K (.ref f) = true) (F : FnOk X.prog X.w X.K X.mg X.base CX0 k f fd ps sp) (hr : Room (k + 1) X.A)
    (hb : Binds X.K fd ps []) : CallR X (.builtin "len") (rLenO C sp) := by
  intro pins s σ H xs us Q I r h
  obtain ⟨a, dx, fs, rfl, ea, q⟩ := h
  obtain ⟨u1, rfl, r1⟩ : ∃ u, us = [u] ∧ RelV (.ref a) u := by
    cases r with
    | cons p q =>
      cases q
      exact ⟨_, rfl, p⟩
  cases (show u1 = Value.ref a from r1)
  obtain ⟨mA, Ob, _⟩ := ins_get I.hok ea
  obtain ⟨od, J, _⟩ := Ob.look
  obtain ⟨m, fr⟩ := I.fr
  refine PySem.W.len_K fr I.ok.mod.kin J hs hf ?_
  have r2 : Vals [V.ref a] [Value.ref a] := .cons rfl .nil
  have bb := hb s [.ref a] I.kIn (by rw [List.append_nil]; exact r2.length.symm.trans (F.len _ _ _ _ q))
  rw [List.append_nil] at bb
  refine wpAny_call (codeAny_mono (F.run X.A.in1 X.stack s H ⟨[.ref a], []⟩ [.ref a] [.ref a] _ _ hr.in1 I.env0.in1 bb r2 q) fun res s' z => ?_)
  match res, z with
  | .ok .next, z => exact z.elim
  | .ok .brk, z => exact z.elim
  | .ok .cont, z => exact z.elim
  | .error e, z => exact (show False from z).elim
  | .ok (.ret u), z =>
    obtain ⟨v, H1, I1, rv, n, rfl, hn, q1⟩ := I.after z
    obtain ⟨tk, rfl⟩ := (show ∃ t, u = Value.int n t from rv)
    exact ⟨⟨by omega, by omega⟩, .int n, H1, I1.tok _, ⟨_, rfl⟩, q1⟩
/-! ## **kw: the dict of what a call names -/
theorem pairs_app {P : Program} {w : World} {es fs : List DictEntry} {kvs lvs : List (L2.Key × Value)} (h : Pairs (mixKind P w) es kvs) (g : Pairs (mixKind P w) fs lvs) : Pairs (mixKind P w) (es ++ fs) (kvs ++ lvs) := by
  induction h with
  | nil => exact g
  | cons a b _ ih => exact .cons a b ih
theorem pairs_key {P : Program} {w : World} {es : List DictEntry} {kvs : List (L2.Key × Value)} (h : Pairs (mixKind P w) es kvs) : ∀ e ∈ es, ∃ kv ∈ kvs, keyIs kv.1 e.key = true := by
  induction h with
  | nil => intro e he; cases he
  | cons a b _ ih =>
    intro e he
    rcases List.mem_cons.mp he with rfl | he
    · exact ⟨_, List.mem_cons_self, a⟩
    · obtain ⟨kv, m, q⟩ := ih e he
      exact ⟨kv, List.mem_cons_of_mem _ m, q⟩
theorem nsSet_new {P : Program} {w : World} {A : Around} {E : Value → Shared → Prop} {s : Shared} {a : Addr} {vs : List (L2.Key × Value)} {name : Str} {v : Value} {Q : Unit → Shared → Prop} (hd : s.heap.DictOf (mixKind P w) a vs) (hn : (Sum.inr name : L2.Key) ∉ vs.map (·.1))
    (hQ : ∀ h', h'.DictOf (mixKind P w) a (vs ++ [(Sum.inr name, v)]) → Heap.SameBut a s.heap h' → Q () { s with heap := h', toks := s.toks + 1 }) : wpAny (model P w) A (nsSet a name v) Q E s := by
  intro Γ p _
  obtain ⟨o, es, ep, ho, hx, hdat, hk, hp, nd⟩ := hd
  have keyS : ∀ e ∈ es, ∃ kv ∈ vs, keyIs kv.1 e.key = true := fun e he => pairs_key hp e (by simpa using he)
  have hany : es.any (·.refKey) = false := by
    rw [Array.any_eq_false']
    intro e he
    obtain ⟨kv, _, q⟩ := keyS e he
    rcases keyIs_shape q with ⟨i, t, _, z⟩ | ⟨x, t, _, z⟩ <;> simp [DictEntry.refKey, z]
  have hidx : es.findIdx? (·.key.isStr name) = none := by
    rw [Array.findIdx?_eq_none_iff]
    intro e he
    obtain ⟨kv, m, q⟩ := keyS e he
    rcases keyIs_shape q with ⟨i, t, _, z⟩ | ⟨x, t, zk, z⟩
    · rw [z]; rfl
    · rw [z]
      have ne : x ≠ name := fun y => hn (by rw [← y, ← zk]; exact List.mem_map.mpr ⟨kv, m, rfl⟩)
      show (x == name) = false
      simpa using ne
  simp only [nsSet, strHash, Sem.wp_bind', Sem.wp_cmd_ask, Sem.wp_pure', Sem.wp_cmd_mkText]
  rw [Sem.wp_loadPart_of (model P w) Γ _ p { s with toks := s.toks + 1 } (o := o) _ ho]
  simp only [hdat, aRefKeyMayBeTheName_eq, aRefKeyMayBeTheNameByArray, hany, Bool.and_false, Bool.false_eq_true, if_false, Sem.wp_cmd_updatePart]
  refine ⟨by rw [ho]; rfl, hQ _ ?_ (Heap.SameBut.update ..)⟩
  obtain ⟨c, d, dt, sl⟩ := o
  subst hdat
  have hkey : keyIs (Sum.inr name) (Value.str name s.toks) = true := keyIs_str name _
  refine ⟨⟨c, d, .dict (es.push ⟨keyH w (.inr name), .str name s.toks, v⟩) (ep + 1), sl⟩, _, _, ?_, hx, rfl, PySem.KeysOf.push (knd := mixKind P w) (k := (Sum.inr name : L2.Key)) (key := Value.str name s.toks) hk hkey v, ?_, ?_⟩
  · refine (Heap.get?_update_self _ ho (by simp only [Obj.putName_eq, Obj.putNameByArray, hidx]; rfl)).trans ?_
    simp only [Obj.putName_eq, Obj.putNameByArray, hidx]
    rfl
  · rw [Array.toList_push]
    exact pairs_app hp (.cons hkey rfl .nil)
  · rw [List.map_append, List.nodup_append]
    refine ⟨nd, by simp, fun x hx y hy => ?_⟩
    rw [show y = Sum.inr name from by simpa using hy]
    exact fun z => hn (by rw [← z]; exact hx)
theorem nsAll {P : Program} {w : World} {A : Around} {E : Value → Shared → Prop} {a : Addr} : ∀ {kws : List (Str × Value)} {s : Shared} {vs : List (L2.Key × Value)} {Q : PUnit → Shared → Prop}, s.heap.DictOf (mixKind P w) a vs → (kws.map (·.1)).Nodup → (∀ q ∈ kws, (Sum.inr q.1 : L2.Key) ∉ vs.map (·.1)) →
    (∀ h' tk', h'.DictOf (mixKind P w) a (vs ++ kws.map fun q => (Sum.inr q.1, q.2)) → Heap.SameBut a s.heap h' → Q ⟨⟩ { s with heap := h', toks := tk' }) →
    wpAny (model P w) A (forIn kws PUnit.unit fun (q : Str × Value) (_ : PUnit) => (nsSet a q.1 q.2 >>= fun _ => pure (ForInStep.yield PUnit.unit) : Sem (ForInStep PUnit))) Q E s
  | [], s, vs, Q, hd, _, _, hQ => by
    rw [List.forIn_nil]
    exact wpAny_pure (hQ s.heap s.toks (by simpa using hd) (Heap.SameBut.refl ..))
  | q :: kws, s, vs, Q, hd, nd, hn, hQ => by
    rw [List.forIn_cons]
    rw [List.map_cons, List.nodup_cons] at nd
    refine wpAny_bind (wpAny_bind (nsSet_new hd (hn q List.mem_cons_self) fun h1 hd1 sb1 => wpAny_pure ?_))
    refine nsAll hd1 nd.2 (fun r hr => ?_) fun h2 tk2 hd2 sb2 => ?_
    · rw [List.map_append, List.mem_append]
      rintro (z | z)
      · exact hn r (List.mem_cons_of_mem _ hr) z
      · have e : (Sum.inr r.1 : L2.Key) = Sum.inr q.1 := by simpa using z
        exact nd.1 (by rw [← Sum.inr.inj e]; exact List.mem_map.mpr ⟨r, hr, rfl⟩)
    · exact hQ h2 tk2 (by rw [List.map_cons]; rw [List.append_assoc] at hd2; exact hd2) (sb1.trans sb2)
theorem env0_laid' {P : Program} {w : World} {K : PySem.W.Frag} {mg : Str → Option Value} {base : Heap} {A : Around} {outer : List Env} {s : Shared} {H : Hp} {h' : Heap} {t' : Nat} {u : HO} (e0 : Env0 P w K mg base A outer s H) (kp : ∀ b x, s.heap.get? b = some x → h'.get? b = some x)
    (sz : s.heap.objs.size ≤ h'.objs.size) (new : ObjOk P w (upd H s.heap.objs.size u) h' s.heap.objs.size u) : Env0 P w K mg base A outer { s with heap := h', toks := t' } (upd H s.heap.objs.size u) := by
  refine ⟨e0.frames, e0.mod, fun b x e => ⟨kp b x (e0.bs b x e).1, ?_⟩, Nat.le_trans e0.bsz sz, Heap.FunFrames.of_keeps (fun b x e _ => ⟨x, kp b x e, rfl⟩) e0.funs, fun b hb => ?_, e0.hok.laid kp (Nat.le_refl _) new, e0.bare⟩
  · rw [upd_ne (Nat.ne_of_lt (Heap.lt_size (e0.bs b x e).1))]
    exact (e0.bs b x e).2
  · obtain ⟨_, x, hx, _⟩ := e0.funs.mem hb
    rw [upd_ne (Nat.ne_of_lt (Heap.lt_size hx))]
    exact e0.frf b hb
theorem kv_zip : ∀ {ks : List Str} {vs : List V} {us : List Value}, Vals vs us → KV ((ks.zip vs).map fun q => ((Sum.inr q.1 : L2.Key), q.2)) ((ks.zip us).map fun q => ((Sum.inr q.1 : L2.Key), q.2))
  | [], _, _, _ => .nil
  | _ :: _, [], _, .nil => .nil
  | k :: ks, v :: vs, u :: us, .cons r rs => .cons ⟨rfl, r⟩ (kv_zip rs)
section
variable {CX : CXT} {P : Program} {w : World} {K : PySem.W.Frag} {mg : Str → Option Value} {base : Heap} {k : Nat} {f : Addr} {name qual : Str} {params : Arguments} {body : List Stmt} {scope : Scope} {dV kV doc pm cdv ct oc : Value} {an od : Option Addr}
  {osl : Array (Option Value)} {N : List Str} {sp : Sp} {pself pd : Str} {ks : List Str}
/-- def f(self, **d), called with the keywords ks -/
theorem fn_kw (lk : K.lookup f = some ⟨oc, od, .func (PySem.W.fnOf name qual params body scope dV kV doc pm an cdv ct), osl⟩) (hcd : PySem.W.codeIn K cdv qual = true) (S : FnScope N [pself, pd] scope) (hCX : StX.CXUp CX) (nd : ks.Nodup) (hlen : ks.length ≤ 100)
    (hb : ∀ (u : Value) (us : List Value), us.length = ks.length → bindArgs (PySem.W.fnOf name qual params body scope dV kV doc pm an cdv ct) ⟨[u], ks.zip us⟩ =
      ((alloc ({ cls := .type "dict", data := .dict #[] } : Obj) : Sem Addr) >>= fun d => (forIn (ks.zip us) PUnit.unit fun (q : Str × Value) (_ : PUnit) => (nsSet d q.1 q.2 >>= fun _ => pure (ForInStep.yield PUnit.unit) : Sem (ForInStep PUnit))) >>= fun _ => pure [(pself, u), (pd, Value.ref d)]))
    (hbody : ∀ (A : Around) (outer : List Env) (s : Shared) (H : Hp) (vs : List V) (Q : VK) (E : XK), Room k (A.deeper (envOfC qual scope s.heap.objs.size f cdv)) → sp vs H Q E →
      ∃ t, PSs (cxOf CX P w K mg base N qual scope f cdv A outer s H E) body t ∧ t { nx := fun _ H' => Q .non H', rt := Q } (L2.start N vs) H)
    {A : Around} {outer : List Env} {s : Shared} {H : Hp} {u : Value} {x : V} {us : List Value} {vs : List V} {Q : VK} {E : XK} (hr : Room (k + 1) A) (e0 : Env0 P w K mg base A outer s H) (rx : RelV x u) (r : Vals vs us) (hl : vs.length = ks.length)
    (hq : ∀ d, H d = none → sp [x, .ref d] (upd H d (.dK ((ks.zip vs).map fun q => (Sum.inr q.1, q.2)))) Q E) : codeAny (model P w) A (.call (.ref f) ⟨[u], ks.zip us⟩) (CR CX outer P w H s Q E) s := by
  have hn : H s.heap.objs.size = none := e0.hok.fresh (Nat.le_refl _)
  have hl2 : us.length = ks.length := r.length.symm.trans hl
  refine StX.run_bnd lk hcd S hr e0 (G := fun xs H2 => ∃ d, H d = none ∧ xs = [x, V.ref d] ∧ H2 = upd H d (.dK ((ks.zip vs).map fun q => (Sum.inr q.1, q.2)))) (fun A' Ex Q' h => ?_) fun s2 H2 xs ⟨d, hd, ex, eH⟩ hr' => ?_
  · rw [hb u us hl2]
    have hm : (ks.zip us).map (·.1) = ks := List.map_fst_zip (by omega)
    refine wpAny_bind (wpAny_alloc (wpAny_bind (nsAll (Heap.DictOf.new (knd := mixKind P w) s.heap) (by rw [hm]; exact nd) (fun q _ z => by cases z) fun h' tk' hd' sb => wpAny_pure ?_)))
    have kp : ∀ b o, s.heap.get? b = some o → h'.get? b = some o := fun b o e => (sb.2 b (Nat.ne_of_lt (Heap.lt_size e))).trans (Heap.get?_push_of_some _ e)
    have sz : s.heap.objs.size ≤ h'.objs.size := by
      obtain ⟨o, _, _, ho, _⟩ := hd'
      exact Nat.le_of_lt (Heap.lt_size ho)
    have new : ObjOk P w (upd H s.heap.objs.size (.dK ((ks.zip vs).map fun q => (Sum.inr q.1, q.2)))) h' s.heap.objs.size (.dK ((ks.zip vs).map fun q => (Sum.inr q.1, q.2))) := by
      refine ⟨?_, beq_eq_false_iff_ne.mpr (Ne.symm (Nat.ne_of_lt (StX.env0_big e0))), _, kv_zip r, by simpa using hd'⟩
      rw [List.length_map, List.length_zip]
      exact Nat.le_trans (Nat.min_le_left _ _) (Nat.le_trans hlen (by decide))
    have un : Un (frs outer) [] H (upd H s.heap.objs.size (.dK ((ks.zip vs).map fun q => (Sum.inr q.1, q.2)))) s.heap h' := Un.laid kp (Nat.le_refl _) hn
    exact h { s with heap := h', toks := tk' } _ [x, V.ref s.heap.objs.size] [u, Value.ref s.heap.objs.size] (env0_laid' e0 kp sz new) un rfl (fun e s' => hCX outer s H _ _ E e s' un kp rfl) (.cons rx (.cons rfl .nil)) rfl ⟨_, hn, rfl, rfl⟩
  · subst ex eH
    exact hbody A outer s2 _ _ Q E hr' (hq d hd)
end
/-- such a def, called with the keywords ks -/
def FnKw (P : Program) (w : World) (K : PySem.W.Frag) (mg : Str → Option Value) (base : Heap) (CX : CXT) (k : Nat) (f : Addr) (ks : List Str) (sp : Sp) : Prop :=
  ∀ (A : Around) (outer : List Env) (s : Shared) (H : Hp) (u : Value) (x : V) (us : List Value) (vs : List V) (Q : VK) (E : XK), Room k A → Env0 P w K mg base A outer s H → RelV x u → Vals vs us → vs.length = ks.length →
    (∀ d, H d = none → sp [x, .ref d] (upd H d (.dK ((ks.zip vs).map fun q => (Sum.inr q.1, q.2)))) Q E) → codeAny (model P w) A (.call (.ref f) ⟨[u], ks.zip us⟩) (CR CX outer P w H s Q E) s
/-- o.m(k = v, ..), m such a def, that may raise -/
def tMtKw (C : Addr) (m : Str) (ks : List Str) (sp : Sp) (E : L2.St → XK) (ta : TE) (tk : TA) : TE := fun σ H Q => ta σ H fun y H1 => ∃ a dx fs, y = .ref a ∧ H1 a = some (.ins C dx fs) ∧ fs.lookup m = none ∧ tk σ H1 fun vs H2 => vs.length = ks.length ∧
  ∀ d, H2 d = none → sp [.ref a, .ref d] (upd H2 d (.dK ((ks.zip vs).map fun q => (Sum.inr q.1, q.2)))) Q (E σ)
theorem pe_mtKw {X : Cx} {CX : CXT} {k : Nat} {C f : Addr} {ks : List Str} {sp : Sp} {E : L2.St → XK} {m : Str} {o : Expr} {kws : List Keyword} {ta : TE} {tk : TA} {apos pos : Pos} {pl : Sem Bool} (he : PE X o ta) (c : Cls X.K C) (hm : Meth X.K C m f)
    (F : FnKw X.prog X.w X.K X.mg X.base CX k f ks sp) (hr : Room k X.A) (hx : ∀ σ, PassesAt CX X σ (E σ)) (hkw : PK X kws tk) (hall : (backToKw pos (keywordEach kws X.env)).all (·.1.isSome) = true := by rfl) (hks : (backToKw pos (keywordEach kws X.env)).filterMap (·.1) = ks := by rfl)
    (hpl : ((backTo pos (starEach [] X.env)).any (·.1) || (backToKw pos (keywordEach kws X.env)).any (·.1.isNone)) = false := by rfl)
    (ht : eval (.Call (.Attribute o m apos) [] kws pos) X.env = (do
      let ov ← eval o X.env
      standAt apos.atName
      let (fn, first) ← holding [ov] (getMethod ov m pl)
      callWith pos fn first (backTo pos (starEach [] X.env)) (backToKw pos (keywordEach kws X.env))) := by rfl) :
    PE X (.Call (.Attribute o m apos) [] kws pos) (tMtKw C m ks sp E ta tk) := by
  refine ⟨fun pins s σ H Q I h => PySem.W.methodCall_KW (pl := pl) (thn (he.run pins s σ H _ I h) fun u s1 ⟨y, H1, I1, ry, a, dx, fs, ey, ea, l, q⟩ => ?_) ht⟩
  subst ey
  cases (show u = Value.ref a from ry)
  refine getmeth_ok I1 ea c hm l (PySem.W.callWith_KW0 (first := [.ref a]) (h₀ := X.base) I.ok.mod.kin hm.kp hall (thn (hkw.run pos pins s1 σ H1 _ I1 q) fun us s2 ⟨vs, H2, I2, r, hl, q2⟩ => ⟨I2.kIn, ?_⟩) hpl)
  rw [hks]
  refine wpAny_call (codeAny_mono (F X.A X.stack s2 H2 (.ref a) (.ref a) us vs Q (E σ) hr I2.env0 rfl r hl q2) fun res s' z => ?_)
  match res, z with
  | .error er, z => exact hx σ pins _ _ er s' I2 z
  | .ok (.ret u), z => exact I2.after z
  | .ok .next, z => exact z.elim
  | .ok .brk, z => exact z.elim
  | .ok .cont, z => exact z.elim
end FG
namespace FG
open PySem PySem.Spec PyProof.Rows L2
/-! ## a def, whatever it lets out -/
theorem funG {P : Program} {w : World} {K : PySem.W.Frag} {mg : Str → Option Value} {base : Heap} {CX : CXT} {x qual : Str} {st : Stmt} {f : Addr} {fd : FuncData} {N ps : List Str} {k : Nat} {sp : Sp} (F : Fun K x qual st f fd) (S : FnScope N ps (defScope st)) (len : ∀ vs H Q E, sp vs H Q E → vs.length = ps.length)
    (hbody : ∀ (cdv : Value) (A : Around) (outer : List Env) (s : Shared) (H : Hp) (vs : List V) (Q : VK) (E : XK), Room k (A.deeper (envOfC qual (defScope st) s.heap.objs.size f cdv)) → sp vs H Q E →
      ∃ t, PSs (cxOf CX P w K mg base N qual (defScope st) f cdv A outer s H E) (defBody st) t ∧ t { nx := fun _ H' => Q .non H', rt := Q } (start N vs) H) : FnOk P w K mg base CX (k + 1) f fd ps sp := by
  obtain ⟨oc, od, kV, doc, pm, an, cdv, ct, osl, rfl, lk, hcd⟩ := F.ex
  exact fn_of lk hcd S len fun A outer s H vs Q E hr hsp => hbody cdv A outer s H vs Q E hr hsp
/-! ## list(text) -/
def rListTx : List V → Hp → VK → Prop := fun xs H Q => ∃ z : Str, xs = [.str z] ∧ z.cps.size ≤ sizeLine ∧ ∀ q, H q = none → Q (.ref q) (upd H q (.lst (z.cps.toList.map fun c => V.str ⟨#[c]⟩)))
theorem call_listTx {X : Cx} (hc : X.calm = true) : CallR X (.type "list") rListTx := by
  intro pins s σ H xs us Q I r h
  obtain ⟨z, e, hz, q⟩ := h
  subst e
  obtain ⟨u, eu, rx⟩ := vals1 r
  subst eu
  obtain ⟨t, rfl⟩ : ∃ t, u = Value.str z t := rx
  refine call_list_str (I.ok.hd hc) z t (fun h' tk acc' c' hkeep hS hacc => ?_) hz
  refine ⟨.ref s.heap.objs.size, upd H s.heap.objs.size (.lst (z.cps.toList.map fun c => V.str ⟨#[c]⟩)), I.laid hkeep (Nat.le_refl _) (show ObjOk X.prog X.w _ _ _ (.lst (z.cps.toList.map fun c => V.str ⟨#[c]⟩)) from ⟨?_, acc'.toList, c', ?_, ?_⟩), rfl, q _ (I.hok.fresh (Nat.le_refl _))⟩
  · rw [List.length_map, Array.length_toList]; exact hz
  · have el : acc'.toList.length = acc'.size := by simp
    refine vals_of_at (by rw [List.length_map, el, hacc.1, Array.length_toList]) fun j x w h1 h2 => ?_
    obtain ⟨c, u, hcu, hi⟩ := hacc.2 j w (by rw [← Array.getElem?_toList]; exact h2)
    rw [List.getElem?_map, Array.getElem?_toList, hcu] at h1
    cases h1
    exact ⟨u, hi⟩
  · rw [Array.toArray_toList]; exact hS
theorem dp1 {k : Nat} {A : Around} (hr : Room k A) : A.depth + 1 < recursionLimit := by
  have := hr.dp
  omega
/-- a dict of the top has the number n at k -/
def isIntAt (K : PySem.W.Frag) (d : Addr) (k : Str) (n : Int) : Bool := match PySem.W.nsIn K d k with
  | some (some (.int m _)) => m == n
  | _ => false
theorem isIntAt_to {K : PySem.W.Frag} {d : Addr} {k : Str} {n : Int} (h : isIntAt K d k n = true) : ∃ tk, PySem.W.nsIn K d k = some (some (.int n tk)) := by
  unfold isIntAt at h
  split at h
  · rename_i m tk e
    rw [e, beq_iff_eq.mp h]
    exact ⟨_, rfl⟩
  · cases h
/-! ## D.get(e, f), D a dict of the top with text keys -/
def tKGet (K : PySem.W.Frag) (d : Addr) (td ty tx : TE) : TE := fun σ H Q => td σ H fun x H1 => x = .ref d ∧ ty σ H1 fun y H2 => tx σ H2 fun z H3 => ∃ (k : Str) (r : Option Value), y = .str k ∧ PySem.W.nsIn K d k = some r ∧ (r = none → Q z H3) ∧ ∀ u, r = some u → ∃ v, RelV v u ∧ Q v H3
theorem pe_kget {X : Cx} {d : Addr} {es : Array DictEntry} {n : Nat} {o e f : Expr} {apos cpos : Pos} {td ty tx : TE} (D : KDict X.K X.w d es n) (ho : PE X o td) (he : PE X e ty) (hf : PE X f tx) (m : M2 X o "get" apos e f cpos := by exact ⟨rfl, rfl, rfl, rfl⟩) : PE X (.Call (.Attribute o "get" apos) [e, f] [] cpos) (tKGet X.K d td ty tx) := by
  refine ⟨fun pins s σ H Q I h => ?_⟩
  refine wpAny_Call_method m.base m.few m.line PySem.F.plainAttrs_dict PySem.F.slot_dict_get PySem.F.type_dict_get (thn (ho.run pins s σ H _ I h) fun u s1 ⟨x, H1, I1, rx, ex, q1⟩ => ?_)
  subst ex
  obtain rfl : u = Value.ref d := rx
  refine ⟨kd_type D I1, fun b q => ?_, ?_⟩
  · cases q
    exact ⟨_, I1.kIn _ _ D.at_, rfl⟩
  rw [m.trees]
  refine Calls.callWith_builtin rfl (Calls.evalArgs_plain (Calls.spliced_cons (thn (he.run pins s1 σ H1 _ I1 q1) fun iv s2 ⟨y, H2, I2, ry, q2⟩ =>
    Calls.spliced_cons (thn (hf.run pins s2 σ H2 _ I2 q2) fun fv s3 ⟨z, H3, I3, rz, k, r, ek, en, q3, q4⟩ => Calls.spliced_nil ?_))))
  subst ek
  obtain ⟨t, rfl⟩ := ry
  have mo := PySem.W.mapOf_K (prog := X.prog) (w := X.w) I3.kIn D.at_ D.lit
  refine call_meetsIn PySem.F.slot_dict_get mo.typeIs PySem.F.entry_dict_get (PySem.F.args_dict_get_3 _ _ _) (meets_dict_get_default (strKind X.prog X.w) d (PySem.strKind_is X.prog X.w k t) D.low fv) ⟨_, mo, ?_⟩
  rw [PySem.W.find_K D.at_ en]
  cases r with
  | none => exact ⟨_, H3, I3.tok _, rz, q3 rfl⟩
  | some u =>
    obtain ⟨v, rv, q⟩ := q4 u rfl
    exact ⟨_, H3, I3.tok _, rv, q⟩
/-! ## C.m(..), m a classmethod that may raise -/
def tCmS (C : Addr) (sp : Sp) (dvs : List V) (E : L2.St → XK) (ta : TE) (t : TA) : TE := fun σ H Q => ta σ H fun x H1 => x = .ref C ∧ t σ H1 fun vs H2 => sp (.ref C :: vs ++ dvs) H2 Q (E σ)
def tCmK (C : Addr) (n m : Nat) (sp : Sp) (gV : List V → List V → List V) (E : L2.St → XK) (ta : TE) (t tk : TA) : TE := fun σ H Q => ta σ H fun x H1 => x = .ref C ∧ t σ H1 fun vs H2 => tk σ H2 fun zs H3 => vs.length = n ∧ zs.length = m ∧ sp (gV (.ref C :: vs) zs) H3 Q (E σ)
section
variable {X : Cx} {CX : CXT} {k n : Nat} {C p g : Addr} {mc : Value} {fd : FuncData} {ps ks : List Str} {sp : Sp} {dvs : List V} {ds : List Value} {E : L2.St → XK} {o e : Expr} {es : List Expr} {kws : List Keyword} {m : Str} {pos apos : Pos} {ta : TE} {t tk : TA} {pl : Sem Bool} {gg : List Value → List Value → List Value} {gV : List V → List V → List V}
theorem pe_cmS (he : PE X o ta) (r : ClX.CRead X.K C mc) (c : ClX.CMet X.K C mc m p g) (F : FnOk X.prog X.w X.K X.mg X.base CX k g fd ps sp) (hr : Room k X.A) (hb : Binds X.K fd ps ds) (hd : Vals dvs ds) (hx : ∀ σ, PassesAt CX X σ (E σ)) (ha : PA X (e :: es) t)
    (hst : starEach (e :: es) X.env = (false, eval e X.env) :: starEach es X.env := by rfl) (hpl : (backTo pos (starEach es X.env)).any (·.1) = false := by rfl)
    (ht : eval (.Call (.Attribute o m apos) (e :: es) [] pos) X.env = (do
      let ov ← eval o X.env
      standAt apos.atName
      let (f, first) ← holding [ov] (getMethod ov m pl)
      callWith pos f first (backTo pos (starEach (e :: es) X.env)) (backToKw pos (keywordEach [] X.env))) := by rfl) :
    PE X (.Call (.Attribute o m apos) (e :: es) [] pos) (tCmS C sp dvs E ta t) := by
  refine ⟨fun pins s σ H Q I h => ?_⟩
  refine PySem.W.methodCall_KW (pl := pl) (thn (he.run pins s σ H _ I h) fun u s1 ⟨x, H1, I1, rx, ex, q⟩ => ?_) ht
  subst ex
  obtain rfl : u = Value.ref C := rx
  refine ClX.getmethcm_ok I1 r c fun s2 I2 => ?_
  refine ClX.callwith_cm I2 (ClX.base_none I1 (Nat.le_refl _)) c.fi (thn (ha.run pos _ s2 σ H1 _ I2 q) fun us s3 ⟨vs, H2, I3, rv, q2⟩ => ⟨⟨ClX.pin_at I3, I3.kIn⟩, ?_⟩) hst hpl
  have z : wpAny (model X.prog X.w) X.A (call (.ref s1.heap.objs.size) us) (EP X ((s1.heap.objs.size, PySem.W.methodObj (.ref g) (.ref C)) :: pins) σ Q) X.xe s3 := by
    refine wpAny_call (PySem.W.method_call (ClX.pin_at I3) ?_)
    have r2 : Vals (V.ref C :: vs ++ dvs) (Value.ref C :: us ++ ds) := Vals.append (.cons rfl rv) hd
    have bb := hb s3 (Value.ref C :: us) I3.kIn (r2.length.symm.trans (F.len _ _ _ _ q2))
    refine codeAny_mono (F.run X.A X.stack s3 H2 ⟨Value.ref C :: us, []⟩ _ _ _ (E σ) hr I3.env0 bb r2 q2) fun res s' z => ?_
    match res, z with
    | .error er, z => exact hx σ _ _ _ er s' I3 z
    | .ok (.ret u), z => exact I3.after z
    | .ok .next, z => exact z.elim
    | .ok .brk, z => exact z.elim
    | .ok .cont, z => exact z.elim
  exact thn z fun _ _ y => ClX.unpinE y
theorem pe_cmK (he : PE X o ta) (r : ClX.CRead X.K C mc) (c : ClX.CMet X.K C mc m p g) (F : FnOk X.prog X.w X.K X.mg X.base CX k g fd ps sp) (hr : Room k X.A) (hb : KBn X.K fd ps (n + 1) ks gg gV) (hx : ∀ σ, PassesAt CX X σ (E σ)) (ha : PA X (e :: es) t) (hkw : PK X kws tk)
    (hall : (backToKw pos (keywordEach kws X.env)).all (·.1.isSome) = true := by rfl) (hks : (backToKw pos (keywordEach kws X.env)).filterMap (·.1) = ks := by rfl)
    (hst : starEach (e :: es) X.env = (false, eval e X.env) :: starEach es X.env := by rfl) (hpl : ((backTo pos (starEach (e :: es) X.env)).any (·.1) || (backToKw pos (keywordEach kws X.env)).any (·.1.isNone)) = false := by rfl)
    (ht : eval (.Call (.Attribute o m apos) (e :: es) kws pos) X.env = (do
      let ov ← eval o X.env
      standAt apos.atName
      let (f, first) ← holding [ov] (getMethod ov m pl)
      callWith pos f first (backTo pos (starEach (e :: es) X.env)) (backToKw pos (keywordEach kws X.env))) := by rfl) :
    PE X (.Call (.Attribute o m apos) (e :: es) kws pos) (tCmK C n ks.length sp gV E ta t tk) := by
  refine ⟨fun pins s σ H Q I h => ?_⟩
  refine PySem.W.methodCall_KW (pl := pl) (thn (he.run pins s σ H _ I h) fun u s1 ⟨x, H1, I1, rx, ex, q⟩ => ?_) ht
  subst ex
  obtain rfl : u = Value.ref C := rx
  refine ClX.getmethcm_ok I1 r c fun s2 I2 => ?_
  refine PySem.W.callWith_of (P := PySem.W.MethP X.K s1.heap.objs.size g (.ref C)) hpl (PySem.W.keeps_M c.fi) (evalArgs_kw2 hall ?_ hst)
  refine thn (ha.run pos _ s2 σ H1 _ I2 q) fun us s3 ⟨vs, H2, I3, rv, q2⟩ => ?_
  refine thn (hkw.run pos _ s3 σ H2 _ I3 q2) fun ws s4 ⟨zs, H3, I4, rz, l1, l2, q3⟩ => ⟨⟨ClX.pin_at I4, I4.kIn⟩, ?_⟩
  rw [hks, List.nil_append]
  have z : wpAny (model X.prog X.w) X.A (call (.ref s1.heap.objs.size) us (ks.zip ws)) (EP X ((s1.heap.objs.size, PySem.W.methodObj (.ref g) (.ref C)) :: pins) σ Q) X.xe s4 := by
    refine wpAny_call (PySem.W.method_call (ClX.pin_at I4) ?_)
    have rr : Vals (V.ref C :: vs) (Value.ref C :: us) := .cons rfl rv
    have ln : (Value.ref C :: us).length = n + 1 := rr.length.symm.trans (congrArg Nat.succ l1)
    refine codeAny_mono (F.run X.A X.stack s4 H3 ⟨Value.ref C :: us, ks.zip ws⟩ _ _ _ (E σ) hr I4.env0 (hb.to _ _ ws I4.kIn ln (rz.length.symm.trans l2)) (hb.rel rr rz) q3) fun res s' z => ?_
    match res, z with
    | .error er, z => exact hx σ _ _ _ er s' I4 z
    | .ok (.ret u), z => exact I4.after z
    | .ok .next, z => exact z.elim
    | .ok .brk, z => exact z.elim
    | .ok .cont, z => exact z.elim
  exact thn z fun _ _ y => ClX.unpinE y
end
/-! ## c(.., k = v, ..), c a local that holds a class -/
def tMkKL (i : Nat) (C : Addr) (n m : Nat) (sp : Sp) (gV : List V → List V → List V) (E : L2.St → XK) (t tk : TA) : TE := fun σ H Q => σ[i]? = some (some (.ref C)) ∧ tMkKS C n m sp gV E t tk σ H Q
theorem pe_mkKL {X : Cx} {CX : CXT} {k n i : Nat} {f C : Addr} {fd : FuncData} {ps ks : List Str} {sp : Sp} {E : L2.St → XK} {x : Str} {p pos : Pos} {e : Expr} {es : List Expr} {kws : List Keyword} {t tk : TA} {g : List Value → List Value → List Value} {gV : List V → List V → List V}
    (M : Mk X.K C f) (F : FnOk X.prog X.w X.K X.mg X.base CX k f fd ps sp) (hr : Room (k + 1) X.A) (hN : X.N[i]? = some x) (hv : Vis X.env.scope x) (hb : KBn X.K fd ps (n + 1) ks g gV) (hx : ∀ σ, PassesAt CX X σ (E σ)) (ha : PA X (e :: es) t) (hkw : PK X kws tk)
    (hall : (backToKw pos (keywordEach kws X.env)).all (·.1.isSome) = true := by rfl) (hks : (backToKw pos (keywordEach kws X.env)).filterMap (·.1) = ks := by rfl) (hdb : (x == ("__debug__" : Str)) = false := by decide) (hcd : (x == ("__classdict__" : Str)) = false := by decide)
    (he : starEach (e :: es) X.env = (false, eval e X.env) :: starEach es X.env := by rfl) (hpl : ((backTo pos (starEach (e :: es) X.env)).any (·.1) || (backToKw pos (keywordEach kws X.env)).any (·.1.isNone)) = false := by rfl) :
    PE X (.Call (.Name x p) (e :: es) kws pos) (tMkKL i C n ks.length sp gV E t tk) := by
  refine ⟨fun pins s σ H Q I h => ?_⟩
  obtain ⟨hs, ht⟩ := h
  refine wpAny_Call_Name_kw (thn ((pe_var (pos := p) hN hv hdb hcd).run pins s σ H (fun v H1 => v = .ref C ∧ H1 = H) I ⟨.ref C, hs, rfl, rfl⟩) fun u s1 ⟨v, H1, I1, r1, q1⟩ => ?_)
  obtain ⟨rfl, rfl⟩ := q1
  cases r1
  refine PySem.W.callWith_KW (h₀ := X.base) I.ok.mod.kin M.kp hall (thn (ha.run pos pins s1 σ _ _ I1 ht) fun us s1 ⟨vs, H1, I1, r, q⟩ => ?_) hpl he
  refine thn (hkw.run pos pins s1 σ H1 _ I1 q) fun ws s2 ⟨zs, H2, I2, rz, l1, l2, q2⟩ => ⟨I2.kIn, ?_⟩
  rw [hks]
  exact mkKS_run M F hr hb (hx σ) I2 r rz l1 l2 q2
/-! ## the head, with dicts of the top -/
abbrev AlZ : Type := AlY × List (Option (List (Option (Str × Int))))
def obsKZ (fn : List DefX) (tf : List He.Defn) (fx : List (Fg → Bool)) (ts : List He.Tab) (g : Addr → Option Obj) (K : Fg) : AlZ := (obsK fn tf fx g K, ts.map fun t => He.dicW K (t.1 K))
def obsZ (n : Nms) (fn : List DefX) (tf : List He.Defn) (fx : List (Fg → Bool)) (ts : List He.Tab) (g : Addr → Option Obj) : AlZ := asNk g n.gl n.ms fun l => layK g l fun K => obsKZ fn tf fx ts g K
structure SaysZ (fn : List DefX) (tf : List He.Defn) (fx : List (Fg → Bool)) (ts : List He.Tab) (w : World) (h : Heap) (K : Fg) : Prop where
  s2 : Says2 fn tf fx h K
  tab : ts.map (fun t => He.dicW K (t.1 K)) = ts.map fun t => some (He.keysIn w.params t.2)
theorem saysZ_of {n : Nms} {fn : List DefX} {tf : List He.Defn} {fx : List (Fg → Bool)} {ts : List He.Tab} {w : World} {h : Heap} (e : obsZ n fn tf fx ts h.get? = ((fn.map DefX.val, true), ts.map fun t => some (He.keysIn w.params t.2))) : SaysZ fn tf fx ts w h (KY n.gl n.ms h.get?) := by
  unfold obsZ at e
  rw [asNk_eq, layK_eq] at e
  change obsKZ fn tf fx ts h.get? (KY n.gl n.ms h.get?) = _ at e
  refine ⟨says2_of ?_, congrArg (fun z : AlZ => z.2) e⟩
  unfold obsY
  rw [asNk_eq, layK_eq]
  exact congrArg (fun z : AlZ => z.1) e
def hookZ (n : Nms) (fn : List DefX) (tf : List He.Defn) (fx : List (Fg → Bool)) (ts : List He.Tab) : PySem.W.Hook where
  α := AlZ
  obs := fun s => obsZ n fn tf fx ts s.heap.get?
  val := fun w => ((fn.map DefX.val, true), ts.map fun t => some (He.keysIn w.params t.2))
  says := fun w h => ∃ K : Fg, K.In h ∧ SaysZ fn tf fx ts w h K
  of := fun _ _ e => ⟨_, He.frT_in, saysZ_of e⟩
  keeps := fun _ _ _ ⟨K, hK, c⟩ k => ⟨K, PySem.W.Frag.In.keeps hK k, ⟨⟨c.s2.eq, c.s2.ok, c.s2.more, c.s2.hd, c.s2.out, fun p hp => k _ _ (c.s2.empty p hp)⟩, c.tab⟩⟩
theorem obsZ_eq {n : Nms} {fn : List DefX} {tf : List He.Defn} {fx : List (Fg → Bool)} {ts : List He.Tab} {g : Addr → Option Obj} {s : Shared} (h : ∀ a, g a = s.heap.get? a) : obsZ n fn tf fx ts g = (hookZ n fn tf fx ts).obs s := by
  have e : g = s.heap.get? := funext h
  rw [e] <;> rfl
theorem SaysZ.dict {fn : List DefX} {tf : List He.Defn} {fx : List (Fg → Bool)} {ts : List He.Tab} {w : World} {h : Heap} {K : Fg} (c : SaysZ fn tf fx ts w h K) (i : Nat) {t : He.Tab} (e : ts[i]? = some t := by rfl) : ∃ es n, KDict K w (t.1 K) es n := by
  have e2 : (ts.map fun t => He.dicW K (t.1 K))[i]? = (ts.map fun t => some (He.keysIn w.params t.2))[i]? := by rw [c.tab]
  rw [List.getElem?_map, List.getElem?_map, e] at e2
  exact He.dicW_ok (Option.some.inj e2)
end FG
namespace FG
open PySem L2
/-! ### the text by places -/
def topS (i : Nat) : Stmt := PySem.Challenge.pw_fontgap_k15_limits_and_even_fonts.main.body.getD i (.Pass ⟨0, 0, 0, 0⟩)
abbrev s_is_integer : Stmt := topS 12
theorem sc_is_integer : FnScope (["value"] : List Str) (["value"] : List Str) (defScope s_is_integer) := ⟨rfl, rfl, rfl, by decide +kernel, rfl, by decide +kernel, by decide +kernel⟩
abbrev s_is_between : Stmt := topS 13
theorem sc_is_between : FnScope (["value", "low", "high"] : List Str) (["value", "low", "high"] : List Str) (defScope s_is_between) := ⟨rfl, rfl, rfl, by decide +kernel, rfl, by decide +kernel, by decide +kernel⟩
abbrev s_check_between : Stmt := topS 14
theorem sc_check_between : FnScope (["value", "low", "high"] : List Str) (["value", "low", "high"] : List Str) (defScope s_check_between) := ⟨rfl, rfl, rfl, by decide +kernel, rfl, by decide +kernel, by decide +kernel⟩
abbrev s_font_order : Stmt := topS 18
theorem sc_font_order : FnScope (["glyphs", "others", "glyph", "names"] : List Str) (["glyphs"] : List Str) (defScope s_font_order) := ⟨rfl, rfl, rfl, by decide +kernel, rfl, by decide +kernel, by decide +kernel⟩
abbrev s_is_name : Stmt := topS 19
theorem sc_is_name : FnScope (["glyph", "letter"] : List Str) (["glyph"] : List Str) (defScope s_is_name) := ⟨rfl, rfl, rfl, by decide +kernel, rfl, by decide +kernel, by decide +kernel⟩
abbrev s_is_deed : Stmt := topS 20
theorem sc_is_deed : FnScope (["deed"] : List Str) (["deed"] : List Str) (defScope s_is_deed) := ⟨rfl, rfl, rfl, by decide +kernel, rfl, by decide +kernel, by decide +kernel⟩
abbrev s_Font_known : Stmt := inClass (topS 22) 17
theorem sc_Font_known : FnScope (["self", "glyph"] : List Str) (["self", "glyph"] : List Str) (defScope s_Font_known) := ⟨rfl, rfl, rfl, by decide +kernel, rfl, by decide +kernel, by decide +kernel⟩
abbrev s_Font_ligatures : Stmt := inClass (topS 22) 13
theorem sc_Font_ligatures : FnScope (["self", "glyph"] : List Str) (["self"] : List Str) (defScope s_Font_ligatures) := ⟨rfl, rfl, rfl, by decide +kernel, rfl, by decide +kernel, by decide +kernel⟩
abbrev s_Font_glyphs : Stmt := inClass (topS 22) 18
theorem sc_Font_glyphs : FnScope (["self"] : List Str) (["self"] : List Str) (defScope s_Font_glyphs) := ⟨rfl, rfl, rfl, by decide +kernel, rfl, by decide +kernel, by decide +kernel⟩
abbrev s_Font_advance_of : Stmt := inClass (topS 22) 20
theorem sc_Font_advance_of : FnScope (["self", "glyph"] : List Str) (["self", "glyph"] : List Str) (defScope s_Font_advance_of) := ⟨rfl, rfl, rfl, by decide +kernel, rfl, by decide +kernel, by decide +kernel⟩
abbrev s_Font_contains : Stmt := inClass (topS 22) 8
theorem sc_Font_contains : FnScope (["self", "glyph"] : List Str) (["self", "glyph"] : List Str) (defScope s_Font_contains) := ⟨rfl, rfl, rfl, by decide +kernel, rfl, by decide +kernel, by decide +kernel⟩
abbrev s_Font_len : Stmt := inClass (topS 22) 7
theorem sc_Font_len : FnScope (["self"] : List Str) (["self"] : List Str) (defScope s_Font_len) := ⟨rfl, rfl, rfl, by decide +kernel, rfl, by decide +kernel, by decide +kernel⟩
abbrev s_Font_changes : Stmt := inClass (topS 22) 14
theorem sc_Font_changes : FnScope (["self"] : List Str) (["self"] : List Str) (defScope s_Font_changes) := ⟨rfl, rfl, rfl, by decide +kernel, rfl, by decide +kernel, by decide +kernel⟩
abbrev s_Font_blank : Stmt := inClass (topS 22) 15
theorem sc_Font_blank : FnScope (["self"] : List Str) (["self"] : List Str) (defScope s_Font_blank) := ⟨rfl, rfl, rfl, by decide +kernel, rfl, by decide +kernel, by decide +kernel⟩
abbrev s_Font_kerns : Stmt := inClass (topS 22) 19
theorem sc_Font_kerns : FnScope (["self", "left", "right"] : List Str) (["self"] : List Str) (defScope s_Font_kerns) := ⟨rfl, rfl, rfl, by decide +kernel, rfl, by decide +kernel, by decide +kernel⟩
abbrev s_Font_snapshot : Stmt := inClass (topS 22) 23
theorem sc_Font_snapshot : FnScope (["self", "pair"] : List Str) (["self"] : List Str) (defScope s_Font_snapshot) := ⟨rfl, rfl, rfl, by decide +kernel, rfl, by decide +kernel, by decide +kernel⟩
abbrev s_Font_remember : Stmt := inClass (topS 22) 24
theorem sc_Font_remember : FnScope (["self", "before"] : List Str) (["self", "before"] : List Str) (defScope s_Font_remember) := ⟨rfl, rfl, rfl, by decide +kernel, rfl, by decide +kernel, by decide +kernel⟩
abbrev s_Font_put_blank : Stmt := inClass (topS 22) 28
theorem sc_Font_put_blank : FnScope (["self", "advance"] : List Str) (["self", "advance"] : List Str) (defScope s_Font_put_blank) := ⟨rfl, rfl, rfl, by decide +kernel, rfl, by decide +kernel, by decide +kernel⟩
abbrev s_Font_put_advance : Stmt := inClass (topS 22) 25
theorem sc_Font_put_advance : FnScope (["self", "glyph", "advance", "letter", "pair"] : List Str) (["self", "glyph", "advance"] : List Str) (defScope s_Font_put_advance) := ⟨rfl, rfl, rfl, by decide +kernel, rfl, by decide +kernel, by decide +kernel⟩
abbrev s_Font_put_drop : Stmt := inClass (topS 22) 27
theorem sc_Font_put_drop : FnScope (["self", "glyph", "ligature", "pair"] : List Str) (["self", "glyph"] : List Str) (defScope s_Font_put_drop) := ⟨rfl, rfl, rfl, by decide +kernel, rfl, by decide +kernel, by decide +kernel⟩
abbrev s_Font_put_deed : Stmt := inClass (topS 22) 29
theorem sc_Font_put_deed : FnScope (["self", "index", "deed", "why"] : List Str) (["self", "index", "deed"] : List Str) (defScope s_Font_put_deed) := ⟨rfl, rfl, rfl, by decide +kernel, rfl, by decide +kernel, by decide +kernel⟩
abbrev s_Font_set_advance : Stmt := inClass (topS 22) 30
theorem sc_Font_set_advance : FnScope (["self", "glyph", "advance", "before"] : List Str) (["self", "glyph", "advance"] : List Str) (defScope s_Font_set_advance) := ⟨rfl, rfl, rfl, by decide +kernel, rfl, by decide +kernel, by decide +kernel⟩
abbrev s_Font_setitem : Stmt := inClass (topS 22) 11
theorem sc_Font_setitem : FnScope (["self", "glyph", "advance"] : List Str) (["self", "glyph", "advance"] : List Str) (defScope s_Font_setitem) := ⟨rfl, rfl, rfl, by decide +kernel, rfl, by decide +kernel, by decide +kernel⟩
abbrev s_Font_drop : Stmt := inClass (topS 22) 32
theorem sc_Font_drop : FnScope (["self", "glyph", "before"] : List Str) (["self", "glyph"] : List Str) (defScope s_Font_drop) := ⟨rfl, rfl, rfl, by decide +kernel, rfl, by decide +kernel, by decide +kernel⟩
abbrev s_Batch_init : Stmt := inClass (topS 21) 0
theorem sc_Batch_init : FnScope (["self", "face"] : List Str) (["self", "face"] : List Str) (defScope s_Batch_init) := ⟨rfl, rfl, rfl, by decide +kernel, rfl, by decide +kernel, by decide +kernel⟩
abbrev s_Batch_enter : Stmt := inClass (topS 21) 1
theorem sc_Batch_enter : FnScope (["self"] : List Str) (["self"] : List Str) (defScope s_Batch_enter) := ⟨rfl, rfl, rfl, by decide +kernel, rfl, by decide +kernel, by decide +kernel⟩
abbrev s_Batch_exit : Stmt := inClass (topS 21) 2
theorem sc_Batch_exit : FnScope (["self", "kind", "value", "trace"] : List Str) (["self", "kind", "value", "trace"] : List Str) (defScope s_Batch_exit) := ⟨rfl, rfl, rfl, by decide +kernel, rfl, by decide +kernel, by decide +kernel⟩
abbrev s_Font_apply : Stmt := inClass (topS 22) 35
theorem sc_Font_apply : FnScope (["self", "deeds", "before", "index", "deed"] : List Str) (["self", "deeds"] : List Str) (defScope s_Font_apply) := ⟨rfl, rfl, rfl, by decide +kernel, rfl, by decide +kernel, by decide +kernel⟩
abbrev s_Font_set_advances : Stmt := inClass (topS 22) 34
theorem sc_Font_set_advances : FnScope (["self", "advances", "before", "glyph"] : List Str) (["self", "advances"] : List Str) (defScope s_Font_set_advances) := ⟨rfl, rfl, rfl, by decide +kernel, rfl, by decide +kernel, by decide +kernel⟩
abbrev s_Font_init : Stmt := inClass (topS 22) 4
theorem sc_Font_init : FnScope (["self", "advances", "kerns", "blank", "glyph", "pair"] : List Str) (["self", "advances", "kerns", "blank"] : List Str) (defScope s_Font_init) := ⟨rfl, rfl, rfl, by decide +kernel, rfl, by decide +kernel, by decide +kernel⟩
abbrev s_Font_even : Stmt := inClass (topS 22) 5
theorem sc_Font_even : FnScope (["cls", "letters", "advance", "blank", "letter"] : List Str) (["cls", "letters", "advance", "blank"] : List Str) (defScope s_Font_even) := ⟨rfl, rfl, rfl, by decide +kernel, rfl, by decide +kernel, by decide +kernel⟩
abbrev s_law_bag : Stmt := topS 24
theorem sc_law_bag : FnScope (["_law_script"] : List Str) (["_law_script"] : List Str) (defScope s_law_bag) := ⟨rfl, rfl, rfl, by decide +kernel, rfl, by decide +kernel, by decide +kernel⟩
abbrev s_law_take : Stmt := topS 25
theorem sc_law_take : FnScope (["_law_bag_here", "_law_size", "_law_digit", "_law_cell"] : List Str) (["_law_bag_here", "_law_size"] : List Str) (defScope s_law_take) := ⟨rfl, rfl, rfl, by decide +kernel, rfl, by decide +kernel, by decide +kernel⟩
abbrev s_law_int : Stmt := topS 27
theorem sc_law_int : FnScope (["_law_actual"] : List Str) (["_law_actual"] : List Str) (defScope s_law_int) := ⟨rfl, rfl, rfl, by decide +kernel, rfl, by decide +kernel, by decide +kernel⟩
abbrev s_law_letters : Stmt := topS 26
theorem sc_law_letters : FnScope (["_law_bag_here", "_law_many", "_law_start", "_law_step", "_law_k"] : List Str) (["_law_bag_here", "_law_many"] : List Str) (defScope s_law_letters) := ⟨rfl, rfl, rfl, by decide +kernel, rfl, by decide +kernel, by decide +kernel⟩
abbrev s_law_rank : Stmt := topS 28
theorem sc_law_rank : FnScope (["_law_glyph"] : List Str) (["_law_glyph"] : List Str) (defScope s_law_rank) := ⟨rfl, rfl, rfl, by decide +kernel, rfl, by decide +kernel, by decide +kernel⟩
abbrev s_law_agrees : Stmt := topS 29
theorem sc_law_agrees : FnScope (["_law_font", "_law_face", "_law_glyphs", "_law_kerns", "_law_pair", "_law_glyph", "_law_actual"] : List Str) (["_law_font", "_law_face"] : List Str) (defScope s_law_agrees) := ⟨rfl, rfl, rfl, by decide +kernel, rfl, by decide +kernel, by decide +kernel⟩
abbrev s_law_too_many : Stmt := topS 30
theorem sc_law_too_many : FnScope (["_law_font", "_law_way", "_law_row", "_law_advances", "e"] : List Str) (["_law_font", "_law_way", "_law_row", "_law_advances"] : List Str) (defScope s_law_too_many) := ⟨rfl, rfl, rfl, by decide +kernel, rfl, by decide +kernel, by decide +kernel⟩
abbrev s_law_at_once : Stmt := topS 31
theorem sc_law_at_once : FnScope (["_law_font", "_law_way", "e"] : List Str) (["_law_font", "_law_way"] : List Str) (defScope s_law_at_once) := ⟨rfl, rfl, rfl, by decide +kernel, rfl, by decide +kernel, by decide +kernel⟩
abbrev s_law_full : Stmt := topS 32
theorem sc_law_full : FnScope (["_law_number", "_law_rows", "_law_left", "_law_right", "_law_face", "_law_glyph", "_law_font", "_law_due", "_law_way"] : List Str) (["_law_number"] : List Str) (defScope s_law_full) := ⟨rfl, rfl, rfl, by decide +kernel, rfl, by decide +kernel, by decide +kernel⟩
abbrev s_law : Stmt := topS 33
theorem sc_law : FnScope (["_law_script", "_law_bag_here", "_law_letters_here", "_law_turn", "_law_number", "_law_space", "_law_rows", "_law_left", "_law_right", "_law_one", "_law_face", "_law_letter", "_law_font", "_law_k", "_law_advances", "_law_way"] : List Str) (["_law_script"] : List Str) (defScope s_law) := ⟨rfl, rfl, rfl, by decide +kernel, rfl, by decide +kernel, by decide +kernel⟩
abbrev s_InvalidGlyph_init : Stmt := inClass (topS 3) 0
abbrev s_InvalidNumber_init : Stmt := inClass (topS 4) 0
abbrev s_UnknownGlyph_init : Stmt := inClass (topS 5) 0
abbrev s_TooMany_init : Stmt := inClass (topS 6) 0
abbrev s_DeedRefused_init : Stmt := inClass (topS 9) 0
/-! ### what the top has left: the places -/
structure Ad where
  f_is_integer : Addr
  d_is_integer : FuncData
  f_is_between : Addr
  d_is_between : FuncData
  f_check_between : Addr
  d_check_between : FuncData
  f_font_order : Addr
  d_font_order : FuncData
  c_font_order : Addr
  P_font_order : Addr
  f_is_name : Addr
  d_is_name : FuncData
  f_is_deed : Addr
  d_is_deed : FuncData
  f_Font_known : Addr
  d_Font_known : FuncData
  f_Font_ligatures : Addr
  d_Font_ligatures : FuncData
  p_Font_ligatures : Addr
  f_Font_glyphs : Addr
  d_Font_glyphs : FuncData
  f_Font_advance_of : Addr
  d_Font_advance_of : FuncData
  f_Font_contains : Addr
  d_Font_contains : FuncData
  f_Font_len : Addr
  d_Font_len : FuncData
  f_Font_changes : Addr
  d_Font_changes : FuncData
  p_Font_changes : Addr
  f_Font_blank : Addr
  d_Font_blank : FuncData
  p_Font_blank : Addr
  f_Font_kerns : Addr
  d_Font_kerns : FuncData
  f_Font_snapshot : Addr
  d_Font_snapshot : FuncData
  f_Font_remember : Addr
  d_Font_remember : FuncData
  f_Font_put_blank : Addr
  d_Font_put_blank : FuncData
  f_Font_put_advance : Addr
  d_Font_put_advance : FuncData
  f_Font_put_drop : Addr
  d_Font_put_drop : FuncData
  f_Font_put_deed : Addr
  d_Font_put_deed : FuncData
  f_Font_set_advance : Addr
  d_Font_set_advance : FuncData
  f_Font_setitem : Addr
  d_Font_setitem : FuncData
  f_Font_drop : Addr
  d_Font_drop : FuncData
  f_Batch_init : Addr
  d_Batch_init : FuncData
  f_Batch_enter : Addr
  d_Batch_enter : FuncData
  f_Batch_exit : Addr
  d_Batch_exit : FuncData
  f_Font_apply : Addr
  d_Font_apply : FuncData
  f_Font_set_advances : Addr
  d_Font_set_advances : FuncData
  f_Font_init : Addr
  d_Font_init : FuncData
  g1_blank_Font_init : List Value → List Value → List Value
  v1_Font_init : List Value
  g2_blank_Font_init : List Value → List Value → List Value
  f_Font_even : Addr
  d_Font_even : FuncData
  p_Font_even : Addr
  g2_blank_Font_even : List Value → List Value → List Value
  v2_Font_even : List Value
  f_law_bag : Addr
  d_law_bag : FuncData
  f_law_take : Addr
  d_law_take : FuncData
  f_law_int : Addr
  d_law_int : FuncData
  f_law_letters : Addr
  d_law_letters : FuncData
  f_law_rank : Addr
  d_law_rank : FuncData
  f_law_agrees : Addr
  d_law_agrees : FuncData
  f_law_too_many : Addr
  d_law_too_many : FuncData
  f_law_at_once : Addr
  d_law_at_once : FuncData
  f_law_full : Addr
  d_law_full : FuncData
  f_law : Addr
  d_law : FuncData
  C_Font : Addr
  C_Batch : Addr
  C_FontError : Addr
  D_DEED_SIZES : Addr
  w_ : World
  C_InvalidGlyph : Addr
  i_InvalidGlyph : Addr
  c_InvalidGlyph : Addr
  k_InvalidGlyph : Addr
  C_InvalidNumber : Addr
  i_InvalidNumber : Addr
  c_InvalidNumber : Addr
  k_InvalidNumber : Addr
  C_UnknownGlyph : Addr
  i_UnknownGlyph : Addr
  c_UnknownGlyph : Addr
  k_UnknownGlyph : Addr
  C_TooMany : Addr
  i_TooMany : Addr
  c_TooMany : Addr
  k_TooMany : Addr
  C_DeedRefused : Addr
  i_DeedRefused : Addr
  c_DeedRefused : Addr
  k_DeedRefused : Addr
/-- .. and what is true of them -/
structure Txt (P : Program) (K : PySem.W.Frag) (mg : Str → Option Value) (base : Heap) (a : Ad) : Prop where
  F_is_integer : Fun K "is_integer" "is_integer" s_is_integer a.f_is_integer a.d_is_integer
  B_is_integer : Binds K a.d_is_integer (["value"] : List Str) []
  g_is_integer : mg "is_integer" = some (.ref a.f_is_integer)
  k_is_integer : PySem.W.keepIn K (.ref a.f_is_integer) = true
  F_is_between : Fun K "is_between" "is_between" s_is_between a.f_is_between a.d_is_between
  B_is_between : Binds K a.d_is_between (["value", "low", "high"] : List Str) []
  g_is_between : mg "is_between" = some (.ref a.f_is_between)
  k_is_between : PySem.W.keepIn K (.ref a.f_is_between) = true
  F_check_between : Fun K "check_between" "check_between" s_check_between a.f_check_between a.d_check_between
  B_check_between : Binds K a.d_check_between (["value", "low", "high"] : List Str) []
  g_check_between : mg "check_between" = some (.ref a.f_check_between)
  k_check_between : PySem.W.keepIn K (.ref a.f_check_between) = true
  F_font_order : FunC K "font_order" "font_order" s_font_order a.f_font_order a.d_font_order a.c_font_order
  TB_font_order : LamX.TabB base mg a.c_font_order a.P_font_order
  B_font_order : Binds K a.d_font_order (["glyphs"] : List Str) []
  g_font_order : mg "font_order" = some (.ref a.f_font_order)
  k_font_order : PySem.W.keepIn K (.ref a.f_font_order) = true
  F_is_name : Fun K "is_name" "is_name" s_is_name a.f_is_name a.d_is_name
  B_is_name : Binds K a.d_is_name (["glyph"] : List Str) []
  g_is_name : mg "is_name" = some (.ref a.f_is_name)
  k_is_name : PySem.W.keepIn K (.ref a.f_is_name) = true
  F_is_deed : Fun K "is_deed" "is_deed" s_is_deed a.f_is_deed a.d_is_deed
  B_is_deed : Binds K a.d_is_deed (["deed"] : List Str) []
  g_is_deed : mg "is_deed" = some (.ref a.f_is_deed)
  k_is_deed : PySem.W.keepIn K (.ref a.f_is_deed) = true
  F_Font_known : Fun K "known" "Font.known" s_Font_known a.f_Font_known a.d_Font_known
  B_Font_known : Binds K a.d_Font_known (["self", "glyph"] : List Str) []
  M_Font_known : Meth K a.C_Font "known" a.f_Font_known
  F_Font_ligatures : Fun K "ligatures" "Font.ligatures" s_Font_ligatures a.f_Font_ligatures a.d_Font_ligatures
  B_Font_ligatures : Binds K a.d_Font_ligatures (["self"] : List Str) []
  P_Font_ligatures : PropOf K a.C_Font "ligatures" a.p_Font_ligatures a.f_Font_ligatures
  F_Font_glyphs : Fun K "glyphs" "Font.glyphs" s_Font_glyphs a.f_Font_glyphs a.d_Font_glyphs
  B_Font_glyphs : Binds K a.d_Font_glyphs (["self"] : List Str) []
  M_Font_glyphs : Meth K a.C_Font "glyphs" a.f_Font_glyphs
  F_Font_advance_of : Fun K "advance_of" "Font.advance_of" s_Font_advance_of a.f_Font_advance_of a.d_Font_advance_of
  B_Font_advance_of : Binds K a.d_Font_advance_of (["self", "glyph"] : List Str) []
  M_Font_advance_of : Meth K a.C_Font "advance_of" a.f_Font_advance_of
  F_Font_contains : Fun K "__contains__" "Font.__contains__" s_Font_contains a.f_Font_contains a.d_Font_contains
  B_Font_contains : Binds K a.d_Font_contains (["self", "glyph"] : List Str) []
  M_Font_contains : Meth K a.C_Font "__contains__" a.f_Font_contains
  F_Font_len : Fun K "__len__" "Font.__len__" s_Font_len a.f_Font_len a.d_Font_len
  B_Font_len : Binds K a.d_Font_len (["self"] : List Str) []
  M_Font_len : Meth K a.C_Font "__len__" a.f_Font_len
  F_Font_changes : Fun K "changes" "Font.changes" s_Font_changes a.f_Font_changes a.d_Font_changes
  B_Font_changes : Binds K a.d_Font_changes (["self"] : List Str) []
  P_Font_changes : PropOf K a.C_Font "changes" a.p_Font_changes a.f_Font_changes
  F_Font_blank : Fun K "blank" "Font.blank" s_Font_blank a.f_Font_blank a.d_Font_blank
  B_Font_blank : Binds K a.d_Font_blank (["self"] : List Str) []
  P_Font_blank : PropOf K a.C_Font "blank" a.p_Font_blank a.f_Font_blank
  F_Font_kerns : Fun K "kerns" "Font.kerns" s_Font_kerns a.f_Font_kerns a.d_Font_kerns
  B_Font_kerns : Binds K a.d_Font_kerns (["self"] : List Str) []
  M_Font_kerns : Meth K a.C_Font "kerns" a.f_Font_kerns
  F_Font_snapshot : Fun K "snapshot" "Font.snapshot" s_Font_snapshot a.f_Font_snapshot a.d_Font_snapshot
  B_Font_snapshot : Binds K a.d_Font_snapshot (["self"] : List Str) []
  M_Font_snapshot : Meth K a.C_Font "snapshot" a.f_Font_snapshot
  F_Font_remember : Fun K "remember" "Font.remember" s_Font_remember a.f_Font_remember a.d_Font_remember
  B_Font_remember : Binds K a.d_Font_remember (["self", "before"] : List Str) []
  M_Font_remember : Meth K a.C_Font "remember" a.f_Font_remember
  F_Font_put_blank : Fun K "put_blank" "Font.put_blank" s_Font_put_blank a.f_Font_put_blank a.d_Font_put_blank
  B_Font_put_blank : Binds K a.d_Font_put_blank (["self", "advance"] : List Str) []
  M_Font_put_blank : Meth K a.C_Font "put_blank" a.f_Font_put_blank
  F_Font_put_advance : Fun K "put_advance" "Font.put_advance" s_Font_put_advance a.f_Font_put_advance a.d_Font_put_advance
  B_Font_put_advance : Binds K a.d_Font_put_advance (["self", "glyph", "advance"] : List Str) []
  M_Font_put_advance : Meth K a.C_Font "put_advance" a.f_Font_put_advance
  F_Font_put_drop : Fun K "put_drop" "Font.put_drop" s_Font_put_drop a.f_Font_put_drop a.d_Font_put_drop
  B_Font_put_drop : Binds K a.d_Font_put_drop (["self", "glyph"] : List Str) []
  M_Font_put_drop : Meth K a.C_Font "put_drop" a.f_Font_put_drop
  F_Font_put_deed : Fun K "put_deed" "Font.put_deed" s_Font_put_deed a.f_Font_put_deed a.d_Font_put_deed
  B_Font_put_deed : Binds K a.d_Font_put_deed (["self", "index", "deed"] : List Str) []
  M_Font_put_deed : Meth K a.C_Font "put_deed" a.f_Font_put_deed
  F_Font_set_advance : Fun K "set_advance" "Font.set_advance" s_Font_set_advance a.f_Font_set_advance a.d_Font_set_advance
  B_Font_set_advance : Binds K a.d_Font_set_advance (["self", "glyph", "advance"] : List Str) []
  M_Font_set_advance : Meth K a.C_Font "set_advance" a.f_Font_set_advance
  F_Font_setitem : Fun K "__setitem__" "Font.__setitem__" s_Font_setitem a.f_Font_setitem a.d_Font_setitem
  B_Font_setitem : Binds K a.d_Font_setitem (["self", "glyph", "advance"] : List Str) []
  M_Font_setitem : Meth K a.C_Font "__setitem__" a.f_Font_setitem
  F_Font_drop : Fun K "drop" "Font.drop" s_Font_drop a.f_Font_drop a.d_Font_drop
  B_Font_drop : Binds K a.d_Font_drop (["self", "glyph"] : List Str) []
  M_Font_drop : Meth K a.C_Font "drop" a.f_Font_drop
  F_Batch_init : Fun K "__init__" "Batch.__init__" s_Batch_init a.f_Batch_init a.d_Batch_init
  B_Batch_init : Binds K a.d_Batch_init (["self", "face"] : List Str) []
  F_Batch_enter : Fun K "__enter__" "Batch.__enter__" s_Batch_enter a.f_Batch_enter a.d_Batch_enter
  B_Batch_enter : Binds K a.d_Batch_enter (["self"] : List Str) []
  M_Batch_enter : Meth K a.C_Batch "__enter__" a.f_Batch_enter
  F_Batch_exit : Fun K "__exit__" "Batch.__exit__" s_Batch_exit a.f_Batch_exit a.d_Batch_exit
  B_Batch_exit : Binds K a.d_Batch_exit (["self", "kind", "value", "trace"] : List Str) []
  M_Batch_exit : Meth K a.C_Batch "__exit__" a.f_Batch_exit
  F_Font_apply : Fun K "apply" "Font.apply" s_Font_apply a.f_Font_apply a.d_Font_apply
  B_Font_apply : Binds K a.d_Font_apply (["self", "deeds"] : List Str) []
  M_Font_apply : Meth K a.C_Font "apply" a.f_Font_apply
  F_Font_set_advances : Fun K "set_advances" "Font.set_advances" s_Font_set_advances a.f_Font_set_advances a.d_Font_set_advances
  M_Font_set_advances : Meth K a.C_Font "set_advances" a.f_Font_set_advances
  F_Font_init : FunD K "__init__" "Font.__init__" (defArgs s_Font_init) (defBody s_Font_init) (defScope s_Font_init) [V.non] [("blank", V.int 250)] a.f_Font_init a.d_Font_init
  KB1_blank_Font_init : KBn K a.d_Font_init (["self", "advances", "kerns", "blank"] : List Str) 2 (["blank"] : List Str) a.g1_blank_Font_init (fun vs zs => vs ++ [V.non] ++ zs)
  B1_Font_init : Binds K a.d_Font_init (["self", "advances", "kerns", "blank"] : List Str) a.v1_Font_init
  V1_Font_init : Vals [V.non, V.int 250] a.v1_Font_init
  KB2_blank_Font_init : KBn K a.d_Font_init (["self", "advances", "kerns", "blank"] : List Str) 3 (["blank"] : List Str) a.g2_blank_Font_init (fun vs zs => vs ++ [] ++ zs)
  F_Font_even : FunD K "even" "Font.even" (defArgs s_Font_even) (defBody s_Font_even) (defScope s_Font_even) [] [("blank", V.int 250)] a.f_Font_even a.d_Font_even
  KB2_blank_Font_even : KBn K a.d_Font_even (["cls", "letters", "advance", "blank"] : List Str) 3 (["blank"] : List Str) a.g2_blank_Font_even (fun vs zs => vs ++ [] ++ zs)
  B2_Font_even : Binds K a.d_Font_even (["cls", "letters", "advance", "blank"] : List Str) a.v2_Font_even
  V2_Font_even : Vals [V.int 250] a.v2_Font_even
  CM_Font_even : ClX.CMet K a.C_Font (.type "type") "even" a.p_Font_even a.f_Font_even
  F_law_bag : Fun K "_law_bag" "_law_bag" s_law_bag a.f_law_bag a.d_law_bag
  B_law_bag : Binds K a.d_law_bag (["_law_script"] : List Str) []
  g_law_bag : mg "_law_bag" = some (.ref a.f_law_bag)
  k_law_bag : PySem.W.keepIn K (.ref a.f_law_bag) = true
  F_law_take : Fun K "_law_take" "_law_take" s_law_take a.f_law_take a.d_law_take
  B_law_take : Binds K a.d_law_take (["_law_bag_here", "_law_size"] : List Str) []
  g_law_take : mg "_law_take" = some (.ref a.f_law_take)
  k_law_take : PySem.W.keepIn K (.ref a.f_law_take) = true
  F_law_int : Fun K "_law_int" "_law_int" s_law_int a.f_law_int a.d_law_int
  B_law_int : Binds K a.d_law_int (["_law_actual"] : List Str) []
  g_law_int : mg "_law_int" = some (.ref a.f_law_int)
  k_law_int : PySem.W.keepIn K (.ref a.f_law_int) = true
  F_law_letters : Fun K "_law_letters" "_law_letters" s_law_letters a.f_law_letters a.d_law_letters
  B_law_letters : Binds K a.d_law_letters (["_law_bag_here", "_law_many"] : List Str) []
  g_law_letters : mg "_law_letters" = some (.ref a.f_law_letters)
  k_law_letters : PySem.W.keepIn K (.ref a.f_law_letters) = true
  F_law_rank : Fun K "_law_rank" "_law_rank" s_law_rank a.f_law_rank a.d_law_rank
  B_law_rank : Binds K a.d_law_rank (["_law_glyph"] : List Str) []
  g_law_rank : mg "_law_rank" = some (.ref a.f_law_rank)
  k_law_rank : PySem.W.keepIn K (.ref a.f_law_rank) = true
  F_law_agrees : Fun K "_law_agrees" "_law_agrees" s_law_agrees a.f_law_agrees a.d_law_agrees
  B_law_agrees : Binds K a.d_law_agrees (["_law_font", "_law_face"] : List Str) []
  g_law_agrees : mg "_law_agrees" = some (.ref a.f_law_agrees)
  k_law_agrees : PySem.W.keepIn K (.ref a.f_law_agrees) = true
  F_law_too_many : Fun K "_law_too_many" "_law_too_many" s_law_too_many a.f_law_too_many a.d_law_too_many
  B_law_too_many : Binds K a.d_law_too_many (["_law_font", "_law_way", "_law_row", "_law_advances"] : List Str) []
  g_law_too_many : mg "_law_too_many" = some (.ref a.f_law_too_many)
  k_law_too_many : PySem.W.keepIn K (.ref a.f_law_too_many) = true
  F_law_at_once : Fun K "_law_at_once" "_law_at_once" s_law_at_once a.f_law_at_once a.d_law_at_once
  B_law_at_once : Binds K a.d_law_at_once (["_law_font", "_law_way"] : List Str) []
  g_law_at_once : mg "_law_at_once" = some (.ref a.f_law_at_once)
  k_law_at_once : PySem.W.keepIn K (.ref a.f_law_at_once) = true
  F_law_full : Fun K "_law_full" "_law_full" s_law_full a.f_law_full a.d_law_full
  B_law_full : Binds K a.d_law_full (["_law_number"] : List Str) []
  g_law_full : mg "_law_full" = some (.ref a.f_law_full)
  k_law_full : PySem.W.keepIn K (.ref a.f_law_full) = true
  F_law : Fun K "law" "law" s_law a.f_law a.d_law
  B_law : Binds K a.d_law (["_law_script"] : List Str) []
  g_law : mg "law" = some (.ref a.f_law)
  k_law : PySem.W.keepIn K (.ref a.f_law) = true
  cr_Font : ClX.CRead K a.C_Font (.type "type")
  cv_Font_MOST_ADVANCE : ∃ u, ClX.CVal K a.C_Font (.type "type") "MOST_ADVANCE" (.int 1000000) u
  cv_Font_MOST_LETTERS : ∃ u, ClX.CVal K a.C_Font (.type "type") "MOST_LETTERS" (.int 6) u
  cv_Font_MOST_LIGATURES : ∃ u, ClX.CVal K a.C_Font (.type "type") "MOST_LIGATURES" (.int 40) u
  cv_Font_MOST_UNDO : ∃ u, ClX.CVal K a.C_Font (.type "type") "MOST_UNDO" (.int 50) u
  g_Font : mg "Font" = some (.ref a.C_Font)
  c_Font : Cls K a.C_Font
  I_Font : InsC K a.C_Font
  M_Font : Mk K a.C_Font a.f_Font_init
  g_Batch : mg "Batch" = some (.ref a.C_Batch)
  c_Batch : Cls K a.C_Batch
  I_Batch : InsC K a.C_Batch
  M_Batch : Mk K a.C_Batch a.f_Batch_init
  g_FontError : mg "FontError" = some (.ref a.C_FontError)
  E_InvalidGlyph : ErrC P K mg "InvalidGlyph" "InvalidGlyph.__init__" (defArgs s_InvalidGlyph_init) (defBody s_InvalidGlyph_init) (defScope s_InvalidGlyph_init) a.C_InvalidGlyph a.i_InvalidGlyph a.c_InvalidGlyph a.k_InvalidGlyph
  Y_InvalidGlyph : Txt1 "InvalidGlyph.__init__" "glyph" "not a glyph name" (defArgs s_InvalidGlyph_init) (defBody s_InvalidGlyph_init) (defScope s_InvalidGlyph_init)
  X_InvalidGlyph : ExcC K a.C_InvalidGlyph
  x_InvalidGlyph_glyph : PySem.W.findIn K (.ref a.C_InvalidGlyph) "glyph" = some none
  E_InvalidNumber : ErrC P K mg "InvalidNumber" "InvalidNumber.__init__" (defArgs s_InvalidNumber_init) (defBody s_InvalidNumber_init) (defScope s_InvalidNumber_init) a.C_InvalidNumber a.i_InvalidNumber a.c_InvalidNumber a.k_InvalidNumber
  Y_InvalidNumber : Txt1 "InvalidNumber.__init__" "value" "not a valid number" (defArgs s_InvalidNumber_init) (defBody s_InvalidNumber_init) (defScope s_InvalidNumber_init)
  X_InvalidNumber : ExcC K a.C_InvalidNumber
  x_InvalidNumber_value : PySem.W.findIn K (.ref a.C_InvalidNumber) "value" = some none
  E_UnknownGlyph : ErrC P K mg "UnknownGlyph" "UnknownGlyph.__init__" (defArgs s_UnknownGlyph_init) (defBody s_UnknownGlyph_init) (defScope s_UnknownGlyph_init) a.C_UnknownGlyph a.i_UnknownGlyph a.c_UnknownGlyph a.k_UnknownGlyph
  Y_UnknownGlyph : Txt1 "UnknownGlyph.__init__" "glyph" "the font does not have the glyph" (defArgs s_UnknownGlyph_init) (defBody s_UnknownGlyph_init) (defScope s_UnknownGlyph_init)
  X_UnknownGlyph : ExcC K a.C_UnknownGlyph
  x_UnknownGlyph_glyph : PySem.W.findIn K (.ref a.C_UnknownGlyph) "glyph" = some none
  E_TooMany : ErrC P K mg "TooMany" "TooMany.__init__" (defArgs s_TooMany_init) (defBody s_TooMany_init) (defScope s_TooMany_init) a.C_TooMany a.i_TooMany a.c_TooMany a.k_TooMany
  Y_TooMany : Txt1 "TooMany.__init__" "limit" "too many ligatures" (defArgs s_TooMany_init) (defBody s_TooMany_init) (defScope s_TooMany_init)
  X_TooMany : ExcC K a.C_TooMany
  x_TooMany_limit : PySem.W.findIn K (.ref a.C_TooMany) "limit" = some none
  E_DeedRefused : ErrC P K mg "DeedRefused" "DeedRefused.__init__" (defArgs s_DeedRefused_init) (defBody s_DeedRefused_init) (defScope s_DeedRefused_init) a.C_DeedRefused a.i_DeedRefused a.c_DeedRefused a.k_DeedRefused
  Y_DeedRefused : Txt1 "DeedRefused.__init__" "index" "a deed is refused" (defArgs s_DeedRefused_init) (defBody s_DeedRefused_init) (defScope s_DeedRefused_init)
  X_DeedRefused : ExcC K a.C_DeedRefused
  x_DeedRefused_index : PySem.W.findIn K (.ref a.C_DeedRefused) "index" = some none
  n_bool : mg "bool" = none
  n_dict : mg "dict" = none
  n_enumerate : mg "enumerate" = none
  n_int : mg "int" = none
  n_isinstance : mg "isinstance" = none
  n_len : mg "len" = none
  n_list : mg "list" = none
  n_range : mg "range" = none
  n_sorted : mg "sorted" = none
  n_str : mg "str" = none
  n_tuple : mg "tuple" = none
  g_DEED_SIZES : mg "DEED_SIZES" = some (.ref a.D_DEED_SIZES)
  KD_DEED_SIZES : ∃ es n, KDict K a.w_ a.D_DEED_SIZES es n
  na_Font_rows : NoAttr K a.C_Font "rows"
  na_Font_pairs : NoAttr K a.C_Font "pairs"
  na_Font_space : NoAttr K a.C_Font "space"
  na_Font_past : NoAttr K a.C_Font "past"
  na_Batch_face : NoAttr K a.C_Batch "face"
  na_Batch_rows : NoAttr K a.C_Batch "rows"
  na_Batch_pairs : NoAttr K a.C_Batch "pairs"
  na_Batch_space : NoAttr K a.C_Batch "space"
  ns_Font : PySem.W.noSeq K a.C_Font = true
  ty_FontError : PySem.W.typeIn K (.ref a.C_FontError) = some (.type "type")
  be_FontError : PySem.W.subIn K (.ref a.C_FontError) (.type "BaseException") = some true
  cl_FontError : (PySem.W.clsIn K a.C_FontError).isSome = true
  mr_InvalidGlyph : (PySem.W.clsIn K a.C_InvalidGlyph).map (·.mro) = some [.ref a.C_InvalidGlyph, .ref a.C_FontError, .type "ValueError", .type "Exception", .type "BaseException", .type "object"]
  mr_InvalidNumber : (PySem.W.clsIn K a.C_InvalidNumber).map (·.mro) = some [.ref a.C_InvalidNumber, .ref a.C_FontError, .type "ValueError", .type "Exception", .type "BaseException", .type "object"]
  mr_UnknownGlyph : (PySem.W.clsIn K a.C_UnknownGlyph).map (·.mro) = some [.ref a.C_UnknownGlyph, .ref a.C_FontError, .type "ValueError", .type "Exception", .type "BaseException", .type "object"]
  mr_TooMany : (PySem.W.clsIn K a.C_TooMany).map (·.mro) = some [.ref a.C_TooMany, .ref a.C_FontError, .type "ValueError", .type "Exception", .type "BaseException", .type "object"]
  mr_DeedRefused : (PySem.W.clsIn K a.C_DeedRefused).map (·.mro) = some [.ref a.C_DeedRefused, .ref a.C_FontError, .type "ValueError", .type "Exception", .type "BaseException", .type "object"]
  nd_err : ([a.C_InvalidGlyph, a.C_InvalidNumber, a.C_UnknownGlyph, a.C_TooMany, a.C_DeedRefused, a.C_FontError] : List Addr).Nodup
  ds_blank : isIntAt K a.D_DEED_SIZES "blank" 2 = true
  ds_advance : isIntAt K a.D_DEED_SIZES "advance" 3 = true
theorem bb_bool : bootBuiltins "bool" = some (.type "bool") := by decide +kernel
theorem bb_dict : bootBuiltins "dict" = some (.type "dict") := by decide +kernel
theorem bb_enumerate : bootBuiltins "enumerate" = some (.type "enumerate") := by decide +kernel
theorem bb_int : bootBuiltins "int" = some (.type "int") := by decide +kernel
theorem bb_isinstance : bootBuiltins "isinstance" = some (.builtin "isinstance") := by decide +kernel
theorem bb_len : bootBuiltins "len" = some (.builtin "len") := by decide +kernel
theorem bb_list : bootBuiltins "list" = some (.type "list") := by decide +kernel
theorem bb_range : bootBuiltins "range" = some (.type "range") := by decide +kernel
theorem bb_sorted : bootBuiltins "sorted" = some (.builtin "sorted") := by decide +kernel
theorem bb_str : bootBuiltins "str" = some (.type "str") := by decide +kernel
theorem bb_tuple : bootBuiltins "tuple" = some (.type "tuple") := by decide +kernel
end FG
namespace FG
open PySem PySem.Spec L2
local macro_rules | `(tactic| walk_at "s") => `(tactic| first
  | with_reducible refine w_seq ?_
  | with_reducible refine w_asg ?_
  | with_reducible refine w_ifs ?_
  | with_reducible refine w_ret ?_
  | with_reducible refine w_drop ?_
  | ((with_reducible refine' w_var ?h1 ?_); case h1 => rfl)
  | with_reducible refine w_c ?_
  | with_reducible refine w_op ?_
  | with_reducible refine w_I0 ?_
  | with_reducible refine w_cons ?_
  | with_reducible refine w_nil ?_
  | ((with_reducible refine' w_gname ?h1 ?_); case h1 => dsimp only [List.set])
  | with_reducible refine w_test ?_
  | with_reducible refine w_bl ?_
  | with_reducible refine w_blE ?_
  | with_reducible refine w_cb ?_
  | with_reducible refine w_call ?_
  | with_reducible refine w_callSD ?_
  | with_reducible refine w_callS ?_
  | with_reducible refine w_andV ?_
  | with_reducible refine w_orV ?_
  | with_reducible refine w_notV ?_
  | with_reducible refine w_and ?_
  | with_reducible refine w_or ?_
  | with_reducible refine w_not ?_
  | with_reducible refine w_if ?_
  | with_reducible refine w_un ?_
  | with_reducible refine w_U ?_
  | with_reducible refine w_next ?_
  | with_reducible refine w_retN ?_
  | with_reducible refine w_tB ?_
  | with_reducible refine w_tup ?_
  | with_reducible refine w_lst ?_
  | with_reducible refine w_abs ?_
  | with_reducible refine w_int1 ?_
  | ((with_reducible refine' w_eq ?h1 ?_); case h1 => rfl)
  | ((with_reducible refine' w_ne ?h1 ?_); case h1 => rfl)
  | with_reducible refine w_gsub ?_
  | with_reducible refine w_sfld ?_
  | with_reducible refine w_par ?_
  | with_reducible refine w_rs ?_
  | with_reducible refine w_forR1 ?_
  | with_reducible refine w_forR2 ?_
  | with_reducible refine w_forL ?_
  | with_reducible refine w_fld ?_
  | with_reducible refine iteT ?_
  | with_reducible refine iteF ?_
  | with_reducible refine iteNT ?_
  | with_reducible refine iteNF ?_
  | with_reducible refine w_mk1 ?_
  | with_reducible refine w_mk2 ?_
  | with_reducible refine w_one ?_
  | with_reducible refine w_two ?_
  | with_reducible refine w_sl ?_
  | with_reducible refine w_nopart ?_
  | with_reducible refine w_part ?_
  | with_reducible refine w_exI ?_
  | with_reducible refine w_mks ?_
  | with_reducible refine w_isN ?_
  | with_reducible refine w_notN ?_
  | with_reducible refine w_min2 ?_
  | with_reducible refine w_max2 ?_
  | ((with_reducible refine' w_ix ?h1 ?h2 ?_); (case h1 => walk_at "q"); (case h2 => rfl))
  | ((with_reducible refine' w_ixT ?h1 ?h2 ?_); (case h1 => walk_at "q"); (case h2 => rfl))
  | ((with_reducible refine' w_setL ?h1 ?h2 ?_); (case h1 => walk_at "h"); (case h2 => rfl))
  | ((with_reducible refine' w_lenS ?h1 ?_); (case h1 => walk_at "q"))
  | ((with_reducible refine' w_lenT ?h1 ?_); (case h1 => walk_at "q"))
  | ((with_reducible refine' w_I ?h1 ?_); (case h1 => first | (show (0 : Int) < _; first | decide | assumption) | exact ⟨by decide, by decide, by decide⟩ | (show CDivX _ _; exact ⟨by decide, by decide +kernel⟩) | (show CDivX _ _; with_reducible apply_assumption) | (show CMulW _ _; exact small_mul (by with_reducible assumption) (by with_reducible assumption)) | (show CMul _ _; first | exact Or.inl ⟨by decide, by decide⟩ | exact Or.inr ⟨by decide, by decide⟩ | exact Or.inl ⟨by omega, by omega⟩ | exact Or.inr ⟨by omega, by omega⟩))))
local macro_rules | `(tactic| walk_at "h") => `(tactic| first | with_reducible assumption | exact upd_same | (refine upd_old ?_ ?_ <;> with_reducible assumption) | ((refine (upd_ne ?_).trans ?_) <;> (first | assumption | walk_at "h" | exact Ne.symm (by assumption))))
local macro_rules | `(tactic| walk_at "q") => `(tactic| first | with_reducible assumption | exact SqL.of (by walk_at "h") | exact SqT.of (by walk_at "h"))
local macro_rules | `(tactic| walk_at "w") => `(tactic| repeat (walk_at "s"))

/-- what isinstance(x, int) and not isinstance(x, bool) gives -/
def IsI (K : PySem.W.Frag) (H : Hp) (x : V) (b : Bool) : Prop := ∃ t b1 b2, TyX K H x t ∧ PySem.W.kitOne K t (.type "int") = some b1 ∧ (b1 = true → PySem.W.kitOne K t (.type "bool") = some b2) ∧ b = (b1 && !b2)
theorem isI_int {K : PySem.W.Frag} {H : Hp} (i : Int) : IsI K H (.int i) true := ⟨_, true, false, .base (.int i), kit_ty (by decide +kernel), fun _ => kit_ty (by decide +kernel), rfl⟩
theorem isI_bl {K : PySem.W.Frag} {H : Hp} (b : Bool) : IsI K H (.bl b) false := ⟨_, true, true, .base (.bl b), kit_ty (by decide +kernel), fun _ => kit_ty (by decide +kernel), rfl⟩
theorem isI_non {K : PySem.W.Frag} {H : Hp} : IsI K H .non false := ⟨_, false, false, .base .non, kit_ty (by decide +kernel), (fun z => by cases z), rfl⟩
theorem isI_str {K : PySem.W.Frag} {H : Hp} (x : Str) : IsI K H (.str x) false := ⟨_, false, false, .base (.str x), kit_ty (by decide +kernel), (fun z => by cases z), rfl⟩
theorem isI_lst {K : PySem.W.Frag} {H : Hp} {a : Addr} {xs : List V} (e : H a = some (.lst xs)) : IsI K H (.ref a) false := ⟨_, false, false, .base (.lst e), kit_ty (by decide +kernel), (fun z => by cases z), rfl⟩
theorem isI_tup {K : PySem.W.Frag} {H : Hp} {a : Addr} {xs : List V} (e : H a = some (.tup xs)) : IsI K H (.ref a) false := ⟨_, false, false, .base (.tup e), kit_ty (by decide +kernel), (fun z => by cases z), rfl⟩
/-- both defs that ask it -/
abbrev sp_isint (K : PySem.W.Frag) : Sp := sp1 fun x H Q _ => ∃ b, IsI K H x b ∧ Q (.bl b) H

abbrev sp_is_integer (K : PySem.W.Frag) (a : Ad) : Sp := sp_isint K
theorem ok_is_integer {P : Program} {w : World} {K : PySem.W.Frag} {mg : Str → Option Value} {base : Heap} {a : Ad} (T : Txt P K mg base a) : FnOk P w K mg base CX0 1 a.f_is_integer a.d_is_integer (["value"] : List Str) (sp_is_integer K a) := by
  refine T.F_is_integer.ok sc_is_integer (fun vs H Q E h => sp1_len h) (fun cdv A outer s H vs Q E hr h => ?_)
  have hu := hu_of hr
  refine ⟨_, (pss_one (ps_ret (pe_and (pe_callB call_isi (by rfl) T.n_isinstance bb_isinstance (pa_cons (pv 0) (pa_cons (pe_bltn (v := .ty "int") (by rfl) T.n_int bb_int rfl) pa_nil))) (pe_one (pe_not (pe_callB call_isi (by rfl) T.n_isinstance bb_isinstance (pa_cons (pv 0) (pa_cons (pe_bltn (v := .ty "bool") (by rfl) T.n_bool bb_bool rfl) pa_nil)))))))), ?_⟩
  try dsimp only [L2.cxOf]
  obtain ⟨x, rfl, b, ⟨t, b1, b2, ty, k1, k2, rfl⟩, k⟩ := h
  rw [show L2.start (["value"] : List Str) [x] = ([some (x)] : L2.St) from rfl]
  walk_at "w"
  refine w_isi (.ty "int") ty k1 ?_
  walk_at "w"
  refine it_b (fun e1 => ?_) (fun e1 => ?_)
  · walk_at "w"
    refine w_isi (.ty "bool") ty (k2 e1) ?_
    walk_at "w"
    subst e1
    exact k
  · subst e1
    exact k

/-- InvalidNumber(v) is raised -/
abbrev raiseIN (a : Ad) (v : V) (H : Hp) (E : XK) : Prop := ∀ d, H d = none → E (.ref a.C_InvalidNumber) (some d) (upd H d (.xd [("value", v)]))
theorem ratio_put {x y : V} : putF "bottom" y (putF "top" x []) = ([("top", x), ("bottom", y)] : List (Str × V)) := by
  have h : ¬ (("top" : Str) = "bottom") := by decide +kernel
  show (if ("top" : Str) = "bottom" then [(("top" : Str), y)] else (("top" : Str), x) :: putF "bottom" y []) = _
  rw [if_neg h]
  rfl

/-! ### a font's rows, plainly -/
abbrev Rows := List (Str × Int)
def encV (r : List (Str × V)) : List (L2.Key × V) := r.map fun x => (Sum.inr x.1, x.2)
def encR (r : Rows) : List (L2.Key × V) := r.map fun x => (Sum.inr x.1, V.int x.2)
def getR {α : Type} (r : List (Str × α)) (g : Str) : Option α := (r.find? fun x => decide (x.1 = g)).map (·.2)
def putR {α : Type} (r : List (Str × α)) (g : Str) (n : α) : List (Str × α) := if (r.any fun x => decide (x.1 = g)) = true then r.map (fun x => if x.1 = g then (x.1, n) else x) else r ++ [(g, n)]
theorem encR_V (r : Rows) : encR r = encV (r.map fun x => (x.1, V.int x.2)) := by simp [encR, encV]
theorem val_encV (r : List (Str × V)) (g : Str) : valV (encV r) (Sum.inr g) = getR r g := by
  unfold valV getR encV
  rw [List.find?_map]
  simp only [Option.map_map]
  congr 1
  congr 1
  funext x
  simp
theorem val_encR (r : Rows) (g : Str) : valV (encR r) (Sum.inr g) = (getR r g).map V.int := by
  unfold valV getR encR
  rw [List.find?_map]
  simp only [Option.map_map]
  congr 1
  congr 1
  funext x
  simp
theorem put_encV (r : List (Str × V)) (g : Str) (n : V) : putK (encV r) (Sum.inr g) n = encV (putR r g n) := by
  unfold putK putR encV
  rw [List.any_map]
  have e : ((fun kv : L2.Key × V => decide (kv.1 = Sum.inr g)) ∘ fun x : Str × V => ((Sum.inr x.1 : L2.Key), x.2)) = fun x => decide (x.1 = g) := by
    funext x
    simp
  rw [e]
  split
  · simp only [List.map_map]
    congr 1
    funext x
    by_cases c : x.1 = g <;> simp [c]
  · simp
theorem putR_map {α β : Type} (f : α → β) (r : List (Str × α)) (g : Str) (n : α) : putR (r.map fun x => (x.1, f x.2)) g (f n) = (putR r g n).map fun x => (x.1, f x.2) := by
  unfold putR
  rw [List.any_map]
  have e : ((fun x : Str × β => decide (x.1 = g)) ∘ fun x : Str × α => (x.1, f x.2)) = fun x => decide (x.1 = g) := by
    funext x
    rfl
  rw [e]
  split
  · simp only [List.map_map]
    congr 1
    funext x
    by_cases c : x.1 = g <;> simp [c]
  · simp
theorem put_encR (r : Rows) (g : Str) (n : Int) : putK (encR r) (Sum.inr g) (V.int n) = encR (putR r g n) := by
  rw [encR_V, encR_V, put_encV, putR_map]
theorem getR_put_same {α : Type} (r : List (Str × α)) (g : Str) (n : α) : getR (putR r g n) g = some n := by
  unfold getR putR
  split
  · rename_i h
    rw [List.find?_map]
    have e : ((fun x : Str × α => decide (x.1 = g)) ∘ fun x => if x.1 = g then (x.1, n) else x) = fun x => decide (x.1 = g) := by
      funext x
      by_cases c : x.1 = g <;> simp [c]
    rw [e]
    obtain ⟨y, hy⟩ := Option.isSome_iff_exists.mp (List.find?_isSome.mpr (List.any_eq_true.mp h))
    rw [hy]
    have hg : y.1 = g := by simpa using List.find?_some hy
    simp [hg]
  · rename_i h
    have h0 : r.find? (fun x => decide (x.1 = g)) = none := by
      rw [List.find?_eq_none]
      intro x hx c
      exact h (List.any_eq_true.mpr ⟨x, hx, c⟩)
    rw [List.find?_append, h0]
    simp
theorem getR_put_ne {α : Type} (r : List (Str × α)) (g k : Str) (n : α) (h : k ≠ g) : getR (putR r g n) k = getR r k := by
  unfold getR putR
  split
  · rw [List.find?_map]
    have e : ((fun x : Str × α => decide (x.1 = k)) ∘ fun x => if x.1 = g then (x.1, n) else x) = fun x => decide (x.1 = k) := by
      funext x
      by_cases c : x.1 = g
      · simp [c]
      · simp [c]
    rw [e]
    cases q : r.find? (fun x => decide (x.1 = k)) with
    | none => rfl
    | some y =>
      have hk : y.1 = k := by simpa using List.find?_some q
      have : ¬ y.1 = g := fun z => h (hk.symm.trans z)
      simp [this]
  · rw [List.find?_append]
    have e : List.find? (fun x : Str × α => decide (x.1 = k)) [(g, n)] = none := by
      simp [Ne.symm h]
    rw [e]
    simp
theorem keys_put {α : Type} (r : List (Str × α)) (g : Str) (n : α) : (putR r g n).map (·.1) = if g ∈ r.map (·.1) then r.map (·.1) else r.map (·.1) ++ [g] := by
  unfold putR
  by_cases c : g ∈ r.map (·.1)
  · have h : (r.any fun x => decide (x.1 = g)) = true := by
      obtain ⟨x, hx, e⟩ := List.mem_map.mp c
      exact List.any_eq_true.mpr ⟨x, hx, by simp [e]⟩
    rw [if_pos h, if_pos c, List.map_map]
    congr 1
    funext x
    by_cases c : x.1 = g <;> simp [c]
  · have h : ¬ (r.any fun x => decide (x.1 = g)) = true := fun z => c (by
      obtain ⟨x, hx, e⟩ := List.any_eq_true.mp z
      exact List.mem_map.mpr ⟨x, hx, by simpa using e⟩)
    rw [if_neg h, if_neg c]
    simp
theorem getR_mem {α : Type} {r : List (Str × α)} {g : Str} : (getR r g).isSome = true ↔ g ∈ r.map (·.1) := by
  unfold getR
  rw [Option.isSome_map, List.find?_isSome]
  constructor
  · rintro ⟨x, hx, e⟩
    exact List.mem_map.mpr ⟨x, hx, by simpa using e⟩
  · intro h
    obtain ⟨x, hx, e⟩ := List.mem_map.mp h
    exact ⟨x, hx, by simp [e]⟩
theorem keys_encV (r : List (Str × V)) : (encV r).map (·.1) = (r.map (·.1)).map (Sum.inr : Str → L2.Key) := by simp [encV]
theorem keys_encR (r : Rows) : (encR r).map (·.1) = (r.map (·.1)).map (Sum.inr : Str → L2.Key) := by simp [encR]
/-- a glyph's name -/
def isName (z : Str) : Bool := decide (1 ≤ z.length ∧ z.length ≤ 6) && z.cps.toList.all fun c => decide (97 ≤ c ∧ c ≤ 122)
def ligs (r : Rows) : List Str := (r.map (·.1)).filter fun z => decide (1 < z.length)
/-- why an advance is refused -/
inductive FErr where
  | ig (g : Str) | inn (v : V) | ug (g : Str) | tm
def one (c : Nat) : Str := ⟨#[c]⟩
def missing (r : Rows) (z : Str) : Option Nat := z.cps.toList.find? fun c => (getR r (one c)).isNone
def paRes (r : Rows) (z : Str) (y : V) : Except FErr Rows :=
  if isName z = true then match y with
    | .int n => if 0 ≤ n ∧ n ≤ 1000000 then (if 1 < z.length then match missing r z with
        | some c => .error (.ug (one c))
        | none => if (getR r z).isNone = true ∧ 40 ≤ (ligs r).length then .error .tm else .ok (putR r z n) else .ok (putR r z n)) else .error (.inn y)
    | v => .error (.inn v)
  else .error (.ig z)

theorem units64 {k : Nat} {A : Around} (hr : Room k A) : A.units + 64 < cLine := by
  have := hr.un
  omega
local macro_rules | `(tactic| walk_at "s2") => `(tactic| first
  | with_reducible refine w_chain ?_
  | with_reducible refine w_leS ?_
  | with_reducible refine w_for ?_
  | with_reducible refine w_lc ?_
  | with_reducible refine w_iL ?_
  | with_reducible refine w_iK ?_
  | with_reducible refine w_iS ?_
  | with_reducible refine w_iT ?_
  | with_reducible refine w_iR1 ?_
  | with_reducible refine w_dnew ?_
  | with_reducible refine w_dget ?_
  | with_reducible refine w_din ?_
  | with_reducible refine w_dnin ?_
  | with_reducible refine w_dput ?_
  | with_reducible refine w_prop ?_
  | with_reducible refine w_meth ?_
  | with_reducible refine w_mtS ?_
  | with_reducible refine w_cval ?_
  | with_reducible refine w_mkKS ?_
  | with_reducible refine w_bm ?_
  | with_reducible refine w_bm0 ?_)
local macro_rules | `(tactic| walk_at "w") => `(tactic| repeat (first | walk_at "s" | walk_at "s2"))

def isIntV : V → Bool
  | .int _ => true
  | _ => false
abbrev qfo : Str := ("font_order" : Str) ++ ".<locals>." ++ "<lambda>"
/-- font_order's table of code objects stands -/
abbrev Tab (a : Ad) (H : Hp) : Prop := LamX.TabS H a.P_font_order qfo
theorem Tab.same {a : Ad} {H H' : Hp} (t : Tab a H) (s : Same H H') : Tab a H' := LamX.TabS.ext t s
theorem Tab.new {a : Ad} {H : Hp} {p : Addr} {o : HO} (t : Tab a H) (n : H p = none) : Tab a (upd H p o) := Tab.same t (Same.new n)
/-- not a table, not a code object -/
def Pl : HO → Prop
  | .tbl _ => False
  | .ext _ => False
  | _ => True
theorem Tab.upd {a : Ad} {H : Hp} {p : Addr} {u o : HO} (t : Tab a H) (h : H p = some u) (pl : Pl u) : Tab a (L2.upd H p o) := by
  obtain ⟨ps, h1, h2, h3⟩ := t
  refine ⟨ps, ?_, h2, fun pos cv hc => ?_⟩
  · rw [upd_ne (fun z => by rw [← z, h1] at h; cases h; exact pl)]
    exact h1
  · obtain ⟨c, e1, e2⟩ := h3 pos cv hc
    refine ⟨c, e1, ?_⟩
    rw [upd_ne (fun z => by rw [← z, e2] at h; unfold LamX.CodeO at h; cases h; exact pl)]
    exact e2
/-- all but what stands at bs and the tables stays -/
def Fr (bs : List Addr) (H H' : Hp) : Prop := ∀ b o, H b = some o → NT o → b ∉ bs → H' b = some o
theorem Fr.of {bs : List Addr} {H H' : Hp} (e : Ex H H') : Fr bs H H' := fun b o h n _ => e b o h n
theorem Fr.refl {bs : List Addr} {H : Hp} : Fr bs H H := fun _ _ h _ _ => h
theorem Fr.trans {bs : List Addr} {H H1 H2 : Hp} (x : Fr bs H H1) (y : Fr bs H1 H2) : Fr bs H H2 := fun b o h n k => y b o (x b o h n k) n k
theorem Fr.upd {bs : List Addr} {H H1 : Hp} {p : Addr} {o : HO} (x : Fr bs H H1) (h : p ∈ bs) : Fr bs H (L2.upd H1 p o) := fun b u e n k => by
  rw [upd_ne (fun z => k (by rw [z]; exact h))]
  exact x b u e n k
theorem Fr.new {bs : List Addr} {H H1 : Hp} {p : Addr} {o : HO} (x : Fr bs H H1) (h : H1 p = none) : Fr bs H (L2.upd H1 p o) := fun b u e n k => upd_old (x b u e n k) h
theorem Fr.mono {bs cs : List Addr} {H H' : Hp} (x : Fr bs H H') (h : ∀ b ∈ bs, b ∈ cs) : Fr cs H H' := fun b o e n k => x b o e n fun z => k (h b z)
def ffields (ro pr pa : Addr) (s : Int) : List (Str × V) := [("rows", .ref ro), ("pairs", .ref pr), ("space", .int s), ("past", .ref pa)]
theorem fk1 : (("pairs" : Str) == "rows") = false := by decide +kernel
theorem fk2 : (("space" : Str) == "rows") = false := by decide +kernel
theorem fk3 : (("space" : Str) == "pairs") = false := by decide +kernel
theorem fk4 : (("past" : Str) == "rows") = false := by decide +kernel
theorem fk5 : (("past" : Str) == "pairs") = false := by decide +kernel
theorem fk6 : (("past" : Str) == "space") = false := by decide +kernel
section
variable {ro pr pa : Addr} {s : Int}
theorem ff_rows : (ffields ro pr pa s).lookup ("rows" : Str) = some (.ref ro) := by simp [ffields, List.lookup]
theorem ff_pairs : (ffields ro pr pa s).lookup ("pairs" : Str) = some (.ref pr) := by simp [ffields, List.lookup, fk1]
theorem ff_space : (ffields ro pr pa s).lookup ("space" : Str) = some (.int s) := by simp [ffields, List.lookup, fk2, fk3]
theorem ff_past : (ffields ro pr pa s).lookup ("past" : Str) = some (.ref pa) := by simp [ffields, List.lookup, fk4, fk5, fk6]
theorem ff_no {f : Str} (h : (["rows", "pairs", "space", "past"] : List Str).all (fun x => !(f == x)) = true) : (ffields ro pr pa s).lookup f = none := by
  simp only [List.all_cons, List.all_nil, Bool.and_true, Bool.and_eq_true, Bool.not_eq_true'] at h
  simp [ffields, List.lookup, h.1, h.2.1, h.2.2.1, h.2.2.2]
theorem ff_put (n : Int) : putF "space" (.int n) (ffields ro pr pa s) = ffields ro pr pa n := by
  have h1 : ¬ (("rows" : Str) = "space") := by decide +kernel
  have h2 : ¬ (("pairs" : Str) = "space") := by decide +kernel
  simp [ffields, putF, h1, h2]
end
/-- a font without kerns stands at p -/
structure FontAt (a : Ad) (H : Hp) (p dx ro pr pa : Addr) (r : Rows) (s : Int) : Prop where
  ins : H p = some (.ins a.C_Font dx (ffields ro pr pa s))
  row : H ro = some (.dK (encR r))
  pai : H pr = some (.dK [])
  ne : ro ≠ pr
theorem FontAt.fr {a : Ad} {H H' : Hp} {p dx ro pr pa : Addr} {r : Rows} {s : Int} {bs : List Addr} (F : FontAt a H p dx ro pr pa r s) (x : Fr bs H H') (h1 : p ∉ bs) (h2 : ro ∉ bs) (h3 : pr ∉ bs) : FontAt a H' p dx ro pr pa r s :=
  ⟨x _ _ F.ins trivial h1, x _ _ F.row trivial h2, x _ _ F.pai trivial h3, F.ne⟩
theorem FontAt.ex {a : Ad} {H H' : Hp} {p dx ro pr pa : Addr} {r : Rows} {s : Int} (F : FontAt a H p dx ro pr pa r s) (x : Ex H H') : FontAt a H' p dx ro pr pa r s := F.fr (bs := []) (Fr.of x) (by simp) (by simp) (by simp)
/-- its rows are put anew -/
theorem FontAt.put {a : Ad} {H : Hp} {p dx ro pr pa : Addr} {r : Rows} {s : Int} (F : FontAt a H p dx ro pr pa r s) (r' : Rows) : FontAt a (upd H ro (.dK (encR r'))) p dx ro pr pa r' s :=
  ⟨by rw [upd_ne (ne_of F.ins F.row (by intro z; cases z))]; exact F.ins, upd_same, by rw [upd_ne (Ne.symm F.ne)]; exact F.pai, F.ne⟩
/-- an error is raised behind H -/
abbrev raiseG (a : Ad) (H : Hp) (E : XK) (C : Addr) (fs : List (Str × V)) : Prop := ∀ H' d, Ex H H' → Tab a H' → H' d = none → E (.ref C) (some d) (upd H' d (.xd fs))
def raiseF (a : Ad) (H : Hp) (E : XK) : FErr → Prop
  | .ig g => raiseG a H E a.C_InvalidGlyph [("glyph", .str g)]
  | .inn v => raiseG a H E a.C_InvalidNumber [("value", v)]
  | .ug g => raiseG a H E a.C_UnknownGlyph [("glyph", .str g)]
  | .tm => raiseG a H E a.C_TooMany [("limit", .int 40)]
theorem raiseF.ex {a : Ad} {H H1 : Hp} {E : XK} {e : FErr} (h : raiseF a H E e) (x : Ex H H1) : raiseF a H1 E e := by
  cases e <;> exact fun H' d y => h H' d (x.trans y)
theorem kitSS {K : PySem.W.Frag} : PySem.W.kitOne K (.type "str") (.type "str") = some true := kit_ty (by decide +kernel)
theorem ltOne (c d : Nat) : decide (([c] : List Nat) < [d]) = decide (c < d) := decide_eq_decide.mpr (by rw [List.cons_lt_cons_iff]; simp)
theorem aCps : (Str.ofString "a").cps.toList = [97] := by decide +kernel
theorem zCps : (Str.ofString "z").cps.toList = [122] := by decide +kernel
section
variable {P : Program} {K : PySem.W.Frag} {mg : Str → Option Value} {base : Heap} {a : Ad} {H : Hp} {p dx ro pr pa : Addr} {r : Rows} {s : Int} {R : V → Prop}
theorem FontAt.rowsF (F : FontAt a H p dx ro pr pa r s) (T : Txt P K mg base a) (k : R (.ref ro)) : ∃ a' C dx fs v, V.ref p = .ref a' ∧ H a' = some (.ins C dx fs) ∧ Cls K C ∧ NoAttr K C "rows" ∧ fs.lookup ("rows" : Str) = some v ∧ R v := ⟨p, _, dx, _, _, rfl, F.ins, T.c_Font, T.na_Font_rows, ff_rows, k⟩
theorem FontAt.pairsF (F : FontAt a H p dx ro pr pa r s) (T : Txt P K mg base a) (k : R (.ref pr)) : ∃ a' C dx fs v, V.ref p = .ref a' ∧ H a' = some (.ins C dx fs) ∧ Cls K C ∧ NoAttr K C "pairs" ∧ fs.lookup ("pairs" : Str) = some v ∧ R v := ⟨p, _, dx, _, _, rfl, F.ins, T.c_Font, T.na_Font_pairs, ff_pairs, k⟩
theorem FontAt.spaceF (F : FontAt a H p dx ro pr pa r s) (T : Txt P K mg base a) (k : R (.int s)) : ∃ a' C dx fs v, V.ref p = .ref a' ∧ H a' = some (.ins C dx fs) ∧ Cls K C ∧ NoAttr K C "space" ∧ fs.lookup ("space" : Str) = some v ∧ R v := ⟨p, _, dx, _, _, rfl, F.ins, T.c_Font, T.na_Font_space, ff_space, k⟩
theorem FontAt.pastF (F : FontAt a H p dx ro pr pa r s) (T : Txt P K mg base a) (k : R (.ref pa)) : ∃ a' C dx fs v, V.ref p = .ref a' ∧ H a' = some (.ins C dx fs) ∧ Cls K C ∧ NoAttr K C "past" ∧ fs.lookup ("past" : Str) = some v ∧ R v := ⟨p, _, dx, _, _, rfl, F.ins, T.c_Font, T.na_Font_past, ff_past, k⟩
theorem FontAt.get (F : FontAt a H p dx ro pr pa r s) (g : Str) : DGet H ro (.str g) ((getR r g).map V.int) := by
  have h := DGet.k (k := (Sum.inr g : L2.Key)) F.row
  rw [val_encR] at h
  exact h
end

/-- the advances of es in the order gs -/
def runPA (es : List (Str × V)) : List Str → Rows → Except FErr Rows
  | [], r => .ok r
  | g :: gs, r => match paRes r g ((getR es g).getD .non) with
    | .ok r' => runPA es gs r'
    | .error e => .error e
theorem runPA_app {es : List (Str × V)} {r r' : Rows} : ∀ {l m : List Str}, runPA es l r = .ok r' → runPA es (l ++ m) r = runPA es m r'
  | [], m, h => by
    cases h
    rfl
  | g :: l, m, h => by
    unfold runPA at h
    show (match paRes r g ((getR es g).getD .non) with
      | .ok r' => runPA es (l ++ m) r'
      | .error e => .error e) = _
    cases q : paRes r g ((getR es g).getD .non) with
    | error e => rw [q] at h; cases h
    | ok r1 =>
      rw [q] at h
      exact runPA_app (l := l) h
theorem runPA_ok {es : List (Str × V)} {r r' : Rows} {g : Str} {m : List Str} (h : paRes r g ((getR es g).getD .non) = .ok r') : runPA es (g :: m) r = runPA es m r' := by
  rw [runPA, h]
theorem runPA_er {es : List (Str × V)} {r : Rows} {g : Str} {m : List Str} {e : FErr} (h : paRes r g ((getR es g).getD .non) = .error e) : runPA es (g :: m) r = .error e := by
  rw [runPA, h]
theorem paRes_put {r r' : Rows} {z : Str} {y : V} (h : paRes r z y = .ok r') : ∃ n, y = .int n ∧ r' = putR r z n ∧ 0 ≤ n ∧ n ≤ 1000000 := by
  unfold paRes at h
  split at h
  · cases y with
    | int n =>
      dsimp only at h
      split at h
      · rename_i c
        refine ⟨n, rfl, ?_, c.1, c.2⟩
        split at h
        · split at h
          · cases h
          · split at h
            · cases h
            · cases h
              rfl
        · cases h
          rfl
      · cases h
    | _ => cases h
  · cases h
theorem putR_len {r : Rows} {z : Str} {n : Int} : (putR r z n).length ≤ r.length + 1 := by
  unfold putR
  split
  · simp
  · simp
theorem putR_names {r : Rows} {z : Str} {n : Int} {P : Str → Prop} (h : ∀ x ∈ r, P x.1) (hz : P z) : ∀ x ∈ putR r z n, P x.1 := fun x hx => by
  have m : x.1 ∈ (putR r z n).map (·.1) := List.mem_map.mpr ⟨x, hx, rfl⟩
  rw [keys_put] at m
  split at m
  · obtain ⟨y, hy, e⟩ := List.mem_map.mp m
    rw [← e]
    exact h y hy
  · rcases List.mem_append.mp m with m | m
    · obtain ⟨y, hy, e⟩ := List.mem_map.mp m
      rw [← e]
      exact h y hy
    · rw [List.mem_singleton.mp m]
      exact hz
def raiseFB (a : Ad) (bs : List Addr) (H : Hp) (E : XK) : FErr → Prop
  | .ig g => ∀ H' d, Fr bs H H' → Tab a H' → H' d = none → E (.ref a.C_InvalidGlyph) (some d) (upd H' d (.xd [("glyph", .str g)]))
  | .inn v => ∀ H' d, Fr bs H H' → Tab a H' → H' d = none → E (.ref a.C_InvalidNumber) (some d) (upd H' d (.xd [("value", v)]))
  | .ug g => ∀ H' d, Fr bs H H' → Tab a H' → H' d = none → E (.ref a.C_UnknownGlyph) (some d) (upd H' d (.xd [("glyph", .str g)]))
  | .tm => ∀ H' d, Fr bs H H' → Tab a H' → H' d = none → E (.ref a.C_TooMany) (some d) (upd H' d (.xd [("limit", .int 40)]))
theorem raiseFB.at {a : Ad} {bs : List Addr} {H H1 : Hp} {E : XK} {e : FErr} (h : raiseFB a bs H E e) (x : Fr bs H H1) : raiseF a H1 E e := by
  cases e <;> exact fun H' d y => h H' d (x.trans (Fr.of y))
theorem ff_put1 (ro : Addr) : putF "rows" (.ref ro) [] = ([("rows", .ref ro)] : List (Str × V)) := rfl
theorem ff_put2 (ro pr : Addr) : putF "pairs" (.ref pr) [("rows", .ref ro)] = ([("rows", .ref ro), ("pairs", .ref pr)] : List (Str × V)) := by
  have h1 : ¬ (("rows" : Str) = "pairs") := by decide +kernel
  simp [putF, h1]
theorem ff_put3 (ro pr : Addr) (y : V) : putF "space" y [("rows", .ref ro), ("pairs", .ref pr)] = ([("rows", .ref ro), ("pairs", .ref pr), ("space", y)] : List (Str × V)) := by
  have h1 : ¬ (("rows" : Str) = "space") := by decide +kernel
  have h2 : ¬ (("pairs" : Str) = "space") := by decide +kernel
  simp [putF, h1, h2]
theorem ff_put4 (ro pr pa : Addr) (n : Int) : putF "past" (.ref pa) [("rows", .ref ro), ("pairs", .ref pr), ("space", .int n)] = ffields ro pr pa n := by
  have h1 : ¬ (("rows" : Str) = "past") := by decide +kernel
  have h2 : ¬ (("pairs" : Str) = "past") := by decide +kernel
  have h3 : ¬ (("space" : Str) = "past") := by decide +kernel
  simp [ffields, putF, h1, h2, h3]
theorem none_of {H : Hp} {p q : Addr} {o : HO} (h : upd H p o q = none) : q ≠ p ∧ H q = none := by
  have n : q ≠ p := fun z => by rw [z, upd_same] at h; cases h
  rw [upd_ne n] at h
  exact ⟨n, h⟩

/-! ### the errors' classes -/
/-- a class right below FontError -/
structure OwnE (K : PySem.W.Frag) (a : Ad) (D : Addr) : Prop where
  mro : (PySem.W.clsIn K D).map (·.mro) = some [.ref D, .ref a.C_FontError, .type "ValueError", .type "Exception", .type "BaseException", .type "object"]
  ty : PySem.W.typeIn K (.ref D) = some (.type "type")
section
variable {K : PySem.W.Frag} {a : Ad} {C D : Addr}
theorem OwnE.some (o : OwnE K a D) : (PySem.W.clsIn K D).isSome = true := by
  have h := o.mro
  cases e : PySem.W.clsIn K D with
  | none => rw [e] at h; cases h
  | some cd => rfl
theorem OwnE.sub (o : OwnE K a D) (c : Value) : PySem.W.subIn K (.ref D) c = .some (([.ref D, .ref a.C_FontError, .type "ValueError", .type "Exception", .type "BaseException", .type "object"] : List Value).contains c) := by
  have h := o.mro
  show PySem.W.mroIn K D c = _
  unfold PySem.W.mroIn
  cases e : PySem.W.clsIn K D with
  | none => rw [e] at h; cases h
  | some cd =>
    rw [e] at h
    have h2 : cd.mro = _ := Option.some.inj h
    rw [Option.bind_some, h2]
    rfl
theorem OwnE.kcls (o : OwnE K a D) (o' : OwnE K a C) : PySem.W.kitCls K (.ref D) (.ref C) = .some (decide (C = D ∨ C = a.C_FontError)) := by
  show (if ((PySem.W.clsIn K C).isSome && PySem.W.typeIn K (.ref C) == .some (.type "type")) = true then PySem.W.subIn K (.ref D) (.ref C) else none) = _
  rw [o'.some, o'.ty, if_pos (by rfl), o.sub]
  congr 1
  rw [Bool.eq_iff_iff]
  simp
theorem OwnE.kitFE (o : OwnE K a D) (h1 : PySem.W.typeIn K (.ref a.C_FontError) = .some (.type "type")) (h2 : (PySem.W.clsIn K a.C_FontError).isSome = true) : PySem.W.kitCls K (.ref D) (.ref a.C_FontError) = .some true := by
  show (if ((PySem.W.clsIn K a.C_FontError).isSome && PySem.W.typeIn K (.ref a.C_FontError) == .some (.type "type")) = true then PySem.W.subIn K (.ref D) (.ref a.C_FontError) else none) = _
  rw [h1, h2, if_pos (by rfl), o.sub]
  congr 1
  simp
theorem OwnE.exm (o : OwnE K a D) (o' : OwnE K a C) : PySem.W.exmOne K (.ref D) (.ref C) = .some (decide (C = D ∨ C = a.C_FontError)) := by
  unfold PySem.W.exmOne
  rw [o'.sub, if_pos (by simp)]
  exact o.kcls o'
theorem OwnE.base (o : OwnE K a D) : PySem.W.subIn K (.ref D) (.type "BaseException") = .some true := by
  rw [o.sub]
  congr 1
end
def errL (a : Ad) : List Addr := [a.C_InvalidGlyph, a.C_InvalidNumber, a.C_UnknownGlyph, a.C_TooMany, a.C_DeedRefused]
section
variable {P : Program} {K : PySem.W.Frag} {mg : Str → Option Value} {base : Heap} {a : Ad} (T : Txt P K mg base a)
include T
theorem ownL : ∀ D ∈ errL a, OwnE K a D := by
  intro D h
  simp only [errL, List.mem_cons, List.not_mem_nil, or_false] at h
  rcases h with rfl | rfl | rfl | rfl | rfl
  · exact ⟨T.mr_InvalidGlyph, T.E_InvalidGlyph.tyC⟩
  · exact ⟨T.mr_InvalidNumber, T.E_InvalidNumber.tyC⟩
  · exact ⟨T.mr_UnknownGlyph, T.E_UnknownGlyph.tyC⟩
  · exact ⟨T.mr_TooMany, T.E_TooMany.tyC⟩
  · exact ⟨T.mr_DeedRefused, T.E_DeedRefused.tyC⟩
theorem ndL : (errL a ++ [a.C_FontError]).Nodup := T.nd_err
theorem neFE {D : Addr} (h : D ∈ errL a) : D ≠ a.C_FontError := fun z => by
  have nd := ndL T
  rw [List.nodup_append] at nd
  exact nd.2.2 D h _ (by simp) z
omit T in
theorem nodup_ix {l : List Addr} (nd : l.Nodup) {i j : Nat} {x : Addr} (hi : l[i]? = some x) (hj : l[j]? = some x) : i = j := by
  obtain ⟨h1, _⟩ := List.getElem?_eq_some_iff.mp hi
  exact (List.getElem?_inj h1 nd).mp (hi.trans hj.symm)
/-- who is caught by whom -/
theorem exm_ij {i j : Nat} {C D : Addr} (hi : (errL a)[i]? = some D) (hj : (errL a)[j]? = some C) : PySem.W.exmOne K (.ref D) (.ref C) = some (decide (j = i)) := by
  have mC := List.mem_of_getElem? hj
  rw [(ownL T D (List.mem_of_getElem? hi)).exm (ownL T C mC)]
  congr 1
  have nd : (errL a).Nodup := (List.nodup_append.mp (ndL T)).1
  have fe := neFE T mC
  refine decide_eq_decide.mpr ⟨fun z => ?_, fun z => ?_⟩
  · rcases z with z | z
    · exact nodup_ix nd hj (by rw [hi, z])
    · exact absurd z fe
  · subst z
    exact .inl (Option.some.inj (hj.symm.trans hi))
theorem exmFE {D : Addr} (h : D ∈ errL a) : PySem.W.exmOne K (.ref D) (.ref a.C_FontError) = some true := by
  unfold PySem.W.exmOne
  rw [T.be_FontError, if_pos (by rfl)]
  exact (ownL T D h).kitFE T.ty_FontError T.cl_FontError
end
theorem lk1 {f : Str} {v : V} {r : List (Str × V)} : List.lookup f ((f, v) :: r) = some v := by simp [List.lookup]
theorem wAll_no {K : PySem.W.Frag} {Wo : WX} {D : Ends} {q : Value × Nat × Suite} {r : List (Value × Nat × Suite)} {cls : Value} {d : Option Addr} {σ : L2.St} {H : Hp} (e : PySem.W.exmOne K cls q.1 = some false) (k : wAll K Wo D r cls d σ H) : wAll K Wo D (q :: r) cls d σ H := ⟨false, e, (fun z => nomatch z), fun _ => k⟩
theorem wAll_yes {K : PySem.W.Frag} {Wo : WX} {D : Ends} {q : Value × Nat × Suite} {r : List (Value × Nat × Suite)} {cls : Value} {d : Option Addr} {σ : L2.St} {H : Hp} (e : PySem.W.exmOne K cls q.1 = some true) (k : ∀ a, H a = none → q.2.2 a cls d (asD q.2.1 D) (σ.set q.2.1 (some (.ref a))) H) : wAll K Wo D (q :: r) cls d σ H := ⟨true, e, fun _ => k, (fun z => nomatch z)⟩
/-! ### the errors, uniformly -/
def errC (a : Ad) : FErr → Addr
  | .ig _ => a.C_InvalidGlyph
  | .inn _ => a.C_InvalidNumber
  | .ug _ => a.C_UnknownGlyph
  | .tm => a.C_TooMany
def errFs : FErr → List (Str × V)
  | .ig g => [("glyph", .str g)]
  | .inn v => [("value", v)]
  | .ug g => [("glyph", .str g)]
  | .tm => [("limit", .int 40)]
def errI : FErr → Nat
  | .ig _ => 0
  | .inn _ => 1
  | .ug _ => 2
  | .tm => 3
theorem errI_at (a : Ad) (e : FErr) : (errL a)[errI e]? = some (errC a e) := by cases e <;> rfl
theorem errC_mem (a : Ad) (e : FErr) : errC a e ∈ errL a := List.mem_of_getElem? (errI_at a e)
theorem raiseF_of {a : Ad} {H : Hp} {E : XK} {e : FErr} (h : raiseG a H E (errC a e) (errFs e)) : raiseF a H E e := by cases e <;> exact h
theorem raiseF_to {a : Ad} {H : Hp} {E : XK} {e : FErr} (h : raiseF a H E e) : raiseG a H E (errC a e) (errFs e) := by cases e <;> exact h
theorem raiseFB_of {a : Ad} {bs : List Addr} {H : Hp} {E : XK} {e : FErr} (h : ∀ H' d, Fr bs H H' → Tab a H' → H' d = none → E (.ref (errC a e)) (some d) (upd H' d (.xd (errFs e)))) : raiseFB a bs H E e := by cases e <;> exact h
theorem upd_comm {H : Hp} {p q : Addr} {o u : HO} (n : p ≠ q) : upd (upd H p o) q u = upd (upd H q u) p o := by
  funext b
  unfold upd
  by_cases h1 : b = q
  · rw [if_pos h1]
    by_cases h2 : b = p
    · exact absurd (h2.symm.trans h1) n
    · rw [if_neg h2, if_pos h1]
  · rw [if_neg h1]
    by_cases h2 : b = p
    · rw [if_pos h2, if_pos h2]
    · rw [if_neg h2, if_neg h2, if_neg h1]
/-! ### more readings -/
/-- the turns of a dict comprehension -/
def DcW (J : It) (g : TG) (tt : TT) (tk tv : TE) (vs : List Nat) (σ : L2.St) (Q : VK) (H1 : Hp) : Prop := ∀ D, H1 D = none → ∃ W : Nat → Nat → Hp → Prop, (∃ m, W 0 m (upd H1 D (.dK []))) ∧ ∀ i m H, W i m H →
  (J.stop i H ∧ Q (.ref D) H) ∨ (J.go i H ∧ ∃ Nx : Hp → Prop, (∀ H', Nx H' → ∃ m', m' < m ∧ W (i + 1) m' H') ∧ ∀ x H', J.yld i H x H' → g x (wipe σ vs) H' fun σ2 H2 => wipe σ2 vs = wipe σ vs ∧ tt σ2 H2 fun b H3 =>
    if b = true then tk σ2 H3 fun y H4 => tv σ2 H4 fun z H5 => ∃ kvs k, y = kV k ∧ H5 D = some (.dK kvs) ∧ kvs.length < sizeLine ∧ Nx (upd H5 D (.dK (putK kvs k z))) else Nx H3)
theorem w_dc {wi : TI} {g : TG} {tt : TT} {tk tv : TE} {vs : List Nat} {σ : L2.St} {H : Hp} {Q : VK} (k : wi σ H fun J H1 => DcW J g tt tk tv vs σ Q H1) : tDc wi g tt tk tv vs σ H Q := k
theorem dcsW {J : It} {n : Nat} {G : Hp → Prop} {Y : Nat → Hp → V → Hp → Prop} {g : TG} {tt : TT} {tk tv : TE} {vs : List Nat} {σ : L2.St} {Q : VK} {H1 : Hp} (w : L2.Walk J n G Y) (Pv : Addr → Nat → Hp → Prop) (h0 : ∀ D, H1 D = none → Pv D 0 (upd H1 D (.dK []))) (hG : ∀ D i H, i ≤ n → Pv D i H → G H)
    (hs : ∀ D i x H H', i < n → Pv D i H → Y i H x H' → g x (wipe σ vs) H' fun σ2 H2 => wipe σ2 vs = wipe σ vs ∧ tt σ2 H2 fun b H3 =>
      if b = true then tk σ2 H3 fun y H4 => tv σ2 H4 fun z H5 => ∃ kvs k, y = kV k ∧ H5 D = some (.dK kvs) ∧ kvs.length < sizeLine ∧ Pv D (i + 1) (upd H5 D (.dK (putK kvs k z))) else Pv D (i + 1) H3) (hd : ∀ D H, Pv D n H → Q (.ref D) H) : DcW J g tt tk tv vs σ Q H1 := by
  intro D hD
  refine ⟨fun i m H => m = n - i ∧ i ≤ n ∧ Pv D i H, ⟨n, by simp, Nat.zero_le _, h0 D hD⟩, ?_⟩
  rintro i m H ⟨rfl, hi, p⟩
  have q := hG D i H hi p
  by_cases hlt : i < n
  · exact .inr ⟨w.goes i H hlt q, Pv D (i + 1), fun H' p' => ⟨n - (i + 1), by omega, rfl, hlt, p'⟩, fun x H' y => hs D i x H H' hlt p (w.yields i H x H' hlt q y)⟩
  · have e : i = n := by omega
    subst e
    exact .inl ⟨w.stops H q, hd D H p⟩
/-- .. of an empty dict -/
theorem dcW0 {d : Addr} {o : Obj} {g : TG} {tt : TT} {tk tv : TE} {vs : List Nat} {σ : L2.St} {Q : VK} {H1 : Hp} (h : H1 d = some (.frz o (.dK []))) (k : ∀ D, H1 D = none → Q (.ref D) (upd H1 D (.dK []))) : DcW (Itk d o []) g tt tk tv vs σ Q H1 :=
  dcsW walk_keys (fun D i H' => H1 D = none ∧ H' = upd H1 D (.dK [])) (fun D hD => ⟨hD, rfl⟩) (fun D i H' _ ⟨hD, e⟩ => by rw [e]; exact upd_old h hD) (fun D i x H H' hi => absurd hi (by simp)) (fun D H ⟨hD, e⟩ => by rw [e]; exact k D hD)
theorem w_iE {K : PySem.W.Frag} {σ : L2.St} {H : Hp} {tar : TA} {R : It → Hp → Prop} (k : tar σ H fun vs H1 => ∃ a xs, vs = [.ref a] ∧ SqL K H1 a xs ∧ R (Ite K a) H1) : iEnum K tar σ H R := k
theorem w_gtup2 {K : PySem.W.Frag} {σ : L2.St} {H : Hp} {Q : L2.St → Hp → Prop} {a : Addr} {x y : V} {n i j : Nat} (e : SqT K H a [x, y]) (hn : n = 2) (k : Q ((σ.set i (some x)).set j (some y)) H) : gTup K n (gCons (gName i) (gCons (gName j) gNil)) (.ref a) σ H Q :=
  ⟨a, _, rfl, e, hn.symm, x, [y], rfl, y, [], rfl, rfl, k⟩
theorem w_gtupN {K : PySem.W.Frag} {σ : L2.St} {H : Hp} {Q : L2.St → Hp → Prop} {a : Addr} {xs : List V} {n : Nat} {g : TGs} (e : SqT K H a xs) (hn : xs.length = n) (k : g xs σ H Q) : gTup K n g (.ref a) σ H Q := ⟨a, _, rfl, e, hn, k⟩
theorem w_gcons {g : TG} {u : TGs} {x : V} {xs : List V} {σ : L2.St} {H : Hp} {Q : L2.St → Hp → Prop} (k : g x σ H fun σ' H' => u xs σ' H' Q) : gCons g u (x :: xs) σ H Q := ⟨x, xs, rfl, k⟩
theorem w_gnil {σ : L2.St} {H : Hp} {Q : L2.St → Hp → Prop} (k : Q σ H) : gNil [] σ H Q := ⟨rfl, k⟩
theorem w_ddel {td ty : TE} {σ : L2.St} {H : Hp} {D : Ends} (k : td σ H fun x H1 => ty σ H1 fun y H2 => ∃ a kvs k, x = .ref a ∧ H2 a = some (.dK kvs) ∧ y = kV k ∧ (valV kvs k).isSome = true ∧ D.nx σ (upd H2 a (.dK (dropK kvs k)))) : sDDel td ty D σ H := k
theorem w_gfld {K : PySem.W.Frag} {to : TE} {f : Str} {v : V} {σ : L2.St} {H : Hp} {Q : L2.St → Hp → Prop} (k : to σ H fun x H1 => ∃ a C dx fs, x = .ref a ∧ H1 a = some (.ins C dx fs) ∧ Cls K C ∧ NoAttr K C f ∧ fs.length < 1000 ∧ Q σ (upd H1 a (.ins C dx (putF f v fs)))) : gFld K to f v σ H Q := k
theorem w_gsetO {C : Addr} {sp : Sp} {E : L2.St → XK} {to ti : TE} {v : V} {σ : L2.St} {H : Hp} {Q : L2.St → Hp → Prop} (k : to σ H fun x H1 => ti σ H1 fun y H2 => ∃ a dx fs, x = .ref a ∧ H2 a = some (.ins C dx fs) ∧ sp [.ref a, y, v] H2 (fun _ H3 => Q σ H3) (E σ)) : gSetO C sp E to ti v σ H Q := k
theorem w_lenO {C : Addr} {sp : Sp} {p dx : Addr} {fs : List (Str × V)} {H : Hp} {Q : VK} (h : H p = some (.ins C dx fs)) (k : sp [.ref p] H (fun v H1 => ∃ n : Nat, v = .int n ∧ n < 2 ^ 62 ∧ Q (.int n) H1) E0) : rLenO C sp [.ref p] H Q := ⟨p, dx, fs, rfl, h, k⟩
theorem w_kget {K : PySem.W.Frag} {d : Addr} {td ty tx : TE} {σ : L2.St} {H : Hp} {Q : VK} (k : td σ H fun x H1 => x = .ref d ∧ ty σ H1 fun y H2 => tx σ H2 fun z H3 => ∃ (k : Str) (r : Option Value), y = .str k ∧ PySem.W.nsIn K d k = some r ∧ (r = none → Q z H3) ∧ ∀ u, r = some u → ∃ v, RelV v u ∧ Q v H3) : tKGet K d td ty tx σ H Q := k
theorem w_cmS {C : Addr} {sp : Sp} {dvs : List V} {E : L2.St → XK} {ta : TE} {t : TA} {σ : L2.St} {H : Hp} {Q : VK} (k : ta σ H fun x H1 => x = .ref C ∧ t σ H1 fun vs H2 => sp (.ref C :: vs ++ dvs) H2 Q (E σ)) : tCmS C sp dvs E ta t σ H Q := k
theorem w_cmK {C : Addr} {n m : Nat} {sp : Sp} {gV : List V → List V → List V} {E : L2.St → XK} {ta : TE} {t tk : TA} {σ : L2.St} {H : Hp} {Q : VK} (k : ta σ H fun x H1 => x = .ref C ∧ t σ H1 fun vs H2 => tk σ H2 fun zs H3 => vs.length = n ∧ zs.length = m ∧ sp (gV (.ref C :: vs) zs) H3 Q (E σ)) : tCmK C n m sp gV E ta t tk σ H Q := k
theorem w_mkKL {i : Nat} {C : Addr} {n m : Nat} {sp : Sp} {gV : List V → List V → List V} {E : L2.St → XK} {t tk : TA} {σ : L2.St} {H : Hp} {Q : VK} (h : σ[i]? = some (some (.ref C))) (k : tMkKS C n m sp gV E t tk σ H Q) : tMkKL i C n m sp gV E t tk σ H Q := ⟨h, k⟩
theorem w_mtKw {C : Addr} {m : Str} {ks : List Str} {sp : Sp} {E : L2.St → XK} {ta : TE} {tk : TA} {σ : L2.St} {H : Hp} {Q : VK} (k : ta σ H fun y H1 => ∃ a dx fs, y = .ref a ∧ H1 a = some (.ins C dx fs) ∧ fs.lookup m = none ∧ tk σ H1 fun vs H2 => vs.length = ks.length ∧
    ∀ d, H2 d = none → sp [.ref a, .ref d] (upd H2 d (.dK ((ks.zip vs).map fun q => (Sum.inr q.1, q.2)))) Q (E σ)) : tMtKw C m ks sp E ta tk σ H Q := k
theorem w_with {C : Addr} {spE spX : Sp} {tc : TE} {tb : WX → TS} {Wout : WX} {D : Ends} {σ : L2.St} {H : Hp} (k : tc σ H fun m H1 => ∃ x dx fs, m = .ref x ∧ H1 x = some (.ins C dx fs) ∧ spE [.ref x] H1 (fun _ H2 => tb (wWith spX x Wout) (dWith spX x D) σ H2) E0) : tWith C spE spX tc tb Wout D σ H := k
local macro_rules | `(tactic| walk_at "s") => `(tactic| first
  | with_reducible refine w_dc ?_
  | with_reducible refine w_yes ?_
  | with_reducible refine w_iE ?_
  | with_reducible refine w_gcons ?_
  | with_reducible refine w_gnil ?_
  | with_reducible refine w_ddel ?_
  | with_reducible refine w_gfld ?_
  | with_reducible refine w_gsetO ?_
  | with_reducible refine w_kget ?_
  | with_reducible refine w_cmS ?_
  | with_reducible refine w_cmK ?_
  | with_reducible refine w_mtKw ?_
  | with_reducible refine w_with ?_
  | ((with_reducible refine' w_mkKL ?h1 ?_); case h1 => rfl))
/-! ### fonts, more -/
def dropR {α : Type} (r : List (Str × α)) (g : Str) : List (Str × α) := r.filter fun x => decide (x.1 ≠ g)
theorem drop_encR (r : Rows) (g : Str) : dropK (encR r) (Sum.inr g) = encR (dropR r g) := by
  unfold dropK dropR encR
  rw [List.filter_map]
  congr 1
  congr 1
  funext x
  simp
theorem bf1 : (("rows" : Str) == "face") = false := by decide +kernel
theorem bf2 : (("pairs" : Str) == "face") = false := by decide +kernel
theorem bf3 : (("space" : Str) == "face") = false := by decide +kernel
def bfields (p ro pr : Addr) (s : Int) : List (Str × V) := [("face", .ref p), ("rows", .ref ro), ("pairs", .ref pr), ("space", .int s)]
section
variable {p ro pr pa : Addr} {s : Int}
theorem bf_face : (bfields p ro pr s).lookup ("face" : Str) = some (.ref p) := by simp [bfields, List.lookup]
theorem bf_rows : (bfields p ro pr s).lookup ("rows" : Str) = some (.ref ro) := by simp [bfields, List.lookup, bf1]
theorem bf_pairs : (bfields p ro pr s).lookup ("pairs" : Str) = some (.ref pr) := by simp [bfields, List.lookup, bf2, fk1]
theorem bf_space : (bfields p ro pr s).lookup ("space" : Str) = some (.int s) := by simp [bfields, List.lookup, bf3, fk2, fk3]
theorem bf_put1 : putF "face" (.ref p) [] = ([("face", .ref p)] : List (Str × V)) := rfl
theorem bf_put2 : putF "rows" (.ref ro) [("face", .ref p)] = ([("face", .ref p), ("rows", .ref ro)] : List (Str × V)) := by
  have h1 : ¬ (("face" : Str) = "rows") := by decide +kernel
  simp [putF, h1]
theorem bf_put3 : putF "pairs" (.ref pr) [("face", .ref p), ("rows", .ref ro)] = ([("face", .ref p), ("rows", .ref ro), ("pairs", .ref pr)] : List (Str × V)) := by
  have h1 : ¬ (("face" : Str) = "pairs") := by decide +kernel
  have h2 : ¬ (("rows" : Str) = "pairs") := by decide +kernel
  simp [putF, h1, h2]
theorem bf_put4 : putF "space" (.int s) [("face", .ref p), ("rows", .ref ro), ("pairs", .ref pr)] = bfields p ro pr s := by
  have h1 : ¬ (("face" : Str) = "space") := by decide +kernel
  have h2 : ¬ (("rows" : Str) = "space") := by decide +kernel
  have h3 : ¬ (("pairs" : Str) = "space") := by decide +kernel
  simp [bfields, putF, h1, h2, h3]
theorem ff_putR (ro2 : Addr) : putF "rows" (.ref ro2) (ffields ro pr pa s) = ffields ro2 pr pa s := by simp [ffields, putF]
theorem ff_putP (pr2 : Addr) : putF "pairs" (.ref pr2) (ffields ro pr pa s) = ffields ro pr2 pa s := by
  have h1 : ¬ (("rows" : Str) = "pairs") := by decide +kernel
  simp [ffields, putF, h1]
theorem ff_len : (ffields ro pr pa s).length = 4 := rfl
end
section
variable {a : Ad} {H H' : Hp} {p dx ro pr pa : Addr} {r : Rows} {s : Int}
theorem FontAt.nero (F : FontAt a H p dx ro pr pa r s) : p ≠ ro := ne_of F.ins F.row (by intro z; cases z)
theorem FontAt.nepr (F : FontAt a H p dx ro pr pa r s) : p ≠ pr := ne_of F.ins F.pai (by intro z; cases z)
theorem FontAt.nepa (F : FontAt a H p dx ro pr pa r s) {xs : List V} (h : H pa = some (.lst xs)) : pa ≠ p ∧ pa ≠ ro ∧ pa ≠ pr := ⟨ne_of h F.ins (by intro z; cases z), ne_of h F.row (by intro z; cases z), ne_of h F.pai (by intro z; cases z)⟩
theorem FontAt.pastU (F : FontAt a H p dx ro pr pa r s) {xs : List V} (h : H pa = some (.lst xs)) (o : HO) : FontAt a (upd H pa o) p dx ro pr pa r s := by
  obtain ⟨n1, n2, n3⟩ := F.nepa h
  exact F.fr (bs := [pa]) (Fr.refl.upd (by simp)) (by simpa using Ne.symm n1) (by simpa using Ne.symm n2) (by simpa using Ne.symm n3)
theorem FontAt.same (F : FontAt a H p dx ro pr pa r s) (x : Same H H') : FontAt a H' p dx ro pr pa r s := F.ex (Same.ex x)
end

def sp_is_between (K : PySem.W.Frag) (a : Ad) : Sp := sp3 fun x lo hi H Q _ => ∃ (l h : Int) (b : Bool), lo = .int l ∧ hi = .int h ∧ IsI K H x b ∧ (b = false → Q (.bl false) H) ∧ (b = true → ∃ n : Int, x = .int n ∧ Q (.bl (decide (l ≤ n ∧ n ≤ h))) H)
theorem ok_is_between {P : Program} {w : World} {K : PySem.W.Frag} {mg : Str → Option Value} {base : Heap} {a : Ad} (T : Txt P K mg base a) : FnOk P w K mg base CX0 2 a.f_is_between a.d_is_between (["value", "low", "high"] : List Str) (sp_is_between K a) := by
  refine T.F_is_between.ok sc_is_between (fun vs H Q E h => sp3_len h) (fun cdv A outer s H vs Q E hr h => ?_)
  have hu := hu_of hr
  refine ⟨_, (pss_cons (ps_if (pt_not (pt_val (pe_call (ok_is_integer T) (hr.mono (by decide)) rfl T.g_is_integer T.k_is_integer T.B_is_integer .nil pass0 (pa_cons (pv 0) pa_nil)))) (pss_one (ps_ret pe_bl)) pss_nil)
      (pss_one (ps_ret (pe_chain op_le op_le (pv 1) (pv 0) (pv 2))))), ?_⟩
  try dsimp only [L2.cxOf]
  obtain ⟨x, lo, hi, rfl, l, h, b, rfl, rfl, hx, k0, k1⟩ := h
  rw [show L2.start (["value", "low", "high"] : List Str) [x, (.int l), (.int h)] = ([some (x), some ((.int l)), some ((.int h))] : L2.St) from rfl]
  walk_at "w"
  refine ⟨x, rfl, b, hx, ?_⟩
  cases b with
  | false =>
    walk_at "w"
    exact k0 rfl
  | true =>
    obtain ⟨n, rfl, k⟩ := k1 rfl
    walk_at "w"
    refine it_dec (fun c => ?_) (fun c => ?_)
    · walk_at "w"
      rw [show decide (l ≤ n ∧ n ≤ h) = decide (n ≤ h) from decide_eq_decide.mpr ⟨fun z => z.2, fun z => ⟨c, z⟩⟩] at k
      exact k
    · rw [decide_eq_false (fun z => c z.1)] at k
      exact k

def sp_check_between (K : PySem.W.Frag) (a : Ad) : Sp := sp3 fun x lo hi H Q E => ∃ (l h : Int) (b : Bool), lo = .int l ∧ hi = .int h ∧ IsI K H x b ∧ (b = false → raiseIN a x H E) ∧ (b = true → ∃ n : Int, x = .int n ∧ (l ≤ n ∧ n ≤ h → Q .non H) ∧ (¬ (l ≤ n ∧ n ≤ h) → raiseIN a x H E))
theorem okN_check_between {P : Program} {w : World} {K : PySem.W.Frag} {mg : Str → Option Value} {base : Heap} {a : Ad} (T : Txt P K mg base a) : FnOk P w K mg base (L2N.CX P w) 3 a.f_check_between a.d_check_between (["value", "low", "high"] : List Str) (sp_check_between K a) := by
  refine funG T.F_check_between sc_check_between (fun vs H Q E h => sp3_len h) (fun cdv A outer s H vs Q E hr h => ?_)
  have hu := hu_of hr
  refine ⟨_, (pss_one (ps_if (pt_not (pt_val (pe_call (ok_is_between T) (hr.mono (by decide)) rfl T.g_is_between T.k_is_between T.B_is_between .nil pass0 (pa_cons (pv 0) (pa_cons (pv 1) (pa_cons (pv 2) pa_nil)))))) (pss_one (ps_rsN rfl (L2N.takes_of rfl rfl rfl rfl) (pmk1N T.E_InvalidNumber T.Y_InvalidNumber T.x_InvalidNumber_value hr (pa_cons (pv 0) pa_nil)))) pss_nil)), ?_⟩
  try dsimp only [L2.cxOf]
  obtain ⟨x, lo, hi, rfl, l, h, b, rfl, rfl, hx, k0, k1⟩ := h
  rw [show L2.start (["value", "low", "high"] : List Str) [x, (.int l), (.int h)] = ([some (x), some ((.int l)), some ((.int h))] : L2.St) from rfl]
  walk_at "w"
  refine ⟨x, _, _, rfl, l, h, b, rfl, rfl, hx, fun e => ?_, fun e => ?_⟩
  · walk_at "w"
    exact k0 e
  · obtain ⟨n, rfl, k2, k3⟩ := k1 e
    refine ⟨n, rfl, ?_⟩
    walk_at "w"
    refine it_ndec (fun c => ?_) (fun c => ?_)
    · walk_at "w"
      exact k2 c
    · walk_at "w"
      exact k3 c
theorem ok_check_between {P : Program} {w : World} {K : PySem.W.Frag} {mg : Str → Option Value} {base : Heap} {a : Ad} (T : Txt P K mg base a) : FnOk P w K mg base (L2.CX P w) 3 a.f_check_between a.d_check_between (["value", "low", "high"] : List Str) (sp_check_between K a) := FnOk.weak (okN_check_between T)

def sp_font_order (K : PySem.W.Frag) (a : Ad) : Sp := sp1 fun x H Q _ => ∃ (p : Addr) (ss : List Str), x = .ref p ∧ (SqL K H p (ss.map V.str) ∨ ∃ kvs, H p = some (.dK kvs) ∧ kvs.map (·.1) = ss.map Sum.inr) ∧ ss.length ≤ 1000 ∧ (∀ z ∈ ss, z.length ≤ sizeLine) ∧ Tab a H ∧
  ∀ H' l, Ex H H' → Tab a H' → New H l → H' l = some (.lst ((ss.mergeSort rankLe).map V.str)) → Q (.ref l) H'
theorem ok_font_order {P : Program} {w : World} {K : PySem.W.Frag} {mg : Str → Option Value} {base : Heap} {a : Ad} (T : Txt P K mg base a) : FnOk P w K mg base CX0 3 a.f_font_order a.d_font_order (["glyphs"] : List Str) (sp_font_order K a) := by
  refine T.F_font_order.ok sc_font_order (fun vs H Q E h => sp1_len h) (fun A outer s H vs Q E hr h => ?_)
  have hu := hu_of hr
  refine ⟨_, (pss_cons (ps_or (ps_lock (ps_setLc (i := 1) (own := [("glyph", 2)]) (g := gName 2) (by rfl) sc_font_order.nd rfl rfl (sw_true rfl rfl rfl (by decide +kernel)) (pi_keys (pv 0)) (blkOk_by (own := [("glyph", 2)]) (N := ["glyphs", "others", "glyph", "names"]) (sc := defScope s_font_order) (by decide +kernel)) (fun _ _ _ _ _ => (pg_name (i := 2) sc_font_order.nd rfl (Or.inl rfl))) (fun _ _ _ _ _ => (pts_one (pt_not (pt_val (pe_callB (show CallR _ _ (rIsi K) from call_isi) (by rfl) T.n_isinstance bb_isinstance (pa_cons (pv 2) (pa_cons (pe_bltn (v := .ty "str") (by rfl) T.n_str bb_str rfl) pa_nil))))))) (fun _ _ _ _ _ => (pv 2))))
      (ps_setLc (i := 1) (own := [("glyph", 2)]) (g := gName 2) (by rfl) sc_font_order.nd rfl rfl (sw_true rfl rfl rfl (by decide +kernel)) (pi_list (pv 0)) (blkOk_by (own := [("glyph", 2)]) (N := ["glyphs", "others", "glyph", "names"]) (sc := defScope s_font_order) (by decide +kernel)) (fun _ _ _ _ _ => (pg_name (i := 2) sc_font_order.nd rfl (Or.inl rfl))) (fun _ _ _ _ _ => (pts_one (pt_not (pt_val (pe_callB (show CallR _ _ (rIsi K) from call_isi) (by rfl) T.n_isinstance bb_isinstance (pa_cons (pv 2) (pa_cons (pe_bltn (v := .ty "str") (by rfl) T.n_str bb_str rfl) pa_nil))))))) (fun _ _ _ _ _ => (pv 2))))
      (pss_cons (ps_or (ps_lock (ps_setLc (i := 3) (own := [("glyph", 2)]) (g := gName 2) (by rfl) sc_font_order.nd rfl rfl (sw_true rfl rfl rfl (by decide +kernel)) (pi_keys (pv 0)) (blkOk_by (own := [("glyph", 2)]) (N := ["glyphs", "others", "glyph", "names"]) (sc := defScope s_font_order) (by decide +kernel)) (fun _ _ _ _ _ => (pg_name (i := 2) sc_font_order.nd rfl (Or.inl rfl))) (fun _ _ _ _ _ => (pts_one (pt_val (pe_callB (show CallR _ _ (rIsi K) from call_isi) (by rfl) T.n_isinstance bb_isinstance (pa_cons (pv 2) (pa_cons (pe_bltn (v := .ty "str") (by rfl) T.n_str bb_str rfl) pa_nil)))))) (fun _ _ _ _ _ => (pv 2))))
      (ps_setLc (i := 3) (own := [("glyph", 2)]) (g := gName 2) (by rfl) sc_font_order.nd rfl rfl (sw_true rfl rfl rfl (by decide +kernel)) (pi_list (pv 0)) (blkOk_by (own := [("glyph", 2)]) (N := ["glyphs", "others", "glyph", "names"]) (sc := defScope s_font_order) (by decide +kernel)) (fun _ _ _ _ _ => (pg_name (i := 2) sc_font_order.nd rfl (Or.inl rfl))) (fun _ _ _ _ _ => (pts_one (pt_val (pe_callB (show CallR _ _ (rIsi K) from call_isi) (by rfl) T.n_isinstance bb_isinstance (pa_cons (pv 2) (pa_cons (pe_bltn (v := .ty "str") (by rfl) T.n_str bb_str rfl) pa_nil)))))) (fun _ _ _ _ _ => (pv 2))))
      (pss_one (ps_ret (pe_op op_cat (pv 1) (pe_sortLam T.TB_font_order rfl rfl ⟨rfl, rfl, rfl, by decide +kernel, by decide +kernel, rfl, rfl, by decide +kernel⟩ (by rfl) (fun _ _ _ _ _ => rfl) (pv 3) (by rfl) T.n_sorted T.n_len (hr.mono (by decide)) (units64 hr))))))), ?_⟩
  try dsimp only [L2.cxOf]
  obtain ⟨x, rfl, p, ss, rfl, hs, hn, hl, tb, k⟩ := h
  rw [show L2.start (["glyphs", "others", "glyph", "names"] : List Str) [(.ref p)] = ([some ((.ref p)), none, none, none] : L2.St) from rfl]
  have sz : sizeLine = 16777216 := by decide
  have fin : ∀ (D1 D2 : Addr) (σ0 : Option V), H D1 = none → upd H D1 (.lst []) D2 = none → tRet (tOp rCat (tVar 1) (tSortLam K a.P_font_order qfo (tVar 3))) { nx := fun x H' => Q V.non H', rt := Q } [some (V.ref p), some (V.ref D1), σ0, some (V.ref D2)] (upd (upd H D1 (.lst [])) D2 (.lst (ss.map V.str))) := by
    intro D1 D2 σ0 n1 n2
    have e2 : Ex H (upd (upd H D1 (.lst [])) D2 (.lst (ss.map V.str))) := (Ex.new n1).trans (Ex.new n2)
    walk_at "w"
    refine w_sortLam ?_
    walk_at "w"
    refine ⟨D2, ss, rfl, SqL.of upd_same, hl, Tab.new (Tab.new tb n1) n2, fun H2 x2 t2 q nq => ?_⟩
    have h1 : H2 D1 = some (.lst []) := x2 _ _ (upd_old upd_same n2) trivial
    refine w_cat (upd_old h1 nq) upd_same ?_ fun l nl => ?_
    · rw [List.length_map, List.length_mergeSort, sz]
      show 0 + ss.length ≤ _
      omega
    · rw [List.nil_append]
      have x3 : Ex H2 (upd (upd H2 q (.lst ((ss.mergeSort rankLe).map V.str))) l (.lst ((ss.mergeSort rankLe).map V.str))) := (Ex.new nq).trans (Ex.new nl)
      refine k _ l ((e2.trans x2).trans x3) (Tab.new (Tab.new t2 nq) nl) (New.back (New.of nl) ((e2.trans x2).trans (Ex.new nq))) upd_same
  have isS : ∀ (z : Str) (H' : Hp), TyX K H' (.str z) (.type "str") := fun z H' => .base (.str z)
  have kS : PySem.W.kitOne K (.type "str") (.type "str") = some true := kit_ty (by decide +kernel)
  rcases hs with hs | ⟨kvs, hd, hk⟩
  · have item : ∀ {i : Nat} {x : V}, (ss.map V.str)[i]? = some x → ∃ z, x = .str z ∧ ss[i]? = some z := fun {i x} e => by
      rw [List.getElem?_map] at e
      obtain ⟨z, h1, h2⟩ := Option.map_eq_some_iff.mp e
      exact ⟨z, h2.symm, h1⟩
    walk_at "w"
    refine w_inr ?_
    walk_at "w"
    refine ⟨p, rfl, ⟨_, hs⟩, lcsW (walk_list (xs := ss.map V.str)) (fun D i H' => H D = none ∧ H' = upd H D (.lst [])) (fun D hD => ⟨hD, rfl⟩) (fun D i H' _ ⟨hD, e⟩ => by rw [e]; exact (Ex.new hD).sqL hs) ?_ ?_⟩
    · rintro D i x H1 H' hi ⟨hD, rfl⟩ ⟨rfl, hx⟩
      obtain ⟨z, rfl, _⟩ := item hx
      walk_at "w"
      refine ⟨rfl, ?_⟩
      walk_at "w"
      refine w_isi (.ty "str") (isS z _) kS ?_
      walk_at "w"
      exact ⟨hD, rfl⟩
    · rintro D1 H' ⟨n1, rfl⟩
      have hs1 := (Ex.new (o := .lst []) n1).sqL hs
      walk_at "w"
      refine w_inr ?_
      walk_at "w"
      refine ⟨p, rfl, ⟨_, hs1⟩, lcsW (walk_list (xs := ss.map V.str)) (fun D i H' => upd H D1 (.lst []) D = none ∧ H' = upd (upd H D1 (.lst [])) D (.lst ((ss.take i).map V.str))) (fun D hD => ⟨hD, rfl⟩) (fun D i H' _ ⟨hD, e⟩ => by rw [e]; exact (Ex.new hD).sqL hs1) ?_ ?_⟩
      · rintro D i x H1 H' hi ⟨hD, rfl⟩ ⟨rfl, hx⟩
        obtain ⟨z, rfl, hz⟩ := item hx
        walk_at "w"
        refine ⟨rfl, ?_⟩
        walk_at "w"
        refine w_isi (.ty "str") (isS z _) kS ?_
        walk_at "w"
        refine ⟨_, upd_same, ?_, hD, ?_⟩
        · rw [List.length_map, List.length_take, sz]
          omega
        · rw [upd_upd, List.take_add_one, hz]
          simp
      · rintro D2 H' ⟨n2, rfl⟩
        rw [List.length_map, List.take_length]
        refine w_gname rfl ?_
        exact fin D1 D2 _ n1 n2
  · have item : ∀ {i : Nat} {x : V}, (∃ k v, kvs[i]? = some (k, v) ∧ x = kV k) → ∃ z, x = .str z ∧ ss[i]? = some z := fun {i x} ⟨k, v, e, ex⟩ => by
      have h1 : (kvs.map (·.1))[i]? = some k := by rw [List.getElem?_map, e]; rfl
      rw [hk, List.getElem?_map] at h1
      obtain ⟨z, h2, h3⟩ := Option.map_eq_some_iff.mp h1
      exact ⟨z, by rw [ex, ← h3]; rfl, h2⟩
    have hlen : kvs.length = ss.length := by
      have := congrArg List.length hk
      simpa using this
    walk_at "w"
    refine w_inl (w_lock hd trivial fun od => ?_)
    walk_at "w"
    have ed : ∀ D, upd H p (.frz od (.dK kvs)) D = none → H D = none ∧ D ≠ p := fun D e => by
      have n : D ≠ p := fun z => by rw [z, upd_same] at e; cases e
      rw [upd_ne n] at e
      exact ⟨e, n⟩
    refine ⟨p, od, rfl, .inl ⟨kvs, upd_same, lcsW walk_keys (fun D i H' => upd H p (.frz od (.dK kvs)) D = none ∧ H' = upd (upd H p (.frz od (.dK kvs))) D (.lst [])) (fun D hD => ⟨hD, rfl⟩) (fun D i H' _ ⟨hD, e⟩ => by rw [e]; exact upd_old upd_same hD) ?_ ?_⟩⟩
    · rintro D i x H1 H' hi ⟨hD, rfl⟩ ⟨rfl, hx⟩
      obtain ⟨z, rfl, _⟩ := item hx
      walk_at "w"
      refine ⟨rfl, ?_⟩
      walk_at "w"
      refine w_isi (.ty "str") (isS z _) kS ?_
      walk_at "w"
      exact ⟨hD, rfl⟩
    · rintro D1 H' ⟨m1, rfl⟩
      obtain ⟨n1, q1⟩ := ed D1 m1
      walk_at "w"
      refine ⟨upd_old upd_same m1, ?_⟩
      rw [upd_lock hd q1]
      have hd1 : upd H D1 (.lst []) p = some (.dK kvs) := upd_old hd n1
      walk_at "w"
      refine w_inl (w_lock hd1 trivial fun od2 => ?_)
      walk_at "w"
      have ed2 : ∀ D, upd (upd H D1 (.lst [])) p (.frz od2 (.dK kvs)) D = none → upd H D1 (.lst []) D = none ∧ D ≠ p := fun D e => by
        have n : D ≠ p := fun z => by rw [z, upd_same] at e; cases e
        rw [upd_ne n] at e
        exact ⟨e, n⟩
      refine ⟨p, od2, rfl, .inl ⟨kvs, upd_same, lcsW walk_keys (fun D i H' => upd (upd H D1 (.lst [])) p (.frz od2 (.dK kvs)) D = none ∧ H' = upd (upd (upd H D1 (.lst [])) p (.frz od2 (.dK kvs))) D (.lst ((ss.take i).map V.str))) (fun D hD => ⟨hD, rfl⟩) (fun D i H' _ ⟨hD, e⟩ => by rw [e]; exact upd_old upd_same hD) ?_ ?_⟩⟩
      · rintro D i x H1 H' hi ⟨hD, rfl⟩ ⟨rfl, hx⟩
        obtain ⟨z, rfl, hz⟩ := item hx
        walk_at "w"
        refine ⟨rfl, ?_⟩
        walk_at "w"
        refine w_isi (.ty "str") (isS z _) kS ?_
        walk_at "w"
        refine ⟨_, upd_same, ?_, hD, ?_⟩
        · rw [List.length_map, List.length_take, sz]
          omega
        · rw [upd_upd, List.take_add_one, hz]
          simp
      · rintro D2 H' ⟨m2, rfl⟩
        obtain ⟨n2, q2⟩ := ed2 D2 m2
        rw [hlen, List.take_length]
        walk_at "w"
        refine ⟨upd_old upd_same m2, ?_⟩
        rw [upd_lock hd1 q2]
        exact fin D1 D2 _ n1 n2

def sp_is_name (K : PySem.W.Frag) (a : Ad) : Sp := sp1 fun x H Q _ => ∃ z : Str, x = .str z ∧ z.length ≤ sizeLine ∧ Q (.bl (isName z)) H
theorem ok_is_name {P : Program} {w : World} {K : PySem.W.Frag} {mg : Str → Option Value} {base : Heap} {a : Ad} (T : Txt P K mg base a) : FnOk P w K mg base CX0 1 a.f_is_name a.d_is_name (["glyph"] : List Str) (sp_is_name K a) := by
  refine T.F_is_name.ok sc_is_name (fun vs H Q E h => sp1_len h) (fun cdv A outer s H vs Q E hr h => ?_)
  have hu := hu_of hr
  refine ⟨_, (pss_cons (ps_if (PW.pt (pw_or (pt_not (pt_val (pe_callB call_isi (by rfl) T.n_isinstance bb_isinstance (pa_cons (pv 0) (pa_cons (pe_bltn (v := .ty "str") (by rfl) T.n_str bb_str rfl) pa_nil))))) (pw_or1 (pt_not (pt_chain op_le op_le pe_int (pe_callB qc_lenX (by rfl) T.n_len bb_len (pa_cons (pv 0) pa_nil)) (ClX.pe_cval (pe_glob (v := .ref a.C_Font) rfl T.g_Font rfl))))))) (pss_one (ps_ret pe_bl)) pss_nil)
      (pss_cons (ps_for PassesOwn.never rfl (pi_str (pv 0)) (pg_name (i := 1) sc_is_name.nd rfl (Or.inl rfl)) (pss_one (ps_if (pt_not (pt_chain qo_leS qo_leS pe_str (pv 1) pe_str)) (pss_one (ps_ret pe_bl)) pss_nil)))
      (pss_one (ps_ret pe_bl)))), ?_⟩
  try dsimp only [L2.cxOf]
  obtain ⟨x, rfl, z, rfl, hz, k⟩ := h
  rw [show L2.start (["glyph", "letter"] : List Str) [(.str z)] = ([some ((.str z)), none] : L2.St) from rfl]
  walk_at "w"
  refine w_isi (.ty "str") (.base (.str z)) kitSS ?_
  obtain ⟨u6, cv6⟩ := T.cv_Font_MOST_LETTERS
  have fin : 1 ≤ z.length → z.length ≤ 6 → isName z = z.cps.toList.all fun c => decide (97 ≤ c ∧ c ≤ 122) := fun h1 h2 => by
    unfold isName
    rw [decide_eq_true ⟨h1, h2⟩, Bool.true_and]
  walk_at "w"
  refine w_lenX hz ?_
  walk_at "w"
  refine it_dec (fun c1 => ?_) (fun c1 => ?_)
  · walk_at "w"
    refine ⟨_, _, _, _, rfl, T.cr_Font, cv6, ?_⟩
    walk_at "w"
    refine it_ndec (fun c2 => ?_) (fun c2 => ?_)
    · rw [fin (by omega) (by omega)] at k
      walk_at "w"
      refine ⟨z, rfl, turnsW walk_str (fun i σ' H' => H' = H ∧ (∃ z0, σ' = [some (.str z), z0]) ∧ ((z.cps.toList.take i).all fun c => decide (97 ≤ c ∧ c ≤ 122)) = true) ⟨rfl, ⟨_, rfl⟩, by simp⟩ (fun _ _ _ _ _ => trivial) ?_ ?_⟩
      · rintro i x σ' H1 H' hi ⟨rfl, ⟨z0, rfl⟩, ok⟩ ⟨rfl, c, hc, rfl⟩
        have hc' : z.cps.toList[i]? = some c := by rw [Array.getElem?_toList]; exact hc
        walk_at "w"
        rw [aCps, ltOne]
        refine it_ndec (fun d1 => ?_) (fun d1 => ?_)
        · walk_at "w"
          rw [List.all_eq_false.mpr ⟨c, List.mem_of_getElem? hc', by simp; omega⟩] at k
          exact k
        · walk_at "w"
          rw [zCps, ltOne, Bool.not_not]
          refine it_dec (fun d2 => ?_) (fun d2 => ?_)
          · walk_at "w"
            rw [List.all_eq_false.mpr ⟨c, List.mem_of_getElem? hc', by simp; omega⟩] at k
            exact k
          · walk_at "w"
            refine ⟨rfl, ⟨_, rfl⟩, ?_⟩
            rw [List.take_add_one, hc', List.all_append, ok]
            simp
            omega
      · rintro σ' H1 ⟨rfl, ⟨z0, rfl⟩, ok⟩
        walk_at "w"
        rw [show z.cps.toList.take z.cps.size = z.cps.toList from List.take_of_length_le (by simp)] at ok
        rw [ok] at k
        exact k
    · walk_at "w"
      rw [show isName z = false from by unfold isName; rw [decide_eq_false (by omega), Bool.false_and]] at k
      exact k
  · walk_at "w"
    rw [show isName z = false from by unfold isName; rw [decide_eq_false (by omega), Bool.false_and]] at k
    exact k

def sp_is_deed (K : PySem.W.Frag) (a : Ad) : Sp := sp1 fun x H Q _ => ∃ (t : Addr) (ys : List V), x = .ref t ∧ (H t = some (.tup (.str "blank" :: ys)) ∧ ys.length = 1 ∨ H t = some (.tup (.str "advance" :: ys)) ∧ ys.length = 2) ∧ Q (.bl true) H
theorem ok_is_deed {P : Program} {w : World} {K : PySem.W.Frag} {mg : Str → Option Value} {base : Heap} {a : Ad} (T : Txt P K mg base a) (hw : a.w_ = w) : FnOk P w K mg base CX0 1 a.f_is_deed a.d_is_deed (["deed"] : List Str) (sp_is_deed K a) := by
  refine T.F_is_deed.ok sc_is_deed (fun vs H Q E h => sp1_len h) (fun cdv A outer s H vs Q E hr h => ?_)
  have hu := hu_of hr
  obtain ⟨kes, kn, KD⟩ := T.KD_DEED_SIZES
  rw [hw] at KD
  refine ⟨_, (pss_cons (ps_if (PW.pt (pw_or (pt_not (pt_val (pe_callB call_isi (by rfl) T.n_isinstance bb_isinstance (pa_cons (pv 0) (pa_cons (pe_bltn (v := .ty "tuple") (by rfl) T.n_tuple bb_tuple rfl) pa_nil))))) (pw_or (pt_cmpR op_eq (pe_callB qc_len (by rfl) T.n_len bb_len (pa_cons (pv 0) pa_nil)) pe_int (nomark _)) (pw_or1 (pt_not (pt_val (pe_callB call_isi (by rfl) T.n_isinstance bb_isinstance (pa_cons (pe_ix ix_tup (pv 0) pe_int (fun _ _ => rfl)) (pa_cons (pe_bltn (v := .ty "str") (by rfl) T.n_str bb_str rfl) pa_nil))))))))) (pss_one (ps_ret pe_bl)) pss_nil)
      (pss_one (ps_ret (pe_cmpR op_eq (pe_kget KD (pe_glob (v := .ref a.D_DEED_SIZES) rfl T.g_DEED_SIZES rfl) (pe_ix ix_tup (pv 0) pe_int (fun _ _ => rfl)) pe_int) (pe_callB qc_len (by rfl) T.n_len bb_len (pa_cons (pv 0) pa_nil)) (nomark _))))), ?_⟩
  try dsimp only [L2.cxOf]
  obtain ⟨x, rfl, t, ys, rfl, ht, k⟩ := h
  rw [show L2.start (["deed"] : List Str) [(.ref t)] = ([some ((.ref t))] : L2.St) from rfl]
  have get : ∀ {k : Str} {n : Int}, isIntAt K a.D_DEED_SIZES k n = true → ∃ tk, PySem.W.nsIn K a.D_DEED_SIZES k = some (some (.int n tk)) := fun h => isIntAt_to h
  have kS : PySem.W.kitOne K (.type "str") (.type "str") = some true := kit_ty (by decide +kernel)
  have kT : PySem.W.kitOne K (.type "tuple") (.type "tuple") = some true := kit_ty (by decide +kernel)
  rcases ht with ⟨ht, hl⟩ | ⟨ht, hl⟩
  · obtain ⟨tk, hn⟩ := get T.ds_blank
    walk_at "w"
    refine w_isi (.ty "tuple") (.base (.tup ht)) kT ?_
    walk_at "w"
    rw [List.length_cons, hl]
    refine it_neg (fun c => by have := V.int.inj c; omega) ?_
    walk_at "w"
    refine w_ixT (SqT.of ht) (atI_nat (j := 0) rfl) ?_
    walk_at "w"
    refine w_isi (.ty "str") (.base (.str _)) kS ?_
    walk_at "w"
    refine ⟨rfl, ?_⟩
    walk_at "w"
    refine w_ixT (SqT.of ht) (atI_nat (j := 0) rfl) ?_
    walk_at "w"
    refine ⟨_, _, rfl, hn, (fun z => nomatch z), fun u hu => ?_⟩
    cases hu
    refine ⟨.int 2, ⟨_, rfl⟩, ?_⟩
    walk_at "w"
    rw [List.length_cons, hl]
    exact k
  · obtain ⟨tk, hn⟩ := get T.ds_advance
    walk_at "w"
    refine w_isi (.ty "tuple") (.base (.tup ht)) kT ?_
    walk_at "w"
    rw [List.length_cons, hl]
    refine it_neg (fun c => by have := V.int.inj c; omega) ?_
    walk_at "w"
    refine w_ixT (SqT.of ht) (atI_nat (j := 0) rfl) ?_
    walk_at "w"
    refine w_isi (.ty "str") (.base (.str _)) kS ?_
    walk_at "w"
    refine ⟨rfl, ?_⟩
    walk_at "w"
    refine w_ixT (SqT.of ht) (atI_nat (j := 0) rfl) ?_
    walk_at "w"
    refine ⟨_, _, rfl, hn, (fun z => nomatch z), fun u hu => ?_⟩
    cases hu
    refine ⟨.int 3, ⟨_, rfl⟩, ?_⟩
    walk_at "w"
    rw [List.length_cons, hl]
    exact k

def sp_Font_known (K : PySem.W.Frag) (a : Ad) : Sp := sp2 fun s x H Q _ => ∃ (p dx ro pr pa : Addr) (r : Rows) (sp : Int) (z : Str), s = .ref p ∧ x = .str z ∧ FontAt a H p dx ro pr pa r sp ∧ Q (.bl (getR r z).isSome) H
theorem ok_Font_known {P : Program} {w : World} {K : PySem.W.Frag} {mg : Str → Option Value} {base : Heap} {a : Ad} (T : Txt P K mg base a) : FnOk P w K mg base CX0 1 a.f_Font_known a.d_Font_known (["self", "glyph"] : List Str) (sp_Font_known K a) := by
  refine T.F_Font_known.ok sc_Font_known (fun vs H Q E h => sp2_len h) (fun cdv A outer s H vs Q E hr h => ?_)
  have hu := hu_of hr
  refine ⟨_, (pss_one (ps_ret (pe_and (pe_callB call_isi (by rfl) T.n_isinstance bb_isinstance (pa_cons (pv 1) (pa_cons (pe_bltn (v := .ty "str") (by rfl) T.n_str bb_str rfl) pa_nil))) (pe_one (pe_cmp (pc_din hu (pv 1) (pe_fld (pv 0) rfl)) rfl))))), ?_⟩
  try dsimp only [L2.cxOf]
  obtain ⟨s0, x, rfl, p, dx, ro, pr, pa, r, sp, z, rfl, rfl, F, k⟩ := h
  rw [show L2.start (["self", "glyph"] : List Str) [(.ref p), (.str z)] = ([some ((.ref p)), some ((.str z))] : L2.St) from rfl]
  walk_at "w"
  refine w_isi (.ty "str") (.base (.str z)) kitSS ?_
  walk_at "w"
  refine F.rowsF T ?_
  walk_at "w"
  refine ⟨ro, _, rfl, F.get z, ?_⟩
  rw [Option.isSome_map]
  exact k

def sp_Font_ligatures (K : PySem.W.Frag) (a : Ad) : Sp := sp1 fun s H Q _ => ∃ (p dx ro pr pa : Addr) (r : Rows) (sp : Int), s = .ref p ∧ FontAt a H p dx ro pr pa r sp ∧ r.length ≤ 1000 ∧ (∀ x ∈ r, x.1.length ≤ sizeLine) ∧ Tab a H ∧
  ∀ H' l, Ex H H' → Tab a H' → New H l → H' l = some (.lst (((ligs r).mergeSort rankLe).map V.str)) → Q (.ref l) H'
theorem ok_Font_ligatures {P : Program} {w : World} {K : PySem.W.Frag} {mg : Str → Option Value} {base : Heap} {a : Ad} (T : Txt P K mg base a) : FnOk P w K mg base CX0 4 a.f_Font_ligatures a.d_Font_ligatures (["self"] : List Str) (sp_Font_ligatures K a) := by
  refine T.F_Font_ligatures.ok sc_Font_ligatures (fun vs H Q E h => sp1_len h) (fun cdv A outer s H vs Q E hr h => ?_)
  have hu := hu_of hr
  refine ⟨_, (pss_one (ps_ret (pe_call (ok_font_order T) (hr.mono (by decide)) rfl T.g_font_order T.k_font_order T.B_font_order .nil pass0 (pa_cons (pe_lock (pe_lc (own := [("glyph", 1)]) (g := gName 1) (by rfl) sc_Font_ligatures.nd (pi_keys (pe_fld (pv 0) rfl)) (blkOk_by (own := [("glyph", 1)]) (N := ["self", "glyph"]) (sc := defScope s_Font_ligatures) (by decide +kernel)) (fun _ _ _ _ _ => (pg_name (i := 1) sc_Font_ligatures.nd rfl (Or.inl rfl))) (fun _ _ _ _ _ => (pts_one (pt_cmpR op_gt (pe_callB qc_lenX (by rfl) T.n_len bb_len (pa_cons (pv 1) pa_nil)) pe_int (nomark _)))) (fun _ _ _ _ _ => (pv 1)))) pa_nil)))), ?_⟩
  try dsimp only [L2.cxOf]
  obtain ⟨s0, rfl, p, dx, ro, pr, pa, r, sp, rfl, F, hn, hl, tb, k⟩ := h
  rw [show L2.start (["self", "glyph"] : List Str) [(.ref p)] = ([some ((.ref p)), none] : L2.St) from rfl]
  have sz : sizeLine = 16777216 := by decide
  walk_at "w"
  refine w_lockE F.row trivial fun od => ?_
  have ed : ∀ D, upd H ro (.frz od (.dK (encR r))) D = none → H D = none ∧ D ≠ ro := fun D e => by
    have n : D ≠ ro := fun z => by rw [z, upd_same] at e; cases e
    rw [upd_ne n] at e
    exact ⟨e, n⟩
  walk_at "w"
  refine ⟨p, _, dx, _, _, rfl, (by rw [upd_ne (ne_of F.ins F.row (by intro z; cases z))]; exact F.ins), T.c_Font, T.na_Font_rows, ff_rows, ?_⟩
  walk_at "w"
  refine ⟨ro, od, rfl, .inl ⟨encR r, upd_same, lcsW walk_keys (fun D i H' => upd H ro (.frz od (.dK (encR r))) D = none ∧ H' = upd (upd H ro (.frz od (.dK (encR r)))) D (.lst ((((r.map (·.1)).take i).filter fun z => decide (1 < z.length)).map V.str))) (fun D hD => ⟨hD, by simp⟩) (fun D i H' _ ⟨hD, e⟩ => by rw [e]; exact upd_old upd_same hD) ?_ ?_⟩⟩
  · rintro D i x H1 H' hi ⟨hD, rfl⟩ ⟨rfl, kk, v, hx, rfl⟩
    obtain ⟨y, hy, rfl⟩ : ∃ y : Str × Int, r[i]? = some y ∧ kk = Sum.inr y.1 := by
      unfold encR at hx
      rw [List.getElem?_map] at hx
      obtain ⟨y, h1, h2⟩ := Option.map_eq_some_iff.mp hx
      exact ⟨y, h1, (congrArg Prod.fst h2).symm⟩
    have hz := hl y (List.mem_of_getElem? hy)
    have ht : (r.map (·.1))[i]? = some y.1 := by rw [List.getElem?_map, hy]; rfl
    show gName 1 (.str y.1) _ _ _
    walk_at "w"
    refine ⟨rfl, ?_⟩
    walk_at "w"
    refine w_lenX hz ?_
    walk_at "w"
    refine it_dec (fun c => ?_) (fun c => ?_)
    · walk_at "w"
      refine ⟨_, upd_same, ?_, hD, ?_⟩
      · have := List.length_filter_le (fun z : Str => decide (1 < z.length)) ((r.map (·.1)).take i)
        rw [List.length_map, sz]
        rw [List.length_take] at this
        rw [List.length_map] at this
        omega
      · rw [upd_upd, List.take_add_one, ht, List.filter_append]
        have c' : 1 < y.1.length := by omega
        simp [c']
    · refine ⟨hD, ?_⟩
      rw [List.take_add_one, ht, List.filter_append]
      have c' : ¬ 1 < y.1.length := by omega
      simp [c']
  · rintro D H' ⟨m1, rfl⟩
    obtain ⟨n1, q1⟩ := ed D m1
    refine ⟨upd_old upd_same m1, ?_⟩
    rw [upd_lock F.row q1]
    rw [show (r.map (·.1)).take (encR r).length = r.map (·.1) from List.take_of_length_le (by simp [encR])]
    walk_at "w"
    refine ⟨_, rfl, D, ligs r, rfl, .inl (SqL.of upd_same), ?_, ?_, Tab.new tb n1, fun H' l x t n e => ?_⟩
    · have := List.length_filter_le (fun z : Str => decide (1 < z.length)) (r.map (·.1))
      unfold ligs
      rw [List.length_map] at this
      omega
    · intro z hz
      obtain ⟨h1, _⟩ := List.mem_filter.mp hz
      obtain ⟨y, h2, rfl⟩ := List.mem_map.mp h1
      exact hl y h2
    · exact k H' l ((Ex.new n1).trans x) t (New.back n (Ex.new n1)) e

def sp_Font_glyphs (K : PySem.W.Frag) (a : Ad) : Sp := sp1 fun s H Q _ => ∃ (p dx ro pr pa : Addr) (r : Rows) (sp : Int), s = .ref p ∧ FontAt a H p dx ro pr pa r sp ∧ r.length ≤ 1000 ∧ (∀ x ∈ r, x.1.length ≤ sizeLine) ∧ Tab a H ∧
  ∀ H' l, Ex H H' → Tab a H' → New H l → H' l = some (.lst (((r.map (·.1)).mergeSort rankLe).map V.str)) → Q (.ref l) H'
theorem ok_Font_glyphs {P : Program} {w : World} {K : PySem.W.Frag} {mg : Str → Option Value} {base : Heap} {a : Ad} (T : Txt P K mg base a) : FnOk P w K mg base CX0 4 a.f_Font_glyphs a.d_Font_glyphs (["self"] : List Str) (sp_Font_glyphs K a) := by
  refine T.F_Font_glyphs.ok sc_Font_glyphs (fun vs H Q E h => sp1_len h) (fun cdv A outer s H vs Q E hr h => ?_)
  have hu := hu_of hr
  refine ⟨_, (pss_one (ps_ret (pe_call (ok_font_order T) (hr.mono (by decide)) rfl T.g_font_order T.k_font_order T.B_font_order .nil pass0 (pa_cons (pe_fld (pv 0) rfl) pa_nil)))), ?_⟩
  try dsimp only [L2.cxOf]
  obtain ⟨s0, rfl, p, dx, ro, pr, pa, r, sp, rfl, F, hn, hl, tb, k⟩ := h
  rw [show L2.start (["self"] : List Str) [(.ref p)] = ([some ((.ref p))] : L2.St) from rfl]
  walk_at "w"
  refine F.rowsF T ?_
  walk_at "w"
  refine ⟨_, rfl, ro, r.map (·.1), rfl, .inr ⟨_, F.row, keys_encR r⟩, by rw [List.length_map]; exact hn, fun z hz => ?_, tb, k⟩
  obtain ⟨y, h2, rfl⟩ := List.mem_map.mp hz
  exact hl y h2

def sp_Font_advance_of (K : PySem.W.Frag) (a : Ad) : Sp := sp2 fun s x H Q E => ∃ (p dx ro pr pa : Addr) (r : Rows) (sp : Int) (z : Str), s = .ref p ∧ x = .str z ∧ FontAt a H p dx ro pr pa r sp ∧
  (∀ n, getR r z = some n → Q (.int n) H) ∧ (getR r z = none → ∀ d, H d = none → E (.ref a.C_UnknownGlyph) (some d) (upd H d (.xd [("glyph", x)])))
theorem ok_Font_advance_of {P : Program} {w : World} {K : PySem.W.Frag} {mg : Str → Option Value} {base : Heap} {a : Ad} (T : Txt P K mg base a) : FnOk P w K mg base (L2.CX P w) 2 a.f_Font_advance_of a.d_Font_advance_of (["self", "glyph"] : List Str) (sp_Font_advance_of K a) := by
  refine T.F_Font_advance_of.okX sc_Font_advance_of (fun vs H Q E h => sp2_len h) (fun cdv A outer s H vs Q E hr h => ?_)
  have hu := hu_of hr
  refine ⟨_, (pss_cons (ps_if (pt_not (pt_val (pe_meth (pv 0) T.c_Font T.M_Font_known (ok_Font_known T) (hr.mono (by decide)) T.B_Font_known .nil pass0 (pa_cons (pv 1) pa_nil)))) (pss_one (ps_rs rfl (takes_of rfl rfl rfl rfl) (pmk1 T.E_UnknownGlyph T.Y_UnknownGlyph T.x_UnknownGlyph_glyph hr (pa_cons (pv 1) pa_nil)))) pss_nil)
      (pss_one (ps_ret (pe_dget hu (pe_fld (pv 0) rfl) (pv 1) (fun _ _ => rfl))))), ?_⟩
  try dsimp only [L2.cxOf]
  obtain ⟨s0, x, rfl, p, dx, ro, pr, pa, r, sp, z, rfl, rfl, F, k1, k2⟩ := h
  rw [show L2.start (["self", "glyph"] : List Str) [(.ref p), (.str z)] = ([some ((.ref p)), some ((.str z))] : L2.St) from rfl]
  walk_at "w"
  refine ⟨p, dx, _, rfl, F.ins, ff_no (by decide +kernel), ?_⟩
  walk_at "w"
  refine ⟨_, _, rfl, p, dx, ro, pr, pa, r, sp, z, rfl, rfl, F, ?_⟩
  walk_at "w"
  cases e : getR r z with
  | none =>
    refine iteT ?_
    walk_at "w"
    exact k2 e
  | some n =>
    refine iteF ?_
    walk_at "w"
    refine F.rowsF T ?_
    walk_at "w"
    have g := F.get z
    rw [e] at g
    exact ⟨ro, _, rfl, g, k1 n e⟩

def sp_Font_contains (K : PySem.W.Frag) (a : Ad) : Sp := sp2 fun s x H Q _ => ∃ (p dx ro pr pa : Addr) (r : Rows) (sp : Int) (z : Str), s = .ref p ∧ x = .str z ∧ FontAt a H p dx ro pr pa r sp ∧ Q (.bl (getR r z).isSome) H
theorem ok_Font_contains {P : Program} {w : World} {K : PySem.W.Frag} {mg : Str → Option Value} {base : Heap} {a : Ad} (T : Txt P K mg base a) : FnOk P w K mg base CX0 2 a.f_Font_contains a.d_Font_contains (["self", "glyph"] : List Str) (sp_Font_contains K a) := by
  refine T.F_Font_contains.ok sc_Font_contains (fun vs H Q E h => sp2_len h) (fun cdv A outer s H vs Q E hr h => ?_)
  have hu := hu_of hr
  refine ⟨_, (pss_one (ps_ret (pe_meth (pv 0) T.c_Font T.M_Font_known (ok_Font_known T) (hr.mono (by decide)) T.B_Font_known .nil pass0 (pa_cons (pv 1) pa_nil)))), ?_⟩
  try dsimp only [L2.cxOf]
  obtain ⟨s0, x, rfl, p, dx, ro, pr, pa, r, sp, z, rfl, rfl, F, k⟩ := h
  rw [show L2.start (["self", "glyph"] : List Str) [(.ref p), (.str z)] = ([some ((.ref p)), some ((.str z))] : L2.St) from rfl]
  walk_at "w"
  refine ⟨p, dx, _, rfl, F.ins, ff_no (by decide +kernel), ?_⟩
  walk_at "w"
  exact ⟨_, _, rfl, p, dx, ro, pr, pa, r, sp, z, rfl, rfl, F, k⟩

def sp_Font_len (K : PySem.W.Frag) (a : Ad) : Sp := sp1 fun s H Q _ => ∃ (p dx ro pr pa : Addr) (r : Rows) (sp : Int), s = .ref p ∧ FontAt a H p dx ro pr pa r sp ∧ Q (.int (r.length : Nat)) H
theorem ok_Font_len {P : Program} {w : World} {K : PySem.W.Frag} {mg : Str → Option Value} {base : Heap} {a : Ad} (T : Txt P K mg base a) : FnOk P w K mg base CX0 1 a.f_Font_len a.d_Font_len (["self"] : List Str) (sp_Font_len K a) := by
  refine T.F_Font_len.ok sc_Font_len (fun vs H Q E h => sp1_len h) (fun cdv A outer s H vs Q E hr h => ?_)
  have hu := hu_of hr
  refine ⟨_, (pss_one (ps_ret (pe_callB call_lenD (by rfl) T.n_len bb_len (pa_cons (pe_fld (pv 0) rfl) pa_nil)))), ?_⟩
  try dsimp only [L2.cxOf]
  obtain ⟨s0, rfl, p, dx, ro, pr, pa, r, sp, rfl, F, k⟩ := h
  rw [show L2.start (["self"] : List Str) [(.ref p)] = ([some ((.ref p))] : L2.St) from rfl]
  walk_at "w"
  refine F.rowsF T ?_
  walk_at "w"
  refine ⟨ro, encR r, rfl, F.row, ?_⟩
  rw [show (encR r).length = r.length by simp [encR]]
  exact k

def sp_Font_changes (K : PySem.W.Frag) (a : Ad) : Sp := sp1 fun s H Q _ => ∃ (p dx ro pr pa : Addr) (r : Rows) (sp : Int) (ps : List V), s = .ref p ∧ FontAt a H p dx ro pr pa r sp ∧ H pa = some (.lst ps) ∧ Q (.int (ps.length : Nat)) H
theorem ok_Font_changes {P : Program} {w : World} {K : PySem.W.Frag} {mg : Str → Option Value} {base : Heap} {a : Ad} (T : Txt P K mg base a) : FnOk P w K mg base CX0 1 a.f_Font_changes a.d_Font_changes (["self"] : List Str) (sp_Font_changes K a) := by
  refine T.F_Font_changes.ok sc_Font_changes (fun vs H Q E h => sp1_len h) (fun cdv A outer s H vs Q E hr h => ?_)
  have hu := hu_of hr
  refine ⟨_, (pss_one (ps_ret (pe_callB qc_len (by rfl) T.n_len bb_len (pa_cons (pe_fld (pv 0) rfl) pa_nil)))), ?_⟩
  try dsimp only [L2.cxOf]
  obtain ⟨s0, rfl, p, dx, ro, pr, pa, r, sp, ps, rfl, F, hp, k⟩ := h
  rw [show L2.start (["self"] : List Str) [(.ref p)] = ([some ((.ref p))] : L2.St) from rfl]
  walk_at "w"
  refine F.pastF T ?_
  walk_at "w"
  exact k

def sp_Font_blank (K : PySem.W.Frag) (a : Ad) : Sp := sp1 fun s H Q _ => ∃ (p dx ro pr pa : Addr) (r : Rows) (sp : Int), s = .ref p ∧ FontAt a H p dx ro pr pa r sp ∧ Q (.int sp) H
theorem ok_Font_blank {P : Program} {w : World} {K : PySem.W.Frag} {mg : Str → Option Value} {base : Heap} {a : Ad} (T : Txt P K mg base a) : FnOk P w K mg base CX0 1 a.f_Font_blank a.d_Font_blank (["self"] : List Str) (sp_Font_blank K a) := by
  refine T.F_Font_blank.ok sc_Font_blank (fun vs H Q E h => sp1_len h) (fun cdv A outer s H vs Q E hr h => ?_)
  have hu := hu_of hr
  refine ⟨_, (pss_one (ps_ret (pe_fld (pv 0) rfl))), ?_⟩
  try dsimp only [L2.cxOf]
  obtain ⟨s0, rfl, p, dx, ro, pr, pa, r, sp, rfl, F, k⟩ := h
  rw [show L2.start (["self"] : List Str) [(.ref p)] = ([some ((.ref p))] : L2.St) from rfl]
  walk_at "w"
  refine F.spaceF T ?_
  exact k

def sp_Font_kerns (K : PySem.W.Frag) (a : Ad) : Sp := sp1 fun s H Q _ => ∃ (p dx ro pr pa : Addr) (r : Rows) (sp : Int), s = .ref p ∧ FontAt a H p dx ro pr pa r sp ∧ Tab a H ∧
  ∀ H' l, Ex H H' → Tab a H' → New H l → H' l = some (.lst []) → Q (.ref l) H'
theorem ok_Font_kerns {P : Program} {w : World} {K : PySem.W.Frag} {mg : Str → Option Value} {base : Heap} {a : Ad} (T : Txt P K mg base a) : FnOk P w K mg base CX0 1 a.f_Font_kerns a.d_Font_kerns (["self"] : List Str) (sp_Font_kerns K a) := by
  refine T.F_Font_kerns.ok sc_Font_kerns (fun vs H Q E h => sp1_len h) (fun cdv A outer s H vs Q E hr h => ?_)
  have hu := hu_of hr
  refine ⟨_, (pss_one (ps_ret (pe_lc (own := [("left", 1), ("right", 2)]) (g := gTup K 2 (gCons (gName 1) (gCons (gName 2) gNil))) (tt := tYes) (by rfl) sc_Font_kerns.nd (pi_list (pe_callB (cr_sortStr (units64 hr)) (by rfl) T.n_sorted bb_sorted (pa_cons (pe_callTy (call_listD rfl) (by rfl) T.n_list bb_list (pa_cons (pe_fld (pv 0) rfl) pa_nil)) pa_nil))) (blkOk_by (own := [("left", 1), ("right", 2)]) (N := ["self", "left", "right"]) (sc := defScope s_Font_kerns) (by decide +kernel)) (fun _ _ _ _ _ => (pg_tup (by rfl) (pgs_cons (pg_name (i := 1) sc_Font_kerns.nd rfl (Or.inl rfl)) (pgs_cons (pg_name (i := 2) sc_Font_kerns.nd rfl (Or.inl rfl)) pgs_nil)))) (fun _ _ _ _ _ => pts_nil) (fun _ _ _ _ _ => (pe_tup (pa_cons (pv 1) (pa_cons (pv 2) (pa_cons (pe_dget hu (show PE _ _ (tFld K _ _) from pe_fld (pv 0) rfl) (pe_tup (pa_cons (pv 1) (pa_cons (pv 2) pa_nil))) (fun _ _ => rfl)) pa_nil)))))))), ?_⟩
  try dsimp only [L2.cxOf]
  obtain ⟨s0, rfl, p, dx, ro, pr, pa, r, sp, rfl, F, tb, k⟩ := h
  rw [show L2.start (["self", "left", "right"] : List Str) [(.ref p)] = ([some ((.ref p)), none, none] : L2.St) from rfl]
  walk_at "w"
  refine F.pairsF T ?_
  walk_at "w"
  refine ⟨pr, [], rfl, .inl F.pai, fun q nq => ?_⟩
  walk_at "w"
  refine ⟨q, [], rfl, SqL.of upd_same, fun q2 nq2 => ?_⟩
  have x2 : Ex H (upd (upd H q (.lst (List.map (fun kv : L2.Key × V => kV kv.1) []))) q2 (.lst (([] : List Str).mergeSort strLe |>.map V.str))) := (Ex.new nq).trans (Ex.new nq2)
  have t2 : Tab a (upd (upd H q (.lst (List.map (fun kv : L2.Key × V => kV kv.1) []))) q2 (.lst (([] : List Str).mergeSort strLe |>.map V.str))) := Tab.new (Tab.new tb nq) nq2
  have s2 : (upd (upd H q (.lst (List.map (fun kv : L2.Key × V => kV kv.1) []))) q2 (.lst (([] : List Str).mergeSort strLe |>.map V.str))) q2 = some (.lst []) := by rw [upd_same, List.mergeSort_nil]; rfl
  generalize (upd (upd H q (.lst (List.map (fun kv : L2.Key × V => kV kv.1) []))) q2 (.lst (([] : List Str).mergeSort strLe |>.map V.str))) = H2 at x2 t2 s2 ⊢
  refine ⟨q2, rfl, ⟨_, SqL.of s2⟩, lcsW (walk_list (xs := [])) (fun D i H' => H2 D = none ∧ H' = upd H2 D (.lst [])) (fun D hD => ⟨hD, rfl⟩) (fun D i H' _ ⟨hD, e⟩ => by rw [e]; exact (Ex.new hD).sqL (SqL.of s2)) (fun D i x H1 H' hi => absurd hi (by simp)) ?_⟩
  rintro D H' ⟨hD, rfl⟩
  exact k _ D (x2.trans (Ex.new hD)) (Tab.new t2 hD) (New.back (New.of hD) x2) upd_same

def sp_Font_snapshot (K : PySem.W.Frag) (a : Ad) : Sp := sp1 fun s H Q _ => ∃ (p dx ro pr pa : Addr) (r : Rows) (sp : Int), s = .ref p ∧ FontAt a H p dx ro pr pa r sp ∧ Tab a H ∧
  ∀ H' t ro2 pr2, Ex H H' → Tab a H' → H' t = some (.tup [.ref ro2, .ref pr2, .int sp]) → H' ro2 = some (.dK (encR r)) → H' pr2 = some (.dK []) → ro2 ≠ pr2 → New H ro2 → New H pr2 → New H t → Q (.ref t) H'
theorem ok_Font_snapshot {P : Program} {w : World} {K : PySem.W.Frag} {mg : Str → Option Value} {base : Heap} {a : Ad} (T : Txt P K mg base a) : FnOk P w K mg base CX0 1 a.f_Font_snapshot a.d_Font_snapshot (["self"] : List Str) (sp_Font_snapshot K a) := by
  refine T.F_Font_snapshot.ok sc_Font_snapshot (fun vs H Q E h => sp1_len h) (fun cdv A outer s H vs Q E hr h => ?_)
  have hu := hu_of hr
  refine ⟨_, (pss_one (ps_ret (pe_tup (pa_cons (pe_callTy call_dictD (by rfl) T.n_dict bb_dict (pa_cons (pe_fld (pv 0) rfl) pa_nil)) (pa_cons (pe_lock (pe_dc (own := [("pair", 1)]) (g := gName 1) (tt := tYes) (by rfl) sc_Font_snapshot.nd (pi_keys (pe_fld (pv 0) rfl)) (blkOk_by (own := [("pair", 1)]) (N := ["self", "pair"]) (sc := defScope s_Font_snapshot) (by decide +kernel)) (fun _ _ _ _ _ => (pg_name (i := 1) sc_Font_snapshot.nd rfl (Or.inl rfl))) (fun _ _ _ _ _ => pts_nil) (fun _ _ _ _ _ => (pv 1)) (fun _ _ _ _ _ => (pe_dget hu (show PE _ _ (tFld K _ _) from pe_fld (pv 0) rfl) (pv 1) (fun _ _ => rfl))))) (pa_cons (pe_fld (pv 0) rfl) pa_nil)))))), ?_⟩
  try dsimp only [L2.cxOf]
  obtain ⟨s0, rfl, p, dx, ro, pr, pa, r, sp, rfl, F, tb, k⟩ := h
  rw [show L2.start (["self", "pair"] : List Str) [(.ref p)] = ([some ((.ref p)), none] : L2.St) from rfl]
  walk_at "w"
  refine F.rowsF T ?_
  walk_at "w"
  refine ⟨ro, encR r, rfl, .inl F.row, fun q nq => ?_⟩
  have F1 := F.ex (Ex.new (o := .dK (encR r)) nq)
  have t1 := Tab.new (o := .dK (encR r)) tb nq
  have eq1 : (upd H q (.dK (encR r))) q = some (.dK (encR r)) := upd_same
  have x1 : Ex H (upd H q (.dK (encR r))) := Ex.new nq
  generalize (upd H q (.dK (encR r))) = H1 at F1 t1 eq1 x1 ⊢
  refine w_lockE F1.pai trivial fun od => ?_
  walk_at "w"
  refine ⟨p, _, dx, _, _, rfl, (by rw [upd_ne F1.nepr]; exact F1.ins), T.c_Font, T.na_Font_pairs, ff_pairs, ?_⟩
  refine ⟨pr, od, rfl, .inl ⟨[], upd_same, dcW0 upd_same fun D hD => ⟨upd_old upd_same hD, ?_⟩⟩⟩
  obtain ⟨nD, hD1⟩ := none_of hD
  rw [upd_lock F1.pai nD]
  have F2 := F1.ex (Ex.new (o := .dK []) hD1)
  walk_at "w"
  refine F2.spaceF T ?_
  walk_at "w"
  refine ⟨by show 3 ≤ sizeLine; decide, fun t nt => ?_⟩
  have eq2 : (upd H1 D (.dK [])) q = some (.dK (encR r)) := upd_old eq1 hD1
  have neqD : q ≠ D := ne_of_none eq1 hD1
  exact k _ t q D ((x1.trans (Ex.new hD1)).trans (Ex.new nt)) (Tab.new (Tab.new t1 hD1) nt) upd_same (upd_old eq2 nt) (upd_old upd_same nt) neqD (New.of nq) (New.back (New.of hD1) x1) (New.back (New.of nt) (x1.trans (Ex.new hD1)))

def sp_Font_remember (K : PySem.W.Frag) (a : Ad) : Sp := sp2 fun s b H Q _ => ∃ (p dx ro pr pa t : Addr) (r : Rows) (sp : Int) (ps : List V), s = .ref p ∧ b = .ref t ∧ FontAt a H p dx ro pr pa r sp ∧ H pa = some (.lst ps) ∧ ps.length < 50 ∧ Q .non (upd H pa (.lst (ps ++ [.ref t])))
theorem ok_Font_remember {P : Program} {w : World} {K : PySem.W.Frag} {mg : Str → Option Value} {base : Heap} {a : Ad} (T : Txt P K mg base a) : FnOk P w K mg base CX0 1 a.f_Font_remember a.d_Font_remember (["self", "before"] : List Str) (sp_Font_remember K a) := by
  refine T.F_Font_remember.ok sc_Font_remember (fun vs H Q E h => sp2_len h) (fun cdv A outer s H vs Q E hr h => ?_)
  have hu := hu_of hr
  refine ⟨_, (pss_cons (ps_expr (pe_bm PySem.F.plainAttrs_list PySem.F.slot_list_append PySem.F.type_list_append mt_append (pe_fld (pv 0) rfl) (pa_cons (pv 1) pa_nil)))
      (pss_one (ps_if (pt_cmpR op_gt (pe_callB qc_len (by rfl) T.n_len bb_len (pa_cons (pe_fld (pv 0) rfl) pa_nil)) (ClX.pe_cval (pe_glob (v := .ref a.C_Font) rfl T.g_Font rfl)) (nomark _)) (pss_one ps_never) pss_nil))), ?_⟩
  try dsimp only [L2.cxOf]
  obtain ⟨s0, b, rfl, p, dx, ro, pr, pa, t, r, sp, ps, rfl, rfl, F, hp, hl, k⟩ := h
  obtain ⟨u6, cv6⟩ := T.cv_Font_MOST_UNDO
  rw [show L2.start (["self", "before"] : List Str) [(.ref p), (.ref t)] = ([some ((.ref p)), some ((.ref t))] : L2.St) from rfl]
  have sz : sizeLine = 16777216 := by decide
  have F1 := F.pastU hp (.lst (ps ++ [.ref t]))
  walk_at "w"
  refine F.pastF T ?_
  refine ⟨.inl ⟨rfl, _, SqL.of hp⟩, ?_⟩
  walk_at "w"
  refine ⟨pa, ps, _, rfl, rfl, hp, by omega, ?_⟩
  walk_at "w"
  refine F1.pastF T ?_
  walk_at "w"
  refine ⟨_, _, _, _, rfl, T.cr_Font, cv6, ?_⟩
  walk_at "w"
  refine it_neg (by rw [List.length_append, List.length_singleton]; omega) ?_
  walk_at "w"
  exact k

def sp_Font_put_blank (K : PySem.W.Frag) (a : Ad) : Sp := sp2 fun s y H Q E => ∃ (p dx : Addr) (fs : List (Str × V)) (b : Bool), s = .ref p ∧ H p = some (.ins a.C_Font dx fs) ∧ fs.length < 1000 ∧ IsI K H y b ∧ (b = false → raiseIN a y H E) ∧
  (b = true → ∃ n : Int, y = .int n ∧ (0 ≤ n ∧ n ≤ 1000000 → Q .non (upd H p (.ins a.C_Font dx (putF "space" y fs)))) ∧ (¬ (0 ≤ n ∧ n ≤ 1000000) → raiseIN a y H E))
theorem okN_Font_put_blank {P : Program} {w : World} {K : PySem.W.Frag} {mg : Str → Option Value} {base : Heap} {a : Ad} (T : Txt P K mg base a) : FnOk P w K mg base (L2N.CX P w) 4 a.f_Font_put_blank a.d_Font_put_blank (["self", "advance"] : List Str) (sp_Font_put_blank K a) := by
  refine funG T.F_Font_put_blank sc_Font_put_blank (fun vs H Q E h => sp2_len h) (fun cdv A outer s H vs Q E hr h => ?_)
  have hu := hu_of hr
  refine ⟨_, (pss_cons (ps_expr (pe_callSD (okN_check_between T) (hr.mono (by decide)) rfl T.g_check_between T.k_check_between T.B_check_between .nil (fun σ => L2N.passAt (L2N.takes_of rfl rfl rfl rfl) σ) (pa_cons (pv 1) (pa_cons pe_int (pa_cons (ClX.pe_cval (pe_glob (v := .ref a.C_Font) rfl T.g_Font rfl)) pa_nil)))))
      (pss_one (ps_fld (pv 0) (pv 1) rfl))), ?_⟩
  try dsimp only [L2.cxOf]
  obtain ⟨s0, y, rfl, p, dx, fs, b, rfl, hp, hf, hy, k0, k1⟩ := h
  obtain ⟨u6, cv6⟩ := T.cv_Font_MOST_ADVANCE
  rw [show L2.start (["self", "advance"] : List Str) [(.ref p), y] = ([some ((.ref p)), some (y)] : L2.St) from rfl]
  walk_at "w"
  refine ⟨_, _, _, _, rfl, T.cr_Font, cv6, ?_⟩
  walk_at "w"
  refine ⟨y, _, _, rfl, 0, 1000000, b, rfl, rfl, hy, fun e => ?_, fun e => ?_⟩
  · exact k0 e
  · obtain ⟨n, rfl, k2, k3⟩ := k1 e
    refine ⟨n, rfl, fun c => ?_, fun c => k3 c⟩
    walk_at "w"
    exact ⟨p, _, dx, _, rfl, hp, T.c_Font, T.na_Font_space, hf, k2 c⟩
theorem ok_Font_put_blank {P : Program} {w : World} {K : PySem.W.Frag} {mg : Str → Option Value} {base : Heap} {a : Ad} (T : Txt P K mg base a) : FnOk P w K mg base (L2.CX P w) 4 a.f_Font_put_blank a.d_Font_put_blank (["self", "advance"] : List Str) (sp_Font_put_blank K a) := FnOk.weak (okN_Font_put_blank T)

def sp_Font_put_advance (K : PySem.W.Frag) (a : Ad) : Sp := sp3 fun s x y H Q E => ∃ (p dx ro pr pa : Addr) (r : Rows) (sp : Int) (z : Str), s = .ref p ∧ x = .str z ∧ FontAt a H p dx ro pr pa r sp ∧ r.length ≤ 900 ∧ (∀ x ∈ r, x.1.length ≤ sizeLine) ∧ z.length ≤ sizeLine ∧ IsI K H y (isIntV y) ∧ Tab a H ∧
  match paRes r z y with
  | .error e => raiseF a H E e
  | .ok r' => ∀ H', Ex H H' → Tab a H' → Q .non (upd H' ro (.dK (encR r')))
theorem okN_Font_put_advance {P : Program} {w : World} {K : PySem.W.Frag} {mg : Str → Option Value} {base : Heap} {a : Ad} (T : Txt P K mg base a) : FnOk P w K mg base (L2N.CX P w) 6 a.f_Font_put_advance a.d_Font_put_advance (["self", "glyph", "advance"] : List Str) (sp_Font_put_advance K a) := by
  refine funG T.F_Font_put_advance sc_Font_put_advance (fun vs H Q E h => sp3_len h) (fun cdv A outer s H vs Q E hr h => ?_)
  have hu := hu_of hr
  refine ⟨_, (pss_cons (ps_if (pt_not (pt_val (pe_call (ok_is_name T) (hr.mono (by decide)) rfl T.g_is_name T.k_is_name T.B_is_name .nil pass0 (pa_cons (pv 1) pa_nil)))) (pss_one (ps_rsN rfl (L2N.takes_of rfl rfl rfl rfl) (pmk1N T.E_InvalidGlyph T.Y_InvalidGlyph T.x_InvalidGlyph_glyph hr (pa_cons (pv 1) pa_nil)))) pss_nil)
      (pss_cons (ps_expr (pe_callSD (okN_check_between T) (hr.mono (by decide)) rfl T.g_check_between T.k_check_between T.B_check_between .nil (fun σ => L2N.passAt (L2N.takes_of rfl rfl rfl rfl) σ) (pa_cons (pv 2) (pa_cons pe_int (pa_cons (ClX.pe_cval (pe_glob (v := .ref a.C_Font) rfl T.g_Font rfl)) pa_nil)))))
      (Evl.pss_cut (ps_if (pt_cmpR op_gt (pe_callB qc_lenX (by rfl) T.n_len bb_len (pa_cons (pv 1) pa_nil)) pe_int (nomark _)) (pss_cons (ps_for PassesOwn.leaving rfl (pi_str (pv 1)) (pg_name (i := 3) sc_Font_put_advance.nd rfl (Or.inl rfl)) (pss_one (ps_if (pt_cmp (pc_dnotin hu (pv 3) (pe_fld (pv 0) rfl))) (pss_one (ps_rsN rfl (L2N.takes_of rfl rfl rfl rfl) (pmk1N T.E_UnknownGlyph T.Y_UnknownGlyph T.x_UnknownGlyph_glyph hr (pa_cons (pv 3) pa_nil)))) pss_nil)))
      (pss_one (ps_if (PW.pt (pw_and (pt_cmp (pc_dnotin hu (pv 1) (pe_fld (pv 0) rfl))) (pw_and1 (pt_cmpR op_ge (pe_callB qc_len (by rfl) T.n_len bb_len (pa_cons (pe_prop (pv 0) T.c_Font T.P_Font_ligatures (ok_Font_ligatures T) (hr.mono (by decide)) T.B_Font_ligatures .nil pass0 rfl) pa_nil)) (ClX.pe_cval (pe_glob (v := .ref a.C_Font) rfl T.g_Font rfl)) (nomark _))))) (pss_one (ps_rsN rfl (L2N.takes_of rfl rfl rfl rfl) (pmk1N T.E_TooMany T.Y_TooMany T.x_TooMany_limit hr (pa_cons (ClX.pe_cval (pe_glob (v := .ref a.C_Font) rfl T.g_Font rfl)) pa_nil)))) pss_nil))) pss_nil)
      (pss_cons (ps_for PassesOwn.leaving rfl (pi_list (pe_callB (cr_sortStr (units64 hr)) (by rfl) T.n_sorted bb_sorted (pa_cons (pe_callTy (call_listD rfl) (by rfl) T.n_list bb_list (pa_cons (pe_fld (pv 0) rfl) pa_nil)) pa_nil))) (pg_name (i := 4) sc_Font_put_advance.nd rfl (Or.inl rfl)) (pss_one ps_never))
      (pss_one (ps_dput hu (pe_fld (pv 0) rfl) (pv 1) (pv 2) rfl)))))), ?_⟩
  try dsimp only [L2.cxOf]
  obtain ⟨s0, x, y, rfl, p, dx, ro, pr, pa, r, sp, z, rfl, rfl, F, hn, hl, hz, hy, tb, k⟩ := h
  obtain ⟨u6, cv6⟩ := T.cv_Font_MOST_ADVANCE
  obtain ⟨u7, cv7⟩ := T.cv_Font_MOST_LIGATURES
  rw [show L2.start (["self", "glyph", "advance", "letter", "pair"] : List Str) [(.ref p), (.str z), y] = ([some ((.ref p)), some ((.str z)), some (y), none, none] : L2.St) from rfl]
  walk_at "w"
  refine ⟨_, rfl, z, rfl, hz, ?_⟩
  walk_at "w"
  cases c1 : isName z with
  | false =>
    walk_at "w"
    rw [show paRes r z y = .error (.ig z) from by unfold paRes; rw [if_neg (by rw [c1]; decide)]] at k
    exact fun d hd => k H d (Ex.refl H) tb hd
  | true =>
    walk_at "w"
    refine ⟨_, _, _, _, rfl, T.cr_Font, cv6, ?_⟩
    walk_at "w"
    refine ⟨y, _, _, rfl, 0, 1000000, isIntV y, rfl, rfl, hy, fun e => ?_, fun e => ?_⟩
    · rw [show paRes r z y = .error (.inn y) from by
        unfold paRes
        rw [if_pos c1]
        cases y <;> first | rfl | cases e] at k
      exact fun d hd => k H d (Ex.refl H) tb hd
    · obtain ⟨n, rfl⟩ : ∃ n, y = .int n := by
        cases y <;> first | exact ⟨_, rfl⟩ | cases e
      refine ⟨n, rfl, fun c2 => ?_, fun c2 => ?_⟩
      · have e0 : paRes r z (.int n) = (if 1 < z.length then match missing r z with
            | some c => .error (.ug (one c))
            | none => if (getR r z).isNone = true ∧ 40 ≤ (ligs r).length then .error .tm else .ok (putR r z n) else .ok (putR r z n)) := by
          unfold paRes
          rw [if_pos c1]
          exact if_pos c2
        refine ⟨fun σ' H' => Ex H H' ∧ Tab a H' ∧ (∃ l, σ' = [some (.ref p), some (.str z), some (.int n), l, none]) ∧ paRes r z (.int n) = .ok (putR r z n), ?_, ?_⟩
        · walk_at "w"
          refine w_lenX hz ?_
          walk_at "w"
          refine it_dec (fun c3 => ?_) (fun c3 => ?_)
          · have c3' : 1 < z.length := by omega
            rw [if_pos c3'] at e0
            walk_at "w"
            refine ⟨z, rfl, turnsW walk_str (fun i σ' H' => H' = H ∧ (∃ l, σ' = [some (.ref p), some (.str z), some (.int n), l, none]) ∧ ∀ c ∈ z.cps.toList.take i, (getR r (one c)).isSome = true) ⟨rfl, ⟨_, rfl⟩, by simp⟩ (fun _ _ _ _ _ => trivial) ?_ ?_⟩
            · rintro i x σ' H1 H' hi ⟨rfl, ⟨l0, rfl⟩, ok⟩ ⟨rfl, c, hc, rfl⟩
              have hc' : z.cps.toList[i]? = some c := by rw [Array.getElem?_toList]; exact hc
              walk_at "w"
              refine F.rowsF T ?_
              walk_at "w"
              refine ⟨ro, _, rfl, F.get _, ?_⟩
              rw [Option.isSome_map]
              walk_at "w"
              cases q : getR r (one c) with
              | none =>
                rw [show getR r { cps := #[c] } = none from q]
                refine iteT ?_
                walk_at "w"
                have hm : missing r z = some c := by
                  unfold missing
                  rw [List.find?_eq_some_iff_append]
                  refine ⟨by rw [q]; rfl, z.cps.toList.take i, z.cps.toList.drop (i + 1), ?_, fun b hb => ?_⟩
                  · obtain ⟨hi', e⟩ := List.getElem?_eq_some_iff.mp hc'
                    rw [← e, ← List.drop_eq_getElem_cons, List.take_append_drop]
                  · have := ok b hb
                    cases q' : getR r (one b) with
                    | none => rw [q'] at this; cases this
                    | some v => rfl
                rw [hm] at e0
                rw [e0] at k
                exact fun d hd => k _ d (Ex.refl _) tb hd
              | some m =>
                rw [show getR r { cps := #[c] } = some m from q]
                refine iteF ?_
                walk_at "w"
                refine ⟨rfl, ⟨_, rfl⟩, fun b hb => ?_⟩
                rw [List.take_add_one, hc'] at hb
                rcases List.mem_append.mp hb with hb | hb
                · exact ok b hb
                · have : b = c := by simpa using hb
                  rw [this, q]
                  rfl
            · rintro σ' H1 ⟨rfl, ⟨l0, rfl⟩, ok⟩
              rw [show z.cps.toList.take z.cps.size = z.cps.toList from List.take_of_length_le (by simp)] at ok
              have hm : missing r z = none := by
                unfold missing
                rw [List.find?_eq_none]
                intro b hb c
                have := ok b hb
                cases q' : getR r (one b) with
                | none => rw [q'] at this; cases this
                | some v => rw [q'] at c; cases c
              rw [hm] at e0
              dsimp only at e0
              walk_at "w"
              refine F.rowsF T ?_
              walk_at "w"
              refine ⟨ro, _, rfl, F.get _, ?_⟩
              rw [Option.isSome_map]
              walk_at "w"
              cases q : getR r z with
              | some m =>
                refine iteF ?_
                walk_at "w"
                rw [q, if_neg (fun z => by cases z.1)] at e0
                exact ⟨Ex.refl _, tb, ⟨_, rfl⟩, e0⟩
              | none =>
                refine iteT ?_
                walk_at "w"
                refine ⟨p, dx, _, rfl, F.ins, _, rfl, p, dx, ro, pr, pa, r, sp, rfl, F, by omega, hl, tb, fun H2 l x2 t2 n2 e2 => ?_⟩
                walk_at "w"
                refine ⟨_, _, _, _, rfl, T.cr_Font, cv7, ?_⟩
                rw [List.length_map, List.length_mergeSort]
                walk_at "w"
                refine it_dec (fun c4 => ?_) (fun c4 => ?_)
                · walk_at "w"
                  refine ⟨_, _, _, _, rfl, T.cr_Font, cv7, ?_⟩
                  walk_at "w"
                  rw [q, if_pos ⟨rfl, by omega⟩] at e0
                  rw [e0] at k
                  exact fun d hd => k _ d x2 t2 hd
                · walk_at "w"
                  rw [q, if_neg (by omega)] at e0
                  exact ⟨x2, t2, ⟨_, rfl⟩, e0⟩
          · rw [if_neg (by omega)] at e0
            walk_at "w"
            exact ⟨Ex.refl _, tb, ⟨_, rfl⟩, e0⟩
        · rintro σ' H1 ⟨x1, t1, ⟨l0, rfl⟩, e1⟩
          rw [e1] at k
          have F1 := F.ex x1
          walk_at "w"
          refine F1.pairsF T ?_
          walk_at "w"
          refine ⟨pr, [], rfl, .inl F1.pai, fun q nq => ?_⟩
          walk_at "w"
          refine ⟨q, [], rfl, SqL.of upd_same, fun q2 nq2 => ?_⟩
          have x2 : Ex H1 (upd (upd H1 q (.lst (List.map (fun kv : L2.Key × V => kV kv.1) []))) q2 (.lst (([] : List Str).mergeSort strLe |>.map V.str))) := (Ex.new nq).trans (Ex.new nq2)
          have t2 : Tab a (upd (upd H1 q (.lst (List.map (fun kv : L2.Key × V => kV kv.1) []))) q2 (.lst (([] : List Str).mergeSort strLe |>.map V.str))) := Tab.new (Tab.new t1 nq) nq2
          have s2 : (upd (upd H1 q (.lst (List.map (fun kv : L2.Key × V => kV kv.1) []))) q2 (.lst (([] : List Str).mergeSort strLe |>.map V.str))) q2 = some (.lst []) := by rw [upd_same, List.mergeSort_nil]; rfl
          generalize (upd (upd H1 q (.lst (List.map (fun kv : L2.Key × V => kV kv.1) []))) q2 (.lst (([] : List Str).mergeSort strLe |>.map V.str))) = H2 at x2 t2 s2 ⊢
          refine ⟨q2, rfl, ⟨_, SqL.of s2⟩, turnsW (walk_list (xs := [])) (fun i σ' H' => H' = H2 ∧ σ' = [some (.ref p), some (.str z), some (.int n), l0, none]) ⟨rfl, rfl⟩ (fun i σ' H' _ ⟨e, _⟩ => by rw [e]; exact SqL.of s2) ?_ ?_⟩
          · rintro i x σ' H3 H' hi
            exact absurd hi (by simp)
          · rintro σ' H3 ⟨rfl, rfl⟩
            have F2 := F1.ex x2
            walk_at "w"
            refine F2.rowsF T ?_
            walk_at "w"
            refine ⟨ro, _, rfl, DPut.k (k := (Sum.inr z : L2.Key)) F2.row ?_, ?_⟩
            · have sz : sizeLine = 16777216 := by decide
              rw [sz]
              simp only [encR, List.length_map]
              omega
            · rw [put_encR]
              exact k _ (x1.trans x2) t2
      · rw [show paRes r z (.int n) = .error (.inn (.int n)) from by
          unfold paRes
          rw [if_pos c1]
          exact if_neg c2] at k
        exact fun d hd => k H d (Ex.refl H) tb hd
theorem ok_Font_put_advance {P : Program} {w : World} {K : PySem.W.Frag} {mg : Str → Option Value} {base : Heap} {a : Ad} (T : Txt P K mg base a) : FnOk P w K mg base (L2.CX P w) 6 a.f_Font_put_advance a.d_Font_put_advance (["self", "glyph", "advance"] : List Str) (sp_Font_put_advance K a) := FnOk.weak (okN_Font_put_advance T)

def sp_Font_put_drop (K : PySem.W.Frag) (a : Ad) : Sp := sp2 fun s x H Q _ => ∃ (p dx ro pr pa : Addr) (r : Rows) (sp : Int) (z : Str), s = .ref p ∧ x = .str z ∧ FontAt a H p dx ro pr pa r sp ∧ (getR r z).isSome = true ∧ 1 < z.length ∧ z.length ≤ sizeLine ∧ Tab a H ∧
  ∀ H' pr', Fr [p, ro] H H' → Tab a H' → FontAt a H' p dx ro pr' pa (dropR r z) sp → New H pr' → Q .non H'
theorem ok_Font_put_drop {P : Program} {w : World} {K : PySem.W.Frag} {mg : Str → Option Value} {base : Heap} {a : Ad} (T : Txt P K mg base a) : FnOk P w K mg base (L2.CX P w) 6 a.f_Font_put_drop a.d_Font_put_drop (["self", "glyph"] : List Str) (sp_Font_put_drop K a) := by
  refine T.F_Font_put_drop.okX sc_Font_put_drop (fun vs H Q E h => sp2_len h) (fun cdv A outer s H vs Q E hr h => ?_)
  have hu := hu_of hr
  refine ⟨_, (pss_cons (ps_if (pt_not (pt_val (pe_meth (pv 0) T.c_Font T.M_Font_known (ok_Font_known T) (hr.mono (by decide)) T.B_Font_known .nil pass0 (pa_cons (pv 1) pa_nil)))) (pss_one (ps_rs rfl (takes_of rfl rfl rfl rfl) (pmk1 T.E_UnknownGlyph T.Y_UnknownGlyph T.x_UnknownGlyph_glyph hr (pa_cons (pv 1) pa_nil)))) pss_nil)
      (pss_cons (ps_if (pt_cmpR op_eq (pe_callB qc_lenX (by rfl) T.n_len bb_len (pa_cons (pv 1) pa_nil)) pe_int (nomark _)) (pss_one ps_never) pss_nil)
      (pss_cons (ps_ddel (pe_fld (pv 0) rfl) (pv 1))
      (pss_one (ps_fld (pv 0) (pe_lock (pe_dc (own := [("pair", 3)]) (g := gName 3) (by rfl) sc_Font_put_drop.nd (pi_keys (pe_fld (pv 0) rfl)) (blkOk_by (own := [("pair", 3)]) (N := ["self", "glyph", "ligature", "pair"]) (sc := defScope s_Font_put_drop) (by decide +kernel)) (fun _ _ _ _ _ => (pg_name (i := 3) sc_Font_put_drop.nd rfl (Or.inl rfl))) (fun _ _ _ _ _ => (pts_one (pt_cmpR (show OpR _ _ (rIn K true) from op_notIn_seq) (pv 1) (pv 3) (by rfl)))) (fun _ _ _ _ _ => (pv 3)) (fun _ _ _ _ _ => (pe_dget hu (show PE _ _ (tFld K _ _) from pe_fld (pv 0) rfl) (pv 3) (fun _ _ => rfl))))) rfl))))), ?_⟩
  try dsimp only [L2.cxOf]
  obtain ⟨s0, x, rfl, p, dx, ro, pr, pa, r, sp, z, rfl, rfl, F, hk, h1, hz, tb, k⟩ := h
  rw [show L2.start (["self", "glyph", "ligature", "pair"] : List Str) [(.ref p), (.str z)] = ([some ((.ref p)), some ((.str z)), none, none] : L2.St) from rfl]
  walk_at "w"
  refine ⟨p, dx, _, rfl, F.ins, ff_no (by decide +kernel), ?_⟩
  walk_at "w"
  refine ⟨_, _, rfl, p, dx, ro, pr, pa, r, sp, z, rfl, rfl, F, ?_⟩
  rw [hk]
  walk_at "w"
  refine w_lenX hz ?_
  walk_at "w"
  refine it_neg (fun c => by have := V.int.inj c; omega) ?_
  walk_at "w"
  refine F.rowsF T ?_
  walk_at "w"
  refine ⟨ro, encR r, Sum.inr z, rfl, F.row, rfl, by rw [val_encR, Option.isSome_map]; exact hk, ?_⟩
  rw [drop_encR]
  have F1 := F.put (dropR r z)
  have t1 : Tab a (upd H ro (.dK (encR (dropR r z)))) := Tab.upd tb F.row trivial
  have x1 : Fr [p, ro] H (upd H ro (.dK (encR (dropR r z)))) := Fr.refl.upd (by simp)
  have y1 : ∀ b, upd H ro (.dK (encR (dropR r z))) b = none → H b = none := fun b hb => (none_of hb).2
  generalize upd H ro (.dK (encR (dropR r z))) = H1 at F1 t1 x1 y1 ⊢
  walk_at "w"
  refine w_lockE F1.pai trivial fun od => ?_
  walk_at "w"
  refine ⟨p, _, dx, _, _, rfl, (by rw [upd_ne F1.nepr]; exact F1.ins), T.c_Font, T.na_Font_pairs, ff_pairs, ?_⟩
  refine ⟨pr, od, rfl, .inl ⟨[], upd_same, dcW0 upd_same fun D hD => ⟨upd_old upd_same hD, ?_⟩⟩⟩
  obtain ⟨nD, hD1⟩ := none_of hD
  rw [upd_lock F1.pai nD]
  have F2 := F1.ex (Ex.new (o := .dK []) hD1)
  walk_at "w"
  refine ⟨p, _, dx, _, rfl, F2.ins, T.c_Font, T.na_Font_pairs, by show 4 < 1000; decide, ?_⟩
  rw [ff_putP]
  have neDp : D ≠ p := Ne.symm (ne_of_none F1.ins hD1)
  have neDr : D ≠ ro := Ne.symm (ne_of_none F1.row hD1)
  refine k _ D ((x1.new hD1).upd (by simp)) (Tab.upd (Tab.new t1 hD1) F2.ins trivial) ⟨upd_same, ?_, ?_, Ne.symm neDr⟩ (New.of (y1 _ hD1))
  · rw [upd_ne (Ne.symm F2.nero)]
    exact F2.row
  · rw [upd_ne neDp]
    exact upd_same

def sp_Font_put_deed (K : PySem.W.Frag) (a : Ad) : Sp := sp3 fun s i d H Q E => ∃ (p dx ro pr pa t : Addr) (r : Rows) (sp n : Int), s = .ref p ∧ i = .int n ∧ d = .ref t ∧ FontAt a H p dx ro pr pa r sp ∧ r.length ≤ 900 ∧ (∀ x ∈ r, x.1.length ≤ sizeLine) ∧ Tab a H ∧
  ((∃ b : Int, H t = some (.tup [.str "blank", .int b]) ∧ 0 ≤ b ∧ b ≤ 1000000 ∧ Q .non (upd H p (.ins a.C_Font dx (ffields ro pr pa b)))) ∨
   ∃ (z : Str) (y : V) (e : FErr), H t = some (.tup [.str "advance", .str z, y]) ∧ z.length ≤ sizeLine ∧ (∀ H', IsI K H' y (isIntV y)) ∧ paRes r z y = .error e ∧ raiseG a H E a.C_DeedRefused [("index", .int n)])
theorem ok_Font_put_deed {P : Program} {w : World} {K : PySem.W.Frag} {mg : Str → Option Value} {base : Heap} {a : Ad} (T : Txt P K mg base a) (hw : a.w_ = w) : FnOk P w K mg base (L2.CX P w) 7 a.f_Font_put_deed a.d_Font_put_deed (["self", "index", "deed"] : List Str) (sp_Font_put_deed K a) := by
  refine T.F_Font_put_deed.okX sc_Font_put_deed (fun vs H Q E h => sp3_len h) (fun cdv A outer s H vs Q E hr h => ?_)
  have hu := hu_of hr
  refine ⟨_, (pss_cons (ps_if (pt_not (pt_val (pe_call (ok_is_deed T hw) (hr.mono (by decide)) rfl T.g_is_deed T.k_is_deed T.B_is_deed .nil pass0 (pa_cons (pv 2) pa_nil)))) (pss_one (ps_rs rfl (takes_of rfl rfl rfl rfl) (pmk1 T.E_DeedRefused T.Y_DeedRefused T.x_DeedRefused_index hr (pa_cons (pv 1) pa_nil)))) pss_nil)
      (pss_one (ps_refuse (i := 3) rfl rfl rfl sc_Font_put_deed.nd rfl rfl (by decide) (by decide) ⟨rfl, by decide, .inl T.g_FontError⟩ (L2H.passesAt_of rfl) (takes_of rfl rfl rfl rfl) (fun W pn xe tk po => (pss_one (ps_if (pt_cmpR op_eq (pe_ix (show IxR _ (rIxT K) from ix_tup) (pv 2) pe_int (fun _ _ => rfl)) pe_str (nomark _)) (pss_one (ps_expr (pe_mtS (pv 0) T.c_Font T.M_Font_put_advance (okN_Font_put_advance T) (hr.mono (by decide)) T.B_Font_put_advance .nil (fun σ => L2N.passAt tk σ) (pa_cons (pe_ix (show IxR _ (rIxT K) from ix_tup) (pv 2) pe_int (fun _ _ => rfl)) (pa_cons (pe_ix (show IxR _ (rIxT K) from ix_tup) (pv 2) pe_int (fun _ _ => rfl)) pa_nil))))) (pss_one (ps_if (pt_cmpR op_eq (pe_ix (show IxR _ (rIxT K) from ix_tup) (pv 2) pe_int (fun _ _ => rfl)) pe_str (nomark _)) (pss_one ps_never) (pss_one (ps_if (pt_cmpR op_eq (pe_ix (show IxR _ (rIxT K) from ix_tup) (pv 2) pe_int (fun _ _ => rfl)) pe_str (nomark _)) (pss_one ps_never) (pss_one (ps_expr (pe_mtS (pv 0) T.c_Font T.M_Font_put_blank (okN_Font_put_blank T) (hr.mono (by decide)) T.B_Font_put_blank .nil (fun σ => L2N.passAt tk σ) (pa_cons (pe_ix (show IxR _ (rIxT K) from ix_tup) (pv 2) pe_int (fun _ _ => rfl)) pa_nil))))))))))) (fun ae pn => pmk1F T.E_DeedRefused T.Y_DeedRefused T.x_DeedRefused_index (by have z := dp1 hr; exact z) (pa_cons (pv 1) pa_nil))))), ?_⟩
  try dsimp only [L2.cxOf]
  obtain ⟨s0, i, d, rfl, p, dx, ro, pr, pa, t, r, sp, n, rfl, rfl, rfl, F, hl, hnm, tb, k⟩ := h
  rw [show L2.start (["self", "index", "deed", "why"] : List Str) [(.ref p), (.int n), (.ref t)] = ([some ((.ref p)), some ((.int n)), some ((.ref t)), none] : L2.St) from rfl]
  rcases k with ⟨b, ht, b0, b1, k⟩ | ⟨z, y, e, ht, hz, hy, he, k⟩
  · walk_at "w"
    refine ⟨_, rfl, t, _, rfl, .inl ⟨ht, rfl⟩, ?_⟩
    walk_at "w"
    refine it_neg (by decide +kernel) ?_
    walk_at "w"
    refine it_neg (by decide +kernel) ?_
    walk_at "w"
    refine it_neg (by decide +kernel) ?_
    walk_at "w"
    refine ⟨p, dx, _, rfl, F.ins, ff_no (by decide +kernel), ?_⟩
    walk_at "w"
    refine ⟨_, _, rfl, p, dx, _, true, rfl, F.ins, by show 4 < 1000; decide, isI_int b, (fun z => by cases z), fun _ => ⟨b, rfl, fun _ => ?_, fun z => absurd ⟨b0, b1⟩ z⟩⟩
    rw [ff_put]
    exact k
  · walk_at "w"
    refine ⟨_, rfl, t, _, rfl, .inr ⟨ht, rfl⟩, ?_⟩
    walk_at "w"
    refine it_pos (by decide +kernel) ?_
    walk_at "w"
    refine ⟨p, dx, _, rfl, F.ins, ff_no (by decide +kernel), ?_⟩
    walk_at "w"
    refine ⟨_, _, _, rfl, p, dx, ro, pr, pa, r, sp, z, rfl, rfl, F, hl, hnm, hz, hy _, tb, ?_⟩
    rw [he]
    refine raiseF_of fun H' d x1 t1 nd => ?_
    refine ⟨(ownL T _ (errC_mem a e)).base, true, exmFE T (errC_mem a e), fun _ ae nae => ?_, (fun z => nomatch z)⟩
    walk_at "w"
    intro d2 nd2
    exact k _ d2 (x1.trans (Ex.new nd)) (Tab.new t1 nd) nd2

def sp_Font_set_advance (K : PySem.W.Frag) (a : Ad) : Sp := sp3 fun s x y H Q E => ∃ (p dx ro pr pa : Addr) (r : Rows) (sp : Int) (z : Str) (ps : List V), s = .ref p ∧ x = .str z ∧ FontAt a H p dx ro pr pa r sp ∧ H pa = some (.lst ps) ∧ ps.length < 50 ∧ r.length ≤ 900 ∧ (∀ x ∈ r, x.1.length ≤ sizeLine) ∧ z.length ≤ sizeLine ∧ (∀ H', IsI K H' y (isIntV y)) ∧ Tab a H ∧
  match paRes r z y with
  | .error e => raiseF a H E e
  | .ok r' => ∀ H' t, Fr [ro, pa] H H' → Tab a H' → FontAt a H' p dx ro pr pa r' sp → H' pa = some (.lst (ps ++ [.ref t])) → Q .non H'
theorem ok_Font_set_advance {P : Program} {w : World} {K : PySem.W.Frag} {mg : Str → Option Value} {base : Heap} {a : Ad} (T : Txt P K mg base a) : FnOk P w K mg base (L2.CX P w) 7 a.f_Font_set_advance a.d_Font_set_advance (["self", "glyph", "advance"] : List Str) (sp_Font_set_advance K a) := by
  refine T.F_Font_set_advance.okX sc_Font_set_advance (fun vs H Q E h => sp3_len h) (fun cdv A outer s H vs Q E hr h => ?_)
  have hu := hu_of hr
  refine ⟨_, (pss_cons (ps_set (i := 3) sc_Font_set_advance.nd rfl (Or.inl rfl) (pe_meth0 (pv 0) T.c_Font T.M_Font_snapshot (ok_Font_snapshot T) (hr.mono (by decide)) T.B_Font_snapshot .nil pass0))
      (pss_cons (ps_expr (pe_mtS (pv 0) T.c_Font T.M_Font_put_advance (ok_Font_put_advance T) (hr.mono (by decide)) T.B_Font_put_advance .nil (fun σ => passAt (takes_of rfl rfl rfl rfl) σ) (pa_cons (pv 1) (pa_cons (pv 2) pa_nil))))
      (pss_one (ps_expr (pe_meth (pv 0) T.c_Font T.M_Font_remember (ok_Font_remember T) (hr.mono (by decide)) T.B_Font_remember .nil pass0 (pa_cons (pv 3) pa_nil)))))), ?_⟩
  try dsimp only [L2.cxOf]
  obtain ⟨s0, x, y, rfl, p, dx, ro, pr, pa, r, sp, z, ps, rfl, rfl, F, hp, hps, hl, hnm, hz, hy, tb, k⟩ := h
  rw [show L2.start (["self", "glyph", "advance", "before"] : List Str) [(.ref p), (.str z), y] = ([some ((.ref p)), some ((.str z)), some (y), none] : L2.St) from rfl]
  walk_at "w"
  refine ⟨p, dx, _, rfl, F.ins, ff_no (by decide +kernel), ?_⟩
  walk_at "w"
  refine ⟨_, rfl, p, dx, ro, pr, pa, r, sp, rfl, F, tb, fun H1 t ro2 pr2 x1 t1 et _ _ _ _ _ _ => ?_⟩
  have F1 := F.ex x1
  have hp1 := x1 _ _ hp trivial
  obtain ⟨n1, n2, n3⟩ := F1.nepa hp1
  walk_at "w"
  refine ⟨p, dx, _, rfl, F1.ins, ff_no (by decide +kernel), ?_⟩
  walk_at "w"
  refine ⟨_, _, _, rfl, p, dx, ro, pr, pa, r, sp, z, rfl, rfl, F1, hl, hnm, hz, hy _, t1, ?_⟩
  cases q : paRes r z y with
  | error e =>
    rw [q] at k
    exact raiseF.ex k x1
  | ok r' =>
    rw [q] at k
    refine fun H2 x2 t2 => ?_
    have F2 := (F1.ex x2).put r'
    have hp2 : (upd H2 ro (.dK (encR r'))) pa = some (.lst ps) := by rw [upd_ne n2]; exact x2 _ _ hp1 trivial
    walk_at "w"
    refine ⟨p, dx, _, rfl, F2.ins, ff_no (by decide +kernel), ?_⟩
    walk_at "w"
    refine ⟨_, _, rfl, p, dx, ro, pr, pa, t, r', sp, ps, rfl, rfl, F2, hp2, hps, ?_⟩
    walk_at "w"
    exact k _ t (((Fr.of (x1.trans x2)).upd (by simp)).upd (by simp)) (Tab.upd (Tab.upd t2 (F1.ex x2).row trivial) hp2 trivial) (F2.pastU hp2 _) upd_same

def sp_Font_setitem (K : PySem.W.Frag) (a : Ad) : Sp := sp3 fun s x y H Q E => ∃ (p dx ro pr pa : Addr) (r : Rows) (sp : Int) (z : Str) (ps : List V), s = .ref p ∧ x = .str z ∧ FontAt a H p dx ro pr pa r sp ∧ H pa = some (.lst ps) ∧ ps.length < 50 ∧ r.length ≤ 900 ∧ (∀ x ∈ r, x.1.length ≤ sizeLine) ∧ z.length ≤ sizeLine ∧ (∀ H', IsI K H' y (isIntV y)) ∧ Tab a H ∧
  match paRes r z y with
  | .error e => raiseF a H E e
  | .ok r' => ∀ H' t, Fr [ro, pa] H H' → Tab a H' → FontAt a H' p dx ro pr pa r' sp → H' pa = some (.lst (ps ++ [.ref t])) → Q .non H'
theorem ok_Font_setitem {P : Program} {w : World} {K : PySem.W.Frag} {mg : Str → Option Value} {base : Heap} {a : Ad} (T : Txt P K mg base a) : FnOk P w K mg base (L2.CX P w) 8 a.f_Font_setitem a.d_Font_setitem (["self", "glyph", "advance"] : List Str) (sp_Font_setitem K a) := by
  refine T.F_Font_setitem.okX sc_Font_setitem (fun vs H Q E h => sp3_len h) (fun cdv A outer s H vs Q E hr h => ?_)
  have hu := hu_of hr
  refine ⟨_, (pss_one (ps_expr (pe_mtS (pv 0) T.c_Font T.M_Font_set_advance (ok_Font_set_advance T) (hr.mono (by decide)) T.B_Font_set_advance .nil (fun σ => passAt (takes_of rfl rfl rfl rfl) σ) (pa_cons (pv 1) (pa_cons (pv 2) pa_nil))))), ?_⟩
  try dsimp only [L2.cxOf]
  obtain ⟨s0, x, y, rfl, p, dx, ro, pr, pa, r, sp, z, ps, rfl, rfl, F, hp, hps, hl, hnm, hz, hy, tb, k⟩ := h
  rw [show L2.start (["self", "glyph", "advance"] : List Str) [(.ref p), (.str z), y] = ([some ((.ref p)), some ((.str z)), some (y)] : L2.St) from rfl]
  walk_at "w"
  refine ⟨p, dx, _, rfl, F.ins, ff_no (by decide +kernel), ?_⟩
  walk_at "w"
  refine ⟨_, _, _, rfl, p, dx, ro, pr, pa, r, sp, z, ps, rfl, rfl, F, hp, hps, hl, hnm, hz, hy, tb, ?_⟩
  cases q : paRes r z y with
  | error e =>
    rw [q] at k
    exact k
  | ok r' =>
    rw [q] at k
    refine fun H2 t x2 t2 F2 hp2 => ?_
    walk_at "w"
    exact k _ t x2 t2 F2 hp2

def sp_Font_drop (K : PySem.W.Frag) (a : Ad) : Sp := sp2 fun s x H Q _ => ∃ (p dx ro pr pa : Addr) (r : Rows) (sp : Int) (z : Str) (ps : List V), s = .ref p ∧ x = .str z ∧ FontAt a H p dx ro pr pa r sp ∧ H pa = some (.lst ps) ∧ ps.length < 50 ∧ (getR r z).isSome = true ∧ 1 < z.length ∧ z.length ≤ sizeLine ∧ Tab a H ∧
  ∀ H' t pr', Fr [p, ro, pa] H H' → Tab a H' → FontAt a H' p dx ro pr' pa (dropR r z) sp → H' pa = some (.lst (ps ++ [.ref t])) → Q .non H'
theorem ok_Font_drop {P : Program} {w : World} {K : PySem.W.Frag} {mg : Str → Option Value} {base : Heap} {a : Ad} (T : Txt P K mg base a) : FnOk P w K mg base (L2.CX P w) 7 a.f_Font_drop a.d_Font_drop (["self", "glyph"] : List Str) (sp_Font_drop K a) := by
  refine T.F_Font_drop.okX sc_Font_drop (fun vs H Q E h => sp2_len h) (fun cdv A outer s H vs Q E hr h => ?_)
  have hu := hu_of hr
  refine ⟨_, (pss_cons (ps_set (i := 2) sc_Font_drop.nd rfl (Or.inl rfl) (pe_meth0 (pv 0) T.c_Font T.M_Font_snapshot (ok_Font_snapshot T) (hr.mono (by decide)) T.B_Font_snapshot .nil pass0))
      (pss_cons (ps_expr (pe_mtS (pv 0) T.c_Font T.M_Font_put_drop (ok_Font_put_drop T) (hr.mono (by decide)) T.B_Font_put_drop .nil (fun σ => passAt (takes_of rfl rfl rfl rfl) σ) (pa_cons (pv 1) pa_nil)))
      (pss_one (ps_expr (pe_meth (pv 0) T.c_Font T.M_Font_remember (ok_Font_remember T) (hr.mono (by decide)) T.B_Font_remember .nil pass0 (pa_cons (pv 2) pa_nil)))))), ?_⟩
  try dsimp only [L2.cxOf]
  obtain ⟨s0, x, rfl, p, dx, ro, pr, pa, r, sp, z, ps, rfl, rfl, F, hp, hps, hk, h1, hz, tb, k⟩ := h
  rw [show L2.start (["self", "glyph", "before"] : List Str) [(.ref p), (.str z)] = ([some ((.ref p)), some ((.str z)), none] : L2.St) from rfl]
  walk_at "w"
  refine ⟨p, dx, _, rfl, F.ins, ff_no (by decide +kernel), ?_⟩
  walk_at "w"
  refine ⟨_, rfl, p, dx, ro, pr, pa, r, sp, rfl, F, tb, fun H1 t ro2 pr2 x1 t1 et _ _ _ _ _ _ => ?_⟩
  have F1 := F.ex x1
  have hp1 := x1 _ _ hp trivial
  obtain ⟨n1, n2, n3⟩ := F1.nepa hp1
  walk_at "w"
  refine ⟨p, dx, _, rfl, F1.ins, ff_no (by decide +kernel), ?_⟩
  walk_at "w"
  refine ⟨_, _, rfl, p, dx, ro, pr, pa, r, sp, z, rfl, rfl, F1, hk, h1, hz, t1, fun H2 pr' x2 t2 F2 npr => ?_⟩
  have hp2 : H2 pa = some (.lst ps) := x2 _ _ hp1 trivial (by simp; exact ⟨n1, n2⟩)
  walk_at "w"
  refine ⟨p, dx, _, rfl, F2.ins, ff_no (by decide +kernel), ?_⟩
  walk_at "w"
  refine ⟨_, _, rfl, p, dx, ro, pr', pa, t, _, sp, ps, rfl, rfl, F2, hp2, hps, ?_⟩
  walk_at "w"
  exact k _ t pr' ((((Fr.of (bs := [p, ro, pa]) x1).trans (x2.mono (by simp)))).upd (by simp)) (Tab.upd t2 hp2 trivial) (F2.pastU hp2 _) upd_same

def sp_Batch_init (K : PySem.W.Frag) (a : Ad) : Sp := sp2 fun s f H Q _ => ∃ (b db p dx ro pr pa : Addr) (r : Rows) (sp : Int), s = .ref b ∧ f = .ref p ∧ H b = some (.ins a.C_Batch db []) ∧ b ≠ p ∧ FontAt a H p dx ro pr pa r sp ∧ Tab a H ∧
  ∀ H' ro2 pr2, Fr [b] H H' → Tab a H' → H' b = some (.ins a.C_Batch db (bfields p ro2 pr2 sp)) → H' ro2 = some (.dK (encR r)) → H' pr2 = some (.dK []) → ro2 ≠ pr2 → New H ro2 → New H pr2 → Q .non H'
theorem ok_Batch_init {P : Program} {w : World} {K : PySem.W.Frag} {mg : Str → Option Value} {base : Heap} {a : Ad} (T : Txt P K mg base a) : FnOk P w K mg base (L2.CX P w) 2 a.f_Batch_init a.d_Batch_init (["self", "face"] : List Str) (sp_Batch_init K a) := by
  refine T.F_Batch_init.okX sc_Batch_init (fun vs H Q E h => sp2_len h) (fun cdv A outer s H vs Q E hr h => ?_)
  have hu := hu_of hr
  refine ⟨_, (pss_cons (ps_fld (pv 0) (pv 1) rfl)
      (pss_one (ps_asg (pe_meth0 (pv 1) T.c_Font T.M_Font_snapshot (ok_Font_snapshot T) (hr.mono (by decide)) T.B_Font_snapshot .nil pass0) (pg_tup (by rfl) (pgs_cons (pg_fld (pv 0)) (pgs_cons (pg_fld (pv 0)) (pgs_cons (pg_fld (pv 0)) pgs_nil))))))), ?_⟩
  try dsimp only [L2.cxOf]
  obtain ⟨s0, f, rfl, b, db, p, dx, ro, pr, pa, r, sp, rfl, rfl, hb, hbp, F, tb, k⟩ := h
  rw [show L2.start (["self", "face"] : List Str) [(.ref b), (.ref p)] = ([some ((.ref b)), some ((.ref p))] : L2.St) from rfl]
  walk_at "w"
  refine ⟨b, _, db, _, rfl, hb, T.c_Batch, T.na_Batch_face, by show 0 < 1000; decide, ?_⟩
  rw [bf_put1]
  have F1 : FontAt a (upd H b (.ins a.C_Batch db [("face", .ref p)])) p dx ro pr pa r sp := F.fr (bs := [b]) (Fr.refl.upd (by simp)) (by simpa using Ne.symm hbp) (by simpa using (ne_of F.row hb (by intro z; cases z))) (by simpa using (ne_of F.pai hb (by intro z; cases z)))
  have t1 : Tab a (upd H b (.ins a.C_Batch db [("face", .ref p)])) := Tab.upd tb hb trivial
  walk_at "w"
  refine ⟨p, dx, _, rfl, F1.ins, ff_no (by decide +kernel), ?_⟩
  walk_at "w"
  refine ⟨_, rfl, p, dx, ro, pr, pa, r, sp, rfl, F1, t1, fun H1 t ro2 pr2 x1 t2 et er ep nrp nr np nt => ?_⟩
  have hb1 : H1 b = some (.ins a.C_Batch db [("face", .ref p)]) := x1 _ _ upd_same trivial
  refine w_gtupN (SqT.of et) rfl ?_
  walk_at "w"
  refine ⟨b, _, db, _, rfl, hb1, T.c_Batch, T.na_Batch_rows, by show 1 < 1000; decide, ?_⟩
  rw [bf_put2]
  walk_at "w"
  refine ⟨b, _, db, _, rfl, upd_same, T.c_Batch, T.na_Batch_pairs, by show 2 < 1000; decide, ?_⟩
  rw [bf_put3, upd_upd]
  walk_at "w"
  refine ⟨b, _, db, _, rfl, upd_same, T.c_Batch, T.na_Batch_space, by show 3 < 1000; decide, ?_⟩
  rw [bf_put4, upd_upd]
  walk_at "w"
  have neb : ∀ {c : Addr} {o : HO}, H1 c = some o → o ≠ .ins a.C_Batch db [("face", .ref p)] → c ≠ b := fun h n => ne_of h hb1 n
  have x2 : Fr [b] H H1 := fun c o hc nt nb => x1 _ _ (by rw [upd_ne (by simpa using nb)]; exact hc) nt
  refine k _ ro2 pr2 (x2.upd (by simp)) (Tab.upd t2 hb1 trivial) upd_same ?_ ?_ nrp ?_ ?_
  · rw [upd_ne (neb er (by intro z; cases z))]
    exact er
  · rw [upd_ne (neb ep (by intro z; cases z))]
    exact ep
  · exact fun o h nt => by
      by_cases e : ro2 = b
      · exact neb er (by intro z; cases z) e
      · exact nr o (by rw [upd_ne e]; exact h) nt
  · exact fun o h nt => by
      by_cases e : pr2 = b
      · exact neb ep (by intro z; cases z) e
      · exact np o (by rw [upd_ne e]; exact h) nt

def sp_Batch_enter (K : PySem.W.Frag) (a : Ad) : Sp := sp1 fun s H Q _ => Q s H
theorem ok_Batch_enter {P : Program} {w : World} {K : PySem.W.Frag} {mg : Str → Option Value} {base : Heap} {a : Ad} (T : Txt P K mg base a) : FnOk P w K mg base CX0 1 a.f_Batch_enter a.d_Batch_enter (["self"] : List Str) (sp_Batch_enter K a) := by
  refine T.F_Batch_enter.ok sc_Batch_enter (fun vs H Q E h => sp1_len h) (fun cdv A outer s H vs Q E hr h => ?_)
  have hu := hu_of hr
  refine ⟨_, (pss_one (ps_ret (pv 0))), ?_⟩
  try dsimp only [L2.cxOf]
  obtain ⟨s0, rfl, k⟩ := h
  rw [show L2.start (["self"] : List Str) [s0] = ([some (s0)] : L2.St) from rfl]
  walk_at "w"
  exact k

theorem okA_Batch_enter {P : Program} {w : World} {K : PySem.W.Frag} {mg : Str → Option Value} {base : Heap} {a : Ad} (T : Txt P K mg base a) : FnA P w K mg base 1 a.f_Batch_enter a.d_Batch_enter (["self"] : List Str) (sp_Batch_enter K a) := by
  refine funA T.F_Batch_enter sc_Batch_enter (fun vs H Q h => sp1_len h) (fun cdv A outer s H vs Q hr h => ?_)
  have hu := hu_ofA hr
  refine ⟨_, (pss_one (ps_ret (pv 0))), ?_⟩
  try dsimp only [L2.cxOf]
  obtain ⟨s0, rfl, k⟩ := h
  rw [show L2.start (["self"] : List Str) [s0] = ([some (s0)] : L2.St) from rfl]
  walk_at "w"
  exact k

def sp_Batch_exit (K : PySem.W.Frag) (a : Ad) : Sp := sp4 fun s kd v tr H Q _ => ∃ (b db p dx ro pr pa ro2 pr2 : Addr) (sp sp2 : Int), s = .ref b ∧ H b = some (.ins a.C_Batch db (bfields p ro2 pr2 sp2)) ∧ H p = some (.ins a.C_Font dx (ffields ro pr pa sp)) ∧ b ≠ p ∧
  (kd = .non ∧ Q .non H ∨ (∃ c, kd = .ref c) ∧ Q .non (upd H p (.ins a.C_Font dx (ffields ro2 pr2 pa sp2))))
theorem ok_Batch_exit {P : Program} {w : World} {K : PySem.W.Frag} {mg : Str → Option Value} {base : Heap} {a : Ad} (T : Txt P K mg base a) : FnOk P w K mg base CX0 1 a.f_Batch_exit a.d_Batch_exit (["self", "kind", "value", "trace"] : List Str) (sp_Batch_exit K a) := by
  refine T.F_Batch_exit.ok sc_Batch_exit (fun vs H Q E h => sp4_len h) (fun cdv A outer s H vs Q E hr h => ?_)
  have hu := hu_of hr
  refine ⟨_, (pss_one (ps_if (pt_cmpR qo_notN (pv 1) pe_non (nomark _)) (pss_cons (ps_fld (pe_fld (pv 0) rfl) (pe_fld (pv 0) rfl) rfl)
      (pss_cons (ps_fld (pe_fld (pv 0) rfl) (pe_fld (pv 0) rfl) rfl)
      (pss_one (ps_fld (pe_fld (pv 0) rfl) (pe_fld (pv 0) rfl) rfl)))) pss_nil)), ?_⟩
  try dsimp only [L2.cxOf]
  obtain ⟨s0, kd, v, tr, rfl, b, db, p, dx, ro, pr, pa, ro2, pr2, sp, sp2, rfl, hb, hp, nbp, k⟩ := h
  rw [show L2.start (["self", "kind", "value", "trace"] : List Str) [(.ref b), kd, v, tr] = ([some ((.ref b)), some (kd), some (v), some (tr)] : L2.St) from rfl]
  walk_at "w"
  rcases k with ⟨rfl, k⟩ | ⟨⟨c, rfl⟩, k⟩
  · refine it_npos rfl ?_
    walk_at "w"
    exact k
  · refine it_nneg (fun z => nomatch z) ?_
    walk_at "w"
    refine ⟨b, _, db, _, _, rfl, hb, T.c_Batch, T.na_Batch_rows, bf_rows, ?_⟩
    walk_at "w"
    refine ⟨b, _, db, _, _, rfl, hb, T.c_Batch, T.na_Batch_face, bf_face, ?_⟩
    walk_at "w"
    refine ⟨p, _, dx, _, rfl, hp, T.c_Font, T.na_Font_rows, by show 4 < 1000; decide, ?_⟩
    rw [ff_putR]
    have hb1 : (upd H p (.ins a.C_Font dx (ffields ro2 pr pa sp))) b = some (.ins a.C_Batch db (bfields p ro2 pr2 sp2)) := by rw [upd_ne nbp]; exact hb
    walk_at "w"
    refine ⟨b, _, db, _, _, rfl, hb1, T.c_Batch, T.na_Batch_pairs, bf_pairs, ?_⟩
    walk_at "w"
    refine ⟨b, _, db, _, _, rfl, hb1, T.c_Batch, T.na_Batch_face, bf_face, ?_⟩
    walk_at "w"
    refine ⟨p, _, dx, _, rfl, upd_same, T.c_Font, T.na_Font_pairs, by show 4 < 1000; decide, ?_⟩
    rw [ff_putP, upd_upd]
    have hb2 : (upd H p (.ins a.C_Font dx (ffields ro2 pr2 pa sp))) b = some (.ins a.C_Batch db (bfields p ro2 pr2 sp2)) := by rw [upd_ne nbp]; exact hb
    walk_at "w"
    refine ⟨b, _, db, _, _, rfl, hb2, T.c_Batch, T.na_Batch_space, bf_space, ?_⟩
    walk_at "w"
    refine ⟨b, _, db, _, _, rfl, hb2, T.c_Batch, T.na_Batch_face, bf_face, ?_⟩
    walk_at "w"
    refine ⟨p, _, dx, _, rfl, upd_same, T.c_Font, T.na_Font_space, by show 4 < 1000; decide, ?_⟩
    rw [ff_put, upd_upd]
    exact k

theorem okA_Batch_exit {P : Program} {w : World} {K : PySem.W.Frag} {mg : Str → Option Value} {base : Heap} {a : Ad} (T : Txt P K mg base a) : FnA P w K mg base 1 a.f_Batch_exit a.d_Batch_exit (["self", "kind", "value", "trace"] : List Str) (sp_Batch_exit K a) := by
  refine funA T.F_Batch_exit sc_Batch_exit (fun vs H Q h => sp4_len h) (fun cdv A outer s H vs Q hr h => ?_)
  have hu := hu_ofA hr
  refine ⟨_, (pss_one (ps_if (pt_cmpR qo_notN (pv 1) pe_non (nomark _)) (pss_cons (ps_fld (pe_fld (pv 0) rfl) (pe_fld (pv 0) rfl) rfl)
      (pss_cons (ps_fld (pe_fld (pv 0) rfl) (pe_fld (pv 0) rfl) rfl)
      (pss_one (ps_fld (pe_fld (pv 0) rfl) (pe_fld (pv 0) rfl) rfl)))) pss_nil)), ?_⟩
  try dsimp only [L2.cxOf]
  obtain ⟨s0, kd, v, tr, rfl, b, db, p, dx, ro, pr, pa, ro2, pr2, sp, sp2, rfl, hb, hp, nbp, k⟩ := h
  rw [show L2.start (["self", "kind", "value", "trace"] : List Str) [(.ref b), kd, v, tr] = ([some ((.ref b)), some (kd), some (v), some (tr)] : L2.St) from rfl]
  walk_at "w"
  rcases k with ⟨rfl, k⟩ | ⟨⟨c, rfl⟩, k⟩
  · refine it_npos rfl ?_
    walk_at "w"
    exact k
  · refine it_nneg (fun z => nomatch z) ?_
    walk_at "w"
    refine ⟨b, _, db, _, _, rfl, hb, T.c_Batch, T.na_Batch_rows, bf_rows, ?_⟩
    walk_at "w"
    refine ⟨b, _, db, _, _, rfl, hb, T.c_Batch, T.na_Batch_face, bf_face, ?_⟩
    walk_at "w"
    refine ⟨p, _, dx, _, rfl, hp, T.c_Font, T.na_Font_rows, by show 4 < 1000; decide, ?_⟩
    rw [ff_putR]
    have hb1 : (upd H p (.ins a.C_Font dx (ffields ro2 pr pa sp))) b = some (.ins a.C_Batch db (bfields p ro2 pr2 sp2)) := by rw [upd_ne nbp]; exact hb
    walk_at "w"
    refine ⟨b, _, db, _, _, rfl, hb1, T.c_Batch, T.na_Batch_pairs, bf_pairs, ?_⟩
    walk_at "w"
    refine ⟨b, _, db, _, _, rfl, hb1, T.c_Batch, T.na_Batch_face, bf_face, ?_⟩
    walk_at "w"
    refine ⟨p, _, dx, _, rfl, upd_same, T.c_Font, T.na_Font_pairs, by show 4 < 1000; decide, ?_⟩
    rw [ff_putP, upd_upd]
    have hb2 : (upd H p (.ins a.C_Font dx (ffields ro2 pr2 pa sp))) b = some (.ins a.C_Batch db (bfields p ro2 pr2 sp2)) := by rw [upd_ne nbp]; exact hb
    walk_at "w"
    refine ⟨b, _, db, _, _, rfl, hb2, T.c_Batch, T.na_Batch_space, bf_space, ?_⟩
    walk_at "w"
    refine ⟨b, _, db, _, _, rfl, hb2, T.c_Batch, T.na_Batch_face, bf_face, ?_⟩
    walk_at "w"
    refine ⟨p, _, dx, _, rfl, upd_same, T.c_Font, T.na_Font_space, by show 4 < 1000; decide, ?_⟩
    rw [ff_put, upd_upd]
    exact k

def sp_Font_apply (K : PySem.W.Frag) (a : Ad) : Sp := sp2 fun s q H Q E => ∃ (p dx ro pr pa l t0 t1 : Addr) (r : Rows) (sp b : Int) (z : Str) (y : V) (e : FErr), s = .ref p ∧ q = .ref l ∧ H l = some (.lst [.ref t0, .ref t1]) ∧ H t0 = some (.tup [.str "blank", .int b]) ∧ 0 ≤ b ∧ b ≤ 1000000 ∧ H t1 = some (.tup [.str "advance", .str z, y]) ∧
  z.length ≤ sizeLine ∧ (∀ H', IsI K H' y (isIntV y)) ∧ FontAt a H p dx ro pr pa r sp ∧ r.length ≤ 900 ∧ (∀ x ∈ r, x.1.length ≤ sizeLine) ∧ Tab a H ∧ paRes r z y = .error e ∧
  ∀ H' ro' pr' d, Fr [p, ro] H H' → Tab a H' → FontAt a H' p dx ro' pr' pa r sp → New H ro' → New H pr' → H' d = none → E (.ref a.C_DeedRefused) (some d) (upd H' d (.xd [("index", .int 1)]))
theorem ok_Font_apply {P : Program} {w : World} {K : PySem.W.Frag} {mg : Str → Option Value} {base : Heap} {a : Ad} (T : Txt P K mg base a) (hw : a.w_ = w) : FnOk P w K mg base (L2.CX P w) 8 a.f_Font_apply a.d_Font_apply (["self", "deeds"] : List Str) (sp_Font_apply K a) := by
  refine T.F_Font_apply.okX sc_Font_apply (fun vs H Q E h => sp2_len h) (fun cdv A outer s H vs Q E hr h => ?_)
  have hu := hu_of hr
  refine ⟨_, (pss_cons (ps_if (pt_cmpR op_eq (pe_callB qc_len (by rfl) T.n_len bb_len (pa_cons (pv 1) pa_nil)) pe_int (nomark _)) (pss_one ps_retN) pss_nil)
      (pss_cons (ps_set (i := 2) sc_Font_apply.nd rfl (Or.inl rfl) (pe_meth0 (pv 0) T.c_Font T.M_Font_snapshot (ok_Font_snapshot T) (hr.mono (by decide)) T.B_Font_snapshot .nil pass0))
      (pss_cons (ps_with rfl rfl rfl (takes_of rfl rfl rfl rfl) T.M_Batch_enter.at_ T.M_Batch_enter.fn T.M_Batch_exit.at_ T.M_Batch_exit.fn (okA_Batch_enter T) (L2H.roomH_of (hr.mono (by decide))) T.B_Batch_enter (okA_Batch_exit T) (L2H.roomH_of (hr.mono (by decide))) T.B_Batch_exit (pe_mkS T.M_Batch (ok_Batch_init T) (hr.mono (by decide)) rfl T.g_Batch T.B_Batch_init .nil (fun σ => passAt (takes_of rfl rfl rfl rfl) σ) (pa_cons (pv 0) pa_nil)) (fun W pn xe tk po => (pss_one (ps_for po rfl (@id (PI _ _ _ (iEnum K _)) (pi_enum (by rfl) T.n_enumerate (pa_cons (pv 1) pa_nil))) (@id (PG _ _ (gTup K 2 (gCons (gName 3) (gCons (gName 4) gNil)))) (pg_tup (by rfl) (pgs_cons (pg_name (i := 3) sc_Font_apply.nd rfl (Or.inl rfl)) (pgs_cons (pg_name (i := 4) sc_Font_apply.nd rfl (Or.inl rfl)) pgs_nil)))) (pss_one (ps_expr (pe_mtS (pv 0) T.c_Font T.M_Font_put_deed (ok_Font_put_deed T hw) (hr.mono (by decide)) T.B_Font_put_deed .nil (fun σ => passAt tk σ) (pa_cons (pv 3) (pa_cons (pv 4) pa_nil)))))))))
      (pss_one (ps_expr (pe_meth (pv 0) T.c_Font T.M_Font_remember (ok_Font_remember T) (hr.mono (by decide)) T.B_Font_remember .nil pass0 (pa_cons (pv 2) pa_nil))))))), ?_⟩
  try dsimp only [L2.cxOf]
  obtain ⟨s0, q, rfl, p, dx, ro, pr, pa, l, t0, t1, r, sp, b, z, y, e, rfl, rfl, hl, h0, b0, b1, h1, hz, hy, F, hr9, hnm, tb, he, k⟩ := h
  rw [show L2.start (["self", "deeds", "before", "index", "deed"] : List Str) [(.ref p), (.ref l)] = ([some ((.ref p)), some ((.ref l)), none, none, none] : L2.St) from rfl]
  walk_at "w"
  refine it_neg (fun z => by have := V.int.inj z; simp at this) ?_
  walk_at "w"
  refine ⟨p, dx, _, rfl, F.ins, ff_no (by decide +kernel), ?_⟩
  walk_at "w"
  refine ⟨_, rfl, p, dx, ro, pr, pa, r, sp, rfl, F, tb, fun H1 t ro1 pr1 x1 tb1 et _ _ _ _ _ _ => ?_⟩
  have F1 := F.ex x1
  walk_at "w"
  intro c dc nc ndc ndcc
  have nc2 : upd H1 dc (.own c) c = none := by rw [upd_ne (Ne.symm ndcc)]; exact nc
  have x2 : Ex H1 (upd (upd H1 dc (.own c)) c (.ins a.C_Batch dc [])) := (Ex.new ndc).trans (Ex.new nc2)
  have tb2 : Tab a (upd (upd H1 dc (.own c)) c (.ins a.C_Batch dc [])) := Tab.new (Tab.new tb1 ndc) nc2
  have F2 := F1.ex x2
  refine ⟨_, _, rfl, c, dc, p, dx, ro, pr, pa, r, sp, rfl, rfl, upd_same, Ne.symm (ne_of_none F1.ins nc), F2, tb2, fun H3 ro2 pr2 x3 tb3 hc3 er ep nrp nr np => ⟨rfl, ?_⟩⟩
  have npc : p ∉ [c] := by simpa using ne_of_none F1.ins nc
  have nroc : ro ∉ [c] := by simpa using ne_of_none F1.row nc
  have nprc : pr ∉ [c] := by simpa using ne_of_none F1.pai nc
  have F3 := F2.fr x3 npc nroc nprc
  have x03 : Fr [] H H3 := fun w o hw nt _ => x3 _ _ (x2 _ _ (x1 _ _ hw nt) nt) nt (by simpa using ne_of_none (x1 _ _ hw nt) nc)
  have xe03 : Ex H H3 := fun w o hw nt => x03 w o hw nt (by simp)
  have hl3 := xe03 _ _ hl trivial
  have h03 := xe03 _ _ h0 trivial
  have h13 := xe03 _ _ h1 trivial
  have back : ∀ {w : Addr}, New (upd (upd H1 dc (.own c)) c (.ins a.C_Batch dc [])) w → New H w := fun n => New.back n (x1.trans x2)
  have nr' := back nr
  have np' := back np
  refine ⟨c, dc, _, rfl, hc3, _, rfl, ?_⟩
  have ncp : c ≠ p := fun z => by simp at npc; exact npc z.symm
  have ron : ro2 ≠ p := ne_of er F3.ins (by intro z; cases z)
  have prn : pr2 ≠ p := ne_of ep F3.ins (by intro z; cases z)
  walk_at "w"
  refine ⟨l, [.ref t0, .ref t1], rfl, SqL.of hl3, turnsW (walk_enum (xs := [.ref t0, .ref t1])) (fun i σ' H' => (i = 0 ∧ σ' = [some (.ref p), some (.ref l), some (.ref t), none, none] ∧ H' = H3) ∨ (i = 1 ∧ ∃ i0 d0, σ' = [some (.ref p), some (.ref l), some (.ref t), i0, d0] ∧ FontAt a H' p dx ro pr pa r b ∧ Fr [p] H3 H' ∧ Tab a H')) (.inl ⟨rfl, rfl, rfl⟩) ?_ ?_ ?_⟩
  · rintro i σ' H' _ (⟨_, _, rfl⟩ | ⟨_, _, _, _, _, R, _⟩)
    · exact SqL.of hl3
    · exact SqL.of (R _ _ hl3 trivial (by simpa using ne_of hl3 F3.ins (by intro z; cases z)))
  · rintro i x σ' H' H'' hi (⟨rfl, rfl, rfl⟩ | ⟨rfl, i0, d0, rfl, F4, R4, tb4⟩) ⟨T0, x', y', rfl, nT, rfl, ex, ey⟩
    · cases Option.some.inj ex
      cases Option.some.inj ey
      have xT : Ex H' (upd H' T0 (.tup [.int (0 : Nat), .ref t0])) := Ex.new nT
      refine w_gtup2 (SqT.of upd_same) rfl ?_
      walk_at "w"
      refine ⟨p, dx, _, rfl, (F3.ex xT).ins, ff_no (by decide +kernel), ?_⟩
      walk_at "w"
      refine ⟨_, _, _, rfl, p, dx, ro, pr, pa, t0, r, sp, 0, rfl, rfl, rfl, F3.ex xT, hr9, hnm, Tab.new tb3 nT, .inl ⟨b, xT _ _ h03 trivial, b0, b1, ?_⟩⟩
      refine .inr ⟨rfl, _, _, rfl, ⟨upd_same, ?_, ?_, F3.ne⟩, ((Fr.refl.new nT).upd (by simp)), Tab.upd (Tab.new tb3 nT) (F3.ex xT).ins trivial⟩
      · rw [upd_ne (Ne.symm F3.nero)]
        exact (F3.ex xT).row
      · rw [upd_ne (Ne.symm F3.nepr)]
        exact (F3.ex xT).pai
    · cases Option.some.inj ex
      cases Option.some.inj ey
      have xT : Ex H' (upd H' T0 (.tup [.int (1 : Nat), .ref t1])) := Ex.new nT
      have h14 : H' t1 = some (.tup [.str "advance", .str z, y]) := R4 _ _ h13 trivial (by simpa using ne_of h13 F3.ins (by intro z; cases z))
      refine w_gtup2 (SqT.of upd_same) rfl ?_
      walk_at "w"
      refine ⟨p, dx, _, rfl, (F4.ex xT).ins, ff_no (by decide +kernel), ?_⟩
      walk_at "w"
      refine ⟨_, _, _, rfl, p, dx, ro, pr, pa, t1, r, b, 1, rfl, rfl, rfl, F4.ex xT, hr9, hnm, Tab.new tb4 nT, .inr ⟨z, y, e, xT _ _ h14 trivial, hz, hy, he, fun H5 d5 x5 t5 nd5 => ⟨_, rfl, fun ae tr nae => ?_⟩⟩⟩
      have fr5 : Fr [p] H3 H5 := R4.trans (Fr.of (xT.trans x5))
      have hp5 := ((F4.ex xT).ex x5).ins
      have nd5p : d5 ≠ p := Ne.symm (ne_of_none hp5 nd5)
      have hc5 : H5 c = some (.ins a.C_Batch dc (bfields p ro2 pr2 sp)) := fr5 _ _ hc3 trivial (by simpa using ncp)
      refine ⟨_, _, _, _, rfl, c, dc, p, dx, ro, pr, pa, ro2, pr2, b, sp, rfl, upd_old hc5 nd5, upd_old hp5 nd5, ncp, .inr ⟨⟨_, rfl⟩, rfl, ?_⟩⟩
      rw [upd_comm nd5p]
      have er5 : H5 ro2 = some (.dK (encR r)) := fr5 _ _ er trivial (by simpa using ron)
      have ep5 : H5 pr2 = some (.dK []) := fr5 _ _ ep trivial (by simpa using prn)
      refine k _ ro2 pr2 d5 (fun w o hw nt nb => ?_) (Tab.upd t5 hp5 trivial) ⟨upd_same, by rw [upd_ne ron]; exact er5, by rw [upd_ne prn]; exact ep5, nrp⟩ nr' np' (by rw [upd_ne nd5p]; exact nd5)
      have nwp : w ≠ p := fun z => nb (by rw [z]; simp)
      rw [upd_ne nwp]
      exact fr5 _ _ (xe03 _ _ hw nt) nt (by simpa using nwp)
  · rintro σ' H' (⟨h, _⟩ | ⟨h, _⟩)
    · cases h
    · cases h

def sp_Font_set_advances (K : PySem.W.Frag) (a : Ad) : Sp := sp2 fun s q H Q E => ∃ (p dx ro pr pa d : Addr) (r : Rows) (sp : Int) (es : List (Str × V)) (e : FErr), s = .ref p ∧ q = .ref d ∧ H d = some (.dK (encV es)) ∧ es ≠ [] ∧ es.length ≤ 20 ∧ d ≠ ro ∧ (es.map (·.1)).Nodup ∧ (∀ x ∈ es, x.1.length ≤ sizeLine) ∧ (∀ x ∈ es, ∀ H', IsI K H' x.2 (isIntV x.2)) ∧
  FontAt a H p dx ro pr pa r sp ∧ r.length ≤ 500 ∧ (∀ x ∈ r, x.1.length ≤ sizeLine) ∧ Tab a H ∧ runPA es ((es.map (·.1)).mergeSort rankLe) r = .error e ∧
  ∀ H' ro' pr' d, Fr [p, ro] H H' → Tab a H' → FontAt a H' p dx ro' pr' pa r sp → New H ro' → New H pr' → H' d = none → E (.ref (errC a e)) (some d) (upd H' d (.xd (errFs e)))
theorem okB_Font_set_advances {P : Program} {w : World} {K : PySem.W.Frag} {mg : Str → Option Value} {base : Heap} {a : Ad} (T : Txt P K mg base a) (cdv : Value) (A : Around) (outer : List Env) (s : Shared) (H : Hp) (vs : List V) (Q : VK) (E : XK) (hr : Room 6 (A.deeper (PyProof.Rows.envOfC "Font.set_advances" (defScope s_Font_set_advances) s.heap.objs.size a.f_Font_set_advances cdv))) (h : sp_Font_set_advances K a vs H Q E) :
    ∃ t, PSs (cxOf (L2.CX P w) P w K mg base (["self", "advances", "before", "glyph"] : List Str) "Font.set_advances" (defScope s_Font_set_advances) a.f_Font_set_advances cdv A outer s H E) (defBody s_Font_set_advances) t ∧ t { nx := fun _ H' => Q .non H', rt := Q } (L2.start (["self", "advances", "before", "glyph"] : List Str) vs) H := by
  have hu := hu_of hr
  refine ⟨_, (pss_cons (ps_if (pt_cmpR op_eq (pe_callB call_lenD (by rfl) T.n_len bb_len (pa_cons (pv 1) pa_nil)) pe_int (nomark _)) (pss_one ps_retN) pss_nil)
      (pss_cons (ps_set (i := 2) sc_Font_set_advances.nd rfl (Or.inl rfl) (pe_meth0 (pv 0) T.c_Font T.M_Font_snapshot (ok_Font_snapshot T) (hr.mono (by decide)) T.B_Font_snapshot .nil pass0))
      (pss_cons (ps_with rfl rfl rfl (takes_of rfl rfl rfl rfl) T.M_Batch_enter.at_ T.M_Batch_enter.fn T.M_Batch_exit.at_ T.M_Batch_exit.fn (okA_Batch_enter T) (L2H.roomH_of (hr.mono (by decide))) T.B_Batch_enter (okA_Batch_exit T) (L2H.roomH_of (hr.mono (by decide))) T.B_Batch_exit (pe_mkS T.M_Batch (ok_Batch_init T) (hr.mono (by decide)) rfl T.g_Batch T.B_Batch_init .nil (fun σ => passAt (takes_of rfl rfl rfl rfl) σ) (pa_cons (pv 0) pa_nil)) (fun W pn xe tk po => (pss_one (ps_for po rfl (@id (PI _ _ _ (iList K _)) (pi_list (pe_call (ok_font_order T) (hr.mono (by decide)) rfl T.g_font_order T.k_font_order T.B_font_order .nil pass0 (pa_cons (pv 1) pa_nil)))) (pg_name (i := 3) sc_Font_set_advances.nd rfl (Or.inl rfl)) (pss_one (ps_expr (pe_mtS (pv 0) T.c_Font T.M_Font_put_advance (ok_Font_put_advance T) (hr.mono (by decide)) T.B_Font_put_advance .nil (fun σ => passAt tk σ) (pa_cons (pv 3) (pa_cons (pe_dget hu (pv 1) (pv 3) (fun _ _ => rfl)) pa_nil)))))))))
      (pss_one (ps_expr (pe_meth (pv 0) T.c_Font T.M_Font_remember (ok_Font_remember T) (hr.mono (by decide)) T.B_Font_remember .nil pass0 (pa_cons (pv 2) pa_nil))))))), ?_⟩
  try dsimp only [L2.cxOf]
  obtain ⟨s0, q, rfl, p, dx, ro, pr, pa, d, r, sp, es, e, rfl, rfl, hd, hne, hes, dro, hnd, hen, hei, F, hr9, hnm, tb, he, k⟩ := h
  rw [show L2.start (["self", "advances", "before", "glyph"] : List Str) [(.ref p), (.ref d)] = ([some ((.ref p)), some ((.ref d)), none, none] : L2.St) from rfl]
  walk_at "w"
  refine ⟨d, encV es, rfl, hd, ?_⟩
  walk_at "w"
  refine it_neg (fun c => hne (List.eq_nil_of_length_eq_zero (by have := V.int.inj c; simp only [encV, List.length_map] at this; omega))) ?_
  walk_at "w"
  refine ⟨p, dx, _, rfl, F.ins, ff_no (by decide +kernel), ?_⟩
  walk_at "w"
  refine ⟨_, rfl, p, dx, ro, pr, pa, r, sp, rfl, F, tb, fun H1 t ro1 pr1 x1 tb1 et _ _ _ _ _ _ => ?_⟩
  have F1 := F.ex x1
  walk_at "w"
  intro c dc nc ndc ndcc
  have nc2 : upd H1 dc (.own c) c = none := by rw [upd_ne (Ne.symm ndcc)]; exact nc
  have x2 : Ex H1 (upd (upd H1 dc (.own c)) c (.ins a.C_Batch dc [])) := (Ex.new ndc).trans (Ex.new nc2)
  have tb2 : Tab a (upd (upd H1 dc (.own c)) c (.ins a.C_Batch dc [])) := Tab.new (Tab.new tb1 ndc) nc2
  have F2 := F1.ex x2
  refine ⟨_, _, rfl, c, dc, p, dx, ro, pr, pa, r, sp, rfl, rfl, upd_same, Ne.symm (ne_of_none F1.ins nc), F2, tb2, fun H3 ro2 pr2 x3 tb3 hc3 er ep nrp nr np => ⟨rfl, ?_⟩⟩
  have npc : p ∉ [c] := by simpa using ne_of_none F1.ins nc
  have nroc : ro ∉ [c] := by simpa using ne_of_none F1.row nc
  have nprc : pr ∉ [c] := by simpa using ne_of_none F1.pai nc
  have F3 := F2.fr x3 npc nroc nprc
  have x03 : Fr [] H H3 := fun w o hw nt _ => x3 _ _ (x2 _ _ (x1 _ _ hw nt) nt) nt (by simpa using ne_of_none (x1 _ _ hw nt) nc)
  have xe03 : Ex H H3 := fun w o hw nt => x03 w o hw nt (by simp)
  have back : ∀ {w : Addr}, New (upd (upd H1 dc (.own c)) c (.ins a.C_Batch dc [])) w → New H w := fun n => New.back n (x1.trans x2)
  have nr' := back nr
  have np' := back np
  refine ⟨c, dc, _, rfl, hc3, _, rfl, ?_⟩
  have ncp : c ≠ p := fun z => by simp at npc; exact npc z.symm
  have ron : ro2 ≠ p := ne_of er F3.ins (by intro z; cases z)
  have prn : pr2 ≠ p := ne_of ep F3.ins (by intro z; cases z)
  have hd3 := xe03 _ _ hd trivial
  have roo : ro2 ≠ ro := fun z => nr' (.dK (encR r)) (by rw [z]; exact F.row) trivial
  have pro : pr2 ≠ ro := fun z => np' (.dK (encR r)) (by rw [z]; exact F.row) trivial
  have ncro : c ≠ ro := fun z => by simp at nroc; exact nroc z.symm
  walk_at "w"
  refine ⟨_, rfl, d, es.map (·.1), rfl, .inr ⟨_, hd3, keys_encV es⟩, by rw [List.length_map]; omega, fun z hz => ?_, tb3, fun H6 l x6 t6 n6 e6 => ?_⟩
  · obtain ⟨y, hy, rfl⟩ := List.mem_map.mp hz
    exact hen y hy
  have hmem : ∀ g, g ∈ (es.map (·.1)).mergeSort rankLe → g ∈ es.map (·.1) := fun g hg => (List.mergeSort_perm _ _).mem_iff.mp hg
  generalize hord : (es.map (·.1)).mergeSort rankLe = ord at he e6 hmem
  have hol : ord.length ≤ 20 := by
    rw [← hord, List.length_mergeSort, List.length_map]
    exact hes
  have F6 := F3.ex x6
  have lro : l ≠ ro := fun z => n6 (.dK (encR r)) (by rw [z]; exact F3.row) trivial
  refine ⟨l, rfl, ⟨_, SqL.of e6⟩, turnsW (walk_list (xs := ord.map V.str)) (fun i σ' H' => ∃ r', runPA es (ord.take i) r = .ok r' ∧ FontAt a H' p dx ro pr pa r' sp ∧ Fr [ro] H6 H' ∧ Tab a H' ∧ r'.length ≤ r.length + i ∧ (∀ x ∈ r', x.1.length ≤ sizeLine) ∧ ∃ g0, σ' = [some (.ref p), some (.ref d), some (.ref t), g0]) ⟨r, rfl, F6, Fr.refl, t6, by omega, hnm, _, rfl⟩ ?_ ?_ ?_⟩
  · rintro i σ' H' _ ⟨r', _, _, R, _⟩
    exact SqL.of (R _ _ e6 trivial (by simpa using lro))
  · rintro i x σ' H7 H' hi ⟨r', er', F7, R7, t7, lr, nmr, g0, rfl⟩ ⟨rfl, hx⟩
    rw [List.getElem?_map] at hx
    obtain ⟨g, hg, rfl⟩ := Option.map_eq_some_iff.mp hx
    obtain ⟨v, hv⟩ : ∃ v, getR es g = some v := Option.isSome_iff_exists.mp (getR_mem.mpr (hmem g (List.mem_of_getElem? hg)))
    obtain ⟨⟨g', v'⟩, hm, e1, e2⟩ : ∃ y ∈ es, y.1 = g ∧ y.2 = v := by
      unfold getR at hv
      obtain ⟨y, h1, h2⟩ := Option.map_eq_some_iff.mp hv
      exact ⟨y, List.mem_of_find?_eq_some h1, by simpa using List.find?_some h1, h2⟩
    dsimp only at e1 e2
    subst e1 e2
    have hd7 : H' d = some (.dK (encV es)) := R7 _ _ (x6 _ _ hd3 trivial) trivial (by simpa using dro)
    have dg : DGet H' d (.str g') (some v') := by
      have h := DGet.k (k := (Sum.inr g' : L2.Key)) hd7
      rw [val_encV, hv] at h
      exact h
    have hi5 : i < 20 := by
      rw [List.length_map] at hi
      omega
    have split1 : ord = ord.take i ++ g' :: ord.drop (i + 1) := by
      obtain ⟨hi', e⟩ := List.getElem?_eq_some_iff.mp hg
      rw [← e, ← List.drop_eq_getElem_cons, List.take_append_drop]
    walk_at "w"
    refine ⟨p, dx, _, rfl, F7.ins, ff_no (by decide +kernel), ?_⟩
    walk_at "w"
    refine ⟨d, v', rfl, dg, ?_⟩
    walk_at "w"
    refine ⟨_, _, _, rfl, p, dx, ro, pr, pa, r', sp, g', rfl, rfl, F7, by omega, nmr, hen _ hm, hei _ hm _, t7, ?_⟩
    cases q : paRes r' g' v' with
    | error e' =>
      have er2 : runPA es ord r = .error e' := by
        rw [split1, runPA_app er', runPA_er (by rw [hv]; exact q)]
      rw [er2] at he
      cases he
      refine raiseF_of fun H8 d8 x8 t8 nd8 => ⟨_, rfl, fun ae tr nae => ?_⟩
      have fr8 : Fr [ro] H3 H8 := ((Fr.of x6).trans R7).trans (Fr.of x8)
      have hp8 := (F7.ex x8).ins
      have nd8p : d8 ≠ p := Ne.symm (ne_of_none hp8 nd8)
      have hc8 : H8 c = some (.ins a.C_Batch dc (bfields p ro2 pr2 sp)) := fr8 _ _ hc3 trivial (by simpa using ncro)
      refine ⟨_, _, _, _, rfl, c, dc, p, dx, ro, pr, pa, ro2, pr2, sp, sp, rfl, upd_old hc8 nd8, upd_old hp8 nd8, ncp, .inr ⟨⟨_, rfl⟩, rfl, ?_⟩⟩
      rw [upd_comm nd8p]
      have er8 : H8 ro2 = some (.dK (encR r)) := fr8 _ _ er trivial (by simpa using roo)
      have ep8 : H8 pr2 = some (.dK []) := fr8 _ _ ep trivial (by simpa using pro)
      refine k _ ro2 pr2 d8 (fun w o hw nt nb => ?_) (Tab.upd t8 hp8 trivial) ⟨upd_same, by rw [upd_ne ron]; exact er8, by rw [upd_ne prn]; exact ep8, nrp⟩ nr' np' (by rw [upd_ne nd8p]; exact nd8)
      have nwp : w ≠ p := fun z => nb (by rw [z]; simp)
      have nwr : w ≠ ro := fun z => nb (by rw [z]; simp)
      rw [upd_ne nwp]
      exact fr8 _ _ (xe03 _ _ hw nt) nt (by simpa using nwr)
    | ok r'' =>
      obtain ⟨m, rfl, rfl, _, _⟩ := paRes_put q
      refine fun H8 x8 t8 => ?_
      walk_at "w"
      refine ⟨putR r' g' m, ?_, (F7.ex x8).put _, (R7.trans (Fr.of x8)).upd (by simp), Tab.upd t8 (F7.ex x8).row trivial, ?_, putR_names (P := fun z => z.length ≤ sizeLine) nmr (hen _ hm), _, rfl⟩
      · rw [List.take_add_one, hg, runPA_app er']
        show runPA es [g'] r' = _
        rw [runPA_ok (by rw [hv]; exact q)]
        rfl
      · have := putR_len (r := r') (z := g') (n := m)
        omega
  · rintro σ' H7 ⟨r', er', _⟩
    rw [List.length_map, List.take_length, he] at er'
    cases er'
theorem okKa_gg_Font_set_advances {P : Program} {w : World} {K : PySem.W.Frag} {mg : Str → Option Value} {base : Heap} {a : Ad} (T : Txt P K mg base a) : FnKw P w K mg base (L2.CX P w) 8 a.f_Font_set_advances (["a", "gg"] : List Str) (sp_Font_set_advances K a) := by
  obtain ⟨oc, od, kV, doc, pm, an, cdv, ct, osl, e, lk, hcd⟩ := T.F_Font_set_advances.ex
  rw [e] at lk
  exact fun A outer s H u x us vs Q E hr e0 rx r hl hq => fn_kw (k := 7) lk hcd sc_Font_set_advances StX.cxUp (by decide +kernel) (by decide) (fun u us hl => match us, hl with | [_, _], _ => rfl) (fun A outer s H vs Q E hr h => okB_Font_set_advances T cdv A outer s H vs Q E (hr.mono (by decide)) h) hr e0 rx r hl hq
theorem okKA_a_Font_set_advances {P : Program} {w : World} {K : PySem.W.Frag} {mg : Str → Option Value} {base : Heap} {a : Ad} (T : Txt P K mg base a) : FnKw P w K mg base (L2.CX P w) 8 a.f_Font_set_advances (["A", "a"] : List Str) (sp_Font_set_advances K a) := by
  obtain ⟨oc, od, kV, doc, pm, an, cdv, ct, osl, e, lk, hcd⟩ := T.F_Font_set_advances.ex
  rw [e] at lk
  exact fun A outer s H u x us vs Q E hr e0 rx r hl hq => fn_kw (k := 7) lk hcd sc_Font_set_advances StX.cxUp (by decide +kernel) (by decide) (fun u us hl => match us, hl with | [_, _], _ => rfl) (fun A outer s H vs Q E hr h => okB_Font_set_advances T cdv A outer s H vs Q E (hr.mono (by decide)) h) hr e0 rx r hl hq
theorem okKab_b_a_Font_set_advances {P : Program} {w : World} {K : PySem.W.Frag} {mg : Str → Option Value} {base : Heap} {a : Ad} (T : Txt P K mg base a) : FnKw P w K mg base (L2.CX P w) 8 a.f_Font_set_advances (["ab", "b", "a"] : List Str) (sp_Font_set_advances K a) := by
  obtain ⟨oc, od, kV, doc, pm, an, cdv, ct, osl, e, lk, hcd⟩ := T.F_Font_set_advances.ex
  rw [e] at lk
  exact fun A outer s H u x us vs Q E hr e0 rx r hl hq => fn_kw (k := 7) lk hcd sc_Font_set_advances StX.cxUp (by decide +kernel) (by decide) (fun u us hl => match us, hl with | [_, _, _], _ => rfl) (fun A outer s H vs Q E hr h => okB_Font_set_advances T cdv A outer s H vs Q E (hr.mono (by decide)) h) hr e0 rx r hl hq
theorem okKa_zz_Font_set_advances {P : Program} {w : World} {K : PySem.W.Frag} {mg : Str → Option Value} {base : Heap} {a : Ad} (T : Txt P K mg base a) : FnKw P w K mg base (L2.CX P w) 8 a.f_Font_set_advances (["a", "zz"] : List Str) (sp_Font_set_advances K a) := by
  obtain ⟨oc, od, kV, doc, pm, an, cdv, ct, osl, e, lk, hcd⟩ := T.F_Font_set_advances.ex
  rw [e] at lk
  exact fun A outer s H u x us vs Q E hr e0 rx r hl hq => fn_kw (k := 7) lk hcd sc_Font_set_advances StX.cxUp (by decide +kernel) (by decide) (fun u us hl => match us, hl with | [_, _], _ => rfl) (fun A outer s H vs Q E hr h => okB_Font_set_advances T cdv A outer s H vs Q E (hr.mono (by decide)) h) hr e0 rx r hl hq

def sp_Font_init (K : PySem.W.Frag) (a : Ad) : Sp := sp4 fun s x kr bl H Q E => ∃ (p dx d : Addr) (es : List (Str × V)) (n : Int), s = .ref p ∧ x = .ref d ∧ (kr = .non ∨ ∃ q, kr = .ref q ∧ H q = some (.dK [])) ∧ bl = .int n ∧ H p = some (.ins a.C_Font dx []) ∧ H d = some (.dK (encV es)) ∧ (es.map (·.1)).Nodup ∧ es.length ≤ 500 ∧ (∀ x ∈ es, x.1.length ≤ sizeLine) ∧ (∀ x ∈ es, ∀ H', IsI K H' x.2 (isIntV x.2)) ∧ 0 ≤ n ∧ n ≤ 1000000 ∧ Tab a H ∧
  match runPA es ((es.map (·.1)).mergeSort rankLe) [] with
  | .error e => raiseFB a [p] H E e
  | .ok r => ∀ H' ro pr pa, Fr [p] H H' → Tab a H' → FontAt a H' p dx ro pr pa r n → H' pa = some (.lst []) → New H ro → New H pr → New H pa → Q .non H'
theorem ok_Font_init {P : Program} {w : World} {K : PySem.W.Frag} {mg : Str → Option Value} {base : Heap} {a : Ad} (T : Txt P K mg base a) : FnOk P w K mg base (L2.CX P w) 7 a.f_Font_init a.d_Font_init (["self", "advances", "kerns", "blank"] : List Str) (sp_Font_init K a) := by
  refine T.F_Font_init.ok sc_Font_init (fun vs H Q E h => sp4_len h) (fun cdv A outer s H vs Q E hr h => ?_)
  have hu := hu_of hr
  refine ⟨_, (pss_cons (ps_fld (pv 0) pe_dnewK rfl)
      (pss_cons (ps_fld (pv 0) pe_dnewK rfl)
      (pss_cons (ps_fld (pv 0) pe_int rfl)
      (pss_cons (ps_fld (pv 0) (pe_lst pa_nil) rfl)
      (pss_cons (ps_expr (pe_mtS (pv 0) T.c_Font T.M_Font_put_blank (ok_Font_put_blank T) (hr.mono (by decide)) T.B_Font_put_blank .nil (fun σ => passAt (takes_of rfl rfl rfl rfl) σ) (pa_cons (pv 3) pa_nil)))
      (pss_cons (ps_for PassesOwn.leaving rfl (pi_list (pe_call (ok_font_order T) (hr.mono (by decide)) rfl T.g_font_order T.k_font_order T.B_font_order .nil pass0 (pa_cons (pv 1) pa_nil))) (pg_name (i := 4) sc_Font_init.nd rfl (Or.inl rfl)) (pss_one (ps_expr (pe_mtS (pv 0) T.c_Font T.M_Font_put_advance (ok_Font_put_advance T) (hr.mono (by decide)) T.B_Font_put_advance .nil (fun σ => passAt (takes_of rfl rfl rfl rfl) σ) (pa_cons (pv 4) (pa_cons (pe_dget hu (pv 1) (pv 4) (fun _ _ => rfl)) pa_nil))))))
      (pss_one (ps_if (pt_cmpR qo_notN (pv 2) pe_non (nomark _)) (pss_one (ps_for PassesOwn.leaving rfl (pi_list (pe_callB (cr_sortStr (units64 hr)) (by rfl) T.n_sorted bb_sorted (pa_cons (pe_callTy (call_listD rfl) (by rfl) T.n_list bb_list (pa_cons (pv 2) pa_nil)) pa_nil))) (pg_name (i := 5) sc_Font_init.nd rfl (Or.inl rfl)) (pss_one ps_never))) pss_nil)))))))), ?_⟩
  try dsimp only [L2.cxOf]
  obtain ⟨s0, x, kr, bl, rfl, p, dx, d, es, n, rfl, rfl, hkr, rfl, hp, hd, nd, hlen, hnm, hI, n0, n1, tb, k⟩ := h
  rw [show L2.start (["self", "advances", "kerns", "blank", "glyph", "pair"] : List Str) [(.ref p), (.ref d), kr, (.int n)] = ([some ((.ref p)), some ((.ref d)), some (kr), some ((.int n)), none, none] : L2.St) from rfl]
  walk_at "w"
  intro ro nro
  walk_at "w"
  refine ⟨p, _, dx, _, rfl, upd_old hp nro, T.c_Font, T.na_Font_rows, by decide, ?_⟩
  walk_at "w"
  intro pr npr
  obtain ⟨d1, npr1⟩ := none_of npr
  obtain ⟨d2, npr2⟩ := none_of npr1
  walk_at "w"
  refine ⟨p, _, dx, _, rfl, upd_old upd_same npr, T.c_Font, T.na_Font_pairs, by show 1 < 1000; decide, ?_⟩
  walk_at "w"
  refine ⟨p, _, dx, _, rfl, upd_same, T.c_Font, T.na_Font_space, by rw [ff_put1, ff_put2]; show 2 < 1000; decide, ?_⟩
  rw [ff_put1, ff_put2, ff_put3]
  walk_at "w"
  refine ⟨by decide, fun pa npa => ?_⟩
  obtain ⟨d3, npa1⟩ := none_of npa
  obtain ⟨_, npa2⟩ := none_of npa1
  obtain ⟨d4, npa3⟩ := none_of npa2
  obtain ⟨_, npa4⟩ := none_of npa3
  obtain ⟨d5, npa5⟩ := none_of npa4
  walk_at "w"
  refine ⟨p, _, dx, _, rfl, upd_old upd_same npa, T.c_Font, T.na_Font_past, by show 3 < 1000; decide, ?_⟩
  rw [ff_put4]
  walk_at "w"
  refine ⟨p, dx, _, rfl, upd_same, ff_no (by decide +kernel), ?_⟩
  walk_at "w"
  refine ⟨_, _, rfl, p, dx, _, true, rfl, upd_same, by show 4 < 1000; decide, isI_int n, (fun z => by cases z), fun _ => ⟨n, rfl, fun _ => ?_, fun z => absurd ⟨n0, n1⟩ z⟩⟩
  rw [ff_put, upd_upd]
  -- the empty font
  have nep : ro ≠ p := fun z => by rw [z, hp] at nro; cases nro
  have F0 : FontAt a (upd (upd (upd (upd (upd (upd (upd H ro (.dK [])) p (.ins a.C_Font dx [("rows", .ref ro)])) pr (.dK [])) p (.ins a.C_Font dx [("rows", .ref ro), ("pairs", .ref pr)])) p (.ins a.C_Font dx [("rows", .ref ro), ("pairs", .ref pr), ("space", .int 0)])) pa (.lst [])) p (.ins a.C_Font dx (ffields ro pr pa n))) p dx ro pr pa [] n :=
    ⟨upd_same, by rw [upd_ne nep, upd_ne (Ne.symm d5), upd_ne nep, upd_ne nep, upd_ne (Ne.symm d2), upd_ne nep, upd_same]; rfl, by rw [upd_ne d1, upd_ne (Ne.symm d4), upd_ne d1, upd_ne d1, upd_same], Ne.symm d2⟩
  have A0 : (upd (upd (upd (upd (upd (upd (upd H ro (.dK [])) p (.ins a.C_Font dx [("rows", .ref ro)])) pr (.dK [])) p (.ins a.C_Font dx [("rows", .ref ro), ("pairs", .ref pr)])) p (.ins a.C_Font dx [("rows", .ref ro), ("pairs", .ref pr), ("space", .int 0)])) pa (.lst [])) p (.ins a.C_Font dx (ffields ro pr pa n))) pa = some (.lst []) := by rw [upd_ne d3, upd_same]
  have R0 : Fr [p] H (upd (upd (upd (upd (upd (upd (upd H ro (.dK [])) p (.ins a.C_Font dx [("rows", .ref ro)])) pr (.dK [])) p (.ins a.C_Font dx [("rows", .ref ro), ("pairs", .ref pr)])) p (.ins a.C_Font dx [("rows", .ref ro), ("pairs", .ref pr), ("space", .int 0)])) pa (.lst [])) p (.ins a.C_Font dx (ffields ro pr pa n))) :=
    (((((((Fr.refl.new nro).upd (by simp)).new npr).upd (by simp)).upd (by simp)).new npa).upd (by simp))
  have T0 : Tab a (upd (upd (upd (upd (upd (upd (upd H ro (.dK [])) p (.ins a.C_Font dx [("rows", .ref ro)])) pr (.dK [])) p (.ins a.C_Font dx [("rows", .ref ro), ("pairs", .ref pr)])) p (.ins a.C_Font dx [("rows", .ref ro), ("pairs", .ref pr), ("space", .int 0)])) pa (.lst [])) p (.ins a.C_Font dx (ffields ro pr pa n))) :=
    Tab.upd (Tab.new (Tab.upd (Tab.upd (Tab.new (Tab.upd (Tab.new tb nro) (upd_old hp nro) trivial) npr) (upd_old upd_same npr) trivial) upd_same trivial) npa) (upd_old upd_same npa) trivial
  generalize (upd (upd (upd (upd (upd (upd (upd H ro (.dK [])) p (.ins a.C_Font dx [("rows", .ref ro)])) pr (.dK [])) p (.ins a.C_Font dx [("rows", .ref ro), ("pairs", .ref pr)])) p (.ins a.C_Font dx [("rows", .ref ro), ("pairs", .ref pr), ("space", .int 0)])) pa (.lst [])) p (.ins a.C_Font dx (ffields ro pr pa n))) = H5 at F0 A0 R0 T0 ⊢
  clear npr npr1 npa npa1 npa2 npa3 npa4
  have hdp : d ∉ [p] := by
    simp
    exact ne_of hd hp (by intro z; cases z)
  have hd5 := R0 _ _ hd trivial hdp
  walk_at "w"
  refine ⟨_, rfl, d, es.map (·.1), rfl, .inr ⟨_, hd5, keys_encV es⟩, by rw [List.length_map]; omega, fun z hz => ?_, T0, fun H6 l x6 t6 n6 e6 => ?_⟩
  · obtain ⟨y, hy, rfl⟩ := List.mem_map.mp hz
    exact hnm y hy
  have hmem : ∀ g, g ∈ (es.map (·.1)).mergeSort rankLe → g ∈ es.map (·.1) := fun g hg => (List.mergeSort_perm _ _).mem_iff.mp hg
  generalize hord : (es.map (·.1)).mergeSort rankLe = ord at k e6 hmem
  have hol : ord.length ≤ 500 := by
    rw [← hord, List.length_mergeSort, List.length_map]
    exact hlen
  have F6 := F0.ex x6
  have ron : ro ∉ [p] := by simp; exact nep
  have lro : l ≠ ro := fun z => n6 (.dK (encR [])) (by rw [z]; exact F0.row) trivial
  have frP : ∀ H', Fr [ro] H6 H' → Fr [p] H H' := fun H' R7 b o hb nt nb => R7 _ _ (x6 _ _ (R0 b o hb nt nb) nt) nt (by simp; exact fun z => by rw [z, nro] at hb; cases hb)
  refine ⟨l, rfl, ⟨_, SqL.of e6⟩, turnsW (walk_list (xs := ord.map V.str)) (fun i σ' H' => ∃ r, runPA es (ord.take i) [] = .ok r ∧ FontAt a H' p dx ro pr pa r n ∧ Fr [ro] H6 H' ∧ Tab a H' ∧ r.length ≤ i ∧ (∀ x ∈ r, x.1.length ≤ sizeLine) ∧ ∃ g0, σ' = [some (.ref p), some (.ref d), some kr, some (.int n), g0, none]) ⟨[], rfl, F6, Fr.refl, t6, by simp, by simp, _, rfl⟩ ?_ ?_ ?_⟩
  · rintro i σ' H' _ ⟨r, _, _, R, _⟩
    exact SqL.of (R _ _ e6 trivial (by simp; exact lro))
  · rintro i x σ' H7 H' hi ⟨r, er, F7, R7, t7, lr, nr, g0, rfl⟩ ⟨rfl, hx⟩
    rw [List.getElem?_map] at hx
    obtain ⟨g, hg, rfl⟩ := Option.map_eq_some_iff.mp hx
    obtain ⟨v, hv⟩ : ∃ v, getR es g = some v := Option.isSome_iff_exists.mp (getR_mem.mpr (hmem g (List.mem_of_getElem? hg)))
    obtain ⟨⟨g', v'⟩, hm, e1, e2⟩ : ∃ y ∈ es, y.1 = g ∧ y.2 = v := by
      unfold getR at hv
      obtain ⟨y, h1, h2⟩ := Option.map_eq_some_iff.mp hv
      exact ⟨y, List.mem_of_find?_eq_some h1, by simpa using List.find?_some h1, h2⟩
    dsimp only at e1 e2
    subst e1 e2
    have hd7 : H' d = some (.dK (encV es)) := R7 _ _ (x6 _ _ hd5 trivial) trivial (by simp; exact fun z => absurd (by rw [z, nro] at hd; exact hd) (by intro z; cases z))
    have dg : DGet H' d (.str g') (some v') := by
      have h := DGet.k (k := (Sum.inr g' : L2.Key)) hd7
      rw [val_encV, hv] at h
      exact h
    have hi5 : i < 500 := by
      rw [List.length_map] at hi
      omega
    have split1 : ord = ord.take i ++ g' :: ord.drop (i + 1) := by
      obtain ⟨hi', e⟩ := List.getElem?_eq_some_iff.mp hg
      rw [← e, ← List.drop_eq_getElem_cons, List.take_append_drop]
    walk_at "w"
    refine ⟨p, dx, _, rfl, F7.ins, ff_no (by decide +kernel), ?_⟩
    walk_at "w"
    refine ⟨d, v', rfl, dg, ?_⟩
    walk_at "w"
    refine ⟨_, _, _, rfl, p, dx, ro, pr, pa, r, n, g', rfl, rfl, F7, by omega, nr, hnm _ hm, hI _ hm _, t7, ?_⟩
    cases q : paRes r g' v' with
    | error e =>
      have er2 : runPA es ord [] = .error e := by
        rw [split1, runPA_app er, runPA_er (by rw [hv]; exact q)]
      rw [er2] at k
      exact raiseFB.at k (frP _ R7)
    | ok r' =>
      obtain ⟨m, rfl, rfl, _, _⟩ := paRes_put q
      refine fun H8 x8 t8 => ?_
      walk_at "w"
      refine ⟨putR r g' m, ?_, (F7.ex x8).put _, (R7.trans (Fr.of x8)).upd (by simp), Tab.upd t8 (F7.ex x8).row trivial, ?_, putR_names (P := fun z => z.length ≤ sizeLine) nr (hnm _ hm), _, rfl⟩
      · rw [List.take_add_one, hg, runPA_app er]
        show runPA es [g'] r = _
        rw [runPA_ok (by rw [hv]; exact q)]
        rfl
      · have := putR_len (r := r) (z := g') (n := m)
        omega
  · rintro σ' H7 ⟨r, er, F7, R7, t7, lr, nr, g0, rfl⟩
    rw [List.length_map, List.take_length] at er
    rw [er] at k
    have hpa := R7 _ _ (x6 _ _ A0 trivial) trivial (by simp; exact d5)
    rcases hkr with rfl | ⟨q, rfl, hq⟩
    · walk_at "w"
      refine it_npos rfl ?_
      walk_at "w"
      exact k H7 ro pr pa (frP _ R7) t7 F7 hpa (New.of nro) (New.of npr2) (New.of npa5)
    · have hq7 : H7 q = some (.dK []) := frP _ R7 _ _ hq trivial (by simp; exact ne_of hq hp (by intro z; cases z))
      walk_at "w"
      refine it_nneg (fun z => nomatch z) ?_
      walk_at "w"
      refine ⟨q, [], rfl, .inl hq7, fun l1 nl1 => ?_⟩
      walk_at "w"
      refine ⟨l1, [], rfl, SqL.of upd_same, fun l2 nl2 => ?_⟩
      have x8 : Ex H7 (upd (upd H7 l1 (.lst (List.map (fun kv : L2.Key × V => kV kv.1) []))) l2 (.lst (([] : List Str).mergeSort strLe |>.map V.str))) := (Ex.new nl1).trans (Ex.new nl2)
      have t8 : Tab a (upd (upd H7 l1 (.lst (List.map (fun kv : L2.Key × V => kV kv.1) []))) l2 (.lst (([] : List Str).mergeSort strLe |>.map V.str))) := Tab.new (Tab.new t7 nl1) nl2
      have s8 : (upd (upd H7 l1 (.lst (List.map (fun kv : L2.Key × V => kV kv.1) []))) l2 (.lst (([] : List Str).mergeSort strLe |>.map V.str))) l2 = some (.lst []) := by rw [upd_same, List.mergeSort_nil]; rfl
      generalize (upd (upd H7 l1 (.lst (List.map (fun kv : L2.Key × V => kV kv.1) []))) l2 (.lst (([] : List Str).mergeSort strLe |>.map V.str))) = H8 at x8 t8 s8 ⊢
      refine ⟨l2, rfl, ⟨_, SqL.of s8⟩, turnsW (walk_list (xs := [])) (fun i σ' H' => H' = H8) rfl (fun i σ' H' _ e => by rw [e]; exact SqL.of s8) ?_ ?_⟩
      · rintro i x σ' H3 H' hi
        exact absurd hi (by simp)
      · rintro σ' H9 rfl
        exact k _ ro pr pa ((frP _ R7).trans (Fr.of x8)) t8 (F7.ex x8) (x8 _ _ hpa trivial) (New.of nro) (New.of npr2) (New.of npa5)

theorem pick {ls : List Str} {r : Int} (h0 : 0 ≤ r) (h1 : r < ls.length) : ∃ s ∈ ls, atI (ls.map V.str) r = some (V.str s) := by
  obtain ⟨v, e, m⟩ := atI_mem (xs := ls.map V.str) h0 (by rw [List.length_map]; exact h1)
  obtain ⟨s, hs, rfl⟩ := List.mem_map.mp m
  exact ⟨s, hs, e⟩
theorem cps_app (x y : Str) : (x ++ y).cps.toList = x.cps.toList ++ y.cps.toList := by
  show (x.cps ++ y.cps).toList = _
  simp
theorem len_cps (x : Str) : x.length = x.cps.toList.length := by simp [Str.length]
theorem lenA (x y : Str) : (x ++ y).length = x.length + y.length := by rw [len_cps, cps_app, List.length_append, ← len_cps, ← len_cps]

def evenR (z : Str) (n : Int) : Rows := z.cps.toList.foldl (fun r c => putR r (one c) n) []
theorem fold_len (n : Int) : ∀ (cs : List Nat) (r : Rows), (cs.foldl (fun r c => putR r (one c) n) r).length ≤ r.length + cs.length
  | [], r => by simp
  | c :: cs, r => by
    have h1 := fold_len n cs (putR r (one c) n)
    have h2 := putR_len (r := r) (z := one c) (n := n)
    rw [List.foldl_cons, List.length_cons]
    omega
theorem putR_nodup {r : Rows} {g : Str} {n : Int} (h : (r.map (·.1)).Nodup) : ((putR r g n).map (·.1)).Nodup := by
  rw [keys_put]
  split
  · exact h
  · rename_i c
    exact List.nodup_append.mpr ⟨h, by simp, fun x hx y hy e => c (by rw [← List.mem_singleton.mp hy, ← e]; exact hx)⟩
theorem fold_nodup (n : Int) : ∀ (cs : List Nat) (r : Rows), (r.map (·.1)).Nodup → ((cs.foldl (fun r c => putR r (one c) n) r).map (·.1)).Nodup
  | [], r, h => h
  | c :: cs, r, h => fold_nodup n cs _ (putR_nodup h)
theorem fold_names (n : Int) {P : Str → Prop} : ∀ (cs : List Nat) (r : Rows), (∀ x ∈ r, P x.1) → (∀ c ∈ cs, P (one c)) → ∀ x ∈ cs.foldl (fun r c => putR r (one c) n) r, P x.1
  | [], r, h, _ => h
  | c :: cs, r, h, hc => fold_names n cs _ (putR_names h (hc c List.mem_cons_self)) fun c' h' => hc c' (List.mem_cons_of_mem _ h')
def sp_Font_even (K : PySem.W.Frag) (a : Ad) : Sp := sp4 fun c l ad bl H Q _ => ∃ (z : Str) (n b : Int) (r' : Rows), c = .ref a.C_Font ∧ l = .str z ∧ ad = .int n ∧ bl = .int b ∧ z.length ≤ 50 ∧ 0 ≤ b ∧ b ≤ 1000000 ∧ Tab a H ∧ runPA ((evenR z n).map fun x => (x.1, V.int x.2)) (((evenR z n).map (·.1)).mergeSort rankLe) [] = .ok r' ∧
  ∀ H' p dx ro pr pa, Ex H H' → Tab a H' → FontAt a H' p dx ro pr pa r' b → H' pa = some (.lst []) → New H p → New H ro → New H pr → New H pa → Q (.ref p) H'
theorem ok_Font_even {P : Program} {w : World} {K : PySem.W.Frag} {mg : Str → Option Value} {base : Heap} {a : Ad} (T : Txt P K mg base a) : FnOk P w K mg base (L2.CX P w) 9 a.f_Font_even a.d_Font_even (["cls", "letters", "advance", "blank"] : List Str) (sp_Font_even K a) := by
  refine T.F_Font_even.ok sc_Font_even (fun vs H Q E h => sp4_len h) (fun cdv A outer s H vs Q E hr h => ?_)
  have hu := hu_of hr
  refine ⟨_, (pss_one (ps_ret (pe_mkKL (i := 0) T.M_Font (ok_Font_init T) (hr.mono (by decide)) rfl (Or.inl rfl) T.KB1_blank_Font_init (fun σ => passAt (takes_of rfl rfl rfl rfl) σ) (pa_cons (pe_dc (own := [("letter", 4)]) (g := gName 4) (tt := tYes) (by rfl) sc_Font_even.nd (pi_str (pv 1)) (blkOk_by (own := [("letter", 4)]) (N := ["cls", "letters", "advance", "blank", "letter"]) (sc := defScope s_Font_even) (by decide +kernel)) (fun _ _ _ _ _ => (pg_name (i := 4) sc_Font_even.nd rfl (Or.inl rfl))) (fun _ _ _ _ _ => pts_nil) (fun _ _ _ _ _ => (pv 4)) (fun _ _ _ _ _ => (pv 2))) pa_nil) (pk_cons (pv 3) pk_nil)))), ?_⟩
  try dsimp only [L2.cxOf]
  obtain ⟨c, l, ad, bl, rfl, z, n, b, r', rfl, rfl, rfl, rfl, hz, b0, b1, tb, hrun, k⟩ := h
  rw [show L2.start (["cls", "letters", "advance", "blank", "letter"] : List Str) [(.ref a.C_Font), (.str z), (.int n), (.int b)] = ([some ((.ref a.C_Font)), some ((.str z)), some ((.int n)), some ((.int b)), none] : L2.St) from rfl]
  have sz : sizeLine = 16777216 := by decide
  have zl : z.cps.toList.length ≤ 50 := by rw [← len_cps]; exact hz
  walk_at "w"
  refine ⟨z, rfl, dcsW walk_str (fun D i H' => H D = none ∧ H' = upd H D (.dK (encR ((z.cps.toList.take i).foldl (fun r c => putR r (one c) n) [])))) (fun D hD => ⟨hD, rfl⟩) (fun _ _ _ _ _ => trivial) ?_ ?_⟩
  · rintro D i x H1 H' hi ⟨hD, rfl⟩ ⟨rfl, c, hc, rfl⟩
    have hc' : z.cps.toList[i]? = some c := by rw [Array.getElem?_toList]; exact hc
    walk_at "w"
    refine ⟨rfl, ?_⟩
    walk_at "w"
    refine ⟨_, Sum.inr (one c), rfl, upd_same, ?_, hD, ?_⟩
    · have h1 := fold_len n (z.cps.toList.take i) []
      rw [List.length_take] at h1
      simp only [encR, List.length_map]
      rw [sz]
      rw [List.length_nil, Nat.zero_add] at h1
      exact Nat.lt_of_le_of_lt h1 (by omega)
    · rw [upd_upd, put_encR, List.take_add_one, hc', List.foldl_append]
      rfl
  · rintro D H' ⟨hD, rfl⟩
    rw [show z.cps.toList.take z.cps.size = z.cps.toList from List.take_of_length_le (by simp)]
    walk_at "w"
    refine ⟨rfl, rfl, fun z0 dz nz ndz nzz => ?_⟩
    have nz2 : ∀ o, upd (upd H D o) dz (.own z0) z0 = none ∨ True := fun _ => .inr trivial
    generalize hH1 : upd H D (.dK (encR (z.cps.toList.foldl (fun r c => putR r (one c) n) []))) = H1 at nz ndz
    have eD : H1 D = some (.dK (encR (evenR z n))) := by rw [← hH1]; exact upd_same
    have x1 : Ex H H1 := by rw [← hH1]; exact Ex.new hD
    have t1 : Tab a H1 := by rw [← hH1]; exact Tab.new tb hD
    clear nz2
    have nz2 : upd H1 dz (.own z0) z0 = none := by rw [upd_ne (Ne.symm nzz)]; exact nz
    have x2 : Ex H1 (upd (upd H1 dz (.own z0)) z0 (.ins a.C_Font dz [])) := (Ex.new ndz).trans (Ex.new nz2)
    have t2 : Tab a (upd (upd H1 dz (.own z0)) z0 (.ins a.C_Font dz [])) := Tab.new (Tab.new t1 ndz) nz2
    have kk : ((evenR z n).map fun x => (x.1, V.int x.2)).map (·.1) = (evenR z n).map (·.1) := by simp
    have hr2 := x2 _ _ eD trivial
    rw [encR_V] at hr2
    have nHz : New H z0 := New.back (New.of nz) x1
    refine ⟨_, _, _, _, rfl, z0, dz, D, (evenR z n).map fun x => (x.1, V.int x.2), b, rfl, rfl, .inl rfl, rfl, upd_same, hr2, by rw [kk]; exact fold_nodup n _ [] (by simp), ?_, fun x hx => ?_, fun x hx H' => ?_, b0, b1, t2, ?_⟩
    · have h1 := fold_len n z.cps.toList []
      rw [List.length_map]
      unfold evenR
      rw [List.length_nil, Nat.zero_add] at h1
      exact Nat.le_trans h1 (by omega)
    · obtain ⟨y, hy, rfl⟩ := List.mem_map.mp hx
      exact fold_names (P := fun z => z.length ≤ sizeLine) n _ [] (by simp) (fun c _ => by show 1 ≤ sizeLine; decide) y hy
    · obtain ⟨y, hy, rfl⟩ := List.mem_map.mp hx
      exact isI_int _
    · rw [kk, hrun]
      intro H' ro' pr' pa' R t3 F3 hp3 w1 w2 w3
      have x3 : Ex H H' := fun w o hb nt => R w o (x2 _ _ (x1 _ _ hb nt) nt) nt (by simp; exact ne_of_none (x1 _ _ hb nt) nz)
      exact ⟨rfl, k H' z0 dz ro' pr' pa' x3 t3 F3 hp3 nHz (New.back w1 (x1.trans x2)) (New.back w2 (x1.trans x2)) (New.back w3 (x1.trans x2))⟩

/-- the law's bag of draws at b -/
def bagL (it : Addr) (p r s c : Int) : List V := [.ref it, .int p, .int r, .int s, .int c]
structure BagAt (H : Hp) (b it : Addr) : Prop where
  ex : ∃ (ns : List Int) (p r s c : Int), H b = some (.lst (bagL it p r s c)) ∧ H it = some (.lst (ns.map V.int)) ∧ b ≠ it ∧ 0 ≤ p ∧ 0 ≤ s ∧ s < 2147483647
theorem BagAt.lst {H : Hp} {b it : Addr} (B : BagAt H b it) : ∃ xs, H b = some (.lst xs) := by
  obtain ⟨ns, p, r, s, c, h, _⟩ := B.ex
  exact ⟨_, h⟩
theorem BagAt.same {H H' : Hp} {b it : Addr} (B : BagAt H b it) (s : Same H H') : BagAt H' b it := by
  obtain ⟨ns, p, r, s', c, h1, h2, h3⟩ := B.ex
  exact ⟨ns, p, r, s', c, s _ _ h1, s _ _ h2, h3⟩
theorem BagAt.put {H : Hp} {b it : Addr} {ns : List Int} {p r s c : Int} (h2 : H it = some (.lst (ns.map V.int))) (hb : b ≠ it) (hp : 0 ≤ p) (hs : 0 ≤ s) (hs2 : s < 2147483647) : BagAt (upd H b (.lst (bagL it p r s c))) b it :=
  ⟨ns, p, r, s, c, upd_same, by rw [upd_ne (Ne.symm hb)]; exact h2, hb, hp, hs, hs2⟩

def sp_law_bag (K : PySem.W.Frag) (a : Ad) : Sp := sp1 fun x H Q _ => ∃ (s : Addr) (ns : List Int), x = .ref s ∧ SqL K H s (ns.map V.int) ∧ ∀ b it H', H b = none → H it = none → Same H H' → BagAt H' b it → Q (.ref b) H'
theorem ok_law_bag {P : Program} {w : World} {K : PySem.W.Frag} {mg : Str → Option Value} {base : Heap} {a : Ad} (T : Txt P K mg base a) : FnOk P w K mg base CX0 1 a.f_law_bag a.d_law_bag (["_law_script"] : List Str) (sp_law_bag K a) := by
  refine T.F_law_bag.ok sc_law_bag (fun vs H Q E h => sp1_len h) (fun cdv A outer s H vs Q E hr h => ?_)
  have hu := hu_of hr
  refine ⟨_, (pss_one (ps_ret (pe_lst (pa_cons (pe_callTy qc_list (by rfl) T.n_list bb_list (pa_cons (pe_slice sl_list (pv 0) po_none (po_some pe_int)) pa_nil)) (pa_cons pe_int (pa_cons pe_int (pa_cons pe_int (pa_cons pe_int pa_nil)))))))), ?_⟩
  try dsimp only [L2.cxOf]
  obtain ⟨x, rfl, s0, ns, rfl, hS, k⟩ := h
  rw [show L2.start (["_law_script"] : List Str) [(.ref s0)] = ([some ((.ref s0))] : L2.St) from rfl]
  walk_at "w"
  refine w_slL hS fun p1 n1 => ?_
  walk_at "w"
  refine w_listS (SqL.of upd_same) fun p2 n2 => ?_
  walk_at "w"
  refine ⟨by show 5 ≤ sizeLine; decide, fun b n3 => ?_⟩
  have z1 : H p2 = none := (Same.new (o := .lst (cutV (ns.map V.int) none (some 63))) n1).free n2
  have z2 : (upd H p1 (.lst (cutV (ns.map V.int) none (some 63)))) b = none := (Same.new n2).free n3
  have z3 : H b = none := (Same.new n1).free z2
  have e2 : b ≠ p2 := fun z => by
    rw [z, upd_same] at n3
    cases n3
  refine k b p2 _ z3 z1 (Same.upd (Same.upd (Same.new n1) z1) z3) ?_
  obtain ⟨ms, em⟩ : ∃ ms : List Int, cutV (ns.map V.int) none (some 63) = ms.map V.int := by
    unfold cutV
    rw [← List.map_drop, ← List.map_take]
    exact ⟨_, rfl⟩
  rw [em]
  exact BagAt.put upd_same e2 (by decide) (by decide) (by decide)

def sp_law_take (K : PySem.W.Frag) (a : Ad) : Sp := sp2 fun x y H Q _ => ∃ (b it : Addr) (n : Int), x = .ref b ∧ y = .int n ∧ BagAt H b it ∧ 0 < n ∧ n.natAbs < 2 ^ 8000 ∧ ∀ r H', 0 ≤ r → r < n → BagAt H' b it → (∀ c, c ≠ b → H' c = H c) → Q (.int r) H'
theorem ok_law_take {P : Program} {w : World} {K : PySem.W.Frag} {mg : Str → Option Value} {base : Heap} {a : Ad} (T : Txt P K mg base a) : FnOk P w K mg base CX0 1 a.f_law_take a.d_law_take (["_law_bag_here", "_law_size"] : List Str) (sp_law_take K a) := by
  refine T.F_law_take.ok sc_law_take (fun vs H Q E h => sp2_len h) (fun cdv A outer s H vs Q E hr h => ?_)
  have hu := hu_of hr
  refine ⟨_, (pss_cons (ps_if (pt_cmpR op_ge (pe_ix ix_list (pv 0) pe_int (fun _ _ => rfl)) (pe_op op_pow pe_int pe_int) (nomark _)) (pss_cons (ps_set (i := 2) sc_law_take.nd rfl (Or.inl rfl) (pe_op op_mod (pe_callTy qc_int1 (by rfl) T.n_int bb_int (pa_cons (pe_ix ix_list (pv 0) pe_int (fun _ _ => rfl)) pa_nil)) (pv 1)))
      (pss_cons (ps_asg (pe_op op_fdivX (pe_ix ix_list (pv 0) pe_int (fun _ _ => rfl)) (pv 1)) (pg_sub (pv 0) pe_int set_list))
      (pss_one (ps_ret (pv 2))))) pss_nil)
      (pss_cons (ps_set (i := 3) sc_law_take.nd rfl (Or.inl rfl) pe_int)
      (Evl.pss_cut (ps_if (pt_cmpR op_lt (pe_ix ix_list (pv 0) pe_int (fun _ _ => rfl)) (pe_callB qc_len (by rfl) T.n_len bb_len (pa_cons (pe_ix ix_list (pv 0) pe_int (fun _ _ => rfl)) pa_nil)) (nomark _)) (pss_cons (ps_set (i := 3) sc_law_take.nd rfl (Or.inl rfl) (pe_ix ix_list (pe_ix ix_list (pv 0) pe_int (fun _ _ => rfl)) (pe_ix ix_list (pv 0) pe_int (fun _ _ => rfl)) (fun _ _ => rfl)))
      (pss_one (ps_asg (pe_op op_add (pe_ix ix_list (pv 0) pe_int (fun _ _ => rfl)) pe_int) (pg_sub (pv 0) pe_int set_list)))) pss_nil)
      (pss_cons (ps_if (pt_cmpR op_ge (pv 3) (pe_op op_pow pe_int pe_int) (nomark _)) (pss_cons (ps_asg (pe_op op_fdivX (pv 3) (pv 1)) (pg_sub (pv 0) pe_int set_list))
      (pss_one (ps_ret (pe_op op_mod (pe_callTy qc_int1 (by rfl) T.n_int bb_int (pa_cons (pv 3) pa_nil)) (pv 1))))) pss_nil)
      (pss_cons (ps_asg (pe_op op_add (pe_ix ix_list (pv 0) pe_int (fun _ _ => rfl)) pe_int) (pg_sub (pv 0) pe_int set_list))
      (pss_cons (ps_asg (pe_op op_mod (pe_callTy qc_int1 (by rfl) T.n_int bb_int (pa_cons (pe_op op_add (pe_op op_add (pe_op op_mul (pe_ix ix_list (pv 0) pe_int (fun _ _ => rfl)) pe_int) (pv 3)) (pe_op op_mul (pe_ix ix_list (pv 0) pe_int (fun _ _ => rfl)) pe_int)) pa_nil)) pe_int) (pg_sub (pv 0) pe_int set_list))
      (pss_one (ps_ret (pe_op op_mod (pe_op op_fdivX (pe_op op_mod (pe_callTy qc_int1 (by rfl) T.n_int bb_int (pa_cons (pe_op op_mul (pe_ix ix_list (pv 0) pe_int (fun _ _ => rfl)) (pe_ix ix_list (pv 0) pe_int (fun _ _ => rfl))) pa_nil)) pe_int) pe_int) (pv 1)))))))))), ?_⟩
  try dsimp only [L2.cxOf]
  obtain ⟨x, y, rfl, b, it, n, rfl, rfl, B, hn, hz, k⟩ := h
  obtain ⟨ns, p, r, s0, c, hb, hit, hne, hp, hs, hs2⟩ := B.ex
  have dn : ∀ i, CDivX i n := fun i => divX (by omega) hz (by decide) (by decide)
  have mn : ∀ i : Int, 0 ≤ i % n ∧ i % n < n := fun i => ⟨Int.emod_nonneg _ (by omega), Int.emod_lt_of_pos _ hn⟩
  have fr : ∀ (o : HO) (c : Addr), c ≠ b → upd H b o c = H c := fun o c z => upd_ne z
  rw [show L2.start (["_law_bag_here", "_law_size", "_law_digit", "_law_cell"] : List Str) [(.ref b), (.int n)] = ([some ((.ref b)), some ((.int n)), none, none] : L2.St) from rfl]
  walk_at "w"
  refine it_dec (fun c1 => ?_) (fun c1 => ?_)
  · walk_at "w"
    exact k _ _ (mn r).1 (mn r).2 (BagAt.put hit hne hp hs hs2) (fr _)
  · walk_at "w"
    refine ⟨fun σ' H' => ∃ cell p', σ' = [some (.ref b), some (.int n), none, some (.int cell)] ∧ 0 ≤ p' ∧ H' b = some (.lst (bagL it p' r s0 c)) ∧ ∀ z, z ≠ b → H' z = H z, ?_, ?_⟩
    · walk_at "w"
      refine it_dec (fun c2 => ?_) (fun c2 => ?_)
      · walk_at "w"
        obtain ⟨j, rfl⟩ := Int.eq_ofNat_of_zero_le hp
        rw [List.length_map] at c2
        have hj : j < ns.length := Int.ofNat_lt.mp c2
        refine w_ix (SqL.of hit) (at_of (j := j) rfl (by rw [List.getElem?_map, List.getElem?_eq_getElem hj]; rfl)) ?_
        walk_at "w"
        exact ⟨_, (j : Int) + 1, rfl, by omega, upd_same, fun z hz => upd_ne hz⟩
      · walk_at "w"
        exact ⟨0, p, rfl, hp, hb, fun _ _ => rfl⟩
    · rintro σ' H' ⟨cell, p', rfl, hp', hb', fr'⟩
      have hit' : H' it = some (.lst (ns.map V.int)) := (fr' it (Ne.symm hne)).trans hit
      walk_at "w"
      refine it_dec (fun c3 => ?_) (fun c3 => ?_)
      · walk_at "w"
        exact k _ _ (mn _).1 (mn _).2 (BagAt.put hit' hne hp' hs hs2) fun z hz => (upd_ne hz).trans (fr' z hz)
      · have q0 := Int.emod_nonneg (s0 * 48271 + cell + (c + 1) * 69621) (show (2147483647 : Int) ≠ 0 by decide)
        have q1 := Int.emod_lt_of_pos (s0 * 48271 + cell + (c + 1) * 69621) (show (0 : Int) < 2147483647 by decide)
        walk_at "w"
        refine k _ _ (mn _).1 (mn _).2 ?_ fun z hz => ((upd_ne hz).trans (upd_ne hz)).trans (fr' z hz)
        rw [upd_upd]
        exact BagAt.put hit' hne hp' q0 q1

abbrev sp_law_int (K : PySem.W.Frag) (a : Ad) : Sp := sp_isint K
theorem ok_law_int {P : Program} {w : World} {K : PySem.W.Frag} {mg : Str → Option Value} {base : Heap} {a : Ad} (T : Txt P K mg base a) : FnOk P w K mg base CX0 1 a.f_law_int a.d_law_int (["_law_actual"] : List Str) (sp_law_int K a) := by
  refine T.F_law_int.ok sc_law_int (fun vs H Q E h => sp1_len h) (fun cdv A outer s H vs Q E hr h => ?_)
  have hu := hu_of hr
  refine ⟨_, (pss_one (ps_ret (pe_and (pe_callB call_isi (by rfl) T.n_isinstance bb_isinstance (pa_cons (pv 0) (pa_cons (pe_bltn (v := .ty "int") (by rfl) T.n_int bb_int rfl) pa_nil))) (pe_one (pe_not (pe_callB call_isi (by rfl) T.n_isinstance bb_isinstance (pa_cons (pv 0) (pa_cons (pe_bltn (v := .ty "bool") (by rfl) T.n_bool bb_bool rfl) pa_nil)))))))), ?_⟩
  try dsimp only [L2.cxOf]
  obtain ⟨x, rfl, b, ⟨t, b1, b2, ty, k1, k2, rfl⟩, k⟩ := h
  rw [show L2.start (["_law_actual"] : List Str) [x] = ([some (x)] : L2.St) from rfl]
  walk_at "w"
  refine w_isi (.ty "int") ty k1 ?_
  walk_at "w"
  refine it_b (fun e1 => ?_) (fun e1 => ?_)
  · walk_at "w"
    refine w_isi (.ty "bool") ty (k2 e1) ?_
    walk_at "w"
    subst e1
    exact k
  · subst e1
    exact k

/-- a law's helper has drawn from the bag at b -/
structure Drew (a : Ad) (b it : Addr) (H H' : Hp) : Prop where
  bag : BagAt H' b it
  fr : Fr [b] H H'
  tab : Tab a H → Tab a H'
theorem Tab.but {a : Ad} {H H' : Hp} {b : Addr} {u : HO} (t : Tab a H) (h : H b = some u) (pl : Pl u) (e : ∀ c, c ≠ b → H' c = H c) : Tab a H' := by
  obtain ⟨ps, h1, h2, h3⟩ := t
  refine ⟨ps, ?_, h2, fun pos cv hc => ?_⟩
  · rw [e _ (fun z => by rw [← z, h1] at h; cases h; exact pl)]
    exact h1
  · obtain ⟨c, e1, e2⟩ := h3 pos cv hc
    refine ⟨c, e1, ?_⟩
    rw [e _ (fun z => by rw [← z, e2] at h; unfold LamX.CodeO at h; cases h; exact pl)]
    exact e2
section
variable {a : Ad} {H H' H1 H2 : Hp} {b it p : Addr}
theorem BagAt.fr {bs : List Addr} (B : BagAt H b it) (x : Fr bs H H') (h : b ∉ bs) (h' : it ∉ bs) : BagAt H' b it := by
  obtain ⟨ns, p, r, s', c, h1, h2, h3⟩ := B.ex
  exact ⟨ns, p, r, s', c, x _ _ h1 trivial h, x _ _ h2 trivial h', h3⟩
theorem BagAt.exx (B : BagAt H b it) (x : Ex H H') : BagAt H' b it := B.fr (bs := []) (Fr.of x) (by simp) (by simp)
theorem BagAt.neNew (B : BagAt H b it) (n : New H p) : p ≠ b ∧ p ≠ it := by
  obtain ⟨ns, p', r, s', c, h1, h2, _⟩ := B.ex
  exact ⟨fun z => n.ne h1 trivial z.symm, fun z => n.ne h2 trivial z.symm⟩
theorem BagAt.upd {o : HO} (B : BagAt H b it) (h : p ≠ b) (h' : p ≠ it) : BagAt (L2.upd H p o) b it := by
  obtain ⟨ns, p', r, s', c, h1, h2, h3⟩ := B.ex
  exact ⟨ns, p', r, s', c, by rw [upd_ne (Ne.symm h)]; exact h1, by rw [upd_ne (Ne.symm h')]; exact h2, h3⟩
theorem BagAt.neKind {u : HO} (B : BagAt H b it) (h : H p = some u) (k : ∀ xs, u ≠ .lst xs) : p ≠ b ∧ p ≠ it := by
  obtain ⟨ns, p', r, s', c, h1, h2, _⟩ := B.ex
  exact ⟨ne_of h h1 (k _), ne_of h h2 (k _)⟩
theorem Drew.refl (B : BagAt H b it) : Drew a b it H H := ⟨B, Fr.refl, id⟩
theorem Drew.trans (x : Drew a b it H H1) (y : Drew a b it H1 H2) : Drew a b it H H2 := ⟨y.bag, x.fr.trans y.fr, fun t => y.tab (x.tab t)⟩
theorem Drew.take (B : BagAt H b it) (B' : BagAt H' b it) (e : ∀ c, c ≠ b → H' c = H c) : Drew a b it H H' := by
  obtain ⟨xs, hb⟩ := B.lst
  refine ⟨B', fun c o hc _ n => ?_, fun t => Tab.but t hb trivial e⟩
  rw [e c (by simpa using n)]
  exact hc
theorem Drew.ex (B : BagAt H b it) (x : Ex H H') (t : Tab a H → Tab a H') : Drew a b it H H' := ⟨B.exx x, Fr.of x, t⟩
theorem Drew.new {o : HO} (x : Drew a b it H H1) (n : H1 p = none) : Drew a b it H (upd H1 p o) := ⟨x.bag.same (Same.new n), x.fr.new n, fun t => Tab.new (x.tab t) n⟩
/-- something that is new since H is changed -/
theorem Drew.upd {u o : HO} (x : Drew a b it H H1) (B : BagAt H b it) (n : New H p) (h : H1 p = some u) (pl : Pl u) : Drew a b it H (L2.upd H1 p o) :=
  ⟨x.bag.upd (B.neNew n).1 (B.neNew n).2, fun c w hc nt nb => by rw [upd_ne (n.ne hc nt)]; exact x.fr c w hc nt nb, fun t => Tab.upd (x.tab t) h pl⟩
theorem Drew.new' (x : Drew a b it H H1) (n : New H1 p) : New H p := fun o h nt => n o (x.fr p o h nt (by simpa using (x.bag.neNew n).1)) nt
theorem Drew.at {o : HO} (x : Drew a b it H H1) (h : H p = some o) (nt : NT o) (n : p ≠ b) : H1 p = some o := x.fr _ _ h nt (by simpa using n)
end
def letterAt (st sp : Int) (k : Nat) : Str := one (97 + ((st + k * sp) % 26).toNat)

def sp_law_letters (K : PySem.W.Frag) (a : Ad) : Sp := sp2 fun x y H Q _ => ∃ (b it : Addr) (m : Nat), x = .ref b ∧ y = .int m ∧ BagAt H b it ∧ m ≤ 100 ∧
  ∀ l H' st t, Drew a b it H H' → New H l → 0 ≤ st → st < 26 → 0 ≤ t → t < 6 → H' l = some (.lst ((List.range m).map fun k => V.str (letterAt st (2 * t + 1) k))) → Q (.ref l) H'
theorem ok_law_letters {P : Program} {w : World} {K : PySem.W.Frag} {mg : Str → Option Value} {base : Heap} {a : Ad} (T : Txt P K mg base a) : FnOk P w K mg base CX0 2 a.f_law_letters a.d_law_letters (["_law_bag_here", "_law_many"] : List Str) (sp_law_letters K a) := by
  refine T.F_law_letters.ok sc_law_letters (fun vs H Q E h => sp2_len h) (fun cdv A outer s H vs Q E hr h => ?_)
  have hu := hu_of hr
  refine ⟨_, (pss_cons (ps_set (i := 2) sc_law_letters.nd rfl (Or.inr rfl) (pe_call (ok_law_take T) (hr.mono (by decide)) rfl T.g_law_take T.k_law_take T.B_law_take .nil pass0 (pa_cons (pv 0) (pa_cons pe_int pa_nil))))
      (pss_cons (ps_set (i := 3) sc_law_letters.nd rfl (Or.inr rfl) (pe_op op_add (pe_op op_mul pe_int (pe_call (ok_law_take T) (hr.mono (by decide)) rfl T.g_law_take T.k_law_take T.B_law_take .nil pass0 (pa_cons (pv 0) (pa_cons pe_int pa_nil)))) pe_int))
      (pss_one (ps_ret (pe_lc (own := [("_law_k", 4)]) (g := gName 4) (tt := tYes) (by rfl) sc_law_letters.nd (pi_range1 (by rfl) T.n_range (pa_cons (pv 1) pa_nil)) (blkOk_by (own := [("_law_k", 4)]) (N := ["_law_bag_here", "_law_many", "_law_start", "_law_step", "_law_k"]) (sc := defScope s_law_letters) (by decide +kernel)) (fun _ _ _ _ _ => (pg_name (i := 4) sc_law_letters.nd rfl (Or.inl rfl))) (fun _ _ _ _ _ => pts_nil) (fun _ _ _ _ _ => (pe_ix ix_str pe_str (pe_op op_mod (pe_op op_add (pv 2) (pe_op op_mul (pv 4) (pv 3))) pe_int) (fun _ _ => rfl)))))))), ?_⟩
  try dsimp only [L2.cxOf]
  obtain ⟨x, y, rfl, b, it, m, rfl, rfl, B, hm, k⟩ := h
  rw [show L2.start (["_law_bag_here", "_law_many", "_law_start", "_law_step", "_law_k"] : List Str) [(.ref b), (.int m)] = ([some ((.ref b)), some ((.int m)), none, none, none] : L2.St) from rfl]
  have al : (Str.ofString "abcdefghijklmnopqrstuvwxyz").cps.toList = (List.range 26).map (· + 97) := by decide +kernel
  have all : (Str.ofString "abcdefghijklmnopqrstuvwxyz").length ≤ sizeLine := by decide +kernel
  have sz : sizeLine = 16777216 := by decide
  walk_at "w"
  refine ⟨_, _, rfl, b, it, 26, rfl, rfl, B, by decide, by decide +kernel, fun st H1 s0 s1 B1 fr1 => ?_⟩
  have D1 : Drew a b it H H1 := Drew.take B B1 fr1
  walk_at "w"
  refine ⟨_, _, rfl, b, it, 6, rfl, rfl, B1, by decide, by decide +kernel, fun t H2 t0 t1 B2 fr2 => ?_⟩
  have D2 : Drew a b it H H2 := D1.trans (Drew.take B1 B2 fr2)
  walk_at "w"
  refine ⟨m, rfl, by omega, by omega, lcsW walk_range (fun D i H' => H2 D = none ∧ H' = upd H2 D (.lst ((List.range i).map fun k => V.str (letterAt st (2 * t + 1) k)))) (fun D hD => ⟨hD, rfl⟩) (fun _ _ _ _ _ => trivial) ?_ ?_⟩
  · rintro D i x H3 H' hi ⟨hD, rfl⟩ ⟨rfl, rfl⟩
    have hi' : i < 100 := by omega
    walk_at "w"
    refine ⟨rfl, ?_⟩
    walk_at "w"
    have e0 : (0 : Int) + (i : Int) = i := by omega
    rw [e0]
    obtain ⟨j, hj⟩ := Int.eq_ofNat_of_zero_le (Int.emod_nonneg (st + (i : Int) * (2 * t + 1)) (show (26 : Int) ≠ 0 by decide))
    have hj2 := Int.emod_lt_of_pos (st + (i : Int) * (2 * t + 1)) (show (0 : Int) < 26 by decide)
    refine w_ixS (c := 97 + j) all ?_ ?_
    · rw [hj, al]
      refine atI_nat ?_
      rw [List.getElem?_map, List.getElem?_range (by omega)]
      simp
      omega
    · refine ⟨_, upd_same, ?_, hD, ?_⟩
      · rw [List.length_map, List.length_range, sz]
        omega
      · rw [upd_upd, List.range_succ, List.map_append, List.map_cons, List.map_nil]
        unfold letterAt
        rw [hj]
        rfl
  · rintro D H' ⟨hD, rfl⟩
    rw [show (m : Int).toNat = m from rfl]
    exact k D _ st t (D2.new hD) (D2.new' (New.of hD)) s0 s1 t0 t1 upd_same

theorem rank_iff {x y : Str} : rankLe x y = true ↔ x.length < y.length ∨ (x.length = y.length ∧ x.cps.toList ≤ y.cps.toList) := by
  unfold rankLe
  rw [decide_eq_true_iff]
theorem rank_anti {x y : Str} (h : rankLe x y = true) (h' : rankLe y x = true) : x = y := by
  have a := rank_iff.mp h
  have b := rank_iff.mp h'
  rcases a with a | a
  · rcases b with b | b <;> omega
  · rcases b with b | b
    · omega
    · exact str_ext (List.le_antisymm a.2 b.2)
theorem rank_trans (x y z : Str) (h : rankLe x y = true) (h' : rankLe y z = true) : rankLe x z = true := by
  have a := rank_iff.mp h
  have b := rank_iff.mp h'
  refine rank_iff.mpr ?_
  rcases a with a | a <;> rcases b with b | b
  · exact .inl (by omega)
  · exact .inl (by omega)
  · exact .inl (by omega)
  · exact .inr ⟨by omega, List.le_trans a.2 b.2⟩
theorem rank_total (x y : Str) : (rankLe x y || rankLe y x) = true := by
  rw [Bool.or_eq_true, rank_iff, rank_iff]
  rcases Nat.lt_trichotomy x.length y.length with h | h | h
  · exact .inl (.inl h)
  · rcases List.le_total x.cps.toList y.cps.toList with c | c
    · exact .inl (.inr ⟨h, c⟩)
    · exact .inr (.inr ⟨h.symm, c⟩)
  · exact .inr (.inl h)
theorem rank_sorted (l : List Str) : (l.mergeSort rankLe).Pairwise fun x y => rankLe x y = true := List.pairwise_mergeSort rank_trans rank_total l
theorem rank_uniq : ∀ {l m : List Str}, l.Pairwise (fun x y => rankLe x y = true) → m.Pairwise (fun x y => rankLe x y = true) → l.Perm m → l = m
  | [], m, _, _, h => (List.Perm.eq_nil h.symm).symm
  | x :: l, [], _, _, h => absurd h.length_eq (by simp)
  | x :: l, y :: m, hl, hm, h => by
    have e : x = y := by
      rcases List.mem_cons.mp (h.mem_iff.mp (List.mem_cons_self (a := x) (l := l))) with e | hx
      · exact e
      · rcases List.mem_cons.mp (h.mem_iff.mpr (List.mem_cons_self (a := y) (l := m))) with e | hy
        · exact e.symm
        · exact rank_anti ((List.pairwise_cons.mp hl).1 y hy) ((List.pairwise_cons.mp hm).1 x hx)
    subst e
    rw [rank_uniq (List.pairwise_cons.mp hl).2 (List.pairwise_cons.mp hm).2 h.cons_inv]
theorem rank_perm {l m : List Str} (h : l.Perm m) : l.mergeSort rankLe = m.mergeSort rankLe := rank_uniq (rank_sorted l) (rank_sorted m) (((List.mergeSort_perm l rankLe).trans h).trans (List.mergeSort_perm m rankLe).symm)
theorem rank_same {l : List Str} (h : l.Pairwise fun x y => rankLe x y = true) : l.mergeSort rankLe = l := rank_uniq (rank_sorted l) h (List.mergeSort_perm l rankLe)
/-- good advances are all accepted, in font order -/
theorem runPA_all {es : List (Str × V)} (v : Str → Int) {ord : List Str} (hs : ord.Pairwise fun x y => rankLe x y = true) (nd : ord.Nodup) (hv : ∀ g ∈ ord, getR es g = some (.int (v g)) ∧ isName g = true ∧ 0 ≤ v g ∧ v g ≤ 1000000)
    (hc : ∀ g ∈ ord, 1 < g.length → ∀ c ∈ g.cps.toList, one c ∈ ord) (hl : ord.length ≤ 40) : ∀ (m l : List Str), ord = l ++ m → runPA es m (l.map fun g => (g, v g)) = .ok (ord.map fun g => (g, v g))
  | [], l, e => by
    rw [e, List.append_nil]
    rfl
  | g :: m, l, e => by
    have hg : g ∈ ord := by rw [e]; simp
    obtain ⟨h1, h2, h3, h4⟩ := hv g hg
    have keys : ∀ s, (getR (l.map fun g => (g, v g)) s).isSome = true ↔ s ∈ l := fun s => by
      rw [getR_mem, List.map_map]
      simp
    have gl : g ∉ l := fun z => by
      rw [e] at nd
      exact (List.nodup_append.mp nd).2.2 g z g List.mem_cons_self rfl
    have gn : getR (l.map fun g => (g, v g)) g = none := by
      cases q : getR (l.map fun g => (g, v g)) g with
      | none => rfl
      | some w => exact absurd ((keys g).mp (by rw [q]; rfl)) gl
    have pu : putR (l.map fun g => (g, v g)) g (v g) = (l ++ [g]).map fun g => (g, v g) := by
      unfold putR
      rw [if_neg]
      · simp
      · intro z
        obtain ⟨x, hx, ex⟩ := List.any_eq_true.mp z
        obtain ⟨s, hs, rfl⟩ := List.mem_map.mp hx
        exact gl (by rw [← show s = g by simpa using ex]; exact hs)
    have q : paRes (l.map fun g => (g, v g)) g ((getR es g).getD .non) = .ok ((l ++ [g]).map fun g => (g, v g)) := by
      rw [h1, Option.getD_some]
      unfold paRes
      rw [if_pos h2]
      show (if 0 ≤ v g ∧ v g ≤ 1000000 then _ else _) = _
      rw [if_pos ⟨h3, h4⟩, pu]
      by_cases c1 : 1 < g.length
      · rw [if_pos c1]
        have hm : missing (l.map fun g => (g, v g)) g = none := by
          unfold missing
          rw [List.find?_eq_none]
          intro c hcm hn
          have ho := hc g hg c1 c hcm
          rw [e] at ho hs
          have : one c ∈ l := by
            rcases List.mem_append.mp ho with ho | ho
            · exact ho
            · rcases List.mem_cons.mp ho with ho | ho
              · rw [← ho] at c1
                exact absurd c1 (by show ¬ 1 < 1; decide)
              · have p := (List.pairwise_cons.mp (List.pairwise_append.mp hs).2.1).1 _ ho
                have p2 := rank_iff.mp p
                have p3 : (one c).length = 1 := rfl
                omega
          have k := (keys (one c)).mpr this
          cases q' : getR (l.map fun g => (g, v g)) (one c) with
          | none => rw [q'] at k; cases k
          | some w => rw [q'] at hn; cases hn
        rw [hm]
        have ll : (ligs (l.map fun g => (g, v g))).length < 40 := by
          have := List.length_filter_le (fun z : Str => decide (1 < z.length)) ((l.map fun g => (g, v g)).map (·.1))
          unfold ligs
          rw [List.length_map, List.length_map] at this
          rw [e, List.length_append, List.length_cons] at hl
          omega
        exact if_neg (by omega)
      · rw [if_neg c1]
    rw [runPA_ok q]
    exact runPA_all v hs nd hv hc hl m (l ++ [g]) (by rw [e]; simp)

theorem w_ckw {r : List V → List V → Hp → VK → Prop} {t tk : TA} {σ : L2.St} {H : Hp} {Q : VK} (k : t σ H fun vs H1 => tk σ H1 fun zs H2 => r vs zs H2 Q) : tCKw r t tk σ H Q := k
local macro_rules | `(tactic| walk_at "s") => `(tactic| first
  | with_reducible refine w_ckw ?_)
/-! ### names and rows, plainly -/
theorem canStrs : ∀ {ss : List Str}, (∀ z ∈ ss, PyData.strOk z = true) → PyData.canLayAll0 (ss.map PyData.str) = true
  | [], _ => by simp [PyData.canLayAll0]
  | n :: r, h => by simp [PyData.canLayAll0, PyData.canLay0, canStrs (ss := r) fun z hz => h z (List.mem_cons_of_mem _ hz), h n List.mem_cons_self]
theorem depStrs : ∀ ss : List Str, PyData.depthAll (ss.map PyData.str) ≤ 1
  | [] => by simp [PyData.depthAll]
  | n :: r => by
    have h := depStrs r
    simp only [List.map_cons, PyData.depthAll, PyData.depth]
    omega
theorem canStrL {ss : List Str} (h : ∀ z ∈ ss, PyData.strOk z = true) : PyData.canLay0 (.list (ss.map PyData.str)) = true := by
  simp only [PyData.canLay0]
  exact canStrs h
theorem shapedStrs {ss : List Str} (h : ∀ z ∈ ss, PyData.strOk z = true) : SeqAt.shaped (.list (ss.map PyData.str)) = true := by
  have h1 := depStrs ss
  have h2 : PyData.depth (.list (ss.map PyData.str)) ≤ 64 := by
    simp only [PyData.depth]
    omega
  show (PyData.canLay0 (.list (ss.map PyData.str)) && decide _) = true
  rw [canStrL h, decide_eq_true h2]
  rfl
theorem dpStrs {K : PySem.W.Frag} {H : Hp} : ∀ ss : List Str, DpAll K H (ss.map V.str) (ss.map PyData.str)
  | [] => .nil
  | s :: r => .cons (.str s) (dpStrs r)
theorem name_len {z : Str} (h : isName z = true) : 1 ≤ z.length ∧ z.length ≤ 6 := by
  unfold isName at h
  exact of_decide_eq_true (Bool.and_eq_true_iff.mp h).1
theorem name_cps {z : Str} (h : isName z = true) : ∀ c ∈ z.cps.toList, 97 ≤ c ∧ c ≤ 122 := fun c hc => by
  unfold isName at h
  exact of_decide_eq_true (List.all_eq_true.mp (Bool.and_eq_true_iff.mp h).2 c hc)
theorem name_ok {z : Str} (h : isName z = true) : PyData.strOk z = true := by
  have q := name_cps h
  unfold PyData.strOk
  rw [Array.all_eq_true']
  intro c hc
  have := q c (by simpa using hc)
  simp
  omega
theorem name_sz {z : Str} (h : isName z = true) : z.length ≤ sizeLine := by
  have := (name_len h).2
  have sz : sizeLine = 16777216 := by decide
  omega
/-- all keys are names, each once -/
structure Good (r : Rows) : Prop where
  nd : (r.map (·.1)).Nodup
  nm : ∀ x ∈ r, isName x.1 = true
theorem Good.sz {r : Rows} (g : Good r) : ∀ x ∈ r, x.1.length ≤ sizeLine := fun x hx => name_sz (g.nm x hx)
theorem Good.put {r : Rows} (g : Good r) {z : Str} {n : Int} (h : isName z = true) : Good (putR r z n) := ⟨putR_nodup g.nd, putR_names (P := fun z => isName z = true) g.nm h⟩
theorem drop_keys {r : Rows} {z : Str} : (dropR r z).map (·.1) = (r.map (·.1)).filter fun y => decide (y ≠ z) := by
  unfold dropR
  rw [List.filter_map]
  rfl
theorem Good.drop {r : Rows} (g : Good r) {z : Str} : Good (dropR r z) := ⟨by rw [drop_keys]; exact g.nd.filter _, fun x hx => g.nm x (List.mem_filter.mp hx).1⟩
theorem getR_iff {r : Rows} (nd : (r.map (·.1)).Nodup) {g : Str} {n : Int} : getR r g = some n ↔ (g, n) ∈ r := by
  constructor
  · intro h
    unfold getR at h
    obtain ⟨y, h1, h2⟩ := Option.map_eq_some_iff.mp h
    have e : y.1 = g := by simpa using List.find?_some h1
    have m := List.mem_of_find?_eq_some h1
    rw [show ((g, n) : Str × Int) = y from by rw [← e, ← h2]]
    exact m
  · intro h
    induction r with
    | nil => cases h
    | cons x r ih =>
      rw [List.map_cons, List.nodup_cons] at nd
      unfold getR
      rcases List.mem_cons.mp h with e | h
      · rw [← e]
        simp
      · have ne : x.1 ≠ g := fun z => nd.1 (by rw [z]; exact List.mem_map.mpr ⟨_, h, rfl⟩)
        rw [List.find?_cons_of_neg (by simpa using ne)]
        exact ih nd.2 h
theorem getR_perm {r s : Rows} (p : r.Perm s) (nd : (r.map (·.1)).Nodup) (g : Str) : getR r g = getR s g := by
  have nd2 : (s.map (·.1)).Nodup := (p.map (·.1)).nodup_iff.mp nd
  apply Option.ext
  intro n
  rw [getR_iff nd, getR_iff nd2]
  exact p.mem_iff
theorem putR_new {r : Rows} {g : Str} {n : Int} (h : g ∉ r.map (·.1)) : putR r g n = r ++ [(g, n)] := by
  unfold putR
  rw [if_neg]
  intro z
  obtain ⟨x, hx, e⟩ := List.any_eq_true.mp z
  exact h (List.mem_map.mpr ⟨x, hx, by simpa using e⟩)
theorem putR_perm {r s : Rows} (p : r.Perm s) {g : Str} {n : Int} (h : g ∉ r.map (·.1)) : (putR r g n).Perm (putR s g n) := by
  rw [putR_new h, putR_new (fun z => h ((p.map (·.1)).mem_iff.mpr z))]
  exact p.append_right _
def isLig (z : Str) : Bool := decide (1 < z.length)
theorem ligs_eq (r : Rows) : ligs r = (r.map (·.1)).filter isLig := rfl
theorem missing_none {r : Rows} {z : Str} (h : ∀ c ∈ z.cps.toList, one c ∈ r.map (·.1)) : missing r z = none := by
  unfold missing
  rw [List.find?_eq_none]
  intro c hc e
  have := getR_mem.mpr (h c hc)
  cases q : getR r (one c) with
  | none => rw [q] at this; cases this
  | some v => rw [q] at e; cases e
theorem pa_one {r : Rows} {z : Str} {n : Int} (hz : isName z = true) (h1 : z.length = 1) (n0 : 0 ≤ n) (n1 : n ≤ 1000000) : paRes r z (.int n) = .ok (putR r z n) := by
  unfold paRes
  rw [if_pos hz]
  show (if 0 ≤ n ∧ n ≤ 1000000 then _ else _) = _
  rw [if_pos ⟨n0, n1⟩, if_neg (by omega)]
theorem pa_two {r : Rows} {z : Str} {n : Int} (hz : isName z = true) (h1 : 1 < z.length) (n0 : 0 ≤ n) (n1 : n ≤ 1000000) (hc : ∀ c ∈ z.cps.toList, one c ∈ r.map (·.1)) (hl : z ∈ r.map (·.1) ∨ (ligs r).length < 40) : paRes r z (.int n) = .ok (putR r z n) := by
  unfold paRes
  rw [if_pos hz]
  show (if 0 ≤ n ∧ n ≤ 1000000 then _ else _) = _
  rw [if_pos ⟨n0, n1⟩, if_pos h1, missing_none hc]
  refine if_neg fun c => ?_
  rcases hl with hl | hl
  · have := getR_mem.mpr hl
    cases q : getR r z with
    | none => rw [q] at this; cases this
    | some v => rw [q] at c; cases c.1
  · omega
theorem getR_none {r : Rows} {z : Str} (h : z ∉ r.map (·.1)) : getR r z = none := by
  cases q : getR r z with
  | none => rfl
  | some v => exact absurd (getR_mem.mp (by rw [q]; rfl)) h
theorem pa_tm {r : Rows} {z : Str} {n : Int} (hz : isName z = true) (h1 : 1 < z.length) (n0 : 0 ≤ n) (n1 : n ≤ 1000000) (hc : ∀ c ∈ z.cps.toList, one c ∈ r.map (·.1)) (hn : z ∉ r.map (·.1)) (hl : 40 ≤ (ligs r).length) : paRes r z (.int n) = .error .tm := by
  unfold paRes
  rw [if_pos hz]
  show (if 0 ≤ n ∧ n ≤ 1000000 then _ else _) = _
  rw [if_pos ⟨n0, n1⟩, if_pos h1, missing_none hc]
  exact if_pos ⟨by rw [getR_none hn]; rfl, hl⟩


def sp_law_agrees (K : PySem.W.Frag) (a : Ad) : Sp := sp2 fun f c H Q _ => ∃ (p dx ro pr pa fa f0 f1 : Addr) (r r0 : Rows) (sp : Int), f = .ref p ∧ c = .ref fa ∧ FontAt a H p dx ro pr pa r sp ∧ H fa = some (.lst [.ref f0, .ref f1, .int sp]) ∧ H f0 = some (.dK (encR r0)) ∧ H f1 = some (.dK []) ∧ r.Perm r0 ∧ Good r ∧ r.length ≤ 100 ∧ Tab a H ∧
  ∀ H', Ex H H' → Tab a H' → Q (.bl true) H'
theorem ok_law_agrees {P : Program} {w : World} {K : PySem.W.Frag} {mg : Str → Option Value} {base : Heap} {a : Ad} (T : Txt P K mg base a) : FnOk P w K mg base CX0 5 a.f_law_agrees a.d_law_agrees (["_law_font", "_law_face"] : List Str) (sp_law_agrees K a) := by
  refine T.F_law_agrees.ok sc_law_agrees (fun vs H Q E h => sp2_len h) (fun cdv A outer s H vs Q E hr h => ?_)
  have hu := hu_of hr
  refine ⟨_, (pss_cons (ps_set (i := 2) sc_law_agrees.nd rfl (Or.inl rfl) (pe_callBK (cr_sortRank T.F_law_rank T.B_law_rank ⟨rfl, rfl, rfl, by decide +kernel, by decide +kernel, rfl, rfl, by decide +kernel⟩ rfl T.n_len (hr.mono (by decide)) (units64 hr)) (by rfl) T.n_sorted boot_sorted (pa_cons (pe_callTy (call_listD rfl) (by rfl) T.n_list bb_list (pa_cons (pe_ix ix_list (pv 1) pe_int (fun _ _ => rfl)) pa_nil)) pa_nil) (pk_cons (pe_glob (v := .ref a.f_law_rank) rfl T.g_law_rank rfl) pk_nil)))
      (pss_cons (ps_setLc (i := 3) (own := [("_law_pair", 4)]) (g := gName 4) (tt := tYes) (by rfl) sc_law_agrees.nd rfl rfl (sw_true rfl rfl rfl (by decide +kernel)) (pi_list (pe_callB (cr_sortStr (units64 hr)) (by rfl) T.n_sorted bb_sorted (pa_cons (pe_callTy (call_listD rfl) (by rfl) T.n_list bb_list (pa_cons (pe_ix ix_list (pv 1) pe_int (fun _ _ => rfl)) pa_nil)) pa_nil))) (blkOk_by (own := [("_law_pair", 4)]) (N := ["_law_font", "_law_face", "_law_glyphs", "_law_kerns", "_law_pair", "_law_glyph", "_law_actual"]) (sc := defScope s_law_agrees) (by decide +kernel)) (fun _ _ _ _ _ => (pg_name (i := 4) sc_law_agrees.nd rfl (Or.inl rfl))) (fun _ _ _ _ _ => pts_nil) (fun _ _ _ _ _ => (pe_tup (pa_cons (pe_ix (show IxR _ (rIxT K) from ix_tup) (pv 4) pe_int (fun _ _ => rfl)) (pa_cons (pe_ix (show IxR _ (rIxT K) from ix_tup) (pv 4) pe_int (fun _ _ => rfl)) (pa_cons (pe_dget hu (pe_ix (show IxR _ (rIxL K) from ix_list) (pv 1) pe_int (fun _ _ => rfl)) (pv 4) (fun _ _ => rfl)) pa_nil))))))
      (pss_cons (ps_if (PW.pt (pw_or (pt_cmpR (op_neD hr.units) (pe_meth0 (pv 0) T.c_Font T.M_Font_glyphs (ok_Font_glyphs T) (hr.mono (by decide)) T.B_Font_glyphs .nil pass0) (pv 2) (nomark _)) (pw_or (pt_cmpR (op_neD hr.units) (pe_meth0 (pv 0) T.c_Font T.M_Font_kerns (ok_Font_kerns T) (hr.mono (by decide)) T.B_Font_kerns .nil pass0) (pv 3) (nomark _)) (pw_or1 (pt_cmpR op_ne (pe_callB (call_lenO T.M_Font_len.at_ T.M_Font_len.fn (ok_Font_len T) (hr.mono (by decide)) T.B_Font_len) (by rfl) T.n_len bb_len (pa_cons (pv 0) pa_nil)) (pe_callB qc_len (by rfl) T.n_len bb_len (pa_cons (pv 2) pa_nil)) (nomark _)))))) (pss_one (ps_ret pe_bl)) pss_nil)
      (pss_cons (ps_for PassesOwn.never rfl (pi_list (pv 2)) (pg_name (i := 5) sc_law_agrees.nd rfl (Or.inl rfl)) (pss_cons (ps_set (i := 6) sc_law_agrees.nd rfl (Or.inl rfl) (pe_mtS (pv 0) T.c_Font T.M_Font_advance_of (ok_Font_advance_of T) (hr.mono (by decide)) T.B_Font_advance_of .nil (fun σ => passAt takes0 σ) (pa_cons (pv 5) pa_nil)))
      (pss_one (ps_if (PW.pt (pw_or (pt_not (pt_val (pe_call (ok_law_int T) (hr.mono (by decide)) rfl T.g_law_int T.k_law_int T.B_law_int .nil pass0 (pa_cons (pv 6) pa_nil)))) (pw_or1 (pt_cmpR op_ne (pv 6) (pe_dget hu (pe_ix ix_list (pv 1) pe_int (fun _ _ => rfl)) (pv 5) (fun _ _ => rfl)) (nomark _))))) (pss_one (ps_ret pe_bl)) pss_nil))))
      (pss_one (ps_ret (pe_and (pe_call (ok_law_int T) (hr.mono (by decide)) rfl T.g_law_int T.k_law_int T.B_law_int .nil pass0 (pa_cons (pe_prop (pv 0) T.c_Font T.P_Font_blank (ok_Font_blank T) (hr.mono (by decide)) T.B_Font_blank .nil pass0 rfl) pa_nil)) (pe_one (pe_cmpR op_eq (pe_prop (pv 0) T.c_Font T.P_Font_blank (ok_Font_blank T) (hr.mono (by decide)) T.B_Font_blank .nil pass0 rfl) (pe_ix ix_list (pv 1) pe_int (fun _ _ => rfl)) (nomark _)))))))))), ?_⟩
  try dsimp only [L2.cxOf]
  obtain ⟨f, c, rfl, p, dx, ro, pr, pa, fa, f0, f1, r, r0, sp, rfl, rfl, F, hfa, h0, h1, pm, gd, hl, tb, k⟩ := h
  rw [show L2.start (["_law_font", "_law_face", "_law_glyphs", "_law_kerns", "_law_pair", "_law_glyph", "_law_actual"] : List Str) [(.ref p), (.ref fa)] = ([some ((.ref p)), some ((.ref fa)), none, none, none, none, none] : L2.St) from rfl]
  have sz : sizeLine = 16777216 := by decide
  have nmk : ∀ z ∈ r.map (·.1), isName z = true := fun z hz => by
    obtain ⟨y, hy, rfl⟩ := List.mem_map.mp hz
    exact gd.nm y hy
  have pk : (r.map (·.1)).Perm (r0.map (·.1)) := pm.map _
  have nmk0 : ∀ z ∈ r0.map (·.1), isName z = true := fun z hz => nmk z (pk.mem_iff.mpr hz)
  walk_at "w"
  refine ⟨f0, encR r0, rfl, .inl h0, fun q1 nq1 => ?_⟩
  rw [show (encR r0).map (fun kv : L2.Key × V => kV kv.1) = (r0.map (·.1)).map V.str by simp [encR, kV]]
  walk_at "w"
  refine ⟨q1, r0.map (·.1), rfl, rfl, SqL.of upd_same, fun z hz => name_sz (nmk0 z hz), fun q2 nq2 => ?_⟩
  rw [← rank_perm pk]
  have x1 : Ex H (upd (upd H q1 (.lst ((r0.map (·.1)).map V.str))) q2 (.lst (((r.map (·.1)).mergeSort rankLe).map V.str))) := (Ex.new nq1).trans (Ex.new nq2)
  have t1 : Tab a (upd (upd H q1 (.lst ((r0.map (·.1)).map V.str))) q2 (.lst (((r.map (·.1)).mergeSort rankLe).map V.str))) := Tab.new (Tab.new tb nq1) nq2
  have e1 : (upd (upd H q1 (.lst ((r0.map (·.1)).map V.str))) q2 (.lst (((r.map (·.1)).mergeSort rankLe).map V.str))) q2 = some (.lst (((r.map (·.1)).mergeSort rankLe).map V.str)) := upd_same
  generalize (upd (upd H q1 (.lst ((r0.map (·.1)).map V.str))) q2 (.lst (((r.map (·.1)).mergeSort rankLe).map V.str))) = H1 at x1 t1 e1 ⊢
  have nms : ∀ z ∈ (r.map (·.1)).mergeSort rankLe, z ∈ r.map (·.1) := fun z hz => (List.mergeSort_perm _ _).mem_iff.mp hz
  have nml : ((r.map (·.1)).mergeSort rankLe).length = r.length := by rw [List.length_mergeSort, List.length_map]
  generalize hord : (r.map (·.1)).mergeSort rankLe = ord at e1 nms nml
  have rok : ∀ z ∈ ord, PyData.strOk z = true := fun z hz => name_ok (nmk z (nms z hz))
  have hfa1 := x1 _ _ hfa trivial
  have h11 := x1 _ _ h1 trivial
  walk_at "w"
  refine ⟨f1, [], rfl, .inl h11, fun q nq => ?_⟩
  walk_at "w"
  refine ⟨q, [], rfl, SqL.of upd_same, fun q3 nq3 => ?_⟩
  have x2 : Ex H1 (upd (upd H1 q (.lst (List.map (fun kv : L2.Key × V => kV kv.1) []))) q3 (.lst (([] : List Str).mergeSort strLe |>.map V.str))) := (Ex.new nq).trans (Ex.new nq3)
  have t2 : Tab a (upd (upd H1 q (.lst (List.map (fun kv : L2.Key × V => kV kv.1) []))) q3 (.lst (([] : List Str).mergeSort strLe |>.map V.str))) := Tab.new (Tab.new t1 nq) nq3
  have s2 : (upd (upd H1 q (.lst (List.map (fun kv : L2.Key × V => kV kv.1) []))) q3 (.lst (([] : List Str).mergeSort strLe |>.map V.str))) q3 = some (.lst []) := by rw [upd_same, List.mergeSort_nil]; rfl
  generalize (upd (upd H1 q (.lst (List.map (fun kv : L2.Key × V => kV kv.1) []))) q3 (.lst (([] : List Str).mergeSort strLe |>.map V.str))) = H2 at x2 t2 s2 ⊢
  refine ⟨q3, rfl, ⟨_, SqL.of s2⟩, lcsW (walk_list (xs := [])) (fun D i H' => H2 D = none ∧ H' = upd H2 D (.lst [])) (fun D hD => ⟨hD, rfl⟩) (fun D i H' _ ⟨hD, e⟩ => by rw [e]; exact (Ex.new hD).sqL (SqL.of s2)) (fun D i x H1 H' hi => absurd hi (by simp)) ?_⟩
  rintro D H' ⟨hD, rfl⟩
  have x3 : Ex H1 (upd H2 D (.lst [])) := x2.trans (Ex.new hD)
  have t3 : Tab a (upd H2 D (.lst [])) := Tab.new t2 hD
  have eD : (upd H2 D (.lst [])) D = some (.lst []) := upd_same
  generalize (upd H2 D (.lst [])) = H3 at x3 t3 eD ⊢
  have e3 := x3 _ _ e1 trivial
  have x03 := x1.trans x3
  have F3 := F.ex x03
  walk_at "w"
  refine ⟨p, dx, _, rfl, F3.ins, ff_no (by decide +kernel), ?_⟩
  walk_at "w"
  refine ⟨_, rfl, p, dx, ro, pr, pa, r, sp, rfl, F3, by omega, gd.sz, t3, fun H4 l4 x4 t4 n4 e4 => ?_⟩
  rw [hord] at e4
  walk_at "w"
  refine ⟨.list (ord.map .str), .list (ord.map .str), .lst (SqL.of e4) (dpStrs _), .lst (SqL.of (x4 _ _ e3 trivial)) (dpStrs _), shapedStrs rok, shapedStrs rok, ?_⟩
  rw [SeqAt.eqv_refl _ (canStrL rok)]
  walk_at "w"
  have F4 := F3.ex x4
  refine ⟨p, dx, _, rfl, F4.ins, ff_no (by decide +kernel), ?_⟩
  walk_at "w"
  refine ⟨_, rfl, p, dx, ro, pr, pa, r, sp, rfl, F4, t4, fun H5 l5 x5 t5 n5 e5 => ?_⟩
  walk_at "w"
  refine ⟨.list [], .list [], .lst (SqL.of e5) .nil, .lst (SqL.of (x5 _ _ (x4 _ _ eD trivial) trivial)) .nil, by decide +kernel, by decide +kernel, ?_⟩
  rw [show PyData.eqv (.list []) (.list []) = true from rfl]
  have F5 := F4.ex x5
  walk_at "w"
  refine w_lenO F5.ins ⟨_, rfl, p, dx, ro, pr, pa, r, sp, rfl, F5, r.length, rfl, by omega, ?_⟩
  walk_at "w"
  refine w_lenS (SqL.of (x5 _ _ (x4 _ _ e3 trivial) trivial)) ?_
  walk_at "w"
  rw [List.length_map, nml]
  refine it_npos rfl ?_
  walk_at "w"
  have x45 := x4.trans x5
  have e6 := x45 _ _ e3 trivial
  have hfa5 := (x3.trans x45) _ _ hfa1 trivial
  have h05 := (x03.trans x45) _ _ h0 trivial
  refine ⟨q2, rfl, ⟨_, SqL.of e6⟩, turnsW (walk_list (xs := ord.map V.str)) (fun i σ' H' => H' = H5 ∧ ∃ g0 v0 pp, σ' = [some (.ref p), some (.ref fa), some (.ref q2), some (.ref D), pp, g0, v0]) ⟨rfl, _, _, _, rfl⟩ (fun i σ' H' _ ⟨e, _⟩ => by rw [e]; exact SqL.of e6) ?_ ?_⟩
  · rintro i x σ' H6 H' hi ⟨rfl, g0, v0, pp, rfl⟩ ⟨rfl, hx⟩
    rw [List.getElem?_map] at hx
    obtain ⟨g, hg, rfl⟩ := Option.map_eq_some_iff.mp hx
    obtain ⟨n, hn⟩ : ∃ n, getR r g = some n := Option.isSome_iff_exists.mp (getR_mem.mpr (nms g (List.mem_of_getElem? hg)))
    walk_at "w"
    refine ⟨p, dx, _, rfl, F5.ins, ff_no (by decide +kernel), ?_⟩
    walk_at "w"
    refine ⟨_, _, rfl, p, dx, ro, pr, pa, r, sp, g, rfl, rfl, F5, fun m hm => ?_, fun z => by rw [hn] at z; cases z⟩
    rw [hn] at hm
    cases hm
    walk_at "w"
    refine ⟨_, rfl, true, isI_int n, ?_⟩
    walk_at "w"
    have dg := DGet.k (k := (Sum.inr g : L2.Key)) h05
    rw [val_encR, ← getR_perm pm gd.nd, hn] at dg
    refine ⟨f0, _, rfl, dg, ?_⟩
    walk_at "w"
    refine it_npos rfl ?_
    walk_at "w"
    exact ⟨rfl, _, _, _, rfl⟩
  · rintro σ' H6 ⟨rfl, g0, v0, pp, rfl⟩
    walk_at "w"
    refine ⟨p, dx, _, rfl, F5.ins, ?_⟩
    refine ⟨_, rfl, p, dx, ro, pr, pa, r, sp, rfl, F5, ?_⟩
    walk_at "w"
    refine ⟨_, rfl, true, isI_int sp, ?_⟩
    walk_at "w"
    refine ⟨p, dx, _, rfl, F5.ins, ?_⟩
    refine ⟨_, rfl, p, dx, ro, pr, pa, r, sp, rfl, F5, ?_⟩
    walk_at "w"
    rw [decide_eq_true rfl]
    exact k _ (x03.trans x45) t5

def sp_law_too_many (K : PySem.W.Frag) (a : Ad) : Sp := sp4 fun f w rw ad H Q _ => ∃ (p dx ro pr pa d : Addr) (i : Nat) (r : Rows) (sp : Int) (z : Str) (es : List (Str × V)) (ps : List V), f = .ref p ∧ w = .int (i : Nat) ∧ i < 4 ∧ rw = .str z ∧ ad = .ref d ∧ FontAt a H p dx ro pr pa r sp ∧ H pa = some (.lst ps) ∧ ps.length < 50 ∧ r.length ≤ 500 ∧ Good r ∧ z.length ≤ sizeLine ∧ paRes r z (.int 5) = .error .tm ∧
  H d = some (.dK (encV es)) ∧ (es.map (·.1)).Nodup ∧ es.length ≤ 100 ∧ (∀ x ∈ es, x.1.length ≤ sizeLine) ∧ (∀ x ∈ es, ∀ H', IsI K H' x.2 (isIntV x.2)) ∧ runPA es ((es.map (·.1)).mergeSort rankLe) [] = .error .tm ∧ Tab a H ∧
  ∀ H' ro' pr', Fr [p, ro] H H' → Tab a H' → FontAt a H' p dx ro' pr' pa r sp → (ro' = ro ∨ New H ro') → (pr' = pr ∨ New H pr') → Q (.bl true) H'
theorem ok_law_too_many {P : Program} {w : World} {K : PySem.W.Frag} {mg : Str → Option Value} {base : Heap} {a : Ad} (T : Txt P K mg base a) (hw : a.w_ = w) : FnOk P w K mg base CX0 9 a.f_law_too_many a.d_law_too_many (["_law_font", "_law_way", "_law_row", "_law_advances"] : List Str) (sp_law_too_many K a) := by
  refine T.F_law_too_many.ok sc_law_too_many (fun vs H Q E h => sp4_len h) (fun cdv A outer s H vs Q E hr h => ?_)
  have hu := hu_of hr
  refine ⟨_, (pss_cons (ps_tryA rfl rfl sc_law_too_many.nd takes0 (fun W pn xe tk po => (pss_cons (ps_if (pt_cmpR op_eq (pv 1) pe_int (nomark _)) (pss_one (ps_expr (pe_mtS (pv 0) T.c_Font T.M_Font_set_advance (ok_Font_set_advance T) (hr.mono (by decide)) T.B_Font_set_advance .nil (fun σ => passAt tk σ) (pa_cons (pv 2) (pa_cons pe_int pa_nil))))) pss_nil)
      (pss_cons (ps_if (pt_cmpR op_eq (pv 1) pe_int (nomark _)) (pss_one (ps_asg pe_int (pg_setO (pv 0) (pv 2) T.ns_Font T.M_Font_setitem.at_ T.M_Font_setitem.fn (ok_Font_setitem T) (hr.mono (by decide)) T.B_Font_setitem (fun σ => passAt tk σ)))) pss_nil)
      (pss_cons (ps_if (pt_cmpR op_eq (pv 1) pe_int (nomark _)) (pss_one (ps_expr (pe_mtS (pv 0) T.c_Font T.M_Font_apply (ok_Font_apply T hw) (hr.mono (by decide)) T.B_Font_apply .nil (fun σ => passAt tk σ) (pa_cons (pe_lst (pa_cons (pe_tup (pa_cons pe_str (pa_cons pe_int pa_nil))) (pa_cons (pe_tup (pa_cons pe_str (pa_cons (pv 2) (pa_cons pe_int pa_nil)))) pa_nil))) pa_nil)))) pss_nil)
      (pss_one (ps_if (pt_cmpR op_eq (pv 1) pe_int (nomark _)) (pss_one (ps_expr (pe_mkS T.M_Font (ok_Font_init T) (hr.mono (by decide)) rfl T.g_Font T.B1_Font_init T.V1_Font_init (fun σ => passAt tk σ) (pa_cons (pv 3) pa_nil)))) pss_nil))))))
      (Clauses.cons (i := 4) ⟨rfl, by decide, .inl T.E_TooMany.gC⟩ rfl rfl (fun ae oe cls de pn hz hf => (pss_one (ps_ret (pe_and (pe_cmpR op_ne (pv 1) pe_int (nomark _)) (pe_one (pe_cmpR op_eq (pe_xf (xfC_of T.E_TooMany) T.x_TooMany_limit hz hf (pv 4)) pe_int (nomark _)))))))
      (Clauses.cons (i := 4) ⟨rfl, by decide, .inl T.E_DeedRefused.gC⟩ rfl rfl (fun ae oe cls de pn hz hf => (pss_one (ps_ret (pe_and (pe_cmpR op_eq (pv 1) pe_int (nomark _)) (pe_one (pe_cmpR op_eq (pe_xf (xfC_of T.E_DeedRefused) T.x_DeedRefused_index hz hf (pv 4)) pe_int (nomark _)))))))
      Clauses.nil)))
      (pss_one (ps_ret pe_bl))), ?_⟩
  try dsimp only [L2.cxOf]
  obtain ⟨f, w, rw, ad, rfl, p, dx, ro, pr, pa, d, i, r, sp, z, es, ps, rfl, rfl, hi, rfl, rfl, F, hp, hps, hl, gd, hz, he, hd, hnd, hes, hen, hei, hrun, tb, k⟩ := h
  rw [show L2.start (["_law_font", "_law_way", "_law_row", "_law_advances", "e"] : List Str) [(.ref p), (.int (i : Nat)), (.str z), (.ref d)] = ([some ((.ref p)), some ((.int (i : Nat))), some ((.str z)), some ((.ref d)), none] : L2.St) from rfl]
  have szl : sizeLine = 16777216 := by decide
  have back : ∀ {H1 : Hp} {d1 : Addr} {o : HO}, Ex H H1 → Tab a H1 → H1 d1 = none → Q (.bl true) (upd H1 d1 o) := fun {H1 d1 o} x t n =>
    k _ ro pr ((Fr.of x).new n) (Tab.new t n) (F.ex (x.trans (Ex.new n))) (.inl rfl) (.inl rfl)
  match i, hi with
  | 0, _ =>
    walk_at "w"
    refine it_pos (by decide) ?_
    walk_at "w"
    refine ⟨p, dx, _, rfl, F.ins, ff_no (by decide +kernel), ?_⟩
    walk_at "w"
    refine ⟨_, _, _, rfl, p, dx, ro, pr, pa, r, sp, z, ps, rfl, rfl, F, hp, hps, by omega, gd.sz, hz, fun _ => isI_int _, tb, ?_⟩
    rw [he]
    intro H1 d1 x1 t1 nd1
    refine wAll_yes (exm_ij T (i := 3) (j := 3) rfl rfl) fun ae hae => ?_
    walk_at "w"
    refine it_nneg (by decide) ?_
    walk_at "w"
    refine ⟨_, rfl, rfl, rfl, d1, _, _, rfl, upd_same, lk1, ?_⟩
    walk_at "w"
    rw [decide_eq_true rfl]
    exact back x1 t1 nd1
  | 1, _ =>
    walk_at "w"
    refine it_neg (by decide) ?_
    walk_at "w"
    refine it_pos (by decide) ?_
    walk_at "w"
    refine ⟨p, dx, _, rfl, F.ins, ?_⟩
    refine ⟨_, _, _, rfl, p, dx, ro, pr, pa, r, sp, z, ps, rfl, rfl, F, hp, hps, by omega, gd.sz, hz, fun _ => isI_int _, tb, ?_⟩
    rw [he]
    intro H1 d1 x1 t1 nd1
    refine wAll_yes (exm_ij T (i := 3) (j := 3) rfl rfl) fun ae hae => ?_
    walk_at "w"
    refine it_nneg (by decide) ?_
    walk_at "w"
    refine ⟨_, rfl, rfl, rfl, d1, _, _, rfl, upd_same, lk1, ?_⟩
    walk_at "w"
    rw [decide_eq_true rfl]
    exact back x1 t1 nd1
  | 2, _ =>
    walk_at "w"
    refine it_neg (by decide) ?_
    walk_at "w"
    refine it_neg (by decide) ?_
    walk_at "w"
    refine it_pos (by decide) ?_
    walk_at "w"
    refine ⟨p, dx, _, rfl, F.ins, ff_no (by decide +kernel), ?_⟩
    walk_at "w"
    refine ⟨by show 2 ≤ sizeLine; rw [szl]; decide, fun t0 n0 => ?_⟩
    walk_at "w"
    refine ⟨by show 3 ≤ sizeLine; rw [szl]; decide, fun t1 n1 => ?_⟩
    walk_at "w"
    refine ⟨by show 2 ≤ sizeLine; rw [szl]; decide, fun l nl => ?_⟩
    have x0 : Ex H (upd H t0 (.tup [.str "blank", .int 1])) := Ex.new n0
    have x1 : Ex H (upd (upd H t0 (.tup [.str "blank", .int 1])) t1 (.tup [.str "advance", .str z, .int 5])) := x0.trans (Ex.new n1)
    have x2 : Ex H (upd (upd (upd H t0 (.tup [.str "blank", .int 1])) t1 (.tup [.str "advance", .str z, .int 5])) l (.lst [.ref t0, .ref t1])) := x1.trans (Ex.new nl)
    have tb2 : Tab a (upd (upd (upd H t0 (.tup [.str "blank", .int 1])) t1 (.tup [.str "advance", .str z, .int 5])) l (.lst [.ref t0, .ref t1])) := Tab.new (Tab.new (Tab.new tb n0) n1) nl
    refine ⟨_, _, rfl, p, dx, ro, pr, pa, l, t0, t1, r, sp, 1, z, .int 5, .tm, rfl, rfl, upd_same, upd_old (upd_old upd_same n1) nl, by decide, by decide, upd_old upd_same nl, hz, fun _ => isI_int _, F.ex x2, by omega, gd.sz, tb2, he, fun H1 ro' pr' d1 fr1 t1' F1 nr np nd1 => ?_⟩
    refine wAll_no (exm_ij T (i := 4) (j := 3) rfl rfl) ?_
    refine wAll_yes (exm_ij T (i := 4) (j := 4) rfl rfl) fun ae hae => ?_
    walk_at "w"
    refine it_pos (by decide) ?_
    walk_at "w"
    refine ⟨_, rfl, rfl, rfl, d1, _, _, rfl, upd_same, lk1, ?_⟩
    walk_at "w"
    rw [decide_eq_true rfl]
    exact k _ ro' pr' (((Fr.of x2).trans fr1).new nd1) (Tab.new t1' nd1) (F1.ex (Ex.new nd1)) (.inr (New.back nr x2)) (.inr (New.back np x2))
  | 3, _ =>
    walk_at "w"
    refine it_neg (by decide) ?_
    walk_at "w"
    refine it_neg (by decide) ?_
    walk_at "w"
    refine it_neg (by decide) ?_
    walk_at "w"
    refine it_pos (by decide) ?_
    walk_at "w"
    intro c dc nc ndc ndcc
    have nc2 : upd H dc (.own c) c = none := by rw [upd_ne (Ne.symm ndcc)]; exact nc
    have x2 : Ex H (upd (upd H dc (.own c)) c (.ins a.C_Font dc [])) := (Ex.new ndc).trans (Ex.new nc2)
    have tb2 : Tab a (upd (upd H dc (.own c)) c (.ins a.C_Font dc [])) := Tab.new (Tab.new tb ndc) nc2
    refine ⟨_, _, _, _, rfl, c, dc, d, es, 250, rfl, rfl, .inl rfl, rfl, upd_same, x2 _ _ hd trivial, hnd, by omega, hen, hei, by decide, by decide, tb2, ?_⟩
    rw [hrun]
    refine raiseFB_of fun H1 d1 x1 t1 nd1 => ?_
    have xx : Ex H H1 := fun w o hw nt => x1 _ _ (x2 _ _ hw nt) nt (by simpa using ne_of_none hw nc)
    refine wAll_yes (exm_ij T (i := 3) (j := 3) rfl rfl) fun ae hae => ?_
    walk_at "w"
    refine it_nneg (by decide) ?_
    walk_at "w"
    refine ⟨_, rfl, rfl, rfl, d1, _, _, rfl, upd_same, lk1, ?_⟩
    walk_at "w"
    rw [decide_eq_true rfl]
    exact back xx t1 nd1

def esO : Nat → List (Str × V)
  | 0 => [("a", .int 9), ("gg", .int 5)]
  | 1 => [("A", .int 1), ("a", .int 9)]
  | 2 => [("ab", .str "x"), ("b", .int (0 - 1)), ("a", .int 9)]
  | _ => [("a", .int 9), ("zz", .int 5)]
def errO : Nat → FErr
  | 0 => .tm
  | 1 => .ig "A"
  | 2 => .inn (.int (0 - 1))
  | _ => .ug "z"
def resO : Nat → List V
  | 0 => [.str "TooMany", .int 40]
  | 1 => [.str "InvalidGlyph", .str "A"]
  | 2 => [.str "InvalidNumber", .int (0 - 1)]
  | _ => [.str "UnknownGlyph", .str "z"]
def sp_law_at_once (K : PySem.W.Frag) (a : Ad) : Sp := sp2 fun f w H Q _ => ∃ (p dx ro pr pa : Addr) (i : Nat) (r : Rows) (sp : Int), f = .ref p ∧ w = .int (i : Nat) ∧ i < 4 ∧ FontAt a H p dx ro pr pa r sp ∧ r.length ≤ 500 ∧ Good r ∧ runPA (esO i) (((esO i).map (·.1)).mergeSort rankLe) r = .error (errO i) ∧ Tab a H ∧
  ∀ H' l ro' pr', Fr [p, ro] H H' → Tab a H' → FontAt a H' p dx ro' pr' pa r sp → New H ro' → New H pr' → H' l = some (.lst (resO i)) → Q (.ref l) H'
theorem ok_law_at_once {P : Program} {w : World} {K : PySem.W.Frag} {mg : Str → Option Value} {base : Heap} {a : Ad} (T : Txt P K mg base a) : FnOk P w K mg base CX0 9 a.f_law_at_once a.d_law_at_once (["_law_font", "_law_way"] : List Str) (sp_law_at_once K a) := by
  refine T.F_law_at_once.ok sc_law_at_once (fun vs H Q E h => sp2_len h) (fun cdv A outer s H vs Q E hr h => ?_)
  have hu := hu_of hr
  refine ⟨_, (pss_cons (ps_tryA rfl rfl sc_law_at_once.nd takes0 (fun W pn xe tk po => (pss_cons (ps_if (pt_cmpR op_eq (pv 1) pe_int (nomark _)) (pss_one (ps_expr (pe_mtKw (pv 0) T.c_Font T.M_Font_set_advances (okKa_gg_Font_set_advances T) (hr.mono (by decide)) (fun σ => passAt tk σ) (pk_cons pe_int (pk_cons pe_int pk_nil))))) pss_nil)
      (pss_cons (ps_if (pt_cmpR op_eq (pv 1) pe_int (nomark _)) (pss_one (ps_expr (pe_mtKw (pv 0) T.c_Font T.M_Font_set_advances (okKA_a_Font_set_advances T) (hr.mono (by decide)) (fun σ => passAt tk σ) (pk_cons pe_int (pk_cons pe_int pk_nil))))) pss_nil)
      (pss_cons (ps_if (pt_cmpR op_eq (pv 1) pe_int (nomark _)) (pss_one (ps_expr (pe_mtKw (pv 0) T.c_Font T.M_Font_set_advances (okKab_b_a_Font_set_advances T) (hr.mono (by decide)) (fun σ => passAt tk σ) (pk_cons pe_str (pk_cons (pe_op op_sub pe_int pe_int) (pk_cons pe_int pk_nil)))))) pss_nil)
      (pss_one (ps_if (pt_cmpR op_eq (pv 1) pe_int (nomark _)) (pss_one (ps_expr (pe_mtKw (pv 0) T.c_Font T.M_Font_set_advances (okKa_zz_Font_set_advances T) (hr.mono (by decide)) (fun σ => passAt tk σ) (pk_cons pe_int (pk_cons pe_int pk_nil))))) pss_nil))))))
      (Clauses.cons (i := 2) ⟨rfl, by decide, .inl T.E_TooMany.gC⟩ rfl rfl (fun ae oe cls de pn hz hf => (pss_one (ps_ret (pe_lst (pa_cons pe_str (pa_cons (pe_xf (xfC_of T.E_TooMany) T.x_TooMany_limit hz hf (pv 2)) pa_nil))))))
      (Clauses.cons (i := 2) ⟨rfl, by decide, .inl T.E_InvalidGlyph.gC⟩ rfl rfl (fun ae oe cls de pn hz hf => (pss_one (ps_ret (pe_lst (pa_cons pe_str (pa_cons (pe_xf (xfC_of T.E_InvalidGlyph) T.x_InvalidGlyph_glyph hz hf (pv 2)) pa_nil))))))
      (Clauses.cons (i := 2) ⟨rfl, by decide, .inl T.E_InvalidNumber.gC⟩ rfl rfl (fun ae oe cls de pn hz hf => (pss_one (ps_ret (pe_lst (pa_cons pe_str (pa_cons (pe_xf (xfC_of T.E_InvalidNumber) T.x_InvalidNumber_value hz hf (pv 2)) pa_nil))))))
      (Clauses.cons (i := 2) ⟨rfl, by decide, .inl T.E_UnknownGlyph.gC⟩ rfl rfl (fun ae oe cls de pn hz hf => (pss_one (ps_ret (pe_lst (pa_cons pe_str (pa_cons (pe_xf (xfC_of T.E_UnknownGlyph) T.x_UnknownGlyph_glyph hz hf (pv 2)) pa_nil))))))
      Clauses.nil)))))
      (pss_one (ps_ret (pe_lst pa_nil)))), ?_⟩
  try dsimp only [L2.cxOf]
  obtain ⟨f, w, rfl, p, dx, ro, pr, pa, i, r, sp, rfl, rfl, hi, F, hl, gd, he, tb, k⟩ := h
  rw [show L2.start (["_law_font", "_law_way", "e"] : List Str) [(.ref p), (.int (i : Nat))] = ([some ((.ref p)), some ((.int (i : Nat))), none] : L2.St) from rfl]
  have szl : sizeLine = 16777216 := by decide
  have dro : ∀ {d : Addr}, H d = none → d ≠ ro := fun n => Ne.symm (ne_of_none F.row n)
  have fin : ∀ {H1 : Hp} {ro' pr' d d1 l : Addr} {o o1 : HO}, H d = none → Fr [p, ro] (upd H d o) H1 → Tab a H1 → FontAt a H1 p dx ro' pr' pa r sp → New (upd H d o) ro' → New (upd H d o) pr' → H1 d1 = none → (upd H1 d1 o1) l = none →
      Q (.ref l) (upd (upd H1 d1 o1) l (.lst (resO i))) := fun {H1 ro' pr' d d1 l o o1} n x t F1 nr np n1 nl => by
    have x1 : Fr [p, ro] H H1 := ((Fr.refl).new n).trans x
    refine k _ l ro' pr' ((x1.new n1).new nl) (Tab.new (Tab.new t n1) nl) ((F1.ex (Ex.new n1)).ex (Ex.new nl)) (New.back nr (Ex.new n)) (New.back np (Ex.new n)) upd_same
  match i, hi with
  | 0, _ =>
    walk_at "w"
    refine it_pos (by decide) ?_
    walk_at "w"
    refine ⟨p, dx, _, rfl, F.ins, ff_no (by decide +kernel), ?_⟩
    walk_at "w"
    refine ⟨rfl, fun d nd => ?_⟩
    refine ⟨_, _, rfl, p, dx, ro, pr, pa, d, r, sp, esO 0, errO 0, rfl, rfl, upd_same, (fun z => nomatch z), by decide, dro nd, by decide +kernel, fun x hx => ?_, fun x hx H' => ?_, F.ex (Ex.new nd), hl, gd.sz, Tab.new tb nd, he, fun H1 ro' pr' d1 x1 t1 F1 nr np nd1 => ?_⟩
    · exact (show ∀ x ∈ esO 0, x.1.length ≤ sizeLine by rw [szl]; decide +kernel) x hx
    · simp only [esO, List.mem_cons, List.not_mem_nil, or_false] at hx
      rcases hx with rfl | rfl
      · exact isI_int _
      · exact isI_int _
    refine wAll_yes (exm_ij T (i := 3) (j := 3) rfl rfl) fun ae hae => ?_
    walk_at "w"
    refine ⟨_, rfl, rfl, rfl, d1, _, _, rfl, upd_same, lk1, ?_⟩
    walk_at "w"
    refine ⟨by show 2 ≤ sizeLine; rw [szl]; decide, fun l nl => ?_⟩
    exact fin nd x1 t1 F1 nr np nd1 nl
  | 1, _ =>
    walk_at "w"
    refine it_neg (by decide) ?_
    walk_at "w"
    refine it_pos (by decide) ?_
    walk_at "w"
    refine ⟨p, dx, _, rfl, F.ins, ff_no (by decide +kernel), ?_⟩
    walk_at "w"
    refine ⟨rfl, fun d nd => ?_⟩
    refine ⟨_, _, rfl, p, dx, ro, pr, pa, d, r, sp, esO 1, errO 1, rfl, rfl, upd_same, (fun z => nomatch z), by decide, dro nd, by decide +kernel, fun x hx => ?_, fun x hx H' => ?_, F.ex (Ex.new nd), hl, gd.sz, Tab.new tb nd, he, fun H1 ro' pr' d1 x1 t1 F1 nr np nd1 => ?_⟩
    · exact (show ∀ x ∈ esO 1, x.1.length ≤ sizeLine by rw [szl]; decide +kernel) x hx
    · simp only [esO, List.mem_cons, List.not_mem_nil, or_false] at hx
      rcases hx with rfl | rfl
      · exact isI_int _
      · exact isI_int _
    refine wAll_no (exm_ij T (i := 0) (j := 3) rfl rfl) ?_
    refine wAll_yes (exm_ij T (i := 0) (j := 0) rfl rfl) fun ae hae => ?_
    walk_at "w"
    refine ⟨_, rfl, rfl, rfl, d1, _, _, rfl, upd_same, lk1, ?_⟩
    walk_at "w"
    refine ⟨by show 2 ≤ sizeLine; rw [szl]; decide, fun l nl => ?_⟩
    exact fin nd x1 t1 F1 nr np nd1 nl
  | 2, _ =>
    walk_at "w"
    refine it_neg (by decide) ?_
    walk_at "w"
    refine it_neg (by decide) ?_
    walk_at "w"
    refine it_pos (by decide) ?_
    walk_at "w"
    refine ⟨p, dx, _, rfl, F.ins, ff_no (by decide +kernel), ?_⟩
    walk_at "w"
    refine ⟨rfl, fun d nd => ?_⟩
    refine ⟨_, _, rfl, p, dx, ro, pr, pa, d, r, sp, esO 2, errO 2, rfl, rfl, upd_same, (fun z => nomatch z), by decide, dro nd, by decide +kernel, fun x hx => ?_, fun x hx H' => ?_, F.ex (Ex.new nd), hl, gd.sz, Tab.new tb nd, he, fun H1 ro' pr' d1 x1 t1 F1 nr np nd1 => ?_⟩
    · exact (show ∀ x ∈ esO 2, x.1.length ≤ sizeLine by rw [szl]; decide +kernel) x hx
    · simp only [esO, List.mem_cons, List.not_mem_nil, or_false] at hx
      rcases hx with rfl | rfl | rfl
      · exact isI_str _
      · exact isI_int _
      · exact isI_int _
    refine wAll_no (exm_ij T (i := 1) (j := 3) rfl rfl) ?_
    refine wAll_no (exm_ij T (i := 1) (j := 0) rfl rfl) ?_
    refine wAll_yes (exm_ij T (i := 1) (j := 1) rfl rfl) fun ae hae => ?_
    walk_at "w"
    refine ⟨_, rfl, rfl, rfl, d1, _, _, rfl, upd_same, lk1, ?_⟩
    walk_at "w"
    refine ⟨by show 2 ≤ sizeLine; rw [szl]; decide, fun l nl => ?_⟩
    exact fin nd x1 t1 F1 nr np nd1 nl
  | 3, _ =>
    walk_at "w"
    refine it_neg (by decide) ?_
    walk_at "w"
    refine it_neg (by decide) ?_
    walk_at "w"
    refine it_neg (by decide) ?_
    walk_at "w"
    refine it_pos (by decide) ?_
    walk_at "w"
    refine ⟨p, dx, _, rfl, F.ins, ff_no (by decide +kernel), ?_⟩
    walk_at "w"
    refine ⟨rfl, fun d nd => ?_⟩
    refine ⟨_, _, rfl, p, dx, ro, pr, pa, d, r, sp, esO 3, errO 3, rfl, rfl, upd_same, (fun z => nomatch z), by decide, dro nd, by decide +kernel, fun x hx => ?_, fun x hx H' => ?_, F.ex (Ex.new nd), hl, gd.sz, Tab.new tb nd, he, fun H1 ro' pr' d1 x1 t1 F1 nr np nd1 => ?_⟩
    · exact (show ∀ x ∈ esO 3, x.1.length ≤ sizeLine by rw [szl]; decide +kernel) x hx
    · simp only [esO, List.mem_cons, List.not_mem_nil, or_false] at hx
      rcases hx with rfl | rfl
      · exact isI_int _
      · exact isI_int _
    refine wAll_no (exm_ij T (i := 2) (j := 3) rfl rfl) ?_
    refine wAll_no (exm_ij T (i := 2) (j := 0) rfl rfl) ?_
    refine wAll_no (exm_ij T (i := 2) (j := 1) rfl rfl) ?_
    refine wAll_yes (exm_ij T (i := 2) (j := 2) rfl rfl) fun ae hae => ?_
    walk_at "w"
    refine ⟨_, rfl, rfl, rfl, d1, _, _, rfl, upd_same, lk1, ?_⟩
    walk_at "w"
    refine ⟨by show 2 ≤ sizeLine; rw [szl]; decide, fun l nl => ?_⟩
    exact fin nd x1 t1 F1 nr np nd1 nl

theorem Ex.updN {H H' : Hp} {q : Addr} {o : HO} (x : Ex H H') (n : New H q) : Ex H (L2.upd H' q o) := fun b u h nt => by rw [upd_ne (n.ne h nt)]; exact x b u h nt
/-! ### constructors, plainly -/
theorem keysL {l : List Str} {v : Str → Int} : (l.map fun g => (g, v g)).map (·.1) = l := by
  rw [List.map_map]
  exact List.map_id _
theorem runPA_good {es : List (Str × V)} (v : Str → Int) {ord : List Str} (hs : ord.Pairwise fun x y => rankLe x y = true) (nd : ord.Nodup) (hv : ∀ g ∈ ord, getR es g = some (.int (v g)) ∧ isName g = true ∧ 0 ≤ v g ∧ v g ≤ 1000000)
    (hc : ∀ g ∈ ord, 1 < g.length → ∀ c ∈ g.cps.toList, one c ∈ ord) (hl : (ord.filter isLig).length ≤ 40) : ∀ (m l : List Str), ord = l ++ m → runPA es m (l.map fun g => (g, v g)) = .ok (ord.map fun g => (g, v g))
  | [], l, e => by
    rw [e, List.append_nil]
    rfl
  | g :: m, l, e => by
    have hg : g ∈ ord := by rw [e]; simp
    obtain ⟨h1, h2, h3, h4⟩ := hv g hg
    have gl : g ∉ l := fun z => by
      rw [e] at nd
      exact (List.nodup_append.mp nd).2.2 g z g List.mem_cons_self rfl
    have gk : g ∉ (l.map fun g => (g, v g)).map (·.1) := by rw [keysL]; exact gl
    have pu : putR (l.map fun g => (g, v g)) g (v g) = (l ++ [g]).map fun g => (g, v g) := by
      rw [putR_new gk]
      simp
    have q : paRes (l.map fun g => (g, v g)) g ((getR es g).getD .non) = .ok ((l ++ [g]).map fun g => (g, v g)) := by
      rw [h1, Option.getD_some, ← pu]
      by_cases c1 : 1 < g.length
      · refine pa_two h2 c1 h3 h4 (fun c hcm => ?_) (.inr ?_)
        · rw [keysL]
          have ho := hc g hg c1 c hcm
          rw [e] at ho hs
          rcases List.mem_append.mp ho with ho | ho
          · exact ho
          · rcases List.mem_cons.mp ho with ho | ho
            · rw [← ho] at c1
              exact absurd c1 (by show ¬ 1 < 1; decide)
            · have p := (List.pairwise_cons.mp (List.pairwise_append.mp hs).2.1).1 _ ho
              have p2 := rank_iff.mp p
              have p3 : (one c).length = 1 := rfl
              omega
        · rw [ligs_eq, keysL]
          rw [e, List.filter_append, List.length_append, List.filter_cons_of_pos (by simpa [isLig] using c1), List.length_cons] at hl
          omega
      · have := (name_len h2).1
        exact pa_one h2 (by omega) h3 h4
    rw [runPA_ok q]
    exact runPA_good v hs nd hv hc hl m (l ++ [g]) (by rw [e]; simp)
theorem runPA_over {es : List (Str × V)} (v : Str → Int) {ord : List Str} (hs : ord.Pairwise fun x y => rankLe x y = true) (nd : ord.Nodup) (hv : ∀ g ∈ ord, getR es g = some (.int (v g)) ∧ isName g = true ∧ 0 ≤ v g ∧ v g ≤ 1000000)
    (hc : ∀ g ∈ ord, 1 < g.length → ∀ c ∈ g.cps.toList, one c ∈ ord) (hl : (ord.filter isLig).length = 41) : runPA es ord [] = .error .tm := by
  have ne : ord ≠ [] := fun z => by rw [z] at hl; cases hl
  obtain ⟨l, g, e⟩ : ∃ l g, ord = l ++ [g] := ⟨_, _, (List.dropLast_concat_getLast ne).symm⟩
  have hg : g ∈ ord := by rw [e]; simp
  have last : ∀ z ∈ ord, z.length ≤ g.length := fun z hz => by
    rw [e] at hz hs
    rcases List.mem_append.mp hz with h | h
    · have p := rank_iff.mp ((List.pairwise_append.mp hs).2.2 z h g (by simp))
      omega
    · rw [List.mem_singleton.mp h]
      omega
  have g2 : 1 < g.length := by
    have : 0 < (ord.filter isLig).length := by omega
    obtain ⟨z, hz⟩ := List.exists_mem_of_length_pos this
    obtain ⟨h1, h2⟩ := List.mem_filter.mp hz
    have h3 : 1 < z.length := by simpa [isLig] using h2
    have := last z h1
    omega
  have in_l : ∀ z ∈ ord, z.length = 1 → z ∈ l := fun z hz h1 => by
    rw [e] at hz
    rcases List.mem_append.mp hz with h | h
    · exact h
    · rw [List.mem_singleton.mp h] at h1
      omega
  have ml : ∀ z ∈ l, z ∈ ord := fun z hz => by rw [e]; exact List.mem_append_left _ hz
  have ll : (l.filter isLig).length = 40 := by
    rw [e, List.filter_append, List.length_append, show [g].filter isLig = [g] from List.filter_cons_of_pos (by simpa [isLig] using g2)] at hl
    simpa using hl
  obtain ⟨k1, k2, k3, k4⟩ := hv g hg
  have gl : g ∉ l := fun z => by
    rw [e] at nd
    exact (List.nodup_append.mp nd).2.2 g z g (by simp) rfl
  have run : runPA es l [] = .ok (l.map fun g => (g, v g)) := runPA_good (es := es) v (ord := l) (by rw [e] at hs; exact (List.pairwise_append.mp hs).1) (by rw [e] at nd; exact (List.nodup_append.mp nd).1) (fun z hz => hv z (ml z hz)) (fun z hz h1 c hcm => in_l _ (hc z (ml z hz) h1 c hcm) rfl) (by omega) l [] rfl
  rw [e, runPA_app run, runPA_er]
  rw [k1, Option.getD_some]
  refine pa_tm k2 g2 k3 k4 (fun c hcm => ?_) ?_ ?_
  · rw [keysL]
    exact in_l _ (hc g hg g2 c hcm) rfl
  · rw [keysL]
    exact gl
  · rw [ligs_eq, keysL]
    omega
def Closed (l : List Str) : Prop := ∀ g ∈ l, 1 < g.length → ∀ c ∈ g.cps.toList, one c ∈ l
def Vals1 (r : Rows) : Prop := ∀ x ∈ r, 0 ≤ x.2 ∧ x.2 ≤ 1000000
theorem rows_eq {r : Rows} (nd : (r.map (·.1)).Nodup) : r = (r.map (·.1)).map fun g => (g, (getR r g).getD 0) := by
  rw [List.map_map]
  conv => lhs; rw [← List.map_id r]
  refine List.map_congr_left fun x hx => ?_
  have := (getR_iff nd (g := x.1) (n := x.2)).mpr hx
  simp [this]
theorem val_at {r : Rows} (nd : (r.map (·.1)).Nodup) {x : Str} (h : x ∈ r.map (·.1)) : getR (r.map fun x => (x.1, V.int x.2)) x = some (.int ((getR r x).getD 0)) := by
  obtain ⟨y, hy, rfl⟩ := List.mem_map.mp h
  have e := (getR_iff nd (g := y.1) (n := y.2)).mpr hy
  rw [e]
  unfold getR at e ⊢
  rw [List.find?_map]
  have e2 : ((fun x : Str × V => decide (x.1 = y.1)) ∘ fun x : Str × Int => (x.1, V.int x.2)) = fun x => decide (x.1 = y.1) := by
    funext x
    rfl
  rw [e2, Option.map_map]
  obtain ⟨w, h1, h2⟩ := Option.map_eq_some_iff.mp e
  rw [h1]
  show some (V.int w.2) = _
  rw [h2]
  rfl
section
variable {r : Rows}
theorem perm_sorted : ((r.map (·.1)).mergeSort rankLe).Perm (r.map (·.1)) := List.mergeSort_perm _ _
theorem valsOk (gd : Good r) (hv : Vals1 r) : ∀ g ∈ (r.map (·.1)).mergeSort rankLe, getR (r.map fun x => (x.1, V.int x.2)) g = some (.int ((getR r g).getD 0)) ∧ isName g = true ∧ 0 ≤ (getR r g).getD 0 ∧ (getR r g).getD 0 ≤ 1000000 := fun g hg => by
  have hm := perm_sorted.mem_iff.mp hg
  refine ⟨val_at gd.nd hm, ?_⟩
  obtain ⟨y, hy, rfl⟩ := List.mem_map.mp hm
  rw [(getR_iff gd.nd (g := y.1) (n := y.2)).mpr hy]
  exact ⟨gd.nm y hy, hv y hy⟩
theorem runPA_rows (gd : Good r) (hv : Vals1 r) (hc : Closed (r.map (·.1))) (hl : (ligs r).length ≤ 40) : ∃ r' : Rows, runPA (r.map fun x => (x.1, V.int x.2)) ((r.map (·.1)).mergeSort rankLe) [] = .ok r' ∧ r'.Perm r := by
  have p := perm_sorted (r := r)
  refine ⟨_, runPA_good (fun g => (getR r g).getD 0) (rank_sorted _) (p.nodup_iff.mpr gd.nd) (valsOk gd hv) (fun g hg h1 c hcm => p.mem_iff.mpr (hc g (p.mem_iff.mp hg) h1 c hcm)) (by rw [(p.filter _).length_eq]; exact hl) _ [] rfl, ?_⟩
  have q := p.map fun g => (g, (getR r g).getD 0)
  rw [← rows_eq gd.nd] at q
  exact q
theorem runPA_rows_tm (gd : Good r) (hv : Vals1 r) (hc : Closed (r.map (·.1))) (hl : (ligs r).length = 41) : runPA (r.map fun x => (x.1, V.int x.2)) ((r.map (·.1)).mergeSort rankLe) [] = .error .tm := by
  have p := perm_sorted (r := r)
  exact runPA_over (fun g => (getR r g).getD 0) (rank_sorted _) (p.nodup_iff.mpr gd.nd) (valsOk gd hv) (fun g hg h1 c hcm => p.mem_iff.mpr (hc g (p.mem_iff.mp hg) h1 c hcm)) (by rw [(p.filter _).length_eq]; exact hl)
end
theorem Good.perm {r s : Rows} (g : Good r) (p : s.Perm r) : Good s := ⟨(p.map _).nodup_iff.mpr g.nd, fun x hx => g.nm x (p.mem_iff.mp hx)⟩
theorem getV_cons {g k : Str} {v : V} {r : List (Str × V)} : getR ((k, v) :: r) g = if k = g then some v else getR r g := by
  unfold getR
  rw [List.find?_cons]
  by_cases c : k = g
  · simp [c]
  · simp [c]
theorem keys_same {r : Rows} {g : Str} {n : Int} (h : g ∈ r.map (·.1)) : (putR r g n).map (·.1) = r.map (·.1) := by rw [keys_put, if_pos h]
/-- the four calls of set_advances are refused -/
theorem once_err {r : Rows} (ha : ("a" : Str) ∈ r.map (·.1)) (hg : ("g" : Str) ∈ r.map (·.1)) (hgg : ("gg" : Str) ∉ r.map (·.1)) (hz : ("z" : Str) ∉ r.map (·.1)) (hl : (ligs r).length = 40) : ∀ i, i < 4 → runPA (esO i) (((esO i).map (·.1)).mergeSort rankLe) r = .error (errO i) := by
  have na : isName "a" = true := by decide +kernel
  have la : ("a" : Str).length = 1 := by decide +kernel
  have pa : paRes r "a" (.int 9) = .ok (putR r "a" 9) := pa_one na la (by decide) (by decide)
  have ka : (putR r "a" 9).map (·.1) = r.map (·.1) := keys_same ha
  have eg : one 103 = ("g" : Str) := by decide +kernel
  have ez : one 122 = ("z" : Str) := by decide +kernel
  intro i hi
  match i, hi with
  | 0, _ =>
    have e : ((esO 0).map (·.1)).mergeSort rankLe = (["a", "gg"] : List Str) := rank_same (l := (["a", "gg"] : List Str)) (by decide +kernel)
    rw [e, runPA_ok (r' := putR r "a" 9) (by rw [show getR (esO 0) "a" = some (.int 9) by decide +kernel]; exact pa), runPA_er]
    rw [show getR (esO 0) "gg" = some (.int 5) by decide +kernel]
    refine pa_tm (by decide +kernel) (by decide +kernel) (by decide) (by decide) (fun c hc => ?_) (by rw [ka]; exact hgg) (by rw [ligs_eq, ka, ← ligs_eq]; omega)
    have : c = 103 := by
      have h : (Str.ofString "gg").cps.toList = [103, 103] := by decide +kernel
      rw [h] at hc
      simpa using hc
    rw [this, eg, ka]
    exact hg
  | 1, _ =>
    have e : ((esO 1).map (·.1)).mergeSort rankLe = (["A", "a"] : List Str) := rank_same (l := (["A", "a"] : List Str)) (by decide +kernel)
    rw [e, runPA_er]
    unfold paRes
    rw [if_neg (by decide +kernel)]
    rfl
  | 2, _ =>
    have e : ((esO 2).map (·.1)).mergeSort rankLe = (["a", "b", "ab"] : List Str) := (rank_perm (l := (["ab", "b", "a"] : List Str)) (m := (["a", "b", "ab"] : List Str)) (by decide +kernel)).trans (rank_same (by decide +kernel))
    rw [e, runPA_ok (r' := putR r "a" 9) (by rw [show getR (esO 2) "a" = some (.int 9) by decide +kernel]; exact pa), runPA_er]
    rw [show getR (esO 2) "b" = some (.int (0 - 1)) by decide +kernel]
    show paRes _ "b" (.int (0 - 1)) = .error (.inn (.int (0 - 1)))
    unfold paRes
    rw [if_pos (by decide +kernel)]
    exact if_neg (by decide)
  | 3, _ =>
    have e : ((esO 3).map (·.1)).mergeSort rankLe = (["a", "zz"] : List Str) := rank_same (l := (["a", "zz"] : List Str)) (by decide +kernel)
    rw [e, runPA_ok (r' := putR r "a" 9) (by rw [show getR (esO 3) "a" = some (.int 9) by decide +kernel]; exact pa), runPA_er]
    rw [show getR (esO 3) "zz" = some (.int 5) by decide +kernel]
    have hm : missing (putR r "a" 9) "zz" = some 122 := by
      unfold missing
      have h : (Str.ofString "zz").cps.toList = [122, 122] := by decide +kernel
      rw [h]
      have n : getR (putR r "a" 9) (one 122) = none := getR_none (by rw [ka, ez]; exact hz)
      rw [List.find?_cons_of_pos (by rw [n]; rfl)]
    show paRes _ "zz" (.int 5) = .error (.ug "z")
    unfold paRes
    rw [if_pos (by decide +kernel)]
    show (if (0 : Int) ≤ 5 ∧ (5 : Int) ≤ 1000000 then _ else _) = _
    rw [if_pos (by decide), if_pos (by decide +kernel), hm, ← ez]
/-! ### rows of two letters -/
def prodR (ls ms : List Str) : List Str := ls.flatMap fun x => ms.map fun y => x ++ y
theorem prodR_step {ls ms : List Str} {i : Nat} {x : Str} (h : ls[i]? = some x) : prodR (ls.take (i + 1)) ms = prodR (ls.take i) ms ++ ms.map fun y => x ++ y := by
  unfold prodR
  rw [List.take_add_one, h, List.flatMap_append]
  simp
theorem prodR_len {ls ms : List Str} : (prodR ls ms).length = ls.length * ms.length := by
  unfold prodR
  induction ls with
  | nil => simp
  | cons x ls ih => rw [List.flatMap_cons, List.length_append, List.length_map, ih, List.length_cons, Nat.succ_mul]; omega
def chars (z : Str) : List Str := z.cps.toList.map one
theorem cut_take {l : List V} {n : Nat} (h : n ≤ l.length) : cutV l none (some (n : Int)) = l.take n := by
  unfold cutV
  rw [HT.sIx_none, HT.sIx_nat, List.drop_zero, Nat.min_eq_left h, Nat.sub_zero]
theorem cut_drop {l : List V} {n : Nat} (h : n ≤ l.length) : cutV l (some (n : Int)) none = l.drop n := by
  unfold cutV
  rw [HT.sIx_none, HT.sIx_nat, Nat.min_eq_left h]
  exact List.take_of_length_le (by rw [List.length_drop]; exact Nat.le_refl _)
theorem resO_dp {K : PySem.W.Frag} {H : Hp} (i : Nat) : ∃ ds, DpAll K H (resO i) ds ∧ SeqAt.shaped (.list ds) = true ∧ PyData.eqv (.list ds) (.list ds) = true := by
  match i with
  | 0 => exact ⟨[.str "TooMany", .int 40], .cons (.str _) (.cons (.int _) .nil), by decide +kernel, by decide +kernel⟩
  | 1 => exact ⟨[.str "InvalidGlyph", .str "A"], .cons (.str _) (.cons (.str _) .nil), by decide +kernel, by decide +kernel⟩
  | 2 => exact ⟨[.str "InvalidNumber", .int (0 - 1)], .cons (.str _) (.cons (.int _) .nil), by decide +kernel, by decide +kernel⟩
  | i + 3 => exact ⟨[.str "UnknownGlyph", .str "z"], .cons (.str _) (.cons (.str _) .nil), by decide +kernel, by decide +kernel⟩

def sp_law_full (K : PySem.W.Frag) (a : Ad) : Sp := sp1 fun x H Q _ => ∃ n : Int, x = .int n ∧ 0 ≤ n ∧ n ≤ 1000000 ∧ Tab a H ∧ ∀ H', Ex H H' → Tab a H' → Q (.bl true) H'
def fullG : List Str := chars "abcdefg" ++ (prodR (chars "abcdef") (chars "abcdefg")).take 40
theorem fullG_nd : fullG.Nodup := by decide +kernel
theorem fullG_nm : ∀ g ∈ fullG, isName g = true := by decide +kernel
theorem fullG_len : fullG.length = 47 := by decide +kernel
theorem fullG_cl : Closed fullG := by
  have h : (fullG.all fun g => !decide (1 < g.length) || g.cps.toList.all fun c => decide (one c ∈ fullG)) = true := by decide +kernel
  intro g hg h1 c hc
  have h2 := List.all_eq_true.mp h g hg
  rw [decide_eq_true h1] at h2
  exact of_decide_eq_true (List.all_eq_true.mp h2 c hc)
theorem fullG_lig : (fullG.filter isLig).length = 40 := by decide +kernel
theorem abc_get {z : Str} {i c : Nat} (h : z.cps[i]? = some c) : (chars z)[i]? = some (one c) := by
  unfold chars
  rw [List.getElem?_map, Array.getElem?_toList, h]
  rfl
theorem ok_law_full {P : Program} {w : World} {K : PySem.W.Frag} {mg : Str → Option Value} {base : Heap} {a : Ad} (T : Txt P K mg base a) : FnOk P w K mg base CX0 10 a.f_law_full a.d_law_full (["_law_number"] : List Str) (sp_law_full K a) := by
  refine T.F_law_full.ok sc_law_full (fun vs H Q E h => sp1_len h) (fun cdv A outer s H vs Q E hr h => ?_)
  have hu := hu_of hr
  refine ⟨_, (pss_cons (ps_set (i := 1) sc_law_full.nd rfl (Or.inl rfl) (pe_lst pa_nil))
      (pss_cons (ps_for PassesOwn.never rfl (pi_str pe_str) (pg_name (i := 2) sc_law_full.nd rfl (Or.inl rfl)) (pss_one (ps_for PassesOwn.never rfl (pi_str pe_str) (pg_name (i := 3) sc_law_full.nd rfl (Or.inl rfl)) (pss_one (ps_expr (pe_bm PySem.F.plainAttrs_list PySem.F.slot_list_append PySem.F.type_list_append mt_append (pv 1) (pa_cons (pe_op qo_addS (pv 2) (pv 3)) pa_nil)))))))
      (pss_cons (ps_set (i := 4) sc_law_full.nd rfl (Or.inl rfl) (pe_lst (pa_cons pe_dnewK (pa_cons pe_dnewK (pa_cons (pv 0) pa_nil)))))
      (pss_cons (ps_for PassesOwn.never rfl (pi_list (pe_op op_cat (pe_callTy (call_listTx rfl) (by rfl) T.n_list bb_list (pa_cons pe_str pa_nil)) (pe_slice sl_list (pv 1) po_none (po_some pe_int)))) (pg_name (i := 5) sc_law_full.nd rfl (Or.inl rfl)) (pss_one (ps_dput hu (pe_ix ix_list (pv 4) pe_int (fun _ _ => rfl)) (pv 5) (pv 0) rfl)))
      (pss_cons (ps_set (i := 6) sc_law_full.nd rfl (Or.inl rfl) (pe_mkKS T.M_Font (ok_Font_init T) (hr.mono (by decide)) rfl T.g_Font T.KB2_blank_Font_init (fun σ => passAt takes0 σ) (pa_cons (pe_callTy call_dictD (by rfl) T.n_dict bb_dict (pa_cons (pe_ix ix_list (pv 4) pe_int (fun _ _ => rfl)) pa_nil)) (pa_cons pe_non pa_nil)) (pk_cons (pv 0) pk_nil)))
      (pss_cons (ps_set (i := 7) sc_law_full.nd rfl (Or.inl rfl) (pe_lst (pa_cons (pe_lst (pa_cons pe_str (pa_cons pe_int pa_nil))) (pa_cons (pe_lst (pa_cons pe_str (pa_cons pe_str pa_nil))) (pa_cons (pe_lst (pa_cons pe_str (pa_cons (pe_op op_sub pe_int pe_int) pa_nil))) (pa_cons (pe_lst (pa_cons pe_str (pa_cons pe_str pa_nil))) pa_nil))))))
      (pss_cons (ps_for PassesOwn.never rfl (pi_range1 (by rfl) T.n_range (pa_cons pe_int pa_nil)) (pg_name (i := 8) sc_law_full.nd rfl (Or.inl rfl)) (pss_one (ps_if (PW.pt (pw_or (pt_cmpR (op_neD hr.units) (pe_call (ok_law_at_once T) (hr.mono (by decide)) rfl T.g_law_at_once T.k_law_at_once T.B_law_at_once .nil pass0 (pa_cons (pv 6) (pa_cons (pv 8) pa_nil))) (pe_ix ix_list (pv 7) (pv 8) (fun _ _ => rfl)) (nomark _)) (pw_or (pt_not (pt_val (pe_call (ok_law_agrees T) (hr.mono (by decide)) rfl T.g_law_agrees T.k_law_agrees T.B_law_agrees .nil pass0 (pa_cons (pv 6) (pa_cons (pv 4) pa_nil))))) (pw_or1 (pt_cmpR op_ne (pe_prop (pv 6) T.c_Font T.P_Font_changes (ok_Font_changes T) (hr.mono (by decide)) T.B_Font_changes .nil pass0 rfl) pe_int (nomark _)))))) (pss_one (ps_ret pe_bl)) pss_nil)))
      (pss_one (ps_ret (pe_cmpR op_eq (pe_callB (call_lenO T.M_Font_len.at_ T.M_Font_len.fn (ok_Font_len T) (hr.mono (by decide)) T.B_Font_len) (by rfl) T.n_len bb_len (pa_cons (pv 6) pa_nil)) pe_int (nomark _))))))))))), ?_⟩
  try dsimp only [L2.cxOf]
  obtain ⟨x, rfl, n, rfl, n0, n1, tb, k⟩ := h
  rw [show L2.start (["_law_number", "_law_rows", "_law_left", "_law_right", "_law_face", "_law_glyph", "_law_font", "_law_due", "_law_way"] : List Str) [(.int n)] = ([some ((.int n)), none, none, none, none, none, none, none, none] : L2.St) from rfl]
  have sz : sizeLine = 16777216 := by decide
  have l6 : (Str.ofString "abcdef").cps.size = 6 := by decide +kernel
  have l7 : (Str.ofString "abcdefg").cps.size = 7 := by decide +kernel
  have c7 : (chars (Str.ofString "abcdefg")).length = 7 := by decide +kernel
  have c6 : (chars (Str.ofString "abcdef")).length = 6 := by decide +kernel
  have tk7 : (chars (Str.ofString "abcdefg")).take 7 = chars (Str.ofString "abcdefg") := List.take_of_length_le (by rw [c7]; exact Nat.le_refl _)
  have tk6 : (chars (Str.ofString "abcdef")).take 6 = chars (Str.ofString "abcdef") := List.take_of_length_le (by rw [c6]; exact Nat.le_refl _)
  walk_at "w"
  refine ⟨by show 0 ≤ sizeLine; omega, fun q nq => ?_⟩
  walk_at "w"
  refine ⟨_, rfl, turnsW walk_str (fun i σ' H' => Ex H H' ∧ Tab a H' ∧ H' q = some (.lst ((prodR ((chars (Str.ofString "abcdef")).take i) (chars (Str.ofString "abcdefg"))).map V.str)) ∧ ∃ l0 r0, σ' = [some (.int n), some (.ref q), l0, r0, none, none, none, none, none]) ⟨Ex.new nq, Tab.new tb nq, upd_same, _, _, rfl⟩ (fun _ _ _ _ _ => trivial) ?_ ?_⟩
  · rintro i x σ' H1 H' hi ⟨x1, t1, e1, l0, r0, rfl⟩ ⟨rfl, c, hc, rfl⟩
    have hx := abc_get hc
    rw [l6] at hi
    walk_at "w"
    refine ⟨_, rfl, turnsW walk_str (fun j σ' H' => Ex H H' ∧ Tab a H' ∧ H' q = some (.lst ((prodR ((chars (Str.ofString "abcdef")).take i) (chars (Str.ofString "abcdefg")) ++ ((chars (Str.ofString "abcdefg")).take j).map fun y => one c ++ y).map V.str)) ∧ ∃ r0, σ' = [some (.int n), some (.ref q), some (.str (one c)), r0, none, none, none, none, none]) ⟨x1, t1, by rw [List.take_zero, List.map_nil, List.append_nil]; exact e1, _, rfl⟩ (fun _ _ _ _ _ => trivial) ?_ ?_⟩
    · rintro j x σ' H2 H' hj ⟨x2, t2, e2, r0, rfl⟩ ⟨rfl, d, hd, rfl⟩
      have hy := abc_get hd
      rw [l7] at hj
      walk_at "w"
      refine ⟨.inl ⟨rfl, _, SqL.of e2⟩, ?_⟩
      walk_at "w"
      refine w_addS (by show 1 + 1 ≤ sizeLine; rw [sz]; decide) ?_
      walk_at "w"
      refine ⟨q, _, _, rfl, rfl, e2, ?_, ?_⟩
      · rw [List.length_map, List.length_append, prodR_len, List.length_map, List.length_take, List.length_take, c6, c7, sz]
        have : min i 6 * 7 ≤ 6 * 7 := Nat.mul_le_mul_right 7 (by omega)
        omega
      · walk_at "w"
        refine ⟨x2.updN (New.of nq), Tab.upd t2 e2 trivial, ?_, _, rfl⟩
        rw [upd_same, List.take_add_one, hy, List.map_append, List.map_append, List.map_append, List.map_append, List.append_assoc]
        rfl
    · rintro σ' H2 ⟨x2, t2, e2, r0, rfl⟩
      refine ⟨x2, t2, ?_, _, _, rfl⟩
      rw [prodR_step hx, e2, l7, tk7]
  · rintro σ' H1 ⟨x1, t1, e1, l0, r0, rfl⟩
    rw [l6, tk6] at e1
    have plen : (prodR (chars (Str.ofString "abcdef")) (chars (Str.ofString "abcdefg"))).length = 42 := by rw [prodR_len, c6, c7]
    walk_at "w"
    intro f0 nf0
    walk_at "w"
    intro f1 nf1
    walk_at "w"
    refine ⟨by show 3 ≤ sizeLine; rw [sz]; decide, fun fa nfa => ?_⟩
    have nf10 : f1 ≠ f0 := (none_of nf1).1
    have e0 : (upd (upd (upd H1 f0 (.dK [])) f1 (.dK [])) fa (.lst [.ref f0, .ref f1, .int n])) f0 = some (.dK []) := upd_old (upd_old upd_same nf1) nfa
    have e1' : (upd (upd (upd H1 f0 (.dK [])) f1 (.dK [])) fa (.lst [.ref f0, .ref f1, .int n])) f1 = some (.dK []) := upd_old upd_same nfa
    have ea : (upd (upd (upd H1 f0 (.dK [])) f1 (.dK [])) fa (.lst [.ref f0, .ref f1, .int n])) fa = some (.lst [.ref f0, .ref f1, .int n]) := upd_same
    have xx : Ex H1 (upd (upd (upd H1 f0 (.dK [])) f1 (.dK [])) fa (.lst [.ref f0, .ref f1, .int n])) := ((Ex.new nf0).trans (Ex.new nf1)).trans (Ex.new nfa)
    have tt : Tab a (upd (upd (upd H1 f0 (.dK [])) f1 (.dK [])) fa (.lst [.ref f0, .ref f1, .int n])) := Tab.new (Tab.new (Tab.new t1 nf0) nf1) nfa
    have nf0H : New H f0 := New.back (New.of nf0) x1
    have nf1H : New H f1 := New.back (New.of (none_of nf1).2) x1
    generalize (upd (upd (upd H1 f0 (.dK [])) f1 (.dK [])) fa (.lst [.ref f0, .ref f1, .int n])) = H2 at e0 e1' ea xx tt ⊢
    have x2 := x1.trans xx
    have eq2 := xx _ _ e1 trivial
    walk_at "w"
    refine ⟨_, rfl, by rw [l7, sz]; decide, fun q1 nq1 => ?_⟩
    walk_at "w"
    refine w_slL (SqL.of (upd_old eq2 nq1)) fun q2 nq2 => ?_
    rw [show cutV ((prodR (chars (Str.ofString "abcdef")) (chars (Str.ofString "abcdefg"))).map V.str) none (some 40) = ((prodR (chars (Str.ofString "abcdef")) (chars (Str.ofString "abcdefg"))).take 40).map V.str from by
      rw [List.map_take]
      exact cut_take (n := 40) (by rw [List.length_map, plen]; decide)]
    refine w_cat (upd_old upd_same nq2) upd_same (by rw [List.length_map, List.length_map, List.length_take, plen, Array.length_toList, l7, sz]; decide) fun gl ngl => ?_
    rw [show ((Str.ofString "abcdefg").cps.toList.map fun c => V.str ⟨#[c]⟩) ++ ((prodR (chars (Str.ofString "abcdef")) (chars (Str.ofString "abcdefg"))).take 40).map V.str = fullG.map V.str from by
      unfold fullG chars
      rw [List.map_append, List.map_map]
      rfl]
    generalize hH3 : (upd (upd H2 q1 _) q2 _) = H3 at ngl ⊢
    have x23 : Ex H2 H3 := by
      rw [← hH3]
      exact (Ex.new nq1).trans (Ex.new nq2)
    have t3 : Tab a H3 := by
      rw [← hH3]
      exact Tab.new (Tab.new tt nq1) nq2
    have e03 := x23 _ _ e0 trivial
    have e13 := x23 _ _ e1' trivial
    have ea3 := x23 _ _ ea trivial
    have x3 := x2.trans x23
    clear hH3 nq1 nq2 eq2 x23 e0 e1' ea tt xx e1 t1 x1 x2
    walk_at "w"
    have gl4 : (upd H3 gl (.lst (fullG.map V.str))) gl = some (.lst (fullG.map V.str)) := upd_same
    refine ⟨gl, rfl, ⟨_, SqL.of gl4⟩, turnsW (walk_list (xs := fullG.map V.str)) (fun i σ' H' => Ex H H' ∧ Tab a H' ∧ H' f0 = some (.dK (encR ((fullG.take i).map fun g => (g, n)))) ∧ H' f1 = some (.dK []) ∧ H' fa = some (.lst [.ref f0, .ref f1, .int n]) ∧ H' gl = some (.lst (fullG.map V.str)) ∧ ∃ g0, σ' = [some (.int n), some (.ref q), l0, r0, some (.ref fa), g0, none, none, none]) ⟨x3.trans (Ex.new ngl), Tab.new t3 ngl, upd_old e03 ngl, upd_old e13 ngl, upd_old ea3 ngl, gl4, _, rfl⟩ (fun i σ' H' _ ⟨_, _, _, _, _, e, _⟩ => SqL.of e) ?_ ?_⟩
    · rintro i x σ' H5 H' hi ⟨x5, t5, e5, e51, e5a, e5g, g0, rfl⟩ ⟨rfl, hx⟩
      rw [List.getElem?_map] at hx
      obtain ⟨g, hg, rfl⟩ := Option.map_eq_some_iff.mp hx
      rw [List.length_map, fullG_len] at hi
      walk_at "w"
      refine ⟨f0, _, rfl, DPut.k (k := (Sum.inr g : L2.Key)) e5 ?_, ?_⟩
      · rw [sz]
        simp only [encR, List.length_map, List.length_take]
        omega
      · rw [put_encR, putR_new (by
          rw [keysL (v := fun _ => n)]
          intro hm
          obtain ⟨hi', eg⟩ := List.getElem?_eq_some_iff.mp hg
          have nd := fullG_nd
          rw [← List.take_append_drop i fullG, List.drop_eq_getElem_cons hi', eg] at nd
          exact (List.nodup_append.mp nd).2.2 g hm g List.mem_cons_self rfl)]
        refine ⟨x5.updN nf0H, Tab.upd t5 e5 trivial, ?_, by rw [upd_ne nf10]; exact e51, by rw [upd_ne (ne_of e5a e5 (by intro z; cases z))]; exact e5a, by rw [upd_ne (ne_of e5g e5 (by intro z; cases z))]; exact e5g, _, rfl⟩
        rw [upd_same, List.take_add_one, hg, List.map_append]
        rfl
    · rintro σ' H5 ⟨x5, t5, e5, e51, e5a, e5g, g0, rfl⟩
      rw [List.length_map, List.take_length] at e5
      clear e03 e13 ea3 x3 t3 gl4 ngl
      have gd : Good (fullG.map fun g => (g, n)) := ⟨by rw [keysL (v := fun _ => n)]; exact fullG_nd, fun x hx => by
        obtain ⟨g, hg, rfl⟩ := List.mem_map.mp hx
        exact fullG_nm g hg⟩
      have gv : Vals1 (fullG.map fun g => (g, n)) := fun x hx => by
        obtain ⟨g, hg, rfl⟩ := List.mem_map.mp hx
        exact ⟨n0, n1⟩
      obtain ⟨r', hrun, pm⟩ := runPA_rows gd gv (by rw [keysL (v := fun _ => n)]; exact fullG_cl) (by rw [ligs_eq, keysL (v := fun _ => n), fullG_lig]; exact Nat.le_refl _)
      have gd' : Good r' := gd.perm pm
      have rl : r'.length = 47 := by rw [pm.length_eq, List.length_map, fullG_len]
      have kp : (r'.map (·.1)).Perm fullG := by
        have := pm.map (·.1)
        rw [keysL (v := fun _ => n)] at this
        exact this
      have once := once_err (r := r') (kp.mem_iff.mpr (by decide +kernel)) (kp.mem_iff.mpr (by decide +kernel)) (fun z => absurd (kp.mem_iff.mp z) (by decide +kernel)) (fun z => absurd (kp.mem_iff.mp z) (by decide +kernel)) (by rw [ligs_eq, (kp.filter _).length_eq, fullG_lig])
      walk_at "w"
      refine ⟨f0, _, rfl, .inl e5, fun d nd => ?_⟩
      walk_at "w"
      refine ⟨rfl, rfl, fun z dz nz ndz nzz => ?_⟩
      have nz2 : upd (upd H5 d (.dK (encR (fullG.map fun g => (g, n))))) dz (.own z) z = none := by rw [upd_ne (Ne.symm nzz)]; exact nz
      have xd : Ex H5 (upd (upd (upd H5 d (.dK (encR (fullG.map fun g => (g, n))))) dz (.own z)) z (.ins a.C_Font dz [])) := ((Ex.new nd).trans (Ex.new ndz)).trans (Ex.new nz2)
      have td : Tab a (upd (upd (upd H5 d (.dK (encR (fullG.map fun g => (g, n))))) dz (.own z)) z (.ins a.C_Font dz [])) := Tab.new (Tab.new (Tab.new t5 nd) ndz) nz2
      have ed : (upd (upd (upd H5 d (.dK (encR (fullG.map fun g => (g, n))))) dz (.own z)) z (.ins a.C_Font dz [])) d = some (.dK (encV ((fullG.map fun g => (g, n)).map fun x => (x.1, V.int x.2)))) := by
        rw [← encR_V]
        exact upd_old (upd_old upd_same ndz) nz2
      have kk : ((fullG.map fun g => (g, n)).map fun x => (x.1, V.int x.2)).map (·.1) = (fullG.map fun g => (g, n)).map (·.1) := by simp
      refine ⟨_, _, _, _, rfl, z, dz, d, (fullG.map fun g => (g, n)).map fun x => (x.1, V.int x.2), n, rfl, rfl, .inl rfl, rfl, upd_same, ed, by rw [kk]; exact gd.nd, by rw [List.length_map, List.length_map, fullG_len]; decide, fun x hx => ?_, fun x hx H' => ?_, n0, n1, td, ?_⟩
      · obtain ⟨y, hy, rfl⟩ := List.mem_map.mp hx
        exact gd.sz y hy
      · obtain ⟨y, hy, rfl⟩ := List.mem_map.mp hx
        exact isI_int _
      rw [kk, hrun]
      intro H6 ro pr pa R6 t6 F6 hp6 w1 w2 w3
      refine ⟨rfl, ?_⟩
      have x56 : Ex H5 H6 := fun w o hw nt => R6 _ _ (xd _ _ hw nt) nt (by simpa using ne_of_none ((Ex.new (o := .dK (encR (fullG.map fun g => (g, n)))) nd) w o hw nt) nz)
      have e60 := x56 _ _ e5 trivial
      have e61 := x56 _ _ e51 trivial
      have e6a := x56 _ _ e5a trivial
      have n5z : New H5 z := New.back (New.of nz) (Ex.new nd)
      have nHz : New H z := New.back n5z x5
      have n5ro : New H5 ro := New.back w1 xd
      have n5pr : New H5 pr := New.back w2 xd
      have x6 := x5.trans x56
      have k6 : ro ≠ f0 ∧ pr ≠ f0 ∧ ro ≠ f1 ∧ pr ≠ f1 ∧ New H ro := ⟨Ne.symm (n5ro.ne e5 trivial), Ne.symm (n5pr.ne e5 trivial), Ne.symm (n5ro.ne e51 trivial), Ne.symm (n5pr.ne e51 trivial), New.back n5ro x5⟩
      clear xd td ed nz nz2 ndz nzz R6 w1 w2 w3 n5ro n5pr x56 e5 e51 e5a e5g x5 t5 nd n5z
      walk_at "w"
      refine ⟨by show 2 ≤ sizeLine; rw [sz]; decide, fun d0 nd0 => ?_⟩
      walk_at "w"
      refine ⟨by show 2 ≤ sizeLine; rw [sz]; decide, fun d1 nd1 => ?_⟩
      walk_at "w"
      refine ⟨by show 2 ≤ sizeLine; rw [sz]; decide, fun d2 nd2 => ?_⟩
      walk_at "w"
      refine ⟨by show 2 ≤ sizeLine; rw [sz]; decide, fun d3 nd3 => ?_⟩
      walk_at "w"
      refine ⟨by show 4 ≤ sizeLine; rw [sz]; decide, fun du ndu => ?_⟩
      generalize hH7 : (upd (upd (upd (upd (upd H6 d0 _) d1 _) d2 _) d3 _) du _) = H7
      have x67 : Ex H6 H7 := by
        rw [← hH7]
        exact ((((Ex.new nd0).trans (Ex.new nd1)).trans (Ex.new nd2)).trans (Ex.new nd3)).trans (Ex.new ndu)
      have t7 : Tab a H7 := by
        rw [← hH7]
        exact Tab.new (Tab.new (Tab.new (Tab.new (Tab.new t6 nd0) nd1) nd2) nd3) ndu
      have edu : H7 du = some (.lst [.ref d0, .ref d1, .ref d2, .ref d3]) := by
        rw [← hH7]
        exact upd_same
      have edi : ∀ i, i < 4 → ∃ w, atI [V.ref d0, .ref d1, .ref d2, .ref d3] ((i : Nat) : Int) = some (.ref w) ∧ H7 w = some (.lst (resO i)) := fun i hi => by
        rw [← hH7]
        match i, hi with
        | 0, _ => exact ⟨d0, rfl, upd_old (upd_old (upd_old (upd_old upd_same nd1) nd2) nd3) ndu⟩
        | 1, _ => exact ⟨d1, rfl, upd_old (upd_old (upd_old upd_same nd2) nd3) ndu⟩
        | 2, _ => exact ⟨d2, rfl, upd_old (upd_old upd_same nd3) ndu⟩
        | 3, _ => exact ⟨d3, rfl, upd_old upd_same ndu⟩
      have F7 := F6.ex x67
      have hp7 := x67 _ _ hp6 trivial
      have e70 := x67 _ _ e60 trivial
      have e71 := x67 _ _ e61 trivial
      have e7a := x67 _ _ e6a trivial
      have x7 := x6.trans x67
      clear hH7 nd0 nd1 nd2 nd3 ndu x67 e60 e61 e6a hp6 F6 x6 t6
      obtain ⟨k61, _, k62, _, k63⟩ := k6
      walk_at "w"
      refine ⟨4, rfl, by decide, by decide, ?_⟩
      refine turnsR (fun i σ' H' => Ex H H' ∧ Tab a H' ∧ ∃ ro pr w0, σ' = [some (.int n), some (.ref q), l0, r0, some (.ref fa), g0, some (.ref z), some (.ref du), w0] ∧ FontAt a H' z dz ro pr pa r' n ∧ H' pa = some (.lst []) ∧ H' f0 = some (.dK (encR (fullG.map fun g => (g, n)))) ∧ H' f1 = some (.dK []) ∧ H' fa = some (.lst [.ref f0, .ref f1, .int n]) ∧
        H' du = some (.lst [.ref d0, .ref d1, .ref d2, .ref d3]) ∧ (∀ i, i < 4 → ∃ w, atI [V.ref d0, .ref d1, .ref d2, .ref d3] ((i : Nat) : Int) = some (.ref w) ∧ H' w = some (.lst (resO i))) ∧ ro ≠ f0 ∧ ro ≠ f1 ∧ New H ro) ⟨x7, t7, ro, pr, _, rfl, F7, hp7, e70, e71, e7a, edu, edi, k61, k62, k63⟩ ?_ ?_
      · rintro i σ' H8 hi ⟨x8, t8, ro8, pr8, w0, rfl, F8, hp8, e80, e81, e8a, e8u, e8i, k1, k2, k3⟩
        have hi4 : i < 4 := hi
        rw [show (0 : Int) + (i : Int) = ((i : Nat) : Int) by omega]
        walk_at "w"
        refine ⟨_, _, rfl, z, dz, ro8, pr8, pa, i, r', n, rfl, rfl, hi4, F8, by omega, gd', once i hi4, t8, fun H9 l ro9 pr9 x9 t9 F9 nr9 np9 e9 => ?_⟩
        have keep : ∀ {b : Addr} {o : HO}, H8 b = some o → NT o → b ≠ z → b ≠ ro8 → H9 b = some o := fun h nt n1 n2 => x9 _ _ h nt (by simp; exact ⟨n1, n2⟩)
        have e9u := keep e8u trivial (ne_of e8u F8.ins (by intro z; cases z)) (ne_of e8u F8.row (by intro z; cases z))
        have e9a := keep e8a trivial (ne_of e8a F8.ins (by intro z; cases z)) (ne_of e8a F8.row (by intro z; cases z))
        have hp9 := keep hp8 trivial (ne_of hp8 F8.ins (by intro z; cases z)) (ne_of hp8 F8.row (by intro z; cases z))
        have e90 := keep e80 trivial (ne_of e80 F8.ins (by intro z; cases z)) (Ne.symm k1)
        have e91 := keep e81 trivial (ne_of e81 F8.ins (by intro z; cases z)) (Ne.symm k2)
        have e9i : ∀ i, i < 4 → ∃ w, atI [V.ref d0, .ref d1, .ref d2, .ref d3] ((i : Nat) : Int) = some (.ref w) ∧ H9 w = some (.lst (resO i)) := fun i hi => by
          obtain ⟨w, h1, h2⟩ := e8i i hi
          exact ⟨w, h1, keep h2 trivial (ne_of h2 F8.ins (by intro z; cases z)) (ne_of h2 F8.row (by intro z; cases z))⟩
        obtain ⟨w, ew, hw⟩ := e9i i hi4
        have x89 : Ex H H9 := fun b o hb nt => keep (x8 _ _ hb nt) nt (nHz.ne hb nt) (k3.ne hb nt)
        walk_at "w"
        refine w_ix (SqL.of e9u) ew ?_
        obtain ⟨ds, dp, sh, eqv⟩ := resO_dp (K := K) (H := H9) i
        refine ⟨.list ds, .list ds, .lst (SqL.of e9) dp, .lst (SqL.of hw) dp, sh, sh, ?_⟩
        rw [eqv]
        walk_at "w"
        refine ⟨_, _, rfl, z, dz, ro9, pr9, pa, fa, f0, f1, r', fullG.map fun g => (g, n), n, rfl, rfl, F9, e9a, e90, e91, pm, gd', by omega, t9, fun H10 x10 t10 => ?_⟩
        walk_at "w"
        refine ⟨z, dz, _, rfl, (F9.ex x10).ins, ?_⟩
        refine ⟨_, rfl, z, dz, ro9, pr9, pa, r', n, [], rfl, F9.ex x10, x10 _ _ hp9 trivial, ?_⟩
        walk_at "w"
        refine it_npos rfl ?_
        walk_at "w"
        exact ⟨x89.trans x10, t10, ro9, pr9, _, rfl, F9.ex x10, x10 _ _ hp9 trivial, x10 _ _ e90 trivial, x10 _ _ e91 trivial, x10 _ _ e9a trivial, x10 _ _ e9u trivial, fun i hi => by
          obtain ⟨w, h1, h2⟩ := e9i i hi
          exact ⟨w, h1, x10 _ _ h2 trivial⟩, Ne.symm (nr9.ne e80 trivial), Ne.symm (nr9.ne e81 trivial), New.back nr9 x8⟩
      · rintro σ' H8 ⟨x8, t8, ro8, pr8, w0, rfl, F8, hp8, e80, e81, e8a, e8u, e8i, k1, k2, k3⟩
        walk_at "w"
        refine w_lenO F8.ins ⟨_, rfl, z, dz, ro8, pr8, pa, r', n, rfl, F8, r'.length, rfl, by omega, ?_⟩
        walk_at "w"
        rw [rl, show decide (V.int ((47 : Nat) : Int) = V.int 47) = true from decide_eq_true rfl]
        exact k _ x8 t8

--CUT
theorem w_m1 {σ : L2.St} {H : Hp} {Q : VK} {r : V → List V → Hp → VK → Prop} {to te : TE} (k : to σ H fun x H1 => (∃ a, x = .str a) ∧ te σ H1 fun y H2 => r x [y] H2 Q) : tM1 r to te σ H Q := k
theorem w_disp1 {tk tv : TE} {σ : L2.St} {H : Hp} {Q : VK} (k : ∀ p, H p = none → tk σ (upd H p (.dK [])) fun x H1 => tv σ H1 fun y H2 => H2 p = some (.dK []) ∧ ∃ kvs : List (L2.Key × V), [(x, y)] = kvs.map (fun kv => (kV kv.1, kv.2)) ∧ kvs.length ≤ 15 ∧ Q (.ref p) (upd H2 p (.dK (mergeK [] kvs)))) : tDisp [(tk, tv)] σ H Q := k
local macro_rules | `(tactic| walk_at "s") => `(tactic| first
  | with_reducible refine w_m1 ?_
  | with_reducible refine w_disp1 ?_)
theorem join_cps : ∀ ys : List Str, (Txt.join (Str.ofString "") ys).cps.toList = ys.flatMap fun y => y.cps.toList := by
  intro ys
  rw [TL.join_eq]
  induction ys with
  | nil => rfl
  | cons x r ih =>
    cases r with
    | nil => simp [Str.join]
    | cons z r =>
      show (x ++ Str.ofString "" ++ Str.join (Str.ofString "") (z :: r)).cps.toList = _
      have e0 : (Str.ofString "").cps.toList = [] := by decide +kernel
      rw [cps_app, cps_app, ih, e0, List.append_nil]
      rfl
theorem one_inj {a b : Nat} (h : one a = one b) : a = b := by
  have := congrArg (fun z : Str => z.cps.toList) h
  simpa [one] using this
theorem name_one {c : Nat} (h : 97 ≤ c ∧ c ≤ 122) : isName (one c) = true := by
  unfold isName
  have e : (one c).cps.toList = [c] := rfl
  rw [e, decide_eq_true (show 1 ≤ (one c).length ∧ (one c).length ≤ 6 from ⟨Nat.le_refl 1, by show 1 ≤ 6; decide⟩)]
  simp
  exact h
theorem tw_cps {a b : Nat} : (one a ++ one b).cps.toList = [a, b] := by rw [cps_app]; rfl
theorem tw_len {a b : Nat} : (one a ++ one b).length = 2 := by rw [lenA]; rfl
theorem tw_inj {a b c d : Nat} (h : one a ++ one b = one c ++ one d) : a = c ∧ b = d := by
  have := congrArg (fun z : Str => z.cps.toList) h
  rw [tw_cps, tw_cps] at this
  simpa using this
theorem name_two {a b : Nat} (ha : 97 ≤ a ∧ a ≤ 122) (hb : 97 ≤ b ∧ b ≤ 122) : isName (one a ++ one b) = true := by
  unfold isName
  rw [tw_cps, tw_len]
  simp
  omega
/-- seven letters -/
structure Lets (cs : List Nat) : Prop where
  len : cs.length = 7
  nd : cs.Nodup
  rg : ∀ c ∈ cs, 97 ≤ c ∧ c ≤ 122
def codL (st t : Int) : List Nat := (List.range 7).map fun k : Nat => 97 + ((st + (k : Int) * (2 * t + 1)) % 26).toNat
theorem codL_eq (st t : Int) : ((List.range 7).map fun k => V.str (letterAt st (2 * t + 1) k)) = ((codL st t).map one).map V.str := by
  unfold codL
  rw [List.map_map, List.map_map]
  rfl
theorem codL_ok {st t : Int} (_s0 : 0 ≤ st) (_s1 : st < 26) (t0 : 0 ≤ t) (t1 : t < 6) : Lets (codL st t) := by
  refine ⟨by simp [codL], ?_, fun c hc => ?_⟩
  · unfold codL List.Nodup
    rw [List.pairwise_map]
    refine List.Pairwise.imp_of_mem (fun {a b} ha hb hab => ?_) List.pairwise_lt_range
    have ha' := List.mem_range.mp ha
    have hb' := List.mem_range.mp hb
    intro e
    have h1 := Int.emod_nonneg (st + (a : Int) * (2 * t + 1)) (show (26 : Int) ≠ 0 by decide)
    have h2 := Int.emod_nonneg (st + (b : Int) * (2 * t + 1)) (show (26 : Int) ≠ 0 by decide)
    have h3 : (st + (a : Int) * (2 * t + 1)) % 26 = (st + (b : Int) * (2 * t + 1)) % 26 := by omega
    have h4 : t = 0 ∨ t = 1 ∨ t = 2 ∨ t = 3 ∨ t = 4 ∨ t = 5 := by omega
    rcases h4 with rfl | rfl | rfl | rfl | rfl | rfl <;> omega
  · obtain ⟨k, _, rfl⟩ := List.mem_map.mp hc
    have h1 := Int.emod_nonneg (st + (k : Int) * (2 * t + 1)) (show (26 : Int) ≠ 0 by decide)
    have h2 := Int.emod_lt_of_pos (st + (k : Int) * (2 * t + 1)) (show (0 : Int) < 26 by decide)
    omega
/-- 49 rows of two of them -/
structure Rws (cs : List Nat) (rs : List Str) : Prop where
  len : rs.length = 49
  nd : rs.Nodup
  nm : ∀ z ∈ rs, isName z = true ∧ z.length = 2 ∧ ∀ c ∈ z.cps.toList, c ∈ cs
section
variable {cs : List Nat} (L : Lets cs)
theorem row_mem {z : Str} : z ∈ prodR (cs.map one) (cs.map one) ↔ ∃ a ∈ cs, ∃ b ∈ cs, z = one a ++ one b := by
  unfold prodR
  rw [List.mem_flatMap]
  constructor
  · rintro ⟨x, hx, hz⟩
    obtain ⟨a, ha, rfl⟩ := List.mem_map.mp hx
    obtain ⟨y, hy, rfl⟩ := List.mem_map.mp hz
    obtain ⟨b, hb, rfl⟩ := List.mem_map.mp hy
    exact ⟨a, ha, b, hb, rfl⟩
  · rintro ⟨a, ha, b, hb, rfl⟩
    exact ⟨_, List.mem_map.mpr ⟨a, ha, rfl⟩, List.mem_map.mpr ⟨_, List.mem_map.mpr ⟨b, hb, rfl⟩, rfl⟩⟩
include L
theorem rows_nd : (prodR (cs.map one) (cs.map one)).Nodup := by
  unfold prodR List.Nodup
  rw [List.pairwise_flatMap]
  refine ⟨fun x hx => ?_, ?_⟩
  · obtain ⟨a, ha, rfl⟩ := List.mem_map.mp hx
    rw [List.map_map, List.pairwise_map]
    exact List.Pairwise.imp (fun {b c} h e => h (tw_inj e).2) L.nd
  · rw [List.pairwise_map]
    refine List.Pairwise.imp (fun {a b} h x hx y hy e => ?_) L.nd
    obtain ⟨x', hx', rfl⟩ := List.mem_map.mp hx
    obtain ⟨c, _, rfl⟩ := List.mem_map.mp hx'
    obtain ⟨y', hy', rfl⟩ := List.mem_map.mp hy
    obtain ⟨d, _, rfl⟩ := List.mem_map.mp hy'
    exact h (tw_inj e).1
theorem rows_ok {u : Nat} : Rws cs ((prodR (cs.map one) (cs.map one)).drop u ++ (prodR (cs.map one) (cs.map one)).take u) := by
  have p : ((prodR (cs.map one) (cs.map one)).drop u ++ (prodR (cs.map one) (cs.map one)).take u).Perm (prodR (cs.map one) (cs.map one)) := by
    have := List.perm_append_comm (l₁ := (prodR (cs.map one) (cs.map one)).drop u) (l₂ := (prodR (cs.map one) (cs.map one)).take u)
    rw [List.take_append_drop] at this
    exact this
  refine ⟨?_, p.nodup_iff.mpr (rows_nd L), fun z hz => ?_⟩
  · rw [p.length_eq, prodR_len, List.length_map, L.len]
  · obtain ⟨a, ha, b, hb, rfl⟩ := row_mem.mp (p.mem_iff.mp hz)
    refine ⟨name_two (L.rg a ha) (L.rg b hb), tw_len, fun c hc => ?_⟩
    rw [tw_cps] at hc
    rcases List.mem_cons.mp hc with rfl | hc
    · exact ha
    · rw [List.mem_singleton.mp hc]
      exact hb
theorem lets_nd : (cs.map one).Nodup := by
  unfold List.Nodup
  rw [List.pairwise_map]
  exact List.Pairwise.imp (fun {a b} h e => h (one_inj e)) L.nd
end
theorem fold_new (n : Int) : ∀ (cs : List Nat) (r : Rows), cs.Nodup → (∀ c ∈ cs, one c ∉ r.map (·.1)) → cs.foldl (fun r c => putR r (one c) n) r = r ++ (cs.map one).map fun g => (g, n)
  | [], r, _, _ => by simp
  | c :: cs, r, nd, h => by
    rw [List.nodup_cons] at nd
    rw [List.foldl_cons, putR_new (h c List.mem_cons_self), fold_new n cs _ nd.2 fun d hd z => ?_]
    · simp
    · rw [List.map_append, List.mem_append] at z
      rcases z with z | z
      · exact h d (List.mem_cons_of_mem _ hd) z
      · have e : one d = one c := by simpa using z
        exact nd.1 (by rw [← one_inj e]; exact hd)
theorem putR_again {r : Rows} {g : Str} {n : Int} (h : ∀ x ∈ r, x.1 = g → x.2 = n) (hm : g ∈ r.map (·.1)) : putR r g n = r := by
  unfold putR
  rw [if_pos]
  · conv => rhs; rw [← List.map_id r]
    refine List.map_congr_left fun x hx => ?_
    by_cases c : x.1 = g
    · rw [if_pos c, ← h x hx c]
      rfl
    · rw [if_neg c]
      rfl
  · obtain ⟨x, hx, e⟩ := List.mem_map.mp hm
    exact List.any_eq_true.mpr ⟨x, hx, by simpa using e⟩
theorem even_rows {cs : List Nat} (L : Lets cs) {z : Str} {c0 : Nat} (h0 : c0 ∈ cs) (hz : z.cps.toList = cs ++ [c0]) (n : Int) : evenR z n = (cs.map one).map fun g => (g, n) := by
  unfold evenR
  rw [hz, List.foldl_append, fold_new n cs [] L.nd (by simp)]
  show putR ([] ++ (cs.map one).map fun g => (g, n)) (one c0) n = _
  rw [List.nil_append]
  refine putR_again (fun x hx _ => ?_) ?_
  · obtain ⟨y, _, rfl⟩ := List.mem_map.mp hx
    rfl
  · rw [keysL (v := fun _ => n)]
    exact List.mem_map.mpr ⟨c0, h0, rfl⟩
theorem cod_cps (cs : List Nat) : (cs.map one).flatMap (fun y => y.cps.toList) = cs := by
  induction cs with
  | nil => rfl
  | cons c cs ih => rw [List.map_cons, List.flatMap_cons, ih]; rfl
/-- the font behind k rows -/
structure Stg (cs : List Nat) (ks : List Str) (r f : Rows) : Prop where
  pm : r.Perm f
  gd : Good r
  vs : Vals1 r
  keys : (r.map (·.1)).Perm (cs.map one ++ ks)
theorem Vals1.put {r : Rows} {z : Str} {n : Int} (h : Vals1 r) (n0 : 0 ≤ n) (n1 : n ≤ 1000000) : Vals1 (putR r z n) := by
  intro x hx
  unfold putR at hx
  split at hx
  · obtain ⟨y, hy, e⟩ := List.mem_map.mp hx
    split at e
    · rw [← e]
      exact ⟨n0, n1⟩
    · rw [← e]
      exact h y hy
  · rcases List.mem_append.mp hx with h' | h'
    · exact h x h'
    · rw [List.mem_singleton.mp h']
      exact ⟨n0, n1⟩
theorem lig_two {z : Str} (h : z.length = 2) : isLig z = true := by
  unfold isLig
  rw [h]
  rfl
theorem lig_keys {cs : List Nat} {ks : List Str} (h : ∀ z ∈ ks, z.length = 2) : (cs.map one ++ ks).filter isLig = ks := by
  rw [List.filter_append, List.filter_eq_nil_iff.mpr (fun z hz => by
    obtain ⟨c, _, rfl⟩ := List.mem_map.mp hz
    exact fun e => absurd (of_decide_eq_true e) (by show ¬ 1 < 1; decide)), List.nil_append]
  exact List.filter_eq_self.mpr fun z hz => lig_two (h z hz)
section
variable {cs : List Nat} {ks rs : List Str} {r f : Rows} {z : Str} {n : Int}
theorem not_letter (h : z.length = 2) : z ∉ cs.map one := fun m => by
  obtain ⟨c, _, rfl⟩ := List.mem_map.mp m
  cases h
theorem Stg.lig (S : Stg cs ks r f) (h : ∀ z ∈ ks, z.length = 2) : (ligs r).length = ks.length := by
  rw [ligs_eq, (S.keys.filter _).length_eq, lig_keys h]
theorem Stg.cl (S : Stg cs ks r f) (h : ∀ z ∈ ks, z.length = 2 ∧ ∀ c ∈ z.cps.toList, c ∈ cs) : Closed (r.map (·.1)) := fun g hg h1 c hc => by
  rw [S.keys.mem_iff] at hg ⊢
  rcases List.mem_append.mp hg with m | m
  · obtain ⟨d, _, rfl⟩ := List.mem_map.mp m
    exact absurd h1 (by show ¬ 1 < 1; decide)
  · exact List.mem_append_left _ (List.mem_map.mpr ⟨c, (h g m).2 c hc, rfl⟩)
theorem Stg.new (S : Stg cs ks r f) (h2 : z.length = 2) (hk : z ∉ ks) : z ∉ r.map (·.1) := fun m => by
  rcases List.mem_append.mp (S.keys.mem_iff.mp m) with m | m
  · exact not_letter h2 m
  · exact hk m
theorem Stg.let_ (S : Stg cs ks r f) {c : Nat} (h : c ∈ cs) : one c ∈ r.map (·.1) := S.keys.mem_iff.mpr (List.mem_append_left _ (List.mem_map.mpr ⟨c, h, rfl⟩))
theorem Stg.add (S : Stg cs ks r f) (hz : isName z = true) (h2 : z.length = 2) (hk : z ∉ ks) (n0 : 0 ≤ n) (n1 : n ≤ 1000000) : Stg cs (ks ++ [z]) (putR r z n) (putR f z n) := by
  have hn := S.new h2 hk
  refine ⟨putR_perm S.pm hn, S.gd.put hz, S.vs.put n0 n1, ?_⟩
  rw [putR_new hn, List.map_append, ← List.append_assoc]
  exact S.keys.append_right _
theorem Stg.step (S : Stg cs (rs.take k) r f) (R : Rws cs rs) (hk : rs[k]? = some z) (h40 : k < 40) (n0 : 0 ≤ n) (n1 : n ≤ 1000000) : paRes r z (.int n) = .ok (putR r z n) ∧ Stg cs (rs.take (k + 1)) (putR r z n) (putR f z n) := by
  have hz := R.nm z (List.mem_of_getElem? hk)
  have h2 : ∀ z ∈ rs.take k, z.length = 2 := fun z hz => (R.nm z (List.mem_of_mem_take hz)).2.1
  have nk : z ∉ rs.take k := fun m => by
    obtain ⟨hi, e⟩ := List.getElem?_eq_some_iff.mp hk
    have nd := R.nd
    rw [← List.take_append_drop k rs, List.drop_eq_getElem_cons hi, e] at nd
    exact (List.nodup_append.mp nd).2.2 z m z List.mem_cons_self rfl
  refine ⟨pa_two hz.1 (by omega) n0 n1 (fun c hc => S.let_ (hz.2.2 c hc)) (.inr ?_), ?_⟩
  · rw [S.lig h2, List.length_take]
    omega
  · rw [List.take_add_one, hk]
    exact S.add hz.1 hz.2.1 nk n0 n1
theorem Stg.tm (S : Stg cs (rs.take 40) r f) (R : Rws cs rs) {j : Nat} (hj : rs[j]? = some z) (h40 : 40 ≤ j) : paRes r z (.int 5) = .error .tm ∧ z ∉ rs.take 40 := by
  have hz := R.nm z (List.mem_of_getElem? hj)
  have h2 : ∀ z ∈ rs.take 40, z.length = 2 := fun z hz => (R.nm z (List.mem_of_mem_take hz)).2.1
  have nk : z ∉ rs.take 40 := fun m => by
    have nd := R.nd
    have md : z ∈ rs.drop 40 := by
      refine List.mem_of_getElem? (i := j - 40) ?_
      rw [List.getElem?_drop, show 40 + (j - 40) = j by omega]
      exact hj
    rw [← List.take_append_drop 40 rs] at nd
    exact (List.nodup_append.mp nd).2.2 z m z md rfl
  refine ⟨pa_tm hz.1 (by omega) (by decide) (by decide) (fun c hc => S.let_ (hz.2.2 c hc)) (S.new hz.2.1 nk) ?_, nk⟩
  rw [S.lig h2, List.length_take, R.len]
  decide
theorem Stg.adv (S : Stg cs (rs.take 40) r f) (R : Rws cs rs) {j : Nat} (hj : rs[j]? = some z) (h40 : 40 ≤ j) : Good (putR f z 5) ∧ runPA ((putR f z 5).map fun x => (x.1, V.int x.2)) (((putR f z 5).map (·.1)).mergeSort rankLe) [] = .error .tm := by
  have hz := R.nm z (List.mem_of_getElem? hj)
  have nk := (S.tm R hj h40).2
  have Sf : Stg cs (rs.take 40) f f := ⟨List.Perm.refl _, S.gd.perm S.pm.symm, fun x hx => S.vs x (S.pm.mem_iff.mpr hx), (S.pm.symm.map _).trans S.keys⟩
  have A := Sf.add (n := 5) hz.1 hz.2.1 nk (by decide) (by decide)
  have h2 : ∀ y ∈ rs.take 40 ++ [z], y.length = 2 ∧ ∀ c ∈ y.cps.toList, c ∈ cs := fun y hy => by
    rcases List.mem_append.mp hy with h | h
    · exact (R.nm y (List.mem_of_mem_take h)).2
    · rw [List.mem_singleton.mp h]
      exact hz.2
  refine ⟨A.gd, runPA_rows_tm A.gd A.vs (A.cl h2) ?_⟩
  rw [A.lig fun y hy => (h2 y hy).1, List.length_append, List.length_take, R.len]
  rfl
end
/-- what stands at the end -/
structure Fin (one_ z w : Str) (r : Rows) : Prop where
  a1 : paRes r one_ (.int 1000) = .ok (putR r one_ 1000)
  a2 : paRes (putR r one_ 1000) w (.int 3) = .ok (putR (putR r one_ 1000) w 3)
  a3 : (getR (putR (putR r one_ 1000) w 3) one_).isSome = true
  a4 : paRes (dropR (putR (putR r one_ 1000) w 3) one_) z (.int 5) = .ok (putR (dropR (putR (putR r one_ 1000) w 3) one_) z 5)
  g1 : Good (putR r one_ 1000)
  g2 : Good (putR (putR r one_ 1000) w 3)
  g3 : Good (dropR (putR (putR r one_ 1000) w 3) one_)
  g4 : Good (putR (dropR (putR (putR r one_ 1000) w 3) one_) z 5)
  l0 : r.length = 47
  l1 : (putR r one_ 1000).length = 47
  l2 : (putR (putR r one_ 1000) w 3).length = 48
  l3 : (dropR (putR (putR r one_ 1000) w 3) one_).length = 47
  l4 : (putR (dropR (putR (putR r one_ 1000) w 3) one_) z 5).length = 48
  e1 : (getR (putR (dropR (putR (putR r one_ 1000) w 3) one_) z 5) z).isSome = true
  e2 : (getR (putR (dropR (putR (putR r one_ 1000) w 3) one_) z 5) one_).isSome = false
  e3 : (ligs (putR (dropR (putR (putR r one_ 1000) w 3) one_) z 5)).length = 40
theorem key_len (r : Rows) : r.length = (r.map (·.1)).length := by rw [List.length_map]
theorem Stg.fin {cs : List Nat} {rs : List Str} {r f : Rows} {one_ z : Str} {i c : Nat} (L : Lets cs) (S : Stg cs (rs.take 40) r f) (R : Rws cs rs) (hi : rs[i]? = some one_) (i40 : i < 40) (hz : rs[41]? = some z) (hc : 97 ≤ c ∧ c ≤ 122) (hcs : c ∉ cs) : Fin one_ z (one c) r := by
  have n1 := R.nm one_ (List.mem_of_getElem? hi)
  have nz := R.nm z (List.mem_of_getElem? hz)
  have m1 : one_ ∈ rs.take 40 := List.mem_of_getElem? (i := i) (by rw [List.getElem?_take_of_lt i40]; exact hi)
  have nzk := (S.tm R hz (by decide)).2
  have ne : z ≠ one_ := fun e => nzk (by rw [e]; exact m1)
  have kr : one_ ∈ r.map (·.1) := S.keys.mem_iff.mpr (List.mem_append_right _ m1)
  have k1 : (putR r one_ 1000).map (·.1) = r.map (·.1) := keys_same kr
  have cw : one c ∉ r.map (·.1) := fun m => by
    rcases List.mem_append.mp (S.keys.mem_iff.mp m) with m | m
    · obtain ⟨d, hd, e⟩ := List.mem_map.mp m
      exact hcs (by rw [← one_inj e]; exact hd)
    · have := (R.nm _ (List.mem_of_mem_take m)).2.1
      cases this
  have k2 : (putR (putR r one_ 1000) (one c) 3).map (·.1) = r.map (·.1) ++ [one c] := by
    rw [putR_new (by rw [k1]; exact cw), List.map_append, k1]
    rfl
  have k3 : (dropR (putR (putR r one_ 1000) (one c) 3) one_).map (·.1) = (r.map (·.1) ++ [one c]).filter fun y => decide (y ≠ one_) := by rw [drop_keys, k2]
  have co : one c ≠ one_ := fun e => cw (by rw [e]; exact kr)
  have len0 : (r.map (·.1)).length = 47 := by rw [S.keys.length_eq, List.length_append, List.length_map, L.len, List.length_take, R.len]; rfl
  have ndr := S.gd.nd
  have lf : ((r.map (·.1)).filter fun y => decide (y ≠ one_)).length = 46 := by
    have h := (List.filter_append_perm (fun y => decide (y ≠ one_)) (r.map (·.1))).length_eq
    have h2 : ((r.map (·.1)).filter fun x => !decide (x ≠ one_)).length = 1 := by
      have h3 : (r.map (·.1)).count one_ = 1 := Nat.le_antisymm (List.nodup_iff_count.mp ndr one_) (List.count_pos_iff.mpr kr)
      rw [List.count_eq_length_filter] at h3
      rw [← h3]
      congr 1
      refine List.filter_congr fun x _ => ?_
      by_cases q : x = one_ <;> simp [q]
    rw [List.length_append, h2, len0] at h
    omega
  have k3l : ((dropR (putR (putR r one_ 1000) (one c) 3) one_).map (·.1)).length = 47 := by
    rw [k3, List.filter_append, List.length_append, lf, List.filter_cons_of_pos (by simpa using co)]
    rfl
  have zk3 : z ∉ (dropR (putR (putR r one_ 1000) (one c) 3) one_).map (·.1) := fun m => by
    rw [k3] at m
    rcases List.mem_append.mp (List.mem_filter.mp m).1 with m | m
    · exact S.new nz.2.1 nzk m
    · have e := List.mem_singleton.mp m
      rw [e] at nz
      cases nz.2.1
  have k4 : (putR (dropR (putR (putR r one_ 1000) (one c) 3) one_) z 5).map (·.1) = ((r.map (·.1) ++ [one c]).filter fun y => decide (y ≠ one_)) ++ [z] := by
    rw [putR_new zk3, List.map_append, k3]
    rfl
  have lg3 : (ligs (dropR (putR (putR r one_ 1000) (one c) 3) one_)).length = 39 := by
    have h2 : ∀ z ∈ rs.take 40, z.length = 2 := fun z hz => (R.nm z (List.mem_of_mem_take hz)).2.1
    have hl := S.lig h2
    rw [List.length_take, R.len, ligs_eq] at hl
    rw [ligs_eq, k3, List.filter_append, List.filter_append, List.length_append]
    have e1 : (([one c] : List Str).filter fun y => decide (y ≠ one_)).filter isLig = [] := by
      rw [List.filter_cons_of_pos (by simpa using co)]
      rfl
    rw [e1, List.length_nil, Nat.add_zero, List.filter_filter]
    have h := (List.filter_append_perm (fun y => decide (y ≠ one_)) ((r.map (·.1)).filter isLig)).length_eq
    have h3 : (((r.map (·.1)).filter isLig).filter fun x => !decide (x ≠ one_)).length = 1 := by
      have q1 : one_ ∈ (r.map (·.1)).filter isLig := List.mem_filter.mpr ⟨kr, lig_two n1.2.1⟩
      have h3 : ((r.map (·.1)).filter isLig).count one_ = 1 := Nat.le_antisymm (List.nodup_iff_count.mp (ndr.filter _) one_) (List.count_pos_iff.mpr q1)
      rw [List.count_eq_length_filter] at h3
      rw [← h3]
      congr 1
      refine List.filter_congr fun x _ => ?_
      by_cases q : x = one_ <;> simp [q]
    rw [List.length_append, h3, hl, List.filter_filter] at h
    have e2 : ((r.map (·.1)).filter fun a => isLig a && decide (a ≠ one_)) = (r.map (·.1)).filter fun a => decide (a ≠ one_) && isLig a := List.filter_congr fun x _ => Bool.and_comm _ _
    rw [e2]
    have : min 40 49 = 40 := by decide
    omega
  have G1 := S.gd.put (n := 1000) n1.1
  have G2 := G1.put (n := 3) (name_one hc)
  have G3 := G2.drop (z := one_)
  refine ⟨pa_two n1.1 (by omega) (by decide) (by decide) (fun c hc => S.let_ (n1.2.2 c hc)) (.inl kr), pa_one (name_one hc) rfl (by decide) (by decide), getR_mem.mpr (by rw [k2]; exact List.mem_append_left _ kr),
    pa_two nz.1 (by omega) (by decide) (by decide) (fun d hd => ?_) (.inr (by omega)), G1, G2, G3, G3.put nz.1, by rw [key_len, len0], by rw [key_len, k1, len0], by rw [key_len, k2, List.length_append, len0]; rfl, by rw [key_len, k3l], ?_, ?_, ?_, ?_⟩
  · rw [k3]
    refine List.mem_filter.mpr ⟨List.mem_append_left _ (S.let_ (nz.2.2 d hd)), ?_⟩
    have : one d ≠ one_ := fun e => by
      rw [← e] at n1
      cases n1.2.1
    simpa using this
  · rw [key_len, k4, List.length_append, ← k3, k3l]
    rfl
  · exact getR_mem.mpr (by rw [k4]; simp)
  · rw [getR_none]
    · rfl
    · rw [k4]
      intro m
      rcases List.mem_append.mp m with m | m
      · exact absurd (of_decide_eq_true (List.mem_filter.mp m).2) (by simp)
      · exact ne (List.mem_singleton.mp m).symm
  · rw [ligs_eq, k4, List.filter_append, List.length_append, ← k3, ← ligs_eq, lg3, List.filter_cons_of_pos (lig_two nz.2.1)]
    rfl
theorem nodup_le : ∀ {l m : List Str}, l.Nodup → (∀ x ∈ l, x ∈ m) → l.length ≤ m.length
  | [], m, _, _ => Nat.zero_le _
  | x :: l, m, nd, h => by
    rw [List.nodup_cons] at nd
    have hx := h x List.mem_cons_self
    have := nodup_le (m := m.erase x) nd.2 fun y hy => (List.mem_erase_of_ne (fun e => nd.1 (by rw [← e]; exact hy))).mpr (h y (List.mem_cons_of_mem _ hy))
    rw [List.length_erase_of_mem hx] at this
    have hp : 0 < m.length := List.length_pos_of_mem hx
    rw [List.length_cons]
    omega
theorem inV_str {z : Str} {ss : List Str} : inV (.str z) (ss.map V.str) = decide (z ∈ ss) := by
  unfold inV
  rw [List.any_map, Bool.eq_iff_iff, List.any_eq_true]
  constructor
  · rintro ⟨x, hx, e⟩
    have : x = z := by simpa [eqV] using e
    rw [← this]
    exact decide_eq_true hx
  · intro h
    exact ⟨z, of_decide_eq_true h, by simp [eqV]⟩
theorem free_letter {cs : List Nat} (L : Lets cs) : ∃ c, ((chars "abcdefgh").filter fun z => decide (z ∉ cs.map one))[0]? = some (one c) ∧ (97 ≤ c ∧ c ≤ 122) ∧ c ∉ cs := by
  have l8 : (chars "abcdefgh").length = 8 := by decide +kernel
  have nd8 : (chars "abcdefgh").Nodup := by decide +kernel
  cases q : (chars "abcdefgh").filter fun z => decide (z ∉ cs.map one) with
  | nil =>
    have h : ∀ x ∈ chars "abcdefgh", x ∈ cs.map one := fun x hx => by
      have := List.filter_eq_nil_iff.mp q x hx
      simpa using this
    have := nodup_le nd8 h
    rw [l8, List.length_map, L.len] at this
    omega
  | cons x r =>
    have hx : x ∈ (chars "abcdefgh").filter fun z => decide (z ∉ cs.map one) := by rw [q]; exact List.mem_cons_self
    obtain ⟨h1, h2⟩ := List.mem_filter.mp hx
    have hr : ∀ x ∈ chars "abcdefgh", isName x = true := by decide +kernel
    obtain ⟨c, _, rfl⟩ := List.mem_map.mp h1
    refine ⟨c, rfl, name_cps (hr _ h1) c (by show c ∈ [c]; simp), fun m => ?_⟩
    exact absurd (List.mem_map.mpr ⟨c, m, rfl⟩) (of_decide_eq_true h2)

def sp_law (K : PySem.W.Frag) (a : Ad) : Sp := sp1 fun x H Q _ => ∃ (s : Addr) (ns : List Int), x = .ref s ∧ SqL K H s (ns.map V.int) ∧ ns.length ≤ 63 ∧ Tab a H ∧ ∀ H', Q (.bl true) H'
theorem ok_law {P : Program} {w : World} {K : PySem.W.Frag} {mg : Str → Option Value} {base : Heap} {a : Ad} (T : Txt P K mg base a) (hw : a.w_ = w) : FnOk P w K mg base CX0 11 a.f_law a.d_law (["_law_script"] : List Str) (sp_law K a) := by
  refine T.F_law.ok sc_law (fun vs H Q E h => sp1_len h) (fun cdv A outer s H vs Q E hr h => ?_)
  have hu := hu_of hr
  refine ⟨_, (pss_cons (ps_set (i := 1) sc_law.nd rfl (Or.inl rfl) (pe_call (ok_law_bag T) (hr.mono (by decide)) rfl T.g_law_bag T.k_law_bag T.B_law_bag .nil pass0 (pa_cons (pv 0) pa_nil)))
      (pss_cons (ps_set (i := 2) sc_law.nd rfl (Or.inr rfl) (pe_call (ok_law_letters T) (hr.mono (by decide)) rfl T.g_law_letters T.k_law_letters T.B_law_letters .nil pass0 (pa_cons (pv 1) (pa_cons pe_int pa_nil))))
      (pss_cons (ps_set (i := 3) sc_law.nd rfl (Or.inl rfl) (pe_call (ok_law_take T) (hr.mono (by decide)) rfl T.g_law_take T.k_law_take T.B_law_take .nil pass0 (pa_cons (pv 1) (pa_cons pe_int pa_nil))))
      (pss_cons (ps_set (i := 4) sc_law.nd rfl (Or.inl rfl) (pe_call (ok_law_take T) (hr.mono (by decide)) rfl T.g_law_take T.k_law_take T.B_law_take .nil pass0 (pa_cons (pv 1) (pa_cons pe_int pa_nil))))
      (pss_cons (ps_set (i := 5) sc_law.nd rfl (Or.inl rfl) (pe_call (ok_law_take T) (hr.mono (by decide)) rfl T.g_law_take T.k_law_take T.B_law_take .nil pass0 (pa_cons (pv 1) (pa_cons pe_int pa_nil))))
      (pss_cons (ps_set (i := 6) sc_law.nd rfl (Or.inl rfl) (pe_lst pa_nil))
      (pss_cons (ps_for PassesOwn.never rfl (pi_list (pv 2)) (pg_name (i := 7) sc_law.nd rfl (Or.inl rfl)) (pss_one (ps_for PassesOwn.never rfl (pi_list (pv 2)) (pg_name (i := 8) sc_law.nd rfl (Or.inl rfl)) (pss_one (ps_expr (pe_bm PySem.F.plainAttrs_list PySem.F.slot_list_append PySem.F.type_list_append mt_append (pv 6) (pa_cons (pe_op qo_addS (pv 7) (pv 8)) pa_nil)))))))
      (pss_cons (ps_set (i := 6) sc_law.nd rfl (Or.inl rfl) (pe_op op_cat (pe_slice sl_list (pv 6) (po_some (pv 3)) po_none) (pe_slice sl_list (pv 6) po_none (po_some (pv 3)))))
      (pss_cons (ps_set (i := 9) sc_law.nd rfl (Or.inl rfl) (pe_ix ix_list (pv 6) (pe_call (ok_law_take T) (hr.mono (by decide)) rfl T.g_law_take T.k_law_take T.B_law_take .nil pass0 (pa_cons (pv 1) (pa_cons pe_int pa_nil))) (fun _ _ => rfl)))
      (pss_cons (ps_set (i := 10) sc_law.nd rfl (Or.inl rfl) (pe_lst (pa_cons pe_dnewK (pa_cons pe_dnewK (pa_cons (pv 5) pa_nil)))))
      (pss_cons (ps_for PassesOwn.never rfl (pi_list (pv 2)) (pg_name (i := 11) sc_law.nd rfl (Or.inl rfl)) (pss_one (ps_dput hu (pe_ix ix_list (pv 10) pe_int (fun _ _ => rfl)) (pv 11) (pv 4) rfl)))
      (pss_cons (ps_set (i := 12) sc_law.nd rfl (Or.inl rfl) (pe_cmK (pe_glob (v := .ref a.C_Font) rfl T.g_Font rfl) T.cr_Font T.CM_Font_even (ok_Font_even T) (hr.mono (by decide)) T.KB2_blank_Font_even (fun σ => passAt takes0 σ) (pa_cons (pe_op qo_addS (pe_join pe_str (pv 2)) (pe_ix ix_list (pv 2) pe_int (fun _ _ => rfl))) (pa_cons (pv 4) pa_nil)) (pk_cons (pv 5) pk_nil)))
      (pss_cons (ps_if (PW.pt (pw_or (pt_not (pt_val (pe_call (ok_law_agrees T) (hr.mono (by decide)) rfl T.g_law_agrees T.k_law_agrees T.B_law_agrees .nil pass0 (pa_cons (pv 12) (pa_cons (pv 10) pa_nil))))) (pw_or1 (pt_not (pt_val (pe_call (ok_law_agrees T) (hr.mono (by decide)) rfl T.g_law_agrees T.k_law_agrees T.B_law_agrees .nil pass0 (pa_cons (pe_cmS (pe_glob (v := .ref a.C_Font) rfl T.g_Font rfl) T.cr_Font T.CM_Font_even (ok_Font_even T) (hr.mono (by decide)) T.B2_Font_even T.V2_Font_even (fun σ => passAt takes0 σ) (pa_cons (pe_ix ix_list (pv 2) pe_int (fun _ _ => rfl)) (pa_cons pe_int pa_nil))) (pa_cons (pe_lst (pa_cons (pe_disp (pps_cons (pe_ix ix_list (pv 2) pe_int (fun _ _ => rfl)) pe_int pps_nil) (by rfl) (by rfl) (fun z => by cases z) (by decide)) (pa_cons pe_dnewK (pa_cons pe_int pa_nil)))) pa_nil)))))))) (pss_one (ps_ret pe_bl)) pss_nil)
      (pss_cons (ps_for PassesOwn.never rfl (pi_range1 (by rfl) T.n_range (pa_cons pe_int pa_nil)) (pg_name (i := 13) sc_law.nd rfl (Or.inl rfl)) (pss_cons (ps_expr (pe_mtS (pv 12) T.c_Font T.M_Font_set_advance (ok_Font_set_advance T) (hr.mono (by decide)) T.B_Font_set_advance .nil (fun σ => passAt takes0 σ) (pa_cons (pe_ix ix_list (pv 6) (pv 13) (fun _ _ => rfl)) (pa_cons (pv 13) pa_nil))))
      (pss_one (ps_dput hu (pe_ix ix_list (pv 10) pe_int (fun _ _ => rfl)) (pe_ix ix_list (pv 6) (pv 13) (fun _ _ => rfl)) (pv 13) rfl))))
      (pss_cons (ps_set (i := 14) sc_law.nd rfl (Or.inl rfl) (pe_callTy call_dictD (by rfl) T.n_dict bb_dict (pa_cons (pe_ix ix_list (pv 10) pe_int (fun _ _ => rfl)) pa_nil)))
      (pss_cons (ps_dput hu (pv 14) (pe_ix ix_list (pv 6) pe_int (fun _ _ => rfl)) pe_int rfl)
      (pss_cons (ps_for PassesOwn.never rfl (pi_range1 (by rfl) T.n_range (pa_cons pe_int pa_nil)) (pg_name (i := 15) sc_law.nd rfl (Or.inl rfl)) (pss_one (ps_if (PW.pt (pw_or (pt_not (pt_val (pe_call (ok_law_too_many T hw) (hr.mono (by decide)) rfl T.g_law_too_many T.k_law_too_many T.B_law_too_many .nil pass0 (pa_cons (pv 12) (pa_cons (pv 15) (pa_cons (pe_ix ix_list (pv 6) (pe_op op_add pe_int (pv 15)) (fun _ _ => rfl)) (pa_cons (pv 14) pa_nil))))))) (pw_or1 (pt_not (pt_val (pe_call (ok_law_agrees T) (hr.mono (by decide)) rfl T.g_law_agrees T.k_law_agrees T.B_law_agrees .nil pass0 (pa_cons (pv 12) (pa_cons (pv 10) pa_nil)))))))) (pss_one (ps_ret pe_bl)) pss_nil)))
      (pss_cons (ps_expr (pe_mtS (pv 12) T.c_Font T.M_Font_set_advance (ok_Font_set_advance T) (hr.mono (by decide)) T.B_Font_set_advance .nil (fun σ => passAt takes0 σ) (pa_cons (pv 9) (pa_cons pe_int pa_nil))))
      (pss_cons (ps_expr (pe_mtS (pv 12) T.c_Font T.M_Font_set_advance (ok_Font_set_advance T) (hr.mono (by decide)) T.B_Font_set_advance .nil (fun σ => passAt takes0 σ) (pa_cons (pe_ix ix_list (pe_lc (own := [("_law_letter", 11)]) (g := gName 11) (by rfl) sc_law.nd (pi_str pe_str) (blkOk_by (own := [("_law_letter", 11)]) (N := ["_law_script", "_law_bag_here", "_law_letters_here", "_law_turn", "_law_number", "_law_space", "_law_rows", "_law_left", "_law_right", "_law_one", "_law_face", "_law_letter", "_law_font", "_law_k", "_law_advances", "_law_way"]) (sc := defScope s_law) (by decide +kernel)) (fun _ _ _ _ _ => (pg_name (i := 11) sc_law.nd rfl (Or.inl rfl))) (fun _ _ _ _ _ => (pts_one (pt_cmpR (show OpR _ _ (rIn K true) from op_notIn_seq) (pv 11) (pv 2) (by rfl)))) (fun _ _ _ _ _ => (pv 11))) pe_int (fun _ _ => rfl)) (pa_cons pe_int pa_nil))))
      (pss_cons (ps_expr (pe_mtS (pv 12) T.c_Font T.M_Font_drop (ok_Font_drop T) (hr.mono (by decide)) T.B_Font_drop .nil (fun σ => passAt takes0 σ) (pa_cons (pv 9) pa_nil)))
      (pss_cons (ps_expr (pe_mtS (pv 12) T.c_Font T.M_Font_set_advance (ok_Font_set_advance T) (hr.mono (by decide)) T.B_Font_set_advance .nil (fun σ => passAt takes0 σ) (pa_cons (pe_ix ix_list (pv 6) pe_int (fun _ _ => rfl)) (pa_cons pe_int pa_nil))))
      (pss_cons (ps_if (PW.pt (pw_or (pt_cmpR op_ne (pe_callB (call_lenO T.M_Font_len.at_ T.M_Font_len.fn (ok_Font_len T) (hr.mono (by decide)) T.B_Font_len) (by rfl) T.n_len bb_len (pa_cons (pv 12) pa_nil)) pe_int (nomark _)) (pw_or (pt_cmpR (op_notInO T.M_Font_contains.at_ T.M_Font_contains.fn (ok_Font_contains T) (hr.mono (by decide)) T.B_Font_contains) (pe_ix ix_list (pv 6) pe_int (fun _ _ => rfl)) (pv 12) (by rfl)) (pw_or (pt_cmpR (op_inO T.M_Font_contains.at_ T.M_Font_contains.fn (ok_Font_contains T) (hr.mono (by decide)) T.B_Font_contains) (pv 9) (pv 12) (by rfl)) (pw_or1 (pt_cmpR op_ne (pe_callB qc_len (by rfl) T.n_len bb_len (pa_cons (pe_prop (pv 12) T.c_Font T.P_Font_ligatures (ok_Font_ligatures T) (hr.mono (by decide)) T.B_Font_ligatures .nil pass0 rfl) pa_nil)) pe_int (nomark _))))))) (pss_one (ps_ret pe_bl)) pss_nil)
      (pss_cons (ps_if (PW.pt (pw_or (pt_not (pt_val (pe_call (ok_law_full T) (hr.mono (by decide)) rfl T.g_law_full T.k_law_full T.B_law_full .nil pass0 (pa_cons (pv 4) pa_nil)))) (pw_or (pt_cmpR op_ne (ClX.pe_cval (pe_glob (v := .ref a.C_Font) rfl T.g_Font rfl)) pe_int (nomark _)) (pw_or1 (pt_cmpR op_ne (ClX.pe_cval (pe_glob (v := .ref a.C_Font) rfl T.g_Font rfl)) pe_int (nomark _)))))) (pss_one (ps_ret pe_bl)) pss_nil)
      (pss_one (ps_ret (pe_and (pe_cmpR op_eq (ClX.pe_cval (pe_glob (v := .ref a.C_Font) rfl T.g_Font rfl)) pe_int (nomark _)) (pe_one (pe_cmpR op_eq (ClX.pe_cval (pe_glob (v := .ref a.C_Font) rfl T.g_Font rfl)) pe_int (nomark _))))))))))))))))))))))))))))), ?_⟩
  try dsimp only [L2.cxOf]
  obtain ⟨x, rfl, s0, ns, rfl, hS, hlen, tb, k⟩ := h
  rw [show L2.start (["_law_script", "_law_bag_here", "_law_letters_here", "_law_turn", "_law_number", "_law_space", "_law_rows", "_law_left", "_law_right", "_law_one", "_law_face", "_law_letter", "_law_font", "_law_k", "_law_advances", "_law_way"] : List Str) [(.ref s0)] = ([some ((.ref s0)), none, none, none, none, none, none, none, none, none, none, none, none, none, none, none] : L2.St) from rfl]
  have sz : sizeLine = 16777216 := by decide
  walk_at "w"
  refine ⟨_, rfl, s0, ns, rfl, hS, fun b it H1 nb nit s1 B1 => ?_⟩
  have t1 : Tab a H1 := Tab.same tb s1
  walk_at "w"
  refine ⟨_, _, rfl, b, it, 7, rfl, rfl, B1, by decide, fun l H2 st t D2 nl st0 st1 t0 t6 el => ?_⟩
  rw [codL_eq] at el
  have L := codL_ok st0 st1 t0 t6
  generalize codL st t = cs at el L
  have nlb := (B1.neNew nl).1
  walk_at "w"
  refine ⟨_, _, rfl, b, it, 49, rfl, rfl, D2.bag, by decide, by decide +kernel, fun tu H3 u0 u1 B3 fr3 => ?_⟩
  have D3 : Drew a b it H2 H3 := Drew.take D2.bag B3 fr3
  obtain ⟨u, rfl⟩ := Int.eq_ofNat_of_zero_le u0
  walk_at "w"
  refine ⟨_, _, rfl, b, it, 1000001, rfl, rfl, B3, by decide, by decide +kernel, fun n H4 n0 n1 B4 fr4 => ?_⟩
  have D4 : Drew a b it H2 H4 := D3.trans (Drew.take B3 B4 fr4)
  walk_at "w"
  refine ⟨_, _, rfl, b, it, 1000001, rfl, rfl, B4, by decide, by decide +kernel, fun sp H5 p0 p1 B5 fr5 => ?_⟩
  have D5 : Drew a b it H2 H5 := D4.trans (Drew.take B4 B5 fr5)
  have el5 := D5.at el trivial nlb
  have t5 : Tab a H5 := D5.tab (D2.tab t1)
  have n1' : n ≤ 1000000 := by omega
  have p1' : sp ≤ 1000000 := by omega
  clear fr3 fr4 fr5 D3 D4 D5 B3 B4 el nl D2 B1 s1 nb nit
  have lcs : (cs.map one).length = 7 := by rw [List.length_map]; exact L.len
  walk_at "w"
  refine ⟨by show 0 ≤ sizeLine; omega, fun rw0 nrw => ?_⟩
  have nrwb := B5.neNew (New.of nrw)
  walk_at "w"
  refine ⟨l, rfl, ⟨_, SqL.of (upd_old el5 nrw)⟩, turnsW (walk_list (xs := (cs.map one).map V.str)) (fun i σ' H' => Drew a b it H5 H' ∧ H' rw0 = some (.lst ((prodR ((cs.map one).take i) (cs.map one)).map V.str)) ∧ ∃ l0 r0, σ' = [some (.ref s0), some (.ref b), some (.ref l), some (.int (u : Nat)), some (.int n), some (.int sp), some (.ref rw0), l0, r0, none, none, none, none, none, none, none]) ⟨(Drew.refl B5).new nrw, upd_same, _, _, rfl⟩ (fun i σ' H' _ ⟨D, _⟩ => SqL.of (D.at el5 trivial nlb)) ?_ ?_⟩
  · rintro i x σ' H6 H' hi ⟨D6, e6, l0, r0, rfl⟩ ⟨rfl, hx⟩
    rw [List.getElem?_map] at hx
    obtain ⟨g, hg, rfl⟩ := Option.map_eq_some_iff.mp hx
    rw [List.length_map, lcs] at hi
    have g1 : g.length = 1 := by
      obtain ⟨c, _, rfl⟩ := List.mem_map.mp (List.mem_of_getElem? hg)
      rfl
    walk_at "w"
    refine ⟨l, rfl, ⟨_, SqL.of (D6.at el5 trivial nlb)⟩, turnsW (walk_list (xs := (cs.map one).map V.str)) (fun j σ' H' => Drew a b it H5 H' ∧ H' rw0 = some (.lst ((prodR ((cs.map one).take i) (cs.map one) ++ ((cs.map one).take j).map fun y => g ++ y).map V.str)) ∧ ∃ r0, σ' = [some (.ref s0), some (.ref b), some (.ref l), some (.int (u : Nat)), some (.int n), some (.int sp), some (.ref rw0), some (.str g), r0, none, none, none, none, none, none, none]) ⟨D6, by rw [List.take_zero, List.map_nil, List.append_nil]; exact e6, _, rfl⟩ (fun i σ' H' _ ⟨D, _⟩ => SqL.of (D.at el5 trivial nlb)) ?_ ?_⟩
    · rintro j x σ' H7 H' hj ⟨D7, e7, r0, rfl⟩ ⟨rfl, hx⟩
      rw [List.getElem?_map] at hx
      obtain ⟨h, hh, rfl⟩ := Option.map_eq_some_iff.mp hx
      rw [List.length_map, lcs] at hj
      have h1 : h.length = 1 := by
        obtain ⟨c, _, rfl⟩ := List.mem_map.mp (List.mem_of_getElem? hh)
        rfl
      walk_at "w"
      refine ⟨.inl ⟨rfl, _, SqL.of e7⟩, ?_⟩
      walk_at "w"
      refine w_addS (by rw [g1, h1, sz]; decide) ?_
      walk_at "w"
      refine ⟨rw0, _, _, rfl, rfl, e7, ?_, ?_⟩
      · simp only [List.length_map, List.length_append, prodR_len, List.length_take, L.len, sz]
        have : min i 7 * 7 ≤ 7 * 7 := Nat.mul_le_mul_right 7 (by omega)
        omega
      · walk_at "w"
        refine ⟨D7.upd B5 (New.of nrw) e7 trivial, ?_, _, rfl⟩
        rw [upd_same, List.take_add_one, hh, List.map_append, List.map_append, List.map_append, List.map_append, List.append_assoc]
        rfl
    · rintro σ' H7 ⟨D7, e7, r0, rfl⟩
      refine ⟨D7, ?_, _, _, rfl⟩
      rw [prodR_step hg, e7, List.length_map, List.take_length]
  · rintro σ' H6 ⟨D6, e6, l0, r0, rfl⟩
    rw [List.length_map, List.take_length] at e6
    have el6 := D6.at el5 trivial nlb
    have t6' := D6.tab t5
    have B6 := D6.bag
    have plen : (prodR (cs.map one) (cs.map one)).length = 49 := by rw [prodR_len, lcs]
    clear D6 el5 t5 B5 nrw nrwb
    walk_at "w"
    refine w_slL (SqL.of e6) fun q1 nq1 => ?_
    walk_at "w"
    refine w_slL (SqL.of (upd_old e6 nq1)) fun q2 nq2 => ?_
    refine w_cat (upd_old upd_same nq2) upd_same ?_ fun rr nrr => ?_
    · have h1 := cutV_length ((prodR (cs.map one) (cs.map one)).map V.str) (some (u : Int)) none
      have h2 := cutV_length ((prodR (cs.map one) (cs.map one)).map V.str) none (some (u : Int))
      rw [List.length_map, plen] at h1 h2
      rw [sz]
      omega
    have R := rows_ok L (u := u)
    rw [show cutV ((prodR (cs.map one) (cs.map one)).map V.str) (some (u : Int)) none ++ cutV ((prodR (cs.map one) (cs.map one)).map V.str) none (some (u : Int)) = ((prodR (cs.map one) (cs.map one)).drop u ++ (prodR (cs.map one) (cs.map one)).take u).map V.str from by
      have hu : u ≤ ((prodR (cs.map one) (cs.map one)).map V.str).length := by rw [List.length_map, plen]; omega
      rw [cut_drop hu, cut_take hu, List.map_append, List.map_drop, List.map_take]]
    generalize (prodR (cs.map one) (cs.map one)).drop u ++ (prodR (cs.map one) (cs.map one)).take u = rs at R ⊢
    generalize hH7 : upd (upd (upd H6 q1 _) q2 _) rr _ = H7
    have x67 : Ex H6 H7 := by
      rw [← hH7]
      exact ((Ex.new nq1).trans (Ex.new nq2)).trans (Ex.new nrr)
    have t7 : Tab a H7 := by
      rw [← hH7]
      exact Tab.new (Tab.new (Tab.new t6' nq1) nq2) nrr
    have er7 : H7 rr = some (.lst (rs.map V.str)) := by
      rw [← hH7]
      exact upd_same
    have B7 := B6.exx x67
    have el7 := x67 _ _ el6 trivial
    have nrb : rr ≠ b := (B6.neNew (New.back (New.of (none_of (none_of nrr).2).2) (Ex.refl _))).1
    clear hH7 nq1 nq2 nrr x67 el6 t6' e6 B6 plen
    walk_at "w"
    refine ⟨_, _, rfl, b, it, 40, rfl, rfl, B7, by decide, by decide +kernel, fun o H8 o0 o1 B8 fr8 => ?_⟩
    have D8 : Drew a b it H7 H8 := Drew.take B7 B8 fr8
    obtain ⟨oi, rfl⟩ := Int.eq_ofNat_of_zero_le o0
    have el8 := D8.at el7 trivial nlb
    have er8 := D8.at er7 trivial nrb
    have t8 := D8.tab t7
    have rs_at : ∀ {i : Nat}, i < 49 → ∃ z, rs[i]? = some z ∧ atI (rs.map V.str) (i : Int) = some (V.str z) := fun {i} hi => by
      have hl : i < rs.length := by rw [R.len]; exact hi
      exact ⟨rs[i], List.getElem?_eq_getElem hl, atI_nat (by rw [List.getElem?_map, List.getElem?_eq_getElem hl]; rfl)⟩
    obtain ⟨on, hon, eon⟩ := rs_at (i := oi) (by omega)
    have oi40 : oi < 40 := by omega
    refine w_ix (SqL.of er8) eon ?_
    clear D8 fr8 B8 B7 el7 er7 t7 nrb nlb
    walk_at "w"
    intro f0 nf0
    walk_at "w"
    intro f1 nf1
    walk_at "w"
    refine ⟨by show 3 ≤ sizeLine; rw [sz]; decide, fun fa nfa => ?_⟩
    have nf10 : f1 ≠ f0 := (none_of nf1).1
    have e0 : (upd (upd (upd H8 f0 (.dK [])) f1 (.dK [])) fa (.lst [.ref f0, .ref f1, .int sp])) f0 = some (.dK []) := upd_old (upd_old upd_same nf1) nfa
    have e1' : (upd (upd (upd H8 f0 (.dK [])) f1 (.dK [])) fa (.lst [.ref f0, .ref f1, .int sp])) f1 = some (.dK []) := upd_old upd_same nfa
    have ea : (upd (upd (upd H8 f0 (.dK [])) f1 (.dK [])) fa (.lst [.ref f0, .ref f1, .int sp])) fa = some (.lst [.ref f0, .ref f1, .int sp]) := upd_same
    have xx : Ex H8 (upd (upd (upd H8 f0 (.dK [])) f1 (.dK [])) fa (.lst [.ref f0, .ref f1, .int sp])) := ((Ex.new nf0).trans (Ex.new nf1)).trans (Ex.new nfa)
    have tt : Tab a (upd (upd (upd H8 f0 (.dK [])) f1 (.dK [])) fa (.lst [.ref f0, .ref f1, .int sp])) := Tab.new (Tab.new (Tab.new t8 nf0) nf1) nfa
    have nf0H : New H8 f0 := New.of nf0
    generalize (upd (upd (upd H8 f0 (.dK [])) f1 (.dK [])) fa (.lst [.ref f0, .ref f1, .int sp])) = H9 at e0 e1' ea xx tt ⊢
    have el9 := xx _ _ el8 trivial
    have er9 := xx _ _ er8 trivial
    clear nf0 nf1 nfa xx t8 el8 er8 nf0H
    have ki : ∀ {H : Hp} {x y : Addr} {xs : List V} {kvs : List (L2.Key × V)}, H x = some (.lst xs) → H y = some (.dK kvs) → x ≠ y := fun h1 h2 => ne_of h1 h2 (by intro z; cases z)
    walk_at "w"
    refine ⟨l, rfl, ⟨_, SqL.of el9⟩, turnsW (walk_list (xs := (cs.map one).map V.str)) (fun i σ' H' => Tab a H' ∧ H' f0 = some (.dK (encR (((cs.map one).take i).map fun g => (g, n)))) ∧ H' f1 = some (.dK []) ∧ H' fa = some (.lst [.ref f0, .ref f1, .int sp]) ∧ H' l = some (.lst ((cs.map one).map V.str)) ∧ H' rr = some (.lst (rs.map V.str)) ∧ ∃ g0, σ' = [some (.ref s0), some (.ref b), some (.ref l), some (.int (u : Nat)), some (.int n), some (.int sp), some (.ref rr), l0, r0, some (.str on), some (.ref fa), g0, none, none, none, none]) ⟨tt, e0, e1', ea, el9, er9, _, rfl⟩ (fun i σ' H' _ ⟨_, _, _, _, e, _⟩ => SqL.of e) ?_ ?_⟩
    · rintro i x σ' H10 H' hi ⟨t10, e10, e101, e10a, e10l, e10r, g0, rfl⟩ ⟨rfl, hx⟩
      rw [List.getElem?_map] at hx
      obtain ⟨g, hg, rfl⟩ := Option.map_eq_some_iff.mp hx
      rw [List.length_map, lcs] at hi
      walk_at "w"
      refine ⟨f0, _, rfl, DPut.k (k := (Sum.inr g : L2.Key)) e10 ?_, ?_⟩
      · rw [sz]
        simp only [encR, List.length_map, List.length_take]
        omega
      · rw [put_encR, putR_new (by
          rw [keysL (v := fun _ => n)]
          intro hm
          obtain ⟨hi', eg⟩ := List.getElem?_eq_some_iff.mp hg
          have nd := lets_nd L
          rw [← List.take_append_drop i (cs.map one), List.drop_eq_getElem_cons hi', eg] at nd
          exact (List.nodup_append.mp nd).2.2 g hm g List.mem_cons_self rfl)]
        refine ⟨Tab.upd t10 e10 trivial, ?_, by rw [upd_ne nf10]; exact e101, by rw [upd_ne (ki e10a e10)]; exact e10a, by rw [upd_ne (ki e10l e10)]; exact e10l, by rw [upd_ne (ki e10r e10)]; exact e10r, _, rfl⟩
        rw [upd_same, List.take_add_one, hg, List.map_append]
        rfl
    · rintro σ' H10 ⟨t10, e10, e101, e10a, e10l, e10r, g0, rfl⟩
      rw [List.length_map, List.take_length] at e10
      clear e0 e1' ea tt el9 er9
      obtain ⟨c0, hc0⟩ : ∃ c0, cs[0]? = some c0 := ⟨cs[0]'(by rw [L.len]; decide), List.getElem?_eq_getElem _⟩
      have mc0 := List.mem_of_getElem? hc0
      have a0 : atI ((cs.map one).map V.str) (0 : Int) = some (V.str (one c0)) := atI_nat (j := 0) (by rw [List.getElem?_map, List.getElem?_map, hc0]; rfl)
      have gd0 : Good ((cs.map one).map fun g => (g, n)) := ⟨by rw [keysL (v := fun _ => n)]; exact lets_nd L, fun x hx => by
        obtain ⟨g, hg, rfl⟩ := List.mem_map.mp hx
        obtain ⟨c, hc, rfl⟩ := List.mem_map.mp hg
        exact name_one (L.rg c hc)⟩
      have vs0 : Vals1 ((cs.map one).map fun g => (g, n)) := fun x hx => by
        obtain ⟨g, hg, rfl⟩ := List.mem_map.mp hx
        exact ⟨n0, n1'⟩
      have S0' : Stg cs (rs.take 0) ((cs.map one).map fun g => (g, n)) ((cs.map one).map fun g => (g, n)) := ⟨List.Perm.refl _, gd0, vs0, by rw [keysL (v := fun _ => n), List.take_zero, List.append_nil]⟩
      obtain ⟨r', hrun, pm⟩ := runPA_rows gd0 vs0 (S0'.cl (by simp)) (by rw [S0'.lig (by simp)]; simp)
      have S0 : Stg cs (rs.take 0) r' ((cs.map one).map fun g => (g, n)) := ⟨pm, gd0.perm pm, fun x hx => vs0 x (pm.mem_iff.mp hx), (pm.map _).trans S0'.keys⟩
      clear S0'
      walk_at "w"
      refine ⟨rfl, ?_⟩
      walk_at "w"
      refine ⟨⟨_, rfl⟩, ?_⟩
      walk_at "w"
      have sum1 : ((cs.map one).map (·.length)).sum = 7 := by
        have h : ∀ ds : List Nat, ((ds.map one).map (·.length)).sum = ds.length := fun ds => by
          induction ds with
          | nil => rfl
          | cons d ds ih => rw [List.map_cons, List.map_cons, List.sum_cons, ih, List.length_cons]; show 1 + ds.length = _; omega
        rw [h, L.len]
      have em : (Str.ofString "").length = 0 := by decide +kernel
      refine ⟨_, l, cs.map one, rfl, rfl, .inl (SqL.of e10l), by rw [sum1, em]; omega, ?_⟩
      walk_at "w"
      refine w_ix (SqL.of e10l) a0 ?_
      have jc : (Txt.join (Str.ofString "") (cs.map one)).cps.toList = cs := by rw [join_cps, cod_cps]
      have jl : (Txt.join (Str.ofString "") (cs.map one)).length = 7 := by rw [len_cps, jc, L.len]
      refine w_addS (by rw [jl]; show 7 + 1 ≤ sizeLine; rw [sz]; decide) ?_
      walk_at "w"
      have er := even_rows L mc0 (z := Txt.join (Str.ofString "") (cs.map one) ++ one c0) (by rw [cps_app, jc]; rfl) n
      refine ⟨rfl, rfl, _, _, _, _, rfl, _, n, sp, r', rfl, rfl, rfl, rfl, by rw [lenA, jl]; show 7 + 1 ≤ 50; decide, p0, p1', t10, by rw [er]; exact hrun, fun H11 p dx ro pr pa x11 t11 F11 hp11 np nro npr npa => ?_⟩
      have e11 := x11 _ _ e10 trivial
      have e111 := x11 _ _ e101 trivial
      have e11a := x11 _ _ e10a trivial
      have e11l := x11 _ _ e10l trivial
      have e11r := x11 _ _ e10r trivial
      have ro0 : ro ≠ f0 := Ne.symm (nro.ne e10 trivial)
      have ro1 : ro ≠ f1 := Ne.symm (nro.ne e101 trivial)
      have pr0 : pr ≠ f0 := Ne.symm (npr.ne e10 trivial)
      have paa : pa ≠ fa := Ne.symm (npa.ne e10a trivial)
      have pal : pa ≠ l := Ne.symm (npa.ne e10l trivial)
      have par : pa ≠ rr := Ne.symm (npa.ne e10r trivial)
      have len0 : r'.length = 7 := by rw [pm.length_eq, List.length_map, lcs]
      clear e10 e101 e10a e10l e10r t10 jc jl er sum1 hrun np nro npr npa x11
      walk_at "w"
      refine ⟨_, _, rfl, p, dx, ro, pr, pa, fa, f0, f1, r', (cs.map one).map fun g => (g, n), sp, rfl, rfl, F11, e11a, e11, e111, pm, S0.gd, by omega, t11, fun H12 x12 t12 => ?_⟩
      have F12 := F11.ex x12
      have hp12 := x12 _ _ hp11 trivial
      have e12 := x12 _ _ e11 trivial
      have e121 := x12 _ _ e111 trivial
      have e12a := x12 _ _ e11a trivial
      have e12l := x12 _ _ e11l trivial
      have e12r := x12 _ _ e11r trivial
      clear F11 hp11 e11 e111 e11a e11l e11r t11 x12
      -- the even font of one letter
      have gd1 : Good [(one c0, 7)] := ⟨by simp, fun x hx => by rw [List.mem_singleton.mp hx]; exact name_one (L.rg c0 mc0)⟩
      obtain ⟨r1, hrun1, pm1⟩ := runPA_rows (r := [(one c0, 7)]) gd1 (fun x hx => by rw [List.mem_singleton.mp hx]; exact ⟨(by decide : (0 : Int) ≤ 7), (by decide : (7 : Int) ≤ 1000000)⟩) (fun g hg h1 => by
        have : g = one c0 := by simpa using hg
        rw [this] at h1
        exact absurd h1 (by show ¬ 1 < 1; decide)) (by
        have : ligs [(one c0, (7 : Int))] = [] := rfl
        rw [this]
        decide)
      walk_at "w"
      refine ⟨rfl, ?_⟩
      walk_at "w"
      refine w_ix (SqL.of e12l) a0 ?_
      walk_at "w"
      have ev1 : evenR (one c0) 7 = [(one c0, 7)] := rfl
      refine ⟨_, _, _, _, rfl, one c0, 7, 250, r1, rfl, rfl, rfl, rfl, by show 1 ≤ 50; decide, by decide, by decide, t12, by rw [ev1]; exact hrun1, fun H13 pp dxp rop prp pap x13 t13 F13 hp13 _ _ _ _ => ?_⟩
      walk_at "w"
      intro d1 nd1
      walk_at "w"
      refine w_ix (SqL.of (upd_old (x13 _ _ e12l trivial) nd1)) a0 ?_
      walk_at "w"
      refine ⟨upd_same, [(Sum.inr (one c0), .int 7)], rfl, by show 1 ≤ 15; decide, ?_⟩
      rw [upd_upd, show mergeK [] [((Sum.inr (one c0) : L2.Key), V.int 7)] = encR [(one c0, 7)] from rfl]
      walk_at "w"
      intro g1 ng1
      walk_at "w"
      refine ⟨by show 3 ≤ sizeLine; rw [sz]; decide, fun ga nga => ?_⟩
      have xg : Ex H13 (upd (upd (upd H13 d1 (.dK (encR [(one c0, 7)]))) g1 (.dK [])) ga (.lst [.ref d1, .ref g1, .int 250])) := ((Ex.new nd1).trans (Ex.new ng1)).trans (Ex.new nga)
      have tg : Tab a (upd (upd (upd H13 d1 (.dK (encR [(one c0, 7)]))) g1 (.dK [])) ga (.lst [.ref d1, .ref g1, .int 250])) := Tab.new (Tab.new (Tab.new t13 nd1) ng1) nga
      refine ⟨_, _, rfl, pp, dxp, rop, prp, pap, ga, d1, g1, r1, [(one c0, 7)], 250, rfl, rfl, F13.ex xg, upd_same, upd_old (upd_old upd_same ng1) nga, upd_old upd_same nga, pm1, gd1.perm pm1, by rw [pm1.length_eq]; show 1 ≤ 100; decide, tg, fun H14 x14 t14 => ?_⟩
      have x1214 : Ex H12 H14 := (x13.trans xg).trans x14
      have F14 := F12.ex x1214
      have hp14 := x1214 _ _ hp12 trivial
      have e14 := x1214 _ _ e12 trivial
      have e141 := x1214 _ _ e121 trivial
      have e14a := x1214 _ _ e12a trivial
      have e14l := x1214 _ _ e12l trivial
      have e14r := x1214 _ _ e12r trivial
      clear F12 hp12 e12 e121 e12a e12l e12r t12 x1214 x13 x14 xg tg nd1 ng1 nga t13 F13 hp13 hrun1 pm1 gd1 ev1
      walk_at "w"
      refine ⟨40, rfl, by decide, by decide, ?_⟩
      refine turnsR (fun i σ' H' => ∃ r f ps, FontAt a H' p dx ro pr pa r sp ∧ H' pa = some (.lst ps) ∧ ps.length = i ∧ Stg cs (rs.take i) r f ∧ r.length = 7 + i ∧ H' f0 = some (.dK (encR f)) ∧ H' f1 = some (.dK []) ∧ H' fa = some (.lst [.ref f0, .ref f1, .int sp]) ∧ H' l = some (.lst ((cs.map one).map V.str)) ∧ H' rr = some (.lst (rs.map V.str)) ∧ Tab a H' ∧
        ∃ k0, σ' = [some (.ref s0), some (.ref b), some (.ref l), some (.int (u : Nat)), some (.int n), some (.int sp), some (.ref rr), l0, r0, some (.str on), some (.ref fa), g0, some (.ref p), k0, none, none]) ⟨r', _, [], F14, hp14, rfl, S0, by omega, e14, e141, e14a, e14l, e14r, t14, _, rfl⟩ ?_ ?_
      · rintro i σ' H15 hi ⟨r, f, ps, F15, hp15, pl, S, rl, e0, e1, ea, el, er, t15, k0, rfl⟩
        have hi40 : i < 40 := hi
        obtain ⟨z, hz, ez⟩ := rs_at (i := i) (by omega)
        have zn := name_sz (R.nm z (List.mem_of_getElem? hz)).1
        obtain ⟨pr1, S'⟩ := S.step (n := (i : Nat)) R hz hi40 (by omega) (by omega)
        rw [show (0 : Int) + (i : Int) = ((i : Nat) : Int) by omega]
        walk_at "w"
        refine ⟨p, dx, _, rfl, F15.ins, ff_no (by decide +kernel), ?_⟩
        walk_at "w"
        refine w_ix (SqL.of er) ez ?_
        walk_at "w"
        refine ⟨_, _, _, rfl, p, dx, ro, pr, pa, r, sp, z, ps, rfl, rfl, F15, hp15, by omega, by omega, S.gd.sz, zn, fun _ => isI_int _, t15, ?_⟩
        rw [pr1]
        intro H16 t' x16 t16 F16 hp16
        have keep : ∀ {c : Addr} {o : HO}, H15 c = some o → NT o → c ≠ ro → c ≠ pa → H16 c = some o := fun h nt n1 n2 => x16 _ _ h nt (by simp; exact ⟨n1, n2⟩)
        have e0' := keep e0 trivial (Ne.symm ro0) (Ne.symm (ki hp15 e0))
        have e1x := keep e1 trivial (Ne.symm ro1) (Ne.symm (ki hp15 e1))
        have ea' := keep ea trivial (ki ea F15.row) (Ne.symm paa)
        have el' := keep el trivial (ki el F15.row) (Ne.symm pal)
        have er' := keep er trivial (ki er F15.row) (Ne.symm par)
        clear keep x16 e0 e1 ea el er F15 t15
        walk_at "w"
        refine w_ix (SqL.of er') ez ?_
        refine ⟨f0, _, rfl, DPut.k (k := (Sum.inr z : L2.Key)) e0' ?_, ?_⟩
        · have := S.pm.length_eq
          rw [sz]
          simp only [encR, List.length_map]
          omega
        · rw [put_encR]
          refine ⟨putR r z i, putR f z i, ps ++ [.ref t'], F16.fr (bs := [f0]) (Fr.refl.upd (by simp)) (by simpa using (ne_of F16.ins e0' (by intro z; cases z))) (by simpa using ro0) (by simpa using pr0), by rw [upd_ne (ki hp16 e0')]; exact hp16, by rw [List.length_append, pl]; rfl, S', ?_, upd_same, by rw [upd_ne nf10]; exact e1x, by rw [upd_ne (ki ea' e0')]; exact ea', by rw [upd_ne (ki el' e0')]; exact el', by rw [upd_ne (ki er' e0')]; exact er', Tab.upd t16 e0' trivial, _, rfl⟩
          have h1 := S'.keys.length_eq
          rw [List.length_map, List.length_append, lcs, List.length_take, R.len] at h1
          omega
      · rintro σ' H15 ⟨r, f, ps, F15, hp15, pl, S, rl, e0, e1, ea, el, er, t15, k0, rfl⟩
        replace S : Stg cs (rs.take 40) r f := S
        replace pl : ps.length = 40 := pl
        replace rl : r.length = 47 := rl
        clear F14 hp14 e14 e141 e14a e14l e14r t14 S0 pm hS tb len0
        obtain ⟨z4, hz4, ez4⟩ := rs_at (i := 40) (by decide)
        have fl : f.length = 47 := by rw [← S.pm.length_eq]; exact rl
        walk_at "w"
        refine ⟨f0, encR f, rfl, .inl e0, fun ad nad => ?_⟩
        walk_at "w"
        refine w_ix (SqL.of (upd_old er nad)) ez4 ?_
        refine ⟨ad, _, rfl, DPut.k (k := (Sum.inr z4 : L2.Key)) upd_same (by rw [sz]; simp only [encR, List.length_map]; omega), ?_⟩
        rw [put_encR, upd_upd]
        obtain ⟨ga, hrunA⟩ := S.adv R hz4 (by decide)
        have al : (putR f z4 5).length ≤ 48 := by
          have := putR_len (r := f) (z := z4) (n := 5)
          omega
        generalize putR f z4 5 = av at ga hrunA al ⊢
        have x16 : Ex H15 (upd H15 ad (.dK (encR av))) := Ex.new nad
        have t16 : Tab a (upd H15 ad (.dK (encR av))) := Tab.new t15 nad
        have ead : (upd H15 ad (.dK (encR av))) ad = some (.dK (encR av)) := upd_same
        have roa : ro ≠ ad := ne_of_none F15.row nad
        generalize upd H15 ad (.dK (encR av)) = H16 at x16 t16 ead ⊢
        have F16 := F15.ex x16
        have hp16 := x16 _ _ hp15 trivial
        have e016 := x16 _ _ e0 trivial
        have e116 := x16 _ _ e1 trivial
        have ea16 := x16 _ _ ea trivial
        have el16 := x16 _ _ el trivial
        have er16 := x16 _ _ er trivial
        clear F15 hp15 e0 e1 ea el er t15 x16 nad
        walk_at "w"
        refine ⟨4, rfl, by decide, by decide, ?_⟩
        refine turnsR (fun i σ' H' => ∃ ro pr, FontAt a H' p dx ro pr pa r sp ∧ H' pa = some (.lst ps) ∧ H' f0 = some (.dK (encR f)) ∧ H' f1 = some (.dK []) ∧ H' fa = some (.lst [.ref f0, .ref f1, .int sp]) ∧ H' l = some (.lst ((cs.map one).map V.str)) ∧ H' rr = some (.lst (rs.map V.str)) ∧ H' ad = some (.dK (encR av)) ∧ Tab a H' ∧ ro ≠ f0 ∧ ro ≠ f1 ∧ ro ≠ ad ∧
          ∃ w0, σ' = [some (.ref s0), some (.ref b), some (.ref l), some (.int (u : Nat)), some (.int n), some (.int sp), some (.ref rr), l0, r0, some (.str on), some (.ref fa), g0, some (.ref p), k0, some (.ref ad), w0]) ⟨ro, pr, F16, hp16, e016, e116, ea16, el16, er16, ead, t16, ro0, ro1, roa, _, rfl⟩ ?_ ?_
        · rintro i σ' H17 hi ⟨ro, pr, F17, hp17, e0, e1, ea, el, er, ed, t17, ro0, ro1, roa, w0, rfl⟩
          have hi4 : i < 4 := hi
          obtain ⟨z, hz, ez⟩ := rs_at (i := 40 + i) (by omega)
          have zn := name_sz (R.nm z (List.mem_of_getElem? hz)).1
          rw [show (0 : Int) + (i : Int) = ((i : Nat) : Int) by omega]
          walk_at "w"
          rw [show (40 : Int) + (i : Int) = ((40 + i : Nat) : Int) by omega]
          refine w_ix (SqL.of er) ez ?_
          walk_at "w"
          have kk : (av.map fun x => (x.1, V.int x.2)).map (·.1) = av.map (·.1) := by simp
          refine ⟨_, _, _, _, rfl, p, dx, ro, pr, pa, ad, i, r, sp, z, av.map fun x => (x.1, V.int x.2), ps, rfl, rfl, hi4, rfl, rfl, F17, hp17, by omega, by omega, S.gd, zn, (S.tm R hz (by omega)).1, by rw [← encR_V]; exact ed, by rw [kk]; exact ga.nd, by rw [List.length_map]; omega, fun x hx => ?_, fun x hx H' => ?_, by rw [kk]; exact hrunA, t17, fun H18 ro' pr' x18 t18 F18 hro hpr => ?_⟩
          · obtain ⟨y, hy, rfl⟩ := List.mem_map.mp hx
            exact ga.sz y hy
          · obtain ⟨y, hy, rfl⟩ := List.mem_map.mp hx
            exact isI_int _
          have keep : ∀ {c : Addr} {o : HO}, H17 c = some o → NT o → c ≠ p → c ≠ ro → H18 c = some o := fun h nt n1 n2 => x18 _ _ h nt (by simp; exact ⟨n1, n2⟩)
          have hp18 := keep hp17 trivial (ne_of hp17 F17.ins (by intro z; cases z)) (ki hp17 F17.row)
          have e0' := keep e0 trivial (ne_of e0 F17.ins (by intro z; cases z)) (Ne.symm ro0)
          have e1x := keep e1 trivial (ne_of e1 F17.ins (by intro z; cases z)) (Ne.symm ro1)
          have ea' := keep ea trivial (ne_of ea F17.ins (by intro z; cases z)) (ki ea F17.row)
          have el' := keep el trivial (ne_of el F17.ins (by intro z; cases z)) (ki el F17.row)
          have er' := keep er trivial (ne_of er F17.ins (by intro z; cases z)) (ki er F17.row)
          have ed' := keep ed trivial (ne_of ed F17.ins (by intro z; cases z)) (Ne.symm roa)
          have rox : ∀ {c : Addr} {o : HO}, H17 c = some o → NT o → ro ≠ c → ro' ≠ c := fun {c o} h nt n1 => by
            rcases hro with e | nw
            · rw [e]; exact n1
            · exact Ne.symm (nw.ne h nt)
          have q0 := rox e0 trivial ro0
          have q1 := rox e1 trivial ro1
          have q2 := rox ed trivial roa
          clear keep x18 hro hpr rox hp17 e0 e1 ea el er ed F17 t17
          walk_at "w"
          refine ⟨_, _, rfl, p, dx, ro', pr', pa, fa, f0, f1, r, f, sp, rfl, rfl, F18, ea', e0', e1x, S.pm, S.gd, by omega, t18, fun H19 x19 t19 => ?_⟩
          walk_at "w"
          exact ⟨ro', pr', F18.ex x19, x19 _ _ hp18 trivial, x19 _ _ e0' trivial, x19 _ _ e1x trivial, x19 _ _ ea' trivial, x19 _ _ el' trivial, x19 _ _ er' trivial, x19 _ _ ed' trivial, t19, q0, q1, q2, _, rfl⟩
        · rintro σ' H17 ⟨ro, pr, F17, hp17, e0, e1, ea, el, er, ed, t17, ro0, ro1, roa, w0, rfl⟩
          clear F16 hp16 e016 e116 ea16 el16 er16 ead t16 hrunA ga al e0 e1 ea ed
          obtain ⟨z, hz, ez⟩ := rs_at (i := 41) (by decide)
          obtain ⟨c, hc, c1, c2⟩ := free_letter L
          have Fi := S.fin L R hon oi40 hz c1 c2
          have onn := R.nm on (List.mem_of_getElem? hon)
          have zzn := R.nm z (List.mem_of_getElem? hz)
          walk_at "w"
          refine ⟨p, dx, _, rfl, F17.ins, ff_no (by decide +kernel), ?_⟩
          walk_at "w"
          refine ⟨_, _, _, rfl, p, dx, ro, pr, pa, r, sp, on, ps, rfl, rfl, F17, hp17, by omega, by omega, S.gd.sz, name_sz onn.1, fun _ => isI_int _, t17, ?_⟩
          rw [Fi.a1]
          intro H18 t1' x18 t18 F18 hp18
          have el18 : H18 l = some (.lst ((cs.map one).map V.str)) := x18 _ _ el trivial (by simp; exact ⟨ki el F17.row, Ne.symm pal⟩)
          have er18 : H18 rr = some (.lst (rs.map V.str)) := x18 _ _ er trivial (by simp; exact ⟨ki er F17.row, Ne.symm par⟩)
          clear x18 el er F17 hp17 t17
          walk_at "w"
          refine ⟨p, dx, _, rfl, F18.ins, ff_no (by decide +kernel), ?_⟩
          walk_at "w"
          have l8 : (Str.ofString "abcdefgh").cps.size = 8 := by decide +kernel
          have tk8 : (chars (Str.ofString "abcdefgh")).take 8 = chars (Str.ofString "abcdefgh") := List.take_of_length_le (by decide +kernel)
          refine ⟨_, rfl, lcsW walk_str (fun D i H' => H18 D = none ∧ H' = upd H18 D (.lst ((((chars (Str.ofString "abcdefgh")).take i).filter fun z => decide (z ∉ cs.map one)).map V.str))) (fun D hD => ⟨hD, rfl⟩) (fun _ _ _ _ _ => trivial) ?_ ?_⟩
          · rintro D i x H19 H' hi ⟨hD, rfl⟩ ⟨rfl, d, hd, rfl⟩
            have hy := abc_get hd
            rw [l8] at hi
            walk_at "w"
            refine ⟨rfl, ?_⟩
            walk_at "w"
            refine ⟨l, _, rfl, .inl (SqL.of (upd_old el18 hD)), rfl, List.all_eq_true.mpr fun x hx => by
              obtain ⟨y, _, rfl⟩ := List.mem_map.mp hx
              rfl, ?_⟩
            rw [if_pos rfl, inV_str]
            refine ⟨_, rfl, ?_⟩
            refine it_ndec (fun q => ?_) (fun q => ?_)
            · refine ⟨hD, ?_⟩
              rw [List.take_add_one, hy, List.filter_append]
              have q' : one d ∈ cs.map one := q
              have e2 : ((some (one d)).toList.filter fun z => decide (z ∉ cs.map one)) = [] := by
                show ([one d].filter fun z => decide (z ∉ cs.map one)) = []
                rw [List.filter_cons_of_neg (by rw [decide_eq_false (fun h => h q')]; decide)]
                rfl
              rw [e2, List.append_nil]
            · walk_at "w"
              refine ⟨_, upd_same, ?_, hD, ?_⟩
              · have h1 := List.length_filter_le (fun z : Str => decide (z ∉ cs.map one)) ((chars (Str.ofString "abcdefgh")).take i)
                rw [List.length_take] at h1
                rw [List.length_map, sz]
                omega
              · rw [upd_upd, List.take_add_one, hy, List.filter_append]
                have q' : ¬ one d ∈ cs.map one := q
                have e2 : ((some (one d)).toList.filter fun z => decide (z ∉ cs.map one)) = [one d] := by
                  show ([one d].filter fun z => decide (z ∉ cs.map one)) = [one d]
                  rw [List.filter_cons_of_pos (by rw [decide_eq_true q'])]
                  rfl
                rw [e2, List.map_append]
                rfl
          · rintro D H19 ⟨hD, rfl⟩
            rw [l8, tk8]
            have a1 : atI ((((chars (Str.ofString "abcdefgh")).filter fun z => decide (z ∉ cs.map one))).map V.str) (0 : Int) = some (V.str (one c)) := atI_nat (j := 0) (by rw [List.getElem?_map, hc]; rfl)
            have x19 : Ex H18 (upd H18 D (.lst (((chars (Str.ofString "abcdefgh")).filter fun z => decide (z ∉ cs.map one)).map V.str))) := Ex.new hD
            have t19 : Tab a (upd H18 D (.lst (((chars (Str.ofString "abcdefgh")).filter fun z => decide (z ∉ cs.map one)).map V.str))) := Tab.new t18 hD
            refine w_ix (SqL.of upd_same) a1 ?_
            generalize (upd H18 D (.lst (((chars (Str.ofString "abcdefgh")).filter fun z => decide (z ∉ cs.map one)).map V.str))) = H19 at x19 t19 ⊢
            have F19 := F18.ex x19
            have hp19 := x19 _ _ hp18 trivial
            have er19 := x19 _ _ er18 trivial
            clear x19 F18 hp18 el18 er18 t18 a1 hD
            walk_at "w"
            refine ⟨_, _, _, rfl, p, dx, ro, pr, pa, _, sp, one c, _, rfl, rfl, F19, hp19, by rw [List.length_append, pl]; show 40 + 1 < 50; decide, by rw [Fi.l1]; decide, Fi.g1.sz, by show 1 ≤ sizeLine; rw [sz]; decide, fun _ => isI_int _, t19, ?_⟩
            rw [Fi.a2]
            intro H20 t2' x20 t20 F20 hp20
            have er20 : H20 rr = some (.lst (rs.map V.str)) := x20 _ _ er19 trivial (by simp; exact ⟨ki er19 F19.row, Ne.symm par⟩)
            clear x20 er19 F19 hp19 t19
            walk_at "w"
            refine ⟨p, dx, _, rfl, F20.ins, ff_no (by decide +kernel), ?_⟩
            walk_at "w"
            refine ⟨_, _, rfl, p, dx, ro, pr, pa, _, sp, on, _, rfl, rfl, F20, hp20, by rw [List.length_append, List.length_append, pl]; show 40 + 1 + 1 < 50; decide, Fi.a3, by rw [onn.2.1]; decide, name_sz onn.1, t20, fun H21 t3' pr' x21 t21 F21 hp21 => ?_⟩
            have er21 : H21 rr = some (.lst (rs.map V.str)) := x21 _ _ er20 trivial (by simp; exact ⟨ne_of er20 F20.ins (by intro z; cases z), ki er20 F20.row, Ne.symm par⟩)
            clear x21 er20 F20 hp20 t20
            walk_at "w"
            refine ⟨p, dx, _, rfl, F21.ins, ff_no (by decide +kernel), ?_⟩
            walk_at "w"
            refine w_ix (SqL.of er21) ez ?_
            walk_at "w"
            refine ⟨_, _, _, rfl, p, dx, ro, pr', pa, _, sp, z, _, rfl, rfl, F21, hp21, by rw [List.length_append, List.length_append, List.length_append, pl]; show 40 + 1 + 1 + 1 < 50; decide, by rw [Fi.l3]; decide, Fi.g3.sz, name_sz zzn.1, fun _ => isI_int _, t21, ?_⟩
            rw [Fi.a4]
            intro H22 t4' x22 t22 F22 hp22
            have er22 : H22 rr = some (.lst (rs.map V.str)) := x22 _ _ er21 trivial (by simp; exact ⟨ki er21 F21.row, Ne.symm par⟩)
            clear x22 er21 F21 hp21 t21
            walk_at "w"
            refine w_lenO F22.ins ⟨_, rfl, p, dx, ro, pr', pa, _, sp, rfl, F22, _, rfl, by rw [Fi.l4]; decide, ?_⟩
            walk_at "w"
            rw [Fi.l4]
            refine it_npos rfl ?_
            walk_at "w"
            refine w_ix (SqL.of er22) ez ?_
            walk_at "w"
            refine ⟨p, dx, _, rfl, F22.ins, _, _, rfl, p, dx, ro, pr', pa, _, sp, z, rfl, rfl, F22, _, rfl, ?_⟩
            rw [Fi.e1]
            refine ⟨_, rfl, ?_⟩
            refine it_b (fun z => absurd z (by decide)) (fun _ => ?_)
            walk_at "w"
            refine ⟨p, dx, _, rfl, F22.ins, _, _, rfl, p, dx, ro, pr', pa, _, sp, on, rfl, rfl, F22, _, rfl, ?_⟩
            rw [Fi.e2]
            refine ⟨_, rfl, ?_⟩
            refine it_b (fun z => absurd z (by decide)) (fun _ => ?_)
            walk_at "w"
            refine ⟨p, dx, _, rfl, F22.ins, _, rfl, p, dx, ro, pr', pa, _, sp, rfl, F22, by rw [Fi.l4]; decide, Fi.g4.sz, t22, fun H23 l2 x23 t23 n23 e23 => ?_⟩
            walk_at "w"
            rw [List.length_map, List.length_mergeSort, Fi.e3]
            refine it_npos rfl ?_
            walk_at "w"
            refine ⟨_, rfl, n, rfl, n0, n1', t23, fun H24 x24 t24 => ?_⟩
            clear F22 er22 hp22 t22 x23 e23 n23 t23 Fi S
            obtain ⟨v1, cv1⟩ := T.cv_Font_MOST_ADVANCE
            obtain ⟨v2, cv2⟩ := T.cv_Font_MOST_LETTERS
            obtain ⟨v3, cv3⟩ := T.cv_Font_MOST_LIGATURES
            obtain ⟨v4, cv4⟩ := T.cv_Font_MOST_UNDO
            walk_at "w"
            refine ⟨_, _, _, _, rfl, T.cr_Font, cv1, ?_⟩
            walk_at "w"
            refine it_npos rfl ?_
            walk_at "w"
            refine ⟨_, _, _, _, rfl, T.cr_Font, cv2, ?_⟩
            walk_at "w"
            refine it_npos rfl ?_
            walk_at "w"
            refine ⟨_, _, _, _, rfl, T.cr_Font, cv3, ?_⟩
            walk_at "w"
            refine it_pos rfl ?_
            walk_at "w"
            refine ⟨_, _, _, _, rfl, T.cr_Font, cv4, ?_⟩
            walk_at "w"
            rw [decide_eq_true rfl]
            exact k _

theorem sp_law_start {K : PySem.W.Frag} {a : Ad} {H : Hp} {z : Addr} {ns : List Int} (h4 : SqL K H z (ns.map V.int)) (h1 : ns.length ≤ 63) (h3 : H a.P_font_order = some (.tbl #[])) : sp_law K a [.ref z] H (fun v _ => v = .bl true) fun _ _ _ => False := ⟨_, rfl, z, ns, rfl, h4, h1, LamX.TabS.nil h3, fun _ => rfl⟩

end FG
namespace FG
open PySem PySem.Spec PyProof.Rows L2
theorem y_InvalidGlyph : Txt1 "InvalidGlyph.__init__" "glyph" "not a glyph name" (defArgs s_InvalidGlyph_init) (defBody s_InvalidGlyph_init) (defScope s_InvalidGlyph_init) where
  ex := ⟨_, _, _, _, _, _, _, _, _, _, _, _, rfl, rfl, rfl, fun L fI cc cda => ⟨by rfl, by rfl, by rfl, _, by rfl⟩⟩
  bind := fun _ _ _ _ _ _ _ _ _ => rfl
  nself := by decide +kernel
  ndbg := by decide +kernel
  ks := by decide +kernel
  kc := by decide +kernel
  k0 := by decide +kernel
  k1 := by decide +kernel
  cells := by decide +kernel
  kind := rfl
  co := rfl
  gen := rfl
theorem y_InvalidNumber : Txt1 "InvalidNumber.__init__" "value" "not a valid number" (defArgs s_InvalidNumber_init) (defBody s_InvalidNumber_init) (defScope s_InvalidNumber_init) where
  ex := ⟨_, _, _, _, _, _, _, _, _, _, _, _, rfl, rfl, rfl, fun L fI cc cda => ⟨by rfl, by rfl, by rfl, _, by rfl⟩⟩
  bind := fun _ _ _ _ _ _ _ _ _ => rfl
  nself := by decide +kernel
  ndbg := by decide +kernel
  ks := by decide +kernel
  kc := by decide +kernel
  k0 := by decide +kernel
  k1 := by decide +kernel
  cells := by decide +kernel
  kind := rfl
  co := rfl
  gen := rfl
theorem y_UnknownGlyph : Txt1 "UnknownGlyph.__init__" "glyph" "the font does not have the glyph" (defArgs s_UnknownGlyph_init) (defBody s_UnknownGlyph_init) (defScope s_UnknownGlyph_init) where
  ex := ⟨_, _, _, _, _, _, _, _, _, _, _, _, rfl, rfl, rfl, fun L fI cc cda => ⟨by rfl, by rfl, by rfl, _, by rfl⟩⟩
  bind := fun _ _ _ _ _ _ _ _ _ => rfl
  nself := by decide +kernel
  ndbg := by decide +kernel
  ks := by decide +kernel
  kc := by decide +kernel
  k0 := by decide +kernel
  k1 := by decide +kernel
  cells := by decide +kernel
  kind := rfl
  co := rfl
  gen := rfl
theorem y_TooMany : Txt1 "TooMany.__init__" "limit" "too many ligatures" (defArgs s_TooMany_init) (defBody s_TooMany_init) (defScope s_TooMany_init) where
  ex := ⟨_, _, _, _, _, _, _, _, _, _, _, _, rfl, rfl, rfl, fun L fI cc cda => ⟨by rfl, by rfl, by rfl, _, by rfl⟩⟩
  bind := fun _ _ _ _ _ _ _ _ _ => rfl
  nself := by decide +kernel
  ndbg := by decide +kernel
  ks := by decide +kernel
  kc := by decide +kernel
  k0 := by decide +kernel
  k1 := by decide +kernel
  cells := by decide +kernel
  kind := rfl
  co := rfl
  gen := rfl
theorem y_DeedRefused : Txt1 "DeedRefused.__init__" "index" "a deed is refused" (defArgs s_DeedRefused_init) (defBody s_DeedRefused_init) (defScope s_DeedRefused_init) where
  ex := ⟨_, _, _, _, _, _, _, _, _, _, _, _, rfl, rfl, rfl, fun L fI cc cda => ⟨by rfl, by rfl, by rfl, _, by rfl⟩⟩
  bind := fun _ _ _ _ _ _ _ _ _ => rfl
  nself := by decide +kernel
  ndbg := by decide +kernel
  ks := by decide +kernel
  kc := by decide +kernel
  k0 := by decide +kernel
  k1 := by decide +kernel
  cells := by decide +kernel
  kind := rfl
  co := rfl
  gen := rfl
def dx_is_integer : DefX := ⟨fun K => (He.fAd K ("is_integer", none)), "is_integer", "is_integer", defArgs s_is_integer, defBody s_is_integer, defScope s_is_integer, [], [], []⟩
def dx_is_between : DefX := ⟨fun K => (He.fAd K ("is_between", none)), "is_between", "is_between", defArgs s_is_between, defBody s_is_between, defScope s_is_between, [], [], []⟩
def dx_check_between : DefX := ⟨fun K => (He.fAd K ("check_between", none)), "check_between", "check_between", defArgs s_check_between, defBody s_check_between, defScope s_check_between, [], [], []⟩
def dx_font_order : DefX := ⟨fun K => (He.fAd K ("font_order", none)), "font_order", "font_order", defArgs s_font_order, defBody s_font_order, defScope s_font_order, [], [], []⟩
def dx_is_name : DefX := ⟨fun K => (He.fAd K ("is_name", none)), "is_name", "is_name", defArgs s_is_name, defBody s_is_name, defScope s_is_name, [], [], []⟩
def dx_is_deed : DefX := ⟨fun K => (He.fAd K ("is_deed", none)), "is_deed", "is_deed", defArgs s_is_deed, defBody s_is_deed, defScope s_is_deed, [], [], []⟩
def dx_Font_known : DefX := ⟨fun K => (He.ma K (He.ga K "Font") "known"), "known", "Font.known", defArgs s_Font_known, defBody s_Font_known, defScope s_Font_known, [], [], []⟩
def dx_Font_ligatures : DefX := ⟨fun K => (prAt K (He.ma K (He.ga K "Font") "ligatures")), "ligatures", "Font.ligatures", defArgs s_Font_ligatures, defBody s_Font_ligatures, defScope s_Font_ligatures, [], [], []⟩
def dx_Font_glyphs : DefX := ⟨fun K => (He.ma K (He.ga K "Font") "glyphs"), "glyphs", "Font.glyphs", defArgs s_Font_glyphs, defBody s_Font_glyphs, defScope s_Font_glyphs, [], [], []⟩
def dx_Font_advance_of : DefX := ⟨fun K => (He.ma K (He.ga K "Font") "advance_of"), "advance_of", "Font.advance_of", defArgs s_Font_advance_of, defBody s_Font_advance_of, defScope s_Font_advance_of, [], [], []⟩
def dx_Font_contains : DefX := ⟨fun K => (He.ma K (He.ga K "Font") "__contains__"), "__contains__", "Font.__contains__", defArgs s_Font_contains, defBody s_Font_contains, defScope s_Font_contains, [], [], []⟩
def dx_Font_len : DefX := ⟨fun K => (He.ma K (He.ga K "Font") "__len__"), "__len__", "Font.__len__", defArgs s_Font_len, defBody s_Font_len, defScope s_Font_len, [], [], []⟩
def dx_Font_changes : DefX := ⟨fun K => (prAt K (He.ma K (He.ga K "Font") "changes")), "changes", "Font.changes", defArgs s_Font_changes, defBody s_Font_changes, defScope s_Font_changes, [], [], []⟩
def dx_Font_blank : DefX := ⟨fun K => (prAt K (He.ma K (He.ga K "Font") "blank")), "blank", "Font.blank", defArgs s_Font_blank, defBody s_Font_blank, defScope s_Font_blank, [], [], []⟩
def dx_Font_kerns : DefX := ⟨fun K => (He.ma K (He.ga K "Font") "kerns"), "kerns", "Font.kerns", defArgs s_Font_kerns, defBody s_Font_kerns, defScope s_Font_kerns, [], [], []⟩
def dx_Font_snapshot : DefX := ⟨fun K => (He.ma K (He.ga K "Font") "snapshot"), "snapshot", "Font.snapshot", defArgs s_Font_snapshot, defBody s_Font_snapshot, defScope s_Font_snapshot, [], [], []⟩
def dx_Font_remember : DefX := ⟨fun K => (He.ma K (He.ga K "Font") "remember"), "remember", "Font.remember", defArgs s_Font_remember, defBody s_Font_remember, defScope s_Font_remember, [], [], []⟩
def dx_Font_put_blank : DefX := ⟨fun K => (He.ma K (He.ga K "Font") "put_blank"), "put_blank", "Font.put_blank", defArgs s_Font_put_blank, defBody s_Font_put_blank, defScope s_Font_put_blank, [], [], []⟩
def dx_Font_put_advance : DefX := ⟨fun K => (He.ma K (He.ga K "Font") "put_advance"), "put_advance", "Font.put_advance", defArgs s_Font_put_advance, defBody s_Font_put_advance, defScope s_Font_put_advance, [], [], []⟩
def dx_Font_put_drop : DefX := ⟨fun K => (He.ma K (He.ga K "Font") "put_drop"), "put_drop", "Font.put_drop", defArgs s_Font_put_drop, defBody s_Font_put_drop, defScope s_Font_put_drop, [], [], []⟩
def dx_Font_put_deed : DefX := ⟨fun K => (He.ma K (He.ga K "Font") "put_deed"), "put_deed", "Font.put_deed", defArgs s_Font_put_deed, defBody s_Font_put_deed, defScope s_Font_put_deed, [], [], []⟩
def dx_Font_set_advance : DefX := ⟨fun K => (He.ma K (He.ga K "Font") "set_advance"), "set_advance", "Font.set_advance", defArgs s_Font_set_advance, defBody s_Font_set_advance, defScope s_Font_set_advance, [], [], []⟩
def dx_Font_setitem : DefX := ⟨fun K => (He.ma K (He.ga K "Font") "__setitem__"), "__setitem__", "Font.__setitem__", defArgs s_Font_setitem, defBody s_Font_setitem, defScope s_Font_setitem, [], [], []⟩
def dx_Font_drop : DefX := ⟨fun K => (He.ma K (He.ga K "Font") "drop"), "drop", "Font.drop", defArgs s_Font_drop, defBody s_Font_drop, defScope s_Font_drop, [], [], []⟩
def dx_Batch_init : DefX := ⟨fun K => (He.ma K (He.ga K "Batch") "__init__"), "__init__", "Batch.__init__", defArgs s_Batch_init, defBody s_Batch_init, defScope s_Batch_init, [], [], []⟩
def dx_Batch_enter : DefX := ⟨fun K => (He.ma K (He.ga K "Batch") "__enter__"), "__enter__", "Batch.__enter__", defArgs s_Batch_enter, defBody s_Batch_enter, defScope s_Batch_enter, [], [], []⟩
def dx_Batch_exit : DefX := ⟨fun K => (He.ma K (He.ga K "Batch") "__exit__"), "__exit__", "Batch.__exit__", defArgs s_Batch_exit, defBody s_Batch_exit, defScope s_Batch_exit, [], [], []⟩
def dx_Font_apply : DefX := ⟨fun K => (He.ma K (He.ga K "Font") "apply"), "apply", "Font.apply", defArgs s_Font_apply, defBody s_Font_apply, defScope s_Font_apply, [], [], []⟩
def dx_Font_set_advances : DefX := ⟨fun K => (He.ma K (He.ga K "Font") "set_advances"), "set_advances", "Font.set_advances", defArgs s_Font_set_advances, defBody s_Font_set_advances, defScope s_Font_set_advances, [], [], []⟩
def dx_Font_init : DefX := ⟨fun K => (He.ma K (He.ga K "Font") "__init__"), "__init__", "Font.__init__", defArgs s_Font_init, defBody s_Font_init, defScope s_Font_init, [.non], [("blank", .int 250)], []⟩
def dx_Font_even : DefX := ⟨fun K => (He5.wf K (He.ga K "Font") "classmethod" "even"), "even", "Font.even", defArgs s_Font_even, defBody s_Font_even, defScope s_Font_even, [], [("blank", .int 250)], []⟩
def dx_law_bag : DefX := ⟨fun K => (He.fAd K ("_law_bag", none)), "_law_bag", "_law_bag", defArgs s_law_bag, defBody s_law_bag, defScope s_law_bag, [], [], []⟩
def dx_law_take : DefX := ⟨fun K => (He.fAd K ("_law_take", none)), "_law_take", "_law_take", defArgs s_law_take, defBody s_law_take, defScope s_law_take, [], [], []⟩
def dx_law_int : DefX := ⟨fun K => (He.fAd K ("_law_int", none)), "_law_int", "_law_int", defArgs s_law_int, defBody s_law_int, defScope s_law_int, [], [], []⟩
def dx_law_letters : DefX := ⟨fun K => (He.fAd K ("_law_letters", none)), "_law_letters", "_law_letters", defArgs s_law_letters, defBody s_law_letters, defScope s_law_letters, [], [], []⟩
def dx_law_rank : DefX := ⟨fun K => (He.fAd K ("_law_rank", none)), "_law_rank", "_law_rank", defArgs s_law_rank, defBody s_law_rank, defScope s_law_rank, [], [], []⟩
def dx_law_agrees : DefX := ⟨fun K => (He.fAd K ("_law_agrees", none)), "_law_agrees", "_law_agrees", defArgs s_law_agrees, defBody s_law_agrees, defScope s_law_agrees, [], [], []⟩
def dx_law_too_many : DefX := ⟨fun K => (He.fAd K ("_law_too_many", none)), "_law_too_many", "_law_too_many", defArgs s_law_too_many, defBody s_law_too_many, defScope s_law_too_many, [], [], []⟩
def dx_law_at_once : DefX := ⟨fun K => (He.fAd K ("_law_at_once", none)), "_law_at_once", "_law_at_once", defArgs s_law_at_once, defBody s_law_at_once, defScope s_law_at_once, [], [], []⟩
def dx_law_full : DefX := ⟨fun K => (He.fAd K ("_law_full", none)), "_law_full", "_law_full", defArgs s_law_full, defBody s_law_full, defScope s_law_full, [], [], []⟩
def dx_law : DefX := ⟨fun K => (He.fAd K ("law", none)), "law", "law", defArgs s_law, defBody s_law, defScope s_law, [], [], []⟩
def dx_InvalidGlyph_init : DefX := ⟨fun K => (He.ma K (He.ga K "InvalidGlyph") "__init__"), "__init__", "InvalidGlyph.__init__", defArgs s_InvalidGlyph_init, defBody s_InvalidGlyph_init, defScope s_InvalidGlyph_init, [], [], ["__class__"]⟩
def dx_InvalidNumber_init : DefX := ⟨fun K => (He.ma K (He.ga K "InvalidNumber") "__init__"), "__init__", "InvalidNumber.__init__", defArgs s_InvalidNumber_init, defBody s_InvalidNumber_init, defScope s_InvalidNumber_init, [], [], ["__class__"]⟩
def dx_UnknownGlyph_init : DefX := ⟨fun K => (He.ma K (He.ga K "UnknownGlyph") "__init__"), "__init__", "UnknownGlyph.__init__", defArgs s_UnknownGlyph_init, defBody s_UnknownGlyph_init, defScope s_UnknownGlyph_init, [], [], ["__class__"]⟩
def dx_TooMany_init : DefX := ⟨fun K => (He.ma K (He.ga K "TooMany") "__init__"), "__init__", "TooMany.__init__", defArgs s_TooMany_init, defBody s_TooMany_init, defScope s_TooMany_init, [], [], ["__class__"]⟩
def dx_DeedRefused_init : DefX := ⟨fun K => (He.ma K (He.ga K "DeedRefused") "__init__"), "__init__", "DeedRefused.__init__", defArgs s_DeedRefused_init, defBody s_DeedRefused_init, defScope s_DeedRefused_init, [], [], ["__class__"]⟩
noncomputable def adK (w : World) (K : Fg) : Ad := { f_is_integer := (He.fAd K ("is_integer", none)), d_is_integer := fdAt K (He.fAd K ("is_integer", none)), f_is_between := (He.fAd K ("is_between", none)), d_is_between := fdAt K (He.fAd K ("is_between", none)), f_check_between := (He.fAd K ("check_between", none)), d_check_between := fdAt K (He.fAd K ("check_between", none)), f_font_order := (He.fAd K ("font_order", none)), d_font_order := fdAt K (He.fAd K ("font_order", none)), c_font_order := He.codeOf K ("font_order", none), P_font_order := (He.cT K ("font_order", none)).2, f_is_name := (He.fAd K ("is_name", none)), d_is_name := fdAt K (He.fAd K ("is_name", none)), f_is_deed := (He.fAd K ("is_deed", none)), d_is_deed := fdAt K (He.fAd K ("is_deed", none)), f_Font_known := (He.ma K (He.ga K "Font") "known"), d_Font_known := fdAt K (He.ma K (He.ga K "Font") "known"), f_Font_ligatures := (prAt K (He.ma K (He.ga K "Font") "ligatures")), d_Font_ligatures := fdAt K (prAt K (He.ma K (He.ga K "Font") "ligatures")), p_Font_ligatures := He.ma K (He.ga K "Font") "ligatures", f_Font_glyphs := (He.ma K (He.ga K "Font") "glyphs"), d_Font_glyphs := fdAt K (He.ma K (He.ga K "Font") "glyphs"), f_Font_advance_of := (He.ma K (He.ga K "Font") "advance_of"), d_Font_advance_of := fdAt K (He.ma K (He.ga K "Font") "advance_of"), f_Font_contains := (He.ma K (He.ga K "Font") "__contains__"), d_Font_contains := fdAt K (He.ma K (He.ga K "Font") "__contains__"), f_Font_len := (He.ma K (He.ga K "Font") "__len__"), d_Font_len := fdAt K (He.ma K (He.ga K "Font") "__len__"), f_Font_changes := (prAt K (He.ma K (He.ga K "Font") "changes")), d_Font_changes := fdAt K (prAt K (He.ma K (He.ga K "Font") "changes")), p_Font_changes := He.ma K (He.ga K "Font") "changes", f_Font_blank := (prAt K (He.ma K (He.ga K "Font") "blank")), d_Font_blank := fdAt K (prAt K (He.ma K (He.ga K "Font") "blank")), p_Font_blank := He.ma K (He.ga K "Font") "blank", f_Font_kerns := (He.ma K (He.ga K "Font") "kerns"), d_Font_kerns := fdAt K (He.ma K (He.ga K "Font") "kerns"), f_Font_snapshot := (He.ma K (He.ga K "Font") "snapshot"), d_Font_snapshot := fdAt K (He.ma K (He.ga K "Font") "snapshot"), f_Font_remember := (He.ma K (He.ga K "Font") "remember"), d_Font_remember := fdAt K (He.ma K (He.ga K "Font") "remember"), f_Font_put_blank := (He.ma K (He.ga K "Font") "put_blank"), d_Font_put_blank := fdAt K (He.ma K (He.ga K "Font") "put_blank"), f_Font_put_advance := (He.ma K (He.ga K "Font") "put_advance"), d_Font_put_advance := fdAt K (He.ma K (He.ga K "Font") "put_advance"), f_Font_put_drop := (He.ma K (He.ga K "Font") "put_drop"), d_Font_put_drop := fdAt K (He.ma K (He.ga K "Font") "put_drop"), f_Font_put_deed := (He.ma K (He.ga K "Font") "put_deed"), d_Font_put_deed := fdAt K (He.ma K (He.ga K "Font") "put_deed"), f_Font_set_advance := (He.ma K (He.ga K "Font") "set_advance"), d_Font_set_advance := fdAt K (He.ma K (He.ga K "Font") "set_advance"), f_Font_setitem := (He.ma K (He.ga K "Font") "__setitem__"), d_Font_setitem := fdAt K (He.ma K (He.ga K "Font") "__setitem__"), f_Font_drop := (He.ma K (He.ga K "Font") "drop"), d_Font_drop := fdAt K (He.ma K (He.ga K "Font") "drop"), f_Batch_init := (He.ma K (He.ga K "Batch") "__init__"), d_Batch_init := fdAt K (He.ma K (He.ga K "Batch") "__init__"), f_Batch_enter := (He.ma K (He.ga K "Batch") "__enter__"), d_Batch_enter := fdAt K (He.ma K (He.ga K "Batch") "__enter__"), f_Batch_exit := (He.ma K (He.ga K "Batch") "__exit__"), d_Batch_exit := fdAt K (He.ma K (He.ga K "Batch") "__exit__"), f_Font_apply := (He.ma K (He.ga K "Font") "apply"), d_Font_apply := fdAt K (He.ma K (He.ga K "Font") "apply"), f_Font_set_advances := (He.ma K (He.ga K "Font") "set_advances"), d_Font_set_advances := fdAt K (He.ma K (He.ga K "Font") "set_advances"), f_Font_init := (He.ma K (He.ga K "Font") "__init__"), d_Font_init := fdAt K (He.ma K (He.ga K "Font") "__init__"), g1_blank_Font_init := Classical.epsilon fun g => KBn K (fdAt K (He.ma K (He.ga K "Font") "__init__")) (["self", "advances", "kerns", "blank"] : List Str) 2 (["blank"] : List Str) g (fun vs zs => vs ++ [V.non] ++ zs), v1_Font_init := Classical.epsilon fun v => Vals [V.non, V.int 250] v ∧ Binds K (fdAt K (He.ma K (He.ga K "Font") "__init__")) (["self", "advances", "kerns", "blank"] : List Str) v, g2_blank_Font_init := Classical.epsilon fun g => KBn K (fdAt K (He.ma K (He.ga K "Font") "__init__")) (["self", "advances", "kerns", "blank"] : List Str) 3 (["blank"] : List Str) g (fun vs zs => vs ++ [] ++ zs), f_Font_even := (He5.wf K (He.ga K "Font") "classmethod" "even"), d_Font_even := fdAt K (He5.wf K (He.ga K "Font") "classmethod" "even"), p_Font_even := He.ma K (He.ga K "Font") "even", g2_blank_Font_even := Classical.epsilon fun g => KBn K (fdAt K (He5.wf K (He.ga K "Font") "classmethod" "even")) (["cls", "letters", "advance", "blank"] : List Str) 3 (["blank"] : List Str) g (fun vs zs => vs ++ [] ++ zs), v2_Font_even := Classical.epsilon fun v => Vals [V.int 250] v ∧ Binds K (fdAt K (He5.wf K (He.ga K "Font") "classmethod" "even")) (["cls", "letters", "advance", "blank"] : List Str) v, f_law_bag := (He.fAd K ("_law_bag", none)), d_law_bag := fdAt K (He.fAd K ("_law_bag", none)), f_law_take := (He.fAd K ("_law_take", none)), d_law_take := fdAt K (He.fAd K ("_law_take", none)), f_law_int := (He.fAd K ("_law_int", none)), d_law_int := fdAt K (He.fAd K ("_law_int", none)), f_law_letters := (He.fAd K ("_law_letters", none)), d_law_letters := fdAt K (He.fAd K ("_law_letters", none)), f_law_rank := (He.fAd K ("_law_rank", none)), d_law_rank := fdAt K (He.fAd K ("_law_rank", none)), f_law_agrees := (He.fAd K ("_law_agrees", none)), d_law_agrees := fdAt K (He.fAd K ("_law_agrees", none)), f_law_too_many := (He.fAd K ("_law_too_many", none)), d_law_too_many := fdAt K (He.fAd K ("_law_too_many", none)), f_law_at_once := (He.fAd K ("_law_at_once", none)), d_law_at_once := fdAt K (He.fAd K ("_law_at_once", none)), f_law_full := (He.fAd K ("_law_full", none)), d_law_full := fdAt K (He.fAd K ("_law_full", none)), f_law := (He.fAd K ("law", none)), d_law := fdAt K (He.fAd K ("law", none)), C_Font := He.ga K "Font", C_Batch := He.ga K "Batch", C_FontError := He.ga K "FontError", C_InvalidGlyph := He.ga K "InvalidGlyph", i_InvalidGlyph := (He.ma K (He.ga K "InvalidGlyph") "__init__"), c_InvalidGlyph := ccAt K (He.ma K (He.ga K "InvalidGlyph") "__init__"), k_InvalidGlyph := cdAt K (He.ma K (He.ga K "InvalidGlyph") "__init__"), C_InvalidNumber := He.ga K "InvalidNumber", i_InvalidNumber := (He.ma K (He.ga K "InvalidNumber") "__init__"), c_InvalidNumber := ccAt K (He.ma K (He.ga K "InvalidNumber") "__init__"), k_InvalidNumber := cdAt K (He.ma K (He.ga K "InvalidNumber") "__init__"), C_UnknownGlyph := He.ga K "UnknownGlyph", i_UnknownGlyph := (He.ma K (He.ga K "UnknownGlyph") "__init__"), c_UnknownGlyph := ccAt K (He.ma K (He.ga K "UnknownGlyph") "__init__"), k_UnknownGlyph := cdAt K (He.ma K (He.ga K "UnknownGlyph") "__init__"), C_TooMany := He.ga K "TooMany", i_TooMany := (He.ma K (He.ga K "TooMany") "__init__"), c_TooMany := ccAt K (He.ma K (He.ga K "TooMany") "__init__"), k_TooMany := cdAt K (He.ma K (He.ga K "TooMany") "__init__"), C_DeedRefused := He.ga K "DeedRefused", i_DeedRefused := (He.ma K (He.ga K "DeedRefused") "__init__"), c_DeedRefused := ccAt K (He.ma K (He.ga K "DeedRefused") "__init__"), k_DeedRefused := cdAt K (He.ma K (He.ga K "DeedRefused") "__init__"), D_DEED_SIZES := He.ga K "DEED_SIZES", w_ := w }
def fnL : List DefX := [dx_is_integer, dx_is_between, dx_check_between, dx_font_order, dx_is_name, dx_is_deed, dx_Font_known, dx_Font_ligatures, dx_Font_glyphs, dx_Font_advance_of, dx_Font_contains, dx_Font_len, dx_Font_changes, dx_Font_blank, dx_Font_kerns, dx_Font_snapshot, dx_Font_remember, dx_Font_put_blank, dx_Font_put_advance, dx_Font_put_drop, dx_Font_put_deed, dx_Font_set_advance, dx_Font_setitem, dx_Font_drop, dx_Batch_init, dx_Batch_enter, dx_Batch_exit, dx_Font_apply, dx_Font_set_advances, dx_Font_init, dx_Font_even, dx_law_bag, dx_law_take, dx_law_int, dx_law_letters, dx_law_rank, dx_law_agrees, dx_law_too_many, dx_law_at_once, dx_law_full, dx_law, dx_InvalidGlyph_init, dx_InvalidNumber_init, dx_UnknownGlyph_init, dx_TooMany_init, dx_DeedRefused_init]
def fxL : List (Fg → Bool) := [fun K => (He.Fa.glo "is_integer").ok K,
  fun K => (He.Fa.glo "is_between").ok K,
  fun K => (He.Fa.glo "check_between").ok K,
  fun K => (He.Fa.glo "font_order").ok K,
  fun K => (He.Fa.glo "is_name").ok K,
  fun K => (He.Fa.glo "is_deed").ok K,
  fun K => (He.Fa.meth "Font" "known").ok K,
  prB "Font" "ligatures",
  fun K => (He.Fa.meth "Font" "glyphs").ok K,
  fun K => (He.Fa.meth "Font" "advance_of").ok K,
  fun K => (He.Fa.meth "Font" "__contains__").ok K,
  fun K => (He.Fa.meth "Font" "__len__").ok K,
  prB "Font" "changes",
  prB "Font" "blank",
  fun K => (He.Fa.meth "Font" "kerns").ok K,
  fun K => (He.Fa.meth "Font" "snapshot").ok K,
  fun K => (He.Fa.meth "Font" "remember").ok K,
  fun K => (He.Fa.meth "Font" "put_blank").ok K,
  fun K => (He.Fa.meth "Font" "put_advance").ok K,
  fun K => (He.Fa.meth "Font" "put_drop").ok K,
  fun K => (He.Fa.meth "Font" "put_deed").ok K,
  fun K => (He.Fa.meth "Font" "set_advance").ok K,
  fun K => (He.Fa.meth "Font" "__setitem__").ok K,
  fun K => (He.Fa.meth "Font" "drop").ok K,
  fun K => (He.Fa.meth "Batch" "__enter__").ok K,
  fun K => (He.Fa.meth "Batch" "__exit__").ok K,
  fun K => (He.Fa.meth "Font" "apply").ok K,
  fun K => (He.Fa.meth "Font" "set_advances").ok K,
  fun K => He5.wrapB K (He.ga K "Font") "classmethod" "classmethod.__get__" "even",
  fun K => PySem.W.fnIn K (He5.wf K (He.ga K "Font") "classmethod" "even"),
  fun K => (He.Fa.glo "_law_bag").ok K,
  fun K => (He.Fa.glo "_law_take").ok K,
  fun K => (He.Fa.glo "_law_int").ok K,
  fun K => (He.Fa.glo "_law_letters").ok K,
  fun K => (He.Fa.glo "_law_rank").ok K,
  fun K => (He.Fa.glo "_law_agrees").ok K,
  fun K => (He.Fa.glo "_law_too_many").ok K,
  fun K => (He.Fa.glo "_law_at_once").ok K,
  fun K => (He.Fa.glo "_law_full").ok K,
  fun K => (He.Fa.glo "law").ok K,
  crB "Font",
  cvB "Font" "MOST_ADVANCE" 1000000,
  cvB "Font" "MOST_LETTERS" 6,
  cvB "Font" "MOST_LIGATURES" 40,
  cvB "Font" "MOST_UNDO" 50,
  fun K => (He.Fa.glo "Font").ok K,
  fun K => (He.Fa.cls "Font").ok K,
  insB "Font",
  fun K => (He.Fa.mkr "Font").ok K,
  fun K => (He.Fa.glo "Batch").ok K,
  fun K => (He.Fa.cls "Batch").ok K,
  insB "Batch",
  fun K => (He.Fa.mkr "Batch").ok K,
  fun K => (He.Fa.glo "FontError").ok K,
  errB (Str.ofString "/claim/cut.py") "InvalidGlyph",
  fun K => He.eqO (PySem.W.findIn K (.ref (He.ga K "InvalidGlyph")) "glyph") (some none),
  errB (Str.ofString "/claim/cut.py") "InvalidNumber",
  fun K => He.eqO (PySem.W.findIn K (.ref (He.ga K "InvalidNumber")) "value") (some none),
  errB (Str.ofString "/claim/cut.py") "UnknownGlyph",
  fun K => He.eqO (PySem.W.findIn K (.ref (He.ga K "UnknownGlyph")) "glyph") (some none),
  errB (Str.ofString "/claim/cut.py") "TooMany",
  fun K => He.eqO (PySem.W.findIn K (.ref (He.ga K "TooMany")) "limit") (some none),
  errB (Str.ofString "/claim/cut.py") "DeedRefused",
  fun K => He.eqO (PySem.W.findIn K (.ref (He.ga K "DeedRefused")) "index") (some none),
  fun K => (He.Fa.glo "DEED_SIZES").ok K,
  fun K => (He.Fa.free "bool").ok K,
  fun K => (He.Fa.free "dict").ok K,
  fun K => (He.Fa.free "enumerate").ok K,
  fun K => (He.Fa.free "int").ok K,
  fun K => (He.Fa.free "isinstance").ok K,
  fun K => (He.Fa.free "len").ok K,
  fun K => (He.Fa.free "list").ok K,
  fun K => (He.Fa.free "range").ok K,
  fun K => (He.Fa.free "sorted").ok K,
  fun K => (He.Fa.free "str").ok K,
  fun K => (He.Fa.free "tuple").ok K,
  fun K => (He.Fa.noat "Font" "rows").ok K,
  fun K => (He.Fa.noat "Font" "pairs").ok K,
  fun K => (He.Fa.noat "Font" "space").ok K,
  fun K => (He.Fa.noat "Font" "past").ok K,
  fun K => (He.Fa.noat "Batch" "face").ok K,
  fun K => (He.Fa.noat "Batch" "rows").ok K,
  fun K => (He.Fa.noat "Batch" "pairs").ok K,
  fun K => (He.Fa.noat "Batch" "space").ok K,
  fun K => decide (PySem.W.noSeq K (He.ga K "Font") = true),
  fun K => decide (PySem.W.typeIn K (.ref (He.ga K "FontError")) = some (.type "type")),
  fun K => decide (PySem.W.subIn K (.ref (He.ga K "FontError")) (.type "BaseException") = some true),
  fun K => decide ((PySem.W.clsIn K (He.ga K "FontError")).isSome = true),
  fun K => decide ((PySem.W.clsIn K (He.ga K "InvalidGlyph")).map (·.mro) = some [.ref (He.ga K "InvalidGlyph"), .ref (He.ga K "FontError"), .type "ValueError", .type "Exception", .type "BaseException", .type "object"]),
  fun K => decide ((PySem.W.clsIn K (He.ga K "InvalidNumber")).map (·.mro) = some [.ref (He.ga K "InvalidNumber"), .ref (He.ga K "FontError"), .type "ValueError", .type "Exception", .type "BaseException", .type "object"]),
  fun K => decide ((PySem.W.clsIn K (He.ga K "UnknownGlyph")).map (·.mro) = some [.ref (He.ga K "UnknownGlyph"), .ref (He.ga K "FontError"), .type "ValueError", .type "Exception", .type "BaseException", .type "object"]),
  fun K => decide ((PySem.W.clsIn K (He.ga K "TooMany")).map (·.mro) = some [.ref (He.ga K "TooMany"), .ref (He.ga K "FontError"), .type "ValueError", .type "Exception", .type "BaseException", .type "object"]),
  fun K => decide ((PySem.W.clsIn K (He.ga K "DeedRefused")).map (·.mro) = some [.ref (He.ga K "DeedRefused"), .ref (He.ga K "FontError"), .type "ValueError", .type "Exception", .type "BaseException", .type "object"]),
  fun K => decide (([(He.ga K "InvalidGlyph"), (He.ga K "InvalidNumber"), (He.ga K "UnknownGlyph"), (He.ga K "TooMany"), (He.ga K "DeedRefused"), (He.ga K "FontError")] : List Addr).Nodup),
  fun K => decide (isIntAt K (He.ga K "DEED_SIZES") "blank" 2 = true),
  fun K => decide (isIntAt K (He.ga K "DEED_SIZES") "advance" 3 = true)]
def tfL : List He.Defn := [("font_order", none)]
abbrev Sy (h : Heap) (K : Fg) : Prop := Says2 fnL tfL fxL h K
def tsL : List He.Tab := [(fun K => He.ga K "DEED_SIZES", ["advance", "kern", "drop", "blank"])]
section
variable {w : World} {K : Fg} {h : Heap} {mg : Str → Option Value} {base : Heap}
theorem df_is_integer (c : Sy h K) : FunD K "is_integer" "is_integer" (defArgs s_is_integer) (defBody s_is_integer) (defScope s_is_integer) [] [] (adK w K).f_is_integer (adK w K).d_is_integer := DefX.funD (d := dx_is_integer) (c.def_ 0) rfl
theorem df_is_between (c : Sy h K) : FunD K "is_between" "is_between" (defArgs s_is_between) (defBody s_is_between) (defScope s_is_between) [] [] (adK w K).f_is_between (adK w K).d_is_between := DefX.funD (d := dx_is_between) (c.def_ 1) rfl
theorem df_check_between (c : Sy h K) : FunD K "check_between" "check_between" (defArgs s_check_between) (defBody s_check_between) (defScope s_check_between) [] [] (adK w K).f_check_between (adK w K).d_check_between := DefX.funD (d := dx_check_between) (c.def_ 2) rfl
theorem df_font_order (c : Sy h K) : FunD K "font_order" "font_order" (defArgs s_font_order) (defBody s_font_order) (defScope s_font_order) [] [] (adK w K).f_font_order (adK w K).d_font_order := DefX.funD (d := dx_font_order) (c.def_ 3) rfl
theorem df_is_name (c : Sy h K) : FunD K "is_name" "is_name" (defArgs s_is_name) (defBody s_is_name) (defScope s_is_name) [] [] (adK w K).f_is_name (adK w K).d_is_name := DefX.funD (d := dx_is_name) (c.def_ 4) rfl
theorem df_is_deed (c : Sy h K) : FunD K "is_deed" "is_deed" (defArgs s_is_deed) (defBody s_is_deed) (defScope s_is_deed) [] [] (adK w K).f_is_deed (adK w K).d_is_deed := DefX.funD (d := dx_is_deed) (c.def_ 5) rfl
theorem df_Font_known (c : Sy h K) : FunD K "known" "Font.known" (defArgs s_Font_known) (defBody s_Font_known) (defScope s_Font_known) [] [] (adK w K).f_Font_known (adK w K).d_Font_known := DefX.funD (d := dx_Font_known) (c.def_ 6) rfl
theorem df_Font_ligatures (c : Sy h K) : FunD K "ligatures" "Font.ligatures" (defArgs s_Font_ligatures) (defBody s_Font_ligatures) (defScope s_Font_ligatures) [] [] (adK w K).f_Font_ligatures (adK w K).d_Font_ligatures := DefX.funD (d := dx_Font_ligatures) (c.def_ 7) rfl
theorem df_Font_glyphs (c : Sy h K) : FunD K "glyphs" "Font.glyphs" (defArgs s_Font_glyphs) (defBody s_Font_glyphs) (defScope s_Font_glyphs) [] [] (adK w K).f_Font_glyphs (adK w K).d_Font_glyphs := DefX.funD (d := dx_Font_glyphs) (c.def_ 8) rfl
theorem df_Font_advance_of (c : Sy h K) : FunD K "advance_of" "Font.advance_of" (defArgs s_Font_advance_of) (defBody s_Font_advance_of) (defScope s_Font_advance_of) [] [] (adK w K).f_Font_advance_of (adK w K).d_Font_advance_of := DefX.funD (d := dx_Font_advance_of) (c.def_ 9) rfl
theorem df_Font_contains (c : Sy h K) : FunD K "__contains__" "Font.__contains__" (defArgs s_Font_contains) (defBody s_Font_contains) (defScope s_Font_contains) [] [] (adK w K).f_Font_contains (adK w K).d_Font_contains := DefX.funD (d := dx_Font_contains) (c.def_ 10) rfl
theorem df_Font_len (c : Sy h K) : FunD K "__len__" "Font.__len__" (defArgs s_Font_len) (defBody s_Font_len) (defScope s_Font_len) [] [] (adK w K).f_Font_len (adK w K).d_Font_len := DefX.funD (d := dx_Font_len) (c.def_ 11) rfl
theorem df_Font_changes (c : Sy h K) : FunD K "changes" "Font.changes" (defArgs s_Font_changes) (defBody s_Font_changes) (defScope s_Font_changes) [] [] (adK w K).f_Font_changes (adK w K).d_Font_changes := DefX.funD (d := dx_Font_changes) (c.def_ 12) rfl
theorem df_Font_blank (c : Sy h K) : FunD K "blank" "Font.blank" (defArgs s_Font_blank) (defBody s_Font_blank) (defScope s_Font_blank) [] [] (adK w K).f_Font_blank (adK w K).d_Font_blank := DefX.funD (d := dx_Font_blank) (c.def_ 13) rfl
theorem df_Font_kerns (c : Sy h K) : FunD K "kerns" "Font.kerns" (defArgs s_Font_kerns) (defBody s_Font_kerns) (defScope s_Font_kerns) [] [] (adK w K).f_Font_kerns (adK w K).d_Font_kerns := DefX.funD (d := dx_Font_kerns) (c.def_ 14) rfl
theorem df_Font_snapshot (c : Sy h K) : FunD K "snapshot" "Font.snapshot" (defArgs s_Font_snapshot) (defBody s_Font_snapshot) (defScope s_Font_snapshot) [] [] (adK w K).f_Font_snapshot (adK w K).d_Font_snapshot := DefX.funD (d := dx_Font_snapshot) (c.def_ 15) rfl
theorem df_Font_remember (c : Sy h K) : FunD K "remember" "Font.remember" (defArgs s_Font_remember) (defBody s_Font_remember) (defScope s_Font_remember) [] [] (adK w K).f_Font_remember (adK w K).d_Font_remember := DefX.funD (d := dx_Font_remember) (c.def_ 16) rfl
theorem df_Font_put_blank (c : Sy h K) : FunD K "put_blank" "Font.put_blank" (defArgs s_Font_put_blank) (defBody s_Font_put_blank) (defScope s_Font_put_blank) [] [] (adK w K).f_Font_put_blank (adK w K).d_Font_put_blank := DefX.funD (d := dx_Font_put_blank) (c.def_ 17) rfl
theorem df_Font_put_advance (c : Sy h K) : FunD K "put_advance" "Font.put_advance" (defArgs s_Font_put_advance) (defBody s_Font_put_advance) (defScope s_Font_put_advance) [] [] (adK w K).f_Font_put_advance (adK w K).d_Font_put_advance := DefX.funD (d := dx_Font_put_advance) (c.def_ 18) rfl
theorem df_Font_put_drop (c : Sy h K) : FunD K "put_drop" "Font.put_drop" (defArgs s_Font_put_drop) (defBody s_Font_put_drop) (defScope s_Font_put_drop) [] [] (adK w K).f_Font_put_drop (adK w K).d_Font_put_drop := DefX.funD (d := dx_Font_put_drop) (c.def_ 19) rfl
theorem df_Font_put_deed (c : Sy h K) : FunD K "put_deed" "Font.put_deed" (defArgs s_Font_put_deed) (defBody s_Font_put_deed) (defScope s_Font_put_deed) [] [] (adK w K).f_Font_put_deed (adK w K).d_Font_put_deed := DefX.funD (d := dx_Font_put_deed) (c.def_ 20) rfl
theorem df_Font_set_advance (c : Sy h K) : FunD K "set_advance" "Font.set_advance" (defArgs s_Font_set_advance) (defBody s_Font_set_advance) (defScope s_Font_set_advance) [] [] (adK w K).f_Font_set_advance (adK w K).d_Font_set_advance := DefX.funD (d := dx_Font_set_advance) (c.def_ 21) rfl
theorem df_Font_setitem (c : Sy h K) : FunD K "__setitem__" "Font.__setitem__" (defArgs s_Font_setitem) (defBody s_Font_setitem) (defScope s_Font_setitem) [] [] (adK w K).f_Font_setitem (adK w K).d_Font_setitem := DefX.funD (d := dx_Font_setitem) (c.def_ 22) rfl
theorem df_Font_drop (c : Sy h K) : FunD K "drop" "Font.drop" (defArgs s_Font_drop) (defBody s_Font_drop) (defScope s_Font_drop) [] [] (adK w K).f_Font_drop (adK w K).d_Font_drop := DefX.funD (d := dx_Font_drop) (c.def_ 23) rfl
theorem df_Batch_init (c : Sy h K) : FunD K "__init__" "Batch.__init__" (defArgs s_Batch_init) (defBody s_Batch_init) (defScope s_Batch_init) [] [] (adK w K).f_Batch_init (adK w K).d_Batch_init := DefX.funD (d := dx_Batch_init) (c.def_ 24) rfl
theorem df_Batch_enter (c : Sy h K) : FunD K "__enter__" "Batch.__enter__" (defArgs s_Batch_enter) (defBody s_Batch_enter) (defScope s_Batch_enter) [] [] (adK w K).f_Batch_enter (adK w K).d_Batch_enter := DefX.funD (d := dx_Batch_enter) (c.def_ 25) rfl
theorem df_Batch_exit (c : Sy h K) : FunD K "__exit__" "Batch.__exit__" (defArgs s_Batch_exit) (defBody s_Batch_exit) (defScope s_Batch_exit) [] [] (adK w K).f_Batch_exit (adK w K).d_Batch_exit := DefX.funD (d := dx_Batch_exit) (c.def_ 26) rfl
theorem df_Font_apply (c : Sy h K) : FunD K "apply" "Font.apply" (defArgs s_Font_apply) (defBody s_Font_apply) (defScope s_Font_apply) [] [] (adK w K).f_Font_apply (adK w K).d_Font_apply := DefX.funD (d := dx_Font_apply) (c.def_ 27) rfl
theorem df_Font_set_advances (c : Sy h K) : FunD K "set_advances" "Font.set_advances" (defArgs s_Font_set_advances) (defBody s_Font_set_advances) (defScope s_Font_set_advances) [] [] (adK w K).f_Font_set_advances (adK w K).d_Font_set_advances := DefX.funD (d := dx_Font_set_advances) (c.def_ 28) rfl
theorem df_Font_init (c : Sy h K) : FunD K "__init__" "Font.__init__" (defArgs s_Font_init) (defBody s_Font_init) (defScope s_Font_init) [V.non] [("blank", V.int 250)] (adK w K).f_Font_init (adK w K).d_Font_init := DefX.funD (d := dx_Font_init) (c.def_ 29) rfl
theorem bg1_blank_Font_init (c : Sy h K) : KBn K (adK w K).d_Font_init (["self", "advances", "kerns", "blank"] : List Str) 2 (["blank"] : List Str) (adK w K).g1_blank_Font_init (fun vs zs => vs ++ [V.non] ++ zs) := eps (P := fun g => KBn K (fdAt K (He.ma K (He.ga K "Font") "__init__")) (["self", "advances", "kerns", "blank"] : List Str) 2 (["blank"] : List Str) g (fun vs zs => vs ++ [V.non] ++ zs)) (by
  obtain ⟨it, mv, q⟩ := FunD.kbinds (ps := (["self", "advances", "kerns", "blank"] : List Str)) (df_Font_init (w := w) c) 2 (["blank"] : List Str) [] (fun us its mv ws => us ++ its.drop 0 ++ ws) (by simp) (by simp) (by simp) (fun r1 r2 _ r4 => (r1.append (r2.drop 0)).append r4) (fun T D doc pm an cdv ct us its mv ws h1 h2 h3 h4 => match us, its, mv, ws, h1, h2, h3, h4 with | [_, _], [_], [], [_], _, _, _, _ => ⟨_, rfl, rfl⟩)
  exact ⟨_, q⟩)
theorem bv1_Font_init (c : Sy h K) : Vals [V.non, V.int 250] (adK w K).v1_Font_init ∧ Binds K (adK w K).d_Font_init (["self", "advances", "kerns", "blank"] : List Str) (adK w K).v1_Font_init := eps (P := fun v => Vals [V.non, V.int 250] v ∧ Binds K (fdAt K (He.ma K (He.ga K "Font") "__init__")) (["self", "advances", "kerns", "blank"] : List Str) v) (FunD.binds (ps := (["self", "advances", "kerns", "blank"] : List Str)) (df_Font_init (w := w) c) 2 0 (by simp) (by decide) (fun T D doc pm an cdv ct us its ks h1 h2 h3 => match us, its, ks, h1, h2, h3 with | [_, _], [_], [_], _, _, _ => ⟨_, rfl, _, _, _, _, _, _, rfl, rfl, rfl⟩) (by simp))
theorem bg2_blank_Font_init (c : Sy h K) : KBn K (adK w K).d_Font_init (["self", "advances", "kerns", "blank"] : List Str) 3 (["blank"] : List Str) (adK w K).g2_blank_Font_init (fun vs zs => vs ++ [] ++ zs) := eps (P := fun g => KBn K (fdAt K (He.ma K (He.ga K "Font") "__init__")) (["self", "advances", "kerns", "blank"] : List Str) 3 (["blank"] : List Str) g (fun vs zs => vs ++ [] ++ zs)) (by
  obtain ⟨it, mv, q⟩ := FunD.kbinds (ps := (["self", "advances", "kerns", "blank"] : List Str)) (df_Font_init (w := w) c) 3 (["blank"] : List Str) [] (fun us its mv ws => us ++ its.drop 1 ++ ws) (by simp) (by simp) (by simp) (fun r1 r2 _ r4 => (r1.append (r2.drop 1)).append r4) (fun T D doc pm an cdv ct us its mv ws h1 h2 h3 h4 => match us, its, mv, ws, h1, h2, h3, h4 with | [_, _, _], [_], [], [_], _, _, _, _ => ⟨_, rfl, rfl⟩)
  exact ⟨_, q⟩)
theorem df_Font_even (c : Sy h K) : FunD K "even" "Font.even" (defArgs s_Font_even) (defBody s_Font_even) (defScope s_Font_even) [] [("blank", V.int 250)] (adK w K).f_Font_even (adK w K).d_Font_even := DefX.funD (d := dx_Font_even) (c.def_ 30) rfl
theorem bg2_blank_Font_even (c : Sy h K) : KBn K (adK w K).d_Font_even (["cls", "letters", "advance", "blank"] : List Str) 3 (["blank"] : List Str) (adK w K).g2_blank_Font_even (fun vs zs => vs ++ [] ++ zs) := eps (P := fun g => KBn K (fdAt K (He5.wf K (He.ga K "Font") "classmethod" "even")) (["cls", "letters", "advance", "blank"] : List Str) 3 (["blank"] : List Str) g (fun vs zs => vs ++ [] ++ zs)) (by
  obtain ⟨mv, q⟩ := FunD.kbinds0 (ps := (["cls", "letters", "advance", "blank"] : List Str)) (df_Font_even (w := w) c) 3 (["blank"] : List Str) [] (fun us mv ws => us ++ mv ++ ws) (by simp) (by simp) (fun r1 r2 r3 => (r1.append r2).append r3) (fun D doc pm an cdv ct us mv ws h1 h2 h3 => match us, mv, ws, h1, h2, h3 with | [_, _, _], [], [_], _, _, _ => rfl)
  exact ⟨_, q⟩)
theorem bv2_Font_even (c : Sy h K) : Vals [V.int 250] (adK w K).v2_Font_even ∧ Binds K (adK w K).d_Font_even (["cls", "letters", "advance", "blank"] : List Str) (adK w K).v2_Font_even := eps (P := fun v => Vals [V.int 250] v ∧ Binds K (fdAt K (He5.wf K (He.ga K "Font") "classmethod" "even")) (["cls", "letters", "advance", "blank"] : List Str) v) (by
  obtain ⟨mv, q⟩ := FunD.kbinds0 (ps := (["cls", "letters", "advance", "blank"] : List Str)) (df_Font_even (w := w) c) 3 [] [("blank", V.int 250)] (fun us mv ws => us ++ mv ++ ws) (by simp) (by simp) (fun r1 r2 r3 => (r1.append r2).append r3) (fun D doc pm an cdv ct us mv ws h1 h2 h3 => match us, mv, ws, h1, h2, h3 with | [_, _, _], [_], [], _, _, _ => ⟨_, _, _, _, _, _, rfl, rfl, rfl⟩)
  have e1 := q.rel (vs := []) (zs := []) .nil .nil
  simp only [List.nil_append, List.append_nil, List.map_cons, List.map_nil] at e1
  refine ⟨mv, e1, fun s us X hl => ?_⟩
  have e2 := e1.length
  have e3 := q.to s us [] X (by simp only [List.length_append, List.length_cons, List.length_nil] at hl e2; omega) rfl
  simp only [List.append_nil] at e3
  exact e3)
theorem df_law_bag (c : Sy h K) : FunD K "_law_bag" "_law_bag" (defArgs s_law_bag) (defBody s_law_bag) (defScope s_law_bag) [] [] (adK w K).f_law_bag (adK w K).d_law_bag := DefX.funD (d := dx_law_bag) (c.def_ 31) rfl
theorem df_law_take (c : Sy h K) : FunD K "_law_take" "_law_take" (defArgs s_law_take) (defBody s_law_take) (defScope s_law_take) [] [] (adK w K).f_law_take (adK w K).d_law_take := DefX.funD (d := dx_law_take) (c.def_ 32) rfl
theorem df_law_int (c : Sy h K) : FunD K "_law_int" "_law_int" (defArgs s_law_int) (defBody s_law_int) (defScope s_law_int) [] [] (adK w K).f_law_int (adK w K).d_law_int := DefX.funD (d := dx_law_int) (c.def_ 33) rfl
theorem df_law_letters (c : Sy h K) : FunD K "_law_letters" "_law_letters" (defArgs s_law_letters) (defBody s_law_letters) (defScope s_law_letters) [] [] (adK w K).f_law_letters (adK w K).d_law_letters := DefX.funD (d := dx_law_letters) (c.def_ 34) rfl
theorem df_law_rank (c : Sy h K) : FunD K "_law_rank" "_law_rank" (defArgs s_law_rank) (defBody s_law_rank) (defScope s_law_rank) [] [] (adK w K).f_law_rank (adK w K).d_law_rank := DefX.funD (d := dx_law_rank) (c.def_ 35) rfl
theorem df_law_agrees (c : Sy h K) : FunD K "_law_agrees" "_law_agrees" (defArgs s_law_agrees) (defBody s_law_agrees) (defScope s_law_agrees) [] [] (adK w K).f_law_agrees (adK w K).d_law_agrees := DefX.funD (d := dx_law_agrees) (c.def_ 36) rfl
theorem df_law_too_many (c : Sy h K) : FunD K "_law_too_many" "_law_too_many" (defArgs s_law_too_many) (defBody s_law_too_many) (defScope s_law_too_many) [] [] (adK w K).f_law_too_many (adK w K).d_law_too_many := DefX.funD (d := dx_law_too_many) (c.def_ 37) rfl
theorem df_law_at_once (c : Sy h K) : FunD K "_law_at_once" "_law_at_once" (defArgs s_law_at_once) (defBody s_law_at_once) (defScope s_law_at_once) [] [] (adK w K).f_law_at_once (adK w K).d_law_at_once := DefX.funD (d := dx_law_at_once) (c.def_ 38) rfl
theorem df_law_full (c : Sy h K) : FunD K "_law_full" "_law_full" (defArgs s_law_full) (defBody s_law_full) (defScope s_law_full) [] [] (adK w K).f_law_full (adK w K).d_law_full := DefX.funD (d := dx_law_full) (c.def_ 39) rfl
theorem df_law (c : Sy h K) : FunD K "law" "law" (defArgs s_law) (defBody s_law) (defScope s_law) [] [] (adK w K).f_law (adK w K).d_law := DefX.funD (d := dx_law) (c.def_ 40) rfl
theorem er_InvalidGlyph (X : K.In h) (G : h.Ns mainGlobals mg) (c : Sy h K) : ErrC PySem.Challenge.rw_fontgap_k15_limits_and_even_fonts.prog K mg "InvalidGlyph" "InvalidGlyph.__init__" (defArgs s_InvalidGlyph_init) (defBody s_InvalidGlyph_init) (defScope s_InvalidGlyph_init) (adK w K).C_InvalidGlyph (adK w K).i_InvalidGlyph (adK w K).c_InvalidGlyph (adK w K).k_InvalidGlyph ∧ ExcC K (adK w K).C_InvalidGlyph := errB_ok (file := Str.ofString "/claim/cut.py") X G (c.fact 54) (DefX.errFn (d := dx_InvalidGlyph_init) (c.def_ 41) rfl rfl rfl) rfl (by rfl)
theorem er_InvalidNumber (X : K.In h) (G : h.Ns mainGlobals mg) (c : Sy h K) : ErrC PySem.Challenge.rw_fontgap_k15_limits_and_even_fonts.prog K mg "InvalidNumber" "InvalidNumber.__init__" (defArgs s_InvalidNumber_init) (defBody s_InvalidNumber_init) (defScope s_InvalidNumber_init) (adK w K).C_InvalidNumber (adK w K).i_InvalidNumber (adK w K).c_InvalidNumber (adK w K).k_InvalidNumber ∧ ExcC K (adK w K).C_InvalidNumber := errB_ok (file := Str.ofString "/claim/cut.py") X G (c.fact 56) (DefX.errFn (d := dx_InvalidNumber_init) (c.def_ 42) rfl rfl rfl) rfl (by rfl)
theorem er_UnknownGlyph (X : K.In h) (G : h.Ns mainGlobals mg) (c : Sy h K) : ErrC PySem.Challenge.rw_fontgap_k15_limits_and_even_fonts.prog K mg "UnknownGlyph" "UnknownGlyph.__init__" (defArgs s_UnknownGlyph_init) (defBody s_UnknownGlyph_init) (defScope s_UnknownGlyph_init) (adK w K).C_UnknownGlyph (adK w K).i_UnknownGlyph (adK w K).c_UnknownGlyph (adK w K).k_UnknownGlyph ∧ ExcC K (adK w K).C_UnknownGlyph := errB_ok (file := Str.ofString "/claim/cut.py") X G (c.fact 58) (DefX.errFn (d := dx_UnknownGlyph_init) (c.def_ 43) rfl rfl rfl) rfl (by rfl)
theorem er_TooMany (X : K.In h) (G : h.Ns mainGlobals mg) (c : Sy h K) : ErrC PySem.Challenge.rw_fontgap_k15_limits_and_even_fonts.prog K mg "TooMany" "TooMany.__init__" (defArgs s_TooMany_init) (defBody s_TooMany_init) (defScope s_TooMany_init) (adK w K).C_TooMany (adK w K).i_TooMany (adK w K).c_TooMany (adK w K).k_TooMany ∧ ExcC K (adK w K).C_TooMany := errB_ok (file := Str.ofString "/claim/cut.py") X G (c.fact 60) (DefX.errFn (d := dx_TooMany_init) (c.def_ 44) rfl rfl rfl) rfl (by rfl)
theorem er_DeedRefused (X : K.In h) (G : h.Ns mainGlobals mg) (c : Sy h K) : ErrC PySem.Challenge.rw_fontgap_k15_limits_and_even_fonts.prog K mg "DeedRefused" "DeedRefused.__init__" (defArgs s_DeedRefused_init) (defBody s_DeedRefused_init) (defScope s_DeedRefused_init) (adK w K).C_DeedRefused (adK w K).i_DeedRefused (adK w K).c_DeedRefused (adK w K).k_DeedRefused ∧ ExcC K (adK w K).C_DeedRefused := errB_ok (file := Str.ofString "/claim/cut.py") X G (c.fact 62) (DefX.errFn (d := dx_DeedRefused_init) (c.def_ 45) rfl rfl rfl) rfl (by rfl)
theorem t_F_is_integer (X : K.In h) (G : h.Ns mainGlobals mg) (c : Sy h K) : Fun K "is_integer" "is_integer" s_is_integer (adK w K).f_is_integer (adK w K).d_is_integer := funOf (df_is_integer (w := w) c)
theorem t_B_is_integer (X : K.In h) (G : h.Ns mainGlobals mg) (c : Sy h K) : Binds K (adK w K).d_is_integer (["value"] : List Str) [] := (df_is_integer (w := w) c).bindsN (fun _ _ _ _ _ _ us hl => match us, hl with | [_], _ => rfl)
theorem t_g_is_integer (X : K.In h) (G : h.Ns mainGlobals mg) (c : Sy h K) : mg "is_integer" = some (.ref (adK w K).f_is_integer) := He.glo_ok X G (c.fact 0)
theorem t_k_is_integer (X : K.In h) (G : h.Ns mainGlobals mg) (c : Sy h K) : PySem.W.keepIn K (.ref (adK w K).f_is_integer) = true := (df_is_integer (w := w) c).kp
theorem t_F_is_between (X : K.In h) (G : h.Ns mainGlobals mg) (c : Sy h K) : Fun K "is_between" "is_between" s_is_between (adK w K).f_is_between (adK w K).d_is_between := funOf (df_is_between (w := w) c)
theorem t_B_is_between (X : K.In h) (G : h.Ns mainGlobals mg) (c : Sy h K) : Binds K (adK w K).d_is_between (["value", "low", "high"] : List Str) [] := (df_is_between (w := w) c).bindsN (fun _ _ _ _ _ _ us hl => match us, hl with | [_, _, _], _ => rfl)
theorem t_g_is_between (X : K.In h) (G : h.Ns mainGlobals mg) (c : Sy h K) : mg "is_between" = some (.ref (adK w K).f_is_between) := He.glo_ok X G (c.fact 1)
theorem t_k_is_between (X : K.In h) (G : h.Ns mainGlobals mg) (c : Sy h K) : PySem.W.keepIn K (.ref (adK w K).f_is_between) = true := (df_is_between (w := w) c).kp
theorem t_F_check_between (X : K.In h) (G : h.Ns mainGlobals mg) (c : Sy h K) : Fun K "check_between" "check_between" s_check_between (adK w K).f_check_between (adK w K).d_check_between := funOf (df_check_between (w := w) c)
theorem t_B_check_between (X : K.In h) (G : h.Ns mainGlobals mg) (c : Sy h K) : Binds K (adK w K).d_check_between (["value", "low", "high"] : List Str) [] := (df_check_between (w := w) c).bindsN (fun _ _ _ _ _ _ us hl => match us, hl with | [_, _, _], _ => rfl)
theorem t_g_check_between (X : K.In h) (G : h.Ns mainGlobals mg) (c : Sy h K) : mg "check_between" = some (.ref (adK w K).f_check_between) := He.glo_ok X G (c.fact 2)
theorem t_k_check_between (X : K.In h) (G : h.Ns mainGlobals mg) (c : Sy h K) : PySem.W.keepIn K (.ref (adK w K).f_check_between) = true := (df_check_between (w := w) c).kp
theorem t_F_font_order (X : K.In h) (G : h.Ns mainGlobals mg) (c : Sy h K) : FunC K "font_order" "font_order" s_font_order (adK w K).f_font_order (adK w K).d_font_order (adK w K).c_font_order := funC_of (p := ("font_order", none)) (df_font_order (w := w) c)
theorem t_B_font_order (X : K.In h) (G : h.Ns mainGlobals mg) (c : Sy h K) : Binds K (adK w K).d_font_order (["glyphs"] : List Str) [] := (df_font_order (w := w) c).bindsN (fun _ _ _ _ _ _ us hl => match us, hl with | [_], _ => rfl)
theorem t_g_font_order (X : K.In h) (G : h.Ns mainGlobals mg) (c : Sy h K) : mg "font_order" = some (.ref (adK w K).f_font_order) := He.glo_ok X G (c.fact 3)
theorem t_k_font_order (X : K.In h) (G : h.Ns mainGlobals mg) (c : Sy h K) : PySem.W.keepIn K (.ref (adK w K).f_font_order) = true := (df_font_order (w := w) c).kp
theorem t_F_is_name (X : K.In h) (G : h.Ns mainGlobals mg) (c : Sy h K) : Fun K "is_name" "is_name" s_is_name (adK w K).f_is_name (adK w K).d_is_name := funOf (df_is_name (w := w) c)
theorem t_B_is_name (X : K.In h) (G : h.Ns mainGlobals mg) (c : Sy h K) : Binds K (adK w K).d_is_name (["glyph"] : List Str) [] := (df_is_name (w := w) c).bindsN (fun _ _ _ _ _ _ us hl => match us, hl with | [_], _ => rfl)
theorem t_g_is_name (X : K.In h) (G : h.Ns mainGlobals mg) (c : Sy h K) : mg "is_name" = some (.ref (adK w K).f_is_name) := He.glo_ok X G (c.fact 4)
theorem t_k_is_name (X : K.In h) (G : h.Ns mainGlobals mg) (c : Sy h K) : PySem.W.keepIn K (.ref (adK w K).f_is_name) = true := (df_is_name (w := w) c).kp
theorem t_F_is_deed (X : K.In h) (G : h.Ns mainGlobals mg) (c : Sy h K) : Fun K "is_deed" "is_deed" s_is_deed (adK w K).f_is_deed (adK w K).d_is_deed := funOf (df_is_deed (w := w) c)
theorem t_B_is_deed (X : K.In h) (G : h.Ns mainGlobals mg) (c : Sy h K) : Binds K (adK w K).d_is_deed (["deed"] : List Str) [] := (df_is_deed (w := w) c).bindsN (fun _ _ _ _ _ _ us hl => match us, hl with | [_], _ => rfl)
theorem t_g_is_deed (X : K.In h) (G : h.Ns mainGlobals mg) (c : Sy h K) : mg "is_deed" = some (.ref (adK w K).f_is_deed) := He.glo_ok X G (c.fact 5)
theorem t_k_is_deed (X : K.In h) (G : h.Ns mainGlobals mg) (c : Sy h K) : PySem.W.keepIn K (.ref (adK w K).f_is_deed) = true := (df_is_deed (w := w) c).kp
theorem t_F_Font_known (X : K.In h) (G : h.Ns mainGlobals mg) (c : Sy h K) : Fun K "known" "Font.known" s_Font_known (adK w K).f_Font_known (adK w K).d_Font_known := funOf (df_Font_known (w := w) c)
theorem t_B_Font_known (X : K.In h) (G : h.Ns mainGlobals mg) (c : Sy h K) : Binds K (adK w K).d_Font_known (["self", "glyph"] : List Str) [] := (df_Font_known (w := w) c).bindsN (fun _ _ _ _ _ _ us hl => match us, hl with | [_, _], _ => rfl)
theorem t_M_Font_known (X : K.In h) (G : h.Ns mainGlobals mg) (c : Sy h K) : Meth K (adK w K).C_Font "known" (adK w K).f_Font_known := He.meth_ok (c.fact 6)
theorem t_F_Font_ligatures (X : K.In h) (G : h.Ns mainGlobals mg) (c : Sy h K) : Fun K "ligatures" "Font.ligatures" s_Font_ligatures (adK w K).f_Font_ligatures (adK w K).d_Font_ligatures := funOf (df_Font_ligatures (w := w) c)
theorem t_B_Font_ligatures (X : K.In h) (G : h.Ns mainGlobals mg) (c : Sy h K) : Binds K (adK w K).d_Font_ligatures (["self"] : List Str) [] := (df_Font_ligatures (w := w) c).bindsN (fun _ _ _ _ _ _ us hl => match us, hl with | [_], _ => rfl)
theorem t_P_Font_ligatures (X : K.In h) (G : h.Ns mainGlobals mg) (c : Sy h K) : PropOf K (adK w K).C_Font "ligatures" (adK w K).p_Font_ligatures (adK w K).f_Font_ligatures := prB_ok (c.fact 7)
theorem t_F_Font_glyphs (X : K.In h) (G : h.Ns mainGlobals mg) (c : Sy h K) : Fun K "glyphs" "Font.glyphs" s_Font_glyphs (adK w K).f_Font_glyphs (adK w K).d_Font_glyphs := funOf (df_Font_glyphs (w := w) c)
theorem t_B_Font_glyphs (X : K.In h) (G : h.Ns mainGlobals mg) (c : Sy h K) : Binds K (adK w K).d_Font_glyphs (["self"] : List Str) [] := (df_Font_glyphs (w := w) c).bindsN (fun _ _ _ _ _ _ us hl => match us, hl with | [_], _ => rfl)
theorem t_M_Font_glyphs (X : K.In h) (G : h.Ns mainGlobals mg) (c : Sy h K) : Meth K (adK w K).C_Font "glyphs" (adK w K).f_Font_glyphs := He.meth_ok (c.fact 8)
theorem t_F_Font_advance_of (X : K.In h) (G : h.Ns mainGlobals mg) (c : Sy h K) : Fun K "advance_of" "Font.advance_of" s_Font_advance_of (adK w K).f_Font_advance_of (adK w K).d_Font_advance_of := funOf (df_Font_advance_of (w := w) c)
theorem t_B_Font_advance_of (X : K.In h) (G : h.Ns mainGlobals mg) (c : Sy h K) : Binds K (adK w K).d_Font_advance_of (["self", "glyph"] : List Str) [] := (df_Font_advance_of (w := w) c).bindsN (fun _ _ _ _ _ _ us hl => match us, hl with | [_, _], _ => rfl)
theorem t_M_Font_advance_of (X : K.In h) (G : h.Ns mainGlobals mg) (c : Sy h K) : Meth K (adK w K).C_Font "advance_of" (adK w K).f_Font_advance_of := He.meth_ok (c.fact 9)
theorem t_F_Font_contains (X : K.In h) (G : h.Ns mainGlobals mg) (c : Sy h K) : Fun K "__contains__" "Font.__contains__" s_Font_contains (adK w K).f_Font_contains (adK w K).d_Font_contains := funOf (df_Font_contains (w := w) c)
theorem t_B_Font_contains (X : K.In h) (G : h.Ns mainGlobals mg) (c : Sy h K) : Binds K (adK w K).d_Font_contains (["self", "glyph"] : List Str) [] := (df_Font_contains (w := w) c).bindsN (fun _ _ _ _ _ _ us hl => match us, hl with | [_, _], _ => rfl)
theorem t_M_Font_contains (X : K.In h) (G : h.Ns mainGlobals mg) (c : Sy h K) : Meth K (adK w K).C_Font "__contains__" (adK w K).f_Font_contains := He.meth_ok (c.fact 10)
theorem t_F_Font_len (X : K.In h) (G : h.Ns mainGlobals mg) (c : Sy h K) : Fun K "__len__" "Font.__len__" s_Font_len (adK w K).f_Font_len (adK w K).d_Font_len := funOf (df_Font_len (w := w) c)
theorem t_B_Font_len (X : K.In h) (G : h.Ns mainGlobals mg) (c : Sy h K) : Binds K (adK w K).d_Font_len (["self"] : List Str) [] := (df_Font_len (w := w) c).bindsN (fun _ _ _ _ _ _ us hl => match us, hl with | [_], _ => rfl)
theorem t_M_Font_len (X : K.In h) (G : h.Ns mainGlobals mg) (c : Sy h K) : Meth K (adK w K).C_Font "__len__" (adK w K).f_Font_len := He.meth_ok (c.fact 11)
theorem t_F_Font_changes (X : K.In h) (G : h.Ns mainGlobals mg) (c : Sy h K) : Fun K "changes" "Font.changes" s_Font_changes (adK w K).f_Font_changes (adK w K).d_Font_changes := funOf (df_Font_changes (w := w) c)
theorem t_B_Font_changes (X : K.In h) (G : h.Ns mainGlobals mg) (c : Sy h K) : Binds K (adK w K).d_Font_changes (["self"] : List Str) [] := (df_Font_changes (w := w) c).bindsN (fun _ _ _ _ _ _ us hl => match us, hl with | [_], _ => rfl)
theorem t_P_Font_changes (X : K.In h) (G : h.Ns mainGlobals mg) (c : Sy h K) : PropOf K (adK w K).C_Font "changes" (adK w K).p_Font_changes (adK w K).f_Font_changes := prB_ok (c.fact 12)
theorem t_F_Font_blank (X : K.In h) (G : h.Ns mainGlobals mg) (c : Sy h K) : Fun K "blank" "Font.blank" s_Font_blank (adK w K).f_Font_blank (adK w K).d_Font_blank := funOf (df_Font_blank (w := w) c)
theorem t_B_Font_blank (X : K.In h) (G : h.Ns mainGlobals mg) (c : Sy h K) : Binds K (adK w K).d_Font_blank (["self"] : List Str) [] := (df_Font_blank (w := w) c).bindsN (fun _ _ _ _ _ _ us hl => match us, hl with | [_], _ => rfl)
theorem t_P_Font_blank (X : K.In h) (G : h.Ns mainGlobals mg) (c : Sy h K) : PropOf K (adK w K).C_Font "blank" (adK w K).p_Font_blank (adK w K).f_Font_blank := prB_ok (c.fact 13)
theorem t_F_Font_kerns (X : K.In h) (G : h.Ns mainGlobals mg) (c : Sy h K) : Fun K "kerns" "Font.kerns" s_Font_kerns (adK w K).f_Font_kerns (adK w K).d_Font_kerns := funOf (df_Font_kerns (w := w) c)
theorem t_B_Font_kerns (X : K.In h) (G : h.Ns mainGlobals mg) (c : Sy h K) : Binds K (adK w K).d_Font_kerns (["self"] : List Str) [] := (df_Font_kerns (w := w) c).bindsN (fun _ _ _ _ _ _ us hl => match us, hl with | [_], _ => rfl)
theorem t_M_Font_kerns (X : K.In h) (G : h.Ns mainGlobals mg) (c : Sy h K) : Meth K (adK w K).C_Font "kerns" (adK w K).f_Font_kerns := He.meth_ok (c.fact 14)
theorem t_F_Font_snapshot (X : K.In h) (G : h.Ns mainGlobals mg) (c : Sy h K) : Fun K "snapshot" "Font.snapshot" s_Font_snapshot (adK w K).f_Font_snapshot (adK w K).d_Font_snapshot := funOf (df_Font_snapshot (w := w) c)
theorem t_B_Font_snapshot (X : K.In h) (G : h.Ns mainGlobals mg) (c : Sy h K) : Binds K (adK w K).d_Font_snapshot (["self"] : List Str) [] := (df_Font_snapshot (w := w) c).bindsN (fun _ _ _ _ _ _ us hl => match us, hl with | [_], _ => rfl)
theorem t_M_Font_snapshot (X : K.In h) (G : h.Ns mainGlobals mg) (c : Sy h K) : Meth K (adK w K).C_Font "snapshot" (adK w K).f_Font_snapshot := He.meth_ok (c.fact 15)
theorem t_F_Font_remember (X : K.In h) (G : h.Ns mainGlobals mg) (c : Sy h K) : Fun K "remember" "Font.remember" s_Font_remember (adK w K).f_Font_remember (adK w K).d_Font_remember := funOf (df_Font_remember (w := w) c)
theorem t_B_Font_remember (X : K.In h) (G : h.Ns mainGlobals mg) (c : Sy h K) : Binds K (adK w K).d_Font_remember (["self", "before"] : List Str) [] := (df_Font_remember (w := w) c).bindsN (fun _ _ _ _ _ _ us hl => match us, hl with | [_, _], _ => rfl)
theorem t_M_Font_remember (X : K.In h) (G : h.Ns mainGlobals mg) (c : Sy h K) : Meth K (adK w K).C_Font "remember" (adK w K).f_Font_remember := He.meth_ok (c.fact 16)
theorem t_F_Font_put_blank (X : K.In h) (G : h.Ns mainGlobals mg) (c : Sy h K) : Fun K "put_blank" "Font.put_blank" s_Font_put_blank (adK w K).f_Font_put_blank (adK w K).d_Font_put_blank := funOf (df_Font_put_blank (w := w) c)
theorem t_B_Font_put_blank (X : K.In h) (G : h.Ns mainGlobals mg) (c : Sy h K) : Binds K (adK w K).d_Font_put_blank (["self", "advance"] : List Str) [] := (df_Font_put_blank (w := w) c).bindsN (fun _ _ _ _ _ _ us hl => match us, hl with | [_, _], _ => rfl)
theorem t_M_Font_put_blank (X : K.In h) (G : h.Ns mainGlobals mg) (c : Sy h K) : Meth K (adK w K).C_Font "put_blank" (adK w K).f_Font_put_blank := He.meth_ok (c.fact 17)
theorem t_F_Font_put_advance (X : K.In h) (G : h.Ns mainGlobals mg) (c : Sy h K) : Fun K "put_advance" "Font.put_advance" s_Font_put_advance (adK w K).f_Font_put_advance (adK w K).d_Font_put_advance := funOf (df_Font_put_advance (w := w) c)
theorem t_B_Font_put_advance (X : K.In h) (G : h.Ns mainGlobals mg) (c : Sy h K) : Binds K (adK w K).d_Font_put_advance (["self", "glyph", "advance"] : List Str) [] := (df_Font_put_advance (w := w) c).bindsN (fun _ _ _ _ _ _ us hl => match us, hl with | [_, _, _], _ => rfl)
theorem t_M_Font_put_advance (X : K.In h) (G : h.Ns mainGlobals mg) (c : Sy h K) : Meth K (adK w K).C_Font "put_advance" (adK w K).f_Font_put_advance := He.meth_ok (c.fact 18)
theorem t_F_Font_put_drop (X : K.In h) (G : h.Ns mainGlobals mg) (c : Sy h K) : Fun K "put_drop" "Font.put_drop" s_Font_put_drop (adK w K).f_Font_put_drop (adK w K).d_Font_put_drop := funOf (df_Font_put_drop (w := w) c)
theorem t_B_Font_put_drop (X : K.In h) (G : h.Ns mainGlobals mg) (c : Sy h K) : Binds K (adK w K).d_Font_put_drop (["self", "glyph"] : List Str) [] := (df_Font_put_drop (w := w) c).bindsN (fun _ _ _ _ _ _ us hl => match us, hl with | [_, _], _ => rfl)
theorem t_M_Font_put_drop (X : K.In h) (G : h.Ns mainGlobals mg) (c : Sy h K) : Meth K (adK w K).C_Font "put_drop" (adK w K).f_Font_put_drop := He.meth_ok (c.fact 19)
theorem t_F_Font_put_deed (X : K.In h) (G : h.Ns mainGlobals mg) (c : Sy h K) : Fun K "put_deed" "Font.put_deed" s_Font_put_deed (adK w K).f_Font_put_deed (adK w K).d_Font_put_deed := funOf (df_Font_put_deed (w := w) c)
theorem t_B_Font_put_deed (X : K.In h) (G : h.Ns mainGlobals mg) (c : Sy h K) : Binds K (adK w K).d_Font_put_deed (["self", "index", "deed"] : List Str) [] := (df_Font_put_deed (w := w) c).bindsN (fun _ _ _ _ _ _ us hl => match us, hl with | [_, _, _], _ => rfl)
theorem t_M_Font_put_deed (X : K.In h) (G : h.Ns mainGlobals mg) (c : Sy h K) : Meth K (adK w K).C_Font "put_deed" (adK w K).f_Font_put_deed := He.meth_ok (c.fact 20)
theorem t_F_Font_set_advance (X : K.In h) (G : h.Ns mainGlobals mg) (c : Sy h K) : Fun K "set_advance" "Font.set_advance" s_Font_set_advance (adK w K).f_Font_set_advance (adK w K).d_Font_set_advance := funOf (df_Font_set_advance (w := w) c)
theorem t_B_Font_set_advance (X : K.In h) (G : h.Ns mainGlobals mg) (c : Sy h K) : Binds K (adK w K).d_Font_set_advance (["self", "glyph", "advance"] : List Str) [] := (df_Font_set_advance (w := w) c).bindsN (fun _ _ _ _ _ _ us hl => match us, hl with | [_, _, _], _ => rfl)
theorem t_M_Font_set_advance (X : K.In h) (G : h.Ns mainGlobals mg) (c : Sy h K) : Meth K (adK w K).C_Font "set_advance" (adK w K).f_Font_set_advance := He.meth_ok (c.fact 21)
theorem t_F_Font_setitem (X : K.In h) (G : h.Ns mainGlobals mg) (c : Sy h K) : Fun K "__setitem__" "Font.__setitem__" s_Font_setitem (adK w K).f_Font_setitem (adK w K).d_Font_setitem := funOf (df_Font_setitem (w := w) c)
theorem t_B_Font_setitem (X : K.In h) (G : h.Ns mainGlobals mg) (c : Sy h K) : Binds K (adK w K).d_Font_setitem (["self", "glyph", "advance"] : List Str) [] := (df_Font_setitem (w := w) c).bindsN (fun _ _ _ _ _ _ us hl => match us, hl with | [_, _, _], _ => rfl)
theorem t_M_Font_setitem (X : K.In h) (G : h.Ns mainGlobals mg) (c : Sy h K) : Meth K (adK w K).C_Font "__setitem__" (adK w K).f_Font_setitem := He.meth_ok (c.fact 22)
theorem t_F_Font_drop (X : K.In h) (G : h.Ns mainGlobals mg) (c : Sy h K) : Fun K "drop" "Font.drop" s_Font_drop (adK w K).f_Font_drop (adK w K).d_Font_drop := funOf (df_Font_drop (w := w) c)
theorem t_B_Font_drop (X : K.In h) (G : h.Ns mainGlobals mg) (c : Sy h K) : Binds K (adK w K).d_Font_drop (["self", "glyph"] : List Str) [] := (df_Font_drop (w := w) c).bindsN (fun _ _ _ _ _ _ us hl => match us, hl with | [_, _], _ => rfl)
theorem t_M_Font_drop (X : K.In h) (G : h.Ns mainGlobals mg) (c : Sy h K) : Meth K (adK w K).C_Font "drop" (adK w K).f_Font_drop := He.meth_ok (c.fact 23)
theorem t_F_Batch_init (X : K.In h) (G : h.Ns mainGlobals mg) (c : Sy h K) : Fun K "__init__" "Batch.__init__" s_Batch_init (adK w K).f_Batch_init (adK w K).d_Batch_init := funOf (df_Batch_init (w := w) c)
theorem t_B_Batch_init (X : K.In h) (G : h.Ns mainGlobals mg) (c : Sy h K) : Binds K (adK w K).d_Batch_init (["self", "face"] : List Str) [] := (df_Batch_init (w := w) c).bindsN (fun _ _ _ _ _ _ us hl => match us, hl with | [_, _], _ => rfl)
theorem t_F_Batch_enter (X : K.In h) (G : h.Ns mainGlobals mg) (c : Sy h K) : Fun K "__enter__" "Batch.__enter__" s_Batch_enter (adK w K).f_Batch_enter (adK w K).d_Batch_enter := funOf (df_Batch_enter (w := w) c)
theorem t_B_Batch_enter (X : K.In h) (G : h.Ns mainGlobals mg) (c : Sy h K) : Binds K (adK w K).d_Batch_enter (["self"] : List Str) [] := (df_Batch_enter (w := w) c).bindsN (fun _ _ _ _ _ _ us hl => match us, hl with | [_], _ => rfl)
theorem t_M_Batch_enter (X : K.In h) (G : h.Ns mainGlobals mg) (c : Sy h K) : Meth K (adK w K).C_Batch "__enter__" (adK w K).f_Batch_enter := He.meth_ok (c.fact 24)
theorem t_F_Batch_exit (X : K.In h) (G : h.Ns mainGlobals mg) (c : Sy h K) : Fun K "__exit__" "Batch.__exit__" s_Batch_exit (adK w K).f_Batch_exit (adK w K).d_Batch_exit := funOf (df_Batch_exit (w := w) c)
theorem t_B_Batch_exit (X : K.In h) (G : h.Ns mainGlobals mg) (c : Sy h K) : Binds K (adK w K).d_Batch_exit (["self", "kind", "value", "trace"] : List Str) [] := (df_Batch_exit (w := w) c).bindsN (fun _ _ _ _ _ _ us hl => match us, hl with | [_, _, _, _], _ => rfl)
theorem t_M_Batch_exit (X : K.In h) (G : h.Ns mainGlobals mg) (c : Sy h K) : Meth K (adK w K).C_Batch "__exit__" (adK w K).f_Batch_exit := He.meth_ok (c.fact 25)
theorem t_F_Font_apply (X : K.In h) (G : h.Ns mainGlobals mg) (c : Sy h K) : Fun K "apply" "Font.apply" s_Font_apply (adK w K).f_Font_apply (adK w K).d_Font_apply := funOf (df_Font_apply (w := w) c)
theorem t_B_Font_apply (X : K.In h) (G : h.Ns mainGlobals mg) (c : Sy h K) : Binds K (adK w K).d_Font_apply (["self", "deeds"] : List Str) [] := (df_Font_apply (w := w) c).bindsN (fun _ _ _ _ _ _ us hl => match us, hl with | [_, _], _ => rfl)
theorem t_M_Font_apply (X : K.In h) (G : h.Ns mainGlobals mg) (c : Sy h K) : Meth K (adK w K).C_Font "apply" (adK w K).f_Font_apply := He.meth_ok (c.fact 26)
theorem t_F_Font_set_advances (X : K.In h) (G : h.Ns mainGlobals mg) (c : Sy h K) : Fun K "set_advances" "Font.set_advances" s_Font_set_advances (adK w K).f_Font_set_advances (adK w K).d_Font_set_advances := funOf (df_Font_set_advances (w := w) c)
theorem t_M_Font_set_advances (X : K.In h) (G : h.Ns mainGlobals mg) (c : Sy h K) : Meth K (adK w K).C_Font "set_advances" (adK w K).f_Font_set_advances := He.meth_ok (c.fact 27)
theorem t_F_Font_init (X : K.In h) (G : h.Ns mainGlobals mg) (c : Sy h K) : FunD K "__init__" "Font.__init__" (defArgs s_Font_init) (defBody s_Font_init) (defScope s_Font_init) [V.non] [("blank", V.int 250)] (adK w K).f_Font_init (adK w K).d_Font_init := df_Font_init c
theorem t_KB1_blank_Font_init (X : K.In h) (G : h.Ns mainGlobals mg) (c : Sy h K) : KBn K (adK w K).d_Font_init (["self", "advances", "kerns", "blank"] : List Str) 2 (["blank"] : List Str) (adK w K).g1_blank_Font_init (fun vs zs => vs ++ [V.non] ++ zs) := bg1_blank_Font_init c
theorem t_B1_Font_init (X : K.In h) (G : h.Ns mainGlobals mg) (c : Sy h K) : Binds K (adK w K).d_Font_init (["self", "advances", "kerns", "blank"] : List Str) (adK w K).v1_Font_init := (bv1_Font_init c).2
theorem t_V1_Font_init (X : K.In h) (G : h.Ns mainGlobals mg) (c : Sy h K) : Vals [V.non, V.int 250] (adK w K).v1_Font_init := (bv1_Font_init c).1
theorem t_KB2_blank_Font_init (X : K.In h) (G : h.Ns mainGlobals mg) (c : Sy h K) : KBn K (adK w K).d_Font_init (["self", "advances", "kerns", "blank"] : List Str) 3 (["blank"] : List Str) (adK w K).g2_blank_Font_init (fun vs zs => vs ++ [] ++ zs) := bg2_blank_Font_init c
theorem t_F_Font_even (X : K.In h) (G : h.Ns mainGlobals mg) (c : Sy h K) : FunD K "even" "Font.even" (defArgs s_Font_even) (defBody s_Font_even) (defScope s_Font_even) [] [("blank", V.int 250)] (adK w K).f_Font_even (adK w K).d_Font_even := df_Font_even c
theorem t_KB2_blank_Font_even (X : K.In h) (G : h.Ns mainGlobals mg) (c : Sy h K) : KBn K (adK w K).d_Font_even (["cls", "letters", "advance", "blank"] : List Str) 3 (["blank"] : List Str) (adK w K).g2_blank_Font_even (fun vs zs => vs ++ [] ++ zs) := bg2_blank_Font_even c
theorem t_B2_Font_even (X : K.In h) (G : h.Ns mainGlobals mg) (c : Sy h K) : Binds K (adK w K).d_Font_even (["cls", "letters", "advance", "blank"] : List Str) (adK w K).v2_Font_even := (bv2_Font_even c).2
theorem t_V2_Font_even (X : K.In h) (G : h.Ns mainGlobals mg) (c : Sy h K) : Vals [V.int 250] (adK w K).v2_Font_even := (bv2_Font_even c).1
theorem t_CM_Font_even (X : K.In h) (G : h.Ns mainGlobals mg) (c : Sy h K) : ClX.CMet K (adK w K).C_Font (.type "type") "even" (adK w K).p_Font_even (adK w K).f_Font_even := He5.cmet_of (c.fact 28) (c.fact 29)
theorem t_F_law_bag (X : K.In h) (G : h.Ns mainGlobals mg) (c : Sy h K) : Fun K "_law_bag" "_law_bag" s_law_bag (adK w K).f_law_bag (adK w K).d_law_bag := funOf (df_law_bag (w := w) c)
theorem t_B_law_bag (X : K.In h) (G : h.Ns mainGlobals mg) (c : Sy h K) : Binds K (adK w K).d_law_bag (["_law_script"] : List Str) [] := (df_law_bag (w := w) c).bindsN (fun _ _ _ _ _ _ us hl => match us, hl with | [_], _ => rfl)
theorem t_g_law_bag (X : K.In h) (G : h.Ns mainGlobals mg) (c : Sy h K) : mg "_law_bag" = some (.ref (adK w K).f_law_bag) := He.glo_ok X G (c.fact 30)
theorem t_k_law_bag (X : K.In h) (G : h.Ns mainGlobals mg) (c : Sy h K) : PySem.W.keepIn K (.ref (adK w K).f_law_bag) = true := (df_law_bag (w := w) c).kp
theorem t_F_law_take (X : K.In h) (G : h.Ns mainGlobals mg) (c : Sy h K) : Fun K "_law_take" "_law_take" s_law_take (adK w K).f_law_take (adK w K).d_law_take := funOf (df_law_take (w := w) c)
theorem t_B_law_take (X : K.In h) (G : h.Ns mainGlobals mg) (c : Sy h K) : Binds K (adK w K).d_law_take (["_law_bag_here", "_law_size"] : List Str) [] := (df_law_take (w := w) c).bindsN (fun _ _ _ _ _ _ us hl => match us, hl with | [_, _], _ => rfl)
theorem t_g_law_take (X : K.In h) (G : h.Ns mainGlobals mg) (c : Sy h K) : mg "_law_take" = some (.ref (adK w K).f_law_take) := He.glo_ok X G (c.fact 31)
theorem t_k_law_take (X : K.In h) (G : h.Ns mainGlobals mg) (c : Sy h K) : PySem.W.keepIn K (.ref (adK w K).f_law_take) = true := (df_law_take (w := w) c).kp
theorem t_F_law_int (X : K.In h) (G : h.Ns mainGlobals mg) (c : Sy h K) : Fun K "_law_int" "_law_int" s_law_int (adK w K).f_law_int (adK w K).d_law_int := funOf (df_law_int (w := w) c)
theorem t_B_law_int (X : K.In h) (G : h.Ns mainGlobals mg) (c : Sy h K) : Binds K (adK w K).d_law_int (["_law_actual"] : List Str) [] := (df_law_int (w := w) c).bindsN (fun _ _ _ _ _ _ us hl => match us, hl with | [_], _ => rfl)
theorem t_g_law_int (X : K.In h) (G : h.Ns mainGlobals mg) (c : Sy h K) : mg "_law_int" = some (.ref (adK w K).f_law_int) := He.glo_ok X G (c.fact 32)
theorem t_k_law_int (X : K.In h) (G : h.Ns mainGlobals mg) (c : Sy h K) : PySem.W.keepIn K (.ref (adK w K).f_law_int) = true := (df_law_int (w := w) c).kp
theorem t_F_law_letters (X : K.In h) (G : h.Ns mainGlobals mg) (c : Sy h K) : Fun K "_law_letters" "_law_letters" s_law_letters (adK w K).f_law_letters (adK w K).d_law_letters := funOf (df_law_letters (w := w) c)
theorem t_B_law_letters (X : K.In h) (G : h.Ns mainGlobals mg) (c : Sy h K) : Binds K (adK w K).d_law_letters (["_law_bag_here", "_law_many"] : List Str) [] := (df_law_letters (w := w) c).bindsN (fun _ _ _ _ _ _ us hl => match us, hl with | [_, _], _ => rfl)
theorem t_g_law_letters (X : K.In h) (G : h.Ns mainGlobals mg) (c : Sy h K) : mg "_law_letters" = some (.ref (adK w K).f_law_letters) := He.glo_ok X G (c.fact 33)
theorem t_k_law_letters (X : K.In h) (G : h.Ns mainGlobals mg) (c : Sy h K) : PySem.W.keepIn K (.ref (adK w K).f_law_letters) = true := (df_law_letters (w := w) c).kp
theorem t_F_law_rank (X : K.In h) (G : h.Ns mainGlobals mg) (c : Sy h K) : Fun K "_law_rank" "_law_rank" s_law_rank (adK w K).f_law_rank (adK w K).d_law_rank := funOf (df_law_rank (w := w) c)
theorem t_B_law_rank (X : K.In h) (G : h.Ns mainGlobals mg) (c : Sy h K) : Binds K (adK w K).d_law_rank (["_law_glyph"] : List Str) [] := (df_law_rank (w := w) c).bindsN (fun _ _ _ _ _ _ us hl => match us, hl with | [_], _ => rfl)
theorem t_g_law_rank (X : K.In h) (G : h.Ns mainGlobals mg) (c : Sy h K) : mg "_law_rank" = some (.ref (adK w K).f_law_rank) := He.glo_ok X G (c.fact 34)
theorem t_k_law_rank (X : K.In h) (G : h.Ns mainGlobals mg) (c : Sy h K) : PySem.W.keepIn K (.ref (adK w K).f_law_rank) = true := (df_law_rank (w := w) c).kp
theorem t_F_law_agrees (X : K.In h) (G : h.Ns mainGlobals mg) (c : Sy h K) : Fun K "_law_agrees" "_law_agrees" s_law_agrees (adK w K).f_law_agrees (adK w K).d_law_agrees := funOf (df_law_agrees (w := w) c)
theorem t_B_law_agrees (X : K.In h) (G : h.Ns mainGlobals mg) (c : Sy h K) : Binds K (adK w K).d_law_agrees (["_law_font", "_law_face"] : List Str) [] := (df_law_agrees (w := w) c).bindsN (fun _ _ _ _ _ _ us hl => match us, hl with | [_, _], _ => rfl)
theorem t_g_law_agrees (X : K.In h) (G : h.Ns mainGlobals mg) (c : Sy h K) : mg "_law_agrees" = some (.ref (adK w K).f_law_agrees) := He.glo_ok X G (c.fact 35)
theorem t_k_law_agrees (X : K.In h) (G : h.Ns mainGlobals mg) (c : Sy h K) : PySem.W.keepIn K (.ref (adK w K).f_law_agrees) = true := (df_law_agrees (w := w) c).kp
theorem t_F_law_too_many (X : K.In h) (G : h.Ns mainGlobals mg) (c : Sy h K) : Fun K "_law_too_many" "_law_too_many" s_law_too_many (adK w K).f_law_too_many (adK w K).d_law_too_many := funOf (df_law_too_many (w := w) c)
theorem t_B_law_too_many (X : K.In h) (G : h.Ns mainGlobals mg) (c : Sy h K) : Binds K (adK w K).d_law_too_many (["_law_font", "_law_way", "_law_row", "_law_advances"] : List Str) [] := (df_law_too_many (w := w) c).bindsN (fun _ _ _ _ _ _ us hl => match us, hl with | [_, _, _, _], _ => rfl)
theorem t_g_law_too_many (X : K.In h) (G : h.Ns mainGlobals mg) (c : Sy h K) : mg "_law_too_many" = some (.ref (adK w K).f_law_too_many) := He.glo_ok X G (c.fact 36)
theorem t_k_law_too_many (X : K.In h) (G : h.Ns mainGlobals mg) (c : Sy h K) : PySem.W.keepIn K (.ref (adK w K).f_law_too_many) = true := (df_law_too_many (w := w) c).kp
theorem t_F_law_at_once (X : K.In h) (G : h.Ns mainGlobals mg) (c : Sy h K) : Fun K "_law_at_once" "_law_at_once" s_law_at_once (adK w K).f_law_at_once (adK w K).d_law_at_once := funOf (df_law_at_once (w := w) c)
theorem t_B_law_at_once (X : K.In h) (G : h.Ns mainGlobals mg) (c : Sy h K) : Binds K (adK w K).d_law_at_once (["_law_font", "_law_way"] : List Str) [] := (df_law_at_once (w := w) c).bindsN (fun _ _ _ _ _ _ us hl => match us, hl with | [_, _], _ => rfl)
theorem t_g_law_at_once (X : K.In h) (G : h.Ns mainGlobals mg) (c : Sy h K) : mg "_law_at_once" = some (.ref (adK w K).f_law_at_once) := He.glo_ok X G (c.fact 37)
theorem t_k_law_at_once (X : K.In h) (G : h.Ns mainGlobals mg) (c : Sy h K) : PySem.W.keepIn K (.ref (adK w K).f_law_at_once) = true := (df_law_at_once (w := w) c).kp
theorem t_F_law_full (X : K.In h) (G : h.Ns mainGlobals mg) (c : Sy h K) : Fun K "_law_full" "_law_full" s_law_full (adK w K).f_law_full (adK w K).d_law_full := funOf (df_law_full (w := w) c)
theorem t_B_law_full (X : K.In h) (G : h.Ns mainGlobals mg) (c : Sy h K) : Binds K (adK w K).d_law_full (["_law_number"] : List Str) [] := (df_law_full (w := w) c).bindsN (fun _ _ _ _ _ _ us hl => match us, hl with | [_], _ => rfl)
theorem t_g_law_full (X : K.In h) (G : h.Ns mainGlobals mg) (c : Sy h K) : mg "_law_full" = some (.ref (adK w K).f_law_full) := He.glo_ok X G (c.fact 38)
theorem t_k_law_full (X : K.In h) (G : h.Ns mainGlobals mg) (c : Sy h K) : PySem.W.keepIn K (.ref (adK w K).f_law_full) = true := (df_law_full (w := w) c).kp
theorem t_F_law (X : K.In h) (G : h.Ns mainGlobals mg) (c : Sy h K) : Fun K "law" "law" s_law (adK w K).f_law (adK w K).d_law := funOf (df_law (w := w) c)
theorem t_B_law (X : K.In h) (G : h.Ns mainGlobals mg) (c : Sy h K) : Binds K (adK w K).d_law (["_law_script"] : List Str) [] := (df_law (w := w) c).bindsN (fun _ _ _ _ _ _ us hl => match us, hl with | [_], _ => rfl)
theorem t_g_law (X : K.In h) (G : h.Ns mainGlobals mg) (c : Sy h K) : mg "law" = some (.ref (adK w K).f_law) := He.glo_ok X G (c.fact 39)
theorem t_k_law (X : K.In h) (G : h.Ns mainGlobals mg) (c : Sy h K) : PySem.W.keepIn K (.ref (adK w K).f_law) = true := (df_law (w := w) c).kp
theorem t_cr_Font (X : K.In h) (G : h.Ns mainGlobals mg) (c : Sy h K) : ClX.CRead K (adK w K).C_Font (.type "type") := crB_ok (c.fact 40)
theorem t_cv_Font_MOST_ADVANCE (X : K.In h) (G : h.Ns mainGlobals mg) (c : Sy h K) : ∃ u, ClX.CVal K (adK w K).C_Font (.type "type") "MOST_ADVANCE" (.int 1000000) u := cvB_ok (c.fact 41)
theorem t_cv_Font_MOST_LETTERS (X : K.In h) (G : h.Ns mainGlobals mg) (c : Sy h K) : ∃ u, ClX.CVal K (adK w K).C_Font (.type "type") "MOST_LETTERS" (.int 6) u := cvB_ok (c.fact 42)
theorem t_cv_Font_MOST_LIGATURES (X : K.In h) (G : h.Ns mainGlobals mg) (c : Sy h K) : ∃ u, ClX.CVal K (adK w K).C_Font (.type "type") "MOST_LIGATURES" (.int 40) u := cvB_ok (c.fact 43)
theorem t_cv_Font_MOST_UNDO (X : K.In h) (G : h.Ns mainGlobals mg) (c : Sy h K) : ∃ u, ClX.CVal K (adK w K).C_Font (.type "type") "MOST_UNDO" (.int 50) u := cvB_ok (c.fact 44)
theorem t_g_Font (X : K.In h) (G : h.Ns mainGlobals mg) (c : Sy h K) : mg "Font" = some (.ref (adK w K).C_Font) := He.glo_ok X G (c.fact 45)
theorem t_c_Font (X : K.In h) (G : h.Ns mainGlobals mg) (c : Sy h K) : Cls K (adK w K).C_Font := He.cls_ok (c.fact 46)
theorem t_I_Font (X : K.In h) (G : h.Ns mainGlobals mg) (c : Sy h K) : InsC K (adK w K).C_Font := insB_ok (c.fact 47)
theorem t_M_Font (X : K.In h) (G : h.Ns mainGlobals mg) (c : Sy h K) : Mk K (adK w K).C_Font (adK w K).f_Font_init := He.mkr_ok (c.fact 48)
theorem t_g_Batch (X : K.In h) (G : h.Ns mainGlobals mg) (c : Sy h K) : mg "Batch" = some (.ref (adK w K).C_Batch) := He.glo_ok X G (c.fact 49)
theorem t_c_Batch (X : K.In h) (G : h.Ns mainGlobals mg) (c : Sy h K) : Cls K (adK w K).C_Batch := He.cls_ok (c.fact 50)
theorem t_I_Batch (X : K.In h) (G : h.Ns mainGlobals mg) (c : Sy h K) : InsC K (adK w K).C_Batch := insB_ok (c.fact 51)
theorem t_M_Batch (X : K.In h) (G : h.Ns mainGlobals mg) (c : Sy h K) : Mk K (adK w K).C_Batch (adK w K).f_Batch_init := He.mkr_ok (c.fact 52)
theorem t_g_FontError (X : K.In h) (G : h.Ns mainGlobals mg) (c : Sy h K) : mg "FontError" = some (.ref (adK w K).C_FontError) := He.glo_ok X G (c.fact 53)
theorem t_E_InvalidGlyph (X : K.In h) (G : h.Ns mainGlobals mg) (c : Sy h K) : ErrC PySem.Challenge.rw_fontgap_k15_limits_and_even_fonts.prog K mg "InvalidGlyph" "InvalidGlyph.__init__" (defArgs s_InvalidGlyph_init) (defBody s_InvalidGlyph_init) (defScope s_InvalidGlyph_init) (adK w K).C_InvalidGlyph (adK w K).i_InvalidGlyph (adK w K).c_InvalidGlyph (adK w K).k_InvalidGlyph := (er_InvalidGlyph X G c).1
theorem t_Y_InvalidGlyph (X : K.In h) (G : h.Ns mainGlobals mg) (c : Sy h K) : Txt1 "InvalidGlyph.__init__" "glyph" "not a glyph name" (defArgs s_InvalidGlyph_init) (defBody s_InvalidGlyph_init) (defScope s_InvalidGlyph_init) := y_InvalidGlyph
theorem t_X_InvalidGlyph (X : K.In h) (G : h.Ns mainGlobals mg) (c : Sy h K) : ExcC K (adK w K).C_InvalidGlyph := (er_InvalidGlyph X G c).2
theorem t_x_InvalidGlyph_glyph (X : K.In h) (G : h.Ns mainGlobals mg) (c : Sy h K) : PySem.W.findIn K (.ref (adK w K).C_InvalidGlyph) "glyph" = some none := He.eqO_ok (c.fact 55)
theorem t_E_InvalidNumber (X : K.In h) (G : h.Ns mainGlobals mg) (c : Sy h K) : ErrC PySem.Challenge.rw_fontgap_k15_limits_and_even_fonts.prog K mg "InvalidNumber" "InvalidNumber.__init__" (defArgs s_InvalidNumber_init) (defBody s_InvalidNumber_init) (defScope s_InvalidNumber_init) (adK w K).C_InvalidNumber (adK w K).i_InvalidNumber (adK w K).c_InvalidNumber (adK w K).k_InvalidNumber := (er_InvalidNumber X G c).1
theorem t_Y_InvalidNumber (X : K.In h) (G : h.Ns mainGlobals mg) (c : Sy h K) : Txt1 "InvalidNumber.__init__" "value" "not a valid number" (defArgs s_InvalidNumber_init) (defBody s_InvalidNumber_init) (defScope s_InvalidNumber_init) := y_InvalidNumber
theorem t_X_InvalidNumber (X : K.In h) (G : h.Ns mainGlobals mg) (c : Sy h K) : ExcC K (adK w K).C_InvalidNumber := (er_InvalidNumber X G c).2
theorem t_x_InvalidNumber_value (X : K.In h) (G : h.Ns mainGlobals mg) (c : Sy h K) : PySem.W.findIn K (.ref (adK w K).C_InvalidNumber) "value" = some none := He.eqO_ok (c.fact 57)
theorem t_E_UnknownGlyph (X : K.In h) (G : h.Ns mainGlobals mg) (c : Sy h K) : ErrC PySem.Challenge.rw_fontgap_k15_limits_and_even_fonts.prog K mg "UnknownGlyph" "UnknownGlyph.__init__" (defArgs s_UnknownGlyph_init) (defBody s_UnknownGlyph_init) (defScope s_UnknownGlyph_init) (adK w K).C_UnknownGlyph (adK w K).i_UnknownGlyph (adK w K).c_UnknownGlyph (adK w K).k_UnknownGlyph := (er_UnknownGlyph X G c).1
theorem t_Y_UnknownGlyph (X : K.In h) (G : h.Ns mainGlobals mg) (c : Sy h K) : Txt1 "UnknownGlyph.__init__" "glyph" "the font does not have the glyph" (defArgs s_UnknownGlyph_init) (defBody s_UnknownGlyph_init) (defScope s_UnknownGlyph_init) := y_UnknownGlyph
theorem t_X_UnknownGlyph (X : K.In h) (G : h.Ns mainGlobals mg) (c : Sy h K) : ExcC K (adK w K).C_UnknownGlyph := (er_UnknownGlyph X G c).2
theorem t_x_UnknownGlyph_glyph (X : K.In h) (G : h.Ns mainGlobals mg) (c : Sy h K) : PySem.W.findIn K (.ref (adK w K).C_UnknownGlyph) "glyph" = some none := He.eqO_ok (c.fact 59)
theorem t_E_TooMany (X : K.In h) (G : h.Ns mainGlobals mg) (c : Sy h K) : ErrC PySem.Challenge.rw_fontgap_k15_limits_and_even_fonts.prog K mg "TooMany" "TooMany.__init__" (defArgs s_TooMany_init) (defBody s_TooMany_init) (defScope s_TooMany_init) (adK w K).C_TooMany (adK w K).i_TooMany (adK w K).c_TooMany (adK w K).k_TooMany := (er_TooMany X G c).1
theorem t_Y_TooMany (X : K.In h) (G : h.Ns mainGlobals mg) (c : Sy h K) : Txt1 "TooMany.__init__" "limit" "too many ligatures" (defArgs s_TooMany_init) (defBody s_TooMany_init) (defScope s_TooMany_init) := y_TooMany
theorem t_X_TooMany (X : K.In h) (G : h.Ns mainGlobals mg) (c : Sy h K) : ExcC K (adK w K).C_TooMany := (er_TooMany X G c).2
theorem t_x_TooMany_limit (X : K.In h) (G : h.Ns mainGlobals mg) (c : Sy h K) : PySem.W.findIn K (.ref (adK w K).C_TooMany) "limit" = some none := He.eqO_ok (c.fact 61)
theorem t_E_DeedRefused (X : K.In h) (G : h.Ns mainGlobals mg) (c : Sy h K) : ErrC PySem.Challenge.rw_fontgap_k15_limits_and_even_fonts.prog K mg "DeedRefused" "DeedRefused.__init__" (defArgs s_DeedRefused_init) (defBody s_DeedRefused_init) (defScope s_DeedRefused_init) (adK w K).C_DeedRefused (adK w K).i_DeedRefused (adK w K).c_DeedRefused (adK w K).k_DeedRefused := (er_DeedRefused X G c).1
theorem t_Y_DeedRefused (X : K.In h) (G : h.Ns mainGlobals mg) (c : Sy h K) : Txt1 "DeedRefused.__init__" "index" "a deed is refused" (defArgs s_DeedRefused_init) (defBody s_DeedRefused_init) (defScope s_DeedRefused_init) := y_DeedRefused
theorem t_X_DeedRefused (X : K.In h) (G : h.Ns mainGlobals mg) (c : Sy h K) : ExcC K (adK w K).C_DeedRefused := (er_DeedRefused X G c).2
theorem t_x_DeedRefused_index (X : K.In h) (G : h.Ns mainGlobals mg) (c : Sy h K) : PySem.W.findIn K (.ref (adK w K).C_DeedRefused) "index" = some none := He.eqO_ok (c.fact 63)
theorem t_n_bool (X : K.In h) (G : h.Ns mainGlobals mg) (c : Sy h K) : mg "bool" = none := He.free_ok X G (c.fact 65)
theorem t_n_dict (X : K.In h) (G : h.Ns mainGlobals mg) (c : Sy h K) : mg "dict" = none := He.free_ok X G (c.fact 66)
theorem t_n_enumerate (X : K.In h) (G : h.Ns mainGlobals mg) (c : Sy h K) : mg "enumerate" = none := He.free_ok X G (c.fact 67)
theorem t_n_int (X : K.In h) (G : h.Ns mainGlobals mg) (c : Sy h K) : mg "int" = none := He.free_ok X G (c.fact 68)
theorem t_n_isinstance (X : K.In h) (G : h.Ns mainGlobals mg) (c : Sy h K) : mg "isinstance" = none := He.free_ok X G (c.fact 69)
theorem t_n_len (X : K.In h) (G : h.Ns mainGlobals mg) (c : Sy h K) : mg "len" = none := He.free_ok X G (c.fact 70)
theorem t_n_list (X : K.In h) (G : h.Ns mainGlobals mg) (c : Sy h K) : mg "list" = none := He.free_ok X G (c.fact 71)
theorem t_n_range (X : K.In h) (G : h.Ns mainGlobals mg) (c : Sy h K) : mg "range" = none := He.free_ok X G (c.fact 72)
theorem t_n_sorted (X : K.In h) (G : h.Ns mainGlobals mg) (c : Sy h K) : mg "sorted" = none := He.free_ok X G (c.fact 73)
theorem t_n_str (X : K.In h) (G : h.Ns mainGlobals mg) (c : Sy h K) : mg "str" = none := He.free_ok X G (c.fact 74)
theorem t_n_tuple (X : K.In h) (G : h.Ns mainGlobals mg) (c : Sy h K) : mg "tuple" = none := He.free_ok X G (c.fact 75)
theorem t_g_DEED_SIZES (X : K.In h) (G : h.Ns mainGlobals mg) (c : Sy h K) : mg "DEED_SIZES" = some (.ref (adK w K).D_DEED_SIZES) := He.glo_ok X G (c.fact 64)
theorem t_KD_DEED_SIZES (cz : SaysZ fnL tfL fxL tsL w h K) : ∃ es n, KDict K (adK w K).w_ (adK w K).D_DEED_SIZES es n := cz.dict (t := (fun K => He.ga K "DEED_SIZES", ["advance", "kern", "drop", "blank"])) 0
theorem t_na_Font_rows (X : K.In h) (G : h.Ns mainGlobals mg) (c : Sy h K) : NoAttr K (adK w K).C_Font "rows" := He.noat_ok (c.fact 76)
theorem t_na_Font_pairs (X : K.In h) (G : h.Ns mainGlobals mg) (c : Sy h K) : NoAttr K (adK w K).C_Font "pairs" := He.noat_ok (c.fact 77)
theorem t_na_Font_space (X : K.In h) (G : h.Ns mainGlobals mg) (c : Sy h K) : NoAttr K (adK w K).C_Font "space" := He.noat_ok (c.fact 78)
theorem t_na_Font_past (X : K.In h) (G : h.Ns mainGlobals mg) (c : Sy h K) : NoAttr K (adK w K).C_Font "past" := He.noat_ok (c.fact 79)
theorem t_na_Batch_face (X : K.In h) (G : h.Ns mainGlobals mg) (c : Sy h K) : NoAttr K (adK w K).C_Batch "face" := He.noat_ok (c.fact 80)
theorem t_na_Batch_rows (X : K.In h) (G : h.Ns mainGlobals mg) (c : Sy h K) : NoAttr K (adK w K).C_Batch "rows" := He.noat_ok (c.fact 81)
theorem t_na_Batch_pairs (X : K.In h) (G : h.Ns mainGlobals mg) (c : Sy h K) : NoAttr K (adK w K).C_Batch "pairs" := He.noat_ok (c.fact 82)
theorem t_na_Batch_space (X : K.In h) (G : h.Ns mainGlobals mg) (c : Sy h K) : NoAttr K (adK w K).C_Batch "space" := He.noat_ok (c.fact 83)
theorem t_ns_Font (X : K.In h) (G : h.Ns mainGlobals mg) (c : Sy h K) : PySem.W.noSeq K (adK w K).C_Font = true := of_decide_eq_true (c.fact 84)
theorem t_ty_FontError (X : K.In h) (G : h.Ns mainGlobals mg) (c : Sy h K) : PySem.W.typeIn K (.ref (adK w K).C_FontError) = some (.type "type") := of_decide_eq_true (c.fact 85)
theorem t_be_FontError (X : K.In h) (G : h.Ns mainGlobals mg) (c : Sy h K) : PySem.W.subIn K (.ref (adK w K).C_FontError) (.type "BaseException") = some true := of_decide_eq_true (c.fact 86)
theorem t_cl_FontError (X : K.In h) (G : h.Ns mainGlobals mg) (c : Sy h K) : (PySem.W.clsIn K (adK w K).C_FontError).isSome = true := of_decide_eq_true (c.fact 87)
theorem t_mr_InvalidGlyph (X : K.In h) (G : h.Ns mainGlobals mg) (c : Sy h K) : (PySem.W.clsIn K (adK w K).C_InvalidGlyph).map (·.mro) = some [.ref (adK w K).C_InvalidGlyph, .ref (adK w K).C_FontError, .type "ValueError", .type "Exception", .type "BaseException", .type "object"] := of_decide_eq_true (c.fact 88)
theorem t_mr_InvalidNumber (X : K.In h) (G : h.Ns mainGlobals mg) (c : Sy h K) : (PySem.W.clsIn K (adK w K).C_InvalidNumber).map (·.mro) = some [.ref (adK w K).C_InvalidNumber, .ref (adK w K).C_FontError, .type "ValueError", .type "Exception", .type "BaseException", .type "object"] := of_decide_eq_true (c.fact 89)
theorem t_mr_UnknownGlyph (X : K.In h) (G : h.Ns mainGlobals mg) (c : Sy h K) : (PySem.W.clsIn K (adK w K).C_UnknownGlyph).map (·.mro) = some [.ref (adK w K).C_UnknownGlyph, .ref (adK w K).C_FontError, .type "ValueError", .type "Exception", .type "BaseException", .type "object"] := of_decide_eq_true (c.fact 90)
theorem t_mr_TooMany (X : K.In h) (G : h.Ns mainGlobals mg) (c : Sy h K) : (PySem.W.clsIn K (adK w K).C_TooMany).map (·.mro) = some [.ref (adK w K).C_TooMany, .ref (adK w K).C_FontError, .type "ValueError", .type "Exception", .type "BaseException", .type "object"] := of_decide_eq_true (c.fact 91)
theorem t_mr_DeedRefused (X : K.In h) (G : h.Ns mainGlobals mg) (c : Sy h K) : (PySem.W.clsIn K (adK w K).C_DeedRefused).map (·.mro) = some [.ref (adK w K).C_DeedRefused, .ref (adK w K).C_FontError, .type "ValueError", .type "Exception", .type "BaseException", .type "object"] := of_decide_eq_true (c.fact 92)
theorem t_nd_err (X : K.In h) (G : h.Ns mainGlobals mg) (c : Sy h K) : ([(adK w K).C_InvalidGlyph, (adK w K).C_InvalidNumber, (adK w K).C_UnknownGlyph, (adK w K).C_TooMany, (adK w K).C_DeedRefused, (adK w K).C_FontError] : List Addr).Nodup := of_decide_eq_true (c.fact 93)
theorem t_ds_blank (X : K.In h) (G : h.Ns mainGlobals mg) (c : Sy h K) : isIntAt K (adK w K).D_DEED_SIZES "blank" 2 = true := of_decide_eq_true (c.fact 94)
theorem t_ds_advance (X : K.In h) (G : h.Ns mainGlobals mg) (c : Sy h K) : isIntAt K (adK w K).D_DEED_SIZES "advance" 3 = true := of_decide_eq_true (c.fact 95)
theorem txt (X : K.In h) (G : h.Ns mainGlobals mg) (c : Sy h K) (cz : SaysZ fnL tfL fxL tsL w h K) (TB : ∀ p ∈ ([((adK w K).c_font_order, (adK w K).P_font_order)] : List (Addr × Addr)), LamX.TabB base mg p.1 p.2) : Txt PySem.Challenge.rw_fontgap_k15_limits_and_even_fonts.prog K mg base (adK w K) :=
  ⟨t_F_is_integer X G c,
    t_B_is_integer X G c,
    t_g_is_integer X G c,
    t_k_is_integer X G c,
    t_F_is_between X G c,
    t_B_is_between X G c,
    t_g_is_between X G c,
    t_k_is_between X G c,
    t_F_check_between X G c,
    t_B_check_between X G c,
    t_g_check_between X G c,
    t_k_check_between X G c,
    t_F_font_order X G c,
    TB ((adK w K).c_font_order, (adK w K).P_font_order) (by simp),
    t_B_font_order X G c,
    t_g_font_order X G c,
    t_k_font_order X G c,
    t_F_is_name X G c,
    t_B_is_name X G c,
    t_g_is_name X G c,
    t_k_is_name X G c,
    t_F_is_deed X G c,
    t_B_is_deed X G c,
    t_g_is_deed X G c,
    t_k_is_deed X G c,
    t_F_Font_known X G c,
    t_B_Font_known X G c,
    t_M_Font_known X G c,
    t_F_Font_ligatures X G c,
    t_B_Font_ligatures X G c,
    t_P_Font_ligatures X G c,
    t_F_Font_glyphs X G c,
    t_B_Font_glyphs X G c,
    t_M_Font_glyphs X G c,
    t_F_Font_advance_of X G c,
    t_B_Font_advance_of X G c,
    t_M_Font_advance_of X G c,
    t_F_Font_contains X G c,
    t_B_Font_contains X G c,
    t_M_Font_contains X G c,
    t_F_Font_len X G c,
    t_B_Font_len X G c,
    t_M_Font_len X G c,
    t_F_Font_changes X G c,
    t_B_Font_changes X G c,
    t_P_Font_changes X G c,
    t_F_Font_blank X G c,
    t_B_Font_blank X G c,
    t_P_Font_blank X G c,
    t_F_Font_kerns X G c,
    t_B_Font_kerns X G c,
    t_M_Font_kerns X G c,
    t_F_Font_snapshot X G c,
    t_B_Font_snapshot X G c,
    t_M_Font_snapshot X G c,
    t_F_Font_remember X G c,
    t_B_Font_remember X G c,
    t_M_Font_remember X G c,
    t_F_Font_put_blank X G c,
    t_B_Font_put_blank X G c,
    t_M_Font_put_blank X G c,
    t_F_Font_put_advance X G c,
    t_B_Font_put_advance X G c,
    t_M_Font_put_advance X G c,
    t_F_Font_put_drop X G c,
    t_B_Font_put_drop X G c,
    t_M_Font_put_drop X G c,
    t_F_Font_put_deed X G c,
    t_B_Font_put_deed X G c,
    t_M_Font_put_deed X G c,
    t_F_Font_set_advance X G c,
    t_B_Font_set_advance X G c,
    t_M_Font_set_advance X G c,
    t_F_Font_setitem X G c,
    t_B_Font_setitem X G c,
    t_M_Font_setitem X G c,
    t_F_Font_drop X G c,
    t_B_Font_drop X G c,
    t_M_Font_drop X G c,
    t_F_Batch_init X G c,
    t_B_Batch_init X G c,
    t_F_Batch_enter X G c,
    t_B_Batch_enter X G c,
    t_M_Batch_enter X G c,
    t_F_Batch_exit X G c,
    t_B_Batch_exit X G c,
    t_M_Batch_exit X G c,
    t_F_Font_apply X G c,
    t_B_Font_apply X G c,
    t_M_Font_apply X G c,
    t_F_Font_set_advances X G c,
    t_M_Font_set_advances X G c,
    t_F_Font_init X G c,
    t_KB1_blank_Font_init X G c,
    t_B1_Font_init X G c,
    t_V1_Font_init X G c,
    t_KB2_blank_Font_init X G c,
    t_F_Font_even X G c,
    t_KB2_blank_Font_even X G c,
    t_B2_Font_even X G c,
    t_V2_Font_even X G c,
    t_CM_Font_even X G c,
    t_F_law_bag X G c,
    t_B_law_bag X G c,
    t_g_law_bag X G c,
    t_k_law_bag X G c,
    t_F_law_take X G c,
    t_B_law_take X G c,
    t_g_law_take X G c,
    t_k_law_take X G c,
    t_F_law_int X G c,
    t_B_law_int X G c,
    t_g_law_int X G c,
    t_k_law_int X G c,
    t_F_law_letters X G c,
    t_B_law_letters X G c,
    t_g_law_letters X G c,
    t_k_law_letters X G c,
    t_F_law_rank X G c,
    t_B_law_rank X G c,
    t_g_law_rank X G c,
    t_k_law_rank X G c,
    t_F_law_agrees X G c,
    t_B_law_agrees X G c,
    t_g_law_agrees X G c,
    t_k_law_agrees X G c,
    t_F_law_too_many X G c,
    t_B_law_too_many X G c,
    t_g_law_too_many X G c,
    t_k_law_too_many X G c,
    t_F_law_at_once X G c,
    t_B_law_at_once X G c,
    t_g_law_at_once X G c,
    t_k_law_at_once X G c,
    t_F_law_full X G c,
    t_B_law_full X G c,
    t_g_law_full X G c,
    t_k_law_full X G c,
    t_F_law X G c,
    t_B_law X G c,
    t_g_law X G c,
    t_k_law X G c,
    t_cr_Font X G c,
    t_cv_Font_MOST_ADVANCE X G c,
    t_cv_Font_MOST_LETTERS X G c,
    t_cv_Font_MOST_LIGATURES X G c,
    t_cv_Font_MOST_UNDO X G c,
    t_g_Font X G c,
    t_c_Font X G c,
    t_I_Font X G c,
    t_M_Font X G c,
    t_g_Batch X G c,
    t_c_Batch X G c,
    t_I_Batch X G c,
    t_M_Batch X G c,
    t_g_FontError X G c,
    t_E_InvalidGlyph X G c,
    t_Y_InvalidGlyph X G c,
    t_X_InvalidGlyph X G c,
    t_x_InvalidGlyph_glyph X G c,
    t_E_InvalidNumber X G c,
    t_Y_InvalidNumber X G c,
    t_X_InvalidNumber X G c,
    t_x_InvalidNumber_value X G c,
    t_E_UnknownGlyph X G c,
    t_Y_UnknownGlyph X G c,
    t_X_UnknownGlyph X G c,
    t_x_UnknownGlyph_glyph X G c,
    t_E_TooMany X G c,
    t_Y_TooMany X G c,
    t_X_TooMany X G c,
    t_x_TooMany_limit X G c,
    t_E_DeedRefused X G c,
    t_Y_DeedRefused X G c,
    t_X_DeedRefused X G c,
    t_x_DeedRefused_index X G c,
    t_n_bool X G c,
    t_n_dict X G c,
    t_n_enumerate X G c,
    t_n_int X G c,
    t_n_isinstance X G c,
    t_n_len X G c,
    t_n_list X G c,
    t_n_range X G c,
    t_n_sorted X G c,
    t_n_str X G c,
    t_n_tuple X G c,
    t_g_DEED_SIZES X G c,
    t_KD_DEED_SIZES cz,
    t_na_Font_rows X G c,
    t_na_Font_pairs X G c,
    t_na_Font_space X G c,
    t_na_Font_past X G c,
    t_na_Batch_face X G c,
    t_na_Batch_rows X G c,
    t_na_Batch_pairs X G c,
    t_na_Batch_space X G c,
    t_ns_Font X G c,
    t_ty_FontError X G c,
    t_be_FontError X G c,
    t_cl_FontError X G c,
    t_mr_InvalidGlyph X G c,
    t_mr_InvalidNumber X G c,
    t_mr_UnknownGlyph X G c,
    t_mr_TooMany X G c,
    t_mr_DeedRefused X G c,
    t_nd_err X G c,
    t_ds_blank X G c,
    t_ds_advance X G c⟩
theorem law_at {fa : Addr} (X : K.In h) (G : h.Ns mainGlobals mg) (hfa : mg "law" = some (.ref fa)) (c : Sy h K) (cz : SaysZ fnL tfL fxL tsL w h K) : LamX.LawAtS PySem.Challenge.rw_fontgap_k15_limits_and_even_fonts w K CX0 11 63 "_law_script" mg fa h := by
  have e := hfa.symm.trans (t_g_law (w := w) X G c)
  have e2 : fa = (adK w K).f_law := by injection e with e; injection e
  subst e2
  exact ⟨(adK w K).d_law, [((adK w K).c_font_order, (adK w K).P_font_order)], sp_law K (adK w K), fun p hp => by rw [List.mem_singleton.mp hp]; exact c.empty ("font_order", none) (List.mem_singleton.mpr rfl), fun p hp => by rw [List.mem_singleton.mp hp]; exact c.out ("font_order", none) (List.mem_singleton.mpr rfl), fun p hp => by rw [List.mem_singleton.mp hp]; exact PySem.W.codeHd_of_K X (c.hd ("font_order", none) (List.mem_singleton.mpr rfl)), fun s v => FunD.bindsA (ps := (["_law_script"] : List Str)) (df_law (w := w) c) (fun _ _ _ _ _ _ us hl => match us, hl with | [_], _ => rfl) s [v] rfl, fun H z ns h1 _ h3 h4 => sp_law_start h4 h1 (h3 _ (List.mem_singleton.mpr rfl)), fun base _ _ TB => ok_law (txt X G c cz TB) rfl⟩
end
def names : List Str := (["_wall", "FontError", "InvalidGlyph", "InvalidNumber", "UnknownGlyph", "TooMany", "Overlap", "InUse", "DeedRefused", "NothingToUndo", "is_integer", "is_between", "check_between", "BLANK", "DEED_SIZES", "font_order", "is_name", "is_deed", "Batch", "Font", "_law_bag", "_law_take", "_law_letters", "_law_int", "_law_rank", "_law_agrees", "_law_too_many", "_law_at_once", "_law_full"] : List Str)
def nms : Nms := ⟨(["DEED_SIZES", "Font", "Batch", "FontError", "InvalidGlyph", "InvalidNumber", "UnknownGlyph", "TooMany", "DeedRefused", "is_integer", "is_between", "check_between", "font_order", "is_name", "is_deed", "_law_bag", "_law_take", "_law_int", "_law_letters", "_law_rank", "_law_agrees", "_law_too_many", "_law_at_once", "_law_full", "law"] : List Str), ([("Font", "known"), ("Font", "ligatures"), ("Font", "glyphs"), ("Font", "advance_of"), ("Font", "__contains__"), ("Font", "__len__"), ("Font", "changes"), ("Font", "blank"), ("Font", "kerns"), ("Font", "snapshot"), ("Font", "remember"), ("Font", "put_blank"), ("Font", "put_advance"), ("Font", "put_drop"), ("Font", "put_deed"), ("Font", "set_advance"), ("Font", "__setitem__"), ("Font", "drop"), ("Batch", "__init__"), ("Batch", "__enter__"), ("Batch", "__exit__"), ("Font", "apply"), ("Font", "set_advances"), ("Font", "__init__"), ("Font", "even")] : List (Str × Str)) ++ ([("InvalidGlyph", "__init__"), ("InvalidNumber", "__init__"), ("UnknownGlyph", "__init__"), ("TooMany", "__init__"), ("DeedRefused", "__init__")] : List (Str × Str))⟩
abbrev hk : PySem.W.Hook := hookZ nms fnL tfL fxL tsL
def ob (s : PySem.W.SharedT) : AlZ := obsZ nms fnL tfL fxL tsL (HandSHeadRun.getT s)
theorem ob_eq (s : PySem.W.SharedT) : ob s = hk.obs s.abs := obsZ_eq (HandSHeadRun.getT_eq s)
set_option maxHeartbeats 0 in
theorem run_false (w : World) : HandSHeadRun.RunEq (PySem.W.OpenLaw.row PySem.Challenge.rw_fontgap_k15_limits_and_even_fonts) (PySem.W.view (PySem.W.OpenLaw.row PySem.Challenge.rw_fontgap_k15_limits_and_even_fonts).prog [33]) hk ob 30000 names (w.withFollow "special-get-raises" false) := by
  intro os
  kernel_rfl
set_option maxHeartbeats 0 in
theorem run_true (w : World) : HandSHeadRun.RunEq (PySem.W.OpenLaw.row PySem.Challenge.rw_fontgap_k15_limits_and_even_fonts) (PySem.W.view (PySem.W.OpenLaw.row PySem.Challenge.rw_fontgap_k15_limits_and_even_fonts).prog [33]) hk ob 30000 names (w.withFollow "special-get-raises" true) := by
  intro os
  kernel_rfl
theorem run (w : World) : HandSHeadRun.RunEq (PySem.W.OpenLaw.row PySem.Challenge.rw_fontgap_k15_limits_and_even_fonts) (PySem.W.view (PySem.W.OpenLaw.row PySem.Challenge.rw_fontgap_k15_limits_and_even_fonts).prog [33]) hk ob 30000 names w := PySem.W.byRow2 "special-get-raises" (P := fun w => HandSHeadRun.RunEq (PySem.W.OpenLaw.row PySem.Challenge.rw_fontgap_k15_limits_and_even_fonts) (PySem.W.view (PySem.W.OpenLaw.row PySem.Challenge.rw_fontgap_k15_limits_and_even_fonts).prog [33]) hk ob 30000 names w) run_false run_true w
end FG
open PySem PySem.W PySem.Calls PyProof.Rows
set_option maxRecDepth 100000 in
set_option maxHeartbeats 0 in
theorem PySem.Challenge.cw_fontgap_k15_limits_and_even_fonts_holds : PySem.Challenge.rw_fontgap_k15_limits_and_even_fonts.Holds := by
  w_on; o_law
  refine HandSHeadRun.head_any (r := OpenLaw.row PySem.Challenge.rw_fontgap_k15_limits_and_even_fonts) (q := view (OpenLaw.row PySem.Challenge.rw_fontgap_k15_limits_and_even_fonts).prog [33]) (H := FG.hk) (ob := FG.ob) (M := 30000) (loose := FG.names) (d := HandSHeadRun.topDef (OpenLaw.row PySem.Challenge.rw_fontgap_k15_limits_and_even_fonts).prog 33) (kwd := []) FG.ob_eq
    (by kernel_rfl) (fun s => by kernel_rfl) FG.run (by kernel_rfl) (by kernel_rfl) (by kernel_rfl) (by rfl) (by first | assumption | decide +kernel) (by decide +kernel) ⟨rfl, rfl, rfl, rfl, rfl, by decide +kernel⟩ ?hw ?hc
  case hw => w_witness2
  case hc =>
    refine LamX.walk_ofTsE (l := PySem.Challenge.rw_fontgap_k15_limits_and_even_fonts) (n := 63) (k := 11) (x := "_law_script") (CX := fun _ => L2.CX0) rfl (by decide) (by kernel_rfl) ⟨rfl, by decide, by decide⟩ ?F (fun _ _ _ _ _ z => z)
    intro w mg fa h Y G hmg0
    obtain ⟨K, KX, c⟩ := Y
    have hmg : mg ("law" : PySem.Str) = some (.ref fa) := by
      have e : (HandSHeadRun.topDef (OpenLaw.row PySem.Challenge.rw_fontgap_k15_limits_and_even_fonts).prog 33).name = ("law" : PySem.Str) := by kernel_rfl
      rw [← e]
      exact hmg0
    exact ⟨K, KX, FG.law_at KX G hmg c.s2 c⟩
