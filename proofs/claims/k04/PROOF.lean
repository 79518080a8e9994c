import PyProof.Rows.All
import Wide.All
import OpenK.AllK
import Wide.FinOn
import KE.KExcSuper
import HandS.ForMost
import HandS.ForExc
import HandS.ExcInit
import HandS.ExcField
import HandS.IsInst
import HandS.ExcIs
import HandS.TryMany
import HandS.Wide
import HandS.Defaults
import HandS.CallSlots
import HandS.Flow
import HandS.Steps
import HandS.WideBits
import HandS.Evl
import KE.KExcIs
import KE.KOpsOwn
import KE.SortKeyHeap
import KE.SortData
import KE.KLam
import HandS.Lambda
import HandS.SortKw
import HandS.SortRule
import HandS.Property
import HandS.ClsMeth
import HandS.MakeKwOnly
import HandS.Conv
import HandS.FStr
import HandS.DictComp
import HandS.StrMore
import HandS.Style
import PyProof.FString3
import OpenK.KMeth
import OpenK.KOps
import HandS.Walk
import PyProof.StrOps2
import PyProof.Rows.StrBin
import HandS.EndTab
import KE.KCallOwn
import HandS.Codes
import HandS.RaiseMore
import KE.IntTextText
import PySem.Challenge.RW_fontgap_k04_ratio_written_and_read
set_option Elab.async false
set_option linter.all false
set_option maxRecDepth 100000
set_option maxHeartbeats 4000000
namespace FG
/-! plain mathematics: Euclid's steps, lowest terms -/
/-- one step of the law's loop -/
def eStep (p : Int × Int) : Int × Int := if p.2 > 0 then (p.2, p.1 % p.2) else p
def eIter : Nat → Int × Int → Int × Int
  | 0, p => p
  | n + 1, p => eStep (eIter n p)
theorem eStep_nonneg {p : Int × Int} (h1 : 0 ≤ p.1) (h2 : 0 ≤ p.2) : 0 ≤ (eStep p).1 ∧ 0 ≤ (eStep p).2 := by
  unfold eStep
  split
  · rename_i h
    exact ⟨h2, Int.emod_nonneg _ (by omega)⟩
  · exact ⟨h1, h2⟩
theorem eStep_gcd {p : Int × Int} : Int.gcd (eStep p).1 (eStep p).2 = Int.gcd p.1 p.2 := by
  unfold eStep
  split
  · show Int.gcd p.2 (p.1 % p.2) = Int.gcd p.1 p.2
    have e : p.1 / p.2 * p.2 + p.1 % p.2 = p.1 := Int.ediv_mul_add_emod _ _
    have q := Int.gcd_mul_right_add_left p.2 (p.1 % p.2) (p.1 / p.2)
    rw [e] at q
    rw [Int.gcd_comm p.2, q]
  · rfl
theorem eIter_gcd (n : Nat) (p : Int × Int) : Int.gcd (eIter n p).1 (eIter n p).2 = Int.gcd p.1 p.2 := by
  induction n with
  | zero => rfl
  | succ n ih => exact eStep_gcd.trans ih
theorem eIter_nonneg (n : Nat) {p : Int × Int} (h1 : 0 ≤ p.1) (h2 : 0 ≤ p.2) : 0 ≤ (eIter n p).1 ∧ 0 ≤ (eIter n p).2 := by
  induction n with
  | zero => exact ⟨h1, h2⟩
  | succ n ih => exact eStep_nonneg ih.1 ih.2
/-- the bound of the second part: two steps halve it -/
theorem eStep_two {p : Int × Int} (h1 : 0 ≤ p.1) (h2 : 0 ≤ p.2) : 2 * (eStep (eStep p)).2 ≤ p.2 := by
  by_cases h : p.2 > 0
  · have e1 : eStep p = (p.2, p.1 % p.2) := if_pos h
    have m0 : 0 ≤ p.1 % p.2 := Int.emod_nonneg _ (by omega)
    have m1 : p.1 % p.2 < p.2 := Int.emod_lt_of_pos _ h
    rw [e1]
    by_cases h' : p.1 % p.2 > 0
    · have e2 : eStep (p.2, p.1 % p.2) = (p.1 % p.2, p.2 % (p.1 % p.2)) := if_pos h'
      rw [e2]
      show 2 * (p.2 % (p.1 % p.2)) ≤ p.2
      generalize hr : p.1 % p.2 = r at *
      have k0 : 0 ≤ p.2 % r := Int.emod_nonneg _ (by omega)
      have k1 : p.2 % r < r := Int.emod_lt_of_pos _ h'
      have k2 : p.2 / r * r + p.2 % r = p.2 := Int.ediv_mul_add_emod _ _
      have k3 : 1 ≤ p.2 / r := by
        have := Int.le_ediv_of_mul_le h' (show 1 * r ≤ p.2 by omega)
        exact this
      have k4 : r ≤ p.2 / r * r := by
        have := Int.mul_le_mul_of_nonneg_right k3 (show 0 ≤ r by omega)
        omega
      omega
    · have e2 : eStep (p.2, p.1 % p.2) = (p.2, p.1 % p.2) := if_neg h'
      rw [e2]
      show 2 * (p.1 % p.2) ≤ p.2
      omega
  · have e1 : eStep p = p := if_neg h
    rw [e1, e1]
    omega
theorem eIter_add (m n : Nat) (p : Int × Int) : eIter (m + n) p = eIter m (eIter n p) := by
  induction m with
  | zero => rw [Nat.zero_add]; rfl
  | succ m ih =>
    rw [Nat.succ_add]
    show eStep (eIter (m + n) p) = eStep (eIter m (eIter n p))
    rw [ih]
theorem eIter_small (j : Nat) : ∀ {p : Int × Int}, 0 ≤ p.1 → 0 ≤ p.2 → p.2 < 2 ^ j → (eIter (2 * j) p).2 = 0 := by
  induction j with
  | zero =>
    intro p h1 h2 h
    have e : (2 : Int) ^ 0 = 1 := by decide
    rw [e] at h
    show p.2 = 0
    omega
  | succ j ih =>
    intro p h1 h2 h
    have e : 2 * (j + 1) = 2 * j + 2 := by omega
    rw [e, eIter_add]
    have q := eIter_nonneg 2 h1 h2
    have t : 2 * (eIter 2 p).2 ≤ p.2 := eStep_two h1 h2
    have pw : (2 : Int) ^ (j + 1) = 2 ^ j * 2 := Int.pow_succ ..
    rw [pw] at h
    refine ih q.1 q.2 ?_
    omega
theorem eIter_400 {p : Int × Int} (h1 : 0 ≤ p.1) (h2 : 0 ≤ p.2) (h : p.2 < 2 ^ 200) : eIter 400 p = (((Int.gcd p.1 p.2 : Nat) : Int), (0 : Int)) := by
  have z := eIter_small 200 h1 h2 h
  have g := eIter_gcd 400 p
  have q := eIter_nonneg 400 h1 h2
  have z' : (eIter 400 p).2 = 0 := z
  rw [z', Int.gcd_zero_right] at g
  have f : (eIter 400 p).1 = ((Int.gcd p.1 p.2 : Nat) : Int) := by
    rw [← g]
    omega
  exact Prod.ext f z'
/-- the python abs -/
def pabs (i : Int) : Int := if i < 0 then -i else i
theorem pabs_eq (i : Int) : pabs i = (i.natAbs : Int) := by
  unfold pabs
  split <;> omega
/-- lowest terms, as the program and the law reckon them -/
def sgn (b : Int) (g : Nat) : Int := if b < 0 then -(g : Int) else (g : Int)
def lowT (t b : Int) : Int := t.fdiv (sgn b (Int.gcd t b))
def lowB (t b : Int) : Int := b.fdiv (sgn b (Int.gcd t b))
theorem gcd_pos_of {t b : Int} (h : b ≠ 0) : 0 < Int.gcd t b := Int.gcd_pos_of_ne_zero_right _ h
theorem sgn_ne {t b : Int} (h : b ≠ 0) : sgn b (Int.gcd t b) ≠ 0 := by
  have := gcd_pos_of (t := t) h
  unfold sgn
  split <;> omega
theorem sgn_mul {b f : Int} {g : Nat} (hf : 0 < f) : sgn (b * f) (g * f.natAbs) = sgn b g * f := by
  unfold sgn
  have e : ((g * f.natAbs : Nat) : Int) = (g : Int) * f := by
    rw [Int.natCast_mul]
    have : (f.natAbs : Int) = f := by omega
    rw [this]
  by_cases h : b < 0
  · have : b * f < 0 := Int.mul_neg_of_neg_of_pos h hf
    rw [if_pos h, if_pos this, e, Int.neg_mul]
  · have : ¬ b * f < 0 := by
      have := Int.mul_nonneg (show 0 ≤ b by omega) (show 0 ≤ f by omega)
      omega
    rw [if_neg h, if_neg this, e]
theorem low_mul {t b f : Int} (hb : b ≠ 0) (hf : 0 < f) : lowT (t * f) (b * f) = lowT t b ∧ lowB (t * f) (b * f) = lowB t b := by
  have g : Int.gcd (t * f) (b * f) = Int.gcd t b * f.natAbs := Int.gcd_mul_right ..
  unfold lowT lowB
  rw [g, sgn_mul hf]
  exact ⟨Int.mul_fdiv_mul_of_pos_left _ _ hf, Int.mul_fdiv_mul_of_pos_left _ _ hf⟩
/-- in lowest terms, over a positive bottom -/
structure Low (t b : Int) : Prop where
  pos : 0 < b
  one : Int.gcd t b = 1
theorem sgn_pos {b : Int} {g : Nat} (h : 0 < b) : sgn b g = (g : Int) := if_neg (by omega)
theorem low_idem {t b : Int} (h : Low t b) : lowT t b = t ∧ lowB t b = b := by
  have e : sgn b (Int.gcd t b) = 1 := by rw [sgn_pos h.pos, h.one]; rfl
  unfold lowT lowB
  rw [e]
  exact ⟨Int.fdiv_one t, Int.fdiv_one b⟩
theorem low_pos {t b : Int} (h : 0 < b) : lowT t b = t / (Int.gcd t b : Nat) ∧ lowB t b = b / (Int.gcd t b : Nat) := by
  unfold lowT lowB
  rw [sgn_pos h]
  exact ⟨Int.fdiv_eq_ediv_of_nonneg _ (by omega), Int.fdiv_eq_ediv_of_nonneg _ (by omega)⟩
theorem low_low {t b : Int} (h : 0 < b) : Low (lowT t b) (lowB t b) := by
  have g0 : 0 < Int.gcd t b := Int.gcd_pos_of_ne_zero_right _ (by omega)
  have d1 : ((Int.gcd t b : Nat) : Int) ∣ t := Int.gcd_dvd_left t b
  have d2 : ((Int.gcd t b : Nat) : Int) ∣ b := Int.gcd_dvd_right t b
  rw [(low_pos h).1, (low_pos h).2]
  refine ⟨?_, ?_⟩
  · exact Int.ediv_pos_of_pos_of_dvd h (by omega) d2
  · rw [Int.gcd_ediv d1 d2, Int.natAbs_natCast]
    exact Nat.div_self g0
theorem low_bound {t b : Int} (h : 0 < b) : (lowT t b).natAbs ≤ t.natAbs ∧ lowB t b ≤ b := by
  have g0 : 0 < Int.gcd t b := Int.gcd_pos_of_ne_zero_right _ (by omega)
  rw [(low_pos h).1, (low_pos h).2]
  refine ⟨?_, ?_⟩
  · rw [Int.natAbs_ediv_of_dvd (Int.gcd_dvd_left t b)]
    exact Nat.div_le_self _ _
  · exact Int.ediv_le_self _ (by omega)
theorem low_neg {t b : Int} (h : Low t b) : Low (-t) b := ⟨h.pos, by rw [Int.neg_gcd]; exact h.one⟩
theorem low_abs {t b : Int} (h : Low t b) : Low (pabs t) b := by
  unfold pabs
  split
  · exact low_neg h
  · exact h
theorem low_one (t : Int) : lowT t 1 = t ∧ lowB t 1 = 1 := by
  have g : Int.gcd t 1 = 1 := Int.gcd_one_right t
  have e : sgn 1 (Int.gcd t 1) = 1 := by rw [g]; rfl
  unfold lowT lowB
  rw [e]
  exact ⟨Int.fdiv_one t, by decide⟩
theorem low_zero {f : Int} (h : 0 < f) : lowT 0 f = 0 ∧ lowB 0 f = 1 := by
  have g : Int.gcd 0 f = f.natAbs := Int.gcd_zero_left f
  have e : sgn f (Int.gcd 0 f) = f := by
    rw [g]
    unfold sgn
    rw [if_neg (by omega)]
    omega
  unfold lowT lowB
  rw [e]
  exact ⟨Int.zero_fdiv f, Int.fdiv_self (by omega)⟩
end FG
/-! own errors below ValueError whose __init__ first calls super().__init__(text) and then stores its parameters -/
namespace FG
open PySem PySem.W PySem.Calls PyProof.Rows PySem.HandSPX

abbrev errFd (qn : Str) (ps : Arguments) (bd : List Stmt) (sc : Scope) (cc : Addr) (kV doc pm : Value) (an : Option Addr) (cd ct : Value) : FuncData :=
  { fnOf "__init__" qn ps bd sc .none kV doc pm an cd ct with closure := [("__class__", cc)] }
/-- what the written part says of such a class at C: its __init__ at fI, the cell of __class__ at cc -/
structure ErrC (P : Program) (K : Frag) (mg : Str → Option Value) (nm qn : Str) (ps : Arguments) (bd : List Stmt) (sc : Scope) (C fI cc cda : Addr) : Prop where
  gC : mg nm = some (.ref C)
  cls : ∃ n1 q N bs bm sn sub ab col dd k0 k1 k2 k3 k5, K.lookup C = some (excClassObj n1 q C N bs bm true sn sub ab col dd k0 k1 k2 k3 k5 "ValueError.__new__") ∧ refsVE bm = true ∧
    alongIn K "__init__" bm = some (some (.builtin "ValueError.__init__"))
  sa : findIn K (.ref C) "__setattr__" = some (some (.builtin "object.__setattr__"))
  ga : findIn K (.ref C) "__getattribute__" = some (some (.builtin "BaseException.__getattribute__"))
  gg : findIn K (.ref C) "__getattr__" = some none
  iC : findIn K (.ref C) "__init__" = some (some (.ref fI))
  tC : typeIn K (.ref fI) = some (.type "function")
  kC : keepIn K (.ref C) = true
  exC : subIn K (.ref C) (.type "BaseException") = some true
  veC : subIn K (.ref C) (.type "ValueError") = some true
  tyC : typeIn K (.ref C) = some (.type "type")
  hdC : hasDictIn K C = true
  meC : mroIn K C (.ref C) = some true
  fn : ∃ (oc : Value) (od : Option Addr) (kV doc pm : Value) (an : Option Addr) (ct : Value) (osl : Array (Option Value)),
    K.lookup fI = some ⟨oc, od, .func (errFd qn ps bd sc cc kV doc pm an (.ref cda) ct), osl⟩ ∧ codeIn K (.ref cda) qn = true
  code : ∃ (cl : Value) (cd : Option Addr) (vs : Array Value) (cs : Array (Option Value)) (file : Str) (tf : Tok), K.lookup cda = some ⟨cl, cd, .fields vs, cs⟩ ∧ vs[2]? = some (.str file tf) ∧ ((P.main.file : Str) == file) = true
  cell : ∃ (cl : Value) (cd : Option Addr) (cs : Array (Option Value)), K.lookup cc = some ⟨cl, cd, .cell (some (.ref C)), cs⟩
  opq : nsIn K cStatics "thirdparty.any" = some none
  sup : mg "super" = none
  top : (P.main.scope.names.lookup ("super" : Str)).isSome = false

/-- the module's names and the built-ins' as they stand -/
structure Names0 (mg : Str → Option Value) (h : Heap) : Prop where
  glob : h.Ns mainGlobals mg
  blt : ∃ mb, h.Ns builtinsNs mb ∧ ∀ x : Str, x ≠ "__name__" → mb x = bootBuiltins x
theorem Names0.keeps {mg : Str → Option Value} {h h' : Heap} (n : Names0 mg h) (k : ∀ b o, h.get? b = some o → h'.get? b = some o) : Names0 mg h' := by
  obtain ⟨g, mb, b1, b2⟩ := n
  exact ⟨g.keeps k, mb, b1.keeps k, b2⟩

/-- super().__init__(text) -/
abbrev supE (p0 p1 p2 p3 p4 : Pos) (msg : Str) (j : Nat) : Expr := .Call (.Attribute (.Call (.Name "super" p0) [] [] p1) "__init__" p2) [.Constant (.str msg) j p3] [] p4
theorem ve_len (v : Value) : [v].length ≤ sizeLine := by
  show 1 ≤ sizeLine
  decide

section
variable {P : Program} {w : World} {A : Around} {E : Value → Shared → Prop} {hh : Heap} {g : Array GenState} {d : Drawn} {tk : Nat} {os : OsState}
/-- the bound ValueError.__init__ is called -/
theorem mw_call {n1 q : Str} {N : Addr} {bs bm : List Value} {hd : Bool} {sn : List Str} {sub : List Value} {ab : Bool} {col : Option Bool} {dd : Option Addr} {k0 k1 k2 k3 k5 : Option Value} {u e t0 C : Addr} {r : List Value} {Q : Value → Shared → Prop}
    (hC : hh.get? C = some (excClassObj n1 q C N bs bm hd sn sub ab col dd k0 k1 k2 k3 k5 "ValueError.__new__")) (he : hh.get? e = some (excO C t0)) (hu : hh.get? u = some (kxs_mw "ValueError.__init__" e)) (hz : r.length ≤ sizeLine)
    (hq : ∀ h' t1, (∀ b o, b ≠ e → hh.get? b = some o → h'.get? b = some o) → h'.get? e = some (excO C t1) → Q .none ⟨h', g, d, tk, os⟩) : wpAny (model P w) A (call (.ref u) r) Q E ⟨hh, g, d, tk, os⟩ := by
  have B := F.excBase_ValueError
  refine wpAny_call (codeAny_of_tree ?_)
  show wpAny _ A.in1 (callAny (.ref u) ⟨r, []⟩) _ _ _
  simp only [callAny]
  refine wpAny_bind (wpAny_load (a := u) hu ?_)
  have c1 : (Value.type "method-wrapper" == Value.type "method" || Value.type "method-wrapper" == Value.type "builtin_function_or_method" || Value.type "method-wrapper" == Value.type "method-wrapper") = true := by decide
  simp only [kxs_mw, c1, if_true]
  refine KFB.if_so (by decide) (wpAny_bind (check_bound_init B.toExcCallFacts hC he rfl (wpAny_bind (wpAny_pure (wpAny_pure ⟨plainId_quiet B.init.plain _, codeAny_builtin B.initEntry ?_⟩)))))
  exact exc_init_tree (cls := .ref C) (t0 := t0) (dv := none) (c2 := .none) (c3 := .none) (b4 := .bool false) he hz fun h' k e' _ => hq h' _ k e'

/-- the statement super().__init__(text) -/
theorem sup_stmt {K : Frag} {mg : Str → Option Value} {nm qn : Str} {ps : Arguments} {bd body : List Stmt} {sc : Scope} {C fI cc cda x t0 L : Addr} {m : Str → Option Value} {msg : Str} {j : Nat} {p0 p1 p2 p3 p4 p5 : Pos} {a0 : Arg} {Q : Flow → Shared → Prop}
    (T : ErrC P K mg nm qn ps bd sc C fI cc cda) (X : K.In hh) (Nm : Names0 mg hh) (hx : hh.get? x = some (excO C t0)) (hn : hh.Ns L m) (hs : m a0.arg = some (.ref x))
    (hp : (ps.posonlyargs ++ ps.args).head? = some a0) (hks : sc.names.lookup ("super" : Str) = some .globalImplicit) (hkc : sc.names.lookup ("__class__" : Str) = some .free) (hka : sc.names.lookup a0.arg = some .local) (hk : sc.kind = .function)
    (hi : interactive (ksEnv qn sc L fI (.ref cda) cc) = false) (hw : swapsWith (supE p0 p1 p2 p3 p4 msg j) none p5.line (ksEnv qn sc L fI (.ref cda) cc) = pure false) {pl : Sem Bool}
    (he : eval (supE p0 p1 p2 p3 p4 msg j) (ksEnv qn sc L fI (.ref cda) cc) = (do
      let ov ← attributeBase (.Call (.Name "super" p0) [] [] p1) "__init__" (ksEnv qn sc L fI (.ref cda) cc) (eval (.Call (.Name "super" p0) [] [] p1) (ksEnv qn sc L fI (.ref cda) cc))
      standAt p2.atName
      let (f, first) ← holding [ov] (getMethod ov "__init__" pl)
      callWith p4 f first (backTo p4 (starEach [.Constant (.str msg) j p3] (ksEnv qn sc L fI (.ref cda) cc))) []))
    (hq : ∀ h' t1 tk', (∀ b o, b ≠ x → hh.get? b = some o → h'.get? b = some o) → h'.get? x = some (excO C t1) → Q .next ⟨h', g, d, tk', os⟩) :
    PySem.wpAt (model P w) A (.func body (ksEnv qn sc L fI (.ref cda) cc)) (exec (.Expr (supE p0 p1 p2 p3 p4 msg j) p5) (ksEnv qn sc L fI (.ref cda) cc)) Q E ⟨hh, g, d, tk, os⟩ := by
  obtain ⟨n1, q, N, bs, bm, sn, sub, ab, col, dd, k0, k1, k2, k3, k5, lC, vm, ai⟩ := T.cls
  obtain ⟨oc, od, kV, doc, pm, an, ct, osl, lf, cdi⟩ := T.fn
  obtain ⟨cl, cd, vs, cs, file, tf, lc, v2, ef⟩ := T.code
  obtain ⟨l1, l2, l3, lcc⟩ := T.cell
  obtain ⟨mb, nb, eb⟩ := Nm.blt
  have hcd : clsIn K C = some { name := n1, bases := bs, mro := .ref C :: bm, ns := N, qualname := q, hasDict := true, slotNames := sn, subclasses := sub, abstract := ab, collection := col, hasDel := false } := by
    unfold clsIn
    rw [lC]
    all_goals rfl
  have hC := X _ _ lC
  have I : InstAt hh x (excO C t0) C none := ⟨hx, rfl, rfl, trivial⟩
  refine ks_wpAt_Expr_any ?_ hi hw
  refine ks_wpAt_MethodCall ?_ he
  refine ks_wpAt_super_base (f := fI) (cc := cda) (ar := a0) hks hkc (by decide) rfl (X _ _ lf) rfl hp rfl (X _ _ lc) rfl v2 ef T.top ?_
  refine ks_loadName_global hk hks (Calls.loadGlobal_builtin Nm.glob T.sup nb ((eb "super" (by decide)).trans (by decide +kernel)) ⟨rfl, ?_⟩)
  refine wpAny_loadName_free (c := cc) (v := .ref C) hk hkc rfl ⟨_, X _ _ lcc, rfl⟩ (wpAny_loadName_local hk hka hn hs ?_)
  refine ks_wpAny_isType_cls hC rfl ⟨rfl, ?_⟩
  refine ks_wpAny_call_super hC rfl hx rfl (fun c z => by cases z) (looks_mroIn X T.meC) fun h1 hso k1' => ?_
  have X1 : K.In h1 := X.keeps k1'
  have I1 : InstAt h1 x (excO C t0) C none := ⟨k1' _ _ hx, rfl, rfl, trivial⟩
  refine kxs_getMethod kxs_ValueError hso (looks_opaque X1 T.opq) (l₀ := .ref C :: bm) (l := bm) ?_ (by simp [List.dropWhile_cons]) X1 ai (I1.type.andThen (looks_subIn X1 T.veC)) (ks_ne X1 I1 hcd) (by decide) ?_
  · exact fun A' Q' E' s' kk qq => wpAny_bind ((looks_clsIn X1 hcd) A' _ E' s' kk (wpAny_pure qq))
  have k2' : ∀ b o, h1.get? b = some o → (h1.push (kxs_mw "ValueError.__init__" x)).get? b = some o := fun b o z => Heap.get?_push_of_some _ z
  have hu : (h1.push (kxs_mw "ValueError.__init__" x)).get? h1.objs.size = some (kxs_mw "ValueError.__init__" x) := Heap.get?_push_at rfl rfl
  refine kxs_callWith (i := "ValueError.__init__") (x := x) (by rfl) (evalArgs_plain ?_)
  refine Calls.spliced_cons (Calls.Constant_str (k := j) (pos := p3) ?_)
  refine Calls.spliced_nil ?_
  refine ⟨hu, ?_⟩
  refine mw_call (k2' _ _ (k1' _ _ hC)) (k2' _ _ (k1' _ _ hx)) hu (ve_len _) fun h' t1 kk e' => hq h' t1 _ (fun b o hb z => kk b o hb (k2' _ _ (k1' _ _ z))) e'

/-- self.f = f, the first one and a further one -/
theorem sto_new {K : Frag} {mg : Str → Option Value} {nm qn : Str} {ps : Arguments} {bd : List Stmt} {sc : Scope} {C fI cc cda x t0 : Addr} {f : Str} {v : Value} {Q : Unit → Shared → Prop} (T : ErrC P K mg nm qn ps bd sc C fI cc cda)
    (X : K.In hh) (hx : hh.get? x = some (excO C t0)) (no : findIn K (.ref C) f = some none)
    (hq : ∀ h' tk' dx, (∀ b o, b ≠ x → hh.get? b = some o → h'.get? b = some o) → hh.objs.size ≤ dx → dx ≠ x → h'.get? x = some { cls := .ref C, dict := some dx, data := .fields #[.ref t0, .none, .none, .none, .bool false, .none] } →
      h'.Ns1 dx (fun y => if y = f then some v else none) → Q () ⟨h', g, d, tk', os⟩) : wpAny (model P w) A (setAttr (.ref x) f v) Q E ⟨hh, g, d, tk, os⟩ := by
  obtain ⟨n1, q, N, bs, bm, sn, sub, ab, col, dd, k0, k1, k2, k3, k5, lC, vm, ai⟩ := T.cls
  have hcd : clsIn K C = some { name := n1, bases := bs, mro := .ref C :: bm, ns := N, qualname := q, hasDict := true, slotNames := sn, subclasses := sub, abstract := ab, collection := col, hasDel := false } := by
    unfold clsIn
    rw [lC]
    all_goals rfl
  have I : InstAt hh x (excO C t0) C none := ⟨hx, rfl, rfl, trivial⟩
  exact set_plain (ox := excO C t0) (od := none) X I T.sa (exc_osa X hx hcd (show refsVE (.ref C :: bm) = true from vm) rfl no fun h' t' dx kk dn de e1 e2 => hq h' t' dx kk dn de e1 e2)
theorem sto_old {K : Frag} {mg : Str → Option Value} {nm qn : Str} {ps : Arguments} {bd : List Stmt} {sc : Scope} {C fI cc cda x t0 dx : Addr} {f f0 : Str} {v v0 : Value} {Q : Unit → Shared → Prop} (T : ErrC P K mg nm qn ps bd sc C fI cc cda)
    (X : K.In hh) (hx : hh.get? x = some { cls := .ref C, dict := some dx, data := .fields #[.ref t0, .none, .none, .none, .bool false, .none] }) (hd : hh.Ns1 dx (fun y => if y = f0 then some v0 else none)) (no : findIn K (.ref C) f = some none)
    (hq : ∀ h' tk', (∀ b o, b ≠ dx → hh.get? b = some o → h'.get? b = some o) → h'.Ns1 dx (fun y => if y = f then some v else if y = f0 then some v0 else none) → Q () ⟨h', g, d, tk', os⟩) : wpAny (model P w) A (setAttr (.ref x) f v) Q E ⟨hh, g, d, tk, os⟩ := by
  obtain ⟨n1, q, N, bs, bm, sn, sub, ab, col, dd, k0, k1, k2, k3, k5, lC, vm, ai⟩ := T.cls
  have hcd : clsIn K C = some { name := n1, bases := bs, mro := .ref C :: bm, ns := N, qualname := q, hasDict := true, slotNames := sn, subclasses := sub, abstract := ab, collection := col, hasDel := false } := by
    unfold clsIn
    rw [lC]
    all_goals rfl
  have hw : Within (fun y => if y = f0 then some v0 else none) [f0] := Within.cons f0 v0 Within.nil
  obtain ⟨oD, _, _, hoD, _, _⟩ := hd.count hw
  refine set_plain (ox := { cls := .ref C, dict := some dx, data := .fields #[.ref t0, .none, .none, .none, .bool false, .none] }) (od := some oD) X ⟨hx, rfl, rfl, hoD⟩ T.sa ?_
  exact OEX.osa_old X hx hd hw (by show 1 ≤ 1000; decide) hcd (show refsVE (.ref C :: bm) = true from vm) rfl no fun h' t' kk e2 => hq h' t' kk e2
end

/-! ### the whole __init__ -/
/-- what the text of an __init__ of one field looks like; L stands for the frame -/
structure Txt1 (qn f msg : Str) (ps : Arguments) (bd : List Stmt) (sc : Scope) : Prop where
  ex : ∃ (p0 p1 p2 p3 p4 p5 q1 q2 q3 q4 : Pos) (j : Nat) (a0 : Arg), bd = [.Expr (supE p0 p1 p2 p3 p4 msg j) p5, .Assign [.Attribute (.Name "self" q1) f q2] (.Name f q3) q4] ∧ (ps.posonlyargs ++ ps.args).head? = some a0 ∧ a0.arg = "self" ∧
    (∀ (L fI cc cda : Addr), interactive (ksEnv qn sc L fI (.ref cda) cc) = false ∧ swapsWith (supE p0 p1 p2 p3 p4 msg j) none p5.line (ksEnv qn sc L fI (.ref cda) cc) = pure false ∧
      swapsWith (.Name f q3) (some (.Attribute (.Name "self" q1) f q2)) q4.line (ksEnv qn sc L fI (.ref cda) cc) = pure false ∧
      ∃ pl : Sem Bool, eval (supE p0 p1 p2 p3 p4 msg j) (ksEnv qn sc L fI (.ref cda) cc) = (do
        let ov ← attributeBase (.Call (.Name "super" p0) [] [] p1) "__init__" (ksEnv qn sc L fI (.ref cda) cc) (eval (.Call (.Name "super" p0) [] [] p1) (ksEnv qn sc L fI (.ref cda) cc))
        standAt p2.atName
        let (f, first) ← holding [ov] (getMethod ov "__init__" pl)
        callWith p4 f first (backTo p4 (starEach [.Constant (.str msg) j p3] (ksEnv qn sc L fI (.ref cda) cc))) []))
  bind : ∀ (cc : Addr) (kV doc pm : Value) (an : Option Addr) (cd ct : Value) (a b : Value), bindArgs (errFd qn ps bd sc cc kV doc pm an cd ct) ⟨[a, b], []⟩ = pure [(("self" : Str), a), (f, b)]
  nself : (f == ("self" : Str)) = false
  ndbg : (f == ("__debug__" : Str)) = false
  ks : sc.names.lookup ("super" : Str) = some .globalImplicit
  kc : sc.names.lookup ("__class__" : Str) = some .free
  k0 : sc.names.lookup ("self" : Str) = some .local
  k1 : sc.names.lookup f = some .local
  cells : ∀ x ∈ sc.names, x.2 ≠ .cell
  kind : sc.kind = .function
  co : sc.isCoroutine = false
  gen : sc.isGenerator = false
structure Txt2 (qn f f2 msg : Str) (ps : Arguments) (bd : List Stmt) (sc : Scope) : Prop where
  ex : ∃ (p0 p1 p2 p3 p4 p5 q1 q2 q3 q4 r1 r2 r3 r4 : Pos) (j : Nat) (a0 : Arg), bd = [.Expr (supE p0 p1 p2 p3 p4 msg j) p5, .Assign [.Attribute (.Name "self" q1) f q2] (.Name f q3) q4, .Assign [.Attribute (.Name "self" r1) f2 r2] (.Name f2 r3) r4] ∧ (ps.posonlyargs ++ ps.args).head? = some a0 ∧ a0.arg = "self" ∧
    (∀ (L fI cc cda : Addr), interactive (ksEnv qn sc L fI (.ref cda) cc) = false ∧ swapsWith (supE p0 p1 p2 p3 p4 msg j) none p5.line (ksEnv qn sc L fI (.ref cda) cc) = pure false ∧
      swapsWith (.Name f q3) (some (.Attribute (.Name "self" q1) f q2)) q4.line (ksEnv qn sc L fI (.ref cda) cc) = pure false ∧
      swapsWith (.Name f2 r3) (some (.Attribute (.Name "self" r1) f2 r2)) r4.line (ksEnv qn sc L fI (.ref cda) cc) = pure false ∧
      ∃ pl : Sem Bool, eval (supE p0 p1 p2 p3 p4 msg j) (ksEnv qn sc L fI (.ref cda) cc) = (do
        let ov ← attributeBase (.Call (.Name "super" p0) [] [] p1) "__init__" (ksEnv qn sc L fI (.ref cda) cc) (eval (.Call (.Name "super" p0) [] [] p1) (ksEnv qn sc L fI (.ref cda) cc))
        standAt p2.atName
        let (f, first) ← holding [ov] (getMethod ov "__init__" pl)
        callWith p4 f first (backTo p4 (starEach [.Constant (.str msg) j p3] (ksEnv qn sc L fI (.ref cda) cc))) []))
  bind : ∀ (cc : Addr) (kV doc pm : Value) (an : Option Addr) (cd ct : Value) (a b c : Value), bindArgs (errFd qn ps bd sc cc kV doc pm an cd ct) ⟨[a, b, c], []⟩ = pure [(("self" : Str), a), (f, b), (f2, c)]
  nself : (f == ("self" : Str)) = false
  nself2 : (f2 == ("self" : Str)) = false
  nff : (f == f2) = false
  ndbg2 : (f2 == ("__debug__" : Str)) = false
  ndbg : (f == ("__debug__" : Str)) = false
  ks : sc.names.lookup ("super" : Str) = some .globalImplicit
  kc : sc.names.lookup ("__class__" : Str) = some .free
  k0 : sc.names.lookup ("self" : Str) = some .local
  k1 : sc.names.lookup f = some .local
  k2 : sc.names.lookup f2 = some .local
  cells : ∀ x ∈ sc.names, x.2 ≠ .cell
  kind : sc.kind = .function
  co : sc.isCoroutine = false
  gen : sc.isGenerator = false
/-- what is left of a made error: its class C, its own dict dx with the fields m -/
structure Made (h h' : Heap) (e C dx : Addr) (m : Str → Option Value) : Prop where
  keep : ∀ b o, h.get? b = some o → h'.get? b = some o
  new : h.objs.size ≤ e
  obj : ∃ oe vs, h'.get? e = some oe ∧ oe.cls = .ref C ∧ oe.dict = some dx ∧ oe.data = .fields vs ∧ vs[1]? = some .none
  dbig : h.objs.size ≤ dx
  dne : dx ≠ e
  ns : h'.Ns1 dx m
section
variable {P : Program} {w : World} {A : Around} {R : Result → Shared → Prop} {hp : Heap} {g : Array GenState} {d : Drawn} {tk : Nat} {os : OsState} {K : Frag} {mg : Str → Option Value} {nm qn f f2 msg : Str} {ps : Arguments} {bd : List Stmt} {sc : Scope} {C fI cc cda : Addr}
theorem init1 {x t0 : Addr} {v : Value} (T : ErrC P K mg nm qn ps bd sc C fI cc cda) (Y : Txt1 qn f msg ps bd sc) (no : findIn K (.ref C) f = some none) (X : K.In hp) (lim : hp.NoLimit) (Nm : Names0 mg hp) (hx : hp.get? x = some (excO C t0)) (nx : K.lookup x = none) (room : A.depth < recursionLimit)
    (hq : ∀ h' tk' t1 dx, (∀ b o, b ≠ x → hp.get? b = some o → h'.get? b = some o) → h'.get? x = some { cls := .ref C, dict := some dx, data := .fields #[.ref t1, .none, .none, .none, .bool false, .none] } → hp.objs.size ≤ dx → dx ≠ x →
      h'.Ns1 dx (fun y => if y = f then some v else none) → R (.ok (.ret .none)) ⟨h', g, d, tk', os⟩) : codeAny (model P w) A (.call (.ref fI) ⟨[.ref x, v], []⟩) R ⟨hp, g, d, tk, os⟩ := by
  obtain ⟨oc, od, kV, doc, pm, an, ct, osl, lf, cdi⟩ := T.fn
  obtain ⟨p0, p1, p2, p3, p4, p5, q1, q2, q3, q4, j, a0, eb, hp0, ea0, ht⟩ := Y.ex
  refine ks_codeAny_call_defAt (s := ⟨hp, g, d, tk, os⟩) (fd := errFd qn ps bd sc cc kV doc pm an (.ref cda) ct) (binds := [(("self" : Str), .ref x), (f, v)]) room (X _ _ lf) rfl lim (codeRec_of X cdi) rfl (BindsTo.of_eq (Y.bind cc kV doc pm an (.ref cda) ct _ _)) Y.cells ?_ (fun h₀ ns k => ?_) Y.co Y.gen Y.kind
  · intro z hz
    rcases List.mem_cons.mp hz with rfl | hz
    · exact Y.k0
    · rcases List.mem_cons.mp hz with rfl | hz
      · exact Y.k1
      · cases hz
  have X0 : K.In h₀ := X.keeps k
  have N0 := Nm.keeps k
  have hx0 := k _ _ hx
  have nself : ¬ f = "self" := fun z => by have := Y.nself; rw [z] at this; exact absurd this (by decide)
  have hs : (fun x_1 : Str => List.lookup x_1 [(("self" : Str), Value.ref x), (f, v)].reverse) "self" = some (.ref x) := by
    show List.lookup ("self" : Str) [(f, v), ("self", Value.ref x)] = _
    have z : (("self" : Str) == f) = false := by
      rw [beq_eq_false_iff_ne]
      exact fun q => nself q.symm
    simp [List.lookup, z]
  have hf : (fun x_1 : Str => List.lookup x_1 [(("self" : Str), Value.ref x), (f, v)].reverse) f = some v := by
    show List.lookup f [(f, v), ("self", Value.ref x)] = _
    simp [List.lookup]
  obtain ⟨hi, hw, hw2, pl, he⟩ := ht hp.objs.size fI cc cda
  subst eb
  have nL : x ≠ hp.objs.size := Nat.ne_of_lt (Heap.lt_size hx)
  show PySem.wpAt (model P w) (A.deeper (ksEnv qn sc hp.objs.size fI (.ref cda) cc)) (.func _ (ksEnv qn sc hp.objs.size fI (.ref cda) cc)) (execs _ (ksEnv qn sc hp.objs.size fI (.ref cda) cc)) _ _ _
  refine ks_wpAt_execs_cons (sup_stmt T X0 N0 hx0 ns (by rw [ea0]; exact hs) hp0 Y.ks Y.kc (by rw [ea0]; exact Y.k0) Y.kind hi hw he fun h1 t1 tk1 k1 e1 => ?_)
  have nsL : h1.Ns hp.objs.size (fun x_1 : Str => List.lookup x_1 [(("self" : Str), Value.ref x), (f, v)].reverse) := ns.at fun o z => k1 _ _ (Ne.symm nL) z
  show PySem.wpAt _ _ _ _ _ _ _
  refine PySem.wpAt_of_wpAny ?_
  refine wpAny_execs_cons (plainObj_wpAny_Assign_Attribute ?_ hw2)
  refine wpAny_Name (wpAny_loadName_local Y.kind Y.k1 nsL hf ?_) Y.ndbg
  refine wpAny_Name (wpAny_loadName_local Y.kind Y.k0 nsL hs ?_) (by decide)
  have X1 : K.In h1 := fun a o z => k1 a o (fun q => by
    rw [q, nx] at z
    cases z) (X0 a o z)
  have big : hp.objs.size < h1.objs.size := nsL.lt
  refine sto_new T X1 e1 no fun h' tk' dx k2 dn de e2 e3 => ?_
  refine wpAny_execs_nil ?_
  refine hq h' tk' t1 dx (fun b o hb z => k2 b o hb (k1 b o hb (k b o z))) e2 (Nat.le_trans (Nat.le_of_lt big) dn) de e3
theorem init2 {x t0 : Addr} {v v2 : Value} (T : ErrC P K mg nm qn ps bd sc C fI cc cda) (Y : Txt2 qn f f2 msg ps bd sc) (no : findIn K (.ref C) f = some none) (no2 : findIn K (.ref C) f2 = some none) (X : K.In hp) (lim : hp.NoLimit) (Nm : Names0 mg hp) (hx : hp.get? x = some (excO C t0)) (nx : K.lookup x = none) (room : A.depth < recursionLimit)
    (hq : ∀ h' tk' t1 dx, (∀ b o, b ≠ x → hp.get? b = some o → h'.get? b = some o) → h'.get? x = some { cls := .ref C, dict := some dx, data := .fields #[.ref t1, .none, .none, .none, .bool false, .none] } → hp.objs.size ≤ dx → dx ≠ x →
      h'.Ns1 dx (fun y => if y = f2 then some v2 else if y = f then some v else none) → R (.ok (.ret .none)) ⟨h', g, d, tk', os⟩) : codeAny (model P w) A (.call (.ref fI) ⟨[.ref x, v, v2], []⟩) R ⟨hp, g, d, tk, os⟩ := by
  obtain ⟨oc, od, kV, doc, pm, an, ct, osl, lf, cdi⟩ := T.fn
  obtain ⟨p0, p1, p2, p3, p4, p5, q1, q2, q3, q4, r1, r2, r3, r4, j, a0, eb, hp0, ea0, ht⟩ := Y.ex
  refine ks_codeAny_call_defAt (s := ⟨hp, g, d, tk, os⟩) (fd := errFd qn ps bd sc cc kV doc pm an (.ref cda) ct) (binds := [(("self" : Str), .ref x), (f, v), (f2, v2)]) room (X _ _ lf) rfl lim (codeRec_of X cdi) rfl (BindsTo.of_eq (Y.bind cc kV doc pm an (.ref cda) ct _ _ _)) Y.cells ?_ (fun h₀ ns k => ?_) Y.co Y.gen Y.kind
  · intro z hz
    rcases List.mem_cons.mp hz with rfl | hz
    · exact Y.k0
    · rcases List.mem_cons.mp hz with rfl | hz
      · exact Y.k1
      · rcases List.mem_cons.mp hz with rfl | hz
        · exact Y.k2
        · cases hz
  have X0 : K.In h₀ := X.keeps k
  have N0 := Nm.keeps k
  have hx0 := k _ _ hx
  have ns1 : (("self" : Str) == f) = false := by
    rw [beq_eq_false_iff_ne]
    exact fun q => absurd Y.nself (by rw [← q]; decide)
  have ns2 : (("self" : Str) == f2) = false := by
    rw [beq_eq_false_iff_ne]
    exact fun q => absurd Y.nself2 (by rw [← q]; decide)
  have hs : (fun x_1 : Str => List.lookup x_1 [(("self" : Str), Value.ref x), (f, v), (f2, v2)].reverse) "self" = some (.ref x) := by
    show List.lookup ("self" : Str) [(f2, v2), (f, v), ("self", Value.ref x)] = _
    simp [List.lookup, ns1, ns2]
  have hf : (fun x_1 : Str => List.lookup x_1 [(("self" : Str), Value.ref x), (f, v), (f2, v2)].reverse) f = some v := by
    show List.lookup f [(f2, v2), (f, v), ("self", Value.ref x)] = _
    simp [List.lookup, Y.nff]
  have hf2 : (fun x_1 : Str => List.lookup x_1 [(("self" : Str), Value.ref x), (f, v), (f2, v2)].reverse) f2 = some v2 := by
    show List.lookup f2 [(f2, v2), (f, v), ("self", Value.ref x)] = _
    simp [List.lookup]
  obtain ⟨hi, hw, hw2, hw3, pl, he⟩ := ht hp.objs.size fI cc cda
  subst eb
  have nL : x ≠ hp.objs.size := Nat.ne_of_lt (Heap.lt_size hx)
  show PySem.wpAt (model P w) (A.deeper (ksEnv qn sc hp.objs.size fI (.ref cda) cc)) (.func _ (ksEnv qn sc hp.objs.size fI (.ref cda) cc)) (execs _ (ksEnv qn sc hp.objs.size fI (.ref cda) cc)) _ _ _
  refine ks_wpAt_execs_cons (sup_stmt T X0 N0 hx0 ns (by rw [ea0]; exact hs) hp0 Y.ks Y.kc (by rw [ea0]; exact Y.k0) Y.kind hi hw he fun h1 t1 tk1 k1 e1 => ?_)
  have nsL : h1.Ns hp.objs.size (fun x_1 : Str => List.lookup x_1 [(("self" : Str), Value.ref x), (f, v), (f2, v2)].reverse) := ns.at fun o z => k1 _ _ (Ne.symm nL) z
  show PySem.wpAt _ _ _ _ _ _ _
  refine PySem.wpAt_of_wpAny ?_
  refine wpAny_execs_cons (plainObj_wpAny_Assign_Attribute ?_ hw2)
  refine wpAny_Name (wpAny_loadName_local Y.kind Y.k1 nsL hf ?_) Y.ndbg
  refine wpAny_Name (wpAny_loadName_local Y.kind Y.k0 nsL hs ?_) (by decide)
  have X1 : K.In h1 := fun a o z => k1 a o (fun q => by
    rw [q, nx] at z
    cases z) (X0 a o z)
  have big : hp.objs.size < h1.objs.size := nsL.lt
  refine sto_new T X1 e1 no fun h2 tk2 dx kk dn de e2 e3 => ?_
  have X2 : K.In h2 := fun a o z => kk a o (fun q => by
    rw [q, nx] at z
    cases z) (X1 a o z)
  have nsL2 : h2.Ns hp.objs.size (fun x_1 : Str => List.lookup x_1 [(("self" : Str), Value.ref x), (f, v), (f2, v2)].reverse) := nsL.at fun o z => kk _ _ (Ne.symm nL) z
  show wpAny _ _ (execs _ _) _ _ _
  refine wpAny_execs_cons (plainObj_wpAny_Assign_Attribute ?_ hw3)
  refine wpAny_Name (wpAny_loadName_local Y.kind Y.k2 nsL2 hf2 ?_) Y.ndbg2
  refine wpAny_Name (wpAny_loadName_local Y.kind Y.k0 nsL2 hs ?_) (by decide)
  have nd : ∀ b o, hp.get? b = some o → b ≠ dx := fun b o z => Nat.ne_of_lt (Nat.lt_of_lt_of_le (Heap.lt_size z) (Nat.le_trans (Nat.le_of_lt big) dn))
  refine sto_old T X2 e2 e3 no2 fun h' tk' k3 e4 => ?_
  refine wpAny_execs_nil ?_
  exact hq h' tk' t1 dx (fun b o hb z => k3 b o (nd b o z) (kk b o hb (k1 b o hb (k b o z)))) (k3 _ _ (Ne.symm de) e2) (Nat.le_trans (Nat.le_of_lt big) dn) de e4
/-- C(v, ..): from what __init__ does -/
theorem made_of {us : List Value} {m : Str → Option Value} (T : ErrC P K mg nm qn ps bd sc C fI cc cda) (X : K.In hp) (lim : hp.NoLimit) (Nm : Names0 mg hp) (hz : us.length ≤ sizeLine)
    (ini : ∀ (A' : Around) (hp' : Heap) (x t0 : Addr) (R' : Result → Shared → Prop), K.In hp' → hp'.NoLimit → Names0 mg hp' → hp'.get? x = some (excO C t0) → K.lookup x = none → A'.depth < recursionLimit →
      (∀ h' tk' t1 dx, (∀ b o, b ≠ x → hp'.get? b = some o → h'.get? b = some o) → h'.get? x = some { cls := .ref C, dict := some dx, data := .fields #[.ref t1, .none, .none, .none, .bool false, .none] } → hp'.objs.size ≤ dx → dx ≠ x →
        h'.Ns1 dx m → R' (.ok (.ret .none)) ⟨h', g, d, tk', os⟩) → codeAny (model P w) A' (.call (.ref fI) ⟨.ref x :: us, []⟩) R' ⟨hp', g, d, tk, os⟩)
    (room : A.depth + 1 < recursionLimit) (hq : ∀ h' tk' e dx, Made hp h' e C dx m → R (.ok (.ret (.ref e))) ⟨h', g, d, tk', os⟩) : codeAny (model P w) A (.call (.ref C) ⟨us, []⟩) R ⟨hp, g, d, tk, os⟩ := by
  obtain ⟨n1, q, N, bs, bm, sn, sub, ab, col, dd, k0, k1, k2, k3, k5, lC, vm, ai⟩ := T.cls
  have k : ∀ b o, hp.get? b = some o → ((hp.push (kdv_tup us)).push (excO C hp.objs.size)).get? b = some o := fun b o z => Heap.get?_push_of_some _ (Heap.get?_push_of_some _ z)
  have hx : ((hp.push (kdv_tup us)).push (excO C hp.objs.size)).get? (hp.objs.size + 1) = some (excO C hp.objs.size) := by heap_get
  have nx : K.lookup (hp.objs.size + 1) = none := by
    cases z : K.lookup (hp.objs.size + 1) with
    | none => rfl
    | some o => exact absurd (Nat.lt_of_succ_lt (Heap.lt_size (X _ _ z))) (Nat.lt_irrefl _)
  refine call_own F.excBase_ValueError (fun Y => refsVE_contains Y bm vm) (X _ _ lC) (looks_findIn X T.iC) (fun self => bind_fn X self T.tC) hz ?_
  refine ini _ _ _ _ _ (X.keeps k) (lim.keeps k) (Nm.keeps k) hx nx (by show A.depth + 1 < recursionLimit; exact room) fun h' tk' t1 dx kk e1 dn de ns => ⟨rfl, ?_⟩
  have sz : ((hp.push (kdv_tup us)).push (excO C hp.objs.size)).objs.size = hp.objs.size + 1 + 1 := by rw [Heap.size_push, Heap.size_push]
  rw [sz] at dn
  exact hq h' tk' _ dx ⟨fun b o z => kk b o (Nat.ne_of_lt (Nat.lt_succ_of_lt (Heap.lt_size z))) (k b o z), Nat.le_succ _, ⟨_, _, e1, rfl, rfl, rfl, rfl⟩, Nat.le_trans (Nat.le_trans (Nat.le_succ _) (Nat.le_succ _)) dn, de, ns⟩
end
end FG
namespace FG
open PySem PySem.Spec PyProof.Rows L2
/-! own errors in the hand layer: making, raising -/
theorem relO1 {f : Str} {v : V} {u : Value} (r : RelV v u) (y : Str) : RelO (List.lookup y [(f, v)]) (if y = f then some u else none) := by
  by_cases h : y = f
  · subst h
    simp [List.lookup, RelO, r]
  · have z : (y == f) = false := by simpa using h
    simp [List.lookup, z, h, RelO]
theorem relO2 {f f2 : Str} {v v2 : V} {u u2 : Value} (nf : (f == f2) = false) (r : RelV v u) (r2 : RelV v2 u2) (y : Str) : RelO (List.lookup y [(f, v), (f2, v2)]) (if y = f2 then some u2 else if y = f then some u else none) := by
  by_cases h2 : y = f2
  · subst h2
    have z : (y == f) = false := by
      rw [beq_eq_false_iff_ne] at nf ⊢
      exact fun q => nf q.symm
    simp [List.lookup, z, RelO, r2]
  · have z2 : (y == f2) = false := by simpa using h2
    by_cases h : y = f
    · subst h
      simp [List.lookup, RelO, r, h2]
    · have z : (y == f) = false := by simpa using h
      simp [List.lookup, z, z2, h, h2, RelO]
section
variable {X : Cx} {nm qn f f2 msg : Str} {ps : Arguments} {bd : List Stmt} {sc : Scope} {C fI cc cda : Addr} {a a2 : Expr} {ta tb : TE} {p pos : Pos} {k : Nat}
/-- what making such an error does to the state: e is new, its own dict d is tracked from now on -/
theorem mkp_of {pins : List (Addr × Obj)} {σ : L2.St} {H1 : Hp} {Q : XK} {hp h' : Heap} {g : Array GenState} {dr : Drawn} {tk tk' : Nat} {os : OsState} {e d : Addr} {m : Str → Option Value} {fs : List (Str × V)}
    (T : ErrC X.prog X.K X.mg nm qn ps bd sc C fI cc cda) (I1 : Inv X pins σ H1 ⟨hp, g, dr, tk, os⟩) (M : Made hp h' e C d m) (rel : ∀ y, RelO (fs.lookup y) (m y))
    (q1 : ∀ d, H1 d = none → Q (.ref C) (some d) (upd H1 d (.xd fs))) : MkP X pins σ Q (.ref e) ⟨h', g, dr, tk', os⟩ := by
  obtain ⟨oe, fv, hoe, hc, hd, hdat, h1⟩ := M.obj
  have hns := M.ns
  obtain ⟨G', g1, g2⟩ := restrict h' fun b => decide (b ≠ e)
  have gk : ∀ b, b ≠ e → G'.get? b = h'.get? b := fun b hb => g1 b (decide_eq_true hb)
  have ge : G'.get? e = none := g2 e (by simp)
  have old : ∀ b o, hp.get? b = some o → G'.get? b = some o := fun b o z => (gk b (Nat.ne_of_lt (Nat.lt_of_lt_of_le (Heap.lt_size z) M.new))).trans (M.keep b o z)
  have ob : ObjOk X.prog X.w (upd H1 d (.xd fs)) G' d (.xd fs) := ⟨_, hns.at (fun o z => (gk d M.dne).trans z), rel⟩
  have J : Inv X pins σ (upd H1 d (.xd fs)) ⟨G', g, dr, tk', os⟩ := I1.laid (t' := tk') old M.dbig ob
  refine ⟨e, oe, fv, ⟨G', g, dr, tk', os⟩, _, .ref C, some d, rfl, J, fun b o z => ?_, ge, hoe, ⟨hc, hd⟩, hdat, h1, ?_, rfl, I1.bare, raises_own T.exC T.tyC, q1 d (I1.hok.fresh M.dbig)⟩
  · have nb : b ≠ e := fun y => by
      have z' : G'.get? b = some o := z
      rw [y, ge] at z'
      cases z'
    exact (gk b nb).symm.trans z
  · rw [upd_ne (Ne.symm M.dne)]
    exact I1.hok.fresh M.new
theorem names_of {pins : List (Addr × Obj)} {σ : L2.St} {H : Hp} {s : Shared} (I : Inv X pins σ H s) : Names0 X.mg s.heap := by
  obtain ⟨mb, b1, b2⟩ := I.mod.blt
  exact ⟨I.mod.glob.keeps I.bk, mb, b1.keeps I.bk, b2⟩
/-- C(e) -/
def tMk1 (C : Addr) (f : Str) (ta : TA) : L2.St → Hp → XK → Prop := fun σ H Q => ta σ H fun vs H1 => ∃ v, vs = [v] ∧ ∀ d, H1 d = none → Q (.ref C) (some d) (upd H1 d (.xd [(f, v)]))
/-- C(e, e2) -/
def tMk2 (C : Addr) (f f2 : Str) (ta : TA) : L2.St → Hp → XK → Prop := fun σ H Q => ta σ H fun vs H1 => ∃ v v2, vs = [v, v2] ∧ ∀ d, H1 d = none → Q (.ref C) (some d) (upd H1 d (.xd [(f, v), (f2, v2)]))
theorem pmk1 {as : List Expr} {ta : TA} (T : ErrC X.prog X.K X.mg nm qn ps bd sc C fI cc cda) (Y : Txt1 qn f msg ps bd sc) (no : PySem.W.findIn X.K (.ref C) f = some none) (hr : Room k X.A) (ha : PA X (a :: as) ta) (hg : Gl X nm := by rfl) (hdb : (nm == ("__debug__" : Str)) = false := by decide)
    (he : starEach (a :: as) X.env = (false, eval a X.env) :: starEach as X.env := by rfl) (hpl : (backTo pos (starEach as X.env)).any (·.1) = false := by rfl) : PMk X (.Call (.Name nm p) (a :: as) [] pos) (tMk1 C f ta) := by
  intro pins s σ H Q I h
  refine wpAny_Call_Name_kw (ld_glob I hg T.gC ?_ hdb)
  refine PySem.W.callWith_K (h₀ := X.base) I.ok.mod.kin T.kC (thn (ha.run pos pins s σ H _ I h) fun us s1 ⟨vs, H1, I1, r1, v, ev, q1⟩ => ⟨I1.kIn, ?_⟩) he hpl
  subst ev
  have Nm := names_of I1
  have lim := I1.nolimit
  have KI := I1.kIn
  cases r1 with
  | @cons _ u1 _ ur rv rn =>
    cases rn
    obtain ⟨hp, g, dr, tk, os⟩ := s1
    exact wpAny_call (made_of (m := fun y => if y = f then some u1 else none) T KI lim Nm (ve_len _) (fun A' hp' x t0 R' x1 x2 x3 x4 x5 x6 x7 => init1 T Y no x1 x2 x3 x4 x5 x6 x7) (by have := hr.dp; omega) fun h' tk' e d M => mkp_of T I1 M (relO1 rv) q1)
theorem two_len (v v' : Value) : [v, v'].length ≤ sizeLine := by
  show 2 ≤ sizeLine
  decide
theorem pmk2 {as : List Expr} {ta : TA} (T : ErrC X.prog X.K X.mg nm qn ps bd sc C fI cc cda) (Y : Txt2 qn f f2 msg ps bd sc) (no : PySem.W.findIn X.K (.ref C) f = some none) (no2 : PySem.W.findIn X.K (.ref C) f2 = some none) (hr : Room k X.A) (ha : PA X (a :: as) ta) (hg : Gl X nm := by rfl) (hdb : (nm == ("__debug__" : Str)) = false := by decide)
    (he : starEach (a :: as) X.env = (false, eval a X.env) :: starEach as X.env := by rfl) (hpl : (backTo pos (starEach as X.env)).any (·.1) = false := by rfl) : PMk X (.Call (.Name nm p) (a :: as) [] pos) (tMk2 C f f2 ta) := by
  intro pins s σ H Q I h
  refine wpAny_Call_Name_kw (ld_glob I hg T.gC ?_ hdb)
  refine PySem.W.callWith_K (h₀ := X.base) I.ok.mod.kin T.kC (thn (ha.run pos pins s σ H _ I h) fun us s1 ⟨vs, H1, I1, r1, v, v2, ev, q1⟩ => ⟨I1.kIn, ?_⟩) he hpl
  subst ev
  have Nm := names_of I1
  have lim := I1.nolimit
  have KI := I1.kIn
  cases r1 with
  | @cons _ u1 _ ur rv rn =>
    cases rn with
    | @cons _ u2 _ ur2 rv2 rn2 =>
      cases rn2
      obtain ⟨hp, g, dr, tk, os⟩ := s1
      exact wpAny_call (made_of (m := fun y => if y = f2 then some u2 else if y = f then some u1 else none) T KI lim Nm (two_len _ _) (fun A' hp' x t0 R' x1 x2 x3 x4 x5 x6 x7 => init2 T Y no no2 x1 x2 x3 x4 x5 x6 x7) (by have := hr.dp; omega) fun h' tk' e d M => mkp_of T I1 M (relO2 Y.nff rv rv2) q1)
theorem xfC_of (T : ErrC X.prog X.K X.mg nm qn ps bd sc C fI cc cda) : XfC X.K C := ⟨T.ga, T.gg, T.exC, T.hdC⟩
end
end FG
namespace FG
open PySem PySem.Spec L2
/-! further rules of the hand layer -/
section
variable {X : Cx}
/-- // by any divisor but 0 below 2 ^ 9000 in size -/
def CDivX (_ j : Int) : Prop := j ≠ 0 ∧ j.natAbs.log2 < 9000
theorem op_fdivX : OpR X (binaryOp .FloorDiv) (rI CDivX fun i j => .int (i.fdiv j)) := opI fun i j _ _ _ _ _ hc q => PyProof.Rows.floordiv_int hc.1 q (.inl (PyProof.noPylong_of_log2 hc.2))
end
theorem divX {i j : Int} {b : Nat} (h : j ≠ 0) (hb : j.natAbs < 2 ^ b) (h0 : 0 < b) (h9 : b ≤ 9000) : CDivX i j := ⟨h, Nat.lt_of_lt_of_le (PySem.Flt.log2_lt_of h0 hb) h9⟩
/-! ### calls that may raise, wished for at the caller's slots -/
section
variable {X : Cx} {CX : CXT} {k : Nat} {f C : Addr} {fd : FuncData} {ps : List Str} {sp : Sp} {dvs : List V} {ds : List Value} {E : L2.St → XK} {x m : Str} {p pos apos : Pos} {e o : Expr} {es : List Expr} {ta : TE} {t : TA}
/-- C(..), its __init__ may raise -/
def tMkS (C : Addr) (sp : Sp) (dvs : List V) (E : L2.St → XK) (t : TA) : TE := fun σ H Q => t σ H fun vs H1 => ∀ z dz, H1 z = none → H1 dz = none → dz ≠ z →
  sp (.ref z :: (vs ++ dvs)) (upd (upd H1 dz (.own z)) z (.ins C dz [])) (fun v H2 => v = .non ∧ Q (.ref z) H2) (E σ)
theorem mkS_run {pins : List (Addr × Obj)} {σ : L2.St} {H : Hp} {s : Shared} {Q : VK} {us : List Value} {vs : List V} (M : Mk X.K C f) (F : FnOk X.prog X.w X.K X.mg X.base CX k f fd ps sp) (hr : Room (k + 1) X.A) (hb : Binds X.K fd ps ds) (hd : Vals dvs ds)
    (hx : PassesAt CX X σ (E σ)) (I : Inv X pins σ H s) (r : Vals vs us)
    (h : ∀ z dz, H z = none → H dz = none → dz ≠ z → sp (.ref z :: (vs ++ dvs)) (upd (upd H dz (.own z)) z (.ins C dz [])) (fun v H2 => v = .non ∧ Q (.ref z) H2) (E σ)) :
    wpAny (model X.prog X.w) X.A (call (.ref C) us) (EP X pins σ Q) X.xe s := by
  have J := Inv.made (C := C) I
  have q0 := h _ _ (I.hok.fresh (Nat.le_succ s.heap.objs.size)) (I.hok.fresh (Nat.le_refl _)) (Nat.ne_of_lt (Nat.lt_succ_self _))
  have rr : Vals (V.ref (s.heap.objs.size + 1) :: (vs ++ dvs)) (Value.ref (s.heap.objs.size + 1) :: (us ++ ds)) := .cons rfl (r.append hd)
  have ln : (Value.ref (s.heap.objs.size + 1) :: us ++ ds).length = ps.length := rr.length.symm.trans (F.len _ _ _ _ q0)
  have go := F.run _ X.stack _ _ ⟨Value.ref (s.heap.objs.size + 1) :: us, []⟩ _ _ _ (E σ) (hr.make C us []) (J.env0.make C us []) (hb _ (Value.ref (s.heap.objs.size + 1) :: us) J.kIn ln) rr q0
  refine wpAny_call (make_map (f := f) I.kIn M.makes M.init (beq_iff_eq.mp M.fn) (codeAny_mono go fun res s' z => ?_))
  match res, z with
  | .error er, z => exact hx pins _ _ er s' J z
  | .ok (.ret u), z =>
    obtain ⟨v, H2, J2, rv, ev, q2⟩ := J.after z
    subst ev
    exact ⟨rv, ⟨V.ref (s.heap.objs.size + 1), H2, J2, rfl, q2⟩⟩
  | .ok .next, z => exact False.elim z
  | .ok .brk, z => exact False.elim z
  | .ok .cont, z => exact False.elim z
theorem pe_mkS (M : Mk X.K C f) (F : FnOk X.prog X.w X.K X.mg X.base CX k f fd ps sp) (hr : Room (k + 1) X.A) (hg : Gl X x) (hm : X.mg x = some (.ref C)) (hb : Binds X.K fd ps ds) (hd : Vals dvs ds) (hx : ∀ σ, PassesAt CX X σ (E σ)) (ha : PA X (e :: es) t)
    (hdb : (x == ("__debug__" : Str)) = false := by decide) (he : starEach (e :: es) X.env = (false, eval e X.env) :: starEach es X.env := by rfl) (hpl : (backTo pos (starEach es X.env)).any (·.1) = false := by rfl) :
    PE X (.Call (.Name x p) (e :: es) [] pos) (tMkS C sp dvs E t) := ⟨fun pins s σ H Q I h => wpAny_Call_Name_kw (ld_glob I hg hm (PySem.W.callWith_K (h₀ := X.base) I.ok.mod.kin M.kp (thn (ha.run pos pins s σ H _ I h) fun us s1 ⟨vs, H1, I1, r, q⟩ => ⟨I1.kIn, mkS_run M F hr hb hd (hx σ) I1 r q⟩) he hpl) hdb)⟩
/-- o.m(e, ..) that may raise -/
def tMtS (C : Addr) (m : Str) (sp : Sp) (dvs : List V) (E : L2.St → XK) (ta : TE) (t : TA) : TE := fun σ H Q => ta σ H fun y H1 => ∃ a dx fs, y = .ref a ∧ H1 a = some (.ins C dx fs) ∧ fs.lookup m = none ∧ t σ H1 fun vs H2 => sp (.ref a :: (vs ++ dvs)) H2 Q (E σ)
theorem pe_mtS {pl : Sem Bool} (he : PE X o ta) (c : Cls X.K C) (hm : Meth X.K C m f) (F : FnOk X.prog X.w X.K X.mg X.base CX k f fd ps sp) (hr : Room k X.A) (hb : Binds X.K fd ps ds) (hd : Vals dvs ds) (hx : ∀ σ, PassesAt CX X σ (E σ)) (ha : PA X (e :: es) t)
    (hst : starEach (e :: es) X.env = (false, eval e X.env) :: starEach es X.env := by rfl) (hpl : (backTo pos (starEach es X.env)).any (·.1) = false := by rfl)
    (ht : eval (.Call (.Attribute o m apos) (e :: es) [] pos) X.env = (do
      let ov ← eval o X.env
      standAt apos.atName
      let (fn, first) ← holding [ov] (getMethod ov m pl)
      callWith pos fn first (backTo pos (starEach (e :: es) X.env)) (backToKw pos (keywordEach [] X.env))) := by rfl) :
    PE X (.Call (.Attribute o m apos) (e :: es) [] pos) (tMtS C m sp dvs E ta t) := by
  refine ⟨fun pins s σ H Q I h => PySem.W.methodCall_KW (pl := pl) (thn (he.run pins s σ H _ I h) fun u s1 ⟨y, H1, I1, ry, a, dx, fs, ey, ea, l, q⟩ => ?_) ht⟩
  subst ey
  cases (show u = Value.ref a from ry)
  refine getmeth_ok I1 ea c hm l (PySem.W.callWith_K (first := [.ref a]) (h₀ := X.base) I.ok.mod.kin hm.kp (thn (ha.run pos pins s1 σ H1 _ I1 q) fun us s2 ⟨vs, H2, I2, r, q2⟩ => ⟨I2.kIn, ?_⟩) hst hpl)
  exact run_fnSD (us := .ref a :: us) (vs := .ref a :: vs) F hr hb hd (hx σ) I2 (.cons rfl r) q2
theorem pe_mt0S {pl : Sem Bool} (he : PE X o ta) (c : Cls X.K C) (hm : Meth X.K C m f) (F : FnOk X.prog X.w X.K X.mg X.base CX k f fd ps sp) (hr : Room k X.A) (hb : Binds X.K fd ps ds) (hd : Vals dvs ds) (hx : ∀ σ, PassesAt CX X σ (E σ))
    (ht : eval (.Call (.Attribute o m apos) [] [] pos) X.env = (do
      let ov ← eval o X.env
      standAt apos.atName
      let (fn, first) ← holding [ov] (getMethod ov m pl)
      callWith pos fn first (backTo pos (starEach [] X.env)) (backToKw pos (keywordEach [] X.env))) := by rfl) :
    PE X (.Call (.Attribute o m apos) [] [] pos) (tMtS C m sp dvs E ta tNil) := by
  refine ⟨fun pins s σ H Q I h => PySem.W.methodCall_KW (pl := pl) (thn (he.run pins s σ H _ I h) fun u s1 ⟨y, H1, I1, ry, a, dx, fs, ey, ea, l, q⟩ => ?_) ht⟩
  subst ey
  cases (show u = Value.ref a from ry)
  exact getmeth_ok I1 ea c hm l (PySem.W.callWith_K0 (first := [.ref a]) I1.kIn hm.kp (run_fnSD (us := [.ref a]) (vs := [.ref a]) F hr hb hd (hx σ) I1 (.cons rfl .nil) q))
end
/-! ### isinstance of the caught error -/
/-- isinstance(e, c): e the error at a that the suite holds, cls its class, d its dict -/
def rIsX (K : PySem.W.Frag) (a : Addr) (cls : Value) (d : Option Addr) : List V → Hp → VK → Prop := fun xs H Q => ∃ (c : V) (cv : Value) (D dd : Addr) (fs : List (Str × V)) (b : Bool), xs = [.ref a, c] ∧ ClsV c cv ∧ cls = .ref D ∧ ExcC K D ∧ d = some dd ∧ H dd = some (.xd fs) ∧ PySem.W.kitOne K (.ref D) cv = some b ∧ Q (.bl b) H
theorem call_isX {X : Cx} {a : Addr} {cls : Value} {d : Option Addr} {oe : Obj} {pn : List (Addr × Obj)} (hz : Zc cls d oe) (hf : ∃ vs, oe.data = .fields vs) : CallR (X.suite a ((a, oe) :: pn)) (.builtin "isinstance") (rIsX X.K a cls d) := by
  intro pins s σ H xs us Q I r h
  obtain ⟨c, cv, D, dd, fs, b, rfl, hc, rfl, C, rfl, hx, e, q⟩ := h
  obtain ⟨u1, u2, rfl, r1, r2⟩ := vals2 r
  cases (show u1 = Value.ref a from r1)
  have e2 := hc.eq r2
  subst e2
  obtain ⟨hget, _⟩ := I.pin (a, oe) (List.mem_append_left _ List.mem_cons_self)
  obtain ⟨vs, hv⟩ := hf
  obtain ⟨mA, hns, _⟩ := (show ObjOk X.prog X.w H s.heap dd (.xd fs) from I.hok dd _ hx)
  obtain ⟨od, ho, _⟩ := lookIn_ns hns
  have J : PySem.W.InstAt s.heap a oe D (some od) := ⟨hget, hz.1, by unfold PySem.W.notCls; rw [hv] <;> rfl, by rw [hz.2]; exact ho⟩
  obtain ⟨cd, hcd, _⟩ := PySem.W.any_some C.hd
  have Z : PySem.W.KitX X.K (.ref a) (.ref D) (fun h => PySem.W.InstAt h a oe D (some od)) := PySem.W.kitx_exc (by rw [hcd]; rfl) C.hg C.hk C.hs C.ha C.hn C.ht C.hm
  exact PySem.W.kia_one Z I.kIn J e (fun z => nomatch z) fun tk => ⟨.bl b, H, I.kept (t' := tk) fun _ _ z => z, rfl, q⟩
end FG
namespace FG
open PySem PySem.Spec L2
/-! ### loops, by names -/
def ForR (lo : Int) (n : Nat) (g : TG) (tb : TS) (D : Ends) (σ : L2.St) (H : Hp) : Prop := ∃ W : Nat → Nat → L2.St → Hp → Prop, (∃ m, W 0 m σ H) ∧ ∀ i m σ H, W i m σ H →
  ((Itr lo n).stop i H ∧ D.nx σ H) ∨ ((Itr lo n).go i H ∧ ∃ N : L2.St → Hp → Prop, (∀ σ' H', N σ' H' → ∃ m', m' < m ∧ W (i + 1) m' σ' H') ∧ ∀ x H', (Itr lo n).yld i H x H' → g x σ H' fun σ2 H2 => tb { D with nx := N, ct := N, bk := D.nx } σ2 H2)
def ForL (K : PySem.W.Frag) (a : Addr) (g : TG) (tb : TS) (D : Ends) (σ : L2.St) (H : Hp) : Prop := ∃ W : Nat → Nat → L2.St → Hp → Prop, (∃ m, W 0 m σ H) ∧ ∀ i m σ H, W i m σ H →
  ((Itl K a).stop i H ∧ D.nx σ H) ∨ ((Itl K a).go i H ∧ ∃ N : L2.St → Hp → Prop, (∀ σ' H', N σ' H' → ∃ m', m' < m ∧ W (i + 1) m' σ' H') ∧ ∀ x H', (Itl K a).yld i H x H' → g x σ H' fun σ2 H2 => tb { D with nx := N, ct := N, bk := D.nx } σ2 H2)
section
variable {K : PySem.W.Frag} {σ : L2.St} {H : Hp} {D : Ends} {g : TG} {tb : TS} {tar : TA} {tl : TE}
theorem w_forR1 (k : tar σ H fun vs H1 => ∃ j : Int, vs = [.int j] ∧ -(2 ^ 62) ≤ j ∧ j < 2 ^ 62 ∧ ForR 0 j.toNat g tb D σ H1) : tFor (iRng1 tar) g tb D σ H := k
theorem w_forR2 (k : tar σ H fun vs H1 => ∃ i j : Int, vs = [.int i, .int j] ∧ (-(2 ^ 62) ≤ i ∧ i < 2 ^ 62 ∧ -(2 ^ 62) ≤ j ∧ j < 2 ^ 62) ∧ ForR i (j - i).toNat g tb D σ H1) : tFor (iRng2 tar) g tb D σ H := k
theorem w_forL (k : tl σ H fun x H1 => ∃ a, x = .ref a ∧ (∃ xs, SqL K H1 a xs) ∧ ForL K a g tb D σ H1) : tFor (iList K tl) g tb D σ H := k
/-- the turns of a range, by what holds between them -/
theorem turnsR {lo : Int} {n : Nat} (Pv : Nat → L2.St → Hp → Prop) (h0 : Pv 0 σ H) (hs : ∀ (i : Nat) σ H, i < n → Pv i σ H → g (.int (lo + i)) σ H fun σ2 H2 => tb { D with nx := Pv (i + 1), ct := Pv (i + 1), bk := D.nx } σ2 H2) (hd : ∀ σ H, Pv n σ H → D.nx σ H) : ForR lo n g tb D σ H := for_range Pv h0 hs hd
theorem turnsL {a : Addr} {xs : List V} (Pv : Nat → L2.St → Hp → Prop) (h0 : Pv 0 σ H) (hl : ∀ i σ H, i ≤ xs.length → Pv i σ H → SqL K H a xs) (hs : ∀ (i : Nat) x σ H, xs[i]? = some x → Pv i σ H → g x σ H fun σ2 H2 => tb { D with nx := Pv (i + 1), ct := Pv (i + 1), bk := D.nx } σ2 H2) (hd : ∀ σ H, Pv xs.length σ H → D.nx σ H) : ForL K a g tb D σ H := for_list Pv h0 hl hs hd
end
/-! ### readings of built-ins by names -/
def rAbs : List V → Hp → VK → Prop := fun xs H Q => ∃ i, xs = [.int i] ∧ Q (.int (if i < 0 then -i else i)) H
def rInt1 : List V → Hp → VK → Prop := fun xs H Q => (∃ i, xs = [.int i] ∧ Q (.int i) H) ∨ ∃ k, xs = [.bl k] ∧ Q (.int (if k then 1 else 0)) H
def rLenQ (K : PySem.W.Frag) : List V → Hp → VK → Prop := fun xs H Q => ∃ p ys, xs = [.ref p] ∧ (SqL K H p ys ∨ SqT K H p ys) ∧ Q (.int ys.length) H
def rLenX : List V → Hp → VK → Prop := fun xs H Q => ∃ z : Str, xs = [.str z] ∧ z.length ≤ sizeLine ∧ Q (.int z.length) H
def rListQ (K : PySem.W.Frag) : List V → Hp → VK → Prop := fun xs H Q => ∃ p ys, xs = [.ref p] ∧ (SqL K H p ys ∨ SqT K H p ys) ∧ ∀ l, H l = none → Q (.ref l) (upd H l (.lst ys))
def rMin2 : List V → Hp → VK → Prop := fun xs H Q => ∃ i j, xs = [.int i, .int j] ∧ Q (.int (if j < i then j else i)) H
def rMax2 : List V → Hp → VK → Prop := fun xs H Q => ∃ i j, xs = [.int i, .int j] ∧ Q (.int (if j > i then j else i)) H
def rIsNo : R2 := fun x y H Q => y = .non ∧ Q (.bl (decide (x = .non))) H
def rNotNo : R2 := fun x y H Q => y = .non ∧ Q (.bl (!decide (x = .non))) H
def rAddStr : R2 := fun x y H Q => ∃ i j : Str, x = .str i ∧ y = .str j ∧ i.length + j.length ≤ sizeLine ∧ Q (.str (i ++ j)) H
def rStrI : List V → Hp → VK → Prop := fun xs H Q => ∃ i : Int, xs = [.int i] ∧ i.natAbs.log2 < 1920 ∧ Q (.str (toString i)) H
def rIntS : List V → Hp → VK → Prop := fun xs H Q => ∃ (a : Str) (n : Int), xs = [.str a] ∧ PySem.intText? a = some n ∧ a.length ≤ 640 ∧ Q (.int n) H
section
variable {X : Cx}
theorem qc_abs : CallR X (.builtin "abs") rAbs := call_abs
theorem qc_int1 : CallR X (.type "int") rInt1 := call_int1
theorem qc_len : CallR X (.builtin "len") (rLenQ X.K) := call_len_seq
theorem qc_lenX : CallR X (.builtin "len") rLenX := call_len_str
theorem qc_list : CallR X (.type "list") (rListQ X.K) := call_list_of
theorem qc_min2 (hc : X.calm = true) : CallR X (.builtin "min") rMin2 := call_min2 hc
theorem qc_max2 (hc : X.calm = true) : CallR X (.builtin "max") rMax2 := call_max2 hc
theorem qo_isN : OpR X (compareOp .Is) rIsNo := op_isN
theorem qo_notN : OpR X (compareOp .IsNot) rNotNo := op_notN
theorem qo_addS : OpR X (binaryOp .Add) rAddStr := op_add_str
theorem qc_strI : CallR X (.type "str") rStrI := call_str_int
theorem qc_intS : CallR X (.type "int") rIntS := call_int_str
end
/-! ### stepping through a reading: one lemma a construct -/
section
variable {K : PySem.W.Frag} {σ σ' : L2.St} {H : Hp} {Q : VK} {D : Ends} {ta tb te tc : TE} {tt tu : TT} {t u : TS} {tar : TA} {v x y : V} {i : Nat} {g : TG} {r r' : R2} {QB : Bool → Hp → Prop} {QA : List V → Hp → Prop} {QS : L2.St → Hp → Prop}
theorem w_var (h : σ[i]? = some (some v)) (k : Q v H) : tVar i σ H Q := ⟨v, h, k⟩
theorem w_c (k : Q v H) : tC v σ H Q := k
theorem w_op (k : ta σ H fun x H1 => tb σ H1 fun y H2 => r x y H2 Q) : tOp r ta tb σ H Q := k
theorem w_un {r1 : V → Hp → VK → Prop} (k : ta σ H fun x H1 => r1 x H1 Q) : tUn r1 ta σ H Q := k
theorem w_U {g : Int → V} {i : Int} (k : Q (g i) H) : rU g (.int i) H Q := ⟨i, rfl, k⟩
theorem w_I0 {g : Int → Int → V} {i j : Int} (k : Q (g i j) H) : rI0 g (.int i) (.int j) H Q := ⟨i, j, rfl, rfl, k⟩
theorem w_I {C : Int → Int → Prop} {g : Int → Int → V} {i j : Int} (c : C i j) (k : Q (g i j) H) : rI C g (.int i) (.int j) H Q := ⟨i, j, rfl, rfl, c, k⟩
theorem w_eq (c : scal x y = true) (k : Q (.bl (decide (x = y))) H) : rEq x y H Q := ⟨c, k⟩
theorem w_ne (c : scal x y = true) (k : Q (.bl (!decide (x = y))) H) : rNe x y H Q := ⟨c, k⟩
theorem w_test (k : te σ H fun z H1 => ∃ b, z = .bl b ∧ QB b H1) : tTest te σ H QB := k
theorem w_tB (k : te σ H fun z H1 => ∃ b, z = .bl b ∧ QB b H1) : tB te σ H QB := k
theorem w_bl {b : Bool} (k : QB b H) : ∃ b', V.bl b = .bl b' ∧ QB b' H := ⟨b, rfl, k⟩
theorem w_blE {b : Bool} {P : Bool → Prop} (k : P b) : ∃ b', V.bl b = .bl b' ∧ P b' := ⟨b, rfl, k⟩
theorem w_and (k : tt σ H fun c H1 => if c = true then tu σ H1 QB else QB false H1) : tAnd tt tu σ H QB := k
theorem w_or (k : tt σ H fun c H1 => if c = true then QB true H1 else tu σ H1 QB) : tOr tt tu σ H QB := k
theorem w_not (k : tt σ H fun c H1 => QB (!c) H1) : tNot tt σ H QB := k
theorem w_andV (k : ta σ H fun x H1 => ∃ c, x = .bl c ∧ if c = true then tb σ H1 Q else Q (.bl false) H1) : tAndV ta tb σ H Q := k
theorem w_orV (k : ta σ H fun x H1 => ∃ c, x = .bl c ∧ if c = true then Q (.bl true) H1 else tb σ H1 Q) : tOrV ta tb σ H Q := k
theorem w_notV (k : ta σ H fun x H1 => ∃ c, x = .bl c ∧ Q (.bl (!c)) H1) : tNotV ta σ H Q := k
theorem w_if (k : tt σ H fun c H1 => if c = true then ta σ H1 Q else tb σ H1 Q) : tIf tt ta tb σ H Q := k
theorem w_nil (k : QA [] H) : tNil σ H QA := k
theorem w_cons (k : ta σ H fun x H1 => tar σ H1 fun xs H2 => QA (x :: xs) H2) : tCons ta tar σ H QA := k
theorem w_tup (k : tar σ H fun xs H1 => xs.length ≤ sizeLine ∧ ∀ p, H1 p = none → Q (.ref p) (upd H1 p (.tup xs))) : tTup tar σ H Q := k
theorem w_lst (k : tar σ H fun xs H1 => xs.length ≤ sizeLine ∧ ∀ p, H1 p = none → Q (.ref p) (upd H1 p (.lst xs))) : tLst tar σ H Q := k
theorem w_cb {r : List V → Hp → VK → Prop} (k : tar σ H fun vs H1 => r vs H1 Q) : tCB r tar σ H Q := k
theorem w_call {sp : Sp} {dvs : List V} {E : XK} (k : tar σ H fun vs H1 => sp (vs ++ dvs) H1 Q E) : tCall sp dvs E tar σ H Q := k
theorem w_callSD {sp : Sp} {dvs : List V} {E : L2.St → XK} (k : tar σ H fun vs H1 => sp (vs ++ dvs) H1 Q (E σ)) : tCallSD sp dvs E tar σ H Q := k
theorem w_callS {sp : Sp} {E : L2.St → XK} (k : tar σ H fun vs H1 => sp vs H1 Q (E σ)) : tCallS sp E tar σ H Q := k
theorem w_meth {C : Addr} {m : Str} {sp : Sp} {dvs : List V} {E : XK} (k : ta σ H fun x H1 => ∃ a dx fs, x = .ref a ∧ H1 a = some (.ins C dx fs) ∧ fs.lookup m = none ∧ tar σ H1 fun vs H2 => sp (x :: (vs ++ dvs)) H2 Q E) : tMeth C m sp dvs E ta tar σ H Q := k
theorem w_chain (k : ta σ H fun x H1 => tb σ H1 fun y H2 => r x y H2 fun z H3 => ∃ k, z = .bl k ∧ (if k = true then tc σ H3 fun w' H4 => r' y w' H4 Q else Q (.bl false) H3)) : tChain r r' ta tb tc σ H Q := k
/-- statements -/
theorem w_seq (k : t { D with nx := u D } σ H) : tSeq t u D σ H := k
theorem w_next (k : D.nx σ H) : tNext D σ H := k
theorem w_drop (k : te σ H fun _ H1 => D.nx σ H1) : tDrop te D σ H := k
theorem w_ret (k : te σ H D.rt) : tRet te D σ H := k
theorem w_retN (k : D.rt .non H) : tRetN D σ H := k
theorem w_ifs (k : tt σ H fun b H1 => if b = true then t D σ H1 else u D σ H1) : tIfS tt t u D σ H := k
theorem w_asg (k : te σ H fun x H1 => g x σ H1 D.nx) : tAsg te g D σ H := k
theorem w_gname (e : σ.set i (some v) = σ') (k : QS σ' H) : gName i v σ H QS := by
  subst e
  exact k
theorem w_par {j : Nat} (k : tar σ H fun vs H1 => ∃ v w, vs = [v, w] ∧ D.nx ((σ.set i (some v)).set j (some w)) H1) : tPar i j tar D σ H := k
theorem w_ix {p : Addr} {xs : List V} {i : Int} (h : SqL K H p xs) (e : atI xs i = some v) (k : Q v H) : rIxL K (.ref p) (.int i) H Q := ⟨p, xs, i, v, rfl, rfl, h, e, k⟩
theorem w_ixT {p : Addr} {xs : List V} {i : Int} (h : SqT K H p xs) (e : atI xs i = some v) (k : Q v H) : rIxT K (.ref p) (.int i) H Q := ⟨p, xs, i, v, rfl, rfl, h, e, k⟩
theorem w_gsub {to ti : TE} {s : TSet} (k : to σ H fun o H1 => ti σ H1 fun i H2 => s o i v H2 fun H3 => QS σ H3) : gSub to ti s v σ H QS := k
theorem w_setL {p : Addr} {xs : List V} {k : Int} {j : Nat} {P : Hp → Prop} (h : H p = some (.lst xs)) (e : ixN xs.length k = some j) (q : P (upd H p (.lst (xs.set j v)))) : rSetL (.ref p) (.int k) v H P := ⟨p, xs, k, j, rfl, rfl, h, e, q⟩
theorem w_fld {f : Str} (k : ta σ H fun x H1 => ∃ a C dx fs v, x = .ref a ∧ H1 a = some (.ins C dx fs) ∧ Cls K C ∧ NoAttr K C f ∧ fs.lookup f = some v ∧ Q v H1) : tFld K ta f σ H Q := k
theorem w_sfld {f : Str} (k : tb σ H fun y H1 => ta σ H1 fun x H2 => ∃ a C dx fs, x = .ref a ∧ H2 a = some (.ins C dx fs) ∧ Cls K C ∧ NoAttr K C f ∧ fs.length < 1000 ∧ D.nx σ (upd H2 a (.ins C dx (putF f y fs)))) : sFld K ta tb f D σ H := k
theorem w_sl {r : V → Option Int → Option Int → Hp → VK → Prop} {tl th : TO} (k : te σ H fun x H1 => tl σ H1 fun l H2 => th σ H2 fun u H3 => r x l u H3 Q) : tSl r te tl th σ H Q := k
theorem w_nopart {QO : Option Int → Hp → Prop} (k : QO none H) : tNoPart σ H QO := k
theorem w_part {QO : Option Int → Hp → Prop} (k : te σ H fun x H1 => ∃ i, x = .int i ∧ QO (some i) H1) : tPart te σ H QO := k
theorem w_exI {P : Int → Prop} {i : Int} (k : P i) : ∃ i', V.int i = .int i' ∧ P i' := ⟨i, rfl, k⟩
theorem w_exR {P : Addr → Prop} {p : Addr} (k : P p) : ∃ a, V.ref p = .ref a ∧ P a := ⟨p, rfl, k⟩
theorem w_slL {p : Addr} {xs : List V} {lo hi : Option Int} (h : SqL K H p xs) (k : ∀ q, H q = none → Q (.ref q) (upd H q (.lst (cutV xs lo hi)))) : rSlL K (.ref p) lo hi H Q := ⟨p, xs, rfl, h, k⟩
theorem w_mks {C : Addr} {sp : Sp} {dvs : List V} {E : L2.St → XK} (k : tar σ H fun vs H1 => ∀ z dz, H1 z = none → H1 dz = none → dz ≠ z → sp (.ref z :: (vs ++ dvs)) (upd (upd H1 dz (.own z)) z (.ins C dz [])) (fun v H2 => v = .non ∧ Q (.ref z) H2) (E σ)) : tMkS C sp dvs E tar σ H Q := k
theorem w_abs {i : Int} (k : Q (.int (if i < 0 then -i else i)) H) : rAbs [.int i] H Q := ⟨i, rfl, k⟩
theorem w_int1 {i : Int} (k : Q (.int i) H) : rInt1 [.int i] H Q := .inl ⟨i, rfl, k⟩
theorem w_isi {c : V} {t' u' : Value} {b : Bool} (h1 : ClsV c u') (h2 : TyX K H x t') (h3 : PySem.W.kitOne K t' u' = some b) (k : Q (.bl b) H) : rIsi K [x, c] H Q := ⟨x, c, t', u', b, rfl, h1, h2, h3, k⟩
theorem w_lenS {p : Addr} {xs : List V} (h : SqL K H p xs) (k : Q (.int xs.length) H) : rLenQ K [.ref p] H Q := ⟨p, xs, rfl, .inl h, k⟩
theorem w_lenT {p : Addr} {xs : List V} (h : SqT K H p xs) (k : Q (.int xs.length) H) : rLenQ K [.ref p] H Q := ⟨p, xs, rfl, .inr h, k⟩
theorem w_lenX {z : Str} (h : z.length ≤ sizeLine) (k : Q (.int z.length) H) : rLenX [.str z] H Q := ⟨z, rfl, h, k⟩
theorem w_listS {p : Addr} {xs : List V} (h : SqL K H p xs) (k : ∀ l, H l = none → Q (.ref l) (upd H l (.lst xs))) : rListQ K [.ref p] H Q := ⟨p, xs, rfl, .inl h, k⟩
theorem w_min2 {i j : Int} (k : Q (.int (if j < i then j else i)) H) : rMin2 [.int i, .int j] H Q := ⟨i, j, rfl, k⟩
theorem w_max2 {i j : Int} (k : Q (.int (if j > i then j else i)) H) : rMax2 [.int i, .int j] H Q := ⟨i, j, rfl, k⟩
theorem w_isN (k : Q (.bl (decide (x = .non))) H) : rIsNo x .non H Q := ⟨rfl, k⟩
theorem w_notN (k : Q (.bl (!decide (x = .non))) H) : rNotNo x .non H Q := ⟨rfl, k⟩
theorem w_addS {i j : Str} (h : i.length + j.length ≤ sizeLine) (k : Q (.str (i ++ j)) H) : rAddStr (.str i) (.str j) H Q := ⟨i, j, rfl, rfl, h, k⟩
theorem w_strI {i : Int} (h : i.natAbs.log2 < 1920) (k : Q (.str (toString i)) H) : rStrI [.int i] H Q := ⟨i, rfl, h, k⟩
theorem w_intS {z : Str} {n : Int} (h : PySem.intText? z = some n) (h2 : z.length ≤ 640) (k : Q (.int n) H) : rIntS [.str z] H Q := ⟨z, n, rfl, h, h2, k⟩
end
/-- raise, by a name -/
def tRs (W : WX) (t : L2.St → Hp → XK → Prop) : TS := fun _ σ H => t σ H fun cls d H' => W cls d σ H'
theorem ps_rs {X : Cx} {W : WX} {e : Expr} {t : L2.St → Hp → XK → Prop} {pos : Pos} (hc : X.calm = true) (tk : Takes X W) (he : PMk X e t) : PS X (.Raise (some e) none pos) (tRs W t) := ps_raise hc tk he
section
variable {σ : L2.St} {H : Hp} {D : Ends} {W : WX} {t : L2.St → Hp → XK → Prop} {QX : XK} {ta tb : TE} {C : Addr} {f f2 : Str}
theorem w_rs (k : t σ H fun cls d H' => W cls d σ H') : tRs W t D σ H := k
theorem w_mk1 (k : ta σ H fun x H1 => ∃ v, [x] = [v] ∧ ∀ d, H1 d = none → QX (.ref C) (some d) (upd H1 d (.xd [(f, v)]))) : tMk1 C f (tCons ta tNil) σ H QX := k
theorem w_mk2 (k : ta σ H fun x H1 => tb σ H1 fun y H2 => ∃ v v2, [x, y] = [v, v2] ∧ ∀ d, H2 d = none → QX (.ref C) (some d) (upd H2 d (.xd [(f, v), (f2, v2)]))) : tMk2 C f f2 (tCons ta (tCons tb tNil)) σ H QX := k
theorem w_one {x : V} {P : V → Prop} (k : P x) : ∃ v, [x] = [v] ∧ P v := ⟨x, rfl, k⟩
theorem w_two {x y : V} {P : V → V → Prop} (k : P x y) : ∃ v v2, [x, y] = [v, v2] ∧ P v v2 := ⟨x, y, rfl, k⟩
end
theorem it_pos {c A B : Prop} [Decidable c] (hc : c) (h : A) : if decide c = true then A else B := by
  rw [decide_eq_true hc]
  exact iteT h
theorem it_neg {c A B : Prop} [Decidable c] (hc : ¬ c) (h : B) : if decide c = true then A else B := by
  rw [decide_eq_false hc]
  exact iteF h
theorem it_dec {c A B : Prop} [Decidable c] (h1 : c → A) (h2 : ¬ c → B) : if decide c = true then A else B := by
  by_cases h : c
  · exact it_pos h (h1 h)
  · exact it_neg h (h2 h)
theorem it_npos {c A B : Prop} [Decidable c] (hc : c) (h : B) : if (!decide c) = true then A else B := by
  rw [decide_eq_true hc]
  exact iteF h
theorem it_nneg {c A B : Prop} [Decidable c] (hc : ¬ c) (h : A) : if (!decide c) = true then A else B := by
  rw [decide_eq_false hc]
  exact iteT h
theorem it_ndec {c A B : Prop} [Decidable c] (h1 : c → B) (h2 : ¬ c → A) : if (!decide c) = true then A else B := by
  by_cases h : c
  · exact it_npos h (h1 h)
  · exact it_nneg h (h2 h)
theorem iteNT {A B : Prop} (h : B) : if (!true) = true then A else B := iteF h
theorem iteNF {A B : Prop} (h : A) : if (!false) = true then A else B := iteT h
theorem it_b {b : Bool} {A B : Prop} (h1 : b = true → A) (h2 : b = false → B) : if b = true then A else B := by
  cases b
  · exact iteF (h2 rfl)
  · exact iteT (h1 rfl)
/-- heaps -/
theorem upd_old {H : Hp} {a p : Addr} {o u : HO} (h : H a = some o) (n : H p = none) : upd H p u a = some o := by
  rw [upd_ne (ne_of_none h n)]
  exact h
theorem Same.upd {H H' : Hp} {p : Addr} {o : HO} (s : Same H H') (n : H p = none) : Same H (upd H' p o) := fun b u e => by
  rw [upd_ne (ne_of_none e n)]
  exact s b u e
theorem Same.new {H : Hp} {p : Addr} {o : HO} (n : H p = none) : Same H (L2.upd H p o) := fun b u e => upd_old e n
theorem Same.fld {H H' : Hp} (s : Same H H') {p : Addr} (n : H' p = none) : H p = none := s.free n
/-- promises of defs of one to four parameters -/
def sp1 (f : V → Hp → VK → XK → Prop) : Sp := fun vs H Q E => ∃ x, vs = [x] ∧ f x H Q E
def sp2 (f : V → V → Hp → VK → XK → Prop) : Sp := fun vs H Q E => ∃ x y, vs = [x, y] ∧ f x y H Q E
def sp3 (f : V → V → V → Hp → VK → XK → Prop) : Sp := fun vs H Q E => ∃ x y z, vs = [x, y, z] ∧ f x y z H Q E
def sp4 (f : V → V → V → V → Hp → VK → XK → Prop) : Sp := fun vs H Q E => ∃ x y z w, vs = [x, y, z, w] ∧ f x y z w H Q E
theorem sp1_len {f} {vs H Q E} (h : sp1 f vs H Q E) : vs.length = 1 := by obtain ⟨_, rfl, _⟩ := h; rfl
theorem sp2_len {f} {vs H Q E} (h : sp2 f vs H Q E) : vs.length = 2 := by obtain ⟨_, _, rfl, _⟩ := h; rfl
theorem sp3_len {f} {vs H Q E} (h : sp3 f vs H Q E) : vs.length = 3 := by obtain ⟨_, _, _, rfl, _⟩ := h; rfl
theorem sp4_len {f} {vs H Q E} (h : sp4 f vs H Q E) : vs.length = 4 := by obtain ⟨_, _, _, _, rfl, _⟩ := h; rfl
end FG
namespace FG
open PySem PySem.Spec L2
/-- what a class must say so that isinstance asks its instances -/
structure InsC (K : PySem.W.Frag) (C : Addr) : Prop where
  ha : PySem.W.findIn K (.ref C) "__class__" = some (some (.builtin "object.__class__"))
  hn : PySem.W.specialIn K (.builtin "object.__class__") "__get__" = some (some (.builtin "getset_descriptor.__get__"))
  htk : PySem.W.takesIn K (.builtin "object.__class__") = some true
  hm : PySem.W.mroIn K C (.type "object") = some true
theorem ty_ins {K : PySem.W.Frag} {H : Hp} {a C dx : Addr} {fs : List (Str × V)} (e : H a = some (.ins C dx fs)) (c : Cls K C) (I : InsC K C) : TyX K H (.ref a) (.ref C) := .base (.ins e c I.ha I.hn I.htk I.hm)
theorem kit_self {K : PySem.W.Frag} {C : Addr} : PySem.W.kitOne K (.ref C) (.ref C) = some true := by
  unfold PySem.W.kitOne
  rw [if_pos (by simp)]
/-- the arguments of a def with defaults -/
theorem bindsD {K : PySem.W.Frag} {x qual : Str} {params : Arguments} {body : List Stmt} {scope : Scope} {tp f : Addr} {oc kV doc pm cd ct tc : Value} {an od td : Option Addr} {osl ts : Array (Option Value)} {its ds : List Value} {tn : Nat} {ps : List Str}
    (_l : K.lookup f = some ⟨oc, od, .func (PySem.W.fnOf x qual params body scope (.ref tp) kV doc pm an cd ct), osl⟩) (t : K.lookup tp = some ⟨tc, td, .seq its.toArray tn, ts⟩)
    (h : ∀ us : List Value, us.length + ds.length = ps.length → ∃ k, bindArgs (PySem.W.fnOf x qual params body scope (.ref tp) kV doc pm an cd ct) ⟨us, []⟩ = seqItems? (.ref tp) >>= k ∧ k (some its.toArray) = pure (ps.zip (us ++ ds))) :
    Binds K (PySem.W.fnOf x qual params body scope (.ref tp) kV doc pm an cd ct) ps ds := by
  intro s us X hl
  rw [List.length_append] at hl
  obtain ⟨k, e1, e2⟩ := h us hl
  refine BindsTo.of_looks fun M => ?_
  rw [e1]
  exact looks_items X t rfl (.of_pure e2)
/-- an item at a drawn place -/
theorem atI_mem {α : Type} {xs : List α} {r : Int} (h0 : 0 ≤ r) (h1 : r < xs.length) : ∃ v, atI xs r = some v ∧ v ∈ xs := by
  obtain ⟨j, rfl⟩ := Int.eq_ofNat_of_zero_le h0
  have hj : j < xs.length := Int.ofNat_lt.mp h1
  exact ⟨xs[j], atI_nat (List.getElem?_eq_getElem hj), List.getElem_mem hj⟩
theorem keep_of {H H' : Hp} {b c : Addr} {o : HO} (fr : ∀ c, c ≠ b → H' c = H c) (h : H c = some o) (n : c ≠ b) : H' c = some o := (fr c n).trans h
theorem small_mul {i j : Int} (hi : i.natAbs < 2 ^ 1000) (hj : j.natAbs < 2 ^ 1000) : CMulW i j := wide_mul hi hj (by decide) (by decide) (by decide)
theorem small_le {i : Int} {n : Nat} (h : i.natAbs < 2 ^ n) (hn : n ≤ 8000) : i.natAbs < 2 ^ 8000 := Nat.lt_of_lt_of_le h (Nat.pow_le_pow_right (by decide) hn)
theorem mul_small {i j : Int} (hi : i.natAbs < 2 ^ 1000) (hj : j.natAbs < 2 ^ 1000) : (i * j).natAbs < 2 ^ 8000 := small_le (wide_lt hi hj) (by decide)
end FG
namespace FG
open PySem PySem.W PySem.Calls
/-! operators of an own class: a + b, a + n, n + a, -a, abs(a) -/
section
variable {prog : Program} {w : World} {M : Model} {A : Around} {E : Value → Shared → Prop} {hp : Heap} {g : Array GenState} {d : Drawn} {tk : Nat} {os : OsState} {x C dx : Addr} {i : Int} {t : Tok} {P : PySem.Fin → Shared → Prop}
theorem decl_add (hx : hp.get? x = some (instObj C dx)) (hq : P (.done (.ret .notImplemented)) ⟨hp, g, d, tk, os⟩) : wpAny M A (Builtin.«int.__add__» ⟨[.int i t, .ref x], []⟩) P E ⟨hp, g, d, tk, os⟩ := by
  wp_walk
  exact hq
theorem decl_sub (hx : hp.get? x = some (instObj C dx)) (hq : P (.done (.ret .notImplemented)) ⟨hp, g, d, tk, os⟩) : wpAny M A (Builtin.«int.__sub__» ⟨[.int i t, .ref x], []⟩) P E ⟨hp, g, d, tk, os⟩ := by
  wp_walk
  exact hq
theorem decl_mul (hx : hp.get? x = some (instObj C dx)) (hq : P (.done (.ret .notImplemented)) ⟨hp, g, d, tk, os⟩) : wpAny M A (Builtin.«int.__mul__» ⟨[.int i t, .ref x], []⟩) P E ⟨hp, g, d, tk, os⟩ := by
  wp_walk
  exact hq
end
/-- what the written part says of a class's operator nm: the method at f, the turned one at r -/
structure OpC (K : Frag) (C : Addr) (nm : String) (f r : Addr) : Prop where
  hc : selfFirst K C = true
  hs : findIn K (.ref C) (PySem.dunder nm) = some (some (.ref f))
  hf : isFn K (.ref f) = true
  hr : findIn K (.ref C) (dunderR nm) = some (some (.ref r))
  hrf : isFn K (.ref r) = true
  h1 : ∃ fo, findIn K (.type "int") (PySem.dunder nm) = some fo
  h2 : ∃ ro, findIn K (.type "int") (dunderR nm) = some ro
  hsub : subIn K (.type "int") (.ref C) = some false
  hsubR : subIn K (.ref C) (.type "int") = some false
section
variable {prog : Program} {w : World} {A : Around} {E : Value → Shared → Prop} {K : Frag} {x C f r : Addr} {ox : Obj} {od : Option Obj} {i : Int} {t : Tok}
/-- n op a: the int declines, the turned method answers -/
theorem bin_intL {s : Shared} {op : Operator} {Q : Value → Shared → Prop} (X : K.In s.heap) (I : InstAt s.heap x ox C od) (O : OpC K C op.info.2 f r) (fi : fillsNumberSlot (.type "int") op.info.2 = pure true)
    (left : ∀ {Q' : Option Value → Shared → Prop}, Q' none s → wpAny (model prog w) A (tryMethod (.int i t) (PySem.dunder op.info.2) (.ref x)) Q' E s)
    (h : wpAny (model prog w) A (call (.ref r) [.ref x, .int i t]) (CmpBack Q) E s) : wpAny (model prog w) A (binaryOp op (.int i t) (.ref x)) Q E s := by
  obtain ⟨cd, rest, hcd, hm⟩ := ksp_first O.hc
  have hs := O.hs
  have hrr := O.hr
  rcases hi : op.info with ⟨sym, nm'⟩
  rw [hi] at hs hrr fi left
  dsimp only at hs hrr fi left
  have one := ksp_try X I hrr O.hrf h
  obtain ⟨hh, g, d, tt, os⟩ := s
  have L1 : Looks (model prog w) hh (typeOf (.int i t)) (.type "int") := Looks.of_pure rfl
  have L2 : Looks (model prog w) hh (typeOf (.ref x)) (.ref C) := I.type
  have L3 : Looks (model prog w) hh (fillsNumberSlot (.type "int") nm') true := Looks.of_pure fi
  have L4 : Looks (model prog w) hh (fillsNumberSlot (.ref C) nm') true := fills_K X hcd hm hs
  have L5 : Looks (model prog w) hh (isSubtype (.ref C) (.type "int")) false := looks_subIn X O.hsubR
  have L6 : Looks (model prog w) hh (numberSlotInPython (.type "int") nm') false := Looks.of_pure rfl
  have hne : (Value.type "int" == Value.ref C) = false := Bool.eq_false_iff.mpr fun q => by cases beq_iff_eq.mp q
  simp only [binaryOp, hi]
  refine wpAny_holding (wpAny_bind ?_)
  unfold binaryOp1
  refine wpAny_bind (L1.at (wpAny_bind (L2.at (wpAny_bind (L3.at ?_)))))
  simp only [hne, Bool.false_eq_true, if_false]
  refine wpAny_bind (L4.at ?_)
  simp only [Bool.and_self, if_true]
  refine wpAny_bind (L5.at ?_)
  simp only [Bool.false_eq_true, if_false, Bool.not_false, Bool.and_self, if_true]
  refine wpAny_bind (L6.at ?_)
  simp only [Bool.false_eq_true, if_false, if_true]
  refine wpAny_bind (left ?_)
  simp only [Bool.false_eq_true, if_false, if_true, Bool.and_self, Bool.not_false]
  refine wpAny_bind (wpAny_mono one (fun rv s' hr' => ?_) fun _ _ e => e)
  obtain ⟨v, rfl, hq⟩ := hr'
  exact wpAny_bind (wpAny_rule (wpAny_pure (wpAny_pure hq)))
end
end FG
namespace FG
open PySem PySem.Spec L2
theorem back_of {X : Cx} {pins : List (Addr × Obj)} {σ : L2.St} {Q : VK} {v : Value} {s : Shared} (h : EP X pins σ Q v s) : PySem.W.CmpBack (EP X pins σ Q) v s := by
  obtain ⟨y, H, I, r, q⟩ := id h
  cases v with
  | notImplemented =>
    exfalso
    cases y <;> first | exact nomatch (show Value.notImplemented = _ from r) | (obtain ⟨_, z⟩ := (show ∃ t, Value.notImplemented = _ from r); exact nomatch z)
  | _ => exact h
section
variable {X : Cx} {k : Nat} {C f r : Addr} {fd : FuncData} {ps : List Str} {sp : Sp} {op : Operator}
/-- a op y, a of the class C, y of the same class or an int -/
def rOwnB (C : Addr) (sp : Sp) : R2 := fun x y H Q => ∃ a dx fs, x = .ref a ∧ H a = some (.ins C dx fs) ∧ ((∃ i, y = .int i) ∨ ∃ b dy gs, y = .ref b ∧ H b = some (.ins C dy gs)) ∧ sp [.ref a, y] H Q E0
theorem op_ownB (O : OpC X.K C op.info.2 f r) (F : FnOk X.prog X.w X.K X.mg X.base CX0 k f fd ps sp) (hr : Room k X.A) (hb : Binds X.K fd ps []) : OpR X (binaryOp op) (rOwnB C sp) := by
  intro pins s σ H x y v u Q I rx ry h
  obtain ⟨a, dx, fs, rfl, ea, hy, q⟩ := h
  cases (show v = Value.ref a from rx)
  obtain ⟨mA, Ob, _⟩ := ins_get I.hok ea
  obtain ⟨od, J, _⟩ := Ob.look
  obtain ⟨m, fr⟩ := I.fr
  have go := wpAny_mono (run_fn (us := [.ref a, u]) (vs := [.ref a, y]) F hr hb .nil pass0 I (.cons rfl (.cons ry .nil)) q) (fun _ _ z => back_of z) fun _ _ z => z
  rcases hy with ⟨i, rfl⟩ | ⟨b, dy, gs, rfl, eb⟩
  · obtain ⟨t, rfl⟩ := ry
    obtain ⟨fo, h1⟩ := O.h1
    obtain ⟨ro, h2⟩ := O.h2
    exact PySem.W.ksp_binT fr I.ok.mod.kin J rfl O.hc O.hs O.hf O.hr (.inr ⟨_, rfl⟩) h1 h2 O.hsub go
  · cases (show u = Value.ref b from ry)
    obtain ⟨mB, Ob', _⟩ := ins_get I.hok eb
    obtain ⟨od', J', _⟩ := Ob'.look
    exact PySem.W.binop_K fr I.ok.mod.kin J J'.type O.hc O.hs O.hf go
/-- n op a -/
def rOwnR (C : Addr) (sp : Sp) : R2 := fun x y H Q => ∃ a dx fs i, x = .int i ∧ y = .ref a ∧ H a = some (.ins C dx fs) ∧ sp [.ref a, .int i] H Q E0
theorem op_ownR (O : OpC X.K C op.info.2 f r) (F : FnOk X.prog X.w X.K X.mg X.base CX0 k r fd ps sp) (hr : Room k X.A) (hb : Binds X.K fd ps []) (fi : fillsNumberSlot (.type "int") op.info.2 = pure true)
    (left : ∀ {x dx : Addr} {i : Int} {t : Tok} {s : Shared} {E : Value → Shared → Prop} {Q' : Option Value → Shared → Prop}, s.heap.get? x = some (PySem.W.instObj C dx) → Q' none s → wpAny (model X.prog X.w) X.A (tryMethod (.int i t) (PySem.dunder op.info.2) (.ref x)) Q' E s) :
    OpR X (binaryOp op) (rOwnR C sp) := by
  intro pins s σ H x y v u Q I rx ry h
  obtain ⟨a, dx, fs, i, rfl, rfl, ea, q⟩ := h
  cases (show u = Value.ref a from ry)
  obtain ⟨t, rfl⟩ := rx
  obtain ⟨_, _, _, eo, _⟩ := (show ObjOk X.prog X.w H s.heap a (.ins C dx fs) from I.hok a _ ea)
  obtain ⟨mA, Ob, _⟩ := ins_get I.hok ea
  obtain ⟨od, J, _⟩ := Ob.look
  have go := wpAny_mono (run_fn (us := [.ref a, .int i t]) (vs := [.ref a, .int i]) F hr hb .nil pass0 I (.cons rfl (.cons ⟨t, rfl⟩ .nil)) q) (fun _ _ z => back_of z) fun _ _ z => z
  exact bin_intL I.kIn J O fi (fun {Q'} z => left eo z) go
theorem left_add {x dx : Addr} {i : Int} {t : Tok} {s : Shared} {E : Value → Shared → Prop} {Q' : Option Value → Shared → Prop} (hx : s.heap.get? x = some (PySem.W.instObj C dx)) (hq : Q' none s) : wpAny (model X.prog X.w) X.A (tryMethod (.int i t) (PySem.dunder "add") (.ref x)) Q' E s := by
  obtain ⟨hp, g, d, tk, os⟩ := s
  have hT : Shared.TypeIs ⟨hp, g, d, tk, os⟩ (.int i t) "int" := typeIs_int _ i t
  refine @wpAny_tryMethod_declines _ _ _ ⟨hp, g, d, tk, os⟩ (.int i t) (.ref x) "int" (PySem.dunder "add") "int.__add__" _ hT F.slot_int_add ?_
  refine @wpAny_call_entry _ _ _ _ ⟨hp, g, d, tk, os⟩ "int" (PySem.dunder "add") "int.__add__" _ (.int i t) [.ref x] _ F.slot_int_add hT F.entry_int_add ?_ (F.args_int_add_2 _ _)
  exact decl_add hx ⟨_, rfl, rfl, hq⟩
theorem left_sub {x dx : Addr} {i : Int} {t : Tok} {s : Shared} {E : Value → Shared → Prop} {Q' : Option Value → Shared → Prop} (hx : s.heap.get? x = some (PySem.W.instObj C dx)) (hq : Q' none s) : wpAny (model X.prog X.w) X.A (tryMethod (.int i t) (PySem.dunder "sub") (.ref x)) Q' E s := by
  obtain ⟨hp, g, d, tk, os⟩ := s
  have hT : Shared.TypeIs ⟨hp, g, d, tk, os⟩ (.int i t) "int" := typeIs_int _ i t
  refine @wpAny_tryMethod_declines _ _ _ ⟨hp, g, d, tk, os⟩ (.int i t) (.ref x) "int" (PySem.dunder "sub") "int.__sub__" _ hT F.slot_int_sub ?_
  refine @wpAny_call_entry _ _ _ _ ⟨hp, g, d, tk, os⟩ "int" (PySem.dunder "sub") "int.__sub__" _ (.int i t) [.ref x] _ F.slot_int_sub hT F.entry_int_sub ?_ (F.args_int_sub_2 _ _)
  exact decl_sub hx ⟨_, rfl, rfl, hq⟩
theorem left_mul {x dx : Addr} {i : Int} {t : Tok} {s : Shared} {E : Value → Shared → Prop} {Q' : Option Value → Shared → Prop} (hx : s.heap.get? x = some (PySem.W.instObj C dx)) (hq : Q' none s) : wpAny (model X.prog X.w) X.A (tryMethod (.int i t) (PySem.dunder "mul") (.ref x)) Q' E s := by
  obtain ⟨hp, g, d, tk, os⟩ := s
  have hT : Shared.TypeIs ⟨hp, g, d, tk, os⟩ (.int i t) "int" := typeIs_int _ i t
  refine @wpAny_tryMethod_declines _ _ _ ⟨hp, g, d, tk, os⟩ (.int i t) (.ref x) "int" (PySem.dunder "mul") "int.__mul__" _ hT F.slot_int_mul ?_
  refine @wpAny_call_entry _ _ _ _ ⟨hp, g, d, tk, os⟩ "int" (PySem.dunder "mul") "int.__mul__" _ (.int i t) [.ref x] _ F.slot_int_mul hT F.entry_int_mul ?_ (F.args_int_mul_2 _ _)
  exact decl_mul hx ⟨_, rfl, rfl, hq⟩
/-- -a -/
def rOwnU (C : Addr) (sp : Sp) : V → Hp → VK → Prop := fun x H Q => ∃ a dx fs, x = .ref a ∧ H a = some (.ins C dx fs) ∧ sp [.ref a] H Q E0
theorem un_ownN (hs : PySem.W.findIn X.K (.ref C) "__neg__" = some (some (.ref f))) (hf : PySem.W.isFn X.K (.ref f) = true) (F : FnOk X.prog X.w X.K X.mg X.base CX0 k f fd ps sp) (hr : Room k X.A) (hb : Binds X.K fd ps []) : UnR X (unaryOp .USub) (rOwnU C sp) := by
  intro pins s σ H x v Q I rx h
  obtain ⟨a, dx, fs, rfl, ea, q⟩ := h
  cases (show v = Value.ref a from rx)
  obtain ⟨mA, Ob, _⟩ := ins_get I.hok ea
  obtain ⟨od, J, _⟩ := Ob.look
  obtain ⟨m, fr⟩ := I.fr
  exact PySem.W.ksp_neg fr I.ok.mod.kin J hs hf (run_fn (us := [.ref a]) (vs := [.ref a]) F hr hb .nil pass0 I (.cons rfl .nil) q)
/-- abs(a) -/
def rOwnA (C : Addr) (sp : Sp) : List V → Hp → VK → Prop := fun xs H Q => ∃ a dx fs, xs = [.ref a] ∧ H a = some (.ins C dx fs) ∧ sp [.ref a] H Q E0
theorem call_absO (hs : PySem.W.findIn X.K (.ref C) "__abs__" = some (some (.ref f))) (hf : PySem.W.isFn X.K (.ref f) = true) (F : FnOk X.prog X.w X.K X.mg X.base CX0 k f fd ps sp) (hr : Room (k + 1) X.A) (hb : Binds X.K fd ps []) : CallR X (.builtin "abs") (rOwnA C sp) := by
  intro pins s σ H xs us Q I r h
  obtain ⟨a, dx, fs, rfl, ea, q⟩ := h
  obtain ⟨u, rfl, r1⟩ := vals1 r
  cases (show u = Value.ref a from r1)
  obtain ⟨mA, Ob, _⟩ := ins_get I.hok ea
  obtain ⟨od, J, _⟩ := Ob.look
  refine Calls.call_function_entry PyProof.Rows.kind_abs PyProof.Rows.plain_abs PyProof.Rows.entry_abs (PyProof.Rows.args_abs _) ?_
  unfold Builtin.«abs»
  refine wpAny_bind (m := oneArg "abs" _) (wpAny_pure ?_)
  have hl : ([Value.ref a] ++ ([] : List Value)).length = ps.length := by
    rw [← F.len _ _ _ _ q]
    rfl
  have go := F.run X.A.in1 X.stack s H ⟨[.ref a], []⟩ [.ref a] [.ref a] Q E0 hr.in1 I.env0.in1 (hb _ [.ref a] I.kIn hl) (.cons rfl .nil) q
  refine wpAny_bind (PySem.W.special_fn I.kIn J hs (beq_iff_eq.mp hf) (wpAny_call (codeAny_mono go fun res s' z => ?_)))
  match res, z with
  | .error er, z => exact z.elim
  | .ok (.ret u), z => exact wpAny_pure ⟨_, rfl, I.after z⟩
  | .ok .next, z => exact False.elim z
  | .ok .brk, z => exact False.elim z
  | .ok .cont, z => exact False.elim z
end
end FG
namespace FG
open PySem PySem.Spec L2
/-! == of an own class, with both answers; the right side is of the class or an int -/
section
variable {X : Cx} {k : Nat} {C f : Addr} {fd : FuncData} {ps : List Str} {sp : Sp}
theorem op_ownE (hn : PySem.W.notFirst X.K C (.type "int") = true) (hs : PySem.W.findIn X.K (.ref C) "__eq__" = some (some (.ref f))) (hf : PySem.W.isFn X.K (.ref f) = true)
    (F : FnOk X.prog X.w X.K X.mg X.base CX0 k f fd ps sp) (hr : Room k X.A) (hb : Binds X.K fd ps []) : OpR X (compareOp .Eq) (rOwnB C sp) := by
  intro pins s σ H x y v u Q I rx ry h
  obtain ⟨a, dx, fs, rfl, ea, hy, q⟩ := h
  cases (show v = Value.ref a from rx)
  obtain ⟨mA, Ob, _⟩ := ins_get I.hok ea
  obtain ⟨od, J, _⟩ := Ob.look
  obtain ⟨m, fr⟩ := I.fr
  have go := wpAny_mono (run_fn (us := [.ref a, u]) (vs := [.ref a, y]) F hr hb .nil pass0 I (.cons rfl (.cons ry .nil)) q) (fun _ _ z => back_of z) fun _ _ z => z
  show wpAny (model X.prog X.w) X.A (richCompare .Eq (.ref a) u) (EP X pins σ Q) X.xe s
  rcases hy with ⟨i, rfl⟩ | ⟨b, dy, gs, rfl, eb⟩
  · obtain ⟨t, rfl⟩ := ry
    exact PySem.W.cmp_K (op := .Eq) (tb := .type "int") hr.units0 fr I.ok.mod.kin J (PySem.W.Looks.of_pure rfl) hn hs hf go
  · cases (show u = Value.ref b from ry)
    obtain ⟨mB, Ob', _⟩ := ins_get I.hok eb
    obtain ⟨od', J', _⟩ := Ob'.look
    exact PySem.W.cmp_K (op := .Eq) (tb := .ref C) hr.units0 fr I.ok.mod.kin J J'.type (by simp [PySem.W.notFirst]) hs hf go
end
end FG
namespace FG
open PySem PySem.Spec L2
/-! ## sorting: what is tracked, told as data; lists by their one sorted order -/
/-! ### the body (len(g), g) of a key, told exactly -/
section
variable {prog : Program} {w : World} {A : Around} {env : Env} {E : Value → Shared → Prop} {s : Shared}
theorem eval_rank {g z : Str} {t : Tok} {mL mG mB : Str → Option Value} {p1 p2 p3 p4 p5 : Pos} {x1} {Q : Value → Shared → Prop} (hk : env.scope.kind = .function) (hg : env.kindOf g = some .local) (hl : env.kindOf "len" = some .globalImplicit)
    (nL : s.heap.Ns env.locals mL) (eL : mL g = some (.str z t)) (nG : s.heap.Ns env.globals mG) (miss : mG "len" = none) (nB : s.heap.Ns env.builtins mB) (hb : mB "len" = some (.builtin "len")) (hz : z.length ≤ sizeLine) (hd : (g == ("__debug__" : Str)) = false)
    (q : ∀ (t' : Tok) (tk : Nat), Q (.ref s.heap.objs.size) { s with heap := s.heap.push { cls := .type "tuple", data := .seq #[.int z.length t', .str z t] }, toks := tk })
    (hs : starEach [Expr.Call (.Name "len" p1) [.Name g p2] [] p3, .Name g p4] env = [(false, eval (.Call (.Name "len" p1) [.Name g p2] [] p3) env), (false, eval (.Name g p4) env)] := by rfl) :
    wpAny (model prog w) A (eval (.Tuple [.Call (.Name "len" p1) [.Name g p2] [] p3, .Name g p4] x1 p5) env) Q E s := by
  have hn := line63
  refine wpAny_Tuple_spliced ?_
  rw [hs]
  refine Calls.spliced_cons ?_
  refine wpAny_Call_Name_kw (Calls.Name_function_global hk hl (Calls.loadGlobal_builtin nG miss nB hb ?_))
  refine PyProof.Rows.callWith_builtin1 (Calls.spliced_cons (wpAny_Name (wpAny_loadName_local hk hg nL eL ?_) hd))
  refine Calls.spliced_nil ?_
  refine PyProof.Rows.len_str (by omega) ?_
  refine Calls.spliced_cons (wpAny_Name (wpAny_loadName_local hk hg nL eL ?_) hd)
  refine Calls.spliced_nil ⟨?_, q _ _⟩
  show 2 ≤ sizeLine
  decide
end
/-! ### sorted, over what is tracked -/
theorem vals_each {β : Type} {toV : β → V} : ∀ {xs : List β} {us : List Value}, Vals (xs.map toV) us → PySem.W.EachIs (fun v b => RelV (toV b) v) us xs
  | [], _, .nil => .nil
  | _ :: _, _, .cons r t => .cons r (vals_each t)
theorem each_vals {β : Type} {toV : β → V} : ∀ {xs : List β} {us : List Value}, PySem.W.EachIs (fun v b => RelV (toV b) v) us xs → Vals (xs.map toV) us
  | _, _, .nil => .nil
  | _, _, .cons r t => .cons r (each_vals t)
section
variable {X : Cx} {pins : List (Addr × Obj)} {σ : L2.St} {H : Hp} {s : Shared}
theorem each_reads {β : Type} {toV : β → V} {enc : β → PyData} (I : Inv X pins σ H s) : ∀ {xs : List β} {us : List Value}, PySem.W.EachIs (fun v b => RelV (toV b) v) us xs → (∀ b ∈ xs, Dp X.K H (toV b) (enc b)) → PySem.W.EachIs (fun v b => ∃ as, Reads s.heap v (enc b) as) us xs
  | _, _, .nil, _ => .nil
  | _, _, .cons r t, h => .cons (Dp.reads I _ _ _ (h _ List.mem_cons_self) r) (each_reads I t fun b hb => h b (List.mem_cons_of_mem _ hb))
/-- sorted(xs): the items stand for xs, told by enc -/
theorem sort_run {β : Type} {toV : β → V} {enc : β → PyData} {a : Addr} {xs : List β} {Q : VK} (I : Inv X pins σ H s) (hs : SqL X.K H a (xs.map toV)) (hd : ∀ b ∈ xs, Dp X.K H (toV b) (enc b)) (al : PySem.W.AllAlike (xs.map enc)) (so : PySem.W.Sortable (xs.map enc))
    (dp : ∀ b ∈ xs, (enc b).depth ≤ 32) (hu : X.A.units + 64 < cLine) (q : ∀ p, H p = none → Q (.ref p) (upd H p (.lst ((xs.mergeSort (PySem.W.dataLe false enc)).map toV)))) :
    wpAny (model X.prog X.w) X.A (call (.builtin "sorted") [.ref a]) (EP X pins σ Q) X.xe s := by
  obtain ⟨its, rv, hl, hz⟩ := I.list hs
  have e := vals_each rv
  rw [List.length_map] at hz
  refine PySem.W.sorted_data hl.isList e (each_reads I e hd) al so hz (fun b hb => by have := dp b hb; omega) fun out hlen eo => ?_
  obtain ⟨ep, he⟩ := PyProof.Rows.sortedAll_at s.heap its out.toArray
  have hf : H (s.heap.objs.size + 1) = none := I.hok.fresh (Nat.le_succ _)
  refine ⟨.ref (s.heap.objs.size + 1), upd H (s.heap.objs.size + 1) (.lst ((xs.mergeSort (PySem.W.dataLe false enc)).map toV)), I.laid (t' := s.toks) (fun _ _ => PyProof.Rows.sortedAll_old) (Nat.le_succ _) ⟨?_, out, ep, each_vals eo, he⟩, rfl, q _ hf⟩
  rw [List.length_map, List.length_mergeSort]
  exact hz
end
/-- pairs of texts by their order -/
def pairLe (x y : Str × Str) : Bool := decide (x.1.cps.toList < y.1.cps.toList ∨ (x.1 = y.1 ∧ x.2.cps.toList ≤ y.2.cps.toList))
def strLe (x y : Str) : Bool := decide (x.cps.toList ≤ y.cps.toList)
/-- glyphs by their length, then by their name -/
def rankLe (x y : Str) : Bool := decide (x.length < y.length ∨ (x.length = y.length ∧ x.cps.toList ≤ y.cps.toList))
theorem str_ext {x y : Str} (h : x.cps.toList = y.cps.toList) : x = y := by
  cases x; cases y
  simp only [Str.mk.injEq]
  exact Array.ext' h
theorem le_or_lt (x y : List Nat) : x ≤ y ∨ y < x := by
  by_cases h : x ≤ y
  · exact .inl h
  · exact .inr (List.not_le.mp h)
theorem lt_or_eq {x y : List Nat} (h : x ≤ y) : x < y ∨ x = y := by
  by_cases c : y ≤ x
  · exact .inr (List.le_antisymm h c)
  · exact .inl (List.not_le.mp c)
theorem dataLt_ss (x y x' y' : Str) : PySem.W.dataLt (.tuple [.str x, .str y]) (.tuple [.str x', .str y']) = !pairLe (x', y') (x, y) := by
  rw [PySem.W.dataLt_pair (by simp [PySem.W.alike]) (by simp [PySem.W.alike]), PySem.W.dataLt_str, PySem.W.dataLt_str]
  simp only [PyData.eqv, beq_iff_eq, pairLe]
  by_cases h1 : x = x'
  · subst h1
    by_cases h2 : y = y'
    · subst h2
      simp [List.lt_irrefl, List.le_refl]
    · simp only [if_true, h2, if_false, List.lt_irrefl, false_or, true_and]
      by_cases h3 : y.cps.toList < y'.cps.toList
      · simp [h3, List.not_le.mpr h3]
      · have h4 : y'.cps.toList ≤ y.cps.toList := List.not_lt.mp h3
        simp [h3, h4]
  · have n : ¬ x' = x := fun z => h1 z.symm
    simp only [h1, if_false, n, false_and, or_false]
    by_cases h3 : x.cps.toList < x'.cps.toList
    · have h4 : ¬ x'.cps.toList < x.cps.toList := fun z => List.lt_irrefl _ (List.lt_trans h3 z)
      simp [h3, h4]
    · have h4 : x'.cps.toList < x.cps.toList := (lt_or_eq (List.not_lt.mp h3)).resolve_right fun z => n (str_ext z)
      simp [h3, h4]
theorem dataLe_ss {β : Type} (f : β → Str × Str) : PySem.W.dataLe false (fun b => .tuple [.str (f b).1, .str (f b).2]) = fun a b => pairLe (f a) (f b) := by
  funext a b
  show (!PySem.W.dataLt _ _) = _
  rw [dataLt_ss, Bool.not_not]
theorem dataLt_is (x y : Nat) (x' y' : Str) : PySem.W.dataLt (.tuple [.int x, .str x']) (.tuple [.int y, .str y']) = !decide (y < x ∨ (y = x ∧ y'.cps.toList ≤ x'.cps.toList)) := by
  rw [PySem.W.dataLt_pair (by simp [PySem.W.alike]) (by simp [PySem.W.alike]), PySem.W.dataLt_int, PySem.W.dataLt_str]
  simp only [PyData.eqv, beq_iff_eq]
  by_cases h1 : x = y
  · subst h1
    by_cases h2 : x' = y'
    · subst h2
      simp [List.lt_irrefl, List.le_refl]
    · simp only [if_true, h2, if_false, Nat.lt_irrefl, false_or, true_and]
      by_cases h3 : x'.cps.toList < y'.cps.toList
      · simp [h3, List.not_le.mpr h3]
      · simp [h3, List.not_lt.mp h3]
  · have n : ¬ y = x := fun z => h1 z.symm
    have n2 : ¬ (x : Int) = y := by omega
    simp only [n2, if_false, n, false_and, or_false]
    by_cases h3 : x < y
    · have : ¬ y < x := by omega
      have h4 : (x : Int) < y := by omega
      simp [h4, this]
    · have : y < x := by omega
      have h4 : ¬ (x : Int) < y := by omega
      simp [h4, this]
theorem dataLe_rank {β : Type} (f : β → Str) : PySem.W.dataLe false (fun b => .tuple [.int ((f b).length : Nat), .str (f b)]) = fun a b => rankLe (f a) (f b) := by
  funext a b
  show (!PySem.W.dataLt _ _) = _
  rw [dataLt_is, Bool.not_not]
  rfl
/-- sorted(xs), xs a list of pairs of texts -/
def rSortSS (K : PySem.W.Frag) : List V → Hp → VK → Prop := fun vs H Q => ∃ (a : Addr) (zs : List (Addr × Str × Str)), vs = [.ref a] ∧ SqL K H a (zs.map fun z => V.ref z.1) ∧ (∀ z ∈ zs, SqT K H z.1 [.str z.2.1, .str z.2.2]) ∧
  ∀ p, H p = none → Q (.ref p) (upd H p (.lst ((zs.mergeSort fun x y => pairLe x.2 y.2).map fun z => V.ref z.1)))
/-- sorted(xs), xs a list of texts, of any length -/
def rSortStr (K : PySem.W.Frag) : List V → Hp → VK → Prop := fun vs H Q => ∃ (a : Addr) (zs : List Str), vs = [.ref a] ∧ SqL K H a (zs.map V.str) ∧
  ∀ p, H p = none → Q (.ref p) (upd H p (.lst ((zs.mergeSort strLe).map V.str)))
/-- sorted(xs), xs a list of pairs (len(g), g) -/
def rSortIS (K : PySem.W.Frag) : List V → Hp → VK → Prop := fun vs H Q => ∃ (a : Addr) (zs : List (Addr × Str)), vs = [.ref a] ∧ SqL K H a (zs.map fun z => V.ref z.1) ∧ (∀ z ∈ zs, SqT K H z.1 [.int (z.2.length : Nat), .str z.2]) ∧
  ∀ p, H p = none → Q (.ref p) (upd H p (.lst ((zs.mergeSort fun x y => rankLe x.2 y.2).map fun z => V.ref z.1)))
section
variable {X : Cx}
theorem cr_sortSS (hu : X.A.units + 64 < cLine) : CallR X (.builtin "sorted") (rSortSS X.K) := by
  intro pins s σ H vs us Q I r h
  obtain ⟨a, zs, rfl, hs, hx, q⟩ := h
  obtain rfl := Vals.ref1 r
  refine sort_run (toV := fun z : Addr × Str × Str => V.ref z.1) (enc := fun z => .tuple [.str z.2.1, .str z.2.2]) I hs (fun z hz => .tup (hx z hz) (.cons (.str _) (.cons (.str _) .nil))) (PySem.W.AllAlike.of fun _ _ => by simp [PySem.W.alike, PySem.W.alikeAll]) (PySem.W.Sortable.tuples fun _ => ⟨_, _, rfl⟩)
    (fun _ _ => by simp [PyData.depth, PyData.depthAll]) hu fun p hp => ?_
  rw [dataLe_ss fun z : Addr × Str × Str => z.2]
  exact q p hp
theorem cr_sortStr (hu : X.A.units + 64 < cLine) : CallR X (.builtin "sorted") (rSortStr X.K) := by
  intro pins s σ H vs us Q I r h
  obtain ⟨a, zs, rfl, hs, q⟩ := h
  obtain rfl := Vals.ref1 r
  refine sort_run (toV := V.str) (enc := fun z => .str z) I hs (fun z hz => .str _) (PySem.W.AllAlike.of fun _ _ => by simp [PySem.W.alike]) (PySem.W.Sortable.others fun _ => ⟨(fun z => by cases z), (fun _ z => by cases z)⟩)
    (fun _ _ => by simp [PyData.depth]) hu fun p hp => ?_
  rw [PySem.W.dataLe_str fun z : Str => z]
  exact q p hp
theorem cr_sortIS (hu : X.A.units + 64 < cLine) : CallR X (.builtin "sorted") (rSortIS X.K) := by
  intro pins s σ H vs us Q I r h
  obtain ⟨a, zs, rfl, hs, hx, q⟩ := h
  obtain rfl := Vals.ref1 r
  refine sort_run (toV := fun z : Addr × Str => V.ref z.1) (enc := fun z => .tuple [.int (z.2.length : Nat), .str z.2]) I hs (fun z hz => .tup (hx z hz) (.cons (.int _) (.cons (.str _) .nil))) (PySem.W.AllAlike.of fun _ _ => by simp [PySem.W.alike, PySem.W.alikeAll]) (PySem.W.Sortable.tuples fun _ => ⟨_, _, rfl⟩)
    (fun _ _ => by simp [PyData.depth, PyData.depthAll]) hu fun p hp => ?_
  rw [dataLe_rank fun z : Addr × Str => z.2]
  exact q p hp
end
/-! ### a key that gives (len(g), g): a lambda, or a def -/
/-- the names of such a key's scope -/
structure RankS (g : Str) (scope : Scope) : Prop where
  kind : scope.kind = .function
  co : scope.isCoroutine = false
  gen : scope.isGenerator = false
  cell : ∀ y ∈ scope.names, y.2 ≠ .cell
  free : ∀ y ∈ scope.names, y.2 ≠ .free
  own : scope.names.lookup g = some .local
  len : scope.names.lookup ("len" : Str) = some .globalImplicit
  dbg : (g == ("__debug__" : Str)) = false
section
variable {prog : Program} {w : World} {A : Around} {s : Shared}
theorem rank_reads {h : Heap} {z : Str} {t t' : Tok} : Reads (h.push { cls := .type "tuple", data := .seq #[.int z.length t', .str z t] }) (.ref h.objs.size) (.tuple [.int (z.length : Nat), .str z]) [] :=
  .tuple (as := []) (Heap.get?_push_size _ rfl) rfl rfl (.cons (as := []) (bs := []) (.int _ _) (.cons (as := []) (bs := []) (.str _ _) .nil))
theorem lam_key {f c' : Addr} {q g z : Str} {t : Tok} {params : Arguments} {scope : Scope} {cl : List (Str × Addr)} {pm ctv : Value} {mG mB : Str → Option Value} {p1 p2 p3 p4 p5 : Pos} {x1} (L : RankS g scope) (hroom : A.depth < recursionLimit)
    (hf : s.heap.get? f = some (PySem.W.kla_obj "<lambda>" q params (.Tuple [.Call (.Name "len" p1) [.Name g p2] [] p3, .Name g p4] x1 p5) scope cl pm c' ctv)) (hc : s.heap.CodeRec (.ref c') q) (lim : s.heap.NoLimit)
    (hb : ∀ v, bindArgs (PySem.W.kla_fn "<lambda>" q params (.Tuple [.Call (.Name "len" p1) [.Name g p2] [] p3, .Name g p4] x1 p5) scope cl pm (.ref c') ctv) ⟨[v], []⟩ = pure [(g, v)])
    (nG : s.heap.Ns mainGlobals mG) (miss : mG "len" = none) (nB : s.heap.Ns builtinsNs mB) (hB : mB "len" = some (.builtin "len")) (hz : z.length ≤ sizeLine) :
    wpAny (model prog w) A (call (.ref f) [.str z t]) (PySem.W.KeyPure (.tuple [.int (z.length : Nat), .str z]) s) (fun _ _ => False) s := by
  refine wpAny_call (PySem.W.kla_callFunE hroom hf rfl L.co L.gen rfl hc ?_)
  rw [hb]
  refine wpAny_pure (wpAny_newFunctionEnv L.cell (fun y hy => ?_) (fun h₁ hns hsb => ⟨lim.fresh _ hsb, ?_⟩) L.kind)
  · rw [List.mem_singleton] at hy
    rw [hy]
    exact L.own
  have kp : ∀ b o, s.heap.get? b = some o → h₁.get? b = some o := fun b o e => hsb.extBut b o (Nat.ne_of_lt (Heap.lt_size e)) (Heap.get?_push_of_some _ e)
  refine PySem.W.kla_codeExpr ?_
  refine eval_rank (g := g) (z := z) (t := t) L.kind L.own L.len hns (by simp [List.lookup]) (nG.keeps kp) miss (nB.keeps kp) hB hz L.dbg fun t' tk => ?_
  exact ⟨_, tk, rfl, fun b o e => Heap.get?_push_of_some _ (kp b o e), rank_reads⟩
theorem def_key {f : Addr} {name q g z : Str} {t : Tok} {params : Arguments} {scope : Scope} {dV kV doc pm cdv ct oc : Value} {an od : Option Addr} {osl : Array (Option Value)} {mG mB : Str → Option Value} {p1 p2 p3 p4 p5 p6 : Pos} {x1} (L : RankS g scope) (hroom : A.depth < recursionLimit)
    (hf : s.heap.get? f = some ⟨oc, od, .func (PySem.W.fnOf name q params [.Return (some (.Tuple [.Call (.Name "len" p1) [.Name g p2] [] p3, .Name g p4] x1 p5)) p6] scope dV kV doc pm an cdv ct), osl⟩) (hc : s.heap.CodeRec cdv q) (lim : s.heap.NoLimit)
    (hb : ∀ v, BindsTo s (PySem.W.fnOf name q params [.Return (some (.Tuple [.Call (.Name "len" p1) [.Name g p2] [] p3, .Name g p4] x1 p5)) p6] scope dV kV doc pm an cdv ct) ⟨[v], []⟩ [(g, v)])
    (nG : s.heap.Ns mainGlobals mG) (miss : mG "len" = none) (nB : s.heap.Ns builtinsNs mB) (hB : mB "len" = some (.builtin "len")) (hz : z.length ≤ sizeLine) :
    wpAny (model prog w) A (call (.ref f) [.str z t]) (PySem.W.KeyPure (.tuple [.int (z.length : Nat), .str z]) s) (fun _ _ => False) s := by
  refine wpAny_call (codeAny_call_def (binds := [(g, .str z t)]) hroom hf rfl lim hc rfl (hb _) L.cell (fun y hy => ?_) (fun h₁ hns kp => ?_) L.co L.gen L.kind)
  · rw [List.mem_singleton] at hy
    rw [hy]
    exact L.own
  refine wpAny_execs_cons (wpAny_Return_some ?_)
  refine eval_rank (g := g) (z := z) (t := t) L.kind L.own L.len hns (by simp [List.lookup]) (nG.keeps kp) miss (nB.keeps kp) hB hz L.dbg fun t' tk => ?_
  exact ⟨_, tk, rfl, fun b o e => Heap.get?_push_of_some _ (kp b o e), rank_reads⟩
end
/-! ### heaps, but for the tables of code objects -/
def NT : HO → Prop
  | .tbl _ => False
  | _ => True
/-- all but the tables stays -/
def Ex (H H' : Hp) : Prop := ∀ b o, H b = some o → NT o → H' b = some o
theorem Ex.refl (H : Hp) : Ex H H := fun _ _ h _ => h
theorem Ex.trans {H H1 H2 : Hp} (x : Ex H H1) (y : Ex H1 H2) : Ex H H2 := fun b o h n => y b o (x b o h n) n
theorem Same.ex {H H' : Hp} (s : Same H H') : Ex H H' := fun b o h _ => s b o h
theorem Ex.new {H : Hp} {p : Addr} {o : HO} (n : H p = none) : Ex H (upd H p o) := Same.ex (Same.new n)
theorem ext_ex {H H' : Hp} (e : LamX.ExtN H H') : Ex H H' := fun b o h n => e b o h fun ps z => by
  rw [z] at n
  exact n
theorem Ex.sqL {K : PySem.W.Frag} {H H' : Hp} {a : Addr} {xs : List V} (e : Ex H H') (h : SqL K H a xs) : SqL K H' a xs := by
  rcases h with (h | ⟨o, h⟩) | h
  · exact .inl (.inl (e _ _ h trivial))
  · exact .inl (.inr ⟨o, e _ _ h trivial⟩)
  · exact .inr h
theorem Ex.sqT {K : PySem.W.Frag} {H H' : Hp} {a : Addr} {xs : List V} (e : Ex H H') (h : SqT K H a xs) : SqT K H' a xs := by
  rcases h with (h | ⟨o, h⟩) | h
  · exact .inl (.inl (e _ _ h trivial))
  · exact .inl (.inr ⟨o, e _ _ h trivial⟩)
  · exact .inr h
/-- nothing but a table stands at p -/
def New (H : Hp) (p : Addr) : Prop := ∀ o, H p = some o → NT o → False
theorem New.of {H : Hp} {p : Addr} (h : H p = none) : New H p := fun o e _ => by
  rw [h] at e
  cases e
theorem New.ne {H : Hp} {p b : Addr} {o : HO} (n : New H p) (h : H b = some o) (t : NT o) : b ≠ p := fun z => n o (by rw [← z]; exact h) t
theorem New.back {H H' : Hp} {p : Addr} (n : New H' p) (e : Ex H H') : New H p := fun o h t => n o (e p o h t) t
/-! ### sorted(xs, key=f) -/
section
variable {X : Cx}
theorem rank_run {f : Addr} {pins : List (Addr × Obj)} {σ : L2.St} {H : Hp} {s : Shared} {a : Addr} {ss : List Str} {Q : VK} (I : Inv X pins σ H s) (hs : SqL X.K H a (ss.map V.str)) (hu : X.A.units + 64 < cLine)
    (turn : ∀ (z : Str) (t : Tok) (h : Heap) (tk : Nat), z ∈ ss → (∀ b o, s.heap.get? b = some o → h.get? b = some o) → wpAny (model X.prog X.w) X.A.in1.in1 (call (.ref f) [.str z t]) (PySem.W.KeyPure (.tuple [.int (z.length : Nat), .str z]) { s with heap := h, toks := tk }) (fun _ _ => False) { s with heap := h, toks := tk })
    (q : ∀ p, H p = none → Q (.ref p) (upd H p (.lst ((ss.mergeSort rankLe).map V.str)))) : wpAny (model X.prog X.w) X.A (call (.builtin "sorted") [.ref a] [(Str.ofString "key", .ref f)]) (EP X pins σ Q) X.xe s := by
  obtain ⟨its, rv, hl, hz⟩ := I.list hs
  have e := vals_each rv
  rw [List.length_map] at hz
  refine PySem.W.sorted_key_data (b := false) (fun z : Str => .tuple [.int (z.length : Nat), .str z]) hl.isList e (PySem.W.AllAlike.of fun _ _ => by simp [PySem.W.alike, PySem.W.alikeAll]) (PySem.W.Sortable.tuples fun _ => ⟨_, _, rfl⟩) hz (fun z _ => ?_) (PyProof.Rows.ksk_s1 _ _) (fun _ => PyProof.Rows.ksk_l1 _ _) (fun _ => PyProof.Rows.ksk_t1 _ _)
    (fun v z r hm h tk kp => ?_) fun out c h' tk kp fr hD hlen eo => ?_
  · have hd : (PyData.tuple [.int (z.length : Nat), .str z]).depth = 1 := by simp [PyData.depth, PyData.depthAll]
    omega
  · obtain ⟨t, rfl⟩ := r
    exact turn z t h tk hm kp
  · have hf : H (s.heap.objs.size + 1) = none := I.hok.fresh (Nat.le_succ _)
    rw [dataLe_rank fun z : Str => z] at eo
    refine ⟨.ref (s.heap.objs.size + 1), upd H (s.heap.objs.size + 1) (.lst ((ss.mergeSort rankLe).map V.str)), I.laid (t' := tk) kp (Nat.le_succ _) ⟨?_, out, c, each_vals eo, hD⟩, rfl, q _ hf⟩
    rw [List.length_map, List.length_mergeSort]
    exact hz
theorem boot_sorted : bootBuiltins "sorted" = some (.builtin "sorted") := by decide +kernel
theorem blt_len {pins : List (Addr × Obj)} {σ : L2.St} {H : Hp} {s : Shared} (I : Inv X pins σ H s) : ∃ mB, s.heap.Ns builtinsNs mB ∧ mB "len" = some (.builtin "len") := by
  obtain ⟨mb, h1, h2⟩ := I.mod.blt
  exact ⟨mb, h1.keeps I.bk, (h2 "len" (by decide)).trans boot_len⟩
/-- by a def of the form (len(g), g) -/
def rSortRank (K : PySem.W.Frag) (f : Addr) : List V → List V → Hp → VK → Prop := fun vs zs H Q => ∃ (a : Addr) (ss : List Str), vs = [.ref a] ∧ zs = [.ref f] ∧ SqL K H a (ss.map V.str) ∧ (∀ z ∈ ss, z.length ≤ sizeLine) ∧
  ∀ p, H p = none → Q (.ref p) (upd H p (.lst ((ss.mergeSort rankLe).map V.str)))
theorem cr_sortRank {f : Addr} {fd : FuncData} {x q g : Str} {st : Stmt} {p1 p2 p3 p4 p5 p6 : Pos} {x1} (F : Fun X.K x q st f fd) (hb : Binds X.K fd [g] []) (L : RankS g (defScope st)) (hbody : defBody st = [.Return (some (.Tuple [.Call (.Name "len" p1) [.Name g p2] [] p3, .Name g p4] x1 p5)) p6])
    (hm : X.mg "len" = none) (hr : Room 1 X.A) (hu : X.A.units + 64 < cLine) : CallRK X (.builtin "sorted") [Str.ofString "key"] (rSortRank X.K f) := by
  intro pins s σ H vs zs us ws Q I r rz h
  obtain ⟨a, ss, rfl, rfl, hs, hl, k⟩ := h
  obtain rfl := Vals.ref1 r
  obtain rfl := Vals.ref1 rz
  obtain ⟨oc, od, kV, doc, pm, an, cdv, ct, osl, rfl, lk, hcd⟩ := F.ex
  obtain ⟨mB, n1, n2⟩ := blt_len I
  refine rank_run I hs hu (fun z t h tk hz kp => ?_) k
  have KX : X.K.In h := I.kIn.keeps kp
  rw [hbody] at lk hb
  refine def_key (s := { s with heap := h, toks := tk }) L (by have := hr.dp; show X.A.depth < _; omega) (KX _ _ lk) (PySem.W.codeRec_of KX hcd) (I.nolimit.keeps kp) (fun v => hb _ [v] KX rfl) ((I.mod.glob.keeps I.bk).keeps kp) hm (n1.keeps kp) n2 (hl z hz)
/-- by a lambda of that form; the maker's table stands at P -/
def tSortLam (K : PySem.W.Frag) (P : Addr) (q : Str) (te : TE) : TE := fun σ H Q => te σ H fun x H1 => ∃ (a : Addr) (ss : List Str), x = .ref a ∧ SqL K H1 a (ss.map V.str) ∧ (∀ z ∈ ss, z.length ≤ sizeLine) ∧ LamX.TabS H1 P q ∧
  ∀ H2, Ex H1 H2 → LamX.TabS H2 P q → ∀ p, H2 p = none → Q (.ref p) (upd H2 p (.lst ((ss.mergeSort rankLe).map V.str)))
theorem pe_sortLam {c P : Addr} {e : Expr} {te : TE} {params : Arguments} {scope : Scope} {g q : Str} {p pos lpos kpos p1 p2 p3 p4 p5 : Pos} {x1} (TB : LamX.TabB X.base X.mg c P) (hcode : X.env.code = .ref c) (hq : X.env.qual ++ "<lambda>" = q) (L : RankS g scope) (hdef : defaultsOf params X.env = ([], []))
    (hbind : ∀ (cl : List (Str × Addr)) (pm cv ctv v : Value), bindArgs (PySem.W.kla_fn "<lambda>" q params (.Tuple [.Call (.Name "len" p1) [.Name g p2] [] p3, .Name g p4] x1 p5) scope cl pm cv ctv) ⟨[v], []⟩ = pure [(g, v)])
    (he : PE X e te) (hg : Gl X "sorted") (hm : X.mg "sorted" = none) (hml : X.mg "len" = none) (hr : Room 1 X.A) (hu : X.A.units + 64 < cLine)
    (hs0 : starEach [e] X.env = (false, eval e X.env) :: starEach [] X.env := by rfl) (hst : backTo pos (starEach [e] X.env) = (false, eval e X.env) :: backTo pos (starEach [] X.env) := by rfl) (hpl : (backTo pos (starEach [e] X.env)).any (·.1) = false := by rfl) :
    PE X (.Call (.Name "sorted" p) [e] [⟨some "key", .Lambda params (.Tuple [.Call (.Name "len" p1) [.Name g p2] [] p3, .Name g p4] x1 p5) scope lpos, kpos⟩] pos) (tSortLam X.K P q te) := by
  refine ⟨fun pins s σ H Q I h => ?_⟩
  refine wpAny_Call_Name_kw (ld_blt I hg hm boot_sorted ?_)
  have ha := (pa_cons he pa_nil hs0).run pos pins s σ H (fun vs H1 => match vs with
    | [x] => ∃ (a : Addr) (ss : List Str), x = .ref a ∧ SqL X.K H1 a (ss.map V.str) ∧ (∀ z ∈ ss, z.length ≤ sizeLine) ∧ LamX.TabS H1 P q ∧
      ∀ H2, Ex H1 H2 → LamX.TabS H2 P q → ∀ p, H2 p = none → Q (.ref p) (upd H2 p (.lst ((ss.mergeSort rankLe).map V.str)))
    | _ => False) I h
  refine PyProof.Rows.callWith_kw (thn ha fun us s1 ⟨vs, H1, I1, r1, z⟩ => ?_) hst hpl (by rfl) (by rfl)
  obtain ⟨x, rfl⟩ : ∃ x, vs = [x] := by
    match vs, z with
    | [x], _ => exact ⟨x, rfl⟩
  obtain ⟨a, ss, ex, hs, hl, hT, k⟩ := z
  subst ex
  obtain rfl := Vals.ref1 r1
  show wpAny _ _ (evalAll [do let v ← eval (.Lambda params (.Tuple [.Call (.Name "len" p1) [.Name g p2] [] p3, .Name g p4] x1 p5) scope lpos) X.env; standAt pos; pure v]) _ _ s1
  refine wpAny_evalAll_cons (wpAny_bind ?_)
  refine LamX.lam_make2 (T := [(P, q)]) I1 TB hcode (by rw [hq]; simp) (fun p hp _ => by rw [List.mem_singleton.mp hp, hq]) (fun p hp => by rw [List.mem_singleton.mp hp]; exact hT) hdef (fun y hy e => absurd e (L.free y hy)) fun f c' pm ctv H2 s2 I2 eN T2 hf hfn hfr hco => ?_
  refine wpAny_bind (wpAny_standAt (wpAny_pure ?_))
  refine wpAny_evalAll_nil ?_
  have hT2 := T2 _ (List.mem_singleton.mpr rfl)
  obtain ⟨mB, n1, n2⟩ := blt_len I2
  rw [hq] at hf hco
  refine rank_run I2 ((ext_ex eN).sqL hs) hu (fun z t h tk hz kp => ?_) (k H2 (ext_ex eN) hT2)
  obtain ⟨⟨oc, vs, t', hoc, hdc, hvc⟩, _, _⟩ := I2.hok c' _ hco
  exact lam_key (s := { s2 with heap := h, toks := tk }) L (by have := hr.dp; show X.A.depth < _; omega) (kp _ _ hf) ⟨c', oc, vs, t', rfl, kp _ _ hoc, hdc, hvc⟩ (I2.nolimit.keeps kp) (hbind _ _ _ _) ((I2.mod.glob.keeps I2.bk).keeps kp) hml (n1.keeps kp) n2 (hl z hz)
end
end FG
namespace FG
open PySem PySem.Spec L2
/-! ## rules for the fonts -/
/-- a def whose code object's place is known -/
structure FunC (K : PySem.W.Frag) (x qual : Str) (st : Stmt) (f : Addr) (fd : FuncData) (c : Addr) : Prop where
  ex : ∃ (oc : Value) (od : Option Addr) (kV doc pm : Value) (an : Option Addr) (ct : Value) (osl : Array (Option Value)),
    fd = PySem.W.fnOf x qual (defArgs st) (defBody st) (defScope st) .none kV doc pm an (.ref c) ct ∧ K.lookup f = some ⟨oc, od, .func fd, osl⟩ ∧ PySem.W.codeIn K (.ref c) qual = true
section
variable {P : Program} {w : World} {K : PySem.W.Frag} {mg : Str → Option Value} {base : Heap}
theorem FunC.ok {x qual : Str} {st : Stmt} {f c : Addr} {fd : FuncData} {N ps : List Str} {k : Nat} {sp : Sp} (F : FunC K x qual st f fd c) (S : FnScope N ps (defScope st)) (len : ∀ vs H Q E, sp vs H Q E → vs.length = ps.length)
    (hbody : ∀ (A : Around) (outer : List Env) (s : Shared) (H : Hp) (vs : List V) (Q : VK) (E : XK), Room k (A.deeper (PyProof.Rows.envOfC qual (defScope st) s.heap.objs.size f (.ref c))) → sp vs H Q E →
      ∃ t, PSs (cxOf CX0 P w K mg base N qual (defScope st) f (.ref c) A outer s H E).nox (defBody st) t ∧ t { nx := fun _ H' => Q .non H', rt := Q } (start N vs) H) : FnOk P w K mg base CX0 (k + 1) f fd ps sp := by
  obtain ⟨oc, od, kV, doc, pm, an, ct, osl, rfl, lk, hcd⟩ := F.ex
  refine fn_of lk hcd S len fun A outer s H vs Q E hr hsp => ?_
  obtain ⟨t, h, q⟩ := hbody A outer s H vs Q E hr hsp
  exact ⟨t, h.nox, q⟩
end
/-- one of two derivations -/
def tOrS (t u : TS) : TS := fun D σ H => t D σ H ∨ u D σ H
def tOrE (t u : TE) : TE := fun σ H Q => t σ H Q ∨ u σ H Q
theorem ps_or {X : Cx} {st : Stmt} {t u : TS} (h1 : PS X st t) (h2 : PS X st u) : PS X st (tOrS t u) := ⟨fun pins s σ H D I h => h.elim (fun h => h1.run pins s σ H D I h) fun h => h2.run pins s σ H D I h⟩
theorem pe_or2 {X : Cx} {e : Expr} {t u : TE} (h1 : PE X e t) (h2 : PE X e u) : PE X e (tOrE t u) := ⟨fun pins s σ H Q I h => h.elim (fun h => h1.run pins s σ H Q I h) fun h => h2.run pins s σ H Q I h⟩
section
variable {X : Cx} {CX : CXT} {k : Nat} {C f : Addr} {fd : FuncData} {ps : List Str} {sp : Sp}
/-- y in o, y not in o by an own __contains__ that gives True or False -/
def rInO (C : Addr) (sp : Sp) (neg : Bool) : R2 := fun y x H Q => ∃ a dx fs, x = .ref a ∧ H a = some (.ins C dx fs) ∧ sp [.ref a, y] H (fun v H1 => ∃ b, v = .bl b ∧ Q (.bl (neg != b)) H1) E0
theorem op_inO (hs : PySem.W.findIn X.K (.ref C) "__contains__" = some (some (.ref f))) (hf : PySem.W.isFn X.K (.ref f) = true) (F : FnOk X.prog X.w X.K X.mg X.base CX0 k f fd ps sp) (hr : Room k X.A) (hb : Binds X.K fd ps []) : OpR X (compareOp .In) (rInO C sp false) := by
  intro pins s σ H y x u v Q I ry rx h
  obtain ⟨a, dx, fs, rfl, ea, q⟩ := h
  cases (show v = Value.ref a from rx)
  obtain ⟨mA, Ob, _⟩ := ins_get I.hok ea
  obtain ⟨od, J, _⟩ := Ob.look
  obtain ⟨m, fr⟩ := I.fr
  refine PySem.W.in_K fr I.ok.mod.kin J hs hf (thn (run_fn (us := [.ref a, u]) (vs := [.ref a, y]) F hr hb .nil pass0 I (.cons rfl (.cons ry .nil)) q) fun r s' z => ?_)
  obtain ⟨v, H1, I1, rv, b, rfl, q1⟩ := z
  cases rv
  refine wpAny_truthy_bool ⟨.bl b, H1, I1, rfl, ?_⟩
  rw [Bool.false_bne] at q1
  exact q1
theorem op_notInO (hs : PySem.W.findIn X.K (.ref C) "__contains__" = some (some (.ref f))) (hf : PySem.W.isFn X.K (.ref f) = true) (F : FnOk X.prog X.w X.K X.mg X.base CX0 k f fd ps sp) (hr : Room k X.A) (hb : Binds X.K fd ps []) : OpR X (compareOp .NotIn) (rInO C sp true) := by
  intro pins s σ H y x u v Q I ry rx h
  obtain ⟨a, dx, fs, rfl, ea, q⟩ := h
  cases (show v = Value.ref a from rx)
  obtain ⟨mA, Ob, _⟩ := ins_get I.hok ea
  obtain ⟨od, J, _⟩ := Ob.look
  obtain ⟨m, fr⟩ := I.fr
  refine PySem.W.notIn_K fr I.ok.mod.kin J hs hf (thn (run_fn (us := [.ref a, u]) (vs := [.ref a, y]) F hr hb .nil pass0 I (.cons rfl (.cons ry .nil)) q) fun r s' z => ?_)
  obtain ⟨v, H1, I1, rv, b, rfl, q1⟩ := z
  cases rv
  refine wpAny_truthy_bool ⟨.bl (!b), H1, I1, rfl, ?_⟩
  rw [Bool.true_bne] at q1
  exact q1
end
section
variable {X : Cx} {CX : CXT} {k n : Nat} {f C : Addr} {fd : FuncData} {ps ks : List Str} {sp : Sp} {E : L2.St → XK} {x : Str} {p pos : Pos} {e : Expr} {es : List Expr} {kws : List Keyword} {t tk : TA} {g : List Value → List Value → List Value} {gV : List V → List V → List V}
/-- C(.., k = v, ..), its __init__ may raise, wished for at the caller's slots -/
def tMkKS (C : Addr) (n m : Nat) (sp : Sp) (gV : List V → List V → List V) (E : L2.St → XK) (t tk : TA) : TE := fun σ H Q => t σ H fun vs H1 => tk σ H1 fun zs H2 => vs.length = n ∧ zs.length = m ∧ ∀ z dz, H2 z = none → H2 dz = none → dz ≠ z →
  sp (gV (.ref z :: vs) zs) (upd (upd H2 dz (.own z)) z (.ins C dz [])) (fun v H3 => v = .non ∧ Q (.ref z) H3) (E σ)
theorem mkKS_run {pins : List (Addr × Obj)} {σ : L2.St} {H : Hp} {s : Shared} {Q : VK} {us ws : List Value} {vs zs : List V} (M : Mk X.K C f) (F : FnOk X.prog X.w X.K X.mg X.base CX k f fd ps sp) (hr : Room (k + 1) X.A) (hb : KBn X.K fd ps (n + 1) ks g gV)
    (hx : PassesAt CX X σ (E σ)) (I : Inv X pins σ H s) (r : Vals vs us) (rz : Vals zs ws) (l1 : vs.length = n) (l2 : zs.length = ks.length)
    (h : ∀ z dz, H z = none → H dz = none → dz ≠ z → sp (gV (.ref z :: vs) zs) (upd (upd H dz (.own z)) z (.ins C dz [])) (fun v H2 => v = .non ∧ Q (.ref z) H2) (E σ)) :
    wpAny (model X.prog X.w) X.A (call (.ref C) us (ks.zip ws)) (EP X pins σ Q) X.xe s := by
  have J := Inv.made (C := C) I
  have q0 := h _ _ (I.hok.fresh (Nat.le_succ s.heap.objs.size)) (I.hok.fresh (Nat.le_refl _)) (Nat.ne_of_lt (Nat.lt_succ_self _))
  have rr : Vals (V.ref (s.heap.objs.size + 1) :: vs) (Value.ref (s.heap.objs.size + 1) :: us) := .cons rfl r
  have ln : (Value.ref (s.heap.objs.size + 1) :: us).length = n + 1 := rr.length.symm.trans (congrArg Nat.succ l1)
  have go := F.run _ X.stack _ _ ⟨Value.ref (s.heap.objs.size + 1) :: us, ks.zip ws⟩ _ _ _ (E σ) (hr.make C us (ks.zip ws)) (J.env0.make C us (ks.zip ws)) (hb.to _ _ ws J.kIn ln (rz.length.symm.trans l2)) (hb.rel rr rz) q0
  refine wpAny_call (make_map (f := f) I.kIn M.makes M.init (beq_iff_eq.mp M.fn) (codeAny_mono go fun res s' z => ?_))
  match res, z with
  | .error er, z => exact hx pins _ _ er s' J z
  | .ok (.ret u), z =>
    obtain ⟨v, H2, J2, rv, ev, q2⟩ := J.after z
    subst ev
    exact ⟨rv, ⟨V.ref (s.heap.objs.size + 1), H2, J2, rfl, q2⟩⟩
  | .ok .next, z => exact False.elim z
  | .ok .brk, z => exact False.elim z
  | .ok .cont, z => exact False.elim z
theorem pe_mkKS (M : Mk X.K C f) (F : FnOk X.prog X.w X.K X.mg X.base CX k f fd ps sp) (hr : Room (k + 1) X.A) (hg : Gl X x) (hm : X.mg x = some (.ref C)) (hb : KBn X.K fd ps (n + 1) ks g gV) (hx : ∀ σ, PassesAt CX X σ (E σ)) (ha : PA X (e :: es) t) (hkw : PK X kws tk)
    (hall : (backToKw pos (keywordEach kws X.env)).all (·.1.isSome) = true := by rfl) (hks : (backToKw pos (keywordEach kws X.env)).filterMap (·.1) = ks := by rfl) (hdb : (x == ("__debug__" : Str)) = false := by decide)
    (he : starEach (e :: es) X.env = (false, eval e X.env) :: starEach es X.env := by rfl) (hpl : ((backTo pos (starEach (e :: es) X.env)).any (·.1) || (backToKw pos (keywordEach kws X.env)).any (·.1.isNone)) = false := by rfl) :
    PE X (.Call (.Name x p) (e :: es) kws pos) (tMkKS C n ks.length sp gV E t tk) := by
  refine ⟨fun pins s σ H Q I h => wpAny_Call_Name_kw (ld_glob I hg hm ?_ hdb)⟩
  refine PySem.W.callWith_KW (h₀ := X.base) I.ok.mod.kin M.kp hall (thn (ha.run pos pins s σ H _ I h) fun us s1 ⟨vs, H1, I1, r, q⟩ => ?_) hpl he
  refine thn (hkw.run pos pins s1 σ H1 _ I1 q) fun ws s2 ⟨zs, H2, I2, rz, l1, l2, q2⟩ => ⟨I2.kIn, ?_⟩
  rw [hks]
  exact mkKS_run M F hr hb (hx σ) I2 r rz l1 l2 q2
end
section
variable {X : Cx} {k : Nat} {C f : Addr} {fd : FuncData} {ps : List Str} {sp : Sp}
/-- len(o) by an own __len__ -/
def rLenO (C : Addr) (sp : Sp) : List V → Hp → VK → Prop := fun xs H Q => ∃ a dx fs, xs = [.ref a] ∧ H a = some (.ins C dx fs) ∧ sp [.ref a] H (fun v H1 => ∃ n : Nat, v = .int n ∧ n < 2 ^ 62 ∧ Q (.int n) H1) E0
end
end FG
namespace FG
open PySem PySem.Spec L2
/-! ## stepping lemmas for dicts, texts, comprehensions, properties -/
/-- the turns of a comprehension -/
def LcW (J : It) (g : TG) (tt : TT) (te : TE) (vs : List Nat) (σ : L2.St) (Q : VK) (H1 : Hp) : Prop := ∀ D, H1 D = none → ∃ W : Nat → Nat → Hp → Prop, (∃ m, W 0 m (upd H1 D (.lst []))) ∧ ∀ i m H, W i m H →
  (J.stop i H ∧ Q (.ref D) H) ∨ (J.go i H ∧ ∃ Nx : Hp → Prop, (∀ H', Nx H' → ∃ m', m' < m ∧ W (i + 1) m' H') ∧ ∀ x H', J.yld i H x H' → g x (wipe σ vs) H' fun σ2 H2 => wipe σ2 vs = wipe σ vs ∧ tt σ2 H2 fun b H3 =>
    if b = true then te σ2 H3 fun y H4 => ∃ acc, H4 D = some (.lst acc) ∧ acc.length < sizeLine ∧ Nx (upd H4 D (.lst (acc ++ [y]))) else Nx H3)
/-- the turns of a for -/
def ForW (J : It) (g : TG) (tb : TS) (D : Ends) (σ : L2.St) (H : Hp) : Prop := ∃ W : Nat → Nat → L2.St → Hp → Prop, (∃ m, W 0 m σ H) ∧ ∀ i m σ H, W i m σ H →
  (J.stop i H ∧ D.nx σ H) ∨ (J.go i H ∧ ∃ N : L2.St → Hp → Prop, (∀ σ' H', N σ' H' → ∃ m', m' < m ∧ W (i + 1) m' σ' H') ∧ ∀ x H', J.yld i H x H' → g x σ H' fun σ2 H2 => tb { D with nx := N, ct := N, bk := D.nx } σ2 H2)
def rLeS : R2 := fun x y H Q => ∃ i j : Str, x = .str i ∧ y = .str j ∧ Q (.bl (!decide (j.cps.toList < i.cps.toList))) H
theorem qo_leS {X : Cx} : OpR X (compareOp .LtE) rLeS := op_le_str
section
variable {K : PySem.W.Frag} {σ σ' : L2.St} {H : Hp} {Q : VK} {D : Ends} {ta tb te tc td ty tx to : TE} {tt tu : TT} {t u : TS} {tar : TA} {v x y : V} {i : Nat} {g : TG} {wi : TI} {vs : List Nat} {QB : Bool → Hp → Prop} {QA : List V → Hp → Prop}
theorem w_lc (k : wi σ H fun J H1 => LcW J g tt te vs σ Q H1) : tLc wi g tt te vs σ H Q := k
theorem w_iL {R : It → Hp → Prop} (k : te σ H fun x H1 => ∃ a, x = .ref a ∧ (∃ xs, SqL K H1 a xs) ∧ R (Itl K a) H1) : iList K te σ H R := k
theorem w_iK {R : It → Hp → Prop} (k : te σ H fun x H1 => ∃ d o, x = .ref d ∧ ((∃ kvs, H1 d = some (.frz o (.dK kvs)) ∧ R (Itk d o kvs) H1) ∨ ∃ kvs, H1 d = some (.frz o (.dT kvs)) ∧ R (Itkt d o kvs) H1)) : iKeys te σ H R := k
theorem w_iS {R : It → Hp → Prop} (k : te σ H fun v H1 => ∃ x, v = .str x ∧ R (Its x) H1) : iStr te σ H R := k
theorem w_iT {R : It → Hp → Prop} (k : te σ H fun x H1 => ∃ a, x = .ref a ∧ (∃ xs, SqT K H1 a xs) ∧ R (Itt K a) H1) : iTup K te σ H R := k
theorem w_iR1 {R : It → Hp → Prop} (k : tar σ H fun vs H1 => ∃ j : Int, vs = [.int j] ∧ -(2 ^ 62) ≤ j ∧ j < 2 ^ 62 ∧ R (Itr 0 j.toNat) H1) : iRng1 tar σ H R := k
theorem w_for (k : wi σ H fun J H1 => ForW J g t D σ H1) : tFor wi g t D σ H := k
theorem w_dnew (k : ∀ p, H p = none → Q (.ref p) (upd H p (.dK []))) : tDNewK σ H Q := k
theorem w_dget (k : td σ H fun x H1 => ty σ H1 fun y H2 => ∃ a v, x = .ref a ∧ DGet H2 a y (some v) ∧ Q v H2) : tDGet td ty σ H Q := k
theorem w_din (k : ty σ H fun y H1 => td σ H1 fun x H2 => ∃ a o, x = .ref a ∧ DGet H2 a y o ∧ Q (.bl o.isSome) H2) : tDIn ty td σ H Q := k
theorem w_dnin (k : ty σ H fun y H1 => td σ H1 fun x H2 => ∃ a o, x = .ref a ∧ DGet H2 a y o ∧ Q (.bl (!o.isSome)) H2) : tDNotIn ty td σ H Q := k
theorem w_dput (k : tc σ H fun v H1 => td σ H1 fun x H2 => ty σ H2 fun y H3 => ∃ a H', x = .ref a ∧ DPut H3 a y v H' ∧ D.nx σ H') : sDPut td ty tc D σ H := k
theorem w_prop {C : Addr} {sp : Sp} {dvs : List V} {E : XK} (k : ta σ H fun x H1 => ∃ a dx fs, x = .ref a ∧ H1 a = some (.ins C dx fs) ∧ sp (.ref a :: dvs) H1 Q E) : tProp C sp dvs E ta σ H Q := k
theorem w_cval {f : Str} (k : ta σ H fun x H1 => ∃ C mc v u, x = .ref C ∧ ClX.CRead K C mc ∧ ClX.CVal K C mc f v u ∧ Q v H1) : ClX.tCVal K ta f σ H Q := k
theorem w_mtS {C : Addr} {m : Str} {sp : Sp} {dvs : List V} {E : L2.St → XK} (k : ta σ H fun y H1 => ∃ a dx fs, y = .ref a ∧ H1 a = some (.ins C dx fs) ∧ fs.lookup m = none ∧ tar σ H1 fun vs H2 => sp (.ref a :: (vs ++ dvs)) H2 Q (E σ)) : tMtS C m sp dvs E ta tar σ H Q := k
theorem w_mkKS {C : Addr} {n m : Nat} {sp : Sp} {gV : List V → List V → List V} {E : L2.St → XK} {tk : TA} (k : tar σ H fun vs H1 => tk σ H1 fun zs H2 => vs.length = n ∧ zs.length = m ∧ ∀ z dz, H2 z = none → H2 dz = none → dz ≠ z →
  sp (gV (.ref z :: vs) zs) (upd (upd H2 dz (.own z)) z (.ins C dz [])) (fun v H3 => v = .non ∧ Q (.ref z) H3) (E σ)) : tMkKS C n m sp gV E tar tk σ H Q := k
theorem w_bm {T : String} {r : V → List V → Hp → VK → Prop} (k : to σ H fun x H1 => tyV K T x H1 ∧ tar σ H1 fun xs H2 => r x xs H2 Q) : tBM K T r to tar σ H Q := k
theorem w_bm0 {T : String} {r : V → List V → Hp → VK → Prop} (k : to σ H fun x H1 => tyV K T x H1 ∧ r x [] H1 Q) : tBM0 K T r to σ H Q := k
theorem w_append {l : Addr} {xs : List V} {y : V} (h : H l = some (.lst xs)) (hl : xs.length < sizeLine) (k : Q .non (upd H l (.lst (xs ++ [y])))) : tyV K "list" (.ref l) H ∧ rAppend (.ref l) [y] H Q := ⟨.inl ⟨rfl, _, SqL.of h⟩, l, xs, y, rfl, rfl, h, hl, k⟩
theorem w_cat {l b : Addr} {xs zs : List V} (h1 : H l = some (.lst xs)) (h2 : H b = some (.lst zs)) (hl : xs.length + zs.length ≤ sizeLine) (k : ∀ p, H p = none → Q (.ref p) (upd H p (.lst (xs ++ zs)))) : rCat (.ref l) (.ref b) H Q := ⟨l, b, xs, zs, rfl, rfl, h1, h2, hl, k⟩
theorem w_lock {d : Addr} {o : HO} (h : H d = some o) (m : Mut (some o)) (k : ∀ od, t ⟨fun σ' H' => H' d = some (.frz od o) ∧ D.nx σ' (upd H' d o), fun v H' => H' d = some (.frz od o) ∧ D.rt v (upd H' d o), fun σ' H' => H' d = some (.frz od o) ∧ D.bk σ' (upd H' d o), fun σ' H' => H' d = some (.frz od o) ∧ D.ct σ' (upd H' d o)⟩ σ (upd H d (.frz od o))) : tLock t D σ H := ⟨d, o, h, m, k⟩
theorem w_lockE {d : Addr} {o : HO} (h : H d = some o) (m : Mut (some o)) (k : ∀ od, te σ (upd H d (.frz od o)) fun v H' => H' d = some (.frz od o) ∧ Q v (upd H' d o)) : tLockE te σ H Q := ⟨d, o, h, m, k⟩
theorem w_sortLam {P : Addr} {q : Str} (k : te σ H fun x H1 => ∃ (a : Addr) (ss : List Str), x = .ref a ∧ SqL K H1 a (ss.map V.str) ∧ (∀ z ∈ ss, z.length ≤ sizeLine) ∧ LamX.TabS H1 P q ∧
  ∀ H2, Ex H1 H2 → LamX.TabS H2 P q → ∀ p, H2 p = none → Q (.ref p) (upd H2 p (.lst ((ss.mergeSort rankLe).map V.str)))) : tSortLam K P q te σ H Q := k
theorem w_leS {i j : Str} (k : Q (.bl (!decide (j.cps.toList < i.cps.toList))) H) : rLeS (.str i) (.str j) H Q := ⟨i, j, rfl, rfl, k⟩
theorem w_inl (k : t D σ H) : tOrS t u D σ H := .inl k
theorem w_inr (k : u D σ H) : tOrS t u D σ H := .inr k
theorem w_inlE {t u : TE} (k : t σ H Q) : tOrE t u σ H Q := .inl k
theorem w_inrE {t u : TE} (k : u σ H Q) : tOrE t u σ H Q := .inr k
theorem w_ixS {z : Str} {k : Int} {c : Nat} (h : z.length ≤ sizeLine) (e : atI z.cps.toList k = some c) (q : Q (.str ⟨#[c]⟩) H) : rIxS (.str z) (.int k) H Q := ⟨z, k, c, rfl, rfl, h, e, q⟩
theorem w_slS {z : Str} {lo hi : Option Int} (h : z.length ≤ sizeLine) (k : Q (.str (cutS z lo hi)) H) : rSlS (.str z) lo hi H Q := ⟨z, rfl, h, k⟩
end
/-- the turns, by what holds between them -/
theorem turnsW {J : It} {n : Nat} {G : Hp → Prop} {Y : Nat → Hp → V → Hp → Prop} {g : TG} {tb : TS} {D : Ends} {σ : L2.St} {H : Hp} (w : L2.Walk J n G Y) (Pv : Nat → L2.St → Hp → Prop) (h0 : Pv 0 σ H) (hG : ∀ i σ H, i ≤ n → Pv i σ H → G H)
    (hs : ∀ i x σ H H', i < n → Pv i σ H → Y i H x H' → g x σ H' fun σ2 H2 => tb { D with nx := Pv (i + 1), ct := Pv (i + 1), bk := D.nx } σ2 H2) (hd : ∀ σ H, Pv n σ H → D.nx σ H) : ForW J g tb D σ H := for_it w Pv h0 hG hs hd
theorem lcsW {J : It} {n : Nat} {G : Hp → Prop} {Y : Nat → Hp → V → Hp → Prop} {g : TG} {tt : TT} {te : TE} {vs : List Nat} {σ : L2.St} {Q : VK} {H1 : Hp} (w : L2.Walk J n G Y) (Pv : Addr → Nat → Hp → Prop) (h0 : ∀ D, H1 D = none → Pv D 0 (upd H1 D (.lst []))) (hG : ∀ D i H, i ≤ n → Pv D i H → G H)
    (hs : ∀ D i x H H', i < n → Pv D i H → Y i H x H' → g x (wipe σ vs) H' fun σ2 H2 => wipe σ2 vs = wipe σ vs ∧ tt σ2 H2 fun b H3 =>
      if b = true then te σ2 H3 fun y H4 => ∃ acc, H4 D = some (.lst acc) ∧ acc.length < sizeLine ∧ Pv D (i + 1) (upd H4 D (.lst (acc ++ [y]))) else Pv D (i + 1) H3) (hd : ∀ D H, Pv D n H → Q (.ref D) H) : LcW J g tt te vs σ Q H1 :=
  fun D hD => lc_it w (Pv D) (h0 D hD) (hG D) (hs D) (hd D)
theorem upd_lock {H : Hp} {d D : Addr} {o x y : HO} (h : H d = some o) (n : D ≠ d) : upd (upd (upd H d x) D y) d o = upd H D y := by
  funext b
  unfold upd
  by_cases h1 : b = d
  · rw [if_pos h1, if_neg (by rw [h1]; exact Ne.symm n), h1, h]
  · rw [if_neg h1]
    by_cases h2 : b = D
    · rw [if_pos h2, if_pos h2]
    · rw [if_neg h2, if_neg h2, if_neg h1]
theorem upd_same_of {H : Hp} {d : Addr} {o : HO} (h : H d = some o) : upd H d o = H := by
  funext b
  unfold upd
  by_cases h1 : b = d
  · rw [if_pos h1, h1, h]
  · rw [if_neg h1]
/-! ### a text repeated -/
def repS (z : Str) (n : Nat) : Str := ⟨(List.replicate n z.cps.toList).flatten.toArray⟩
def rMulS : R2 := fun x y H Q => ∃ (z : Str) (n : Int), x = .str z ∧ y = .int n ∧ -(2 ^ 62) ≤ n ∧ n < 2 ^ 62 ∧ z.length * n.toNat ≤ sizeLine ∧ Q (.str (repS z n.toNat)) H
theorem rep_foldl (z : Str) : ∀ (n : Nat) (acc : Array Nat), ((List.replicate n z.cps).foldl (· ++ ·) acc).toList = acc.toList ++ (List.replicate n z.cps.toList).flatten
  | 0, acc => by simp
  | n + 1, acc => by
    rw [List.replicate_succ, List.foldl_cons, rep_foldl z n, List.replicate_succ, List.flatten_cons]
    simp
theorem op_mulS {X : Cx} : OpR X (binaryOp .Mult) rMulS := by
  intro pins s σ H x y v u Q I rx ry h
  obtain ⟨z, n, rfl, rfl, h1, h2, hl, q⟩ := h
  obtain ⟨t, rfl⟩ := rx
  obtain ⟨t2, rfl⟩ := ry
  have hs := line63
  refine PySem.P.mul_str (by rw [decide_eq_false (by omega), decide_eq_false (by omega)]; rfl) (fun a b => ?_) (fun a b => ?_) ?_
  · have hz : (z.length : Int) * n ≤ sizeLine := by
      have : ((z.length * n.toNat : Nat) : Int) ≤ sizeLine := by omega
      rw [Int.natCast_mul] at this
      rw [show ((n.toNat : Nat) : Int) = n from Int.toNat_of_nonneg (by omega)] at this
      exact this
    intro c
    have c2 : (2 ^ 63 - 1) / n + 1 ≤ (z.length : Int) := c
    have c3 := Int.lt_ediv_add_one_mul_self (2 ^ 63 - 1) (show 0 < n by omega)
    have c4 := Int.mul_le_mul_of_nonneg_right c2 (show 0 ≤ n by omega)
    omega
  · unfold Builtin.Str.tooLong
    simp
    omega
  · by_cases c1 : n < 1
    · rw [if_pos c1]
      have e : repS z n.toNat = Str.empty := by
        rw [show n.toNat = 0 by omega]
        rfl
      rw [e] at q
      exact ⟨by decide, .str Str.empty, H, I.tok _, ⟨_, rfl⟩, q⟩
    · rw [if_neg c1]
      by_cases c2 : (n == 1 || z.length == 0) = true
      · rw [if_pos c2]
        have e : repS z n.toNat = z := by
          rcases Bool.or_eq_true _ _ ▸ c2 with c | c
          · have : n = 1 := by simpa using c
            subst this
            show (⟨(List.replicate 1 z.cps.toList).flatten.toArray⟩ : Str) = z
            simp
          · have c0 : z.cps.toList = [] := by
              have : z.length = 0 := by simpa using c
              exact List.eq_nil_of_length_eq_zero (by simpa [Str.length] using this)
            unfold repS
            rw [c0]
            have : (List.replicate n.toNat ([] : List Nat)).flatten = [] := by simp
            rw [this]
            exact str_ext (by rw [c0])
        rw [e] at q
        exact ⟨.str z, H, I, ⟨_, rfl⟩, q⟩
      · rw [if_neg c2]
        have e : (⟨(List.replicate n.toNat z.cps).foldl (· ++ ·) #[]⟩ : Str) = repS z n.toNat := str_ext (by rw [rep_foldl]; simp [repS])
        rw [e]
        have hlen : (repS z n.toNat).length = n.toNat * z.length := by
          unfold repS Str.length
          simp
        exact ⟨by rw [hlen, Nat.mul_comm]; exact hl, .str _, H, I.tok _, ⟨_, rfl⟩, q⟩
end FG
namespace FG
open PySem PySem.Builtin
/-- digits in groups of three -/
def commas (d : List Nat) : List Nat :=
  if d.length > 6 then d.take (d.length - 6) ++ 44 :: ((d.drop (d.length - 6)).take 3 ++ 44 :: d.drop (d.length - 3))
  else if d.length > 3 then d.take (d.length - 3) ++ 44 :: d.drop (d.length - 3) else d
def digs (n : Nat) : List Nat := (Nat.toDigits 10 n).map (·.toNat)
def fmtD (d : List Nat) : Str := ⟨(List.replicate (9 - (commas d).length) 32 ++ commas d).toArray⟩
def padR (z : Str) : Str := ⟨(z.cps.toList ++ List.replicate (6 - z.length) 32).toArray⟩
theorem int_fmt (n : Nat) (t u : Tok) (h1 : 1 ≤ (Nat.toDigits 10 n).length) (h2 : (Nat.toDigits 10 n).length ≤ 7) : ∃ K : Option Nat → Sem PySem.Fin, «int.__format__» ⟨[.int n t, .str ">9," u], []⟩ = (overDigitLimit? n >>= K) ∧ K none = retStr (fmtD (digs n)) := by
  refine ⟨_, rfl, ?_⟩
  refine Eq.trans (b := retStr ?y) (by first | rfl | with_unfolding_all rfl) (congrArg retStr ?h)
  case h =>
    rw [decide_eq_false (show ¬ ((n : Int) < 0) by omega)]
    unfold digs
    conv => lhs; pattern Nat.toDigits _ _; change Nat.toDigits 10 n
    generalize Nat.toDigits 10 n = d at h1 h2 ⊢
    match d, h1, h2 with
    | [a], _, _ => kernel_rfl
    | [a, b], _, _ => kernel_rfl
    | [a, b, c], _, _ => kernel_rfl
    | [a, b, c, d], _, _ => kernel_rfl
    | [a, b, c, d, e], _, _ => kernel_rfl
    | [a, b, c, d, e, f], _, _ => kernel_rfl
    | [a, b, c, d, e, f, g], _, _ => kernel_rfl
    | _ :: _ :: _ :: _ :: _ :: _ :: _ :: _ :: _, _, h => simp at h
theorem str_fmt (z : Str) (t u : Tok) (h : z.length ≤ 6) : «str.__format__» ⟨[.str z t, .str "<6" u], []⟩ = (if z.length = 6 then (do rule "str.__format__.unchanged"; ret (.str z t)) else retStr (padR z)) := by
  obtain ⟨⟨l⟩⟩ := z
  match l, h with
  | [], _ => kernel_rfl
  | [_], _ => kernel_rfl
  | [_, _], _ => kernel_rfl
  | [_, _, _], _ => kernel_rfl
  | [_, _, _, _], _ => kernel_rfl
  | [_, _, _, _, _], _ => kernel_rfl
  | [_, _, _, _, _, _], _ => kernel_rfl
  | _ :: _ :: _ :: _ :: _ :: _ :: _ :: _, h => exact absurd h (by simp [Str.length])
section
variable {prog : Program} {w : World} {A : Around} {E : Value → Shared → Prop} {s : Shared}
theorem padR_six {z : Str} (h : z.length = 6) : padR z = z := str_ext (by
  unfold padR
  rw [h]
  simp)
theorem fmt6_run {z : Str} {t : Tok} {Q : Value → Shared → Prop} (h : z.length ≤ 6) (q : ∀ t' tk, Q (.str (padR z) t') { s with toks := tk }) : wpAny (model prog w) A (formatField (.str z t) "<6") Q E s := by
  have hz : (padR z).length ≤ sizeLine := by
    unfold padR Str.length at *
    have : sizeLine = 16777216 := by decide
    simp
    omega
  by_cases c : z.length = 6
  · show wpAny (model prog w) A (holding [.str z t] (pyFormat (.str z t) "<6")) Q E s
    refine wpAny_holding ?_
    unfold pyFormat
    refine wpAny_bind (wpAny_mkStr ?_ (by decide +kernel))
    have T0 : ∀ s' : Shared, s'.TypeIs (.str z t) "str" := fun s' => typeIs_str s' z t
    have g0 : Gives («str.__format__» ⟨[.str z t, .str "<6" s.toks], []⟩) (.val (.str z t)) := by
      rw [str_fmt z t _ h, if_pos c]
      exact Gives.rule (Gives.of_eq rfl)
    refine wpAny_bind (wpAny_callSpecial?_slot (name := Str.ofString "__format__") (T0 _) F.slot_str_format (call_gives F.slot_str_format (T0 _) F.entry_str_format (F.args_str_format_2 _ _) g0 ?_))
    have q' := q t (s.toks + 1)
    rw [padR_six c] at q'
    exact wpAny_bind (wpAny_isInstance (T := "str") (b := true) rfl isSubtype_str_str (wpAny_pure q'))
  · exact wpAny_formatField_spec (by decide +kernel) (fun s' => typeIs_str s' z t) F.slot_str_format F.entry_str_format F.args_str_format_2 (fun u => by rw [str_fmt z t u h, if_neg c]; exact Gives.of_eq rfl) (q _ _) (by decide +kernel) hz
theorem fmt9_run {n : Nat} {t : Tok} {Q : Value → Shared → Prop} (h1 : 1 ≤ (Nat.toDigits 10 n).length) (h2 : (Nat.toDigits 10 n).length ≤ 7) (q : ∀ t' tk, Q (.str (fmtD (digs n)) t') { s with toks := tk }) (hz : (fmtD (digs n)).length ≤ sizeLine) (hn : n < 2 ^ 64) : wpAny (model prog w) A (formatField (.int n t) ">9,") Q E s := by
  refine wpAny_formatField_spec (by decide +kernel) (fun s' => typeIs_int s' n t) F.slot_int_format F.entry_int_format F.args_int_format_2 (fun u => ?_) (q _ _) (by decide +kernel) hz
  obtain ⟨K, e1, e2⟩ := int_fmt n t u h1 h2
  rw [e1, PySem.overDigitLimit_small ?_]
  · show Gives (K none) _
    rw [e2]
    exact Gives.of_eq rfl
  · show n.log2 < 1920
    by_cases c : n = 0
    · rw [c]
      decide
    · exact Nat.lt_trans ((Nat.log2_lt c).mpr hn) (by decide)
end
open L2 PySem.Spec
section
variable {X : Cx}
/-- {e:<6} of a text -/
def tFmt6 (te : TE) : TE := fun σ H Q => te σ H fun x H1 => ∃ z : Str, x = .str z ∧ z.length ≤ 6 ∧ Q (.str (padR z)) H1
theorem pe_fmt6 {e : Expr} {te : TE} {pos p1 p2 : Pos} {k : Nat} (he : PE X e te) : PE X (.FormattedValue e (-1) (some (.JoinedStr [.Constant (.str "<6") k p1] p2)) pos) (tFmt6 te) := by
  refine ⟨fun pins s σ H Q I h => ?_⟩
  refine wpAny_FormattedValue_spec (thn (he.run pins s σ H _ I h) fun v s1 hv => ?_)
  obtain ⟨x, H1, I1, r1, z, rfl, hz, q⟩ := hv
  obtain ⟨t, rfl⟩ := r1
  refine wpAny_JoinedStr_one (Calls.Constant_str ⟨_, _, rfl, fmt6_run hz fun t' tk => ⟨.str (padR z), H1, I1.tok _, ⟨_, rfl⟩, q⟩⟩)
/-- {e:>9,} of an int from 0 to 1000000 -/
def tFmt9 (te : TE) : TE := fun σ H Q => te σ H fun x H1 => ∃ n : Nat, x = .int n ∧ n ≤ 1000000 ∧ Q (.str (fmtD (digs n))) H1
theorem commas_len {d : List Nat} (h : d.length ≤ 7) : (commas d).length ≤ 9 := by
  unfold commas
  split
  · simp
    omega
  · split
    · simp
      omega
    · omega
theorem toDigits_len {n : Nat} (h : n ≤ 1000000) : 1 ≤ (Nat.toDigits 10 n).length ∧ (Nat.toDigits 10 n).length ≤ 7 := by
  exact ⟨PySem.toDigits_len_ge 10 n, PySem.toDigits_len_pow (by decide) (by decide) (by omega)⟩
theorem pe_fmt9 {e : Expr} {te : TE} {pos p1 p2 : Pos} {k : Nat} (he : PE X e te) : PE X (.FormattedValue e (-1) (some (.JoinedStr [.Constant (.str ">9,") k p1] p2)) pos) (tFmt9 te) := by
  refine ⟨fun pins s σ H Q I h => ?_⟩
  refine wpAny_FormattedValue_spec (thn (he.run pins s σ H _ I h) fun v s1 hv => ?_)
  obtain ⟨x, H1, I1, r1, n, rfl, hn, q⟩ := hv
  obtain ⟨t, rfl⟩ := r1
  obtain ⟨l1, l2⟩ := toDigits_len hn
  have hz : (fmtD (digs n)).length ≤ sizeLine := by
    have c := commas_len (d := digs n) (by unfold digs; simp; exact l2)
    have : sizeLine = 16777216 := by decide
    unfold fmtD Str.length
    simp
    omega
  refine wpAny_JoinedStr_one (Calls.Constant_str ⟨_, _, rfl, fmt9_run l1 l2 (fun t' tk => ⟨.str (fmtD (digs n)), H1, I1.tok _, ⟨_, rfl⟩, q⟩) hz (by omega)⟩)
end
section
variable {σ : L2.St} {H : Hp} {Q : VK} {t te : TE} {ts : List TE} {acc : Str} {QS : Str → Hp → Prop} {QB : Bool → Hp → Prop}
theorem w_js (k : t σ H fun x H1 => ∃ y : Str, x = .str y ∧ (acc ++ y).length ≤ sizeLine ∧ tJs ts (acc ++ y) σ H1 QS) : tJs (t :: ts) acc σ H QS := k
theorem w_jsN (k : QS acc H) : tJs [] acc σ H QS := k
theorem w_yes (k : QB true H) : tYes σ H QB := k
theorem w_fmt6 (k : te σ H fun x H1 => ∃ z : Str, x = .str z ∧ z.length ≤ 6 ∧ Q (.str (padR z)) H1) : tFmt6 te σ H Q := k
theorem w_fmt9 (k : te σ H fun x H1 => ∃ n : Nat, x = .int n ∧ n ≤ 1000000 ∧ Q (.str (fmtD (digs n))) H1) : tFmt9 te σ H Q := k
end
end FG
namespace FG
open PySem PySem.Spec L2
/-! str(a), repr(a) of an own class, and a staticmethod called by its class -/
theorem units64b {k : Nat} {A : Around} (hr : Room k A) : A.in1.in1.units < cLine ∧ A.in1.units < cLine := by
  have h := hr.un
  constructor
  · show A.units + 1 + 1 < _
    omega
  · show A.units + 1 < _
    omega
section
variable {X : Cx} {C f p : Addr} {k : Nat} {fd : FuncData} {ps : List Str} {sp : Sp}
/-- a call that hands back a text -/
def rOwnT (C : Addr) (sp : Sp) : List V → Hp → VK → Prop := fun xs H Q => ∃ a dx fs, xs = [.ref a] ∧ H a = some (.ins C dx fs) ∧ sp [.ref a] H (fun v H' => ∃ z : Str, v = .str z ∧ Q v H') E0
theorem call_strO (hs : PySem.W.findIn X.K (.ref C) "__str__" = some (some (.ref f))) (hf : PySem.W.isFn X.K (.ref f) = true) (F : FnOk X.prog X.w X.K X.mg X.base CX0 k f fd ps sp) (hr : Room (k + 2) X.A) (hb : Binds X.K fd ps []) (hu : X.A.in1.in1.units < cLine ∧ X.A.in1.units < cLine) : CallR X (.type "str") (rOwnT C sp) := by
  intro pins s σ H xs us Q I r h
  obtain ⟨a, dx, fs, rfl, ea, q⟩ := h
  obtain ⟨u, rfl, r1⟩ := vals1 r
  cases (show u = Value.ref a from r1)
  obtain ⟨mA, Ob, _⟩ := ins_get I.hok ea
  obtain ⟨od, J, _⟩ := Ob.look
  have hl : ([Value.ref a] ++ ([] : List Value)).length = ps.length := by
    rw [← F.len _ _ _ _ q]
    rfl
  have go := F.run X.A.in1.in1 X.stack s H ⟨[.ref a], []⟩ [.ref a] [.ref a] _ E0 hr.in1.in1 I.env0.in1.in1 (hb _ [.ref a] I.kIn hl) (.cons rfl .nil) q
  refine PySem.W.kso_call hu.1 I.kIn J hs hf (wpAny_call (codeAny_mono go fun res s' z => ?_))
  match res, z with
  | .error er, z => exact z.elim
  | .ok (.ret u), z =>
    obtain ⟨v, H', I', rv, y, rfl, hq⟩ := I.after z
    obtain ⟨t, rfl⟩ := rv
    exact ⟨.str y, H', I', ⟨t, rfl⟩, hq⟩
  | .ok .next, z => exact False.elim z
  | .ok .brk, z => exact False.elim z
  | .ok .cont, z => exact False.elim z
theorem call_reprO (hs : PySem.W.findIn X.K (.ref C) "__repr__" = some (some (.ref f))) (hf : PySem.W.isFn X.K (.ref f) = true) (F : FnOk X.prog X.w X.K X.mg X.base CX0 k f fd ps sp) (hr : Room (k + 1) X.A) (hb : Binds X.K fd ps []) (hu : X.A.in1.in1.units < cLine ∧ X.A.in1.units < cLine) : CallR X (.builtin "repr") (rOwnT C sp) := by
  intro pins s σ H xs us Q I r h
  obtain ⟨a, dx, fs, rfl, ea, q⟩ := h
  obtain ⟨u, rfl, r1⟩ := vals1 r
  cases (show u = Value.ref a from r1)
  obtain ⟨mA, Ob, _⟩ := ins_get I.hok ea
  obtain ⟨od, J, _⟩ := Ob.look
  obtain ⟨m, fr⟩ := I.fr
  have hl : ([Value.ref a] ++ ([] : List Value)).length = ps.length := by
    rw [← F.len _ _ _ _ q]
    rfl
  have go := F.run X.A.in1 X.stack s H ⟨[.ref a], []⟩ [.ref a] [.ref a] _ E0 hr.in1 I.env0.in1 (hb _ [.ref a] I.kIn hl) (.cons rfl .nil) q
  refine PySem.W.repr_K hu.2 fr I.ok.mod.kin J hs hf (wpAny_call (codeAny_mono go fun res s' z => ?_))
  match res, z with
  | .error er, z => exact z.elim
  | .ok (.ret u), z =>
    obtain ⟨v, H', I', rv, y, rfl, hq⟩ := I.after z
    obtain ⟨t, rfl⟩ := rv
    exact ⟨.str y, H', I', ⟨t, rfl⟩, hq⟩
  | .ok .next, z => exact False.elim z
  | .ok .brk, z => exact False.elim z
  | .ok .cont, z => exact False.elim z
/-- C.m is a staticmethod: its record at p, its def at f -/
structure SMet (K : PySem.W.Frag) (C : Addr) (m : Str) (p f : Addr) : Prop where
  at_ : PySem.W.findCls K (.ref C) (.type "type") m = some (.get (.builtin "staticmethod.__get__") (.ref p) .none (.ref C))
  rc : ∃ rest, PySem.W.recIn K p "staticmethod" = some (.ref f :: rest)
def tSMeth (C : Addr) (sp : Sp) (E : L2.St → XK) (ta : TE) (t : TA) : TE := fun σ H Q => ta σ H fun x H1 => x = .ref C ∧ t σ H1 fun vs H2 => sp vs H2 Q (E σ)
theorem pe_smeth {CX : CXT} {o e : Expr} {es : List Expr} {m : Str} {pos apos : Pos} {ta : TE} {t : TA} {pl : Sem Bool} {E : L2.St → XK} (he : PE X o ta) (r : ClX.CRead X.K C (.type "type")) (c : SMet X.K C m p f)
    (F : FnOk X.prog X.w X.K X.mg X.base CX k f fd ps sp) (hr : Room k X.A) (hk : PySem.W.keepIn X.K (.ref f) = true) (hb : Binds X.K fd ps []) (hx : ∀ σ, PassesAt CX X σ (E σ)) (ha : PA X (e :: es) t)
    (hst : starEach (e :: es) X.env = (false, eval e X.env) :: starEach es X.env := by rfl) (hpl : (backTo pos (starEach es X.env)).any (·.1) = false := by rfl)
    (ht : eval (.Call (.Attribute o m apos) (e :: es) [] pos) X.env = (do
      let ov ← eval o X.env
      standAt apos.atName
      let (f, first) ← holding [ov] (getMethod ov m pl)
      callWith pos f first (backTo pos (starEach (e :: es) X.env)) (backToKw pos (keywordEach [] X.env))) := by rfl) :
    PE X (.Call (.Attribute o m apos) (e :: es) [] pos) (tSMeth C sp E ta t) := by
  refine ⟨fun pins s σ H Q I h => ?_⟩
  refine PySem.W.methodCall_KW (pl := pl) (thn (he.run pins s σ H _ I h) fun u s1 ⟨x, H1, I1, rx, ex, q⟩ => ?_) ht
  subst ex
  obtain rfl : u = Value.ref C := rx
  obtain ⟨rest, hp⟩ := c.rc
  refine PySem.W.method_cls I1.kIn r.ga (PySem.W.cls_bind I1.kIn r.rd c.at_ ?_)
  refine wpAny_call (PySem.W.sm_get (s := { s1 with toks := s1.toks + 1 }) I1.kIn hp (PySem.W.handed_on rfl ?_))
  refine PySem.W.callWith_K (h₀ := X.base) (first := []) I.ok.mod.kin hk (thn (ha.run pos pins _ σ H1 _ (I1.tok _) q) fun us s3 ⟨vs, H2, I3, rv, q2⟩ => ⟨I3.kIn, ?_⟩) hst hpl
  exact run_fnSD (dvs := []) F hr hb .nil (hx σ) I3 rv (by rw [List.append_nil]; exact q2)
end
section
variable {σ : L2.St} {H : Hp} {Q : VK}
theorem w_smeth {C : Addr} {sp : Sp} {E : L2.St → XK} {ta : TE} {t : TA} (k : ta σ H fun x H1 => x = .ref C ∧ t σ H1 fun vs H2 => sp vs H2 Q (E σ)) : tSMeth C sp E ta t σ H Q := k
end
end FG
namespace FG
open PySem PySem.Spec L2 SX
/-! whole numbers and ratios as texts (codes) -/
def intL (i : Int) : List Nat := if i < 0 then 45 :: TL.numL i.natAbs else TL.numL i.natAbs
theorem intL_neg {i : Int} (h : i < 0) : intL i = 45 :: TL.numL i.natAbs := if_pos h
theorem intL_pos {i : Int} (h : ¬ i < 0) : intL i = TL.numL i.natAbs := if_neg h
theorem intL_nat (n : Nat) : intL (n : Int) = TL.numL n := by
  rw [intL_pos (by omega)]
  rfl
theorem int_text (i : Int) : Str.ofString (toString i) = S (intL i) := by
  by_cases h : i < 0
  · rw [intL_neg h]
    match i, h with
    | .negSucc n, _ =>
      refine TL.ext_tl ?_
      show (Str.ofString (toString (Int.negSucc n))).cps.toList = _
      rw [PyProof.Rows.signs_ofString]
      show ("-" ++ Nat.repr (n + 1)).toList.map Char.toNat = 45 :: TL.numL (n + 1)
      rw [String.toList_append, List.map_append, Nat.toList_repr]
      rfl
  · rw [intL_pos h]
    obtain ⟨n, rfl⟩ := Int.eq_ofNat_of_zero_le (show 0 ≤ i by omega)
    exact num_S n
theorem dig_back : ∀ c : Nat, c < 58 → (Char.ofNat c).toNat = c := by decide
theorem num_back {cs : List Nat} (h : NumText.AllDigits cs) (hz : cs = [48] ∨ ∃ c r, cs = c :: r ∧ 49 ≤ c) : TL.numL (NumText.digitsVal cs) = cs := by
  rcases hz with rfl | ⟨c, r, e, hc⟩
  · decide +kernel
  · have q := NumText.toDigits_digitsVal r.length cs (by rw [e]; rfl) h (.inr ⟨c, r, e, hc⟩)
    unfold TL.numL
    rw [q, List.map_map]
    refine (List.map_congr_left fun d hd => ?_).trans (List.map_id _)
    have := h d hd
    exact dig_back d (by omega)
theorem numL_head : ∀ {n : Nat}, 1 ≤ n → ∃ c r, TL.numL n = c :: r ∧ 49 ≤ c := by
  intro n
  induction n using Nat.strongRecOn with
  | _ n ih =>
    intro h
    by_cases c : n < 10
    · exact ⟨48 + n, [], TL.numL_lt c, by omega⟩
    · obtain ⟨d, r, e, hd⟩ := ih (n / 10) (by omega) (by omega)
      exact ⟨d, r ++ [48 + n % 10], by rw [TL.numL_step (by omega), e]; rfl, hd⟩
/-- what is_numeral asks -/
def digB (l : List Nat) : Bool := l.all fun c => decide (48 ≤ c) && decide (c ≤ 57)
def isNum (l : List Nat) : Bool :=
  let d := if l.take 1 = [45] then l.drop 1 else l
  if d = [] ∨ digB d = false then false else if d.take 1 = [48] then decide (l = [48]) else true
theorem digB_iff {l : List Nat} : digB l = true ↔ NumText.AllDigits l := by
  unfold digB NumText.AllDigits
  rw [List.all_eq_true]
  exact ⟨fun h c hc => by simpa using h c hc, fun h c hc => by simpa using h c hc⟩
theorem isNum_intL (i : Int) : isNum (intL i) = true := by
  have key : ∀ n : Nat, 1 ≤ n → TL.numL n ≠ [] ∧ digB (TL.numL n) = true ∧ (TL.numL n).take 1 ≠ [48] ∧ (TL.numL n).take 1 ≠ [45] := fun n hn => by
    obtain ⟨c, r, e, hc⟩ := numL_head hn
    refine ⟨TL.numL_ne n, digB_iff.mpr (TL.numL_digits n), ?_, ?_⟩ <;> rw [e] <;> simp <;> omega
  by_cases h : i < 0
  · obtain ⟨h1, h2, h3, h4⟩ := key i.natAbs (by omega)
    rw [intL_neg h]
    unfold isNum
    simp [h1, h2, h3]
  · rw [intL_pos h]
    by_cases z : i.natAbs = 0
    · rw [z]
      decide +kernel
    · obtain ⟨h1, h2, h3, h4⟩ := key i.natAbs (by omega)
      unfold isNum
      simp [h1, h2, h3, h4]
theorem isNum_ex {l : List Nat} (h : isNum l = true) : ∃ i : Int, l = intL i := by
  unfold isNum at h
  by_cases c : l.take 1 = [45]
  · match l, c with
    | x :: d, c =>
      have hx : x = 45 := by simpa using c
      subst hx
      simp only [List.take_succ_cons, List.take_zero, if_true, List.drop_succ_cons, List.drop_zero] at h
      split at h
      · cases h
      · rename_i h1
        have h2 : d ≠ [] := fun z => h1 (.inl z)
        have h3 : digB d = true := by
          cases e : digB d with
          | true => rfl
          | false => exact absurd (.inr e) h1
        have hd := digB_iff.mp h3
        split at h
        · exact absurd (of_decide_eq_true h) (by simp)
        · rename_i h4
          match d, h2, h4, hd with
          | e :: r, _, h4, hd =>
            have he : 49 ≤ e := by
              have := hd e List.mem_cons_self
              have : e ≠ 48 := fun z => h4 (by simp [z])
              omega
            have hp := NumText.digitsVal_pos (cs := r) he
            refine ⟨-((NumText.digitsVal (e :: r) : Nat) : Int), ?_⟩
            rw [intL_neg (by omega), Int.natAbs_neg, Int.natAbs_natCast, num_back hd (.inr ⟨e, r, rfl, he⟩)]
  · rw [if_neg c] at h
    dsimp only at h
    split at h
    · cases h
    · rename_i h1
      have h2 : l ≠ [] := fun z => h1 (.inl z)
      have h3 : digB l = true := by
        cases e : digB l with
        | true => rfl
        | false => exact absurd (.inr e) h1
      have hd := digB_iff.mp h3
      refine ⟨((NumText.digitsVal l : Nat) : Int), ?_⟩
      rw [intL_nat, num_back hd]
      split at h
      · exact .inl (of_decide_eq_true h)
      · rename_i h4
        match l, h2, h4, hd with
        | e :: r, _, h4, hd =>
          have := hd e List.mem_cons_self
          have : e ≠ 48 := fun z => h4 (by simp [z])
          exact .inr ⟨e, r, rfl, by omega⟩
theorem intL_reads {i : Int} (h : (intL i).length ≤ 4300) : intText? (S (intL i)) = some i := by
  by_cases c : i < 0
  · rw [intL_neg c] at h ⊢
    have q := intText_neg (x := S (45 :: TL.numL i.natAbs)) rfl (TL.numL_digits _) (TL.numL_ne _) (by rw [S_len]; exact h)
    rw [q, TL.numL_val]
    congr 1
    omega
  · rw [intL_pos c] at h ⊢
    have q := intText_digits (x := S (TL.numL i.natAbs)) (TL.numL_digits _) (TL.numL_ne _) (by rw [S_len]; exact h)
    rw [q]
    show some ((NumText.digitsVal (TL.numL i.natAbs) : Nat) : Int) = _
    rw [TL.numL_val]
    congr 1
    omega
theorem intL_inj {i j : Int} (h : intL i = intL j) : i = j := by
  have key : ∀ n m : Nat, 45 :: TL.numL n ≠ TL.numL m := fun n m z => by
    have := TL.numL_digits m 45 (by rw [← z]; exact List.mem_cons_self)
    omega
  by_cases c : i < 0 <;> by_cases d : j < 0
  · rw [intL_neg c, intL_neg d] at h
    have := TL.numL_inj (List.cons.inj h).2
    omega
  · rw [intL_neg c, intL_pos d] at h
    exact absurd h (key _ _)
  · rw [intL_pos c, intL_neg d] at h
    exact absurd h.symm (key _ _)
  · rw [intL_pos c, intL_pos d] at h
    have := TL.numL_inj h
    omega
theorem intL_mem {i : Int} {c : Nat} (h : c ∈ intL i) : c = 45 ∨ (48 ≤ c ∧ c ≤ 57) := by
  unfold intL at h
  split at h
  · rcases List.mem_cons.mp h with h | h
    · exact .inl h
    · exact .inr (TL.numL_digits _ c h)
  · exact .inr (TL.numL_digits _ c h)
theorem intL_ne (i : Int) : intL i ≠ [] := by
  unfold intL
  split
  · simp
  · exact TL.numL_ne _
def ratL (t b : Int) : List Nat := if b = 1 then intL t else intL t ++ 47 :: intL b
theorem split1 : ∀ {p p' q q' : List Nat}, 47 ∉ p → 47 ∉ p' → p ++ 47 :: q = p' ++ 47 :: q' → p = p' ∧ q = q'
  | [], [], _, _, _, _, e => ⟨rfl, (List.cons.inj e).2⟩
  | [], c :: p', _, _, _, h2, e => absurd ((List.cons.inj e).1 ▸ List.mem_cons_self) h2
  | c :: p, [], _, _, h1, _, e => absurd ((List.cons.inj e).1 ▸ List.mem_cons_self) h1
  | c :: p, c' :: p', q, q', h1, h2, e => by
    obtain ⟨e1, e2⟩ := List.cons.inj e
    obtain ⟨r1, r2⟩ := split1 (fun z => h1 (List.mem_cons_of_mem _ z)) (fun z => h2 (List.mem_cons_of_mem _ z)) e2
    exact ⟨by rw [e1, r1], r2⟩
theorem intL_47 (i : Int) : 47 ∉ intL i := fun h => by
  have := intL_mem h
  omega
theorem rat_split {p q : List Nat} {t b : Int} (h : p ++ 47 :: q = ratL t b) (hp : 47 ∉ p) : p = intL t ∧ q = intL b ∧ b ≠ 1 := by
  unfold ratL at h
  split at h
  · exact absurd (h ▸ List.mem_append_right _ List.mem_cons_self) (intL_47 t)
  · rename_i c
    obtain ⟨h1, h2⟩ := split1 hp (intL_47 t) h
    exact ⟨h1, h2, c⟩
theorem rat_none {l : List Nat} {t b : Int} (h : l = ratL t b) (hl : 47 ∉ l) : b = 1 ∧ l = intL t := by
  unfold ratL at h
  split at h
  · rename_i c
    exact ⟨c, h⟩
  · exact absurd (h ▸ List.mem_append_right _ List.mem_cons_self) hl
/-- l is the text of the ratio t over b, in lowest terms -/
def RatOk (l : List Nat) (t b : Int) : Prop := 0 < b ∧ Int.gcd t b = 1 ∧ l = ratL t b
theorem rat_uniq {l : List Nat} {t b t' b' : Int} (h : l = ratL t b) (h' : l = ratL t' b') : t = t' ∧ b = b' := by
  by_cases c : 47 ∈ l
  · obtain ⟨p, q, e, hp⟩ := List.eq_append_cons_of_mem c
    subst e
    obtain ⟨h1, h2, _⟩ := rat_split h hp
    obtain ⟨h3, h4, _⟩ := rat_split h' hp
    exact ⟨intL_inj (h1.symm.trans h3), intL_inj (h2.symm.trans h4)⟩
  · obtain ⟨h1, h2⟩ := rat_none h c
    obtain ⟨h3, h4⟩ := rat_none h' c
    exact ⟨intL_inj (h2.symm.trans h4), h1.trans h3.symm⟩
theorem cut_head (l : List Nat) : cutS (S l) none (some 1) = S (l.take 1) := by
  cases l <;> rfl
theorem cut_tail (l : List Nat) : cutS (S l) (some 1) none = S (l.drop 1) := by
  refine TL.ext_tl ?_
  unfold cutS
  have e1 : HT.sIx (S l).length 0 (some 1) = min 1 l.length := by
    rw [S_len]
    unfold HT.sIx
    simp
  have e2 : HT.sIx (S l).length (S l).length none = l.length := by
    rw [S_len]
    unfold HT.sIx
    simp
  rw [e1, e2]
  cases l <;> simp
theorem low_flip {t b : Int} (h : b < 0) : lowT t b = lowT (-t) (-b) ∧ lowB t b = lowB (-t) (-b) := by
  have g : Int.gcd (-t) (-b) = Int.gcd t b := by rw [Int.neg_gcd, Int.gcd_neg]
  have e1 : sgn b (Int.gcd t b) = -((Int.gcd t b : Nat) : Int) := if_pos h
  have e2 : sgn (-b) (Int.gcd t b) = ((Int.gcd t b : Nat) : Int) := sgn_pos (by omega)
  unfold lowT lowB
  rw [g, e1, e2]
  have q1 := Int.neg_fdiv_neg (-t) ((Int.gcd t b : Nat) : Int)
  have q2 := Int.neg_fdiv_neg (-b) ((Int.gcd t b : Nat) : Int)
  rw [Int.neg_neg] at q1 q2
  exact ⟨q1, q2⟩
theorem low_ne {t b : Int} (h : b ≠ 0) : Low (lowT t b) (lowB t b) ∧ (lowT t b).natAbs ≤ t.natAbs ∧ (lowB t b).natAbs ≤ b.natAbs := by
  by_cases c : 0 < b
  · have l := low_low (t := t) c
    have q := low_bound (t := t) c
    have := l.pos
    exact ⟨l, q.1, by omega⟩
  · have f := low_flip (t := t) (show b < 0 by omega)
    rw [f.1, f.2]
    have l := low_low (t := -t) (show 0 < -b by omega)
    have q := low_bound (t := -t) (show 0 < -b by omega)
    have := l.pos
    exact ⟨l, by omega, by omega⟩
theorem numL_up : ∀ n : Nat, n < 10 ^ (TL.numL n).length := by
  intro n
  induction n using Nat.strongRecOn with
  | _ n ih =>
    by_cases c : n < 10
    · rw [TL.numL_lt c]
      exact c
    · rw [TL.numL_step (by omega), List.length_append, List.length_singleton, Nat.pow_succ]
      have := ih (n / 10) (by omega)
      omega
theorem intL_up {i : Int} {k : Nat} (h : (intL i).length ≤ k) : i.natAbs < 10 ^ k := by
  refine Nat.lt_of_lt_of_le (numL_up i.natAbs) (Nat.pow_le_pow_right (by decide) ?_)
  unfold intL at h
  split at h
  · rw [List.length_cons] at h
    omega
  · exact h
/-- what text.partition('/') gives, and what Ratio.read makes of it -/
theorem part_ok {l : List Nat} (asc : ∀ c ∈ l, c < 128) (len : l.length ≤ 100) : ∃ f sl g : List Nat, Txt.partition (S l) (Str.ofString "/") = (S f, S sl, S g) ∧ (∀ c ∈ f, c < 128) ∧ f.length ≤ 100 ∧
    (∀ c ∈ (if sl = [] then [49] else g), c < 128) ∧ (if sl = [] then [49] else g).length ≤ 100 ∧ ∀ t b, l = ratL t b → f = intL t ∧ (if sl = [] then [49] else g) = intL b := by
  rw [show Str.ofString "/" = S [47] from by decide +kernel]
  by_cases c : 47 ∈ l
  · obtain ⟨p, q, e, hp⟩ := List.eq_append_cons_of_mem c
    subst e
    refine ⟨p, [47], q, partition_some (by simp) (par_head (sep := []) q hp), fun c hc => asc c (List.mem_append_left _ hc), ?_, ?_, ?_, ?_⟩
    · rw [List.length_append] at len
      omega
    · rw [if_neg (by simp)]
      exact fun c hc => asc c (List.mem_append_right _ (List.mem_cons_of_mem _ hc))
    · rw [if_neg (by simp)]
      rw [List.length_append, List.length_cons] at len
      omega
    · rw [if_neg (by simp)]
      intro t b h
      obtain ⟨h1, h2, _⟩ := rat_split h hp
      exact ⟨h1, h2⟩
  · refine ⟨l, [], [], partition_none (by simp) (par_head_none (sep := []) c), asc, len, ?_, ?_, ?_⟩
    · rw [if_pos rfl]
      simp
    · rw [if_pos rfl]
      decide
    · rw [if_pos rfl]
      intro t b h
      obtain ⟨h1, h2⟩ := rat_none h c
      subst h1
      exact ⟨h2, by decide +kernel⟩
theorem val_zeros : ∀ z : Nat, NumText.digitsVal (49 :: List.replicate z 48) = 10 ^ z
  | 0 => rfl
  | z + 1 => by
    rw [List.replicate_succ', ← List.cons_append, NumText.digitsVal_snoc, val_zeros z, Nat.pow_succ]
    rfl
theorem all_rep {k d : Nat} (h : 48 ≤ d ∧ d ≤ 57) : NumText.AllDigits (List.replicate k d) := fun c hc => by
  rw [List.eq_of_mem_replicate hc]
  exact h
theorem val_nines (k : Nat) : NumText.digitsVal (List.replicate (k + 1) 57) % 10 = 9 := by
  rw [List.replicate_succ', NumText.digitsVal_snoc]
  omega
/-- the sign's codes -/
def sgL (neg : Bool) : List Nat := if neg then [45] else []
theorem sg_int {neg : Bool} {cs : List Nat} (h : NumText.AllDigits cs) {c : Nat} {r : List Nat} (e : cs = c :: r) (hc : 49 ≤ c) : sgL neg ++ cs = intL (if neg then -((NumText.digitsVal cs : Nat) : Int) else (NumText.digitsVal cs : Nat)) := by
  have hp : 0 < NumText.digitsVal cs := by
    rw [e]
    exact NumText.digitsVal_pos hc
  cases neg with
  | true =>
    show 45 :: cs = intL (-((NumText.digitsVal cs : Nat) : Int))
    rw [intL_neg (by omega), Int.natAbs_neg, Int.natAbs_natCast, num_back h (.inr ⟨c, r, e, hc⟩)]
  | false =>
    show cs = intL ((NumText.digitsVal cs : Nat) : Int)
    rw [intL_nat, num_back h (.inr ⟨c, r, e, hc⟩)]
theorem run_int (neg : Bool) {k d : Nat} (h : 49 ≤ d ∧ d ≤ 57) (hk : 1 ≤ k) : ∃ n : Int, sgL neg ++ List.replicate k d = intL n := by
  obtain ⟨j, rfl⟩ : ∃ j, k = j + 1 := ⟨k - 1, by omega⟩
  exact ⟨_, sg_int (all_rep ⟨by omega, h.2⟩) (c := d) (r := List.replicate j d) rfl h.1⟩
theorem both_int (neg : Bool) (z : Nat) {k : Nat} (hk : 1 ≤ k) : ∃ n m : Int, (sgL neg ++ [49]) ++ List.replicate z 48 = intL n ∧ List.replicate k 57 = intL m ∧ 1 < m ∧ Int.gcd n m = 1 := by
  obtain ⟨j, rfl⟩ : ∃ j, k = j + 1 := ⟨k - 1, by omega⟩
  have v9 := val_nines j
  have a1 : NumText.AllDigits (49 :: List.replicate z 48) := fun c hc => by
    rcases List.mem_cons.mp hc with hc | hc
    · omega
    · have := List.eq_of_mem_replicate hc
      omega
  have e1 := sg_int (neg := neg) a1 (c := 49) (r := List.replicate z 48) rfl (by omega)
  have e2 := sg_int (neg := false) (all_rep (k := j + 1) (d := 57) (by decide)) (c := 57) (r := List.replicate j 57) rfl (by omega)
  rw [val_zeros] at e1
  refine ⟨_, _, by rw [List.append_assoc]; exact e1, e2, ?_, ?_⟩
  · show (1 : Int) < ((NumText.digitsVal (List.replicate (j + 1) 57) : Nat) : Int)
    omega
  · show Int.gcd _ ((NumText.digitsVal (List.replicate (j + 1) 57) : Nat) : Int) = 1
    generalize NumText.digitsVal (List.replicate (j + 1) 57) = v at v9
    have g : Nat.gcd (10 ^ z) v = 1 := by
      refine Nat.Coprime.pow_left z ?_
      show Nat.gcd 10 v = 1
      rw [Nat.gcd_rec, v9]
      decide
    cases neg with
    | true =>
      show Int.gcd (-((10 ^ z : Nat) : Int)) (v : Int) = 1
      rw [Int.neg_gcd]
      exact g
    | false => exact g
theorem rep_S (c n : Nat) : repS (S [c]) n = S (List.replicate n c) := by
  unfold repS
  refine TL.ext_tl ?_
  show (List.replicate n [c]).flatten = List.replicate n c
  induction n with
  | zero => rfl
  | succ n ih => rw [List.replicate_succ, List.flatten_cons, ih]; rfl
end FG
namespace FG
open PySem L2
/-! ### the text by places -/
def topS (i : Nat) : Stmt := PySem.Challenge.pw_fontgap_k04_ratio_written_and_read.main.body.getD i (.Pass ⟨0, 0, 0, 0⟩)
abbrev s_is_integer : Stmt := topS 5
theorem sc_is_integer : FnScope (["value"] : List Str) (["value"] : List Str) (defScope s_is_integer) := ⟨rfl, rfl, rfl, by decide +kernel, rfl, by decide +kernel, by decide +kernel⟩
abbrev s_greatest_divisor : Stmt := topS 8
theorem sc_greatest_divisor : FnScope (["left", "right"] : List Str) (["left", "right"] : List Str) (defScope s_greatest_divisor) := ⟨rfl, rfl, rfl, by decide +kernel, rfl, by decide +kernel, by decide +kernel⟩
abbrev s_law_bag : Stmt := topS 12
theorem sc_law_bag : FnScope (["_law_script"] : List Str) (["_law_script"] : List Str) (defScope s_law_bag) := ⟨rfl, rfl, rfl, by decide +kernel, rfl, by decide +kernel, by decide +kernel⟩
abbrev s_law_take : Stmt := topS 13
theorem sc_law_take : FnScope (["_law_bag_here", "_law_size", "_law_digit", "_law_cell"] : List Str) (["_law_bag_here", "_law_size"] : List Str) (defScope s_law_take) := ⟨rfl, rfl, rfl, by decide +kernel, rfl, by decide +kernel, by decide +kernel⟩
abbrev s_Ratio_init : Stmt := inClass (topS 10) 1
theorem sc_Ratio_init : FnScope (["self", "top", "bottom", "shared"] : List Str) (["self", "top", "bottom"] : List Str) (defScope s_Ratio_init) := ⟨rfl, rfl, rfl, by decide +kernel, rfl, by decide +kernel, by decide +kernel⟩
abbrev s_is_numeral : Stmt := topS 6
theorem sc_is_numeral : FnScope (["word", "digits"] : List Str) (["word"] : List Str) (defScope s_is_numeral) := ⟨rfl, rfl, rfl, by decide +kernel, rfl, by decide +kernel, by decide +kernel⟩
abbrev s_Ratio_str : Stmt := inClass (topS 10) 11
theorem sc_Ratio_str : FnScope (["self"] : List Str) (["self"] : List Str) (defScope s_Ratio_str) := ⟨rfl, rfl, rfl, by decide +kernel, rfl, by decide +kernel, by decide +kernel⟩
abbrev s_Ratio_repr : Stmt := inClass (topS 10) 12
theorem sc_Ratio_repr : FnScope (["self"] : List Str) (["self"] : List Str) (defScope s_Ratio_repr) := ⟨rfl, rfl, rfl, by decide +kernel, rfl, by decide +kernel, by decide +kernel⟩
abbrev s_Ratio_read : Stmt := inClass (topS 10) 16
theorem sc_Ratio_read : FnScope (["text", "first", "slash", "second", "ratio"] : List Str) (["text"] : List Str) (defScope s_Ratio_read) := ⟨rfl, rfl, rfl, by decide +kernel, rfl, by decide +kernel, by decide +kernel⟩
abbrev s_law_int : Stmt := topS 16
theorem sc_law_int : FnScope (["_law_actual"] : List Str) (["_law_actual"] : List Str) (defScope s_law_int) := ⟨rfl, rfl, rfl, by decide +kernel, rfl, by decide +kernel, by decide +kernel⟩
abbrev s_law_is : Stmt := topS 17
theorem sc_law_is : FnScope (["_law_actual", "_law_due"] : List Str) (["_law_actual", "_law_due"] : List Str) (defScope s_law_is) := ⟨rfl, rfl, rfl, by decide +kernel, rfl, by decide +kernel, by decide +kernel⟩
abbrev s_law_lowest : Stmt := topS 14
theorem sc_law_lowest : FnScope (["_law_top", "_law_bottom", "_law_left", "_law_right", "_law_k", "_law_rest"] : List Str) (["_law_top", "_law_bottom"] : List Str) (defScope s_law_lowest) := ⟨rfl, rfl, rfl, by decide +kernel, rfl, by decide +kernel, by decide +kernel⟩
abbrev s_law_fraction : Stmt := topS 15
theorem sc_law_fraction : FnScope (["_law_bag_here", "_law_wide", "_law_top"] : List Str) (["_law_bag_here"] : List Str) (defScope s_law_fraction) := ⟨rfl, rfl, rfl, by decide +kernel, rfl, by decide +kernel, by decide +kernel⟩
abbrev s_law_refused : Stmt := topS 18
theorem sc_law_refused : FnScope (["_law_text", "e"] : List Str) (["_law_text"] : List Str) (defScope s_law_refused) := ⟨rfl, rfl, rfl, by decide +kernel, rfl, by decide +kernel, by decide +kernel⟩
abbrev s_law_miss : Stmt := topS 19
theorem sc_law_miss : FnScope (["_law_choice", "_law_a", "_law_text", "_law_top", "_law_bottom", "_law_rows"] : List Str) (["_law_choice", "_law_a", "_law_text"] : List Str) (defScope s_law_miss) := ⟨rfl, rfl, rfl, by decide +kernel, rfl, by decide +kernel, by decide +kernel⟩
abbrev s_law : Stmt := topS 20
theorem sc_law : FnScope (["_law_script", "_law_bag_here", "_law_choice", "_law_digit", "_law_sign", "_law_long", "_law_a", "_law_ratio", "_law_text", "_law_run", "_law_zeros", "_law_parts", "_law_both"] : List Str) (["_law_script"] : List Str) (defScope s_law) := ⟨rfl, rfl, rfl, by decide +kernel, rfl, by decide +kernel, by decide +kernel⟩
abbrev s_InvalidNumber_init : Stmt := inClass (topS 3) 0
/-! ### what the top has left: the places -/
structure Ad where
  f_is_integer : Addr
  d_is_integer : FuncData
  f_greatest_divisor : Addr
  d_greatest_divisor : FuncData
  f_law_bag : Addr
  d_law_bag : FuncData
  f_law_take : Addr
  d_law_take : FuncData
  f_Ratio_init : Addr
  d_Ratio_init : FuncData
  v1_Ratio_init : List Value
  f_is_numeral : Addr
  d_is_numeral : FuncData
  f_Ratio_str : Addr
  d_Ratio_str : FuncData
  f_Ratio_repr : Addr
  d_Ratio_repr : FuncData
  f_Ratio_read : Addr
  d_Ratio_read : FuncData
  p_Ratio_read : Addr
  f_law_int : Addr
  d_law_int : FuncData
  f_law_is : Addr
  d_law_is : FuncData
  f_law_lowest : Addr
  d_law_lowest : FuncData
  f_law_fraction : Addr
  d_law_fraction : FuncData
  f_law_refused : Addr
  d_law_refused : FuncData
  f_law_miss : Addr
  d_law_miss : FuncData
  f_law : Addr
  d_law : FuncData
  C_Ratio : Addr
  C_InvalidNumber : Addr
  i_InvalidNumber : Addr
  c_InvalidNumber : Addr
  k_InvalidNumber : Addr
/-- .. and what is true of them -/
structure Txt (P : Program) (K : PySem.W.Frag) (mg : Str → Option Value) (base : Heap) (a : Ad) : Prop where
  F_is_integer : Fun K "is_integer" "is_integer" s_is_integer a.f_is_integer a.d_is_integer
  B_is_integer : Binds K a.d_is_integer (["value"] : List Str) []
  g_is_integer : mg "is_integer" = some (.ref a.f_is_integer)
  k_is_integer : PySem.W.keepIn K (.ref a.f_is_integer) = true
  F_greatest_divisor : Fun K "greatest_divisor" "greatest_divisor" s_greatest_divisor a.f_greatest_divisor a.d_greatest_divisor
  B_greatest_divisor : Binds K a.d_greatest_divisor (["left", "right"] : List Str) []
  g_greatest_divisor : mg "greatest_divisor" = some (.ref a.f_greatest_divisor)
  k_greatest_divisor : PySem.W.keepIn K (.ref a.f_greatest_divisor) = true
  F_law_bag : Fun K "_law_bag" "_law_bag" s_law_bag a.f_law_bag a.d_law_bag
  B_law_bag : Binds K a.d_law_bag (["_law_script"] : List Str) []
  g_law_bag : mg "_law_bag" = some (.ref a.f_law_bag)
  k_law_bag : PySem.W.keepIn K (.ref a.f_law_bag) = true
  F_law_take : Fun K "_law_take" "_law_take" s_law_take a.f_law_take a.d_law_take
  B_law_take : Binds K a.d_law_take (["_law_bag_here", "_law_size"] : List Str) []
  g_law_take : mg "_law_take" = some (.ref a.f_law_take)
  k_law_take : PySem.W.keepIn K (.ref a.f_law_take) = true
  F_Ratio_init : FunD K "__init__" "Ratio.__init__" (defArgs s_Ratio_init) (defBody s_Ratio_init) (defScope s_Ratio_init) [V.int 1] [] a.f_Ratio_init a.d_Ratio_init
  B_Ratio_init : Binds K a.d_Ratio_init (["self", "top", "bottom"] : List Str) []
  B1_Ratio_init : Binds K a.d_Ratio_init (["self", "top", "bottom"] : List Str) a.v1_Ratio_init
  V1_Ratio_init : Vals [V.int 1] a.v1_Ratio_init
  F_is_numeral : Fun K "is_numeral" "is_numeral" s_is_numeral a.f_is_numeral a.d_is_numeral
  B_is_numeral : Binds K a.d_is_numeral (["word"] : List Str) []
  g_is_numeral : mg "is_numeral" = some (.ref a.f_is_numeral)
  k_is_numeral : PySem.W.keepIn K (.ref a.f_is_numeral) = true
  F_Ratio_str : Fun K "__str__" "Ratio.__str__" s_Ratio_str a.f_Ratio_str a.d_Ratio_str
  B_Ratio_str : Binds K a.d_Ratio_str (["self"] : List Str) []
  M_Ratio_str : Meth K a.C_Ratio "__str__" a.f_Ratio_str
  F_Ratio_repr : Fun K "__repr__" "Ratio.__repr__" s_Ratio_repr a.f_Ratio_repr a.d_Ratio_repr
  B_Ratio_repr : Binds K a.d_Ratio_repr (["self"] : List Str) []
  M_Ratio_repr : Meth K a.C_Ratio "__repr__" a.f_Ratio_repr
  F_Ratio_read : Fun K "read" "Ratio.read" s_Ratio_read a.f_Ratio_read a.d_Ratio_read
  B_Ratio_read : Binds K a.d_Ratio_read (["text"] : List Str) []
  S_Ratio_read : SMet K a.C_Ratio "read" a.p_Ratio_read a.f_Ratio_read
  k_Ratio_read : PySem.W.keepIn K (.ref a.f_Ratio_read) = true
  F_law_int : Fun K "_law_int" "_law_int" s_law_int a.f_law_int a.d_law_int
  B_law_int : Binds K a.d_law_int (["_law_actual"] : List Str) []
  g_law_int : mg "_law_int" = some (.ref a.f_law_int)
  k_law_int : PySem.W.keepIn K (.ref a.f_law_int) = true
  F_law_is : Fun K "_law_is" "_law_is" s_law_is a.f_law_is a.d_law_is
  B_law_is : Binds K a.d_law_is (["_law_actual", "_law_due"] : List Str) []
  g_law_is : mg "_law_is" = some (.ref a.f_law_is)
  k_law_is : PySem.W.keepIn K (.ref a.f_law_is) = true
  F_law_lowest : Fun K "_law_lowest" "_law_lowest" s_law_lowest a.f_law_lowest a.d_law_lowest
  B_law_lowest : Binds K a.d_law_lowest (["_law_top", "_law_bottom"] : List Str) []
  g_law_lowest : mg "_law_lowest" = some (.ref a.f_law_lowest)
  k_law_lowest : PySem.W.keepIn K (.ref a.f_law_lowest) = true
  F_law_fraction : Fun K "_law_fraction" "_law_fraction" s_law_fraction a.f_law_fraction a.d_law_fraction
  B_law_fraction : Binds K a.d_law_fraction (["_law_bag_here"] : List Str) []
  g_law_fraction : mg "_law_fraction" = some (.ref a.f_law_fraction)
  k_law_fraction : PySem.W.keepIn K (.ref a.f_law_fraction) = true
  F_law_refused : Fun K "_law_refused" "_law_refused" s_law_refused a.f_law_refused a.d_law_refused
  B_law_refused : Binds K a.d_law_refused (["_law_text"] : List Str) []
  g_law_refused : mg "_law_refused" = some (.ref a.f_law_refused)
  k_law_refused : PySem.W.keepIn K (.ref a.f_law_refused) = true
  F_law_miss : Fun K "_law_miss" "_law_miss" s_law_miss a.f_law_miss a.d_law_miss
  B_law_miss : Binds K a.d_law_miss (["_law_choice", "_law_a", "_law_text"] : List Str) []
  g_law_miss : mg "_law_miss" = some (.ref a.f_law_miss)
  k_law_miss : PySem.W.keepIn K (.ref a.f_law_miss) = true
  F_law : Fun K "law" "law" s_law a.f_law a.d_law
  B_law : Binds K a.d_law (["_law_script"] : List Str) []
  g_law : mg "law" = some (.ref a.f_law)
  k_law : PySem.W.keepIn K (.ref a.f_law) = true
  cr_Ratio : ClX.CRead K a.C_Ratio (.type "type")
  cv_Ratio_MOST_TEXT : ∃ u, ClX.CVal K a.C_Ratio (.type "type") "MOST_TEXT" (.int 100) u
  g_Ratio : mg "Ratio" = some (.ref a.C_Ratio)
  c_Ratio : Cls K a.C_Ratio
  I_Ratio : InsC K a.C_Ratio
  M_Ratio : Mk K a.C_Ratio a.f_Ratio_init
  E_InvalidNumber : ErrC P K mg "InvalidNumber" "InvalidNumber.__init__" (defArgs s_InvalidNumber_init) (defBody s_InvalidNumber_init) (defScope s_InvalidNumber_init) a.C_InvalidNumber a.i_InvalidNumber a.c_InvalidNumber a.k_InvalidNumber
  Y_InvalidNumber : Txt1 "InvalidNumber.__init__" "value" "not a valid number" (defArgs s_InvalidNumber_init) (defBody s_InvalidNumber_init) (defScope s_InvalidNumber_init)
  X_InvalidNumber : ExcC K a.C_InvalidNumber
  x_InvalidNumber_value : PySem.W.findIn K (.ref a.C_InvalidNumber) "value" = some none
  n_abs : mg "abs" = none
  n_bool : mg "bool" = none
  n_int : mg "int" = none
  n_isinstance : mg "isinstance" = none
  n_len : mg "len" = none
  n_list : mg "list" = none
  n_range : mg "range" = none
  n_repr : mg "repr" = none
  n_str : mg "str" = none
  na_Ratio_top : NoAttr K a.C_Ratio "top"
  na_Ratio_bottom : NoAttr K a.C_Ratio "bottom"
  xm_IN : PySem.W.exmOne K (.ref a.C_InvalidNumber) (.ref a.C_InvalidNumber) = some true
theorem bb_abs : bootBuiltins "abs" = some (.builtin "abs") := by decide +kernel
theorem bb_bool : bootBuiltins "bool" = some (.type "bool") := by decide +kernel
theorem bb_int : bootBuiltins "int" = some (.type "int") := by decide +kernel
theorem bb_isinstance : bootBuiltins "isinstance" = some (.builtin "isinstance") := by decide +kernel
theorem bb_len : bootBuiltins "len" = some (.builtin "len") := by decide +kernel
theorem bb_list : bootBuiltins "list" = some (.type "list") := by decide +kernel
theorem bb_range : bootBuiltins "range" = some (.type "range") := by decide +kernel
theorem bb_repr : bootBuiltins "repr" = some (.builtin "repr") := by decide +kernel
theorem bb_str : bootBuiltins "str" = some (.type "str") := by decide +kernel
end FG
namespace FG
open PySem PySem.Spec L2
local macro_rules | `(tactic| walk_at "s") => `(tactic| first
  | with_reducible refine w_seq ?_
  | with_reducible refine w_asg ?_
  | with_reducible refine w_ifs ?_
  | with_reducible refine w_ret ?_
  | with_reducible refine w_drop ?_
  | ((with_reducible refine' w_var ?h1 ?_); case h1 => rfl)
  | with_reducible refine w_c ?_
  | with_reducible refine w_op ?_
  | with_reducible refine w_I0 ?_
  | with_reducible refine w_cons ?_
  | with_reducible refine w_nil ?_
  | ((with_reducible refine' w_gname ?h1 ?_); case h1 => dsimp only [List.set])
  | with_reducible refine w_test ?_
  | with_reducible refine w_bl ?_
  | with_reducible refine w_blE ?_
  | with_reducible refine w_cb ?_
  | with_reducible refine w_call ?_
  | with_reducible refine w_callSD ?_
  | with_reducible refine w_andV ?_
  | with_reducible refine w_orV ?_
  | with_reducible refine w_notV ?_
  | with_reducible refine w_and ?_
  | with_reducible refine w_or ?_
  | with_reducible refine w_not ?_
  | with_reducible refine w_if ?_
  | with_reducible refine w_un ?_
  | with_reducible refine w_U ?_
  | with_reducible refine w_next ?_
  | with_reducible refine w_retN ?_
  | with_reducible refine w_tB ?_
  | with_reducible refine w_tup ?_
  | with_reducible refine w_lst ?_
  | with_reducible refine w_abs ?_
  | with_reducible refine w_int1 ?_
  | ((with_reducible refine' w_eq ?h1 ?_); case h1 => rfl)
  | ((with_reducible refine' w_ne ?h1 ?_); case h1 => rfl)
  | with_reducible refine w_gsub ?_
  | with_reducible refine w_sfld ?_
  | with_reducible refine w_par ?_
  | with_reducible refine w_rs ?_
  | with_reducible refine w_forR1 ?_
  | with_reducible refine w_forR2 ?_
  | with_reducible refine w_forL ?_
  | with_reducible refine w_fld ?_
  | with_reducible refine iteT ?_
  | with_reducible refine iteF ?_
  | with_reducible refine iteNT ?_
  | with_reducible refine iteNF ?_
  | with_reducible refine w_mk1 ?_
  | with_reducible refine w_mk2 ?_
  | with_reducible refine w_one ?_
  | with_reducible refine w_two ?_
  | with_reducible refine w_sl ?_
  | with_reducible refine w_nopart ?_
  | with_reducible refine w_part ?_
  | with_reducible refine w_exI ?_
  | with_reducible refine w_mks ?_
  | with_reducible refine w_isN ?_
  | with_reducible refine w_notN ?_
  | with_reducible refine w_min2 ?_
  | with_reducible refine w_max2 ?_
  | ((with_reducible refine' w_ix ?h1 ?h2 ?_); (case h1 => walk_at "q"); (case h2 => rfl))
  | ((with_reducible refine' w_ixT ?h1 ?h2 ?_); (case h1 => walk_at "q"); (case h2 => rfl))
  | ((with_reducible refine' w_setL ?h1 ?h2 ?_); (case h1 => walk_at "h"); (case h2 => rfl))
  | ((with_reducible refine' w_lenS ?h1 ?_); (case h1 => walk_at "q"))
  | ((with_reducible refine' w_lenT ?h1 ?_); (case h1 => walk_at "q"))
  | ((with_reducible refine' w_I ?h1 ?_); (case h1 => first | (show (0 : Int) < _; first | decide | assumption) | exact ⟨by decide, by decide, by decide⟩ | (show CDivX _ _; exact ⟨by decide, by decide +kernel⟩) | (show CDivX _ _; with_reducible apply_assumption) | (show CMulW _ _; exact small_mul (by with_reducible assumption) (by with_reducible assumption)) | (show CMul _ _; first | exact Or.inl ⟨by decide, by decide⟩ | exact Or.inr ⟨by decide, by decide⟩ | exact Or.inl ⟨by omega, by omega⟩ | exact Or.inr ⟨by omega, by omega⟩))))
local macro_rules | `(tactic| walk_at "h") => `(tactic| first | with_reducible assumption | exact upd_same | (refine upd_old ?_ ?_ <;> with_reducible assumption) | ((refine (upd_ne ?_).trans ?_) <;> (first | assumption | walk_at "h" | exact Ne.symm (by assumption))))
local macro_rules | `(tactic| walk_at "q") => `(tactic| first | with_reducible assumption | exact SqL.of (by walk_at "h") | exact SqT.of (by walk_at "h"))
local macro_rules | `(tactic| walk_at "w") => `(tactic| repeat (walk_at "s"))

/-- what isinstance(x, int) and not isinstance(x, bool) gives -/
def IsI (K : PySem.W.Frag) (H : Hp) (x : V) (b : Bool) : Prop := ∃ t b1 b2, TyX K H x t ∧ PySem.W.kitOne K t (.type "int") = some b1 ∧ (b1 = true → PySem.W.kitOne K t (.type "bool") = some b2) ∧ b = (b1 && !b2)
theorem isI_int {K : PySem.W.Frag} {H : Hp} (i : Int) : IsI K H (.int i) true := ⟨_, true, false, .base (.int i), kit_ty (by decide +kernel), fun _ => kit_ty (by decide +kernel), rfl⟩
theorem isI_bl {K : PySem.W.Frag} {H : Hp} (b : Bool) : IsI K H (.bl b) false := ⟨_, true, true, .base (.bl b), kit_ty (by decide +kernel), fun _ => kit_ty (by decide +kernel), rfl⟩
theorem isI_non {K : PySem.W.Frag} {H : Hp} : IsI K H .non false := ⟨_, false, false, .base .non, kit_ty (by decide +kernel), (fun z => by cases z), rfl⟩
theorem isI_str {K : PySem.W.Frag} {H : Hp} (x : Str) : IsI K H (.str x) false := ⟨_, false, false, .base (.str x), kit_ty (by decide +kernel), (fun z => by cases z), rfl⟩
theorem isI_lst {K : PySem.W.Frag} {H : Hp} {a : Addr} {xs : List V} (e : H a = some (.lst xs)) : IsI K H (.ref a) false := ⟨_, false, false, .base (.lst e), kit_ty (by decide +kernel), (fun z => by cases z), rfl⟩
theorem isI_tup {K : PySem.W.Frag} {H : Hp} {a : Addr} {xs : List V} (e : H a = some (.tup xs)) : IsI K H (.ref a) false := ⟨_, false, false, .base (.tup e), kit_ty (by decide +kernel), (fun z => by cases z), rfl⟩
/-- both defs that ask it -/
abbrev sp_isint (K : PySem.W.Frag) : Sp := sp1 fun x H Q _ => ∃ b, IsI K H x b ∧ Q (.bl b) H

abbrev sp_is_integer (K : PySem.W.Frag) (a : Ad) : Sp := sp_isint K
theorem ok_is_integer {P : Program} {w : World} {K : PySem.W.Frag} {mg : Str → Option Value} {base : Heap} {a : Ad} (T : Txt P K mg base a) : FnOk P w K mg base CX0 1 a.f_is_integer a.d_is_integer (["value"] : List Str) (sp_is_integer K a) := by
  refine T.F_is_integer.ok sc_is_integer (fun vs H Q E h => sp1_len h) (fun cdv A outer s H vs Q E hr h => ?_)
  have hu := hu_of hr
  refine ⟨_, (pss_one (ps_ret (pe_and (pe_callB call_isi (by rfl) T.n_isinstance bb_isinstance (pa_cons (pv 0) (pa_cons (pe_bltn (v := .ty "int") (by rfl) T.n_int bb_int rfl) pa_nil))) (pe_one (pe_not (pe_callB call_isi (by rfl) T.n_isinstance bb_isinstance (pa_cons (pv 0) (pa_cons (pe_bltn (v := .ty "bool") (by rfl) T.n_bool bb_bool rfl) pa_nil)))))))), ?_⟩
  try dsimp only [L2.cxOf]
  obtain ⟨x, rfl, b, ⟨t, b1, b2, ty, k1, k2, rfl⟩, k⟩ := h
  rw [show L2.start (["value"] : List Str) [x] = ([some (x)] : L2.St) from rfl]
  walk_at "w"
  refine w_isi (.ty "int") ty k1 ?_
  walk_at "w"
  refine it_b (fun e1 => ?_) (fun e1 => ?_)
  · walk_at "w"
    refine w_isi (.ty "bool") ty (k2 e1) ?_
    walk_at "w"
    subst e1
    exact k
  · subst e1
    exact k

def sp_greatest_divisor (K : PySem.W.Frag) (a : Ad) : Sp := sp2 fun x y H Q _ => ∃ l r : Int, x = .int l ∧ y = .int r ∧ Q (.int (Int.gcd l r : Nat)) H
theorem ok_greatest_divisor {P : Program} {w : World} {K : PySem.W.Frag} {mg : Str → Option Value} {base : Heap} {a : Ad} (T : Txt P K mg base a) : FnOk P w K mg base CX0 1 a.f_greatest_divisor a.d_greatest_divisor (["left", "right"] : List Str) (sp_greatest_divisor K a) := by
  refine T.F_greatest_divisor.ok sc_greatest_divisor (fun vs H Q E h => sp2_len h) (fun cdv A outer s H vs Q E hr h => ?_)
  have hu := hu_of hr
  refine ⟨_, (pss_cons (ps_set (i := 0) sc_greatest_divisor.nd rfl (Or.inl rfl) (pe_callB qc_abs (by rfl) T.n_abs bb_abs (pa_cons (pv 0) pa_nil)))
      (pss_cons (ps_set (i := 1) sc_greatest_divisor.nd rfl (Or.inl rfl) (pe_callB qc_abs (by rfl) T.n_abs bb_abs (pa_cons (pv 1) pa_nil)))
      (pss_cons (ps_while PassesOwn.never (pt_cmpR op_gt (pv 1) pe_int (nomark _)) (pss_one (ps_par (i := 0) (j := 1) (by rfl) sc_greatest_divisor.nd rfl rfl (by decide) rfl rfl (pa_cons (pv 1) (pa_cons (pe_op op_mod (pv 0) (pv 1)) pa_nil)) (by rfl))))
      (pss_one (ps_ret (pv 0)))))), ?_⟩
  try dsimp only [L2.cxOf]
  obtain ⟨x, y, rfl, l, r, rfl, rfl, k⟩ := h
  rw [show L2.start (["left", "right"] : List Str) [(.int l), (.int r)] = ([some ((.int l)), some ((.int r))] : L2.St) from rfl]
  walk_at "w"
  refine while_by (fun σ' H' => H' = H ∧ ∃ p : Int × Int, σ' = [some (.int p.1), some (.int p.2)] ∧ 0 ≤ p.1 ∧ 0 ≤ p.2 ∧ Int.gcd p.1 p.2 = Int.gcd l r) (fun σ' _ => match σ' with | [_, some (.int z)] => z.toNat | _ => 0) ?_ ?_ ?_
  · have e1 := pabs_eq l
    have e2 := pabs_eq r
    refine ⟨rfl, (pabs l, pabs r), rfl, ?_, ?_, ?_⟩
    · show 0 ≤ pabs l
      omega
    · show 0 ≤ pabs r
      omega
    · show Int.gcd (pabs l) (pabs r) = Int.gcd l r
      rw [e1, e2]
      rfl
  · rintro σ' H' ⟨rfl, p, rfl, h1, h2, h3⟩
    walk_at "w"
    refine it_dec (fun c => ?_) (fun c => ?_)
    · walk_at "w"
      refine ⟨⟨rfl, (p.2, p.1 % p.2), rfl, h2, Int.emod_nonneg _ (by omega), ?_⟩, ?_⟩
      · have e : eStep p = (p.2, p.1 % p.2) := if_pos c
        have q := eStep_gcd (p := p)
        rw [e] at q
        exact q.trans h3
      · show (p.1 % p.2).toNat < p.2.toNat
        have := Int.emod_lt_of_pos p.1 c
        have := Int.emod_nonneg p.1 (show p.2 ≠ 0 by omega)
        omega
    · walk_at "w"
      have z : p.2 = 0 := by omega
      rw [z, Int.gcd_zero_right] at h3
      have e : p.1 = ((Int.gcd l r : Nat) : Int) := by omega
      rw [e]
      exact k
  · intro σ' H' Q1 Q2 m z
    obtain ⟨v, e1, z⟩ := z
    obtain ⟨i, j, e3, e4, b, e5, z⟩ := z
    exact ⟨v, e1, i, j, e3, e4, b, e5, m _ _ z⟩

/-- the law's bag of draws at b -/
def bagL (it : Addr) (p r s c : Int) : List V := [.ref it, .int p, .int r, .int s, .int c]
structure BagAt (H : Hp) (b : Addr) : Prop where
  ex : ∃ (it : Addr) (ns : List Int) (p r s c : Int), H b = some (.lst (bagL it p r s c)) ∧ H it = some (.lst (ns.map V.int)) ∧ b ≠ it ∧ 0 ≤ p ∧ 0 ≤ s ∧ s < 2147483647
theorem BagAt.lst {H : Hp} {b : Addr} (B : BagAt H b) : ∃ xs, H b = some (.lst xs) := by
  obtain ⟨it, ns, p, r, s, c, h, _⟩ := B.ex
  exact ⟨_, h⟩
theorem BagAt.same {H H' : Hp} {b : Addr} (B : BagAt H b) (s : Same H H') : BagAt H' b := by
  obtain ⟨it, ns, p, r, s', c, h1, h2, h3⟩ := B.ex
  exact ⟨it, ns, p, r, s', c, s _ _ h1, s _ _ h2, h3⟩
theorem BagAt.put {H : Hp} {b it : Addr} {ns : List Int} {p r s c : Int} (h2 : H it = some (.lst (ns.map V.int))) (hb : b ≠ it) (hp : 0 ≤ p) (hs : 0 ≤ s) (hs2 : s < 2147483647) : BagAt (upd H b (.lst (bagL it p r s c))) b :=
  ⟨it, ns, p, r, s, c, upd_same, by rw [upd_ne (Ne.symm hb)]; exact h2, hb, hp, hs, hs2⟩

def sp_law_bag (K : PySem.W.Frag) (a : Ad) : Sp := sp1 fun x H Q _ => ∃ (s : Addr) (ns : List Int), x = .ref s ∧ SqL K H s (ns.map V.int) ∧ ∀ b H', H b = none → Same H H' → BagAt H' b → Q (.ref b) H'
theorem ok_law_bag {P : Program} {w : World} {K : PySem.W.Frag} {mg : Str → Option Value} {base : Heap} {a : Ad} (T : Txt P K mg base a) : FnOk P w K mg base CX0 1 a.f_law_bag a.d_law_bag (["_law_script"] : List Str) (sp_law_bag K a) := by
  refine T.F_law_bag.ok sc_law_bag (fun vs H Q E h => sp1_len h) (fun cdv A outer s H vs Q E hr h => ?_)
  have hu := hu_of hr
  refine ⟨_, (pss_one (ps_ret (pe_lst (pa_cons (pe_callTy qc_list (by rfl) T.n_list bb_list (pa_cons (pe_slice sl_list (pv 0) po_none (po_some pe_int)) pa_nil)) (pa_cons pe_int (pa_cons pe_int (pa_cons pe_int (pa_cons pe_int pa_nil)))))))), ?_⟩
  try dsimp only [L2.cxOf]
  obtain ⟨x, rfl, s0, ns, rfl, hS, k⟩ := h
  rw [show L2.start (["_law_script"] : List Str) [(.ref s0)] = ([some ((.ref s0))] : L2.St) from rfl]
  walk_at "w"
  refine w_slL hS fun p1 n1 => ?_
  walk_at "w"
  refine w_listS (SqL.of upd_same) fun p2 n2 => ?_
  walk_at "w"
  refine ⟨by show 5 ≤ sizeLine; decide, fun b n3 => ?_⟩
  have z1 : H p2 = none := (Same.new (o := .lst (cutV (ns.map V.int) none (some 63))) n1).free n2
  have z2 : (upd H p1 (.lst (cutV (ns.map V.int) none (some 63)))) b = none := (Same.new n2).free n3
  have z3 : H b = none := (Same.new n1).free z2
  have e2 : b ≠ p2 := fun z => by
    rw [z, upd_same] at n3
    cases n3
  refine k b _ z3 (Same.upd (Same.upd (Same.new n1) z1) z3) ?_
  obtain ⟨ms, em⟩ : ∃ ms : List Int, cutV (ns.map V.int) none (some 63) = ms.map V.int := by
    unfold cutV
    rw [← List.map_drop, ← List.map_take]
    exact ⟨_, rfl⟩
  rw [em]
  exact BagAt.put upd_same e2 (by decide) (by decide) (by decide)

def sp_law_take (K : PySem.W.Frag) (a : Ad) : Sp := sp2 fun x y H Q _ => ∃ (b : Addr) (n : Int), x = .ref b ∧ y = .int n ∧ BagAt H b ∧ 0 < n ∧ n.natAbs < 2 ^ 8000 ∧ ∀ r H', 0 ≤ r → r < n → BagAt H' b → (∀ c, c ≠ b → H' c = H c) → Q (.int r) H'
theorem ok_law_take {P : Program} {w : World} {K : PySem.W.Frag} {mg : Str → Option Value} {base : Heap} {a : Ad} (T : Txt P K mg base a) : FnOk P w K mg base CX0 1 a.f_law_take a.d_law_take (["_law_bag_here", "_law_size"] : List Str) (sp_law_take K a) := by
  refine T.F_law_take.ok sc_law_take (fun vs H Q E h => sp2_len h) (fun cdv A outer s H vs Q E hr h => ?_)
  have hu := hu_of hr
  refine ⟨_, (pss_cons (ps_if (pt_cmpR op_ge (pe_ix ix_list (pv 0) pe_int (fun _ _ => rfl)) (pe_op op_pow pe_int pe_int) (nomark _)) (pss_cons (ps_set (i := 2) sc_law_take.nd rfl (Or.inl rfl) (pe_op op_mod (pe_callTy qc_int1 (by rfl) T.n_int bb_int (pa_cons (pe_ix ix_list (pv 0) pe_int (fun _ _ => rfl)) pa_nil)) (pv 1)))
      (pss_cons (ps_asg (pe_op op_fdivX (pe_ix ix_list (pv 0) pe_int (fun _ _ => rfl)) (pv 1)) (pg_sub (pv 0) pe_int set_list))
      (pss_one (ps_ret (pv 2))))) pss_nil)
      (pss_cons (ps_set (i := 3) sc_law_take.nd rfl (Or.inl rfl) pe_int)
      (Evl.pss_cut (ps_if (pt_cmpR op_lt (pe_ix ix_list (pv 0) pe_int (fun _ _ => rfl)) (pe_callB qc_len (by rfl) T.n_len bb_len (pa_cons (pe_ix ix_list (pv 0) pe_int (fun _ _ => rfl)) pa_nil)) (nomark _)) (pss_cons (ps_set (i := 3) sc_law_take.nd rfl (Or.inl rfl) (pe_ix ix_list (pe_ix ix_list (pv 0) pe_int (fun _ _ => rfl)) (pe_ix ix_list (pv 0) pe_int (fun _ _ => rfl)) (fun _ _ => rfl)))
      (pss_one (ps_asg (pe_op op_add (pe_ix ix_list (pv 0) pe_int (fun _ _ => rfl)) pe_int) (pg_sub (pv 0) pe_int set_list)))) pss_nil)
      (pss_cons (ps_if (pt_cmpR op_ge (pv 3) (pe_op op_pow pe_int pe_int) (nomark _)) (pss_cons (ps_asg (pe_op op_fdivX (pv 3) (pv 1)) (pg_sub (pv 0) pe_int set_list))
      (pss_one (ps_ret (pe_op op_mod (pe_callTy qc_int1 (by rfl) T.n_int bb_int (pa_cons (pv 3) pa_nil)) (pv 1))))) pss_nil)
      (pss_cons (ps_asg (pe_op op_add (pe_ix ix_list (pv 0) pe_int (fun _ _ => rfl)) pe_int) (pg_sub (pv 0) pe_int set_list))
      (pss_cons (ps_asg (pe_op op_mod (pe_callTy qc_int1 (by rfl) T.n_int bb_int (pa_cons (pe_op op_add (pe_op op_add (pe_op op_mul (pe_ix ix_list (pv 0) pe_int (fun _ _ => rfl)) pe_int) (pv 3)) (pe_op op_mul (pe_ix ix_list (pv 0) pe_int (fun _ _ => rfl)) pe_int)) pa_nil)) pe_int) (pg_sub (pv 0) pe_int set_list))
      (pss_one (ps_ret (pe_op op_mod (pe_op op_fdivX (pe_op op_mod (pe_callTy qc_int1 (by rfl) T.n_int bb_int (pa_cons (pe_op op_mul (pe_ix ix_list (pv 0) pe_int (fun _ _ => rfl)) (pe_ix ix_list (pv 0) pe_int (fun _ _ => rfl))) pa_nil)) pe_int) pe_int) (pv 1)))))))))), ?_⟩
  try dsimp only [L2.cxOf]
  obtain ⟨x, y, rfl, b, n, rfl, rfl, B, hn, hz, k⟩ := h
  obtain ⟨it, ns, p, r, s0, c, hb, hit, hne, hp, hs, hs2⟩ := B.ex
  have dn : ∀ i, CDivX i n := fun i => divX (by omega) hz (by decide) (by decide)
  have mn : ∀ i : Int, 0 ≤ i % n ∧ i % n < n := fun i => ⟨Int.emod_nonneg _ (by omega), Int.emod_lt_of_pos _ hn⟩
  have fr : ∀ (o : HO) (c : Addr), c ≠ b → upd H b o c = H c := fun o c z => upd_ne z
  rw [show L2.start (["_law_bag_here", "_law_size", "_law_digit", "_law_cell"] : List Str) [(.ref b), (.int n)] = ([some ((.ref b)), some ((.int n)), none, none] : L2.St) from rfl]
  walk_at "w"
  refine it_dec (fun c1 => ?_) (fun c1 => ?_)
  · walk_at "w"
    exact k _ _ (mn r).1 (mn r).2 (BagAt.put hit hne hp hs hs2) (fr _)
  · walk_at "w"
    refine ⟨fun σ' H' => ∃ cell p', σ' = [some (.ref b), some (.int n), none, some (.int cell)] ∧ 0 ≤ p' ∧ H' b = some (.lst (bagL it p' r s0 c)) ∧ ∀ z, z ≠ b → H' z = H z, ?_, ?_⟩
    · walk_at "w"
      refine it_dec (fun c2 => ?_) (fun c2 => ?_)
      · walk_at "w"
        obtain ⟨j, rfl⟩ := Int.eq_ofNat_of_zero_le hp
        rw [List.length_map] at c2
        have hj : j < ns.length := Int.ofNat_lt.mp c2
        refine w_ix (SqL.of hit) (at_of (j := j) rfl (by rw [List.getElem?_map, List.getElem?_eq_getElem hj]; rfl)) ?_
        walk_at "w"
        exact ⟨_, (j : Int) + 1, rfl, by omega, upd_same, fun z hz => upd_ne hz⟩
      · walk_at "w"
        exact ⟨0, p, rfl, hp, hb, fun _ _ => rfl⟩
    · rintro σ' H' ⟨cell, p', rfl, hp', hb', fr'⟩
      have hit' : H' it = some (.lst (ns.map V.int)) := (fr' it (Ne.symm hne)).trans hit
      walk_at "w"
      refine it_dec (fun c3 => ?_) (fun c3 => ?_)
      · walk_at "w"
        exact k _ _ (mn _).1 (mn _).2 (BagAt.put hit' hne hp' hs hs2) fun z hz => (upd_ne hz).trans (fr' z hz)
      · have q0 := Int.emod_nonneg (s0 * 48271 + cell + (c + 1) * 69621) (show (2147483647 : Int) ≠ 0 by decide)
        have q1 := Int.emod_lt_of_pos (s0 * 48271 + cell + (c + 1) * 69621) (show (0 : Int) < 2147483647 by decide)
        walk_at "w"
        refine k _ _ (mn _).1 (mn _).2 ?_ fun z hz => ((upd_ne hz).trans (upd_ne hz)).trans (fr' z hz)
        rw [upd_upd]
        exact BagAt.put hit' hne hp' q0 q1

/-- InvalidNumber(v) is raised -/
abbrev raiseIN (a : Ad) (v : V) (H : Hp) (E : XK) : Prop := ∀ d, H d = none → E (.ref a.C_InvalidNumber) (some d) (upd H d (.xd [("value", v)]))
theorem ratio_put {x y : V} : putF "bottom" y (putF "top" x []) = ([("top", x), ("bottom", y)] : List (Str × V)) := by
  have h : ¬ (("top" : Str) = "bottom") := by decide +kernel
  show (if ("top" : Str) = "bottom" then [(("top" : Str), y)] else (("top" : Str), x) :: putF "bottom" y []) = _
  rw [if_neg h]
  rfl

def sp_Ratio_init (K : PySem.W.Frag) (a : Ad) : Sp := sp3 fun s x y H Q E => ∃ (p dx : Addr) (bt : Bool), s = .ref p ∧ H p = some (.ins a.C_Ratio dx []) ∧ IsI K H x bt ∧ (bt = false → raiseIN a x H E) ∧
  (bt = true → ∃ t : Int, x = .int t ∧ ∃ bb, IsI K H y bb ∧ (bb = false → raiseIN a y H E) ∧ (bb = true → ∃ b : Int, y = .int b ∧ (b = 0 → raiseIN a y H E) ∧
    (b ≠ 0 → b.natAbs < 2 ^ 8000 ∧ Q .non (upd H p (.ins a.C_Ratio dx [("top", .int (lowT t b)), ("bottom", .int (lowB t b))])))))
theorem ok_Ratio_init {P : Program} {w : World} {K : PySem.W.Frag} {mg : Str → Option Value} {base : Heap} {a : Ad} (T : Txt P K mg base a) : FnOk P w K mg base (L2.CX P w) 2 a.f_Ratio_init a.d_Ratio_init (["self", "top", "bottom"] : List Str) (sp_Ratio_init K a) := by
  refine T.F_Ratio_init.ok sc_Ratio_init (fun vs H Q E h => sp3_len h) (fun cdv A outer s H vs Q E hr h => ?_)
  have hu := hu_of hr
  refine ⟨_, (pss_cons (ps_if (pt_not (pt_val (pe_call (ok_is_integer T) (hr.mono (by decide)) rfl T.g_is_integer T.k_is_integer T.B_is_integer .nil pass0 (pa_cons (pv 1) pa_nil)))) (pss_one (ps_rs rfl (takes_of rfl rfl rfl rfl) (pmk1 T.E_InvalidNumber T.Y_InvalidNumber T.x_InvalidNumber_value hr (pa_cons (pv 1) pa_nil)))) pss_nil)
      (pss_cons (ps_if (PW.pt (pw_or (pt_not (pt_val (pe_call (ok_is_integer T) (hr.mono (by decide)) rfl T.g_is_integer T.k_is_integer T.B_is_integer .nil pass0 (pa_cons (pv 2) pa_nil)))) (pw_or1 (pt_cmpR op_eq (pv 2) pe_int (nomark _))))) (pss_one (ps_rs rfl (takes_of rfl rfl rfl rfl) (pmk1 T.E_InvalidNumber T.Y_InvalidNumber T.x_InvalidNumber_value hr (pa_cons (pv 2) pa_nil)))) pss_nil)
      (pss_cons (ps_set (i := 3) sc_Ratio_init.nd rfl (Or.inl rfl) (pe_call (ok_greatest_divisor T) (hr.mono (by decide)) rfl T.g_greatest_divisor T.k_greatest_divisor T.B_greatest_divisor .nil pass0 (pa_cons (pv 1) (pa_cons (pv 2) pa_nil))))
      (Evl.pss_cut (ps_if (pt_cmpR op_lt (pv 2) pe_int (nomark _)) (pss_one (ps_set (i := 3) sc_Ratio_init.nd rfl (Or.inl rfl) (pe_un un_neg (pv 3)))) pss_nil)
      (pss_cons (ps_fld (pv 0) (pe_op op_fdivX (pv 1) (pv 3)) rfl)
      (pss_one (ps_fld (pv 0) (pe_op op_fdivX (pv 2) (pv 3)) rfl))))))), ?_⟩
  try dsimp only [L2.cxOf]
  obtain ⟨s0, x, y, rfl, p, dx, bt, rfl, hp, hx, k0, k1⟩ := h
  rw [show L2.start (["self", "top", "bottom", "shared"] : List Str) [(.ref p), x, y] = ([some ((.ref p)), some (x), some (y), none] : L2.St) from rfl]
  walk_at "w"
  refine ⟨x, rfl, bt, hx, ?_⟩
  cases bt with
  | false =>
    walk_at "w"
    exact k0 rfl
  | true =>
    obtain ⟨t, rfl, bb, hy, k2, k3⟩ := k1 rfl
    walk_at "w"
    refine ⟨y, rfl, bb, hy, ?_⟩
    cases bb with
    | false =>
      walk_at "w"
      exact k2 rfl
    | true =>
      obtain ⟨b, rfl, k4, k5⟩ := k3 rfl
      walk_at "w"
      refine it_dec (fun c => ?_) (fun c => ?_)
      · walk_at "w"
        exact k4 (V.int.inj c)
      · walk_at "w"
        have hb : b ≠ 0 := fun z => c (congrArg V.int z)
        obtain ⟨hz, k6⟩ := k5 hb
        refine ⟨.int t, .int b, rfl, t, b, rfl, rfl, ?_⟩
        have g0 := gcd_pos_of (t := t) hb
        have g1 : Int.gcd t b ≤ b.natAbs := Int.gcd_le_natAbs_right t hb
        have dx0 : ∀ i, CDivX i (sgn b (Int.gcd t b)) := fun i => divX (sgn_ne hb) (Nat.lt_of_le_of_lt (by unfold sgn; split <;> omega) hz) (by decide) (by decide)
        walk_at "w"
        refine ⟨fun σ' H' => H' = H ∧ σ' = [some (.ref p), some (.int t), some (.int b), some (.int (sgn b (Int.gcd t b)))], ?_, ?_⟩
        · walk_at "w"
          refine it_dec (fun c => ?_) (fun c => ?_)
          · walk_at "w"
            exact ⟨rfl, by rw [show sgn b (Int.gcd t b) = -((Int.gcd t b : Nat) : Int) from if_pos c]⟩
          · walk_at "w"
            exact ⟨rfl, by rw [show sgn b (Int.gcd t b) = ((Int.gcd t b : Nat) : Int) from if_neg c]⟩
        · rintro σ' H' ⟨rfl, rfl⟩
          walk_at "w"
          refine ⟨p, _, dx, _, rfl, hp, T.c_Ratio, T.na_Ratio_top, by decide, ?_⟩
          walk_at "w"
          refine ⟨p, _, dx, _, rfl, upd_same, T.c_Ratio, T.na_Ratio_bottom, by show 1 < 1000; decide, ?_⟩
          rw [upd_upd, ratio_put]
          exact k6

/-- a ratio t over b stands at p -/
def rfields (t b : Int) : List (Str × V) := [("top", .int t), ("bottom", .int b)]
structure RatioAt (a : Ad) (H : Hp) (p : Addr) (t b : Int) : Prop where
  ex : ∃ dx, H p = some (.ins a.C_Ratio dx (rfields t b))
theorem rl_top (t b : Int) : (rfields t b).lookup ("top" : Str) = some (.int t) := by simp [rfields, List.lookup]
theorem rl_bottom (t b : Int) : (rfields t b).lookup ("bottom" : Str) = some (.int b) := by
  have h : (("bottom" : Str) == "top") = false := by decide +kernel
  simp [rfields, List.lookup, h]
theorem RatioAt.same {a : Ad} {H H' : Hp} {p : Addr} {t b : Int} (R : RatioAt a H p t b) (s : Same H H') : RatioAt a H' p t b := by
  obtain ⟨dx, h⟩ := R.ex
  exact ⟨dx, s _ _ h⟩

/-- Ratio(t, b) with b not 0 -/
theorem init_ok {K : PySem.W.Frag} {a : Ad} {H : Hp} {p dx : Addr} {t b : Int} {Q : VK} {E : XK} (hp : H p = some (.ins a.C_Ratio dx [])) (hb : b ≠ 0) (hz : b.natAbs < 2 ^ 8000)
    (k : Q .non (upd H p (.ins a.C_Ratio dx (rfields (lowT t b) (lowB t b))))) : sp_Ratio_init K a [.ref p, .int t, .int b] H Q E :=
  ⟨_, _, _, rfl, p, dx, true, rfl, hp, isI_int _, (fun z => by cases z), fun _ => ⟨t, rfl, true, isI_int _, (fun z => by cases z), fun _ => ⟨b, rfl, fun z => absurd z hb, fun _ => ⟨hz, k⟩⟩⟩⟩
/-- the new instance, made whole: nothing else is touched -/
theorem made_same {H : Hp} {z dz C : Addr} {fs gs : List (Str × V)} (nz : H z = none) (nd : H dz = none) : Same H (upd (upd (upd H dz (.own z)) z (.ins C dz fs)) z (.ins C dz gs)) := by
  rw [upd_upd]
  exact Same.upd (Same.new nd) nz
theorem made_at {a : Ad} {H : Hp} {z dz : Addr} {fs : List (Str × V)} {t b : Int} : RatioAt a (upd (upd (upd H dz (.own z)) z (.ins a.C_Ratio dz fs)) z (.ins a.C_Ratio dz (rfields t b))) z t b := ⟨dz, upd_same⟩

open SX
theorem w_m0 {σ : L2.St} {H : Hp} {Q : VK} {r : V → List V → Hp → VK → Prop} {to : TE} (k : to σ H fun x H1 => (∃ a, x = .str a) ∧ r x [] H1 Q) : tM0 r to σ H Q := k
theorem w_m1 {σ : L2.St} {H : Hp} {Q : VK} {r : V → List V → Hp → VK → Prop} {to te : TE} (k : to σ H fun x H1 => (∃ a, x = .str a) ∧ te σ H1 fun y H2 => r x [y] H2 Q) : tM1 r to te σ H Q := k
theorem w_gtup3 {K : PySem.W.Frag} {σ : L2.St} {H : Hp} {Q : L2.St → Hp → Prop} {a : Addr} {x y z : V} {n i j m : Nat} (e : SqT K H a [x, y, z]) (hn : n = 3) (k : Q (((σ.set i (some x)).set j (some y)).set m (some z)) H) : gTup K n (gCons (gName i) (gCons (gName j) (gCons (gName m) gNil))) (.ref a) σ H Q :=
  ⟨a, _, rfl, e, hn.symm, x, _, rfl, y, _, rfl, z, _, rfl, rfl, k⟩
theorem digU : ∀ c, c < 128 → Unicode.isDigit c = (decide (48 ≤ c) && decide (c ≤ 57)) := by decide +kernel
theorem isdigit_S {l : List Nat} (h : ∀ c ∈ l, c < 128) (hn : l ≠ []) : Txt.isdigit (S l) = digB l := by
  unfold Txt.isdigit digB
  rw [S_len]
  have e : decide (l.length > 0) = true := decide_eq_true (List.length_pos_iff.mpr hn)
  rw [e, Bool.true_and]
  show l.toArray.all _ = _
  rw [List.all_toArray]
  induction l with
  | nil => rfl
  | cons c r ih =>
    rw [List.all_cons, List.all_cons, digU c (h c List.mem_cons_self)]
    by_cases hr : r = []
    · rw [hr]
      rfl
    · rw [ih (fun d hd => h d (List.mem_cons_of_mem _ hd)) hr (decide_eq_true (List.length_pos_iff.mpr hr))]
theorem w_fmt {σ : L2.St} {H : Hp} {Q : VK} {te : TE} (k : te σ H fun x H1 => (∃ y : Str, x = .str y ∧ y.length ≤ sizeLine ∧ Q (.str y) H1) ∨ ∃ i : Int, x = .int i ∧ i.natAbs.log2 < 1920 ∧ Q (.str (toString i)) H1) : tFmt te σ H Q := k
theorem log_ok {n : Nat} (h : n < 10 ^ 200) : n.log2 < 1920 := by
  by_cases z : n = 0
  · subst z
    decide +kernel
  · exact (Nat.log2_lt z).mpr (Nat.lt_of_lt_of_le h (by decide +kernel))
theorem intL_len {i : Int} {k : Nat} (hk : 0 < k) (h : i.natAbs < 10 ^ k) : (intL i).length ≤ k + 1 := by
  have := TL.numL_len hk h
  unfold intL
  split
  · rw [List.length_cons]
    omega
  · omega
theorem S_empty (l : List Nat) : Str.empty ++ S l = S l := by
  rw [show Str.empty = S [] from rfl, S_cat]
  rfl
theorem S_cmp (a b : List Nat) : (V.str (S a) = V.str (S b)) = (a = b) := by
  refine propext ⟨fun h => S_inj (V.str.inj h), fun h => by rw [h]⟩
local macro_rules | `(tactic| walk_at "s4") => `(tactic| first
  | with_reducible refine w_m0 ?_
  | with_reducible refine w_m1 ?_
  | with_reducible refine w_smeth ?_
  | with_reducible refine w_cval ?_
  | with_reducible refine w_fmt ?_
  | with_reducible refine w_js ?_
  | with_reducible refine w_jsN ?_)
local macro_rules | `(tactic| walk_at "w") => `(tactic| repeat (first | walk_at "s" | walk_at "s4"))

def sp_is_numeral (K : PySem.W.Frag) (a : Ad) : Sp := sp1 fun x H Q _ => ∃ l : List Nat, x = .str (S l) ∧ (∀ c ∈ l, c < 128) ∧ l.length ≤ 1000 ∧ Q (.bl (isNum l)) H
theorem ok_is_numeral {P : Program} {w : World} {K : PySem.W.Frag} {mg : Str → Option Value} {base : Heap} {a : Ad} (T : Txt P K mg base a) : FnOk P w K mg base CX0 1 a.f_is_numeral a.d_is_numeral (["word"] : List Str) (sp_is_numeral K a) := by
  refine T.F_is_numeral.ok sc_is_numeral (fun vs H Q E h => sp1_len h) (fun cdv A outer s H vs Q E hr h => ?_)
  have hu := hu_of hr
  refine ⟨_, (Evl.pss_cut (ps_set (i := 1) sc_is_numeral.nd rfl (Or.inl rfl) (pe_ifExp (pt_cmpR op_eq (pe_slice sl_str (pv 0) po_none (po_some pe_int)) pe_str (nomark _)) (pe_slice sl_str (pv 0) (po_some pe_int) po_none) (pv 0)))
      (pss_cons (ps_if (PW.pt (pw_or (pt_cmpR op_eq (pv 1) pe_str (nomark _)) (pw_or1 (pt_not (pt_val (pe_m0 F.slot_str_isdigit F.type_str_isdigit mt_isdigit (pv 1))))))) (pss_one (ps_ret pe_bl)) pss_nil)
      (pss_cons (ps_if (pt_cmpR op_eq (pe_ix ix_str (pv 1) pe_int (fun _ _ => rfl)) pe_str (nomark _)) (pss_one (ps_ret (pe_cmpR op_eq (pv 0) pe_str (nomark _)))) pss_nil)
      (pss_one (ps_ret pe_bl))))), ?_⟩
  try dsimp only [L2.cxOf]
  obtain ⟨x, rfl, l, rfl, asc, len, k⟩ := h
  rw [show L2.start (["word", "digits"] : List Str) [(.str (S l))] = ([some ((.str (S l))), none] : L2.St) from rfl]
  have sz : sizeLine = 16777216 := by decide
  have e1 : Str.ofString "-" = S [45] := by decide +kernel
  have e2 : Str.ofString "" = S [] := by decide +kernel
  have e3 : Str.ofString "0" = S [48] := by decide +kernel
  have sl : (S l).length ≤ sizeLine := by
    rw [S_len, sz]
    omega
  refine ⟨fun σ' H' => H' = H ∧ σ' = [some (.str (S l)), some (.str (S (if l.take 1 = [45] then l.drop 1 else l)))], ?_, ?_⟩
  · walk_at "w"
    refine ⟨_, rfl, sl, ?_⟩
    rw [cut_head]
    walk_at "w"
    refine it_dec (fun c => ?_) (fun c => ?_)
    · rw [e1, S_cmp] at c
      walk_at "w"
      refine ⟨_, rfl, sl, ?_⟩
      rw [cut_tail]
      walk_at "w"
      rw [if_pos c]
      exact ⟨rfl, rfl⟩
    · rw [e1, S_cmp] at c
      walk_at "w"
      rw [if_neg c]
      exact ⟨rfl, rfl⟩
  · rintro σ' H' ⟨rfl, rfl⟩
    have k' := k
    unfold isNum at k'
    have ha : ∀ c ∈ (if l.take 1 = [45] then l.drop 1 else l), c < 128 := by
      split
      · exact fun c hc => asc c (List.mem_of_mem_drop hc)
      · exact asc
    have hl : (if l.take 1 = [45] then l.drop 1 else l).length ≤ 1000 := by
      split
      · rw [List.length_drop]
        omega
      · exact len
    generalize (if l.take 1 = [45] then l.drop 1 else l) = d at ha hl k' ⊢
    dsimp only at k'
    walk_at "w"
    refine it_dec (fun c => ?_) (fun c => ?_)
    · rw [e2, S_cmp] at c
      walk_at "w"
      rw [if_pos (.inl c)] at k'
      exact k'
    · rw [e2, S_cmp] at c
      walk_at "w"
      refine ⟨⟨_, rfl⟩, _, rfl, rfl, trivial, ?_⟩
      rw [isdigit_S ha c]
      refine ⟨_, rfl, ?_⟩
      cases hd : digB d with
      | false =>
        walk_at "w"
        rw [if_pos (.inr hd)] at k'
        exact k'
      | true =>
        walk_at "w"
        rw [if_neg (fun z => z.elim c (fun y => by rw [hd] at y; cases y))] at k'
        match d, c, hl, k' with
        | c0 :: r, c, hl, k' =>
          refine ⟨_, _, c0, rfl, rfl, by rw [S_len, sz]; omega, by simp [atI, ixN], ?_⟩
          walk_at "w"
          refine it_dec (fun c => ?_) (fun c => ?_)
          · rw [e3, show (⟨#[c0]⟩ : Str) = S [c0] from rfl, S_cmp] at c
            walk_at "w"
            rw [if_pos (show (c0 :: r).take 1 = [48] from c)] at k'
            rw [e3, show decide (V.str (S l) = V.str (S [48])) = decide (l = [48]) from decide_eq_decide.mpr (by rw [S_cmp])]
            exact k'
          · rw [e3, show (⟨#[c0]⟩ : Str) = S [c0] from rfl, S_cmp] at c
            walk_at "w"
            rw [if_neg (show ¬ (c0 :: r).take 1 = [48] from c)] at k'
            exact k'

def sp_Ratio_str (K : PySem.W.Frag) (a : Ad) : Sp := sp1 fun x H Q _ => ∃ (p : Addr) (t b : Int), x = .ref p ∧ RatioAt a H p t b ∧ t.natAbs < 10 ^ 200 ∧ b.natAbs < 10 ^ 200 ∧ Q (.str (S (ratL t b))) H
theorem ok_Ratio_str {P : Program} {w : World} {K : PySem.W.Frag} {mg : Str → Option Value} {base : Heap} {a : Ad} (T : Txt P K mg base a) : FnOk P w K mg base CX0 1 a.f_Ratio_str a.d_Ratio_str (["self"] : List Str) (sp_Ratio_str K a) := by
  refine T.F_Ratio_str.ok sc_Ratio_str (fun vs H Q E h => sp1_len h) (fun cdv A outer s H vs Q E hr h => ?_)
  have hu := hu_of hr
  refine ⟨_, (pss_cons (ps_if (pt_cmpR op_eq (pe_fld (pv 0) rfl) pe_int (nomark _)) (pss_one (ps_ret (pe_callTy qc_strI (by rfl) T.n_str bb_str (pa_cons (pe_fld (pv 0) rfl) pa_nil)))) pss_nil)
      (pss_one (ps_ret (pe_joined (PJ.cons (pe_fmt (pe_fld (pv 0) rfl)) (PJ.cons pe_str (PJ.cons (pe_fmt (pe_fld (pv 0) rfl)) PJ.nil))))))), ?_⟩
  try dsimp only [L2.cxOf]
  obtain ⟨x, rfl, p, t, b, rfl, R, ht, hb, k⟩ := h
  obtain ⟨dx, hp⟩ := R.ex
  rw [show L2.start (["self"] : List Str) [(.ref p)] = ([some ((.ref p))] : L2.St) from rfl]
  walk_at "w"
  refine ⟨p, _, dx, _, _, rfl, hp, T.c_Ratio, T.na_Ratio_bottom, rl_bottom t b, ?_⟩
  walk_at "w"
  refine it_dec (fun c => ?_) (fun c => ?_)
  · walk_at "w"
    refine ⟨p, _, dx, _, _, rfl, hp, T.c_Ratio, T.na_Ratio_top, rl_top t b, ?_⟩
    walk_at "w"
    refine ⟨t, rfl, log_ok ht, ?_⟩
    rw [show ratL t b = intL t from if_pos (V.int.inj c), ← int_text] at k
    exact k
  · walk_at "w"
    refine ⟨p, _, dx, _, _, rfl, hp, T.c_Ratio, T.na_Ratio_top, rl_top t b, .inr ⟨t, rfl, log_ok ht, ?_⟩⟩
    have l1 := intL_len (by decide) ht
    have l2 := intL_len (by decide) hb
    have sz : sizeLine = 16777216 := by decide
    rw [int_text]
    refine ⟨_, rfl, by rw [S_empty, S_len]; omega, ?_⟩
    rw [S_empty]
    walk_at "w"
    refine ⟨_, rfl, by rw [show (Str.ofString "/") = S [47] from by decide +kernel, S_cat, S_len, List.length_append]; simp; omega, ?_⟩
    walk_at "w"
    refine ⟨p, _, dx, _, _, rfl, hp, T.c_Ratio, T.na_Ratio_bottom, rl_bottom t b, .inr ⟨b, rfl, log_ok hb, ?_⟩⟩
    rw [int_text, show (Str.ofString "/") = S [47] from by decide +kernel]
    refine ⟨_, rfl, by rw [S_cat, S_cat, S_len, List.length_append, List.length_append]; simp; omega, ?_⟩
    walk_at "w"
    rw [S_cat, S_cat]
    rw [show ratL t b = intL t ++ 47 :: intL b from if_neg fun z => c (congrArg V.int z)] at k
    rw [List.append_assoc]
    exact k

def reprL (t b : Int) : List Nat := (([82, 97, 116, 105, 111, 40] ++ intL t) ++ [44, 32] ++ intL b) ++ [41]
def sp_Ratio_repr (K : PySem.W.Frag) (a : Ad) : Sp := sp1 fun x H Q _ => ∃ (p : Addr) (t b : Int), x = .ref p ∧ RatioAt a H p t b ∧ t.natAbs < 10 ^ 200 ∧ b.natAbs < 10 ^ 200 ∧ Q (.str (S (reprL t b))) H
theorem ok_Ratio_repr {P : Program} {w : World} {K : PySem.W.Frag} {mg : Str → Option Value} {base : Heap} {a : Ad} (T : Txt P K mg base a) : FnOk P w K mg base CX0 1 a.f_Ratio_repr a.d_Ratio_repr (["self"] : List Str) (sp_Ratio_repr K a) := by
  refine T.F_Ratio_repr.ok sc_Ratio_repr (fun vs H Q E h => sp1_len h) (fun cdv A outer s H vs Q E hr h => ?_)
  have hu := hu_of hr
  refine ⟨_, (pss_one (ps_ret (pe_joined (PJ.cons pe_str (PJ.cons (pe_fmt (pe_fld (pv 0) rfl)) (PJ.cons pe_str (PJ.cons (pe_fmt (pe_fld (pv 0) rfl)) (PJ.cons pe_str PJ.nil)))))))), ?_⟩
  try dsimp only [L2.cxOf]
  obtain ⟨x, rfl, p, t, b, rfl, R, ht, hb, k⟩ := h
  obtain ⟨dx, hp⟩ := R.ex
  have l1 := intL_len (by decide) ht
  have l2 := intL_len (by decide) hb
  have sz : sizeLine = 16777216 := by decide
  rw [show L2.start (["self"] : List Str) [(.ref p)] = ([some ((.ref p))] : L2.St) from rfl]
  walk_at "w"
  rw [show (Str.ofString "Ratio(") = S [82, 97, 116, 105, 111, 40] from by decide +kernel, show (Str.ofString ", ") = S [44, 32] from by decide +kernel, show (Str.ofString ")") = S [41] from by decide +kernel]
  refine ⟨_, rfl, by rw [S_empty, S_len, sz]; decide, ?_⟩
  rw [S_empty]
  walk_at "w"
  refine ⟨p, _, dx, _, _, rfl, hp, T.c_Ratio, T.na_Ratio_top, rl_top t b, .inr ⟨t, rfl, log_ok ht, ?_⟩⟩
  rw [int_text]
  refine ⟨_, rfl, by rw [S_cat, S_len]; simp; omega, ?_⟩
  rw [S_cat]
  walk_at "w"
  refine ⟨_, rfl, by rw [S_cat, S_len]; simp; omega, ?_⟩
  rw [S_cat]
  walk_at "w"
  refine ⟨p, _, dx, _, _, rfl, hp, T.c_Ratio, T.na_Ratio_bottom, rl_bottom t b, .inr ⟨b, rfl, log_ok hb, ?_⟩⟩
  rw [int_text]
  refine ⟨_, rfl, by rw [S_cat, S_len]; simp; omega, ?_⟩
  rw [S_cat]
  walk_at "w"
  refine ⟨_, rfl, by rw [S_cat, S_len]; simp; omega, ?_⟩
  rw [S_cat]
  walk_at "w"
  exact k

/-- Ratio.read(text): the text of a ratio in lowest terms gives it, anything else is refused -/
def sp_Ratio_read (K : PySem.W.Frag) (a : Ad) : Sp := sp1 fun x H Q E => ∃ l : List Nat, x = .str (S l) ∧ (∀ c ∈ l, c < 128) ∧ l.length ≤ 1000 ∧
  (∀ t b, l.length ≤ 100 → RatOk l t b → ∀ H' p, Same H H' → RatioAt a H' p t b → H p = none → Q (.ref p) H') ∧ ((l.length ≤ 100 → ∀ t b, ¬ RatOk l t b) → ∀ H', Same H H' → raiseIN a (.str (S l)) H' E)
theorem ok_Ratio_read {P : Program} {w : World} {K : PySem.W.Frag} {mg : Str → Option Value} {base : Heap} {a : Ad} (T : Txt P K mg base a) : FnOk P w K mg base (L2.CX P w) 4 a.f_Ratio_read a.d_Ratio_read (["text"] : List Str) (sp_Ratio_read K a) := by
  refine T.F_Ratio_read.okX sc_Ratio_read (fun vs H Q E h => sp1_len h) (fun cdv A outer s H vs Q E hr h => ?_)
  have hu := hu_of hr
  refine ⟨_, (pss_cons (ps_if (pt_cmpR op_gt (pe_callB qc_lenX (by rfl) T.n_len bb_len (pa_cons (pv 0) pa_nil)) (ClX.pe_cval (pe_glob (v := .ref a.C_Ratio) rfl T.g_Ratio rfl)) (nomark _)) (pss_one (ps_rs rfl (takes_of rfl rfl rfl rfl) (pmk1 T.E_InvalidNumber T.Y_InvalidNumber T.x_InvalidNumber_value hr (pa_cons (pv 0) pa_nil)))) pss_nil)
      (pss_cons (ps_asg (pe_partition (pv 0) pe_str) (pg_tup (by rfl) (pgs_cons (pg_name (i := 1) sc_Ratio_read.nd rfl (Or.inl rfl)) (pgs_cons (pg_name (i := 2) sc_Ratio_read.nd rfl (Or.inl rfl)) (pgs_cons (pg_name (i := 3) sc_Ratio_read.nd rfl (Or.inl rfl)) pgs_nil)))))
      (Evl.pss_cut (ps_if (pt_cmpR op_eq (pv 2) pe_str (nomark _)) (pss_one (ps_set (i := 3) sc_Ratio_read.nd rfl (Or.inl rfl) pe_str)) pss_nil)
      (pss_cons (ps_if (PW.pt (pw_or (pt_not (pt_val (pe_call (ok_is_numeral T) (hr.mono (by decide)) rfl T.g_is_numeral T.k_is_numeral T.B_is_numeral .nil pass0 (pa_cons (pv 1) pa_nil)))) (pw_or (pt_not (pt_val (pe_call (ok_is_numeral T) (hr.mono (by decide)) rfl T.g_is_numeral T.k_is_numeral T.B_is_numeral .nil pass0 (pa_cons (pv 3) pa_nil)))) (pw_or1 (pt_cmpR op_eq (pv 3) pe_str (nomark _)))))) (pss_one (ps_rs rfl (takes_of rfl rfl rfl rfl) (pmk1 T.E_InvalidNumber T.Y_InvalidNumber T.x_InvalidNumber_value hr (pa_cons (pv 0) pa_nil)))) pss_nil)
      (pss_cons (ps_set (i := 4) sc_Ratio_read.nd rfl (Or.inl rfl) (pe_mkS T.M_Ratio (ok_Ratio_init T) (hr.mono (by decide)) rfl T.g_Ratio T.B_Ratio_init .nil (fun σ => passAt (takes_of rfl rfl rfl rfl) σ) (pa_cons (pe_callTy qc_intS (by rfl) T.n_int bb_int (pa_cons (pv 1) pa_nil)) (pa_cons (pe_callTy qc_intS (by rfl) T.n_int bb_int (pa_cons (pv 3) pa_nil)) pa_nil))))
      (pss_cons (ps_if (pt_cmpR op_ne (pe_callTy (call_strO T.M_Ratio_str.at_ T.M_Ratio_str.fn (ok_Ratio_str T) (hr.mono (by decide)) T.B_Ratio_str (units64b hr)) (by rfl) T.n_str bb_str (pa_cons (pv 4) pa_nil)) (pv 0) (nomark _)) (pss_one (ps_rs rfl (takes_of rfl rfl rfl rfl) (pmk1 T.E_InvalidNumber T.Y_InvalidNumber T.x_InvalidNumber_value hr (pa_cons (pv 0) pa_nil)))) pss_nil)
      (pss_one (ps_ret (pv 4))))))))), ?_⟩
  try dsimp only [L2.cxOf]
  obtain ⟨x, rfl, l, rfl, asc, len, k1, k2⟩ := h
  have sz : sizeLine = 16777216 := by decide
  rw [show L2.start (["text", "first", "slash", "second", "ratio"] : List Str) [(.str (S l))] = ([some ((.str (S l))), none, none, none, none] : L2.St) from rfl]
  have sl : (S l).length ≤ sizeLine := by
    rw [S_len, sz]
    omega
  obtain ⟨u, cv⟩ := T.cv_Ratio_MOST_TEXT
  walk_at "w"
  refine ⟨_, rfl, sl, ?_⟩
  walk_at "w"
  refine ⟨_, _, _, u, rfl, T.cr_Ratio, cv, ?_⟩
  walk_at "w"
  rw [S_len]
  refine it_dec (fun c => ?_) (fun c => ?_)
  · walk_at "w"
    exact k2 (fun z => by omega) H (Same.refl H)
  · walk_at "w"
    refine ⟨⟨_, rfl⟩, ?_⟩
    walk_at "w"
    refine ⟨_, _, rfl, rfl, by decide +kernel, sl, fun p np => ?_⟩
    obtain ⟨f, sl', g, ep, af, lf, ag, lg, nf⟩ := part_ok asc (by omega)
    rw [ep]
    refine w_gtup3 (SqT.of upd_same) rfl ?_
    have sp := Same.new (o := .tup [V.str (S f), V.str (S sl'), V.str (S g)]) np
    generalize eg : (if sl' = [] then [49] else g) = g' at ag lg nf
    refine ⟨fun σ' H' => H' = upd H p (.tup [V.str (S f), V.str (S sl'), V.str (S g)]) ∧ σ' = [some (.str (S l)), some (.str (S f)), some (.str (S sl')), some (.str (S g')), none], ?_, ?_⟩
    · walk_at "w"
      refine it_dec (fun c => ?_) (fun c => ?_)
      · rw [show Str.ofString "" = S [] from rfl, S_cmp] at c
        walk_at "w"
        rw [if_pos c] at eg
        rw [← eg]
        exact ⟨rfl, rfl⟩
      · rw [show Str.ofString "" = S [] from rfl, S_cmp] at c
        walk_at "w"
        rw [if_neg c] at eg
        rw [← eg]
        exact ⟨rfl, rfl⟩
    · rintro σ' H' ⟨rfl, rfl⟩
      generalize upd H p (.tup [V.str (S f), V.str (S sl'), V.str (S g)]) = H1 at sp ⊢
      walk_at "w"
      refine ⟨_, rfl, f, rfl, af, by omega, ?_⟩
      cases nu : isNum f with
      | false =>
        walk_at "w"
        exact k2 (fun _ t b ok => by rw [(nf t b ok.2.2).1, isNum_intL] at nu; cases nu) H1 sp
      | true =>
        walk_at "w"
        refine ⟨_, rfl, g', rfl, ag, by omega, ?_⟩
        cases nu2 : isNum g' with
        | false =>
          walk_at "w"
          exact k2 (fun _ t b ok => by rw [(nf t b ok.2.2).2, isNum_intL] at nu2; cases nu2) H1 sp
        | true =>
          walk_at "w"
          have e0 : Str.ofString "0" = S (intL 0) := by decide +kernel
          refine it_dec (fun c2 => ?_) (fun c2 => ?_)
          · rw [e0, S_cmp] at c2
            walk_at "w"
            exact k2 (fun _ t b ok => by
              have z := intL_inj ((nf t b ok.2.2).2.symm.trans c2)
              have := ok.1
              omega) H1 sp
          · rw [e0, S_cmp] at c2
            obtain ⟨n, rfl⟩ := isNum_ex nu
            obtain ⟨m, rfl⟩ := isNum_ex nu2
            have hm : m ≠ 0 := fun z => c2 (by rw [z])
            have un := intL_up lf
            have um := intL_up lg
            have lo := low_ne (t := n) hm
            have big : (10 : Nat) ^ 100 < 2 ^ 8000 ∧ (10 : Nat) ^ 100 < 10 ^ 200 := by decide +kernel
            walk_at "w"
            refine w_intS (intL_reads (by omega)) (by rw [S_len]; omega) ?_
            walk_at "w"
            refine w_intS (intL_reads (by omega)) (by rw [S_len]; omega) ?_
            walk_at "w"
            intro z dz nz ndz nez
            refine init_ok upd_same hm (by omega) ⟨rfl, ?_⟩
            have R := made_at (a := a) (H := H1) (z := z) (dz := dz) (fs := []) (t := lowT n m) (b := lowB n m)
            have sd := made_same (C := a.C_Ratio) (fs := []) (gs := rfields (lowT n m) (lowB n m)) nz ndz
            walk_at "w"
            refine ⟨z, dz, _, rfl, upd_same, _, rfl, z, _, _, rfl, R, by omega, by omega, ?_⟩
            refine ⟨_, rfl, ?_⟩
            walk_at "w"
            refine it_ndec (fun c3 => ?_) (fun c3 => ?_)
            · rw [S_cmp] at c3
              walk_at "w"
              exact k1 _ _ (by omega) ⟨lo.1.pos, lo.1.one, c3.symm⟩ _ z (sp.trans sd) R (sp.free nz)
            · rw [S_cmp] at c3
              walk_at "w"
              refine k2 (fun _ t b ok => ?_) _ (sp.trans sd)
              obtain ⟨q1, q2⟩ := nf t b ok.2.2
              have q3 := intL_inj q1
              have q4 := intL_inj q2
              subst q3
              subst q4
              obtain ⟨i1, i2⟩ := low_idem ⟨ok.1, ok.2.1⟩
              rw [i1, i2] at c3
              exact c3 ok.2.2.symm

abbrev sp_law_int (K : PySem.W.Frag) (a : Ad) : Sp := sp_isint K
theorem ok_law_int {P : Program} {w : World} {K : PySem.W.Frag} {mg : Str → Option Value} {base : Heap} {a : Ad} (T : Txt P K mg base a) : FnOk P w K mg base CX0 1 a.f_law_int a.d_law_int (["_law_actual"] : List Str) (sp_law_int K a) := by
  refine T.F_law_int.ok sc_law_int (fun vs H Q E h => sp1_len h) (fun cdv A outer s H vs Q E hr h => ?_)
  have hu := hu_of hr
  refine ⟨_, (pss_one (ps_ret (pe_and (pe_callB call_isi (by rfl) T.n_isinstance bb_isinstance (pa_cons (pv 0) (pa_cons (pe_bltn (v := .ty "int") (by rfl) T.n_int bb_int rfl) pa_nil))) (pe_one (pe_not (pe_callB call_isi (by rfl) T.n_isinstance bb_isinstance (pa_cons (pv 0) (pa_cons (pe_bltn (v := .ty "bool") (by rfl) T.n_bool bb_bool rfl) pa_nil)))))))), ?_⟩
  try dsimp only [L2.cxOf]
  obtain ⟨x, rfl, b, ⟨t, b1, b2, ty, k1, k2, rfl⟩, k⟩ := h
  rw [show L2.start (["_law_actual"] : List Str) [x] = ([some (x)] : L2.St) from rfl]
  walk_at "w"
  refine w_isi (.ty "int") ty k1 ?_
  walk_at "w"
  refine it_b (fun e1 => ?_) (fun e1 => ?_)
  · walk_at "w"
    refine w_isi (.ty "bool") ty (k2 e1) ?_
    walk_at "w"
    subst e1
    exact k
  · subst e1
    exact k

def sp_law_is (K : PySem.W.Frag) (a : Ad) : Sp := sp2 fun x y H Q _ => ∃ (p d : Addr) (t b : Int), x = .ref p ∧ RatioAt a H p t b ∧ y = .ref d ∧ SqT K H d [.int t, .int b] ∧ Q (.bl true) H
theorem ok_law_is {P : Program} {w : World} {K : PySem.W.Frag} {mg : Str → Option Value} {base : Heap} {a : Ad} (T : Txt P K mg base a) : FnOk P w K mg base CX0 2 a.f_law_is a.d_law_is (["_law_actual", "_law_due"] : List Str) (sp_law_is K a) := by
  refine T.F_law_is.ok sc_law_is (fun vs H Q E h => sp2_len h) (fun cdv A outer s H vs Q E hr h => ?_)
  have hu := hu_of hr
  refine ⟨_, (pss_cons (ps_if (PW.pt (pw_or (pt_not (pt_val (pe_callB call_isi (by rfl) T.n_isinstance bb_isinstance (pa_cons (pv 0) (pa_cons (pe_glob (v := .ref a.C_Ratio) rfl T.g_Ratio rfl) pa_nil))))) (pw_or (pt_not (pt_val (pe_call (ok_law_int T) (hr.mono (by decide)) rfl T.g_law_int T.k_law_int T.B_law_int .nil pass0 (pa_cons (pe_fld (pv 0) rfl) pa_nil)))) (pw_or1 (pt_not (pt_val (pe_call (ok_law_int T) (hr.mono (by decide)) rfl T.g_law_int T.k_law_int T.B_law_int .nil pass0 (pa_cons (pe_fld (pv 0) rfl) pa_nil)))))))) (pss_one (ps_ret pe_bl)) pss_nil)
      (pss_one (ps_ret (pe_and (pe_cmpR op_eq (pe_fld (pv 0) rfl) (pe_ix ix_tup (pv 1) pe_int (fun _ _ => rfl)) (nomark _)) (pe_one (pe_cmpR op_eq (pe_fld (pv 0) rfl) (pe_ix ix_tup (pv 1) pe_int (fun _ _ => rfl)) (nomark _))))))), ?_⟩
  try dsimp only [L2.cxOf]
  obtain ⟨x, y, rfl, p, d, t, b, rfl, R, rfl, hd, k⟩ := h
  obtain ⟨dx, hp⟩ := R.ex
  rw [show L2.start (["_law_actual", "_law_due"] : List Str) [(.ref p), (.ref d)] = ([some ((.ref p)), some ((.ref d))] : L2.St) from rfl]
  walk_at "w"
  refine w_isi (.own _) (ty_ins hp T.c_Ratio T.I_Ratio) kit_self ?_
  walk_at "w"
  refine ⟨p, _, dx, _, _, rfl, hp, T.c_Ratio, T.na_Ratio_top, rl_top t b, ?_⟩
  walk_at "w"
  refine ⟨_, rfl, true, isI_int t, ?_⟩
  walk_at "w"
  refine ⟨p, _, dx, _, _, rfl, hp, T.c_Ratio, T.na_Ratio_bottom, rl_bottom t b, ?_⟩
  walk_at "w"
  refine ⟨_, rfl, true, isI_int b, ?_⟩
  walk_at "w"
  refine ⟨p, _, dx, _, _, rfl, hp, T.c_Ratio, T.na_Ratio_top, rl_top t b, ?_⟩
  walk_at "w"
  refine it_pos rfl ?_
  walk_at "w"
  refine ⟨p, _, dx, _, _, rfl, hp, T.c_Ratio, T.na_Ratio_bottom, rl_bottom t b, ?_⟩
  walk_at "w"
  rw [decide_eq_true rfl]
  exact k

def sp_law_lowest (K : PySem.W.Frag) (a : Ad) : Sp := sp2 fun x y H Q _ => ∃ t b : Int, x = .int t ∧ y = .int b ∧ b ≠ 0 ∧ b.natAbs < 2 ^ 200 ∧ ∀ p, H p = none → Q (.ref p) (upd H p (.tup [.int (lowT t b), .int (lowB t b)]))
theorem ok_law_lowest {P : Program} {w : World} {K : PySem.W.Frag} {mg : Str → Option Value} {base : Heap} {a : Ad} (T : Txt P K mg base a) : FnOk P w K mg base CX0 1 a.f_law_lowest a.d_law_lowest (["_law_top", "_law_bottom"] : List Str) (sp_law_lowest K a) := by
  refine T.F_law_lowest.ok sc_law_lowest (fun vs H Q E h => sp2_len h) (fun cdv A outer s H vs Q E hr h => ?_)
  have hu := hu_of hr
  refine ⟨_, (pss_cons (ps_set (i := 2) sc_law_lowest.nd rfl (Or.inl rfl) (pe_callB qc_abs (by rfl) T.n_abs bb_abs (pa_cons (pv 0) pa_nil)))
      (pss_cons (ps_set (i := 3) sc_law_lowest.nd rfl (Or.inl rfl) (pe_callB qc_abs (by rfl) T.n_abs bb_abs (pa_cons (pv 1) pa_nil)))
      (pss_cons (ps_for PassesOwn.never rfl (pi_range1 (by rfl) T.n_range (pa_cons pe_int pa_nil)) (pg_name (i := 4) sc_law_lowest.nd rfl (Or.inl rfl)) (pss_one (ps_if (pt_cmpR op_gt (pv 3) pe_int (nomark _)) (pss_cons (ps_set (i := 5) sc_law_lowest.nd rfl (Or.inl rfl) (pe_op op_mod (pv 2) (pv 3)))
      (pss_cons (ps_set (i := 2) sc_law_lowest.nd rfl (Or.inl rfl) (pv 3))
      (pss_one (ps_set (i := 3) sc_law_lowest.nd rfl (Or.inl rfl) (pv 5))))) pss_nil)))
      (Evl.pss_cut (ps_if (pt_cmpR op_lt (pv 1) pe_int (nomark _)) (pss_one (ps_set (i := 2) sc_law_lowest.nd rfl (Or.inl rfl) (pe_op op_sub pe_int (pv 2)))) pss_nil)
      (pss_one (ps_ret (pe_tup (pa_cons (pe_op op_fdivX (pv 0) (pv 2)) (pa_cons (pe_op op_fdivX (pv 1) (pv 2)) pa_nil))))))))), ?_⟩
  try dsimp only [L2.cxOf]
  obtain ⟨x, y, rfl, t, b, rfl, rfl, hb, hz, k⟩ := h
  have e1 := pabs_eq t
  have e2 := pabs_eq b
  have g1 : Int.gcd t b ≤ b.natAbs := Int.gcd_le_natAbs_right t hb
  have dx0 : ∀ i, CDivX i (sgn b (Int.gcd t b)) := fun i => divX (b := 200) (sgn_ne hb) (Nat.lt_of_le_of_lt (by unfold sgn; split <;> omega) hz) (by decide) (by decide)
  rw [show L2.start (["_law_top", "_law_bottom", "_law_left", "_law_right", "_law_k", "_law_rest"] : List Str) [(.int t), (.int b)] = ([some ((.int t)), some ((.int b)), none, none, none, none] : L2.St) from rfl]
  walk_at "w"
  refine ⟨400, rfl, by decide, by decide, turnsR (fun i σ' H' => H' = H ∧ ∃ z1 z2, σ' = [some (.int t), some (.int b), some (.int (eIter i (pabs t, pabs b)).1), some (.int (eIter i (pabs t, pabs b)).2), z1, z2]) ?_ ?_ ?_⟩
  · exact ⟨rfl, none, none, rfl⟩
  · rintro i σ' H' hi ⟨rfl, z1, z2, rfl⟩
    generalize hp : eIter i (pabs t, pabs b) = p
    have hn : eIter (i + 1) (pabs t, pabs b) = eStep p := by rw [← hp]; rfl
    walk_at "w"
    refine it_dec (fun c => ?_) (fun c => ?_)
    · walk_at "w"
      rw [hn, show eStep p = (p.2, p.1 % p.2) from if_pos c]
      exact ⟨rfl, _, _, rfl⟩
    · walk_at "w"
      rw [hn, show eStep p = p from if_neg c]
      exact ⟨rfl, _, _, rfl⟩
  · rintro σ' H' ⟨rfl, z1, z2, rfl⟩
    have q : eIter 400 (pabs t, pabs b) = (((Int.gcd t b : Nat) : Int), (0 : Int)) := by
      have w := eIter_400 (p := (pabs t, pabs b)) (by show 0 ≤ pabs t; omega) (by show 0 ≤ pabs b; omega) (by show pabs b < 2 ^ 200; omega)
      rw [w]
      show (((Int.gcd (pabs t) (pabs b) : Nat) : Int), (0 : Int)) = _
      rw [e1, e2]
      rfl
    rw [show Int.toNat 400 = 400 from rfl, q]
    refine ⟨fun σ' H2 => H2 = H' ∧ ∃ z1 z2 z3, σ' = [some (.int t), some (.int b), some (.int (sgn b (Int.gcd t b))), z3, z1, z2], ?_, ?_⟩
    · walk_at "w"
      refine it_dec (fun c => ?_) (fun c => ?_)
      · walk_at "w"
        rw [show sgn b (Int.gcd t b) = 0 - ((Int.gcd t b : Nat) : Int) from (if_pos c).trans (by omega)]
        exact ⟨rfl, z1, z2, _, rfl⟩
      · walk_at "w"
        rw [show sgn b (Int.gcd t b) = ((Int.gcd t b : Nat) : Int) from if_neg c]
        exact ⟨rfl, z1, z2, _, rfl⟩
    · rintro σ' H2 ⟨rfl, z1, z2, z3, rfl⟩
      walk_at "w"
      exact ⟨by show 2 ≤ sizeLine; decide, fun p hp => k p hp⟩

/-- the bag's draws leave all but the bag as it was -/
def Keep (b : Addr) (H H' : Hp) : Prop := ∀ c o, c ≠ b → H c = some o → H' c = some o
theorem Keep.of {b : Addr} {H H' : Hp} (fr : ∀ c, c ≠ b → H' c = H c) : Keep b H H' := fun c o n h => (fr c n).trans h
theorem Keep.trans {b : Addr} {H H1 H2 : Hp} (k : Keep b H H1) (l : Keep b H1 H2) : Keep b H H2 := fun c o n h => l c o n (k c o n h)
theorem Keep.same {b : Addr} {H H' : Hp} (s : Same H H') : Keep b H H' := fun c o _ h => s c o h
theorem Keep.free {b : Addr} {H H' : Hp} {p : Addr} (k : Keep b H H') (n : p ≠ b) (h : H' p = none) : H p = none := by
  cases q : H p with
  | none => rfl
  | some o =>
    rw [k p o n q] at h
    cases h
theorem BagAt.ne {H : Hp} {b p : Addr} (B : BagAt H b) (h : H p = none) : p ≠ b := by
  obtain ⟨_, hb⟩ := B.lst
  exact Ne.symm (ne_of_none hb h)
theorem pow30 : (10 : Int) ^ Int.toNat 30 = 1000000000000000000000000000000 := by decide +kernel
theorem pow6 : (10 : Int) ^ Int.toNat 6 = 1000000 := by decide +kernel
theorem wide_item {r : Int} (r0 : 0 ≤ r) (r1 : r < 4) : ∃ wd : Int, atI [V.int 4, .int 60, .int ((10 : Int) ^ Int.toNat 6), .int ((10 : Int) ^ Int.toNat 30)] r = some (.int wd) ∧ 4 ≤ wd ∧ wd ≤ 1000000000000000000000000000000 := by
  obtain ⟨v, e, m⟩ := atI_mem (xs := [V.int 4, .int 60, .int ((10 : Int) ^ Int.toNat 6), .int ((10 : Int) ^ Int.toNat 30)]) r0 r1
  simp only [List.mem_cons, List.not_mem_nil, or_false] at m
  rcases m with rfl | rfl | rfl | rfl
  · exact ⟨_, e, by decide, by decide⟩
  · exact ⟨_, e, by decide, by decide⟩
  · exact ⟨_, e, by rw [pow6]; decide, by rw [pow6]; decide⟩
  · exact ⟨_, e, by rw [pow30]; decide, by rw [pow30]; decide⟩
theorem big8000 : (10000000000000000000000000000000000000000 : Nat) < 2 ^ 8000 := by decide +kernel
theorem big200 : (10000000000000000000000000000000000000000 : Nat) < 2 ^ 200 := by decide +kernel
theorem big1000 : (10000000000000000000000000000000000000000 : Nat) < 2 ^ 1000 := by decide +kernel
theorem big60 : (1000000000000000000000000000000 : Nat) * 1000000000000000000000000000000 < 2 ^ 200 := by decide +kernel
/-- a drawn fraction in lowest terms -/
structure Frac (t b : Int) : Prop where
  low : Low t b
  top : t.natAbs ≤ 1000000000000000000000000000000
  bot : b ≤ 1000000000000000000000000000000

def sp_law_fraction (K : PySem.W.Frag) (a : Ad) : Sp := sp1 fun x H Q _ => ∃ b : Addr, x = .ref b ∧ BagAt H b ∧ ∀ p t u H', BagAt H' b → H p = none → Keep b H H' → H' p = some (.tup [.int t, .int u]) → Frac t u → Q (.ref p) H'
theorem ok_law_fraction {P : Program} {w : World} {K : PySem.W.Frag} {mg : Str → Option Value} {base : Heap} {a : Ad} (T : Txt P K mg base a) : FnOk P w K mg base CX0 2 a.f_law_fraction a.d_law_fraction (["_law_bag_here"] : List Str) (sp_law_fraction K a) := by
  refine T.F_law_fraction.ok sc_law_fraction (fun vs H Q E h => sp1_len h) (fun cdv A outer s H vs Q E hr h => ?_)
  have hu := hu_of hr
  refine ⟨_, (pss_cons (ps_set (i := 1) sc_law_fraction.nd rfl (Or.inl rfl) (pe_ix ix_list (pe_lst (pa_cons pe_int (pa_cons pe_int (pa_cons (pe_op op_pow pe_int pe_int) (pa_cons (pe_op op_pow pe_int pe_int) pa_nil))))) (pe_call (ok_law_take T) (hr.mono (by decide)) rfl T.g_law_take T.k_law_take T.B_law_take .nil pass0 (pa_cons (pv 0) (pa_cons pe_int pa_nil))) (fun _ _ => rfl)))
      (pss_cons (ps_set (i := 2) sc_law_fraction.nd rfl (Or.inl rfl) (pe_op op_sub (pe_call (ok_law_take T) (hr.mono (by decide)) rfl T.g_law_take T.k_law_take T.B_law_take .nil pass0 (pa_cons (pv 0) (pa_cons (pe_op op_add (pe_op op_mul pe_int (pv 1)) pe_int) pa_nil))) (pv 1)))
      (pss_one (ps_ret (pe_call (ok_law_lowest T) (hr.mono (by decide)) rfl T.g_law_lowest T.k_law_lowest T.B_law_lowest .nil pass0 (pa_cons (pv 2) (pa_cons (pe_op op_add pe_int (pe_call (ok_law_take T) (hr.mono (by decide)) rfl T.g_law_take T.k_law_take T.B_law_take .nil pass0 (pa_cons (pv 0) (pa_cons (pv 1) pa_nil)))) pa_nil))))))), ?_⟩
  try dsimp only [L2.cxOf]
  obtain ⟨x, rfl, b, rfl, B, k⟩ := h
  have big := big8000
  have big2 := big200
  rw [show L2.start (["_law_bag_here", "_law_wide", "_law_top"] : List Str) [(.ref b)] = ([some ((.ref b)), none, none] : L2.St) from rfl]
  walk_at "w"
  refine ⟨by show 4 ≤ sizeLine; decide, fun p np => ?_⟩
  walk_at "w"
  refine ⟨_, _, rfl, b, 4, rfl, rfl, B.same (Same.new np), by decide, by decide +kernel, fun r H2 r0 r1 B2 fr2 => ?_⟩
  have hp2 : H2 p = some (.lst [.int 4, .int 60, .int ((10 : Int) ^ Int.toNat 6), .int ((10 : Int) ^ Int.toNat 30)]) := keep_of fr2 upd_same (B.ne np)
  obtain ⟨wd, ew, w1, w2⟩ := wide_item r0 r1
  refine w_ix (SqL.of hp2) ew ?_
  walk_at "w"
  refine ⟨_, _, rfl, b, _, rfl, rfl, B2, by omega, by omega, fun r3 H3 r30 r31 B3 fr3 => ?_⟩
  walk_at "w"
  refine ⟨_, _, rfl, b, _, rfl, rfl, B3, by omega, by omega, fun r4 H4 r40 r41 B4 fr4 => ?_⟩
  walk_at "w"
  refine ⟨_, _, rfl, r3 - wd, 1 + r4, rfl, rfl, by omega, by omega, fun q nq => ?_⟩
  have kp : Keep b H H4 := ((Keep.same (Same.new np)).trans (Keep.of fr2)).trans ((Keep.of fr3).trans (Keep.of fr4))
  have hpos : 0 < 1 + r4 := by omega
  have lb := low_bound (t := r3 - wd) hpos
  refine k q _ _ _ (B4.same (Same.new nq)) (kp.free (B4.ne nq) nq) (kp.trans (Keep.same (Same.new nq))) upd_same ⟨low_low hpos, by omega, by omega⟩

def sp_law_refused (K : PySem.W.Frag) (a : Ad) : Sp := sp1 fun x H Q _ => ∃ l : List Nat, x = .str (S l) ∧ (∀ c ∈ l, c < 128) ∧ l.length ≤ 1000 ∧ (l.length ≤ 100 → ∀ t b, ¬ RatOk l t b) ∧ ∀ H', Same H H' → Q (.bl true) H'
theorem ok_law_refused {P : Program} {w : World} {K : PySem.W.Frag} {mg : Str → Option Value} {base : Heap} {a : Ad} (T : Txt P K mg base a) : FnOk P w K mg base CX0 5 a.f_law_refused a.d_law_refused (["_law_text"] : List Str) (sp_law_refused K a) := by
  refine T.F_law_refused.ok sc_law_refused (fun vs H Q E h => sp1_len h) (fun cdv A outer s H vs Q E hr h => ?_)
  have hu := hu_of hr
  refine ⟨_, (pss_cons (ps_try_as (i := 1) rfl rfl sc_law_refused.nd rfl rfl ⟨rfl, by decide, .inl T.E_InvalidNumber.gC⟩ takes0 (fun W pn xe tk po => (pss_one (ps_expr (pe_smeth (pe_glob (v := .ref a.C_Ratio) rfl T.g_Ratio rfl) T.cr_Ratio T.S_Ratio_read (ok_Ratio_read T) (hr.mono (by decide)) T.k_Ratio_read T.B_Ratio_read (fun σ => passAt tk σ) (pa_cons (pv 0) pa_nil))))) (fun ae oe cls de pn hz hf => (pss_one (ps_ret (pe_cmpR op_eq (pe_xf (xfC_of T.E_InvalidNumber) T.x_InvalidNumber_value hz hf (pv 1)) (pv 0) (nomark _))))))
      (pss_one (ps_ret pe_bl))), ?_⟩
  try dsimp only [L2.cxOf]
  obtain ⟨x, rfl, l, rfl, asc, len, no, k⟩ := h
  rw [show L2.start (["_law_text", "e"] : List Str) [(.str (S l))] = ([some ((.str (S l))), none] : L2.St) from rfl]
  walk_at "w"
  refine ⟨rfl, ?_⟩
  walk_at "w"
  refine ⟨l, rfl, asc, len, fun t b h1 h2 => absurd h2 (no h1 t b), fun _ H1 s1 d hd => ?_⟩
  refine ⟨true, T.xm_IN, fun _ ae hae => ?_, fun z => by cases z⟩
  walk_at "w"
  refine ⟨_, rfl, rfl, rfl, d, _, .str (S l), rfl, upd_same, by simp [List.lookup], ?_⟩
  walk_at "w"
  rw [decide_eq_true rfl]
  exact k _ (s1.trans (Same.new hd))

def missRows (t b : Int) : List (List Nat) := (([[], [45], [47], intL t ++ [47], [47] ++ intL b, [43] ++ ratL t b, [48] ++ ratL t b, ratL t b ++ [32], [32] ++ ratL t b, ratL t b ++ [47, 49]] ++
  [intL t ++ [47, 49], (intL (2 * t) ++ [47]) ++ intL (2 * b), (intL t ++ [47, 45]) ++ intL b, [45, 48], [51, 47, 48], [45, 45, 49]]) ++ [[49, 47, 50, 47, 51], [120], ratL t b ++ [10], [45, 47] ++ intL b, [48, 47, 53], [49, 46, 53]])
theorem w_addSS {H : Hp} {Q : VK} {x y : List Nat} (h : x.length + y.length ≤ sizeLine) (k : Q (.str (S (x ++ y))) H) : rAddStr (.str (S x)) (.str (S y)) H Q := ⟨_, _, rfl, rfl, by rw [S_len, S_len]; exact h, by rw [S_cat]; exact k⟩
theorem w_strII {H : Hp} {Q : VK} {i : Int} (h : i.natAbs.log2 < 1920) (k : Q (.str (S (intL i))) H) : rStrI [.int i] H Q := ⟨i, rfl, h, by rw [← int_text] at k; exact k⟩
local macro_rules | `(tactic| walk_at "s5") => `(tactic| first
  | ((with_reducible refine' w_addSS ?h1 ?_); (case h1 => (simp only [List.length_append, List.length_cons, List.length_nil]; omega)))
  | ((with_reducible refine' w_strII ?h1 ?_); (case h1 => (refine log_ok ?_; omega))))
local macro_rules | `(tactic| walk_at "w") => `(tactic| repeat (first | walk_at "s" | walk_at "s4" | walk_at "s5"))
theorem lit0 : Str.ofString "" = S [] := rfl
theorem lit1 : Str.ofString "-" = S [45] := by decide +kernel
theorem lit2 : Str.ofString "/" = S [47] := by decide +kernel
theorem lit3 : Str.ofString "+" = S [43] := by decide +kernel
theorem lit4 : Str.ofString "0" = S [48] := by decide +kernel
theorem lit5 : Str.ofString " " = S [32] := by decide +kernel
theorem lit6 : Str.ofString "/1" = S [47, 49] := by decide +kernel
theorem lit7 : Str.ofString "/-" = S [47, 45] := by decide +kernel
theorem lit8 : Str.ofString "-0" = S [45, 48] := by decide +kernel
theorem lit9 : Str.ofString "3/0" = S [51, 47, 48] := by decide +kernel
theorem lit10 : Str.ofString "--1" = S [45, 45, 49] := by decide +kernel
theorem lit11 : Str.ofString "1/2/3" = S [49, 47, 50, 47, 51] := by decide +kernel
theorem lit12 : Str.ofString "x" = S [120] := by decide +kernel
theorem lit13 : Str.ofString "\n" = S [10] := by decide +kernel
theorem lit14 : Str.ofString "0/5" = S [48, 47, 53] := by decide +kernel
theorem lit16 : Str.ofString "Ratio(" = S [82, 97, 116, 105, 111, 40] := by decide +kernel
theorem lit17 : Str.ofString ", " = S [44, 32] := by decide +kernel
theorem lit18 : Str.ofString ")" = S [41] := by decide +kernel
theorem lit19 : Str.ofString "1" = S [49] := by decide +kernel
theorem lit20 : Str.ofString "9" = S [57] := by decide +kernel
theorem lit15 : Str.ofString "1.5" = S [49, 46, 53] := by decide +kernel

def sp_law_miss (K : PySem.W.Frag) (a : Ad) : Sp := sp3 fun x y z H Q _ => ∃ (c : Nat) (p : Addr) (t b : Int) (m : List Nat), x = .int c ∧ y = .ref p ∧ z = .str (S (ratL t b)) ∧ H p = some (.tup [.int t, .int b]) ∧ t.natAbs < 10 ^ 60 ∧ b.natAbs < 10 ^ 60 ∧ (missRows t b)[c]? = some m ∧ ∀ H', Same H H' → Q (.str (S m)) H'
theorem ok_law_miss {P : Program} {w : World} {K : PySem.W.Frag} {mg : Str → Option Value} {base : Heap} {a : Ad} (T : Txt P K mg base a) : FnOk P w K mg base CX0 1 a.f_law_miss a.d_law_miss (["_law_choice", "_law_a", "_law_text"] : List Str) (sp_law_miss K a) := by
  refine T.F_law_miss.ok sc_law_miss (fun vs H Q E h => sp3_len h) (fun cdv A outer s H vs Q E hr h => ?_)
  have hu := hu_of hr
  refine ⟨_, (pss_cons (ps_set (i := 3) sc_law_miss.nd rfl (Or.inl rfl) (pe_callTy qc_strI (by rfl) T.n_str bb_str (pa_cons (pe_ix ix_tup (pv 1) pe_int (fun _ _ => rfl)) pa_nil)))
      (pss_cons (ps_set (i := 4) sc_law_miss.nd rfl (Or.inl rfl) (pe_callTy qc_strI (by rfl) T.n_str bb_str (pa_cons (pe_ix ix_tup (pv 1) pe_int (fun _ _ => rfl)) pa_nil)))
      (pss_cons (ps_set (i := 5) sc_law_miss.nd rfl (Or.inl rfl) (pe_lst (pa_cons pe_str (pa_cons pe_str (pa_cons pe_str (pa_cons (pe_op qo_addS (pv 3) pe_str) (pa_cons (pe_op qo_addS pe_str (pv 4)) (pa_cons (pe_op qo_addS pe_str (pv 2)) (pa_cons (pe_op qo_addS pe_str (pv 2)) (pa_cons (pe_op qo_addS (pv 2) pe_str) (pa_cons (pe_op qo_addS pe_str (pv 2)) (pa_cons (pe_op qo_addS (pv 2) pe_str) pa_nil))))))))))))
      (pss_cons (ps_set (i := 5) sc_law_miss.nd rfl (Or.inl rfl) (pe_op op_cat (pv 5) (pe_lst (pa_cons (pe_op qo_addS (pv 3) pe_str) (pa_cons (pe_op qo_addS (pe_op qo_addS (pe_callTy qc_strI (by rfl) T.n_str bb_str (pa_cons (pe_op op_mul pe_int (pe_ix ix_tup (pv 1) pe_int (fun _ _ => rfl))) pa_nil)) pe_str) (pe_callTy qc_strI (by rfl) T.n_str bb_str (pa_cons (pe_op op_mul pe_int (pe_ix ix_tup (pv 1) pe_int (fun _ _ => rfl))) pa_nil))) (pa_cons (pe_op qo_addS (pe_op qo_addS (pv 3) pe_str) (pv 4)) (pa_cons pe_str (pa_cons pe_str (pa_cons pe_str pa_nil)))))))))
      (pss_cons (ps_set (i := 5) sc_law_miss.nd rfl (Or.inl rfl) (pe_op op_cat (pv 5) (pe_lst (pa_cons pe_str (pa_cons pe_str (pa_cons (pe_op qo_addS (pv 2) pe_str) (pa_cons (pe_op qo_addS (pe_op qo_addS pe_str pe_str) (pv 4)) (pa_cons pe_str (pa_cons pe_str pa_nil)))))))))
      (pss_one (ps_ret (pe_ix ix_list (pv 5) (pv 0) (fun _ _ => rfl))))))))), ?_⟩
  try dsimp only [L2.cxOf]
  obtain ⟨x, y, z, rfl, c, p, t, b, m, rfl, rfl, rfl, hp, ht, hb, hm, k⟩ := h
  have l1 := intL_len (by decide) ht
  have l2 := intL_len (by decide) hb
  have l3 : (ratL t b).length ≤ 200 := by
    unfold ratL
    split
    · omega
    · rw [List.length_append, List.length_cons]
      omega
  have big : (10 : Nat) ^ 60 < 10 ^ 61 ∧ 2 * (10 : Nat) ^ 60 < 10 ^ 61 ∧ (10 : Nat) ^ 61 < 10 ^ 200 := by decide +kernel
  have l4 := intL_len (i := 2 * t) (k := 61) (by decide) (by omega)
  have l5 := intL_len (i := 2 * b) (k := 61) (by decide) (by omega)
  have sz : sizeLine = 16777216 := by decide
  rw [show L2.start (["_law_choice", "_law_a", "_law_text", "_law_top", "_law_bottom", "_law_rows"] : List Str) [(.int c), (.ref p), (.str (S (ratL t b)))] = ([some ((.int c)), some ((.ref p)), some ((.str (S (ratL t b)))), none, none, none] : L2.St) from rfl]
  rw [lit0, lit1, lit2, lit3, lit4, lit5, lit6, lit7, lit8, lit9, lit10, lit11, lit12, lit13, lit14, lit15]
  walk_at "w"
  refine ⟨by show 10 ≤ sizeLine; decide, fun q1 n1 => ?_⟩
  have s1 := Same.new (o := .lst [V.str (S []), V.str (S [45]), V.str (S [47]), V.str (S (intL t ++ [47])), V.str (S ([47] ++ intL b)), V.str (S ([43] ++ ratL t b)), V.str (S ([48] ++ ratL t b)), V.str (S (ratL t b ++ [32])), V.str (S ([32] ++ ratL t b)), V.str (S (ratL t b ++ [47, 49]))]) n1
  have hp1 := s1 _ _ hp
  walk_at "w"
  refine ⟨by show 6 ≤ sizeLine; decide, fun q2 n2 => ?_⟩
  refine ⟨q1, q2, _, _, rfl, rfl, upd_old upd_same n2, upd_same, by show 10 + 6 ≤ sizeLine; decide, fun q3 n3 => ?_⟩
  walk_at "w"
  refine ⟨by show 6 ≤ sizeLine; decide, fun q4 n4 => ?_⟩
  refine ⟨q3, q4, _, _, rfl, rfl, upd_old upd_same n4, upd_same, by show 16 + 6 ≤ sizeLine; decide, fun q5 n5 => ?_⟩
  have hm2 : ((missRows t b).map fun l => V.str (S l))[c]? = some (V.str (S m)) := by
    rw [List.getElem?_map, hm]
    rfl
  walk_at "w"
  refine w_ix (SqL.of upd_same) (atI_nat hm2) ?_
  exact k _ ((((s1.trans (Same.new n2)).trans (Same.new n3)).trans (Same.new n4)).trans (Same.new n5))

theorem nn {l : List Nat} (h : isNum l = false) (i : Int) : l ≠ intL i := fun e => by
  rw [e, isNum_intL] at h
  cases h
theorem bad {l : List Nat} (c : Nat) (hc : c ∈ l) (h : c ≠ 45 ∧ (c < 48 ∨ 57 < c)) (i : Int) : l ≠ intL i := fun e => by
  have := intL_mem (e ▸ hc)
  omega
theorem lead0 {l : List Nat} (h : l ≠ []) (i : Int) : 48 :: l ≠ intL i := fun e => by
  by_cases c : i < 0
  · rw [intL_neg c] at e
    cases (List.cons.inj e).1
  · rw [intL_pos c] at e
    by_cases z : i.natAbs = 0
    · rw [z, show TL.numL 0 = [48] from by decide +kernel] at e
      exact h (List.cons.inj e).2
    · obtain ⟨d, r, e2, hd⟩ := numL_head (n := i.natAbs) (by omega)
      rw [e2] at e
      have := (List.cons.inj e).1
      omega
theorem no_free {l : List Nat} (h47 : 47 ∉ l) (h : ∀ i, l ≠ intL i) (t b : Int) : ¬ RatOk l t b := fun ok => h t (rat_none ok.2.2 h47).2
theorem no_left {p q : List Nat} (hp : 47 ∉ p) (h : ∀ i, p ≠ intL i) (t b : Int) : ¬ RatOk (p ++ 47 :: q) t b := fun ok => h t (rat_split ok.2.2 hp).1
theorem no_right {p q : List Nat} (hp : 47 ∉ p) (h : ∀ i, 0 < i → i ≠ 1 → q ≠ intL i) (t b : Int) : ¬ RatOk (p ++ 47 :: q) t b := fun ok =>
  have z := rat_split ok.2.2 hp
  h b ok.1 z.2.2 z.2.1
theorem rat_cases (t b : Int) (P : List Nat → Prop) (h1 : b = 1 → P (intL t)) (h2 : b ≠ 1 → P (intL t ++ 47 :: intL b)) : P (ratL t b) := by
  unfold ratL
  split
  · exact h1 ‹_›
  · exact h2 ‹_›
theorem app47 {p q : List Nat} {c : Nat} (h : 47 ∉ p) (hc : c ≠ 47) : 47 ∉ c :: p := fun z => by
  rcases List.mem_cons.mp z with z | z
  · exact hc z.symm
  · exact h z
theorem app47' {p : List Nat} {c : Nat} (h : 47 ∉ p) (hc : c ≠ 47) : 47 ∉ p ++ [c] := fun z => by
  rcases List.mem_append.mp z with z | z
  · exact h z
  · exact hc (List.mem_singleton.mp z).symm
theorem miss_no {t b : Int} (L : Low t b) {c : Nat} {m : List Nat} (h : (missRows t b)[c]? = some m) (t' b' : Int) : ¬ RatOk m t' b' := by
  have hm := List.mem_of_getElem? h
  have i47 := intL_47 t
  have lastR : ∀ d : Nat, d ≠ 47 → d ≠ 45 ∧ (d < 48 ∨ 57 < d) → ¬ RatOk (ratL t b ++ [d]) t' b' := fun d h47 hd => by
    refine rat_cases t b (fun l => ¬ RatOk (l ++ [d]) t' b') (fun _ => ?_) (fun _ => ?_)
    · exact no_free (app47' i47 h47) (bad d (by simp) hd) _ _
    · rw [List.append_assoc, List.cons_append]
      exact no_right i47 (fun i _ _ => bad d (by simp) hd i) _ _
  have firstR : ∀ d : Nat, d ≠ 47 → (∀ i, d :: intL t ≠ intL i) → ¬ RatOk ([d] ++ ratL t b) t' b' := fun d h47 hd => by
    refine rat_cases t b (fun l => ¬ RatOk ([d] ++ l) t' b') (fun _ => ?_) (fun _ => ?_)
    · exact no_free (app47 (q := []) i47 h47) hd _ _
    · rw [← List.append_assoc]
      exact no_left (app47 (q := []) i47 h47) hd _ _
  have one : ∀ i : Int, 0 < i → i ≠ 1 → [49] ≠ intL i := fun i _ hi e => hi (intL_inj (e.symm.trans (show [49] = intL 1 from by decide +kernel)))
  simp only [missRows, List.mem_append, List.mem_cons, List.not_mem_nil, or_false] at hm
  rcases hm with ((rfl | rfl | rfl | rfl | rfl | rfl | rfl | rfl | rfl | rfl) | rfl | rfl | rfl | rfl | rfl | rfl) | rfl | rfl | rfl | rfl | rfl | rfl
  · exact no_free (by simp) (fun i => (intL_ne i).symm) _ _
  · exact no_free (by decide) (nn (by decide +kernel)) _ _
  · exact no_left (p := []) (by simp) (fun i => (intL_ne i).symm) _ _
  · exact no_right i47 (fun i _ _ => (intL_ne i).symm) _ _
  · exact no_left (p := []) (by simp) (fun i => (intL_ne i).symm) _ _
  · exact firstR 43 (by decide) (bad 43 (by simp) (by decide))
  · exact firstR 48 (by decide) (lead0 (intL_ne t))
  · exact lastR 32 (by decide) (by decide)
  · exact firstR 32 (by decide) (bad 32 (by simp) (by decide))
  · refine rat_cases t b (fun l => ¬ RatOk (l ++ [47, 49]) t' b') (fun _ => no_right i47 one _ _) (fun _ => ?_)
    rw [List.append_assoc, List.cons_append]
    exact no_right i47 (fun i _ _ => bad 47 (by simp) (by decide) i) _ _
  · exact no_right i47 one _ _
  · rw [List.append_assoc]
    intro ok
    obtain ⟨h1, h2, _⟩ := rat_split ok.2.2 (intL_47 _)
    have e1 := intL_inj h1
    have e2 := intL_inj h2
    have g := ok.2.1
    rw [← e1, ← e2, Int.gcd_mul_left] at g
    have g2 : 2 * Int.gcd t b = 1 := g
    omega
  · rw [List.append_assoc]
    refine no_right (q := 45 :: intL b) i47 (fun i hi _ e => ?_) _ _
    have hb := L.pos
    have e2 : 45 :: intL b = intL (-b) := by
      rw [intL_neg (show -b < 0 by omega), intL_pos (show ¬ b < 0 by omega), Int.natAbs_neg]
    have := intL_inj (e2.symm.trans e)
    omega
  · exact no_free (by decide) (nn (by decide +kernel)) _ _
  · refine no_right (p := [51]) (q := [48]) (by decide) (fun i hi _ e => ?_) _ _
    have := intL_inj (e.symm.trans (show [48] = intL 0 from by decide +kernel))
    omega
  · exact no_free (by decide) (nn (by decide +kernel)) _ _
  · exact no_right (p := [49]) (q := [50, 47, 51]) (by decide) (fun i _ _ => bad 47 (by decide) (by decide) i) _ _
  · exact no_free (by decide) (bad 120 (by decide) (by decide)) _ _
  · exact lastR 10 (by decide) (by decide)
  · exact no_left (p := [45]) (by decide) (nn (by decide +kernel)) _ _
  · intro ok
    obtain ⟨h1, h2, _⟩ := rat_split (p := [48]) (q := [53]) ok.2.2 (by decide)
    have e1 := intL_inj (h1.symm.trans (show [48] = intL 0 from by decide +kernel))
    have e2 := intL_inj (h2.symm.trans (show [53] = intL 5 from by decide +kernel))
    have g := ok.2.1
    rw [e1, e2] at g
    revert g
    decide
  · exact no_free (by decide) (bad 46 (by decide) (by decide)) _ _
theorem intL_asc (i : Int) : ∀ c ∈ intL i, c < 128 := fun c hc => by
  have := intL_mem hc
  omega
theorem ratL_asc (t b : Int) : ∀ c ∈ ratL t b, c < 128 := by
  refine rat_cases t b (fun l => ∀ c ∈ l, c < 128) (fun _ => intL_asc t) (fun _ c hc => ?_)
  rcases List.mem_append.mp hc with h | h
  · exact intL_asc t c h
  · rcases List.mem_cons.mp h with h | h
    · omega
    · exact intL_asc b c h
theorem asc_app {p q : List Nat} (h1 : ∀ c ∈ p, c < 128) (h2 : ∀ c ∈ q, c < 128) : ∀ c ∈ p ++ q, c < 128 := fun c hc => by
  rcases List.mem_append.mp hc with h | h
  · exact h1 c h
  · exact h2 c h
theorem miss_asc {t b : Int} {c : Nat} {m : List Nat} (h : (missRows t b)[c]? = some m) : ∀ c ∈ m, c < 128 := by
  have hm := List.mem_of_getElem? h
  have a1 := intL_asc t
  have a2 := intL_asc b
  have a3 := ratL_asc t b
  simp only [missRows, List.mem_append, List.mem_cons, List.not_mem_nil, or_false] at hm
  rcases hm with ((rfl | rfl | rfl | rfl | rfl | rfl | rfl | rfl | rfl | rfl) | rfl | rfl | rfl | rfl | rfl | rfl) | rfl | rfl | rfl | rfl | rfl | rfl
  all_goals first | decide | exact asc_app a1 (by decide) | exact asc_app (by decide) a2 | exact asc_app a3 (by decide) | exact asc_app (by decide) a3 | exact asc_app (asc_app (intL_asc _) (by decide)) (intL_asc _) | simp
theorem miss_len {t b : Int} (h1 : (intL t).length ≤ 61) (h2 : (intL b).length ≤ 61) (h4 : (intL (2 * t)).length ≤ 62) (h5 : (intL (2 * b)).length ≤ 62) {c : Nat} {m : List Nat} (h : (missRows t b)[c]? = some m) : m.length ≤ 1000 := by
  have hm := List.mem_of_getElem? h
  have h3 : (ratL t b).length ≤ 200 := rat_cases t b (fun l => l.length ≤ 200) (fun _ => by omega) (fun _ => by rw [List.length_append, List.length_cons]; omega)
  simp only [missRows, List.mem_append, List.mem_cons, List.not_mem_nil, or_false] at hm
  rcases hm with ((rfl | rfl | rfl | rfl | rfl | rfl | rfl | rfl | rfl | rfl) | rfl | rfl | rfl | rfl | rfl | rfl) | rfl | rfl | rfl | rfl | rfl | rfl
  all_goals (simp only [List.length_append, List.length_cons, List.length_nil]; omega)

--CUT
open SX
theorem rat_low {t b : Int} (h : Low t b) : RatOk (ratL t b) t b := ⟨h.pos, h.one, rfl⟩
theorem digits_item {r : Int} (r0 : 0 ≤ r) (r1 : r < 9) : ∃ d : Nat, atI (Str.ofString "123456789").cps.toList r = some d ∧ 49 ≤ d ∧ d ≤ 57 := by
  obtain ⟨n, rfl⟩ := Int.eq_ofNat_of_zero_le r0
  have h : n < 9 := by omega
  refine ⟨49 + n, atI_nat ?_, by omega, by omega⟩
  have e : (Str.ofString "123456789").cps.toList = [49, 50, 51, 52, 53, 54, 55, 56, 57] := by decide +kernel
  rw [e]
  match n, h with
  | 0, _ => rfl
  | 1, _ => rfl
  | 2, _ => rfl
  | 3, _ => rfl
  | 4, _ => rfl
  | 5, _ => rfl
  | 6, _ => rfl
  | 7, _ => rfl
  | 8, _ => rfl
theorem sign_item {r : Int} (r0 : 0 ≤ r) (r1 : r < 2) : ∃ neg : Bool, atI [V.str (S []), V.str (S [45])] r = some (.str (S (sgL neg))) := by
  obtain ⟨n, rfl⟩ := Int.eq_ofNat_of_zero_le r0
  match n, (show n < 2 by omega) with
  | 0, _ => exact ⟨false, atI_nat rfl⟩
  | 1, _ => exact ⟨true, atI_nat rfl⟩

def sp_law (K : PySem.W.Frag) : Sp := sp1 fun x H Q _ => ∃ (s : Addr) (ns : List Int), x = .ref s ∧ SqL K H s (ns.map V.int) ∧ ns.length ≤ 63 ∧ ∀ H', Q (.bl true) H'
theorem ok_law {P : Program} {w : World} {K : PySem.W.Frag} {mg : Str → Option Value} {base : Heap} {a : Ad} (T : Txt P K mg base a) : FnOk P w K mg base CX0 6 a.f_law a.d_law (["_law_script"] : List Str) (sp_law K) := by
  refine T.F_law.ok sc_law (fun vs H Q E h => sp1_len h) (fun cdv A outer s H vs Q E hr h => ?_)
  have hu := hu_of hr
  refine ⟨_, (pss_cons (ps_set (i := 1) sc_law.nd rfl (Or.inl rfl) (pe_call (ok_law_bag T) (hr.mono (by decide)) rfl T.g_law_bag T.k_law_bag T.B_law_bag .nil pass0 (pa_cons (pv 0) pa_nil)))
      (pss_cons (ps_set (i := 2) sc_law.nd rfl (Or.inl rfl) (pe_call (ok_law_take T) (hr.mono (by decide)) rfl T.g_law_take T.k_law_take T.B_law_take .nil pass0 (pa_cons (pv 1) (pa_cons pe_int pa_nil))))
      (pss_cons (ps_set (i := 3) sc_law.nd rfl (Or.inl rfl) (pe_ix ix_str pe_str (pe_call (ok_law_take T) (hr.mono (by decide)) rfl T.g_law_take T.k_law_take T.B_law_take .nil pass0 (pa_cons (pv 1) (pa_cons pe_int pa_nil))) (fun _ _ => rfl)))
      (pss_cons (ps_set (i := 4) sc_law.nd rfl (Or.inl rfl) (pe_ix ix_list (pe_lst (pa_cons pe_str (pa_cons pe_str pa_nil))) (pe_call (ok_law_take T) (hr.mono (by decide)) rfl T.g_law_take T.k_law_take T.B_law_take .nil pass0 (pa_cons (pv 1) (pa_cons pe_int pa_nil))) (fun _ _ => rfl)))
      (pss_cons (ps_set (i := 5) sc_law.nd rfl (Or.inl rfl) (pe_op op_add pe_int (pe_call (ok_law_take T) (hr.mono (by decide)) rfl T.g_law_take T.k_law_take T.B_law_take .nil pass0 (pa_cons (pv 1) (pa_cons pe_int pa_nil)))))
      (pss_cons (ps_set (i := 6) sc_law.nd rfl (Or.inl rfl) (pe_call (ok_law_fraction T) (hr.mono (by decide)) rfl T.g_law_fraction T.k_law_fraction T.B_law_fraction .nil pass0 (pa_cons (pv 1) pa_nil)))
      (pss_cons (ps_set (i := 7) sc_law.nd rfl (Or.inl rfl) (pe_mkS T.M_Ratio (ok_Ratio_init T) (hr.mono (by decide)) rfl T.g_Ratio T.B_Ratio_init .nil (fun σ => passAt takes0 σ) (pa_cons (pe_ix ix_tup (pv 6) pe_int (fun _ _ => rfl)) (pa_cons (pe_ix ix_tup (pv 6) pe_int (fun _ _ => rfl)) pa_nil))))
      (pss_cons (ps_set (i := 8) sc_law.nd rfl (Or.inl rfl) (pe_callTy qc_strI (by rfl) T.n_str bb_str (pa_cons (pe_ix ix_tup (pv 6) pe_int (fun _ _ => rfl)) pa_nil)))
      (Evl.pss_cut (ps_if (pt_cmpR op_ne (pe_ix ix_tup (pv 6) pe_int (fun _ _ => rfl)) pe_int (nomark _)) (pss_one (ps_set (i := 8) sc_law.nd rfl (Or.inl rfl) (pe_op qo_addS (pe_op qo_addS (pv 8) pe_str) (pe_callTy qc_strI (by rfl) T.n_str bb_str (pa_cons (pe_ix ix_tup (pv 6) pe_int (fun _ _ => rfl)) pa_nil))))) pss_nil)
      (pss_cons (ps_if (PW.pt (pw_or (pt_cmpR op_ne (pe_callTy (call_strO T.M_Ratio_str.at_ T.M_Ratio_str.fn (ok_Ratio_str T) (hr.mono (by decide)) T.B_Ratio_str (units64b hr)) (by rfl) T.n_str bb_str (pa_cons (pv 7) pa_nil)) (pv 8) (nomark _)) (pw_or1 (pt_cmpR op_ne (pe_callB (call_reprO T.M_Ratio_repr.at_ T.M_Ratio_repr.fn (ok_Ratio_repr T) (hr.mono (by decide)) T.B_Ratio_repr (units64b hr)) (by rfl) T.n_repr bb_repr (pa_cons (pv 7) pa_nil)) (pe_op qo_addS (pe_op qo_addS (pe_op qo_addS (pe_op qo_addS pe_str (pe_callTy qc_strI (by rfl) T.n_str bb_str (pa_cons (pe_ix ix_tup (pv 6) pe_int (fun _ _ => rfl)) pa_nil))) pe_str) (pe_callTy qc_strI (by rfl) T.n_str bb_str (pa_cons (pe_ix ix_tup (pv 6) pe_int (fun _ _ => rfl)) pa_nil))) pe_str) (nomark _))))) (pss_one (ps_ret pe_bl)) pss_nil)
      (pss_cons (ps_if (PW.pt (pw_or (pt_not (pt_val (pe_call (ok_law_is T) (hr.mono (by decide)) rfl T.g_law_is T.k_law_is T.B_law_is .nil pass0 (pa_cons (pe_smeth (pe_glob (v := .ref a.C_Ratio) rfl T.g_Ratio rfl) T.cr_Ratio T.S_Ratio_read (ok_Ratio_read T) (hr.mono (by decide)) T.k_Ratio_read T.B_Ratio_read (fun σ => passAt takes0 σ) (pa_cons (pv 8) pa_nil)) (pa_cons (pv 6) pa_nil))))) (pw_or1 (pt_not (pt_val (pe_call (ok_law_refused T) (hr.mono (by decide)) rfl T.g_law_refused T.k_law_refused T.B_law_refused .nil pass0 (pa_cons (pe_call (ok_law_miss T) (hr.mono (by decide)) rfl T.g_law_miss T.k_law_miss T.B_law_miss .nil pass0 (pa_cons (pv 2) (pa_cons (pv 6) (pa_cons (pv 8) pa_nil)))) pa_nil))))))) (pss_one (ps_ret pe_bl)) pss_nil)
      (pss_cons (ps_set (i := 9) sc_law.nd rfl (Or.inl rfl) (pe_op qo_addS (pv 4) (pe_op op_mulS (pv 3) (pv 5))))
      (pss_cons (ps_set (i := 10) sc_law.nd rfl (Or.inl rfl) (pe_call (ok_law_take T) (hr.mono (by decide)) rfl T.g_law_take T.k_law_take T.B_law_take .nil pass0 (pa_cons (pv 1) (pa_cons pe_int pa_nil))))
      (pss_cons (ps_set (i := 11) sc_law.nd rfl (Or.inl rfl) (pe_lst (pa_cons (pe_op qo_addS (pe_op qo_addS (pv 4) pe_str) (pe_op op_mulS pe_str (pv 10))) (pa_cons (pe_op op_mulS pe_str (pe_op op_sub (pe_op op_sub (pv 5) (pv 10)) pe_int)) pa_nil))))
      (pss_cons (ps_set (i := 12) sc_law.nd rfl (Or.inl rfl) (pe_op qo_addS (pe_op qo_addS (pe_ix ix_list (pv 11) pe_int (fun _ _ => rfl)) pe_str) (pe_ix ix_list (pv 11) pe_int (fun _ _ => rfl))))
      (pss_cons (ps_if (PW.pt (pw_or (pt_cmpR op_ne (ClX.pe_cval (pe_glob (v := .ref a.C_Ratio) rfl T.g_Ratio rfl)) pe_int (nomark _)) (pw_or1 (PW.pt (pw_and (pt_cmpR op_gt (pe_callB qc_lenX (by rfl) T.n_len bb_len (pa_cons (pv 12) pa_nil)) pe_int (nomark _)) (pw_and1 (pt_not (pt_val (pe_call (ok_law_refused T) (hr.mono (by decide)) rfl T.g_law_refused T.k_law_refused T.B_law_refused .nil pass0 (pa_cons (pv 12) pa_nil)))))))))) (pss_one (ps_ret pe_bl)) pss_nil)
      (pss_cons (ps_if (PW.pt (pw_and (pt_cmpR op_le (pe_callB qc_lenX (by rfl) T.n_len bb_len (pa_cons (pv 12) pa_nil)) pe_int (nomark _)) (pw_and1 (pt_not (pt_val (pe_call (ok_law_is T) (hr.mono (by decide)) rfl T.g_law_is T.k_law_is T.B_law_is .nil pass0 (pa_cons (pe_smeth (pe_glob (v := .ref a.C_Ratio) rfl T.g_Ratio rfl) T.cr_Ratio T.S_Ratio_read (ok_Ratio_read T) (hr.mono (by decide)) T.k_Ratio_read T.B_Ratio_read (fun σ => passAt takes0 σ) (pa_cons (pv 12) pa_nil)) (pa_cons (pe_tup (pa_cons (pe_callTy qc_intS (by rfl) T.n_int bb_int (pa_cons (pe_ix ix_list (pv 11) pe_int (fun _ _ => rfl)) pa_nil)) (pa_cons (pe_callTy qc_intS (by rfl) T.n_int bb_int (pa_cons (pe_ix ix_list (pv 11) pe_int (fun _ _ => rfl)) pa_nil)) pa_nil))) pa_nil)))))))) (pss_one (ps_ret pe_bl)) pss_nil)
      (pss_cons (ps_if (pt_cmpR op_gt (pe_callB qc_lenX (by rfl) T.n_len bb_len (pa_cons (pv 9) pa_nil)) pe_int (nomark _)) (pss_one (ps_ret (pe_call (ok_law_refused T) (hr.mono (by decide)) rfl T.g_law_refused T.k_law_refused T.B_law_refused .nil pass0 (pa_cons (pv 9) pa_nil)))) pss_nil)
      (pss_one (ps_ret (pe_call (ok_law_is T) (hr.mono (by decide)) rfl T.g_law_is T.k_law_is T.B_law_is .nil pass0 (pa_cons (pe_smeth (pe_glob (v := .ref a.C_Ratio) rfl T.g_Ratio rfl) T.cr_Ratio T.S_Ratio_read (ok_Ratio_read T) (hr.mono (by decide)) T.k_Ratio_read T.B_Ratio_read (fun σ => passAt takes0 σ) (pa_cons (pv 9) pa_nil)) (pa_cons (pe_tup (pa_cons (pe_callTy qc_intS (by rfl) T.n_int bb_int (pa_cons (pv 9) pa_nil)) (pa_cons pe_int pa_nil))) pa_nil))))))))))))))))))))))), ?_⟩
  try dsimp only [L2.cxOf]
  obtain ⟨x, rfl, s0, ns, rfl, hS, hlen, k⟩ := h
  rw [show L2.start (["_law_script", "_law_bag_here", "_law_choice", "_law_digit", "_law_sign", "_law_long", "_law_a", "_law_ratio", "_law_text", "_law_run", "_law_zeros", "_law_parts", "_law_both"] : List Str) [(.ref s0)] = ([some ((.ref s0)), none, none, none, none, none, none, none, none, none, none, none, none] : L2.St) from rfl]
  have sz : sizeLine = 16777216 := by decide
  rw [lit0, lit1, lit2, lit4, lit16, lit17, lit18, lit19, lit20]
  walk_at "w"
  refine ⟨_, rfl, s0, ns, rfl, hS, fun b H1 nb s1 B1 => ?_⟩
  walk_at "w"
  refine ⟨_, _, rfl, b, 22, rfl, rfl, B1, by decide, by decide +kernel, fun ch H2 ch0 ch1 B2 fr2 => ?_⟩
  walk_at "w"
  refine ⟨_, _, rfl, b, 9, rfl, rfl, B2, by decide, by decide +kernel, fun dg H3 dg0 dg1 B3 fr3 => ?_⟩
  obtain ⟨d, ed, d0, d1⟩ := digits_item dg0 dg1
  walk_at "w"
  refine ⟨_, _, d, rfl, rfl, by rw [sz]; decide +kernel, ed, ?_⟩
  walk_at "w"
  refine ⟨by show 2 ≤ sizeLine; decide, fun ps nps => ?_⟩
  walk_at "w"
  refine ⟨_, _, rfl, b, 2, rfl, rfl, B3.same (Same.new nps), by decide, by decide +kernel, fun sg H4 sg0 sg1 B4 fr4 => ?_⟩
  have hps : H4 ps = some (.lst [V.str (S []), V.str (S [45])]) := keep_of fr4 upd_same (B3.ne nps)
  obtain ⟨neg, en⟩ := sign_item sg0 sg1
  refine w_ix (SqL.of hps) en ?_
  walk_at "w"
  refine ⟨_, _, rfl, b, 5, rfl, rfl, B4, by decide, by decide +kernel, fun lg H5 lg0 lg1 B5 fr5 => ?_⟩
  walk_at "w"
  refine ⟨_, rfl, b, rfl, B5, fun pa t u H6 B6 na k6 hA6 FA => ?_⟩
  have L := FA.low
  have up := L.pos
  have ft := FA.top
  have fu := FA.bot
  have big : (1000000000000000000000000000000 : Nat) < 10 ^ 31 ∧ (1000000000000000000000000000000 : Nat) < 10 ^ 60 ∧ (10 : Nat) ^ 60 < 10 ^ 200 ∧ (10 : Nat) ^ 60 < 2 ^ 8000 ∧ 2 * (1000000000000000000000000000000 : Nat) < 10 ^ 61 := by decide +kernel
  walk_at "w"
  intro z1 dz1 nz1 ndz1 nez1
  refine init_ok upd_same (by omega) (by omega) ⟨rfl, ?_⟩
  have R := made_at (a := a) (H := H6) (z := z1) (dz := dz1) (fs := []) (t := lowT t u) (b := lowB t u)
  have sd := made_same (C := a.C_Ratio) (fs := []) (gs := rfields (lowT t u) (lowB t u)) nz1 ndz1
  rw [(low_idem L).1, (low_idem L).2] at R sd ⊢
  generalize (upd (upd (upd H6 dz1 (.own z1)) z1 (.ins a.C_Ratio dz1 [])) z1 (.ins a.C_Ratio dz1 (rfields t u))) = H7 at R sd ⊢
  have hA7 := sd _ _ hA6
  have B7 := B6.same sd
  walk_at "w"
  have l1 := intL_len (i := t) (k := 31) (by decide) (by omega)
  have l2 := intL_len (i := u) (k := 31) (by decide) (by omega)
  refine ⟨fun σ' H' => H' = H7 ∧ σ' = [some (V.ref s0), some (V.ref b), some (V.int ch), some (V.str (S [d])), some (V.str (S (sgL neg))), some (V.int (98 + lg)), some (V.ref pa), some (V.ref z1), some (V.str (S (ratL t u))), none, none, none, none], ?_, ?_⟩
  · walk_at "w"
    refine it_ndec (fun c => ?_) (fun c => ?_)
    · walk_at "w"
      rw [show ratL t u = intL t from if_pos (V.int.inj c)]
      exact ⟨rfl, rfl⟩
    · walk_at "w"
      rw [show ratL t u = intL t ++ 47 :: intL u from if_neg fun z => c (congrArg V.int z), List.append_assoc]
      exact ⟨rfl, rfl⟩
  · rintro σ' H' ⟨rfl, rfl⟩
    walk_at "w"
    refine ⟨z1, _, _, rfl, R.ex.choose_spec, _, rfl, z1, _, _, rfl, R, by omega, by omega, ?_⟩
    refine ⟨_, rfl, ?_⟩
    walk_at "w"
    refine it_npos rfl ?_
    walk_at "w"
    refine ⟨z1, _, _, rfl, R.ex.choose_spec, _, rfl, z1, _, _, rfl, R, by omega, by omega, ?_⟩
    refine ⟨_, rfl, ?_⟩
    walk_at "w"
    refine it_npos rfl ?_
    walk_at "w"
    refine ⟨rfl, ?_⟩
    walk_at "w"
    have l3 : (ratL t u).length ≤ 100 := rat_cases t u (fun l => l.length ≤ 100) (fun _ => by omega) (fun _ => by rw [List.length_append, List.length_cons]; omega)
    refine ⟨_, rfl, ratL t u, rfl, ratL_asc t u, by omega, fun t' b' _ ok H8 p8 s8 R8 np8 => ?_, fun no => absurd (rat_low L) (no l3 t u)⟩
    obtain ⟨x1, x2⟩ := rat_uniq (show ratL t u = ratL t u from rfl) ok.2.2
    subst x1
    subst x2
    have hA8 := s8 _ _ hA7
    have B8 := B7.same s8
    walk_at "w"
    refine ⟨_, _, rfl, p8, pa, t, u, rfl, R8, rfl, SqT.of hA8, ?_⟩
    walk_at "w"
    obtain ⟨cn, rfl⟩ := Int.eq_ofNat_of_zero_le ch0
    have hcn : cn < (missRows t u).length := by
      show cn < 22
      omega
    have hm : (missRows t u)[cn]? = some (missRows t u)[cn] := List.getElem?_eq_getElem hcn
    generalize (missRows t u)[cn] = m at hm
    have l4 := intL_len (i := 2 * t) (k := 61) (by decide) (by omega)
    have l5 := intL_len (i := 2 * u) (k := 61) (by decide) (by omega)
    refine ⟨_, _, _, rfl, cn, pa, t, u, m, rfl, rfl, rfl, hA8, by omega, by omega, hm, fun H9 s9 => ?_⟩
    walk_at "w"
    refine ⟨_, rfl, m, rfl, miss_asc hm, miss_len (by omega) (by omega) (by omega) (by omega) hm, fun _ => miss_no L hm, fun H10 s10 => ?_⟩
    have B10 := (B8.same s9).same s10
    walk_at "w"
    refine ⟨_, _, rfl, rfl, by omega, by omega, ?_, ?_⟩
    · rw [S_len, sz]
      show 1 * _ ≤ _
      omega
    rw [rep_S]
    have hsg : (sgL neg).length ≤ 1 := by cases neg <;> decide
    refine w_addSS (by rw [List.length_replicate]; omega) ?_
    walk_at "w"
    refine ⟨_, _, rfl, b, 96, rfl, rfl, B10, by decide, by decide +kernel, fun zr H11 zr0 zr1 B11 fr11 => ?_⟩
    walk_at "w"
    refine ⟨_, _, rfl, rfl, by omega, by omega, ?_, ?_⟩
    · rw [S_len, sz]
      show 1 * _ ≤ _
      omega
    rw [rep_S]
    refine w_addSS (by rw [List.length_replicate, List.length_append, List.length_singleton]; omega) ?_
    walk_at "w"
    refine ⟨_, _, rfl, rfl, by omega, by omega, ?_, ?_⟩
    · rw [S_len, sz]
      show 1 * _ ≤ _
      omega
    rw [rep_S]
    obtain ⟨n, m2, en1, en2, hm1, hg1⟩ := both_int neg zr.toNat (k := (98 + lg - zr - 2).toNat) (by omega)
    obtain ⟨rn, er⟩ := run_int neg (k := (98 + lg).toNat) ⟨d0, d1⟩ (by omega)
    rw [en1, en2, er]
    have q1 : (intL n).length = (sgL neg).length + 1 + zr.toNat := by
      rw [← en1, List.length_append, List.length_append, List.length_replicate, List.length_singleton]
    have q2 : (intL m2).length = (98 + lg - zr - 2).toNat := by
      rw [← en2, List.length_replicate]
    have q3 : (intL rn).length = (sgL neg).length + (98 + lg).toNat := by
      rw [← er, List.length_append, List.length_replicate]
    walk_at "w"
    refine ⟨by show 2 ≤ sizeLine; decide, fun pp npp => ?_⟩
    walk_at "w"
    have hpp : upd H11 pp (.lst [V.str (S (intL n)), V.str (S (intL m2))]) pp = some _ := upd_same
    have bl : (intL n ++ [47] ++ intL m2).length = (sgL neg).length + (98 + lg).toNat := by
      rw [List.length_append, List.length_append, List.length_singleton]
      omega
    have bs : (S (intL n ++ [47] ++ intL m2)).length ≤ sizeLine := by
      rw [S_len, bl]
      omega
    have rs : (S (intL rn)).length ≤ sizeLine := by
      rw [S_len, q3]
      omega
    have ba : ∀ c ∈ intL n ++ [47] ++ intL m2, c < 128 := asc_app (asc_app (intL_asc n) (by decide)) (intL_asc m2)
    obtain ⟨uv, cv⟩ := T.cv_Ratio_MOST_TEXT
    refine ⟨_, _, _, uv, rfl, T.cr_Ratio, cv, ?_⟩
    walk_at "w"
    refine it_npos rfl ?_
    walk_at "w"
    refine ⟨_, rfl, bs, ?_⟩
    walk_at "w"
    rw [S_len]
    refine it_dec (fun c => ?_) (fun c => ?_)
    · walk_at "w"
      refine ⟨_, rfl, _, rfl, ba, by omega, fun z => by omega, fun H12 s12 => ?_⟩
      walk_at "w"
      refine ⟨_, rfl, bs, ?_⟩
      walk_at "w"
      rw [S_len]
      refine it_neg (by omega) ?_
      walk_at "w"
      refine ⟨_, rfl, rs, ?_⟩
      walk_at "w"
      rw [S_len]
      refine it_pos (by omega) ?_
      walk_at "w"
      refine ⟨_, rfl, _, rfl, intL_asc rn, by omega, fun z => by omega, fun H13 s13 => ?_⟩
      exact k _
    · walk_at "w"
      refine ⟨_, rfl, bs, ?_⟩
      walk_at "w"
      rw [S_len]
      refine it_pos (by omega) ?_
      walk_at "w"
      have okb : RatOk (intL n ++ [47] ++ intL m2) n m2 := ⟨by omega, hg1, by rw [List.append_assoc]; exact (if_neg (show ¬ m2 = 1 by omega)).symm⟩
      have okr : RatOk (intL rn) rn 1 := ⟨by decide, Int.gcd_one_right rn, (if_pos rfl).symm⟩
      refine ⟨rfl, ?_⟩
      walk_at "w"
      refine ⟨_, rfl, _, rfl, ba, by omega, fun t' b' _ ok H12 p12 s12 R12 np12 => ?_, fun no => absurd okb (no (by omega) n m2)⟩
      obtain ⟨x1, x2⟩ := rat_uniq okb.2.2 ok.2.2
      subst x1
      subst x2
      have hpp12 := s12 _ _ hpp
      walk_at "w"
      refine w_intS (intL_reads (by omega)) (by rw [S_len]; omega) ?_
      walk_at "w"
      refine w_intS (intL_reads (by omega)) (by rw [S_len]; omega) ?_
      walk_at "w"
      refine ⟨by show 2 ≤ sizeLine; decide, fun p13 n13 => ?_⟩
      walk_at "w"
      refine ⟨_, _, rfl, p12, p13, n, m2, rfl, R12.same (Same.new n13), rfl, SqT.of upd_same, ?_⟩
      walk_at "w"
      refine ⟨_, rfl, rs, ?_⟩
      walk_at "w"
      rw [S_len]
      refine it_neg (by omega) ?_
      walk_at "w"
      refine ⟨rfl, ?_⟩
      walk_at "w"
      refine ⟨_, rfl, _, rfl, intL_asc rn, by omega, fun t' b' _ ok H14 p14 s14 R14 np14 => ?_, fun no => absurd okr (no (by omega) rn 1)⟩
      obtain ⟨x1, x2⟩ := rat_uniq okr.2.2 ok.2.2
      subst x1
      subst x2
      walk_at "w"
      refine w_intS (intL_reads (by omega)) (by rw [S_len]; omega) ?_
      walk_at "w"
      refine ⟨by show 2 ≤ sizeLine; decide, fun p15 n15 => ?_⟩
      walk_at "w"
      refine ⟨_, _, rfl, p14, p15, rn, 1, rfl, R14.same (Same.new n15), rfl, SqT.of upd_same, ?_⟩
      exact k _

end FG
namespace FG
open PySem L2
theorem y_InvalidNumber : Txt1 "InvalidNumber.__init__" "value" "not a valid number" (defArgs s_InvalidNumber_init) (defBody s_InvalidNumber_init) (defScope s_InvalidNumber_init) where
  ex := ⟨_, _, _, _, _, _, _, _, _, _, _, _, rfl, rfl, rfl, fun L fI cc cda => ⟨by rfl, by rfl, by rfl, _, by rfl⟩⟩
  bind := fun _ _ _ _ _ _ _ _ _ => rfl
  nself := by decide +kernel
  ndbg := by decide +kernel
  ks := by decide +kernel
  kc := by decide +kernel
  k0 := by decide +kernel
  k1 := by decide +kernel
  cells := by decide +kernel
  kind := rfl
  co := rfl
  gen := rfl
theorem all_mk {w : World} {K : PySem.W.Frag} {h : Heap} {mg : Str → Option Value} {fa : Addr} (X : K.In h) (G : h.Ns mainGlobals mg) (hfa : mg "law" = some (.ref fa))
    {C_Ratio : Addr}
    {f_is_integer : Addr} {oc_is_integer kV_is_integer dc_is_integer pm_is_integer cd_is_integer ct_is_integer : Value} {od_is_integer an_is_integer : Option Addr} {sl_is_integer : Array (Option Value)}
    {f_greatest_divisor : Addr} {oc_greatest_divisor kV_greatest_divisor dc_greatest_divisor pm_greatest_divisor cd_greatest_divisor ct_greatest_divisor : Value} {od_greatest_divisor an_greatest_divisor : Option Addr} {sl_greatest_divisor : Array (Option Value)}
    {f_law_bag : Addr} {oc_law_bag kV_law_bag dc_law_bag pm_law_bag cd_law_bag ct_law_bag : Value} {od_law_bag an_law_bag : Option Addr} {sl_law_bag : Array (Option Value)}
    {f_law_take : Addr} {oc_law_take kV_law_take dc_law_take pm_law_take cd_law_take ct_law_take : Value} {od_law_take an_law_take : Option Addr} {sl_law_take : Array (Option Value)}
    {f_Ratio_init : Addr} {oc_Ratio_init kV_Ratio_init dc_Ratio_init pm_Ratio_init cd_Ratio_init ct_Ratio_init : Value} {od_Ratio_init an_Ratio_init : Option Addr} {sl_Ratio_init : Array (Option Value)}
    {tp_Ratio_init : Addr} {tc_Ratio_init : Value} {td_Ratio_init : Option Addr} {tn_Ratio_init : Nat} {ts_Ratio_init : Array (Option Value)} {tk0_Ratio_init : Tok}
    {f_is_numeral : Addr} {oc_is_numeral kV_is_numeral dc_is_numeral pm_is_numeral cd_is_numeral ct_is_numeral : Value} {od_is_numeral an_is_numeral : Option Addr} {sl_is_numeral : Array (Option Value)}
    {f_Ratio_str : Addr} {oc_Ratio_str kV_Ratio_str dc_Ratio_str pm_Ratio_str cd_Ratio_str ct_Ratio_str : Value} {od_Ratio_str an_Ratio_str : Option Addr} {sl_Ratio_str : Array (Option Value)}
    {f_Ratio_repr : Addr} {oc_Ratio_repr kV_Ratio_repr dc_Ratio_repr pm_Ratio_repr cd_Ratio_repr ct_Ratio_repr : Value} {od_Ratio_repr an_Ratio_repr : Option Addr} {sl_Ratio_repr : Array (Option Value)}
    {f_Ratio_read : Addr} {oc_Ratio_read kV_Ratio_read dc_Ratio_read pm_Ratio_read cd_Ratio_read ct_Ratio_read : Value} {od_Ratio_read an_Ratio_read : Option Addr} {sl_Ratio_read : Array (Option Value)}
    {p_Ratio_read : Addr} {pr_Ratio_read : List Value}
    {f_law_int : Addr} {oc_law_int kV_law_int dc_law_int pm_law_int cd_law_int ct_law_int : Value} {od_law_int an_law_int : Option Addr} {sl_law_int : Array (Option Value)}
    {f_law_is : Addr} {oc_law_is kV_law_is dc_law_is pm_law_is cd_law_is ct_law_is : Value} {od_law_is an_law_is : Option Addr} {sl_law_is : Array (Option Value)}
    {f_law_lowest : Addr} {oc_law_lowest kV_law_lowest dc_law_lowest pm_law_lowest cd_law_lowest ct_law_lowest : Value} {od_law_lowest an_law_lowest : Option Addr} {sl_law_lowest : Array (Option Value)}
    {f_law_fraction : Addr} {oc_law_fraction kV_law_fraction dc_law_fraction pm_law_fraction cd_law_fraction ct_law_fraction : Value} {od_law_fraction an_law_fraction : Option Addr} {sl_law_fraction : Array (Option Value)}
    {f_law_refused : Addr} {oc_law_refused kV_law_refused dc_law_refused pm_law_refused cd_law_refused ct_law_refused : Value} {od_law_refused an_law_refused : Option Addr} {sl_law_refused : Array (Option Value)}
    {f_law_miss : Addr} {oc_law_miss kV_law_miss dc_law_miss pm_law_miss cd_law_miss ct_law_miss : Value} {od_law_miss an_law_miss : Option Addr} {sl_law_miss : Array (Option Value)}
    {f_law : Addr} {oc_law kV_law dc_law pm_law cd_law ct_law : Value} {od_law an_law : Option Addr} {sl_law : Array (Option Value)}
    {ut_Ratio_MOST_TEXT : Tok}
    {C_InvalidNumber i_InvalidNumber c_InvalidNumber k_InvalidNumber N_InvalidNumber : Addr} {n1_InvalidNumber q_InvalidNumber : Str} {bs_InvalidNumber bm_InvalidNumber : List Value} {sn_InvalidNumber : List Str} {su_InvalidNumber : List Value} {ab_InvalidNumber : Bool} {co_InvalidNumber : Option Bool} {dd_InvalidNumber : Option Addr} {m0_InvalidNumber m1_InvalidNumber m2_InvalidNumber m3_InvalidNumber m5_InvalidNumber : Option Value}
    {ec_InvalidNumber ekV_InvalidNumber edc_InvalidNumber epm_InvalidNumber ect_InvalidNumber ecl_InvalidNumber ecl2_InvalidNumber : Value} {ed_InvalidNumber ean_InvalidNumber ecd_InvalidNumber ecd2_InvalidNumber : Option Addr} {esl_InvalidNumber ecs_InvalidNumber ecs2_InvalidNumber : Array (Option Value)} {evs_InvalidNumber : Array Value} {efl_InvalidNumber : Str} {etf_InvalidNumber : Tok}
    (a_Ratio : PySem.W.nsIn K mainGlobals "Ratio" = some (some (.ref C_Ratio)))
    (a_is_integer : PySem.W.nsIn K mainGlobals "is_integer" = some (some (.ref f_is_integer)))
    (l_is_integer : K.lookup f_is_integer = some ⟨oc_is_integer, od_is_integer, .func (PySem.W.fnOf "is_integer" "is_integer" (defArgs s_is_integer) (defBody s_is_integer) (defScope s_is_integer) .none kV_is_integer dc_is_integer pm_is_integer an_is_integer cd_is_integer ct_is_integer), sl_is_integer⟩)
    (q_is_integer : PySem.W.codeIn K cd_is_integer "is_integer" = true)
    (k_is_integer : PySem.W.keepIn K (.ref f_is_integer) = true)
    (a_greatest_divisor : PySem.W.nsIn K mainGlobals "greatest_divisor" = some (some (.ref f_greatest_divisor)))
    (l_greatest_divisor : K.lookup f_greatest_divisor = some ⟨oc_greatest_divisor, od_greatest_divisor, .func (PySem.W.fnOf "greatest_divisor" "greatest_divisor" (defArgs s_greatest_divisor) (defBody s_greatest_divisor) (defScope s_greatest_divisor) .none kV_greatest_divisor dc_greatest_divisor pm_greatest_divisor an_greatest_divisor cd_greatest_divisor ct_greatest_divisor), sl_greatest_divisor⟩)
    (q_greatest_divisor : PySem.W.codeIn K cd_greatest_divisor "greatest_divisor" = true)
    (k_greatest_divisor : PySem.W.keepIn K (.ref f_greatest_divisor) = true)
    (a_law_bag : PySem.W.nsIn K mainGlobals "_law_bag" = some (some (.ref f_law_bag)))
    (l_law_bag : K.lookup f_law_bag = some ⟨oc_law_bag, od_law_bag, .func (PySem.W.fnOf "_law_bag" "_law_bag" (defArgs s_law_bag) (defBody s_law_bag) (defScope s_law_bag) .none kV_law_bag dc_law_bag pm_law_bag an_law_bag cd_law_bag ct_law_bag), sl_law_bag⟩)
    (q_law_bag : PySem.W.codeIn K cd_law_bag "_law_bag" = true)
    (k_law_bag : PySem.W.keepIn K (.ref f_law_bag) = true)
    (a_law_take : PySem.W.nsIn K mainGlobals "_law_take" = some (some (.ref f_law_take)))
    (l_law_take : K.lookup f_law_take = some ⟨oc_law_take, od_law_take, .func (PySem.W.fnOf "_law_take" "_law_take" (defArgs s_law_take) (defBody s_law_take) (defScope s_law_take) .none kV_law_take dc_law_take pm_law_take an_law_take cd_law_take ct_law_take), sl_law_take⟩)
    (q_law_take : PySem.W.codeIn K cd_law_take "_law_take" = true)
    (k_law_take : PySem.W.keepIn K (.ref f_law_take) = true)
    (a_Ratio_init : PySem.W.findIn K (.ref C_Ratio) "__init__" = some (some (.ref f_Ratio_init)))
    (i_Ratio_init : PySem.W.isFn K (.ref f_Ratio_init) = true)
    (l_Ratio_init : K.lookup f_Ratio_init = some ⟨oc_Ratio_init, od_Ratio_init, .func (PySem.W.fnOf "__init__" "Ratio.__init__" (defArgs s_Ratio_init) (defBody s_Ratio_init) (defScope s_Ratio_init) (.ref tp_Ratio_init) kV_Ratio_init dc_Ratio_init pm_Ratio_init an_Ratio_init cd_Ratio_init ct_Ratio_init), sl_Ratio_init⟩)
    (q_Ratio_init : PySem.W.codeIn K cd_Ratio_init "Ratio.__init__" = true)
    (k_Ratio_init : PySem.W.keepIn K (.ref f_Ratio_init) = true)
    (t_Ratio_init : K.lookup tp_Ratio_init = some ⟨tc_Ratio_init, td_Ratio_init, .seq ([.int 1 tk0_Ratio_init] : List Value).toArray tn_Ratio_init, ts_Ratio_init⟩)
    (a_is_numeral : PySem.W.nsIn K mainGlobals "is_numeral" = some (some (.ref f_is_numeral)))
    (l_is_numeral : K.lookup f_is_numeral = some ⟨oc_is_numeral, od_is_numeral, .func (PySem.W.fnOf "is_numeral" "is_numeral" (defArgs s_is_numeral) (defBody s_is_numeral) (defScope s_is_numeral) .none kV_is_numeral dc_is_numeral pm_is_numeral an_is_numeral cd_is_numeral ct_is_numeral), sl_is_numeral⟩)
    (q_is_numeral : PySem.W.codeIn K cd_is_numeral "is_numeral" = true)
    (k_is_numeral : PySem.W.keepIn K (.ref f_is_numeral) = true)
    (a_Ratio_str : PySem.W.findIn K (.ref C_Ratio) "__str__" = some (some (.ref f_Ratio_str)))
    (i_Ratio_str : PySem.W.isFn K (.ref f_Ratio_str) = true)
    (l_Ratio_str : K.lookup f_Ratio_str = some ⟨oc_Ratio_str, od_Ratio_str, .func (PySem.W.fnOf "__str__" "Ratio.__str__" (defArgs s_Ratio_str) (defBody s_Ratio_str) (defScope s_Ratio_str) .none kV_Ratio_str dc_Ratio_str pm_Ratio_str an_Ratio_str cd_Ratio_str ct_Ratio_str), sl_Ratio_str⟩)
    (q_Ratio_str : PySem.W.codeIn K cd_Ratio_str "Ratio.__str__" = true)
    (k_Ratio_str : PySem.W.keepIn K (.ref f_Ratio_str) = true)
    (a_Ratio_repr : PySem.W.findIn K (.ref C_Ratio) "__repr__" = some (some (.ref f_Ratio_repr)))
    (i_Ratio_repr : PySem.W.isFn K (.ref f_Ratio_repr) = true)
    (l_Ratio_repr : K.lookup f_Ratio_repr = some ⟨oc_Ratio_repr, od_Ratio_repr, .func (PySem.W.fnOf "__repr__" "Ratio.__repr__" (defArgs s_Ratio_repr) (defBody s_Ratio_repr) (defScope s_Ratio_repr) .none kV_Ratio_repr dc_Ratio_repr pm_Ratio_repr an_Ratio_repr cd_Ratio_repr ct_Ratio_repr), sl_Ratio_repr⟩)
    (q_Ratio_repr : PySem.W.codeIn K cd_Ratio_repr "Ratio.__repr__" = true)
    (k_Ratio_repr : PySem.W.keepIn K (.ref f_Ratio_repr) = true)
    (a_Ratio_read : PySem.W.findCls K (.ref C_Ratio) (.type "type") "read" = some (.get (.builtin "staticmethod.__get__") (.ref p_Ratio_read) .none (.ref C_Ratio)))
    (pr0_Ratio_read : PySem.W.recIn K p_Ratio_read "staticmethod" = some (.ref f_Ratio_read :: pr_Ratio_read))
    (l_Ratio_read : K.lookup f_Ratio_read = some ⟨oc_Ratio_read, od_Ratio_read, .func (PySem.W.fnOf "read" "Ratio.read" (defArgs s_Ratio_read) (defBody s_Ratio_read) (defScope s_Ratio_read) .none kV_Ratio_read dc_Ratio_read pm_Ratio_read an_Ratio_read cd_Ratio_read ct_Ratio_read), sl_Ratio_read⟩)
    (q_Ratio_read : PySem.W.codeIn K cd_Ratio_read "Ratio.read" = true)
    (k_Ratio_read : PySem.W.keepIn K (.ref f_Ratio_read) = true)
    (a_law_int : PySem.W.nsIn K mainGlobals "_law_int" = some (some (.ref f_law_int)))
    (l_law_int : K.lookup f_law_int = some ⟨oc_law_int, od_law_int, .func (PySem.W.fnOf "_law_int" "_law_int" (defArgs s_law_int) (defBody s_law_int) (defScope s_law_int) .none kV_law_int dc_law_int pm_law_int an_law_int cd_law_int ct_law_int), sl_law_int⟩)
    (q_law_int : PySem.W.codeIn K cd_law_int "_law_int" = true)
    (k_law_int : PySem.W.keepIn K (.ref f_law_int) = true)
    (a_law_is : PySem.W.nsIn K mainGlobals "_law_is" = some (some (.ref f_law_is)))
    (l_law_is : K.lookup f_law_is = some ⟨oc_law_is, od_law_is, .func (PySem.W.fnOf "_law_is" "_law_is" (defArgs s_law_is) (defBody s_law_is) (defScope s_law_is) .none kV_law_is dc_law_is pm_law_is an_law_is cd_law_is ct_law_is), sl_law_is⟩)
    (q_law_is : PySem.W.codeIn K cd_law_is "_law_is" = true)
    (k_law_is : PySem.W.keepIn K (.ref f_law_is) = true)
    (a_law_lowest : PySem.W.nsIn K mainGlobals "_law_lowest" = some (some (.ref f_law_lowest)))
    (l_law_lowest : K.lookup f_law_lowest = some ⟨oc_law_lowest, od_law_lowest, .func (PySem.W.fnOf "_law_lowest" "_law_lowest" (defArgs s_law_lowest) (defBody s_law_lowest) (defScope s_law_lowest) .none kV_law_lowest dc_law_lowest pm_law_lowest an_law_lowest cd_law_lowest ct_law_lowest), sl_law_lowest⟩)
    (q_law_lowest : PySem.W.codeIn K cd_law_lowest "_law_lowest" = true)
    (k_law_lowest : PySem.W.keepIn K (.ref f_law_lowest) = true)
    (a_law_fraction : PySem.W.nsIn K mainGlobals "_law_fraction" = some (some (.ref f_law_fraction)))
    (l_law_fraction : K.lookup f_law_fraction = some ⟨oc_law_fraction, od_law_fraction, .func (PySem.W.fnOf "_law_fraction" "_law_fraction" (defArgs s_law_fraction) (defBody s_law_fraction) (defScope s_law_fraction) .none kV_law_fraction dc_law_fraction pm_law_fraction an_law_fraction cd_law_fraction ct_law_fraction), sl_law_fraction⟩)
    (q_law_fraction : PySem.W.codeIn K cd_law_fraction "_law_fraction" = true)
    (k_law_fraction : PySem.W.keepIn K (.ref f_law_fraction) = true)
    (a_law_refused : PySem.W.nsIn K mainGlobals "_law_refused" = some (some (.ref f_law_refused)))
    (l_law_refused : K.lookup f_law_refused = some ⟨oc_law_refused, od_law_refused, .func (PySem.W.fnOf "_law_refused" "_law_refused" (defArgs s_law_refused) (defBody s_law_refused) (defScope s_law_refused) .none kV_law_refused dc_law_refused pm_law_refused an_law_refused cd_law_refused ct_law_refused), sl_law_refused⟩)
    (q_law_refused : PySem.W.codeIn K cd_law_refused "_law_refused" = true)
    (k_law_refused : PySem.W.keepIn K (.ref f_law_refused) = true)
    (a_law_miss : PySem.W.nsIn K mainGlobals "_law_miss" = some (some (.ref f_law_miss)))
    (l_law_miss : K.lookup f_law_miss = some ⟨oc_law_miss, od_law_miss, .func (PySem.W.fnOf "_law_miss" "_law_miss" (defArgs s_law_miss) (defBody s_law_miss) (defScope s_law_miss) .none kV_law_miss dc_law_miss pm_law_miss an_law_miss cd_law_miss ct_law_miss), sl_law_miss⟩)
    (q_law_miss : PySem.W.codeIn K cd_law_miss "_law_miss" = true)
    (k_law_miss : PySem.W.keepIn K (.ref f_law_miss) = true)
    (a_law : PySem.W.nsIn K mainGlobals "law" = some (some (.ref f_law)))
    (l_law : K.lookup f_law = some ⟨oc_law, od_law, .func (PySem.W.fnOf "law" "law" (defArgs s_law) (defBody s_law) (defScope s_law) .none kV_law dc_law pm_law an_law cd_law ct_law), sl_law⟩)
    (q_law : PySem.W.codeIn K cd_law "law" = true)
    (k_law : PySem.W.keepIn K (.ref f_law) = true)
    (pg_Ratio : PySem.W.plainGet K C_Ratio Str.empty = true)
    (hd_Ratio : PySem.W.hasDictIn K C_Ratio = true)
    (po_Ratio : PySem.W.plainOver K C_Ratio = true)
    (sa_Ratio : PySem.W.findIn K (.ref C_Ratio) "__setattr__" = some (some (.builtin "object.__setattr__")))
    (i1_Ratio : PySem.W.findIn K (.ref C_Ratio) "__class__" = some (some (.builtin "object.__class__")))
    (i4_Ratio : PySem.W.mroIn K C_Ratio (.type "object") = some true)
    (mk_Ratio : PySem.W.makesIn K C_Ratio = true)
    (kc_Ratio : PySem.W.keepIn K (.ref C_Ratio) = true)
    (rd_Ratio : PySem.W.readsIn K C_Ratio (.type "type") = true)
    (cg_Ratio : PySem.W.specialIn K (.ref C_Ratio) "__getattribute__" = some (some (.builtin "type.__getattribute__")))
    (cv_Ratio_MOST_TEXT : PySem.W.findCls K (.ref C_Ratio) (.type "type") "MOST_TEXT" = some (.val (.int 100 ut_Ratio_MOST_TEXT)))
    (o2 : PySem.W.specialIn K (.builtin "object.__class__") "__get__" = some (some (.builtin "getset_descriptor.__get__")))
    (o3 : PySem.W.takesIn K (.builtin "object.__class__") = some true)
    (oq : PySem.W.nsIn K cStatics "thirdparty.any" = some none)
    (os : PySem.W.nsIn K mainGlobals "super" = some none)
    (a_InvalidNumber : PySem.W.nsIn K mainGlobals "InvalidNumber" = some (some (.ref C_InvalidNumber)))
    (L_InvalidNumber : K.lookup C_InvalidNumber = some (excClassObj n1_InvalidNumber q_InvalidNumber C_InvalidNumber N_InvalidNumber bs_InvalidNumber bm_InvalidNumber true sn_InvalidNumber su_InvalidNumber ab_InvalidNumber co_InvalidNumber dd_InvalidNumber m0_InvalidNumber m1_InvalidNumber m2_InvalidNumber m3_InvalidNumber m5_InvalidNumber "ValueError.__new__"))
    (ve_InvalidNumber : PySem.HandSPX.refsVE bm_InvalidNumber = true)
    (al_InvalidNumber : PySem.W.alongIn K "__init__" bm_InvalidNumber = some (some (.builtin "ValueError.__init__")))
    (sa_InvalidNumber : PySem.W.findIn K (.ref C_InvalidNumber) "__setattr__" = some (some (.builtin "object.__setattr__")))
    (ga_InvalidNumber : PySem.W.findIn K (.ref C_InvalidNumber) "__getattribute__" = some (some (.builtin "BaseException.__getattribute__")))
    (gg_InvalidNumber : PySem.W.findIn K (.ref C_InvalidNumber) "__getattr__" = some none)
    (ii_InvalidNumber : PySem.W.findIn K (.ref C_InvalidNumber) "__init__" = some (some (.ref i_InvalidNumber)))
    (ti_InvalidNumber : PySem.W.typeIn K (.ref i_InvalidNumber) = some (.type "function"))
    (kc_InvalidNumber : PySem.W.keepIn K (.ref C_InvalidNumber) = true)
    (be_InvalidNumber : PySem.W.subIn K (.ref C_InvalidNumber) (.type "BaseException") = some true)
    (ev_InvalidNumber : PySem.W.subIn K (.ref C_InvalidNumber) (.type "ValueError") = some true)
    (ty_InvalidNumber : PySem.W.typeIn K (.ref C_InvalidNumber) = some (.type "type"))
    (hd_InvalidNumber : PySem.W.hasDictIn K C_InvalidNumber = true)
    (me_InvalidNumber : PySem.W.mroIn K C_InvalidNumber (.ref C_InvalidNumber) = some true)
    (l_InvalidNumber : K.lookup i_InvalidNumber = some ⟨ec_InvalidNumber, ed_InvalidNumber, .func (errFd "InvalidNumber.__init__" (defArgs s_InvalidNumber_init) (defBody s_InvalidNumber_init) (defScope s_InvalidNumber_init) c_InvalidNumber ekV_InvalidNumber edc_InvalidNumber epm_InvalidNumber ean_InvalidNumber (.ref k_InvalidNumber) ect_InvalidNumber), esl_InvalidNumber⟩)
    (q_InvalidNumber : PySem.W.codeIn K (.ref k_InvalidNumber) "InvalidNumber.__init__" = true)
    (lk_InvalidNumber : K.lookup k_InvalidNumber = some ⟨ecl_InvalidNumber, ecd_InvalidNumber, .fields evs_InvalidNumber, ecs_InvalidNumber⟩)
    (fl_InvalidNumber : evs_InvalidNumber[2]? = some (.str efl_InvalidNumber etf_InvalidNumber))
    (fi_InvalidNumber : ((PySem.Challenge.rw_fontgap_k04_ratio_written_and_read.prog.main.file : Str) == efl_InvalidNumber) = true)
    (lc_InvalidNumber : K.lookup c_InvalidNumber = some ⟨ecl2_InvalidNumber, ecd2_InvalidNumber, .cell (some (.ref C_InvalidNumber)), ecs2_InvalidNumber⟩)
    (i1_InvalidNumber : PySem.W.findIn K (.ref C_InvalidNumber) "__class__" = some (some (.builtin "object.__class__")))
    (i4_InvalidNumber : PySem.W.mroIn K C_InvalidNumber (.type "object") = some true)
    (x_InvalidNumber_value : PySem.W.findIn K (.ref C_InvalidNumber) "value" = some none)
    (n_abs : PySem.W.nsIn K mainGlobals "abs" = some none)
    (n_bool : PySem.W.nsIn K mainGlobals "bool" = some none)
    (n_int : PySem.W.nsIn K mainGlobals "int" = some none)
    (n_isinstance : PySem.W.nsIn K mainGlobals "isinstance" = some none)
    (n_len : PySem.W.nsIn K mainGlobals "len" = some none)
    (n_list : PySem.W.nsIn K mainGlobals "list" = some none)
    (n_range : PySem.W.nsIn K mainGlobals "range" = some none)
    (n_repr : PySem.W.nsIn K mainGlobals "repr" = some none)
    (n_str : PySem.W.nsIn K mainGlobals "str" = some none)
    (na_Ratio_top : NoAttr K C_Ratio "top")
    (na_Ratio_bottom : NoAttr K C_Ratio "bottom")
    (xm_IN : PySem.W.exmOne K (.ref C_InvalidNumber) (.ref C_InvalidNumber) = some true)
    : ∃ fd : FuncData, (∀ (s : Shared) (v : Value), BindsTo s fd ⟨[v], []⟩ [(("_law_script" : Str), v)]) ∧ ∀ base : Heap, K.In base → base.Ns mainGlobals mg → FnOk PySem.Challenge.rw_fontgap_k04_ratio_written_and_read.prog w K mg base CX0 6 fa fd (["_law_script"] : List Str) (sp_law K) := by
  have e := hfa.symm.trans (PySem.W.mg_of X G a_law)
  cases e
  have T : ∀ base, Txt PySem.Challenge.rw_fontgap_k04_ratio_written_and_read.prog K mg base { f_is_integer := f_is_integer, d_is_integer := PySem.W.fnOf "is_integer" "is_integer" (defArgs s_is_integer) (defBody s_is_integer) (defScope s_is_integer) .none kV_is_integer dc_is_integer pm_is_integer an_is_integer cd_is_integer ct_is_integer, f_greatest_divisor := f_greatest_divisor, d_greatest_divisor := PySem.W.fnOf "greatest_divisor" "greatest_divisor" (defArgs s_greatest_divisor) (defBody s_greatest_divisor) (defScope s_greatest_divisor) .none kV_greatest_divisor dc_greatest_divisor pm_greatest_divisor an_greatest_divisor cd_greatest_divisor ct_greatest_divisor, f_law_bag := f_law_bag, d_law_bag := PySem.W.fnOf "_law_bag" "_law_bag" (defArgs s_law_bag) (defBody s_law_bag) (defScope s_law_bag) .none kV_law_bag dc_law_bag pm_law_bag an_law_bag cd_law_bag ct_law_bag, f_law_take := f_law_take, d_law_take := PySem.W.fnOf "_law_take" "_law_take" (defArgs s_law_take) (defBody s_law_take) (defScope s_law_take) .none kV_law_take dc_law_take pm_law_take an_law_take cd_law_take ct_law_take, f_Ratio_init := f_Ratio_init, d_Ratio_init := PySem.W.fnOf "__init__" "Ratio.__init__" (defArgs s_Ratio_init) (defBody s_Ratio_init) (defScope s_Ratio_init) (.ref tp_Ratio_init) kV_Ratio_init dc_Ratio_init pm_Ratio_init an_Ratio_init cd_Ratio_init ct_Ratio_init, v1_Ratio_init := [.int 1 tk0_Ratio_init], f_is_numeral := f_is_numeral, d_is_numeral := PySem.W.fnOf "is_numeral" "is_numeral" (defArgs s_is_numeral) (defBody s_is_numeral) (defScope s_is_numeral) .none kV_is_numeral dc_is_numeral pm_is_numeral an_is_numeral cd_is_numeral ct_is_numeral, f_Ratio_str := f_Ratio_str, d_Ratio_str := PySem.W.fnOf "__str__" "Ratio.__str__" (defArgs s_Ratio_str) (defBody s_Ratio_str) (defScope s_Ratio_str) .none kV_Ratio_str dc_Ratio_str pm_Ratio_str an_Ratio_str cd_Ratio_str ct_Ratio_str, f_Ratio_repr := f_Ratio_repr, d_Ratio_repr := PySem.W.fnOf "__repr__" "Ratio.__repr__" (defArgs s_Ratio_repr) (defBody s_Ratio_repr) (defScope s_Ratio_repr) .none kV_Ratio_repr dc_Ratio_repr pm_Ratio_repr an_Ratio_repr cd_Ratio_repr ct_Ratio_repr, p_Ratio_read := p_Ratio_read, f_Ratio_read := f_Ratio_read, d_Ratio_read := PySem.W.fnOf "read" "Ratio.read" (defArgs s_Ratio_read) (defBody s_Ratio_read) (defScope s_Ratio_read) .none kV_Ratio_read dc_Ratio_read pm_Ratio_read an_Ratio_read cd_Ratio_read ct_Ratio_read, f_law_int := f_law_int, d_law_int := PySem.W.fnOf "_law_int" "_law_int" (defArgs s_law_int) (defBody s_law_int) (defScope s_law_int) .none kV_law_int dc_law_int pm_law_int an_law_int cd_law_int ct_law_int, f_law_is := f_law_is, d_law_is := PySem.W.fnOf "_law_is" "_law_is" (defArgs s_law_is) (defBody s_law_is) (defScope s_law_is) .none kV_law_is dc_law_is pm_law_is an_law_is cd_law_is ct_law_is, f_law_lowest := f_law_lowest, d_law_lowest := PySem.W.fnOf "_law_lowest" "_law_lowest" (defArgs s_law_lowest) (defBody s_law_lowest) (defScope s_law_lowest) .none kV_law_lowest dc_law_lowest pm_law_lowest an_law_lowest cd_law_lowest ct_law_lowest, f_law_fraction := f_law_fraction, d_law_fraction := PySem.W.fnOf "_law_fraction" "_law_fraction" (defArgs s_law_fraction) (defBody s_law_fraction) (defScope s_law_fraction) .none kV_law_fraction dc_law_fraction pm_law_fraction an_law_fraction cd_law_fraction ct_law_fraction, f_law_refused := f_law_refused, d_law_refused := PySem.W.fnOf "_law_refused" "_law_refused" (defArgs s_law_refused) (defBody s_law_refused) (defScope s_law_refused) .none kV_law_refused dc_law_refused pm_law_refused an_law_refused cd_law_refused ct_law_refused, f_law_miss := f_law_miss, d_law_miss := PySem.W.fnOf "_law_miss" "_law_miss" (defArgs s_law_miss) (defBody s_law_miss) (defScope s_law_miss) .none kV_law_miss dc_law_miss pm_law_miss an_law_miss cd_law_miss ct_law_miss, f_law := fa, d_law := PySem.W.fnOf "law" "law" (defArgs s_law) (defBody s_law) (defScope s_law) .none kV_law dc_law pm_law an_law cd_law ct_law, C_Ratio := C_Ratio, C_InvalidNumber := C_InvalidNumber, i_InvalidNumber := i_InvalidNumber, c_InvalidNumber := c_InvalidNumber, k_InvalidNumber := k_InvalidNumber } := fun base =>
    { F_is_integer := fun_mk (st := s_is_integer) l_is_integer q_is_integer k_is_integer,
      B_is_integer := (fun_mk (st := s_is_integer) l_is_integer q_is_integer k_is_integer).binds (fun _ _ _ _ _ _ us hl => match us, hl with | [_], _ => rfl),
      g_is_integer := PySem.W.mg_of X G a_is_integer,
      k_is_integer := k_is_integer,
      F_greatest_divisor := fun_mk (st := s_greatest_divisor) l_greatest_divisor q_greatest_divisor k_greatest_divisor,
      B_greatest_divisor := (fun_mk (st := s_greatest_divisor) l_greatest_divisor q_greatest_divisor k_greatest_divisor).binds (fun _ _ _ _ _ _ us hl => match us, hl with | [_, _], _ => rfl),
      g_greatest_divisor := PySem.W.mg_of X G a_greatest_divisor,
      k_greatest_divisor := k_greatest_divisor,
      F_law_bag := fun_mk (st := s_law_bag) l_law_bag q_law_bag k_law_bag,
      B_law_bag := (fun_mk (st := s_law_bag) l_law_bag q_law_bag k_law_bag).binds (fun _ _ _ _ _ _ us hl => match us, hl with | [_], _ => rfl),
      g_law_bag := PySem.W.mg_of X G a_law_bag,
      k_law_bag := k_law_bag,
      F_law_take := fun_mk (st := s_law_take) l_law_take q_law_take k_law_take,
      B_law_take := (fun_mk (st := s_law_take) l_law_take q_law_take k_law_take).binds (fun _ _ _ _ _ _ us hl => match us, hl with | [_, _], _ => rfl),
      g_law_take := PySem.W.mg_of X G a_law_take,
      k_law_take := k_law_take,
      F_Ratio_init := ⟨⟨_, _, _, _, _, _, _, _, _, _, rfl, l_Ratio_init, q_Ratio_init, .inr ⟨by simp, _, _, _, _, rfl, t_Ratio_init, rfl, (.cons ⟨_, rfl⟩ .nil)⟩, .inl rfl⟩, k_Ratio_init⟩,
      B_Ratio_init := FG.bindsD (its := [.int 1 tk0_Ratio_init]) (ds := []) l_Ratio_init t_Ratio_init (fun us hl => match us, hl with | [_, _, _], _ => ⟨_, rfl, rfl⟩),
      B1_Ratio_init := FG.bindsD (its := [.int 1 tk0_Ratio_init]) (ds := [.int 1 tk0_Ratio_init]) l_Ratio_init t_Ratio_init (fun us hl => match us, hl with | [_, _], _ => ⟨_, rfl, rfl⟩),
      V1_Ratio_init := (.cons ⟨_, rfl⟩ .nil),
      F_is_numeral := fun_mk (st := s_is_numeral) l_is_numeral q_is_numeral k_is_numeral,
      B_is_numeral := (fun_mk (st := s_is_numeral) l_is_numeral q_is_numeral k_is_numeral).binds (fun _ _ _ _ _ _ us hl => match us, hl with | [_], _ => rfl),
      g_is_numeral := PySem.W.mg_of X G a_is_numeral,
      k_is_numeral := k_is_numeral,
      F_Ratio_str := fun_mk (st := s_Ratio_str) l_Ratio_str q_Ratio_str k_Ratio_str,
      B_Ratio_str := (fun_mk (st := s_Ratio_str) l_Ratio_str q_Ratio_str k_Ratio_str).binds (fun _ _ _ _ _ _ us hl => match us, hl with | [_], _ => rfl),
      M_Ratio_str := ⟨a_Ratio_str, i_Ratio_str, k_Ratio_str⟩,
      F_Ratio_repr := fun_mk (st := s_Ratio_repr) l_Ratio_repr q_Ratio_repr k_Ratio_repr,
      B_Ratio_repr := (fun_mk (st := s_Ratio_repr) l_Ratio_repr q_Ratio_repr k_Ratio_repr).binds (fun _ _ _ _ _ _ us hl => match us, hl with | [_], _ => rfl),
      M_Ratio_repr := ⟨a_Ratio_repr, i_Ratio_repr, k_Ratio_repr⟩,
      F_Ratio_read := fun_mk (st := s_Ratio_read) l_Ratio_read q_Ratio_read k_Ratio_read,
      B_Ratio_read := (fun_mk (st := s_Ratio_read) l_Ratio_read q_Ratio_read k_Ratio_read).binds (fun _ _ _ _ _ _ us hl => match us, hl with | [_], _ => rfl),
      S_Ratio_read := ⟨a_Ratio_read, _, pr0_Ratio_read⟩,
      k_Ratio_read := k_Ratio_read,
      F_law_int := fun_mk (st := s_law_int) l_law_int q_law_int k_law_int,
      B_law_int := (fun_mk (st := s_law_int) l_law_int q_law_int k_law_int).binds (fun _ _ _ _ _ _ us hl => match us, hl with | [_], _ => rfl),
      g_law_int := PySem.W.mg_of X G a_law_int,
      k_law_int := k_law_int,
      F_law_is := fun_mk (st := s_law_is) l_law_is q_law_is k_law_is,
      B_law_is := (fun_mk (st := s_law_is) l_law_is q_law_is k_law_is).binds (fun _ _ _ _ _ _ us hl => match us, hl with | [_, _], _ => rfl),
      g_law_is := PySem.W.mg_of X G a_law_is,
      k_law_is := k_law_is,
      F_law_lowest := fun_mk (st := s_law_lowest) l_law_lowest q_law_lowest k_law_lowest,
      B_law_lowest := (fun_mk (st := s_law_lowest) l_law_lowest q_law_lowest k_law_lowest).binds (fun _ _ _ _ _ _ us hl => match us, hl with | [_, _], _ => rfl),
      g_law_lowest := PySem.W.mg_of X G a_law_lowest,
      k_law_lowest := k_law_lowest,
      F_law_fraction := fun_mk (st := s_law_fraction) l_law_fraction q_law_fraction k_law_fraction,
      B_law_fraction := (fun_mk (st := s_law_fraction) l_law_fraction q_law_fraction k_law_fraction).binds (fun _ _ _ _ _ _ us hl => match us, hl with | [_], _ => rfl),
      g_law_fraction := PySem.W.mg_of X G a_law_fraction,
      k_law_fraction := k_law_fraction,
      F_law_refused := fun_mk (st := s_law_refused) l_law_refused q_law_refused k_law_refused,
      B_law_refused := (fun_mk (st := s_law_refused) l_law_refused q_law_refused k_law_refused).binds (fun _ _ _ _ _ _ us hl => match us, hl with | [_], _ => rfl),
      g_law_refused := PySem.W.mg_of X G a_law_refused,
      k_law_refused := k_law_refused,
      F_law_miss := fun_mk (st := s_law_miss) l_law_miss q_law_miss k_law_miss,
      B_law_miss := (fun_mk (st := s_law_miss) l_law_miss q_law_miss k_law_miss).binds (fun _ _ _ _ _ _ us hl => match us, hl with | [_, _, _], _ => rfl),
      g_law_miss := PySem.W.mg_of X G a_law_miss,
      k_law_miss := k_law_miss,
      F_law := fun_mk (st := s_law) l_law q_law k_law,
      B_law := (fun_mk (st := s_law) l_law q_law k_law).binds (fun _ _ _ _ _ _ us hl => match us, hl with | [_], _ => rfl),
      g_law := PySem.W.mg_of X G a_law,
      k_law := k_law,
      cr_Ratio := ⟨rd_Ratio, cg_Ratio⟩,
      cv_Ratio_MOST_TEXT := ⟨_, cv_Ratio_MOST_TEXT, ⟨_, rfl⟩⟩,
      g_Ratio := PySem.W.mg_of X G a_Ratio,
      c_Ratio := ⟨pg_Ratio, hd_Ratio, po_Ratio, sa_Ratio⟩,
      I_Ratio := ⟨i1_Ratio, o2, o3, i4_Ratio⟩,
      M_Ratio := ⟨mk_Ratio, a_Ratio_init, i_Ratio_init, kc_Ratio⟩,
      E_InvalidNumber := { gC := PySem.W.mg_of X G a_InvalidNumber, cls := ⟨_, _, _, _, _, _, _, _, _, _, _, _, _, _, _, L_InvalidNumber, ve_InvalidNumber, al_InvalidNumber⟩, sa := sa_InvalidNumber, ga := ga_InvalidNumber, gg := gg_InvalidNumber, iC := ii_InvalidNumber, tC := ti_InvalidNumber, kC := kc_InvalidNumber, exC := be_InvalidNumber, veC := ev_InvalidNumber, tyC := ty_InvalidNumber, hdC := hd_InvalidNumber, meC := me_InvalidNumber, fn := ⟨_, _, _, _, _, _, _, _, l_InvalidNumber, q_InvalidNumber⟩, code := ⟨_, _, _, _, _, _, lk_InvalidNumber, fl_InvalidNumber, fi_InvalidNumber⟩, cell := ⟨_, _, _, lc_InvalidNumber⟩, opq := oq, sup := PySem.W.mg_none_of X G os, top := by rfl },
      Y_InvalidNumber := y_InvalidNumber,
      X_InvalidNumber := ⟨ga_InvalidNumber, gg_InvalidNumber, be_InvalidNumber, hd_InvalidNumber, i1_InvalidNumber, o2, o3, i4_InvalidNumber⟩,
      x_InvalidNumber_value := x_InvalidNumber_value,
      n_abs := PySem.W.mg_none_of X G n_abs,
      n_bool := PySem.W.mg_none_of X G n_bool,
      n_int := PySem.W.mg_none_of X G n_int,
      n_isinstance := PySem.W.mg_none_of X G n_isinstance,
      n_len := PySem.W.mg_none_of X G n_len,
      n_list := PySem.W.mg_none_of X G n_list,
      n_range := PySem.W.mg_none_of X G n_range,
      n_repr := PySem.W.mg_none_of X G n_repr,
      n_str := PySem.W.mg_none_of X G n_str,
      na_Ratio_top := na_Ratio_top,
      na_Ratio_bottom := na_Ratio_bottom,
      xm_IN := xm_IN }
  exact ⟨_, fun s v => .of_eq rfl, fun base _ _ => ok_law (T base)⟩
theorem walk {q : Program} {loose : List Str} {XP : (Str → Option Value) → Heap → Prop} {YP : World → Heap → Prop} {d : DefRec} {K : Params → PySem.W.Frag} (hn : PySem.Challenge.rw_fontgap_k04_ratio_written_and_read.most = some 63) (hdf : d.params.defaults = [])
    (hY : ∀ (w : World) (h : Heap), YP w h → (K w.params).In h)
    (F : ∀ (w : World) (mg : Str → Option Value) (fa : Addr) (h : Heap), (K w.params).In h → h.Ns mainGlobals mg → mg d.name = some (.ref fa) →
      ∃ fd : FuncData, (∀ (s : Shared) (u : Value), BindsTo s fd ⟨[u], []⟩ [(("_law_script" : Str), u)]) ∧ ∀ base : Heap, (K w.params).In base → base.Ns mainGlobals mg → FnOk PySem.Challenge.rw_fontgap_k04_ratio_written_and_read.prog w (K w.params) mg base CX0 6 fa fd (["_law_script"] : List Str) (sp_law (K w.params))) :
    PySem.W.WalkO q loose XP YP PySem.Challenge.rw_fontgap_k04_ratio_written_and_read.row.toRowW d [] (fun f vs => PySem.call f vs) :=
  L2.walk_of (n := 63) (k := 6) (x := "_law_script") (CX := fun _ => CX0) (sp := fun w => sp_law (K w.params)) hn (by decide) hdf ⟨rfl, by decide, by decide⟩ hY F (fun _ _ a ns hl _ hS => ⟨_, rfl, a, ns, rfl, hS, hl, fun _ => rfl⟩) fun _ _ _ _ _ z => z
end FG
open PySem PySem.W PyProof.Rows
set_option maxRecDepth 100000 in
set_option maxHeartbeats 0 in
theorem PySem.Challenge.cw_fontgap_k04_ratio_written_and_read_holds : PySem.Challenge.rw_fontgap_k04_ratio_written_and_read.Holds := by
  w_on; o_law; k_head; (case hw => w_witness2)
  k_fill
  refine FG.walk rfl rfl (fun w h Y => PySem.W.kIn_of Y) ?F
  case F =>
    intro w mg fa h KX G hmg
    refine' FG.all_mk KX G hmg ?a_Ratio ?a_is_integer ?l_is_integer ?q_is_integer ?k_is_integer ?a_greatest_divisor ?l_greatest_divisor ?q_greatest_divisor ?k_greatest_divisor ?a_law_bag ?l_law_bag ?q_law_bag ?k_law_bag ?a_law_take ?l_law_take ?q_law_take ?k_law_take ?a_Ratio_init ?i_Ratio_init ?l_Ratio_init ?q_Ratio_init ?k_Ratio_init ?t_Ratio_init ?a_is_numeral ?l_is_numeral ?q_is_numeral ?k_is_numeral ?a_Ratio_str ?i_Ratio_str ?l_Ratio_str ?q_Ratio_str ?k_Ratio_str ?a_Ratio_repr ?i_Ratio_repr ?l_Ratio_repr ?q_Ratio_repr ?k_Ratio_repr ?a_Ratio_read ?pr0_Ratio_read ?l_Ratio_read ?q_Ratio_read ?k_Ratio_read ?a_law_int ?l_law_int ?q_law_int ?k_law_int ?a_law_is ?l_law_is ?q_law_is ?k_law_is ?a_law_lowest ?l_law_lowest ?q_law_lowest ?k_law_lowest ?a_law_fraction ?l_law_fraction ?q_law_fraction ?k_law_fraction ?a_law_refused ?l_law_refused ?q_law_refused ?k_law_refused ?a_law_miss ?l_law_miss ?q_law_miss ?k_law_miss ?a_law ?l_law ?q_law ?k_law ?pg_Ratio ?hd_Ratio ?po_Ratio ?sa_Ratio ?i1_Ratio ?i4_Ratio ?mk_Ratio ?kc_Ratio ?rd_Ratio ?cg_Ratio ?cv_Ratio_MOST_TEXT ?o2 ?o3 ?oq ?os ?a_InvalidNumber ?L_InvalidNumber ?ve_InvalidNumber ?al_InvalidNumber ?sa_InvalidNumber ?ga_InvalidNumber ?gg_InvalidNumber ?ii_InvalidNumber ?ti_InvalidNumber ?kc_InvalidNumber ?be_InvalidNumber ?ev_InvalidNumber ?ty_InvalidNumber ?hd_InvalidNumber ?me_InvalidNumber ?l_InvalidNumber ?q_InvalidNumber ?lk_InvalidNumber ?fl_InvalidNumber ?fi_InvalidNumber ?lc_InvalidNumber ?i1_InvalidNumber ?i4_InvalidNumber ?x_InvalidNumber_value ?n_abs ?n_bool ?n_int ?n_isinstance ?n_len ?n_list ?n_range ?n_repr ?n_str ?na_Ratio_top ?na_Ratio_bottom ?xm_IN
    (case a_Ratio => first | k_is | rfl)
    (case a_is_integer => first | k_is | rfl)
    (case l_is_integer => first | k_is | rfl)
    (case q_is_integer => first | k_is | rfl)
    (case k_is_integer => first | k_is | rfl)
    (case a_greatest_divisor => first | k_is | rfl)
    (case l_greatest_divisor => first | k_is | rfl)
    (case q_greatest_divisor => first | k_is | rfl)
    (case k_greatest_divisor => first | k_is | rfl)
    (case a_law_bag => first | k_is | rfl)
    (case l_law_bag => first | k_is | rfl)
    (case q_law_bag => first | k_is | rfl)
    (case k_law_bag => first | k_is | rfl)
    (case a_law_take => first | k_is | rfl)
    (case l_law_take => first | k_is | rfl)
    (case q_law_take => first | k_is | rfl)
    (case k_law_take => first | k_is | rfl)
    (case a_Ratio_init => first | k_is | rfl)
    (case i_Ratio_init => first | k_is | rfl)
    (case l_Ratio_init => first | k_is | rfl)
    (case q_Ratio_init => first | k_is | rfl)
    (case k_Ratio_init => first | k_is | rfl)
    (case t_Ratio_init => first | k_is | rfl)
    (case a_is_numeral => first | k_is | rfl)
    (case l_is_numeral => first | k_is | rfl)
    (case q_is_numeral => first | k_is | rfl)
    (case k_is_numeral => first | k_is | rfl)
    (case a_Ratio_str => first | k_is | rfl)
    (case i_Ratio_str => first | k_is | rfl)
    (case l_Ratio_str => first | k_is | rfl)
    (case q_Ratio_str => first | k_is | rfl)
    (case k_Ratio_str => first | k_is | rfl)
    (case a_Ratio_repr => first | k_is | rfl)
    (case i_Ratio_repr => first | k_is | rfl)
    (case l_Ratio_repr => first | k_is | rfl)
    (case q_Ratio_repr => first | k_is | rfl)
    (case k_Ratio_repr => first | k_is | rfl)
    (case a_Ratio_read => first | k_is | rfl)
    (case pr0_Ratio_read => first | k_is | rfl)
    (case l_Ratio_read => first | k_is | rfl)
    (case q_Ratio_read => first | k_is | rfl)
    (case k_Ratio_read => first | k_is | rfl)
    (case a_law_int => first | k_is | rfl)
    (case l_law_int => first | k_is | rfl)
    (case q_law_int => first | k_is | rfl)
    (case k_law_int => first | k_is | rfl)
    (case a_law_is => first | k_is | rfl)
    (case l_law_is => first | k_is | rfl)
    (case q_law_is => first | k_is | rfl)
    (case k_law_is => first | k_is | rfl)
    (case a_law_lowest => first | k_is | rfl)
    (case l_law_lowest => first | k_is | rfl)
    (case q_law_lowest => first | k_is | rfl)
    (case k_law_lowest => first | k_is | rfl)
    (case a_law_fraction => first | k_is | rfl)
    (case l_law_fraction => first | k_is | rfl)
    (case q_law_fraction => first | k_is | rfl)
    (case k_law_fraction => first | k_is | rfl)
    (case a_law_refused => first | k_is | rfl)
    (case l_law_refused => first | k_is | rfl)
    (case q_law_refused => first | k_is | rfl)
    (case k_law_refused => first | k_is | rfl)
    (case a_law_miss => first | k_is | rfl)
    (case l_law_miss => first | k_is | rfl)
    (case q_law_miss => first | k_is | rfl)
    (case k_law_miss => first | k_is | rfl)
    (case a_law => first | k_is | rfl)
    (case l_law => first | k_is | rfl)
    (case q_law => first | k_is | rfl)
    (case k_law => first | k_is | rfl)
    (case pg_Ratio => first | k_is | rfl)
    (case hd_Ratio => first | k_is | rfl)
    (case po_Ratio => first | k_is | rfl)
    (case sa_Ratio => first | k_is | rfl)
    (case i1_Ratio => first | k_is | rfl)
    (case i4_Ratio => first | k_is | rfl)
    (case mk_Ratio => first | k_is | rfl)
    (case kc_Ratio => first | k_is | rfl)
    (case rd_Ratio => first | k_is | rfl)
    (case cg_Ratio => first | k_is | rfl)
    (case cv_Ratio_MOST_TEXT => first | k_is | rfl)
    (case o2 => first | k_is | rfl)
    (case o3 => first | k_is | rfl)
    (case oq => first | k_is | rfl)
    (case os => first | k_is | rfl)
    (case a_InvalidNumber => first | k_is | rfl)
    (case L_InvalidNumber => first | k_is | rfl)
    (case ve_InvalidNumber => decide +kernel)
    (case al_InvalidNumber => first | k_is | rfl)
    (case sa_InvalidNumber => first | k_is | rfl)
    (case ga_InvalidNumber => first | k_is | rfl)
    (case gg_InvalidNumber => first | k_is | rfl)
    (case ii_InvalidNumber => first | k_is | rfl)
    (case ti_InvalidNumber => first | k_is | rfl)
    (case kc_InvalidNumber => first | k_is | rfl)
    (case be_InvalidNumber => first | k_is | rfl)
    (case ev_InvalidNumber => first | k_is | rfl)
    (case ty_InvalidNumber => first | k_is | rfl)
    (case hd_InvalidNumber => first | k_is | rfl)
    (case me_InvalidNumber => first | k_is | rfl)
    (case l_InvalidNumber => first | k_is | rfl)
    (case q_InvalidNumber => first | k_is | rfl)
    (case lk_InvalidNumber => first | k_is | rfl)
    (case fl_InvalidNumber => rfl)
    (case fi_InvalidNumber => decide +kernel)
    (case lc_InvalidNumber => first | k_is | rfl)
    (case i1_InvalidNumber => first | k_is | rfl)
    (case i4_InvalidNumber => first | k_is | rfl)
    (case x_InvalidNumber_value => first | k_is | rfl)
    (case n_abs => first | k_is | rfl)
    (case n_bool => first | k_is | rfl)
    (case n_int => first | k_is | rfl)
    (case n_isinstance => first | k_is | rfl)
    (case n_len => first | k_is | rfl)
    (case n_list => first | k_is | rfl)
    (case n_range => first | k_is | rfl)
    (case n_repr => first | k_is | rfl)
    (case n_str => first | k_is | rfl)
    (case na_Ratio_top => first | k_is | rfl)
    (case na_Ratio_bottom => first | k_is | rfl)
    (case xm_IN => first | k_is | rfl)
