import PyProof.Rows.All
import Wide.All
import OpenK.AllK
import Wide.FinOn
import KE.KExcSuper
import HandS.ForMost
import HandS.ForExc
import HandS.ExcInit
import HandS.ExcField
import HandS.IsInst
import HandS.ExcIs
import HandS.TryMany
import HandS.Wide
import HandS.Defaults
import HandS.CallSlots
import HandS.Flow
import HandS.Steps
import HandS.WideBits
import HandS.Evl
import KE.KExcIs
import KE.KOpsOwn
import KE.SortKeyHeap
import KE.SortData
import KE.KLam
import HandS.Lambda
import HandS.SortKw
import HandS.SortRule
import HandS.Property
import HandS.ClsMeth
import HandS.MakeKwOnly
import HandS.Conv
import HandS.FStr
import HandS.DictComp
import HandS.StrMore
import HandS.Style
import PyProof.FString3
import OpenK.KMeth
import OpenK.KOps
import HandS.Walk
import PyProof.StrOps2
import PyProof.Rows.StrBin
import HandS.EndTab
import PySem.Challenge.RW_fontgap_k19_width_table_columns
set_option Elab.async false
set_option linter.all false
set_option maxRecDepth 100000
set_option maxHeartbeats 4000000
namespace FG
/-! plain mathematics: Euclid's steps, lowest terms -/
/-- one step of the law's loop -/
def eStep (p : Int × Int) : Int × Int := if p.2 > 0 then (p.2, p.1 % p.2) else p
def eIter : Nat → Int × Int → Int × Int
  | 0, p => p
  | n + 1, p => eStep (eIter n p)
theorem eStep_nonneg {p : Int × Int} (h1 : 0 ≤ p.1) (h2 : 0 ≤ p.2) : 0 ≤ (eStep p).1 ∧ 0 ≤ (eStep p).2 := by
  unfold eStep
  split
  · rename_i h
    exact ⟨h2, Int.emod_nonneg _ (by omega)⟩
  · exact ⟨h1, h2⟩
theorem eStep_gcd {p : Int × Int} : Int.gcd (eStep p).1 (eStep p).2 = Int.gcd p.1 p.2 := by
  unfold eStep
  split
  · show Int.gcd p.2 (p.1 % p.2) = Int.gcd p.1 p.2
    have e : p.1 / p.2 * p.2 + p.1 % p.2 = p.1 := Int.ediv_mul_add_emod _ _
    have q := Int.gcd_mul_right_add_left p.2 (p.1 % p.2) (p.1 / p.2)
    rw [e] at q
    rw [Int.gcd_comm p.2, q]
  · rfl
theorem eIter_gcd (n : Nat) (p : Int × Int) : Int.gcd (eIter n p).1 (eIter n p).2 = Int.gcd p.1 p.2 := by
  induction n with
  | zero => rfl
  | succ n ih => exact eStep_gcd.trans ih
theorem eIter_nonneg (n : Nat) {p : Int × Int} (h1 : 0 ≤ p.1) (h2 : 0 ≤ p.2) : 0 ≤ (eIter n p).1 ∧ 0 ≤ (eIter n p).2 := by
  induction n with
  | zero => exact ⟨h1, h2⟩
  | succ n ih => exact eStep_nonneg ih.1 ih.2
/-- the bound of the second part: two steps halve it -/
theorem eStep_two {p : Int × Int} (h1 : 0 ≤ p.1) (h2 : 0 ≤ p.2) : 2 * (eStep (eStep p)).2 ≤ p.2 := by
  by_cases h : p.2 > 0
  · have e1 : eStep p = (p.2, p.1 % p.2) := if_pos h
    have m0 : 0 ≤ p.1 % p.2 := Int.emod_nonneg _ (by omega)
    have m1 : p.1 % p.2 < p.2 := Int.emod_lt_of_pos _ h
    rw [e1]
    by_cases h' : p.1 % p.2 > 0
    · have e2 : eStep (p.2, p.1 % p.2) = (p.1 % p.2, p.2 % (p.1 % p.2)) := if_pos h'
      rw [e2]
      show 2 * (p.2 % (p.1 % p.2)) ≤ p.2
      generalize hr : p.1 % p.2 = r at *
      have k0 : 0 ≤ p.2 % r := Int.emod_nonneg _ (by omega)
      have k1 : p.2 % r < r := Int.emod_lt_of_pos _ h'
      have k2 : p.2 / r * r + p.2 % r = p.2 := Int.ediv_mul_add_emod _ _
      have k3 : 1 ≤ p.2 / r := by
        have := Int.le_ediv_of_mul_le h' (show 1 * r ≤ p.2 by omega)
        exact this
      have k4 : r ≤ p.2 / r * r := by
        have := Int.mul_le_mul_of_nonneg_right k3 (show 0 ≤ r by omega)
        omega
      omega
    · have e2 : eStep (p.2, p.1 % p.2) = (p.2, p.1 % p.2) := if_neg h'
      rw [e2]
      show 2 * (p.1 % p.2) ≤ p.2
      omega
  · have e1 : eStep p = p := if_neg h
    rw [e1, e1]
    omega
theorem eIter_add (m n : Nat) (p : Int × Int) : eIter (m + n) p = eIter m (eIter n p) := by
  induction m with
  | zero => rw [Nat.zero_add]; rfl
  | succ m ih =>
    rw [Nat.succ_add]
    show eStep (eIter (m + n) p) = eStep (eIter m (eIter n p))
    rw [ih]
theorem eIter_small (j : Nat) : ∀ {p : Int × Int}, 0 ≤ p.1 → 0 ≤ p.2 → p.2 < 2 ^ j → (eIter (2 * j) p).2 = 0 := by
  induction j with
  | zero =>
    intro p h1 h2 h
    have e : (2 : Int) ^ 0 = 1 := by decide
    rw [e] at h
    show p.2 = 0
    omega
  | succ j ih =>
    intro p h1 h2 h
    have e : 2 * (j + 1) = 2 * j + 2 := by omega
    rw [e, eIter_add]
    have q := eIter_nonneg 2 h1 h2
    have t : 2 * (eIter 2 p).2 ≤ p.2 := eStep_two h1 h2
    have pw : (2 : Int) ^ (j + 1) = 2 ^ j * 2 := Int.pow_succ ..
    rw [pw] at h
    refine ih q.1 q.2 ?_
    omega
theorem eIter_400 {p : Int × Int} (h1 : 0 ≤ p.1) (h2 : 0 ≤ p.2) (h : p.2 < 2 ^ 200) : eIter 400 p = (((Int.gcd p.1 p.2 : Nat) : Int), (0 : Int)) := by
  have z := eIter_small 200 h1 h2 h
  have g := eIter_gcd 400 p
  have q := eIter_nonneg 400 h1 h2
  have z' : (eIter 400 p).2 = 0 := z
  rw [z', Int.gcd_zero_right] at g
  have f : (eIter 400 p).1 = ((Int.gcd p.1 p.2 : Nat) : Int) := by
    rw [← g]
    omega
  exact Prod.ext f z'
/-- the python abs -/
def pabs (i : Int) : Int := if i < 0 then -i else i
theorem pabs_eq (i : Int) : pabs i = (i.natAbs : Int) := by
  unfold pabs
  split <;> omega
/-- lowest terms, as the program and the law reckon them -/
def sgn (b : Int) (g : Nat) : Int := if b < 0 then -(g : Int) else (g : Int)
def lowT (t b : Int) : Int := t.fdiv (sgn b (Int.gcd t b))
def lowB (t b : Int) : Int := b.fdiv (sgn b (Int.gcd t b))
theorem gcd_pos_of {t b : Int} (h : b ≠ 0) : 0 < Int.gcd t b := Int.gcd_pos_of_ne_zero_right _ h
theorem sgn_ne {t b : Int} (h : b ≠ 0) : sgn b (Int.gcd t b) ≠ 0 := by
  have := gcd_pos_of (t := t) h
  unfold sgn
  split <;> omega
theorem sgn_mul {b f : Int} {g : Nat} (hf : 0 < f) : sgn (b * f) (g * f.natAbs) = sgn b g * f := by
  unfold sgn
  have e : ((g * f.natAbs : Nat) : Int) = (g : Int) * f := by
    rw [Int.natCast_mul]
    have : (f.natAbs : Int) = f := by omega
    rw [this]
  by_cases h : b < 0
  · have : b * f < 0 := Int.mul_neg_of_neg_of_pos h hf
    rw [if_pos h, if_pos this, e, Int.neg_mul]
  · have : ¬ b * f < 0 := by
      have := Int.mul_nonneg (show 0 ≤ b by omega) (show 0 ≤ f by omega)
      omega
    rw [if_neg h, if_neg this, e]
theorem low_mul {t b f : Int} (hb : b ≠ 0) (hf : 0 < f) : lowT (t * f) (b * f) = lowT t b ∧ lowB (t * f) (b * f) = lowB t b := by
  have g : Int.gcd (t * f) (b * f) = Int.gcd t b * f.natAbs := Int.gcd_mul_right ..
  unfold lowT lowB
  rw [g, sgn_mul hf]
  exact ⟨Int.mul_fdiv_mul_of_pos_left _ _ hf, Int.mul_fdiv_mul_of_pos_left _ _ hf⟩
/-- in lowest terms, over a positive bottom -/
structure Low (t b : Int) : Prop where
  pos : 0 < b
  one : Int.gcd t b = 1
theorem sgn_pos {b : Int} {g : Nat} (h : 0 < b) : sgn b g = (g : Int) := if_neg (by omega)
theorem low_idem {t b : Int} (h : Low t b) : lowT t b = t ∧ lowB t b = b := by
  have e : sgn b (Int.gcd t b) = 1 := by rw [sgn_pos h.pos, h.one]; rfl
  unfold lowT lowB
  rw [e]
  exact ⟨Int.fdiv_one t, Int.fdiv_one b⟩
theorem low_pos {t b : Int} (h : 0 < b) : lowT t b = t / (Int.gcd t b : Nat) ∧ lowB t b = b / (Int.gcd t b : Nat) := by
  unfold lowT lowB
  rw [sgn_pos h]
  exact ⟨Int.fdiv_eq_ediv_of_nonneg _ (by omega), Int.fdiv_eq_ediv_of_nonneg _ (by omega)⟩
theorem low_low {t b : Int} (h : 0 < b) : Low (lowT t b) (lowB t b) := by
  have g0 : 0 < Int.gcd t b := Int.gcd_pos_of_ne_zero_right _ (by omega)
  have d1 : ((Int.gcd t b : Nat) : Int) ∣ t := Int.gcd_dvd_left t b
  have d2 : ((Int.gcd t b : Nat) : Int) ∣ b := Int.gcd_dvd_right t b
  rw [(low_pos h).1, (low_pos h).2]
  refine ⟨?_, ?_⟩
  · exact Int.ediv_pos_of_pos_of_dvd h (by omega) d2
  · rw [Int.gcd_ediv d1 d2, Int.natAbs_natCast]
    exact Nat.div_self g0
theorem low_bound {t b : Int} (h : 0 < b) : (lowT t b).natAbs ≤ t.natAbs ∧ lowB t b ≤ b := by
  have g0 : 0 < Int.gcd t b := Int.gcd_pos_of_ne_zero_right _ (by omega)
  rw [(low_pos h).1, (low_pos h).2]
  refine ⟨?_, ?_⟩
  · rw [Int.natAbs_ediv_of_dvd (Int.gcd_dvd_left t b)]
    exact Nat.div_le_self _ _
  · exact Int.ediv_le_self _ (by omega)
theorem low_neg {t b : Int} (h : Low t b) : Low (-t) b := ⟨h.pos, by rw [Int.neg_gcd]; exact h.one⟩
theorem low_abs {t b : Int} (h : Low t b) : Low (pabs t) b := by
  unfold pabs
  split
  · exact low_neg h
  · exact h
theorem low_one (t : Int) : lowT t 1 = t ∧ lowB t 1 = 1 := by
  have g : Int.gcd t 1 = 1 := Int.gcd_one_right t
  have e : sgn 1 (Int.gcd t 1) = 1 := by rw [g]; rfl
  unfold lowT lowB
  rw [e]
  exact ⟨Int.fdiv_one t, by decide⟩
theorem low_zero {f : Int} (h : 0 < f) : lowT 0 f = 0 ∧ lowB 0 f = 1 := by
  have g : Int.gcd 0 f = f.natAbs := Int.gcd_zero_left f
  have e : sgn f (Int.gcd 0 f) = f := by
    rw [g]
    unfold sgn
    rw [if_neg (by omega)]
    omega
  unfold lowT lowB
  rw [e]
  exact ⟨Int.zero_fdiv f, Int.fdiv_self (by omega)⟩
end FG
/-! own errors below ValueError whose __init__ first calls super().__init__(text) and then stores its parameters -/
namespace FG
open PySem PySem.W PySem.Calls PyProof.Rows PySem.HandSPX

abbrev errFd (qn : Str) (ps : Arguments) (bd : List Stmt) (sc : Scope) (cc : Addr) (kV doc pm : Value) (an : Option Addr) (cd ct : Value) : FuncData :=
  { fnOf "__init__" qn ps bd sc .none kV doc pm an cd ct with closure := [("__class__", cc)] }
/-- what the written part says of such a class at C: its __init__ at fI, the cell of __class__ at cc -/
structure ErrC (P : Program) (K : Frag) (mg : Str → Option Value) (nm qn : Str) (ps : Arguments) (bd : List Stmt) (sc : Scope) (C fI cc cda : Addr) : Prop where
  gC : mg nm = some (.ref C)
  cls : ∃ n1 q N bs bm sn sub ab col dd k0 k1 k2 k3 k5, K.lookup C = some (excClassObj n1 q C N bs bm true sn sub ab col dd k0 k1 k2 k3 k5 "ValueError.__new__") ∧ refsVE bm = true ∧
    alongIn K "__init__" bm = some (some (.builtin "ValueError.__init__"))
  sa : findIn K (.ref C) "__setattr__" = some (some (.builtin "object.__setattr__"))
  ga : findIn K (.ref C) "__getattribute__" = some (some (.builtin "BaseException.__getattribute__"))
  gg : findIn K (.ref C) "__getattr__" = some none
  iC : findIn K (.ref C) "__init__" = some (some (.ref fI))
  tC : typeIn K (.ref fI) = some (.type "function")
  kC : keepIn K (.ref C) = true
  exC : subIn K (.ref C) (.type "BaseException") = some true
  veC : subIn K (.ref C) (.type "ValueError") = some true
  tyC : typeIn K (.ref C) = some (.type "type")
  hdC : hasDictIn K C = true
  meC : mroIn K C (.ref C) = some true
  fn : ∃ (oc : Value) (od : Option Addr) (kV doc pm : Value) (an : Option Addr) (ct : Value) (osl : Array (Option Value)),
    K.lookup fI = some ⟨oc, od, .func (errFd qn ps bd sc cc kV doc pm an (.ref cda) ct), osl⟩ ∧ codeIn K (.ref cda) qn = true
  code : ∃ (cl : Value) (cd : Option Addr) (vs : Array Value) (cs : Array (Option Value)) (file : Str) (tf : Tok), K.lookup cda = some ⟨cl, cd, .fields vs, cs⟩ ∧ vs[2]? = some (.str file tf) ∧ ((P.main.file : Str) == file) = true
  cell : ∃ (cl : Value) (cd : Option Addr) (cs : Array (Option Value)), K.lookup cc = some ⟨cl, cd, .cell (some (.ref C)), cs⟩
  opq : nsIn K cStatics "thirdparty.any" = some none
  sup : mg "super" = none
  top : (P.main.scope.names.lookup ("super" : Str)).isSome = false

/-- the module's names and the built-ins' as they stand -/
structure Names0 (mg : Str → Option Value) (h : Heap) : Prop where
  glob : h.Ns mainGlobals mg
  blt : ∃ mb, h.Ns builtinsNs mb ∧ ∀ x : Str, x ≠ "__name__" → mb x = bootBuiltins x
theorem Names0.keeps {mg : Str → Option Value} {h h' : Heap} (n : Names0 mg h) (k : ∀ b o, h.get? b = some o → h'.get? b = some o) : Names0 mg h' := by
  obtain ⟨g, mb, b1, b2⟩ := n
  exact ⟨g.keeps k, mb, b1.keeps k, b2⟩

/-- super().__init__(text) -/
abbrev supE (p0 p1 p2 p3 p4 : Pos) (msg : Str) (j : Nat) : Expr := .Call (.Attribute (.Call (.Name "super" p0) [] [] p1) "__init__" p2) [.Constant (.str msg) j p3] [] p4
theorem ve_len (v : Value) : [v].length ≤ sizeLine := by
  show 1 ≤ sizeLine
  decide

section
variable {P : Program} {w : World} {A : Around} {E : Value → Shared → Prop} {hh : Heap} {g : Array GenState} {d : Drawn} {tk : Nat} {os : OsState}
/-- the bound ValueError.__init__ is called -/
theorem mw_call {n1 q : Str} {N : Addr} {bs bm : List Value} {hd : Bool} {sn : List Str} {sub : List Value} {ab : Bool} {col : Option Bool} {dd : Option Addr} {k0 k1 k2 k3 k5 : Option Value} {u e t0 C : Addr} {r : List Value} {Q : Value → Shared → Prop}
    (hC : hh.get? C = some (excClassObj n1 q C N bs bm hd sn sub ab col dd k0 k1 k2 k3 k5 "ValueError.__new__")) (he : hh.get? e = some (excO C t0)) (hu : hh.get? u = some (kxs_mw "ValueError.__init__" e)) (hz : r.length ≤ sizeLine)
    (hq : ∀ h' t1, (∀ b o, b ≠ e → hh.get? b = some o → h'.get? b = some o) → h'.get? e = some (excO C t1) → Q .none ⟨h', g, d, tk, os⟩) : wpAny (model P w) A (call (.ref u) r) Q E ⟨hh, g, d, tk, os⟩ := by
  have B := F.excBase_ValueError
  refine wpAny_call (codeAny_of_tree ?_)
  show wpAny _ A.in1 (callAny (.ref u) ⟨r, []⟩) _ _ _
  simp only [callAny]
  refine wpAny_bind (wpAny_load (a := u) hu ?_)
  have c1 : (Value.type "method-wrapper" == Value.type "method" || Value.type "method-wrapper" == Value.type "builtin_function_or_method" || Value.type "method-wrapper" == Value.type "method-wrapper") = true := by decide
  simp only [kxs_mw, c1, if_true]
  refine KFB.if_so (by decide) (wpAny_bind (check_bound_init B.toExcCallFacts hC he rfl (wpAny_bind (wpAny_pure (wpAny_pure ⟨plainId_quiet B.init.plain _, codeAny_builtin B.initEntry ?_⟩)))))
  exact exc_init_tree (cls := .ref C) (t0 := t0) (dv := none) (c2 := .none) (c3 := .none) (b4 := .bool false) he hz fun h' k e' _ => hq h' _ k e'

/-- the statement super().__init__(text) -/
theorem sup_stmt {K : Frag} {mg : Str → Option Value} {nm qn : Str} {ps : Arguments} {bd body : List Stmt} {sc : Scope} {C fI cc cda x t0 L : Addr} {m : Str → Option Value} {msg : Str} {j : Nat} {p0 p1 p2 p3 p4 p5 : Pos} {a0 : Arg} {Q : Flow → Shared → Prop}
    (T : ErrC P K mg nm qn ps bd sc C fI cc cda) (X : K.In hh) (Nm : Names0 mg hh) (hx : hh.get? x = some (excO C t0)) (hn : hh.Ns L m) (hs : m a0.arg = some (.ref x))
    (hp : (ps.posonlyargs ++ ps.args).head? = some a0) (hks : sc.names.lookup ("super" : Str) = some .globalImplicit) (hkc : sc.names.lookup ("__class__" : Str) = some .free) (hka : sc.names.lookup a0.arg = some .local) (hk : sc.kind = .function)
    (hi : interactive (ksEnv qn sc L fI (.ref cda) cc) = false) (hw : swapsWith (supE p0 p1 p2 p3 p4 msg j) none p5.line (ksEnv qn sc L fI (.ref cda) cc) = pure false) {pl : Sem Bool}
    (he : eval (supE p0 p1 p2 p3 p4 msg j) (ksEnv qn sc L fI (.ref cda) cc) = (do
      let ov ← attributeBase (.Call (.Name "super" p0) [] [] p1) "__init__" (ksEnv qn sc L fI (.ref cda) cc) (eval (.Call (.Name "super" p0) [] [] p1) (ksEnv qn sc L fI (.ref cda) cc))
      standAt p2.atName
      let (f, first) ← holding [ov] (getMethod ov "__init__" pl)
      callWith p4 f first (backTo p4 (starEach [.Constant (.str msg) j p3] (ksEnv qn sc L fI (.ref cda) cc))) []))
    (hq : ∀ h' t1 tk', (∀ b o, b ≠ x → hh.get? b = some o → h'.get? b = some o) → h'.get? x = some (excO C t1) → Q .next ⟨h', g, d, tk', os⟩) :
    PySem.wpAt (model P w) A (.func body (ksEnv qn sc L fI (.ref cda) cc)) (exec (.Expr (supE p0 p1 p2 p3 p4 msg j) p5) (ksEnv qn sc L fI (.ref cda) cc)) Q E ⟨hh, g, d, tk, os⟩ := by
  obtain ⟨n1, q, N, bs, bm, sn, sub, ab, col, dd, k0, k1, k2, k3, k5, lC, vm, ai⟩ := T.cls
  obtain ⟨oc, od, kV, doc, pm, an, ct, osl, lf, cdi⟩ := T.fn
  obtain ⟨cl, cd, vs, cs, file, tf, lc, v2, ef⟩ := T.code
  obtain ⟨l1, l2, l3, lcc⟩ := T.cell
  obtain ⟨mb, nb, eb⟩ := Nm.blt
  have hcd : clsIn K C = some { name := n1, bases := bs, mro := .ref C :: bm, ns := N, qualname := q, hasDict := true, slotNames := sn, subclasses := sub, abstract := ab, collection := col, hasDel := false } := by
    unfold clsIn
    rw [lC]
    all_goals rfl
  have hC := X _ _ lC
  have I : InstAt hh x (excO C t0) C none := ⟨hx, rfl, rfl, trivial⟩
  refine ks_wpAt_Expr_any ?_ hi hw
  refine ks_wpAt_MethodCall ?_ he
  refine ks_wpAt_super_base (f := fI) (cc := cda) (ar := a0) hks hkc (by decide) rfl (X _ _ lf) rfl hp rfl (X _ _ lc) rfl v2 ef T.top ?_
  refine ks_loadName_global hk hks (Calls.loadGlobal_builtin Nm.glob T.sup nb ((eb "super" (by decide)).trans (by decide +kernel)) ⟨rfl, ?_⟩)
  refine wpAny_loadName_free (c := cc) (v := .ref C) hk hkc rfl ⟨_, X _ _ lcc, rfl⟩ (wpAny_loadName_local hk hka hn hs ?_)
  refine ks_wpAny_isType_cls hC rfl ⟨rfl, ?_⟩
  refine ks_wpAny_call_super hC rfl hx rfl (fun c z => by cases z) (looks_mroIn X T.meC) fun h1 hso k1' => ?_
  have X1 : K.In h1 := X.keeps k1'
  have I1 : InstAt h1 x (excO C t0) C none := ⟨k1' _ _ hx, rfl, rfl, trivial⟩
  refine kxs_getMethod kxs_ValueError hso (looks_opaque X1 T.opq) (l₀ := .ref C :: bm) (l := bm) ?_ (by simp [List.dropWhile_cons]) X1 ai (I1.type.andThen (looks_subIn X1 T.veC)) (ks_ne X1 I1 hcd) (by decide) ?_
  · exact fun A' Q' E' s' kk qq => wpAny_bind ((looks_clsIn X1 hcd) A' _ E' s' kk (wpAny_pure qq))
  have k2' : ∀ b o, h1.get? b = some o → (h1.push (kxs_mw "ValueError.__init__" x)).get? b = some o := fun b o z => Heap.get?_push_of_some _ z
  have hu : (h1.push (kxs_mw "ValueError.__init__" x)).get? h1.objs.size = some (kxs_mw "ValueError.__init__" x) := Heap.get?_push_at rfl rfl
  refine kxs_callWith (i := "ValueError.__init__") (x := x) (by rfl) (evalArgs_plain ?_)
  refine Calls.spliced_cons (Calls.Constant_str (k := j) (pos := p3) ?_)
  refine Calls.spliced_nil ?_
  refine ⟨hu, ?_⟩
  refine mw_call (k2' _ _ (k1' _ _ hC)) (k2' _ _ (k1' _ _ hx)) hu (ve_len _) fun h' t1 kk e' => hq h' t1 _ (fun b o hb z => kk b o hb (k2' _ _ (k1' _ _ z))) e'

/-- self.f = f, the first one and a further one -/
theorem sto_new {K : Frag} {mg : Str → Option Value} {nm qn : Str} {ps : Arguments} {bd : List Stmt} {sc : Scope} {C fI cc cda x t0 : Addr} {f : Str} {v : Value} {Q : Unit → Shared → Prop} (T : ErrC P K mg nm qn ps bd sc C fI cc cda)
    (X : K.In hh) (hx : hh.get? x = some (excO C t0)) (no : findIn K (.ref C) f = some none)
    (hq : ∀ h' tk' dx, (∀ b o, b ≠ x → hh.get? b = some o → h'.get? b = some o) → hh.objs.size ≤ dx → dx ≠ x → h'.get? x = some { cls := .ref C, dict := some dx, data := .fields #[.ref t0, .none, .none, .none, .bool false, .none] } →
      h'.Ns1 dx (fun y => if y = f then some v else none) → Q () ⟨h', g, d, tk', os⟩) : wpAny (model P w) A (setAttr (.ref x) f v) Q E ⟨hh, g, d, tk, os⟩ := by
  obtain ⟨n1, q, N, bs, bm, sn, sub, ab, col, dd, k0, k1, k2, k3, k5, lC, vm, ai⟩ := T.cls
  have hcd : clsIn K C = some { name := n1, bases := bs, mro := .ref C :: bm, ns := N, qualname := q, hasDict := true, slotNames := sn, subclasses := sub, abstract := ab, collection := col, hasDel := false } := by
    unfold clsIn
    rw [lC]
    all_goals rfl
  have I : InstAt hh x (excO C t0) C none := ⟨hx, rfl, rfl, trivial⟩
  exact set_plain (ox := excO C t0) (od := none) X I T.sa (exc_osa X hx hcd (show refsVE (.ref C :: bm) = true from vm) rfl no fun h' t' dx kk dn de e1 e2 => hq h' t' dx kk dn de e1 e2)
theorem sto_old {K : Frag} {mg : Str → Option Value} {nm qn : Str} {ps : Arguments} {bd : List Stmt} {sc : Scope} {C fI cc cda x t0 dx : Addr} {f f0 : Str} {v v0 : Value} {Q : Unit → Shared → Prop} (T : ErrC P K mg nm qn ps bd sc C fI cc cda)
    (X : K.In hh) (hx : hh.get? x = some { cls := .ref C, dict := some dx, data := .fields #[.ref t0, .none, .none, .none, .bool false, .none] }) (hd : hh.Ns1 dx (fun y => if y = f0 then some v0 else none)) (no : findIn K (.ref C) f = some none)
    (hq : ∀ h' tk', (∀ b o, b ≠ dx → hh.get? b = some o → h'.get? b = some o) → h'.Ns1 dx (fun y => if y = f then some v else if y = f0 then some v0 else none) → Q () ⟨h', g, d, tk', os⟩) : wpAny (model P w) A (setAttr (.ref x) f v) Q E ⟨hh, g, d, tk, os⟩ := by
  obtain ⟨n1, q, N, bs, bm, sn, sub, ab, col, dd, k0, k1, k2, k3, k5, lC, vm, ai⟩ := T.cls
  have hcd : clsIn K C = some { name := n1, bases := bs, mro := .ref C :: bm, ns := N, qualname := q, hasDict := true, slotNames := sn, subclasses := sub, abstract := ab, collection := col, hasDel := false } := by
    unfold clsIn
    rw [lC]
    all_goals rfl
  have hw : Within (fun y => if y = f0 then some v0 else none) [f0] := Within.cons f0 v0 Within.nil
  obtain ⟨oD, _, _, hoD, _, _⟩ := hd.count hw
  refine set_plain (ox := { cls := .ref C, dict := some dx, data := .fields #[.ref t0, .none, .none, .none, .bool false, .none] }) (od := some oD) X ⟨hx, rfl, rfl, hoD⟩ T.sa ?_
  exact OEX.osa_old X hx hd hw (by show 1 ≤ 1000; decide) hcd (show refsVE (.ref C :: bm) = true from vm) rfl no fun h' t' kk e2 => hq h' t' kk e2
end

/-! ### the whole __init__ -/
/-- what the text of an __init__ of one field looks like; L stands for the frame -/
structure Txt1 (qn f msg : Str) (ps : Arguments) (bd : List Stmt) (sc : Scope) : Prop where
  ex : ∃ (p0 p1 p2 p3 p4 p5 q1 q2 q3 q4 : Pos) (j : Nat) (a0 : Arg), bd = [.Expr (supE p0 p1 p2 p3 p4 msg j) p5, .Assign [.Attribute (.Name "self" q1) f q2] (.Name f q3) q4] ∧ (ps.posonlyargs ++ ps.args).head? = some a0 ∧ a0.arg = "self" ∧
    (∀ (L fI cc cda : Addr), interactive (ksEnv qn sc L fI (.ref cda) cc) = false ∧ swapsWith (supE p0 p1 p2 p3 p4 msg j) none p5.line (ksEnv qn sc L fI (.ref cda) cc) = pure false ∧
      swapsWith (.Name f q3) (some (.Attribute (.Name "self" q1) f q2)) q4.line (ksEnv qn sc L fI (.ref cda) cc) = pure false ∧
      ∃ pl : Sem Bool, eval (supE p0 p1 p2 p3 p4 msg j) (ksEnv qn sc L fI (.ref cda) cc) = (do
        let ov ← attributeBase (.Call (.Name "super" p0) [] [] p1) "__init__" (ksEnv qn sc L fI (.ref cda) cc) (eval (.Call (.Name "super" p0) [] [] p1) (ksEnv qn sc L fI (.ref cda) cc))
        standAt p2.atName
        let (f, first) ← holding [ov] (getMethod ov "__init__" pl)
        callWith p4 f first (backTo p4 (starEach [.Constant (.str msg) j p3] (ksEnv qn sc L fI (.ref cda) cc))) []))
  bind : ∀ (cc : Addr) (kV doc pm : Value) (an : Option Addr) (cd ct : Value) (a b : Value), bindArgs (errFd qn ps bd sc cc kV doc pm an cd ct) ⟨[a, b], []⟩ = pure [(("self" : Str), a), (f, b)]
  nself : (f == ("self" : Str)) = false
  ndbg : (f == ("__debug__" : Str)) = false
  ks : sc.names.lookup ("super" : Str) = some .globalImplicit
  kc : sc.names.lookup ("__class__" : Str) = some .free
  k0 : sc.names.lookup ("self" : Str) = some .local
  k1 : sc.names.lookup f = some .local
  cells : ∀ x ∈ sc.names, x.2 ≠ .cell
  kind : sc.kind = .function
  co : sc.isCoroutine = false
  gen : sc.isGenerator = false
structure Txt2 (qn f f2 msg : Str) (ps : Arguments) (bd : List Stmt) (sc : Scope) : Prop where
  ex : ∃ (p0 p1 p2 p3 p4 p5 q1 q2 q3 q4 r1 r2 r3 r4 : Pos) (j : Nat) (a0 : Arg), bd = [.Expr (supE p0 p1 p2 p3 p4 msg j) p5, .Assign [.Attribute (.Name "self" q1) f q2] (.Name f q3) q4, .Assign [.Attribute (.Name "self" r1) f2 r2] (.Name f2 r3) r4] ∧ (ps.posonlyargs ++ ps.args).head? = some a0 ∧ a0.arg = "self" ∧
    (∀ (L fI cc cda : Addr), interactive (ksEnv qn sc L fI (.ref cda) cc) = false ∧ swapsWith (supE p0 p1 p2 p3 p4 msg j) none p5.line (ksEnv qn sc L fI (.ref cda) cc) = pure false ∧
      swapsWith (.Name f q3) (some (.Attribute (.Name "self" q1) f q2)) q4.line (ksEnv qn sc L fI (.ref cda) cc) = pure false ∧
      swapsWith (.Name f2 r3) (some (.Attribute (.Name "self" r1) f2 r2)) r4.line (ksEnv qn sc L fI (.ref cda) cc) = pure false ∧
      ∃ pl : Sem Bool, eval (supE p0 p1 p2 p3 p4 msg j) (ksEnv qn sc L fI (.ref cda) cc) = (do
        let ov ← attributeBase (.Call (.Name "super" p0) [] [] p1) "__init__" (ksEnv qn sc L fI (.ref cda) cc) (eval (.Call (.Name "super" p0) [] [] p1) (ksEnv qn sc L fI (.ref cda) cc))
        standAt p2.atName
        let (f, first) ← holding [ov] (getMethod ov "__init__" pl)
        callWith p4 f first (backTo p4 (starEach [.Constant (.str msg) j p3] (ksEnv qn sc L fI (.ref cda) cc))) []))
  bind : ∀ (cc : Addr) (kV doc pm : Value) (an : Option Addr) (cd ct : Value) (a b c : Value), bindArgs (errFd qn ps bd sc cc kV doc pm an cd ct) ⟨[a, b, c], []⟩ = pure [(("self" : Str), a), (f, b), (f2, c)]
  nself : (f == ("self" : Str)) = false
  nself2 : (f2 == ("self" : Str)) = false
  nff : (f == f2) = false
  ndbg2 : (f2 == ("__debug__" : Str)) = false
  ndbg : (f == ("__debug__" : Str)) = false
  ks : sc.names.lookup ("super" : Str) = some .globalImplicit
  kc : sc.names.lookup ("__class__" : Str) = some .free
  k0 : sc.names.lookup ("self" : Str) = some .local
  k1 : sc.names.lookup f = some .local
  k2 : sc.names.lookup f2 = some .local
  cells : ∀ x ∈ sc.names, x.2 ≠ .cell
  kind : sc.kind = .function
  co : sc.isCoroutine = false
  gen : sc.isGenerator = false
/-- what is left of a made error: its class C, its own dict dx with the fields m -/
structure Made (h h' : Heap) (e C dx : Addr) (m : Str → Option Value) : Prop where
  keep : ∀ b o, h.get? b = some o → h'.get? b = some o
  new : h.objs.size ≤ e
  obj : ∃ oe vs, h'.get? e = some oe ∧ oe.cls = .ref C ∧ oe.dict = some dx ∧ oe.data = .fields vs ∧ vs[1]? = some .none
  dbig : h.objs.size ≤ dx
  dne : dx ≠ e
  ns : h'.Ns1 dx m
section
variable {P : Program} {w : World} {A : Around} {R : Result → Shared → Prop} {hp : Heap} {g : Array GenState} {d : Drawn} {tk : Nat} {os : OsState} {K : Frag} {mg : Str → Option Value} {nm qn f f2 msg : Str} {ps : Arguments} {bd : List Stmt} {sc : Scope} {C fI cc cda : Addr}
theorem init1 {x t0 : Addr} {v : Value} (T : ErrC P K mg nm qn ps bd sc C fI cc cda) (Y : Txt1 qn f msg ps bd sc) (no : findIn K (.ref C) f = some none) (X : K.In hp) (lim : hp.NoLimit) (Nm : Names0 mg hp) (hx : hp.get? x = some (excO C t0)) (nx : K.lookup x = none) (room : A.depth < recursionLimit)
    (hq : ∀ h' tk' t1 dx, (∀ b o, b ≠ x → hp.get? b = some o → h'.get? b = some o) → h'.get? x = some { cls := .ref C, dict := some dx, data := .fields #[.ref t1, .none, .none, .none, .bool false, .none] } → hp.objs.size ≤ dx → dx ≠ x →
      h'.Ns1 dx (fun y => if y = f then some v else none) → R (.ok (.ret .none)) ⟨h', g, d, tk', os⟩) : codeAny (model P w) A (.call (.ref fI) ⟨[.ref x, v], []⟩) R ⟨hp, g, d, tk, os⟩ := by
  obtain ⟨oc, od, kV, doc, pm, an, ct, osl, lf, cdi⟩ := T.fn
  obtain ⟨p0, p1, p2, p3, p4, p5, q1, q2, q3, q4, j, a0, eb, hp0, ea0, ht⟩ := Y.ex
  refine ks_codeAny_call_defAt (s := ⟨hp, g, d, tk, os⟩) (fd := errFd qn ps bd sc cc kV doc pm an (.ref cda) ct) (binds := [(("self" : Str), .ref x), (f, v)]) room (X _ _ lf) rfl lim (codeRec_of X cdi) rfl (BindsTo.of_eq (Y.bind cc kV doc pm an (.ref cda) ct _ _)) Y.cells ?_ (fun h₀ ns k => ?_) Y.co Y.gen Y.kind
  · intro z hz
    rcases List.mem_cons.mp hz with rfl | hz
    · exact Y.k0
    · rcases List.mem_cons.mp hz with rfl | hz
      · exact Y.k1
      · cases hz
  have X0 : K.In h₀ := X.keeps k
  have N0 := Nm.keeps k
  have hx0 := k _ _ hx
  have nself : ¬ f = "self" := fun z => by have := Y.nself; rw [z] at this; exact absurd this (by decide)
  have hs : (fun x_1 : Str => List.lookup x_1 [(("self" : Str), Value.ref x), (f, v)].reverse) "self" = some (.ref x) := by
    show List.lookup ("self" : Str) [(f, v), ("self", Value.ref x)] = _
    have z : (("self" : Str) == f) = false := by
      rw [beq_eq_false_iff_ne]
      exact fun q => nself q.symm
    simp [List.lookup, z]
  have hf : (fun x_1 : Str => List.lookup x_1 [(("self" : Str), Value.ref x), (f, v)].reverse) f = some v := by
    show List.lookup f [(f, v), ("self", Value.ref x)] = _
    simp [List.lookup]
  obtain ⟨hi, hw, hw2, pl, he⟩ := ht hp.objs.size fI cc cda
  subst eb
  have nL : x ≠ hp.objs.size := Nat.ne_of_lt (Heap.lt_size hx)
  show PySem.wpAt (model P w) (A.deeper (ksEnv qn sc hp.objs.size fI (.ref cda) cc)) (.func _ (ksEnv qn sc hp.objs.size fI (.ref cda) cc)) (execs _ (ksEnv qn sc hp.objs.size fI (.ref cda) cc)) _ _ _
  refine ks_wpAt_execs_cons (sup_stmt T X0 N0 hx0 ns (by rw [ea0]; exact hs) hp0 Y.ks Y.kc (by rw [ea0]; exact Y.k0) Y.kind hi hw he fun h1 t1 tk1 k1 e1 => ?_)
  have nsL : h1.Ns hp.objs.size (fun x_1 : Str => List.lookup x_1 [(("self" : Str), Value.ref x), (f, v)].reverse) := ns.at fun o z => k1 _ _ (Ne.symm nL) z
  show PySem.wpAt _ _ _ _ _ _ _
  refine PySem.wpAt_of_wpAny ?_
  refine wpAny_execs_cons (plainObj_wpAny_Assign_Attribute ?_ hw2)
  refine wpAny_Name (wpAny_loadName_local Y.kind Y.k1 nsL hf ?_) Y.ndbg
  refine wpAny_Name (wpAny_loadName_local Y.kind Y.k0 nsL hs ?_) (by decide)
  have X1 : K.In h1 := fun a o z => k1 a o (fun q => by
    rw [q, nx] at z
    cases z) (X0 a o z)
  have big : hp.objs.size < h1.objs.size := nsL.lt
  refine sto_new T X1 e1 no fun h' tk' dx k2 dn de e2 e3 => ?_
  refine wpAny_execs_nil ?_
  refine hq h' tk' t1 dx (fun b o hb z => k2 b o hb (k1 b o hb (k b o z))) e2 (Nat.le_trans (Nat.le_of_lt big) dn) de e3
theorem init2 {x t0 : Addr} {v v2 : Value} (T : ErrC P K mg nm qn ps bd sc C fI cc cda) (Y : Txt2 qn f f2 msg ps bd sc) (no : findIn K (.ref C) f = some none) (no2 : findIn K (.ref C) f2 = some none) (X : K.In hp) (lim : hp.NoLimit) (Nm : Names0 mg hp) (hx : hp.get? x = some (excO C t0)) (nx : K.lookup x = none) (room : A.depth < recursionLimit)
    (hq : ∀ h' tk' t1 dx, (∀ b o, b ≠ x → hp.get? b = some o → h'.get? b = some o) → h'.get? x = some { cls := .ref C, dict := some dx, data := .fields #[.ref t1, .none, .none, .none, .bool false, .none] } → hp.objs.size ≤ dx → dx ≠ x →
      h'.Ns1 dx (fun y => if y = f2 then some v2 else if y = f then some v else none) → R (.ok (.ret .none)) ⟨h', g, d, tk', os⟩) : codeAny (model P w) A (.call (.ref fI) ⟨[.ref x, v, v2], []⟩) R ⟨hp, g, d, tk, os⟩ := by
  obtain ⟨oc, od, kV, doc, pm, an, ct, osl, lf, cdi⟩ := T.fn
  obtain ⟨p0, p1, p2, p3, p4, p5, q1, q2, q3, q4, r1, r2, r3, r4, j, a0, eb, hp0, ea0, ht⟩ := Y.ex
  refine ks_codeAny_call_defAt (s := ⟨hp, g, d, tk, os⟩) (fd := errFd qn ps bd sc cc kV doc pm an (.ref cda) ct) (binds := [(("self" : Str), .ref x), (f, v), (f2, v2)]) room (X _ _ lf) rfl lim (codeRec_of X cdi) rfl (BindsTo.of_eq (Y.bind cc kV doc pm an (.ref cda) ct _ _ _)) Y.cells ?_ (fun h₀ ns k => ?_) Y.co Y.gen Y.kind
  · intro z hz
    rcases List.mem_cons.mp hz with rfl | hz
    · exact Y.k0
    · rcases List.mem_cons.mp hz with rfl | hz
      · exact Y.k1
      · rcases List.mem_cons.mp hz with rfl | hz
        · exact Y.k2
        · cases hz
  have X0 : K.In h₀ := X.keeps k
  have N0 := Nm.keeps k
  have hx0 := k _ _ hx
  have ns1 : (("self" : Str) == f) = false := by
    rw [beq_eq_false_iff_ne]
    exact fun q => absurd Y.nself (by rw [← q]; decide)
  have ns2 : (("self" : Str) == f2) = false := by
    rw [beq_eq_false_iff_ne]
    exact fun q => absurd Y.nself2 (by rw [← q]; decide)
  have hs : (fun x_1 : Str => List.lookup x_1 [(("self" : Str), Value.ref x), (f, v), (f2, v2)].reverse) "self" = some (.ref x) := by
    show List.lookup ("self" : Str) [(f2, v2), (f, v), ("self", Value.ref x)] = _
    simp [List.lookup, ns1, ns2]
  have hf : (fun x_1 : Str => List.lookup x_1 [(("self" : Str), Value.ref x), (f, v), (f2, v2)].reverse) f = some v := by
    show List.lookup f [(f2, v2), (f, v), ("self", Value.ref x)] = _
    simp [List.lookup, Y.nff]
  have hf2 : (fun x_1 : Str => List.lookup x_1 [(("self" : Str), Value.ref x), (f, v), (f2, v2)].reverse) f2 = some v2 := by
    show List.lookup f2 [(f2, v2), (f, v), ("self", Value.ref x)] = _
    simp [List.lookup]
  obtain ⟨hi, hw, hw2, hw3, pl, he⟩ := ht hp.objs.size fI cc cda
  subst eb
  have nL : x ≠ hp.objs.size := Nat.ne_of_lt (Heap.lt_size hx)
  show PySem.wpAt (model P w) (A.deeper (ksEnv qn sc hp.objs.size fI (.ref cda) cc)) (.func _ (ksEnv qn sc hp.objs.size fI (.ref cda) cc)) (execs _ (ksEnv qn sc hp.objs.size fI (.ref cda) cc)) _ _ _
  refine ks_wpAt_execs_cons (sup_stmt T X0 N0 hx0 ns (by rw [ea0]; exact hs) hp0 Y.ks Y.kc (by rw [ea0]; exact Y.k0) Y.kind hi hw he fun h1 t1 tk1 k1 e1 => ?_)
  have nsL : h1.Ns hp.objs.size (fun x_1 : Str => List.lookup x_1 [(("self" : Str), Value.ref x), (f, v), (f2, v2)].reverse) := ns.at fun o z => k1 _ _ (Ne.symm nL) z
  show PySem.wpAt _ _ _ _ _ _ _
  refine PySem.wpAt_of_wpAny ?_
  refine wpAny_execs_cons (plainObj_wpAny_Assign_Attribute ?_ hw2)
  refine wpAny_Name (wpAny_loadName_local Y.kind Y.k1 nsL hf ?_) Y.ndbg
  refine wpAny_Name (wpAny_loadName_local Y.kind Y.k0 nsL hs ?_) (by decide)
  have X1 : K.In h1 := fun a o z => k1 a o (fun q => by
    rw [q, nx] at z
    cases z) (X0 a o z)
  have big : hp.objs.size < h1.objs.size := nsL.lt
  refine sto_new T X1 e1 no fun h2 tk2 dx kk dn de e2 e3 => ?_
  have X2 : K.In h2 := fun a o z => kk a o (fun q => by
    rw [q, nx] at z
    cases z) (X1 a o z)
  have nsL2 : h2.Ns hp.objs.size (fun x_1 : Str => List.lookup x_1 [(("self" : Str), Value.ref x), (f, v), (f2, v2)].reverse) := nsL.at fun o z => kk _ _ (Ne.symm nL) z
  show wpAny _ _ (execs _ _) _ _ _
  refine wpAny_execs_cons (plainObj_wpAny_Assign_Attribute ?_ hw3)
  refine wpAny_Name (wpAny_loadName_local Y.kind Y.k2 nsL2 hf2 ?_) Y.ndbg2
  refine wpAny_Name (wpAny_loadName_local Y.kind Y.k0 nsL2 hs ?_) (by decide)
  have nd : ∀ b o, hp.get? b = some o → b ≠ dx := fun b o z => Nat.ne_of_lt (Nat.lt_of_lt_of_le (Heap.lt_size z) (Nat.le_trans (Nat.le_of_lt big) dn))
  refine sto_old T X2 e2 e3 no2 fun h' tk' k3 e4 => ?_
  refine wpAny_execs_nil ?_
  exact hq h' tk' t1 dx (fun b o hb z => k3 b o (nd b o z) (kk b o hb (k1 b o hb (k b o z)))) (k3 _ _ (Ne.symm de) e2) (Nat.le_trans (Nat.le_of_lt big) dn) de e4
/-- C(v, ..): from what __init__ does -/
theorem made_of {us : List Value} {m : Str → Option Value} (T : ErrC P K mg nm qn ps bd sc C fI cc cda) (X : K.In hp) (lim : hp.NoLimit) (Nm : Names0 mg hp) (hz : us.length ≤ sizeLine)
    (ini : ∀ (A' : Around) (hp' : Heap) (x t0 : Addr) (R' : Result → Shared → Prop), K.In hp' → hp'.NoLimit → Names0 mg hp' → hp'.get? x = some (excO C t0) → K.lookup x = none → A'.depth < recursionLimit →
      (∀ h' tk' t1 dx, (∀ b o, b ≠ x → hp'.get? b = some o → h'.get? b = some o) → h'.get? x = some { cls := .ref C, dict := some dx, data := .fields #[.ref t1, .none, .none, .none, .bool false, .none] } → hp'.objs.size ≤ dx → dx ≠ x →
        h'.Ns1 dx m → R' (.ok (.ret .none)) ⟨h', g, d, tk', os⟩) → codeAny (model P w) A' (.call (.ref fI) ⟨.ref x :: us, []⟩) R' ⟨hp', g, d, tk, os⟩)
    (room : A.depth + 1 < recursionLimit) (hq : ∀ h' tk' e dx, Made hp h' e C dx m → R (.ok (.ret (.ref e))) ⟨h', g, d, tk', os⟩) : codeAny (model P w) A (.call (.ref C) ⟨us, []⟩) R ⟨hp, g, d, tk, os⟩ := by
  obtain ⟨n1, q, N, bs, bm, sn, sub, ab, col, dd, k0, k1, k2, k3, k5, lC, vm, ai⟩ := T.cls
  have k : ∀ b o, hp.get? b = some o → ((hp.push (kdv_tup us)).push (excO C hp.objs.size)).get? b = some o := fun b o z => Heap.get?_push_of_some _ (Heap.get?_push_of_some _ z)
  have hx : ((hp.push (kdv_tup us)).push (excO C hp.objs.size)).get? (hp.objs.size + 1) = some (excO C hp.objs.size) := by heap_get
  have nx : K.lookup (hp.objs.size + 1) = none := by
    cases z : K.lookup (hp.objs.size + 1) with
    | none => rfl
    | some o => exact absurd (Nat.lt_of_succ_lt (Heap.lt_size (X _ _ z))) (Nat.lt_irrefl _)
  refine call_own F.excBase_ValueError (fun Y => refsVE_contains Y bm vm) (X _ _ lC) (looks_findIn X T.iC) (fun self => bind_fn X self T.tC) hz ?_
  refine ini _ _ _ _ _ (X.keeps k) (lim.keeps k) (Nm.keeps k) hx nx (by show A.depth + 1 < recursionLimit; exact room) fun h' tk' t1 dx kk e1 dn de ns => ⟨rfl, ?_⟩
  have sz : ((hp.push (kdv_tup us)).push (excO C hp.objs.size)).objs.size = hp.objs.size + 1 + 1 := by rw [Heap.size_push, Heap.size_push]
  rw [sz] at dn
  exact hq h' tk' _ dx ⟨fun b o z => kk b o (Nat.ne_of_lt (Nat.lt_succ_of_lt (Heap.lt_size z))) (k b o z), Nat.le_succ _, ⟨_, _, e1, rfl, rfl, rfl, rfl⟩, Nat.le_trans (Nat.le_trans (Nat.le_succ _) (Nat.le_succ _)) dn, de, ns⟩
end
end FG
namespace FG
open PySem PySem.Spec PyProof.Rows L2
/-! own errors in the hand layer: making, raising -/
theorem relO1 {f : Str} {v : V} {u : Value} (r : RelV v u) (y : Str) : RelO (List.lookup y [(f, v)]) (if y = f then some u else none) := by
  by_cases h : y = f
  · subst h
    simp [List.lookup, RelO, r]
  · have z : (y == f) = false := by simpa using h
    simp [List.lookup, z, h, RelO]
theorem relO2 {f f2 : Str} {v v2 : V} {u u2 : Value} (nf : (f == f2) = false) (r : RelV v u) (r2 : RelV v2 u2) (y : Str) : RelO (List.lookup y [(f, v), (f2, v2)]) (if y = f2 then some u2 else if y = f then some u else none) := by
  by_cases h2 : y = f2
  · subst h2
    have z : (y == f) = false := by
      rw [beq_eq_false_iff_ne] at nf ⊢
      exact fun q => nf q.symm
    simp [List.lookup, z, RelO, r2]
  · have z2 : (y == f2) = false := by simpa using h2
    by_cases h : y = f
    · subst h
      simp [List.lookup, RelO, r, h2]
    · have z : (y == f) = false := by simpa using h
      simp [List.lookup, z, z2, h, h2, RelO]
section
variable {X : Cx} {nm qn f f2 msg : Str} {ps : Arguments} {bd : List Stmt} {sc : Scope} {C fI cc cda : Addr} {a a2 : Expr} {ta tb : TE} {p pos : Pos} {k : Nat}
/-- what making such an error does to the state: e is new, its own dict d is tracked from now on -/
theorem mkp_of {pins : List (Addr × Obj)} {σ : L2.St} {H1 : Hp} {Q : XK} {hp h' : Heap} {g : Array GenState} {dr : Drawn} {tk tk' : Nat} {os : OsState} {e d : Addr} {m : Str → Option Value} {fs : List (Str × V)}
    (T : ErrC X.prog X.K X.mg nm qn ps bd sc C fI cc cda) (I1 : Inv X pins σ H1 ⟨hp, g, dr, tk, os⟩) (M : Made hp h' e C d m) (rel : ∀ y, RelO (fs.lookup y) (m y))
    (q1 : ∀ d, H1 d = none → Q (.ref C) (some d) (upd H1 d (.xd fs))) : MkP X pins σ Q (.ref e) ⟨h', g, dr, tk', os⟩ := by
  obtain ⟨oe, fv, hoe, hc, hd, hdat, h1⟩ := M.obj
  have hns := M.ns
  obtain ⟨G', g1, g2⟩ := restrict h' fun b => decide (b ≠ e)
  have gk : ∀ b, b ≠ e → G'.get? b = h'.get? b := fun b hb => g1 b (decide_eq_true hb)
  have ge : G'.get? e = none := g2 e (by simp)
  have old : ∀ b o, hp.get? b = some o → G'.get? b = some o := fun b o z => (gk b (Nat.ne_of_lt (Nat.lt_of_lt_of_le (Heap.lt_size z) M.new))).trans (M.keep b o z)
  have ob : ObjOk X.prog X.w (upd H1 d (.xd fs)) G' d (.xd fs) := ⟨_, hns.at (fun o z => (gk d M.dne).trans z), rel⟩
  have J : Inv X pins σ (upd H1 d (.xd fs)) ⟨G', g, dr, tk', os⟩ := I1.laid (t' := tk') old M.dbig ob
  refine ⟨e, oe, fv, ⟨G', g, dr, tk', os⟩, _, .ref C, some d, rfl, J, fun b o z => ?_, ge, hoe, ⟨hc, hd⟩, hdat, h1, ?_, rfl, I1.bare, raises_own T.exC T.tyC, q1 d (I1.hok.fresh M.dbig)⟩
  · have nb : b ≠ e := fun y => by
      have z' : G'.get? b = some o := z
      rw [y, ge] at z'
      cases z'
    exact (gk b nb).symm.trans z
  · rw [upd_ne (Ne.symm M.dne)]
    exact I1.hok.fresh M.new
theorem names_of {pins : List (Addr × Obj)} {σ : L2.St} {H : Hp} {s : Shared} (I : Inv X pins σ H s) : Names0 X.mg s.heap := by
  obtain ⟨mb, b1, b2⟩ := I.mod.blt
  exact ⟨I.mod.glob.keeps I.bk, mb, b1.keeps I.bk, b2⟩
/-- C(e) -/
def tMk1 (C : Addr) (f : Str) (ta : TA) : L2.St → Hp → XK → Prop := fun σ H Q => ta σ H fun vs H1 => ∃ v, vs = [v] ∧ ∀ d, H1 d = none → Q (.ref C) (some d) (upd H1 d (.xd [(f, v)]))
/-- C(e, e2) -/
def tMk2 (C : Addr) (f f2 : Str) (ta : TA) : L2.St → Hp → XK → Prop := fun σ H Q => ta σ H fun vs H1 => ∃ v v2, vs = [v, v2] ∧ ∀ d, H1 d = none → Q (.ref C) (some d) (upd H1 d (.xd [(f, v), (f2, v2)]))
theorem pmk1 {as : List Expr} {ta : TA} (T : ErrC X.prog X.K X.mg nm qn ps bd sc C fI cc cda) (Y : Txt1 qn f msg ps bd sc) (no : PySem.W.findIn X.K (.ref C) f = some none) (hr : Room k X.A) (ha : PA X (a :: as) ta) (hg : Gl X nm := by rfl) (hdb : (nm == ("__debug__" : Str)) = false := by decide)
    (he : starEach (a :: as) X.env = (false, eval a X.env) :: starEach as X.env := by rfl) (hpl : (backTo pos (starEach as X.env)).any (·.1) = false := by rfl) : PMk X (.Call (.Name nm p) (a :: as) [] pos) (tMk1 C f ta) := by
  intro pins s σ H Q I h
  refine wpAny_Call_Name_kw (ld_glob I hg T.gC ?_ hdb)
  refine PySem.W.callWith_K (h₀ := X.base) I.ok.mod.kin T.kC (thn (ha.run pos pins s σ H _ I h) fun us s1 ⟨vs, H1, I1, r1, v, ev, q1⟩ => ⟨I1.kIn, ?_⟩) he hpl
  subst ev
  have Nm := names_of I1
  have lim := I1.nolimit
  have KI := I1.kIn
  cases r1 with
  | @cons _ u1 _ ur rv rn =>
    cases rn
    obtain ⟨hp, g, dr, tk, os⟩ := s1
    exact wpAny_call (made_of (m := fun y => if y = f then some u1 else none) T KI lim Nm (ve_len _) (fun A' hp' x t0 R' x1 x2 x3 x4 x5 x6 x7 => init1 T Y no x1 x2 x3 x4 x5 x6 x7) (by have := hr.dp; omega) fun h' tk' e d M => mkp_of T I1 M (relO1 rv) q1)
theorem two_len (v v' : Value) : [v, v'].length ≤ sizeLine := by
  show 2 ≤ sizeLine
  decide
theorem pmk2 {as : List Expr} {ta : TA} (T : ErrC X.prog X.K X.mg nm qn ps bd sc C fI cc cda) (Y : Txt2 qn f f2 msg ps bd sc) (no : PySem.W.findIn X.K (.ref C) f = some none) (no2 : PySem.W.findIn X.K (.ref C) f2 = some none) (hr : Room k X.A) (ha : PA X (a :: as) ta) (hg : Gl X nm := by rfl) (hdb : (nm == ("__debug__" : Str)) = false := by decide)
    (he : starEach (a :: as) X.env = (false, eval a X.env) :: starEach as X.env := by rfl) (hpl : (backTo pos (starEach as X.env)).any (·.1) = false := by rfl) : PMk X (.Call (.Name nm p) (a :: as) [] pos) (tMk2 C f f2 ta) := by
  intro pins s σ H Q I h
  refine wpAny_Call_Name_kw (ld_glob I hg T.gC ?_ hdb)
  refine PySem.W.callWith_K (h₀ := X.base) I.ok.mod.kin T.kC (thn (ha.run pos pins s σ H _ I h) fun us s1 ⟨vs, H1, I1, r1, v, v2, ev, q1⟩ => ⟨I1.kIn, ?_⟩) he hpl
  subst ev
  have Nm := names_of I1
  have lim := I1.nolimit
  have KI := I1.kIn
  cases r1 with
  | @cons _ u1 _ ur rv rn =>
    cases rn with
    | @cons _ u2 _ ur2 rv2 rn2 =>
      cases rn2
      obtain ⟨hp, g, dr, tk, os⟩ := s1
      exact wpAny_call (made_of (m := fun y => if y = f2 then some u2 else if y = f then some u1 else none) T KI lim Nm (two_len _ _) (fun A' hp' x t0 R' x1 x2 x3 x4 x5 x6 x7 => init2 T Y no no2 x1 x2 x3 x4 x5 x6 x7) (by have := hr.dp; omega) fun h' tk' e d M => mkp_of T I1 M (relO2 Y.nff rv rv2) q1)
theorem xfC_of (T : ErrC X.prog X.K X.mg nm qn ps bd sc C fI cc cda) : XfC X.K C := ⟨T.ga, T.gg, T.exC, T.hdC⟩
end
end FG
namespace FG
open PySem PySem.Spec L2
/-! further rules of the hand layer -/
section
variable {X : Cx}
/-- // by any divisor but 0 below 2 ^ 9000 in size -/
def CDivX (_ j : Int) : Prop := j ≠ 0 ∧ j.natAbs.log2 < 9000
theorem op_fdivX : OpR X (binaryOp .FloorDiv) (rI CDivX fun i j => .int (i.fdiv j)) := opI fun i j _ _ _ _ _ hc q => PyProof.Rows.floordiv_int hc.1 q (.inl (PyProof.noPylong_of_log2 hc.2))
end
theorem divX {i j : Int} {b : Nat} (h : j ≠ 0) (hb : j.natAbs < 2 ^ b) (h0 : 0 < b) (h9 : b ≤ 9000) : CDivX i j := ⟨h, Nat.lt_of_lt_of_le (PySem.Flt.log2_lt_of h0 hb) h9⟩
/-! ### calls that may raise, wished for at the caller's slots -/
section
variable {X : Cx} {CX : CXT} {k : Nat} {f C : Addr} {fd : FuncData} {ps : List Str} {sp : Sp} {dvs : List V} {ds : List Value} {E : L2.St → XK} {x m : Str} {p pos apos : Pos} {e o : Expr} {es : List Expr} {ta : TE} {t : TA}
/-- C(..), its __init__ may raise -/
def tMkS (C : Addr) (sp : Sp) (dvs : List V) (E : L2.St → XK) (t : TA) : TE := fun σ H Q => t σ H fun vs H1 => ∀ z dz, H1 z = none → H1 dz = none → dz ≠ z →
  sp (.ref z :: (vs ++ dvs)) (upd (upd H1 dz (.own z)) z (.ins C dz [])) (fun v H2 => v = .non ∧ Q (.ref z) H2) (E σ)
theorem mkS_run {pins : List (Addr × Obj)} {σ : L2.St} {H : Hp} {s : Shared} {Q : VK} {us : List Value} {vs : List V} (M : Mk X.K C f) (F : FnOk X.prog X.w X.K X.mg X.base CX k f fd ps sp) (hr : Room (k + 1) X.A) (hb : Binds X.K fd ps ds) (hd : Vals dvs ds)
    (hx : PassesAt CX X σ (E σ)) (I : Inv X pins σ H s) (r : Vals vs us)
    (h : ∀ z dz, H z = none → H dz = none → dz ≠ z → sp (.ref z :: (vs ++ dvs)) (upd (upd H dz (.own z)) z (.ins C dz [])) (fun v H2 => v = .non ∧ Q (.ref z) H2) (E σ)) :
    wpAny (model X.prog X.w) X.A (call (.ref C) us) (EP X pins σ Q) X.xe s := by
  have J := Inv.made (C := C) I
  have q0 := h _ _ (I.hok.fresh (Nat.le_succ s.heap.objs.size)) (I.hok.fresh (Nat.le_refl _)) (Nat.ne_of_lt (Nat.lt_succ_self _))
  have rr : Vals (V.ref (s.heap.objs.size + 1) :: (vs ++ dvs)) (Value.ref (s.heap.objs.size + 1) :: (us ++ ds)) := .cons rfl (r.append hd)
  have ln : (Value.ref (s.heap.objs.size + 1) :: us ++ ds).length = ps.length := rr.length.symm.trans (F.len _ _ _ _ q0)
  have go := F.run _ X.stack _ _ ⟨Value.ref (s.heap.objs.size + 1) :: us, []⟩ _ _ _ (E σ) (hr.make C us []) (J.env0.make C us []) (hb _ (Value.ref (s.heap.objs.size + 1) :: us) J.kIn ln) rr q0
  refine wpAny_call (make_map (f := f) I.kIn M.makes M.init (beq_iff_eq.mp M.fn) (codeAny_mono go fun res s' z => ?_))
  match res, z with
  | .error er, z => exact hx pins _ _ er s' J z
  | .ok (.ret u), z =>
    obtain ⟨v, H2, J2, rv, ev, q2⟩ := J.after z
    subst ev
    exact ⟨rv, ⟨V.ref (s.heap.objs.size + 1), H2, J2, rfl, q2⟩⟩
  | .ok .next, z => exact False.elim z
  | .ok .brk, z => exact False.elim z
  | .ok .cont, z => exact False.elim z
theorem pe_mkS (M : Mk X.K C f) (F : FnOk X.prog X.w X.K X.mg X.base CX k f fd ps sp) (hr : Room (k + 1) X.A) (hg : Gl X x) (hm : X.mg x = some (.ref C)) (hb : Binds X.K fd ps ds) (hd : Vals dvs ds) (hx : ∀ σ, PassesAt CX X σ (E σ)) (ha : PA X (e :: es) t)
    (hdb : (x == ("__debug__" : Str)) = false := by decide) (he : starEach (e :: es) X.env = (false, eval e X.env) :: starEach es X.env := by rfl) (hpl : (backTo pos (starEach es X.env)).any (·.1) = false := by rfl) :
    PE X (.Call (.Name x p) (e :: es) [] pos) (tMkS C sp dvs E t) := ⟨fun pins s σ H Q I h => wpAny_Call_Name_kw (ld_glob I hg hm (PySem.W.callWith_K (h₀ := X.base) I.ok.mod.kin M.kp (thn (ha.run pos pins s σ H _ I h) fun us s1 ⟨vs, H1, I1, r, q⟩ => ⟨I1.kIn, mkS_run M F hr hb hd (hx σ) I1 r q⟩) he hpl) hdb)⟩
/-- o.m(e, ..) that may raise -/
def tMtS (C : Addr) (m : Str) (sp : Sp) (dvs : List V) (E : L2.St → XK) (ta : TE) (t : TA) : TE := fun σ H Q => ta σ H fun y H1 => ∃ a dx fs, y = .ref a ∧ H1 a = some (.ins C dx fs) ∧ fs.lookup m = none ∧ t σ H1 fun vs H2 => sp (.ref a :: (vs ++ dvs)) H2 Q (E σ)
theorem pe_mtS {pl : Sem Bool} (he : PE X o ta) (c : Cls X.K C) (hm : Meth X.K C m f) (F : FnOk X.prog X.w X.K X.mg X.base CX k f fd ps sp) (hr : Room k X.A) (hb : Binds X.K fd ps ds) (hd : Vals dvs ds) (hx : ∀ σ, PassesAt CX X σ (E σ)) (ha : PA X (e :: es) t)
    (hst : starEach (e :: es) X.env = (false, eval e X.env) :: starEach es X.env := by rfl) (hpl : (backTo pos (starEach es X.env)).any (·.1) = false := by rfl)
    (ht : eval (.Call (.Attribute o m apos) (e :: es) [] pos) X.env = (do
      let ov ← eval o X.env
      standAt apos.atName
      let (fn, first) ← holding [ov] (getMethod ov m pl)
      callWith pos fn first (backTo pos (starEach (e :: es) X.env)) (backToKw pos (keywordEach [] X.env))) := by rfl) :
    PE X (.Call (.Attribute o m apos) (e :: es) [] pos) (tMtS C m sp dvs E ta t) := by
  refine ⟨fun pins s σ H Q I h => PySem.W.methodCall_KW (pl := pl) (thn (he.run pins s σ H _ I h) fun u s1 ⟨y, H1, I1, ry, a, dx, fs, ey, ea, l, q⟩ => ?_) ht⟩
  subst ey
  cases (show u = Value.ref a from ry)
  refine getmeth_ok I1 ea c hm l (PySem.W.callWith_K (first := [.ref a]) (h₀ := X.base) I.ok.mod.kin hm.kp (thn (ha.run pos pins s1 σ H1 _ I1 q) fun us s2 ⟨vs, H2, I2, r, q2⟩ => ⟨I2.kIn, ?_⟩) hst hpl)
  exact run_fnSD (us := .ref a :: us) (vs := .ref a :: vs) F hr hb hd (hx σ) I2 (.cons rfl r) q2
theorem pe_mt0S {pl : Sem Bool} (he : PE X o ta) (c : Cls X.K C) (hm : Meth X.K C m f) (F : FnOk X.prog X.w X.K X.mg X.base CX k f fd ps sp) (hr : Room k X.A) (hb : Binds X.K fd ps ds) (hd : Vals dvs ds) (hx : ∀ σ, PassesAt CX X σ (E σ))
    (ht : eval (.Call (.Attribute o m apos) [] [] pos) X.env = (do
      let ov ← eval o X.env
      standAt apos.atName
      let (fn, first) ← holding [ov] (getMethod ov m pl)
      callWith pos fn first (backTo pos (starEach [] X.env)) (backToKw pos (keywordEach [] X.env))) := by rfl) :
    PE X (.Call (.Attribute o m apos) [] [] pos) (tMtS C m sp dvs E ta tNil) := by
  refine ⟨fun pins s σ H Q I h => PySem.W.methodCall_KW (pl := pl) (thn (he.run pins s σ H _ I h) fun u s1 ⟨y, H1, I1, ry, a, dx, fs, ey, ea, l, q⟩ => ?_) ht⟩
  subst ey
  cases (show u = Value.ref a from ry)
  exact getmeth_ok I1 ea c hm l (PySem.W.callWith_K0 (first := [.ref a]) I1.kIn hm.kp (run_fnSD (us := [.ref a]) (vs := [.ref a]) F hr hb hd (hx σ) I1 (.cons rfl .nil) q))
end
/-! ### isinstance of the caught error -/
/-- isinstance(e, c): e the error at a that the suite holds, cls its class, d its dict -/
def rIsX (K : PySem.W.Frag) (a : Addr) (cls : Value) (d : Option Addr) : List V → Hp → VK → Prop := fun xs H Q => ∃ (c : V) (cv : Value) (D dd : Addr) (fs : List (Str × V)) (b : Bool), xs = [.ref a, c] ∧ ClsV c cv ∧ cls = .ref D ∧ ExcC K D ∧ d = some dd ∧ H dd = some (.xd fs) ∧ PySem.W.kitOne K (.ref D) cv = some b ∧ Q (.bl b) H
theorem call_isX {X : Cx} {a : Addr} {cls : Value} {d : Option Addr} {oe : Obj} {pn : List (Addr × Obj)} (hz : Zc cls d oe) (hf : ∃ vs, oe.data = .fields vs) : CallR (X.suite a ((a, oe) :: pn)) (.builtin "isinstance") (rIsX X.K a cls d) := by
  intro pins s σ H xs us Q I r h
  obtain ⟨c, cv, D, dd, fs, b, rfl, hc, rfl, C, rfl, hx, e, q⟩ := h
  obtain ⟨u1, u2, rfl, r1, r2⟩ := vals2 r
  cases (show u1 = Value.ref a from r1)
  have e2 := hc.eq r2
  subst e2
  obtain ⟨hget, _⟩ := I.pin (a, oe) (List.mem_append_left _ List.mem_cons_self)
  obtain ⟨vs, hv⟩ := hf
  obtain ⟨mA, hns, _⟩ := (show ObjOk X.prog X.w H s.heap dd (.xd fs) from I.hok dd _ hx)
  obtain ⟨od, ho, _⟩ := lookIn_ns hns
  have J : PySem.W.InstAt s.heap a oe D (some od) := ⟨hget, hz.1, by unfold PySem.W.notCls; rw [hv] <;> rfl, by rw [hz.2]; exact ho⟩
  obtain ⟨cd, hcd, _⟩ := PySem.W.any_some C.hd
  have Z : PySem.W.KitX X.K (.ref a) (.ref D) (fun h => PySem.W.InstAt h a oe D (some od)) := PySem.W.kitx_exc (by rw [hcd]; rfl) C.hg C.hk C.hs C.ha C.hn C.ht C.hm
  exact PySem.W.kia_one Z I.kIn J e (fun z => nomatch z) fun tk => ⟨.bl b, H, I.kept (t' := tk) fun _ _ z => z, rfl, q⟩
end FG
namespace FG
open PySem PySem.Spec L2
/-! ### loops, by names -/
def ForR (lo : Int) (n : Nat) (g : TG) (tb : TS) (D : Ends) (σ : L2.St) (H : Hp) : Prop := ∃ W : Nat → Nat → L2.St → Hp → Prop, (∃ m, W 0 m σ H) ∧ ∀ i m σ H, W i m σ H →
  ((Itr lo n).stop i H ∧ D.nx σ H) ∨ ((Itr lo n).go i H ∧ ∃ N : L2.St → Hp → Prop, (∀ σ' H', N σ' H' → ∃ m', m' < m ∧ W (i + 1) m' σ' H') ∧ ∀ x H', (Itr lo n).yld i H x H' → g x σ H' fun σ2 H2 => tb { D with nx := N, ct := N, bk := D.nx } σ2 H2)
def ForL (K : PySem.W.Frag) (a : Addr) (g : TG) (tb : TS) (D : Ends) (σ : L2.St) (H : Hp) : Prop := ∃ W : Nat → Nat → L2.St → Hp → Prop, (∃ m, W 0 m σ H) ∧ ∀ i m σ H, W i m σ H →
  ((Itl K a).stop i H ∧ D.nx σ H) ∨ ((Itl K a).go i H ∧ ∃ N : L2.St → Hp → Prop, (∀ σ' H', N σ' H' → ∃ m', m' < m ∧ W (i + 1) m' σ' H') ∧ ∀ x H', (Itl K a).yld i H x H' → g x σ H' fun σ2 H2 => tb { D with nx := N, ct := N, bk := D.nx } σ2 H2)
section
variable {K : PySem.W.Frag} {σ : L2.St} {H : Hp} {D : Ends} {g : TG} {tb : TS} {tar : TA} {tl : TE}
theorem w_forR1 (k : tar σ H fun vs H1 => ∃ j : Int, vs = [.int j] ∧ -(2 ^ 62) ≤ j ∧ j < 2 ^ 62 ∧ ForR 0 j.toNat g tb D σ H1) : tFor (iRng1 tar) g tb D σ H := k
theorem w_forR2 (k : tar σ H fun vs H1 => ∃ i j : Int, vs = [.int i, .int j] ∧ (-(2 ^ 62) ≤ i ∧ i < 2 ^ 62 ∧ -(2 ^ 62) ≤ j ∧ j < 2 ^ 62) ∧ ForR i (j - i).toNat g tb D σ H1) : tFor (iRng2 tar) g tb D σ H := k
theorem w_forL (k : tl σ H fun x H1 => ∃ a, x = .ref a ∧ (∃ xs, SqL K H1 a xs) ∧ ForL K a g tb D σ H1) : tFor (iList K tl) g tb D σ H := k
/-- the turns of a range, by what holds between them -/
theorem turnsR {lo : Int} {n : Nat} (Pv : Nat → L2.St → Hp → Prop) (h0 : Pv 0 σ H) (hs : ∀ (i : Nat) σ H, i < n → Pv i σ H → g (.int (lo + i)) σ H fun σ2 H2 => tb { D with nx := Pv (i + 1), ct := Pv (i + 1), bk := D.nx } σ2 H2) (hd : ∀ σ H, Pv n σ H → D.nx σ H) : ForR lo n g tb D σ H := for_range Pv h0 hs hd
theorem turnsL {a : Addr} {xs : List V} (Pv : Nat → L2.St → Hp → Prop) (h0 : Pv 0 σ H) (hl : ∀ i σ H, i ≤ xs.length → Pv i σ H → SqL K H a xs) (hs : ∀ (i : Nat) x σ H, xs[i]? = some x → Pv i σ H → g x σ H fun σ2 H2 => tb { D with nx := Pv (i + 1), ct := Pv (i + 1), bk := D.nx } σ2 H2) (hd : ∀ σ H, Pv xs.length σ H → D.nx σ H) : ForL K a g tb D σ H := for_list Pv h0 hl hs hd
end
/-! ### readings of built-ins by names -/
def rAbs : List V → Hp → VK → Prop := fun xs H Q => ∃ i, xs = [.int i] ∧ Q (.int (if i < 0 then -i else i)) H
def rInt1 : List V → Hp → VK → Prop := fun xs H Q => (∃ i, xs = [.int i] ∧ Q (.int i) H) ∨ ∃ k, xs = [.bl k] ∧ Q (.int (if k then 1 else 0)) H
def rLenQ (K : PySem.W.Frag) : List V → Hp → VK → Prop := fun xs H Q => ∃ p ys, xs = [.ref p] ∧ (SqL K H p ys ∨ SqT K H p ys) ∧ Q (.int ys.length) H
def rLenX : List V → Hp → VK → Prop := fun xs H Q => ∃ z : Str, xs = [.str z] ∧ z.length ≤ sizeLine ∧ Q (.int z.length) H
def rListQ (K : PySem.W.Frag) : List V → Hp → VK → Prop := fun xs H Q => ∃ p ys, xs = [.ref p] ∧ (SqL K H p ys ∨ SqT K H p ys) ∧ ∀ l, H l = none → Q (.ref l) (upd H l (.lst ys))
def rMin2 : List V → Hp → VK → Prop := fun xs H Q => ∃ i j, xs = [.int i, .int j] ∧ Q (.int (if j < i then j else i)) H
def rMax2 : List V → Hp → VK → Prop := fun xs H Q => ∃ i j, xs = [.int i, .int j] ∧ Q (.int (if j > i then j else i)) H
def rIsNo : R2 := fun x y H Q => y = .non ∧ Q (.bl (decide (x = .non))) H
def rNotNo : R2 := fun x y H Q => y = .non ∧ Q (.bl (!decide (x = .non))) H
def rAddStr : R2 := fun x y H Q => ∃ i j : Str, x = .str i ∧ y = .str j ∧ i.length + j.length ≤ sizeLine ∧ Q (.str (i ++ j)) H
def rStrI : List V → Hp → VK → Prop := fun xs H Q => ∃ i : Int, xs = [.int i] ∧ i.natAbs.log2 < 1920 ∧ Q (.str (toString i)) H
def rIntS : List V → Hp → VK → Prop := fun xs H Q => ∃ (a : Str) (n : Int), xs = [.str a] ∧ PySem.intText? a = some n ∧ a.length ≤ 640 ∧ Q (.int n) H
section
variable {X : Cx}
theorem qc_abs : CallR X (.builtin "abs") rAbs := call_abs
theorem qc_int1 : CallR X (.type "int") rInt1 := call_int1
theorem qc_len : CallR X (.builtin "len") (rLenQ X.K) := call_len_seq
theorem qc_lenX : CallR X (.builtin "len") rLenX := call_len_str
theorem qc_list : CallR X (.type "list") (rListQ X.K) := call_list_of
theorem qc_min2 (hc : X.calm = true) : CallR X (.builtin "min") rMin2 := call_min2 hc
theorem qc_max2 (hc : X.calm = true) : CallR X (.builtin "max") rMax2 := call_max2 hc
theorem qo_isN : OpR X (compareOp .Is) rIsNo := op_isN
theorem qo_notN : OpR X (compareOp .IsNot) rNotNo := op_notN
theorem qo_addS : OpR X (binaryOp .Add) rAddStr := op_add_str
theorem qc_strI : CallR X (.type "str") rStrI := call_str_int
theorem qc_intS : CallR X (.type "int") rIntS := call_int_str
end
/-! ### stepping through a reading: one lemma a construct -/
section
variable {K : PySem.W.Frag} {σ σ' : L2.St} {H : Hp} {Q : VK} {D : Ends} {ta tb te tc : TE} {tt tu : TT} {t u : TS} {tar : TA} {v x y : V} {i : Nat} {g : TG} {r r' : R2} {QB : Bool → Hp → Prop} {QA : List V → Hp → Prop} {QS : L2.St → Hp → Prop}
theorem w_var (h : σ[i]? = some (some v)) (k : Q v H) : tVar i σ H Q := ⟨v, h, k⟩
theorem w_c (k : Q v H) : tC v σ H Q := k
theorem w_op (k : ta σ H fun x H1 => tb σ H1 fun y H2 => r x y H2 Q) : tOp r ta tb σ H Q := k
theorem w_un {r1 : V → Hp → VK → Prop} (k : ta σ H fun x H1 => r1 x H1 Q) : tUn r1 ta σ H Q := k
theorem w_U {g : Int → V} {i : Int} (k : Q (g i) H) : rU g (.int i) H Q := ⟨i, rfl, k⟩
theorem w_I0 {g : Int → Int → V} {i j : Int} (k : Q (g i j) H) : rI0 g (.int i) (.int j) H Q := ⟨i, j, rfl, rfl, k⟩
theorem w_I {C : Int → Int → Prop} {g : Int → Int → V} {i j : Int} (c : C i j) (k : Q (g i j) H) : rI C g (.int i) (.int j) H Q := ⟨i, j, rfl, rfl, c, k⟩
theorem w_eq (c : scal x y = true) (k : Q (.bl (decide (x = y))) H) : rEq x y H Q := ⟨c, k⟩
theorem w_ne (c : scal x y = true) (k : Q (.bl (!decide (x = y))) H) : rNe x y H Q := ⟨c, k⟩
theorem w_test (k : te σ H fun z H1 => ∃ b, z = .bl b ∧ QB b H1) : tTest te σ H QB := k
theorem w_tB (k : te σ H fun z H1 => ∃ b, z = .bl b ∧ QB b H1) : tB te σ H QB := k
theorem w_bl {b : Bool} (k : QB b H) : ∃ b', V.bl b = .bl b' ∧ QB b' H := ⟨b, rfl, k⟩
theorem w_blE {b : Bool} {P : Bool → Prop} (k : P b) : ∃ b', V.bl b = .bl b' ∧ P b' := ⟨b, rfl, k⟩
theorem w_and (k : tt σ H fun c H1 => if c = true then tu σ H1 QB else QB false H1) : tAnd tt tu σ H QB := k
theorem w_or (k : tt σ H fun c H1 => if c = true then QB true H1 else tu σ H1 QB) : tOr tt tu σ H QB := k
theorem w_not (k : tt σ H fun c H1 => QB (!c) H1) : tNot tt σ H QB := k
theorem w_andV (k : ta σ H fun x H1 => ∃ c, x = .bl c ∧ if c = true then tb σ H1 Q else Q (.bl false) H1) : tAndV ta tb σ H Q := k
theorem w_orV (k : ta σ H fun x H1 => ∃ c, x = .bl c ∧ if c = true then Q (.bl true) H1 else tb σ H1 Q) : tOrV ta tb σ H Q := k
theorem w_notV (k : ta σ H fun x H1 => ∃ c, x = .bl c ∧ Q (.bl (!c)) H1) : tNotV ta σ H Q := k
theorem w_if (k : tt σ H fun c H1 => if c = true then ta σ H1 Q else tb σ H1 Q) : tIf tt ta tb σ H Q := k
theorem w_nil (k : QA [] H) : tNil σ H QA := k
theorem w_cons (k : ta σ H fun x H1 => tar σ H1 fun xs H2 => QA (x :: xs) H2) : tCons ta tar σ H QA := k
theorem w_tup (k : tar σ H fun xs H1 => xs.length ≤ sizeLine ∧ ∀ p, H1 p = none → Q (.ref p) (upd H1 p (.tup xs))) : tTup tar σ H Q := k
theorem w_lst (k : tar σ H fun xs H1 => xs.length ≤ sizeLine ∧ ∀ p, H1 p = none → Q (.ref p) (upd H1 p (.lst xs))) : tLst tar σ H Q := k
theorem w_cb {r : List V → Hp → VK → Prop} (k : tar σ H fun vs H1 => r vs H1 Q) : tCB r tar σ H Q := k
theorem w_call {sp : Sp} {dvs : List V} {E : XK} (k : tar σ H fun vs H1 => sp (vs ++ dvs) H1 Q E) : tCall sp dvs E tar σ H Q := k
theorem w_callSD {sp : Sp} {dvs : List V} {E : L2.St → XK} (k : tar σ H fun vs H1 => sp (vs ++ dvs) H1 Q (E σ)) : tCallSD sp dvs E tar σ H Q := k
theorem w_callS {sp : Sp} {E : L2.St → XK} (k : tar σ H fun vs H1 => sp vs H1 Q (E σ)) : tCallS sp E tar σ H Q := k
theorem w_meth {C : Addr} {m : Str} {sp : Sp} {dvs : List V} {E : XK} (k : ta σ H fun x H1 => ∃ a dx fs, x = .ref a ∧ H1 a = some (.ins C dx fs) ∧ fs.lookup m = none ∧ tar σ H1 fun vs H2 => sp (x :: (vs ++ dvs)) H2 Q E) : tMeth C m sp dvs E ta tar σ H Q := k
theorem w_chain (k : ta σ H fun x H1 => tb σ H1 fun y H2 => r x y H2 fun z H3 => ∃ k, z = .bl k ∧ (if k = true then tc σ H3 fun w' H4 => r' y w' H4 Q else Q (.bl false) H3)) : tChain r r' ta tb tc σ H Q := k
/-- statements -/
theorem w_seq (k : t { D with nx := u D } σ H) : tSeq t u D σ H := k
theorem w_next (k : D.nx σ H) : tNext D σ H := k
theorem w_drop (k : te σ H fun _ H1 => D.nx σ H1) : tDrop te D σ H := k
theorem w_ret (k : te σ H D.rt) : tRet te D σ H := k
theorem w_retN (k : D.rt .non H) : tRetN D σ H := k
theorem w_ifs (k : tt σ H fun b H1 => if b = true then t D σ H1 else u D σ H1) : tIfS tt t u D σ H := k
theorem w_asg (k : te σ H fun x H1 => g x σ H1 D.nx) : tAsg te g D σ H := k
theorem w_gname (e : σ.set i (some v) = σ') (k : QS σ' H) : gName i v σ H QS := by
  subst e
  exact k
theorem w_par {j : Nat} (k : tar σ H fun vs H1 => ∃ v w, vs = [v, w] ∧ D.nx ((σ.set i (some v)).set j (some w)) H1) : tPar i j tar D σ H := k
theorem w_ix {p : Addr} {xs : List V} {i : Int} (h : SqL K H p xs) (e : atI xs i = some v) (k : Q v H) : rIxL K (.ref p) (.int i) H Q := ⟨p, xs, i, v, rfl, rfl, h, e, k⟩
theorem w_ixT {p : Addr} {xs : List V} {i : Int} (h : SqT K H p xs) (e : atI xs i = some v) (k : Q v H) : rIxT K (.ref p) (.int i) H Q := ⟨p, xs, i, v, rfl, rfl, h, e, k⟩
theorem w_gsub {to ti : TE} {s : TSet} (k : to σ H fun o H1 => ti σ H1 fun i H2 => s o i v H2 fun H3 => QS σ H3) : gSub to ti s v σ H QS := k
theorem w_setL {p : Addr} {xs : List V} {k : Int} {j : Nat} {P : Hp → Prop} (h : H p = some (.lst xs)) (e : ixN xs.length k = some j) (q : P (upd H p (.lst (xs.set j v)))) : rSetL (.ref p) (.int k) v H P := ⟨p, xs, k, j, rfl, rfl, h, e, q⟩
theorem w_fld {f : Str} (k : ta σ H fun x H1 => ∃ a C dx fs v, x = .ref a ∧ H1 a = some (.ins C dx fs) ∧ Cls K C ∧ NoAttr K C f ∧ fs.lookup f = some v ∧ Q v H1) : tFld K ta f σ H Q := k
theorem w_sfld {f : Str} (k : tb σ H fun y H1 => ta σ H1 fun x H2 => ∃ a C dx fs, x = .ref a ∧ H2 a = some (.ins C dx fs) ∧ Cls K C ∧ NoAttr K C f ∧ fs.length < 1000 ∧ D.nx σ (upd H2 a (.ins C dx (putF f y fs)))) : sFld K ta tb f D σ H := k
theorem w_sl {r : V → Option Int → Option Int → Hp → VK → Prop} {tl th : TO} (k : te σ H fun x H1 => tl σ H1 fun l H2 => th σ H2 fun u H3 => r x l u H3 Q) : tSl r te tl th σ H Q := k
theorem w_nopart {QO : Option Int → Hp → Prop} (k : QO none H) : tNoPart σ H QO := k
theorem w_part {QO : Option Int → Hp → Prop} (k : te σ H fun x H1 => ∃ i, x = .int i ∧ QO (some i) H1) : tPart te σ H QO := k
theorem w_exI {P : Int → Prop} {i : Int} (k : P i) : ∃ i', V.int i = .int i' ∧ P i' := ⟨i, rfl, k⟩
theorem w_exR {P : Addr → Prop} {p : Addr} (k : P p) : ∃ a, V.ref p = .ref a ∧ P a := ⟨p, rfl, k⟩
theorem w_slL {p : Addr} {xs : List V} {lo hi : Option Int} (h : SqL K H p xs) (k : ∀ q, H q = none → Q (.ref q) (upd H q (.lst (cutV xs lo hi)))) : rSlL K (.ref p) lo hi H Q := ⟨p, xs, rfl, h, k⟩
theorem w_mks {C : Addr} {sp : Sp} {dvs : List V} {E : L2.St → XK} (k : tar σ H fun vs H1 => ∀ z dz, H1 z = none → H1 dz = none → dz ≠ z → sp (.ref z :: (vs ++ dvs)) (upd (upd H1 dz (.own z)) z (.ins C dz [])) (fun v H2 => v = .non ∧ Q (.ref z) H2) (E σ)) : tMkS C sp dvs E tar σ H Q := k
theorem w_abs {i : Int} (k : Q (.int (if i < 0 then -i else i)) H) : rAbs [.int i] H Q := ⟨i, rfl, k⟩
theorem w_int1 {i : Int} (k : Q (.int i) H) : rInt1 [.int i] H Q := .inl ⟨i, rfl, k⟩
theorem w_isi {c : V} {t' u' : Value} {b : Bool} (h1 : ClsV c u') (h2 : TyX K H x t') (h3 : PySem.W.kitOne K t' u' = some b) (k : Q (.bl b) H) : rIsi K [x, c] H Q := ⟨x, c, t', u', b, rfl, h1, h2, h3, k⟩
theorem w_lenS {p : Addr} {xs : List V} (h : SqL K H p xs) (k : Q (.int xs.length) H) : rLenQ K [.ref p] H Q := ⟨p, xs, rfl, .inl h, k⟩
theorem w_lenT {p : Addr} {xs : List V} (h : SqT K H p xs) (k : Q (.int xs.length) H) : rLenQ K [.ref p] H Q := ⟨p, xs, rfl, .inr h, k⟩
theorem w_lenX {z : Str} (h : z.length ≤ sizeLine) (k : Q (.int z.length) H) : rLenX [.str z] H Q := ⟨z, rfl, h, k⟩
theorem w_listS {p : Addr} {xs : List V} (h : SqL K H p xs) (k : ∀ l, H l = none → Q (.ref l) (upd H l (.lst xs))) : rListQ K [.ref p] H Q := ⟨p, xs, rfl, .inl h, k⟩
theorem w_min2 {i j : Int} (k : Q (.int (if j < i then j else i)) H) : rMin2 [.int i, .int j] H Q := ⟨i, j, rfl, k⟩
theorem w_max2 {i j : Int} (k : Q (.int (if j > i then j else i)) H) : rMax2 [.int i, .int j] H Q := ⟨i, j, rfl, k⟩
theorem w_isN (k : Q (.bl (decide (x = .non))) H) : rIsNo x .non H Q := ⟨rfl, k⟩
theorem w_notN (k : Q (.bl (!decide (x = .non))) H) : rNotNo x .non H Q := ⟨rfl, k⟩
theorem w_addS {i j : Str} (h : i.length + j.length ≤ sizeLine) (k : Q (.str (i ++ j)) H) : rAddStr (.str i) (.str j) H Q := ⟨i, j, rfl, rfl, h, k⟩
theorem w_strI {i : Int} (h : i.natAbs.log2 < 1920) (k : Q (.str (toString i)) H) : rStrI [.int i] H Q := ⟨i, rfl, h, k⟩
theorem w_intS {z : Str} {n : Int} (h : PySem.intText? z = some n) (h2 : z.length ≤ 640) (k : Q (.int n) H) : rIntS [.str z] H Q := ⟨z, n, rfl, h, h2, k⟩
end
/-- raise, by a name -/
def tRs (W : WX) (t : L2.St → Hp → XK → Prop) : TS := fun _ σ H => t σ H fun cls d H' => W cls d σ H'
theorem ps_rs {X : Cx} {W : WX} {e : Expr} {t : L2.St → Hp → XK → Prop} {pos : Pos} (hc : X.calm = true) (tk : Takes X W) (he : PMk X e t) : PS X (.Raise (some e) none pos) (tRs W t) := ps_raise hc tk he
section
variable {σ : L2.St} {H : Hp} {D : Ends} {W : WX} {t : L2.St → Hp → XK → Prop} {QX : XK} {ta tb : TE} {C : Addr} {f f2 : Str}
theorem w_rs (k : t σ H fun cls d H' => W cls d σ H') : tRs W t D σ H := k
theorem w_mk1 (k : ta σ H fun x H1 => ∃ v, [x] = [v] ∧ ∀ d, H1 d = none → QX (.ref C) (some d) (upd H1 d (.xd [(f, v)]))) : tMk1 C f (tCons ta tNil) σ H QX := k
theorem w_mk2 (k : ta σ H fun x H1 => tb σ H1 fun y H2 => ∃ v v2, [x, y] = [v, v2] ∧ ∀ d, H2 d = none → QX (.ref C) (some d) (upd H2 d (.xd [(f, v), (f2, v2)]))) : tMk2 C f f2 (tCons ta (tCons tb tNil)) σ H QX := k
theorem w_one {x : V} {P : V → Prop} (k : P x) : ∃ v, [x] = [v] ∧ P v := ⟨x, rfl, k⟩
theorem w_two {x y : V} {P : V → V → Prop} (k : P x y) : ∃ v v2, [x, y] = [v, v2] ∧ P v v2 := ⟨x, y, rfl, k⟩
end
theorem it_pos {c A B : Prop} [Decidable c] (hc : c) (h : A) : if decide c = true then A else B := by
  rw [decide_eq_true hc]
  exact iteT h
theorem it_neg {c A B : Prop} [Decidable c] (hc : ¬ c) (h : B) : if decide c = true then A else B := by
  rw [decide_eq_false hc]
  exact iteF h
theorem it_dec {c A B : Prop} [Decidable c] (h1 : c → A) (h2 : ¬ c → B) : if decide c = true then A else B := by
  by_cases h : c
  · exact it_pos h (h1 h)
  · exact it_neg h (h2 h)
theorem it_npos {c A B : Prop} [Decidable c] (hc : c) (h : B) : if (!decide c) = true then A else B := by
  rw [decide_eq_true hc]
  exact iteF h
theorem it_nneg {c A B : Prop} [Decidable c] (hc : ¬ c) (h : A) : if (!decide c) = true then A else B := by
  rw [decide_eq_false hc]
  exact iteT h
theorem it_ndec {c A B : Prop} [Decidable c] (h1 : c → B) (h2 : ¬ c → A) : if (!decide c) = true then A else B := by
  by_cases h : c
  · exact it_npos h (h1 h)
  · exact it_nneg h (h2 h)
theorem iteNT {A B : Prop} (h : B) : if (!true) = true then A else B := iteF h
theorem iteNF {A B : Prop} (h : A) : if (!false) = true then A else B := iteT h
theorem it_b {b : Bool} {A B : Prop} (h1 : b = true → A) (h2 : b = false → B) : if b = true then A else B := by
  cases b
  · exact iteF (h2 rfl)
  · exact iteT (h1 rfl)
/-- heaps -/
theorem upd_old {H : Hp} {a p : Addr} {o u : HO} (h : H a = some o) (n : H p = none) : upd H p u a = some o := by
  rw [upd_ne (ne_of_none h n)]
  exact h
theorem Same.upd {H H' : Hp} {p : Addr} {o : HO} (s : Same H H') (n : H p = none) : Same H (upd H' p o) := fun b u e => by
  rw [upd_ne (ne_of_none e n)]
  exact s b u e
theorem Same.new {H : Hp} {p : Addr} {o : HO} (n : H p = none) : Same H (L2.upd H p o) := fun b u e => upd_old e n
theorem Same.fld {H H' : Hp} (s : Same H H') {p : Addr} (n : H' p = none) : H p = none := s.free n
/-- promises of defs of one to four parameters -/
def sp1 (f : V → Hp → VK → XK → Prop) : Sp := fun vs H Q E => ∃ x, vs = [x] ∧ f x H Q E
def sp2 (f : V → V → Hp → VK → XK → Prop) : Sp := fun vs H Q E => ∃ x y, vs = [x, y] ∧ f x y H Q E
def sp3 (f : V → V → V → Hp → VK → XK → Prop) : Sp := fun vs H Q E => ∃ x y z, vs = [x, y, z] ∧ f x y z H Q E
def sp4 (f : V → V → V → V → Hp → VK → XK → Prop) : Sp := fun vs H Q E => ∃ x y z w, vs = [x, y, z, w] ∧ f x y z w H Q E
theorem sp1_len {f} {vs H Q E} (h : sp1 f vs H Q E) : vs.length = 1 := by obtain ⟨_, rfl, _⟩ := h; rfl
theorem sp2_len {f} {vs H Q E} (h : sp2 f vs H Q E) : vs.length = 2 := by obtain ⟨_, _, rfl, _⟩ := h; rfl
theorem sp3_len {f} {vs H Q E} (h : sp3 f vs H Q E) : vs.length = 3 := by obtain ⟨_, _, _, rfl, _⟩ := h; rfl
theorem sp4_len {f} {vs H Q E} (h : sp4 f vs H Q E) : vs.length = 4 := by obtain ⟨_, _, _, _, rfl, _⟩ := h; rfl
end FG
namespace FG
open PySem PySem.Spec L2
/-- what a class must say so that isinstance asks its instances -/
structure InsC (K : PySem.W.Frag) (C : Addr) : Prop where
  ha : PySem.W.findIn K (.ref C) "__class__" = some (some (.builtin "object.__class__"))
  hn : PySem.W.specialIn K (.builtin "object.__class__") "__get__" = some (some (.builtin "getset_descriptor.__get__"))
  htk : PySem.W.takesIn K (.builtin "object.__class__") = some true
  hm : PySem.W.mroIn K C (.type "object") = some true
theorem ty_ins {K : PySem.W.Frag} {H : Hp} {a C dx : Addr} {fs : List (Str × V)} (e : H a = some (.ins C dx fs)) (c : Cls K C) (I : InsC K C) : TyX K H (.ref a) (.ref C) := .base (.ins e c I.ha I.hn I.htk I.hm)
theorem kit_self {K : PySem.W.Frag} {C : Addr} : PySem.W.kitOne K (.ref C) (.ref C) = some true := by
  unfold PySem.W.kitOne
  rw [if_pos (by simp)]
/-- the arguments of a def with defaults -/
theorem bindsD {K : PySem.W.Frag} {x qual : Str} {params : Arguments} {body : List Stmt} {scope : Scope} {tp f : Addr} {oc kV doc pm cd ct tc : Value} {an od td : Option Addr} {osl ts : Array (Option Value)} {its ds : List Value} {tn : Nat} {ps : List Str}
    (_l : K.lookup f = some ⟨oc, od, .func (PySem.W.fnOf x qual params body scope (.ref tp) kV doc pm an cd ct), osl⟩) (t : K.lookup tp = some ⟨tc, td, .seq its.toArray tn, ts⟩)
    (h : ∀ us : List Value, us.length + ds.length = ps.length → ∃ k, bindArgs (PySem.W.fnOf x qual params body scope (.ref tp) kV doc pm an cd ct) ⟨us, []⟩ = seqItems? (.ref tp) >>= k ∧ k (some its.toArray) = pure (ps.zip (us ++ ds))) :
    Binds K (PySem.W.fnOf x qual params body scope (.ref tp) kV doc pm an cd ct) ps ds := by
  intro s us X hl
  rw [List.length_append] at hl
  obtain ⟨k, e1, e2⟩ := h us hl
  refine BindsTo.of_looks fun M => ?_
  rw [e1]
  exact looks_items X t rfl (.of_pure e2)
/-- an item at a drawn place -/
theorem atI_mem {α : Type} {xs : List α} {r : Int} (h0 : 0 ≤ r) (h1 : r < xs.length) : ∃ v, atI xs r = some v ∧ v ∈ xs := by
  obtain ⟨j, rfl⟩ := Int.eq_ofNat_of_zero_le h0
  have hj : j < xs.length := Int.ofNat_lt.mp h1
  exact ⟨xs[j], atI_nat (List.getElem?_eq_getElem hj), List.getElem_mem hj⟩
theorem keep_of {H H' : Hp} {b c : Addr} {o : HO} (fr : ∀ c, c ≠ b → H' c = H c) (h : H c = some o) (n : c ≠ b) : H' c = some o := (fr c n).trans h
theorem small_mul {i j : Int} (hi : i.natAbs < 2 ^ 1000) (hj : j.natAbs < 2 ^ 1000) : CMulW i j := wide_mul hi hj (by decide) (by decide) (by decide)
theorem small_le {i : Int} {n : Nat} (h : i.natAbs < 2 ^ n) (hn : n ≤ 8000) : i.natAbs < 2 ^ 8000 := Nat.lt_of_lt_of_le h (Nat.pow_le_pow_right (by decide) hn)
theorem mul_small {i j : Int} (hi : i.natAbs < 2 ^ 1000) (hj : j.natAbs < 2 ^ 1000) : (i * j).natAbs < 2 ^ 8000 := small_le (wide_lt hi hj) (by decide)
end FG
namespace FG
open PySem PySem.W PySem.Calls
/-! operators of an own class: a + b, a + n, n + a, -a, abs(a) -/
section
variable {prog : Program} {w : World} {M : Model} {A : Around} {E : Value → Shared → Prop} {hp : Heap} {g : Array GenState} {d : Drawn} {tk : Nat} {os : OsState} {x C dx : Addr} {i : Int} {t : Tok} {P : PySem.Fin → Shared → Prop}
theorem decl_add (hx : hp.get? x = some (instObj C dx)) (hq : P (.done (.ret .notImplemented)) ⟨hp, g, d, tk, os⟩) : wpAny M A (Builtin.«int.__add__» ⟨[.int i t, .ref x], []⟩) P E ⟨hp, g, d, tk, os⟩ := by
  wp_walk
  exact hq
theorem decl_sub (hx : hp.get? x = some (instObj C dx)) (hq : P (.done (.ret .notImplemented)) ⟨hp, g, d, tk, os⟩) : wpAny M A (Builtin.«int.__sub__» ⟨[.int i t, .ref x], []⟩) P E ⟨hp, g, d, tk, os⟩ := by
  wp_walk
  exact hq
theorem decl_mul (hx : hp.get? x = some (instObj C dx)) (hq : P (.done (.ret .notImplemented)) ⟨hp, g, d, tk, os⟩) : wpAny M A (Builtin.«int.__mul__» ⟨[.int i t, .ref x], []⟩) P E ⟨hp, g, d, tk, os⟩ := by
  wp_walk
  exact hq
end
/-- what the written part says of a class's operator nm: the method at f, the turned one at r -/
structure OpC (K : Frag) (C : Addr) (nm : String) (f r : Addr) : Prop where
  hc : selfFirst K C = true
  hs : findIn K (.ref C) (PySem.dunder nm) = some (some (.ref f))
  hf : isFn K (.ref f) = true
  hr : findIn K (.ref C) (dunderR nm) = some (some (.ref r))
  hrf : isFn K (.ref r) = true
  h1 : ∃ fo, findIn K (.type "int") (PySem.dunder nm) = some fo
  h2 : ∃ ro, findIn K (.type "int") (dunderR nm) = some ro
  hsub : subIn K (.type "int") (.ref C) = some false
  hsubR : subIn K (.ref C) (.type "int") = some false
section
variable {prog : Program} {w : World} {A : Around} {E : Value → Shared → Prop} {K : Frag} {x C f r : Addr} {ox : Obj} {od : Option Obj} {i : Int} {t : Tok}
/-- n op a: the int declines, the turned method answers -/
theorem bin_intL {s : Shared} {op : Operator} {Q : Value → Shared → Prop} (X : K.In s.heap) (I : InstAt s.heap x ox C od) (O : OpC K C op.info.2 f r) (fi : fillsNumberSlot (.type "int") op.info.2 = pure true)
    (left : ∀ {Q' : Option Value → Shared → Prop}, Q' none s → wpAny (model prog w) A (tryMethod (.int i t) (PySem.dunder op.info.2) (.ref x)) Q' E s)
    (h : wpAny (model prog w) A (call (.ref r) [.ref x, .int i t]) (CmpBack Q) E s) : wpAny (model prog w) A (binaryOp op (.int i t) (.ref x)) Q E s := by
  obtain ⟨cd, rest, hcd, hm⟩ := ksp_first O.hc
  have hs := O.hs
  have hrr := O.hr
  rcases hi : op.info with ⟨sym, nm'⟩
  rw [hi] at hs hrr fi left
  dsimp only at hs hrr fi left
  have one := ksp_try X I hrr O.hrf h
  obtain ⟨hh, g, d, tt, os⟩ := s
  have L1 : Looks (model prog w) hh (typeOf (.int i t)) (.type "int") := Looks.of_pure rfl
  have L2 : Looks (model prog w) hh (typeOf (.ref x)) (.ref C) := I.type
  have L3 : Looks (model prog w) hh (fillsNumberSlot (.type "int") nm') true := Looks.of_pure fi
  have L4 : Looks (model prog w) hh (fillsNumberSlot (.ref C) nm') true := fills_K X hcd hm hs
  have L5 : Looks (model prog w) hh (isSubtype (.ref C) (.type "int")) false := looks_subIn X O.hsubR
  have L6 : Looks (model prog w) hh (numberSlotInPython (.type "int") nm') false := Looks.of_pure rfl
  have hne : (Value.type "int" == Value.ref C) = false := Bool.eq_false_iff.mpr fun q => by cases beq_iff_eq.mp q
  simp only [binaryOp, hi]
  refine wpAny_holding (wpAny_bind ?_)
  unfold binaryOp1
  refine wpAny_bind (L1.at (wpAny_bind (L2.at (wpAny_bind (L3.at ?_)))))
  simp only [hne, Bool.false_eq_true, if_false]
  refine wpAny_bind (L4.at ?_)
  simp only [Bool.and_self, if_true]
  refine wpAny_bind (L5.at ?_)
  simp only [Bool.false_eq_true, if_false, Bool.not_false, Bool.and_self, if_true]
  refine wpAny_bind (L6.at ?_)
  simp only [Bool.false_eq_true, if_false, if_true]
  refine wpAny_bind (left ?_)
  simp only [Bool.false_eq_true, if_false, if_true, Bool.and_self, Bool.not_false]
  refine wpAny_bind (wpAny_mono one (fun rv s' hr' => ?_) fun _ _ e => e)
  obtain ⟨v, rfl, hq⟩ := hr'
  exact wpAny_bind (wpAny_rule (wpAny_pure (wpAny_pure hq)))
end
end FG
namespace FG
open PySem PySem.Spec L2
theorem back_of {X : Cx} {pins : List (Addr × Obj)} {σ : L2.St} {Q : VK} {v : Value} {s : Shared} (h : EP X pins σ Q v s) : PySem.W.CmpBack (EP X pins σ Q) v s := by
  obtain ⟨y, H, I, r, q⟩ := id h
  cases v with
  | notImplemented =>
    exfalso
    cases y <;> first | exact nomatch (show Value.notImplemented = _ from r) | (obtain ⟨_, z⟩ := (show ∃ t, Value.notImplemented = _ from r); exact nomatch z)
  | _ => exact h
section
variable {X : Cx} {k : Nat} {C f r : Addr} {fd : FuncData} {ps : List Str} {sp : Sp} {op : Operator}
/-- a op y, a of the class C, y of the same class or an int -/
def rOwnB (C : Addr) (sp : Sp) : R2 := fun x y H Q => ∃ a dx fs, x = .ref a ∧ H a = some (.ins C dx fs) ∧ ((∃ i, y = .int i) ∨ ∃ b dy gs, y = .ref b ∧ H b = some (.ins C dy gs)) ∧ sp [.ref a, y] H Q E0
theorem op_ownB (O : OpC X.K C op.info.2 f r) (F : FnOk X.prog X.w X.K X.mg X.base CX0 k f fd ps sp) (hr : Room k X.A) (hb : Binds X.K fd ps []) : OpR X (binaryOp op) (rOwnB C sp) := by
  intro pins s σ H x y v u Q I rx ry h
  obtain ⟨a, dx, fs, rfl, ea, hy, q⟩ := h
  cases (show v = Value.ref a from rx)
  obtain ⟨mA, Ob, _⟩ := ins_get I.hok ea
  obtain ⟨od, J, _⟩ := Ob.look
  obtain ⟨m, fr⟩ := I.fr
  have go := wpAny_mono (run_fn (us := [.ref a, u]) (vs := [.ref a, y]) F hr hb .nil pass0 I (.cons rfl (.cons ry .nil)) q) (fun _ _ z => back_of z) fun _ _ z => z
  rcases hy with ⟨i, rfl⟩ | ⟨b, dy, gs, rfl, eb⟩
  · obtain ⟨t, rfl⟩ := ry
    obtain ⟨fo, h1⟩ := O.h1
    obtain ⟨ro, h2⟩ := O.h2
    exact PySem.W.ksp_binT fr I.ok.mod.kin J rfl O.hc O.hs O.hf O.hr (.inr ⟨_, rfl⟩) h1 h2 O.hsub go
  · cases (show u = Value.ref b from ry)
    obtain ⟨mB, Ob', _⟩ := ins_get I.hok eb
    obtain ⟨od', J', _⟩ := Ob'.look
    exact PySem.W.binop_K fr I.ok.mod.kin J J'.type O.hc O.hs O.hf go
/-- n op a -/
def rOwnR (C : Addr) (sp : Sp) : R2 := fun x y H Q => ∃ a dx fs i, x = .int i ∧ y = .ref a ∧ H a = some (.ins C dx fs) ∧ sp [.ref a, .int i] H Q E0
theorem op_ownR (O : OpC X.K C op.info.2 f r) (F : FnOk X.prog X.w X.K X.mg X.base CX0 k r fd ps sp) (hr : Room k X.A) (hb : Binds X.K fd ps []) (fi : fillsNumberSlot (.type "int") op.info.2 = pure true)
    (left : ∀ {x dx : Addr} {i : Int} {t : Tok} {s : Shared} {E : Value → Shared → Prop} {Q' : Option Value → Shared → Prop}, s.heap.get? x = some (PySem.W.instObj C dx) → Q' none s → wpAny (model X.prog X.w) X.A (tryMethod (.int i t) (PySem.dunder op.info.2) (.ref x)) Q' E s) :
    OpR X (binaryOp op) (rOwnR C sp) := by
  intro pins s σ H x y v u Q I rx ry h
  obtain ⟨a, dx, fs, i, rfl, rfl, ea, q⟩ := h
  cases (show u = Value.ref a from ry)
  obtain ⟨t, rfl⟩ := rx
  obtain ⟨_, _, _, eo, _⟩ := (show ObjOk X.prog X.w H s.heap a (.ins C dx fs) from I.hok a _ ea)
  obtain ⟨mA, Ob, _⟩ := ins_get I.hok ea
  obtain ⟨od, J, _⟩ := Ob.look
  have go := wpAny_mono (run_fn (us := [.ref a, .int i t]) (vs := [.ref a, .int i]) F hr hb .nil pass0 I (.cons rfl (.cons ⟨t, rfl⟩ .nil)) q) (fun _ _ z => back_of z) fun _ _ z => z
  exact bin_intL I.kIn J O fi (fun {Q'} z => left eo z) go
theorem left_add {x dx : Addr} {i : Int} {t : Tok} {s : Shared} {E : Value → Shared → Prop} {Q' : Option Value → Shared → Prop} (hx : s.heap.get? x = some (PySem.W.instObj C dx)) (hq : Q' none s) : wpAny (model X.prog X.w) X.A (tryMethod (.int i t) (PySem.dunder "add") (.ref x)) Q' E s := by
  obtain ⟨hp, g, d, tk, os⟩ := s
  have hT : Shared.TypeIs ⟨hp, g, d, tk, os⟩ (.int i t) "int" := typeIs_int _ i t
  refine @wpAny_tryMethod_declines _ _ _ ⟨hp, g, d, tk, os⟩ (.int i t) (.ref x) "int" (PySem.dunder "add") "int.__add__" _ hT F.slot_int_add ?_
  refine @wpAny_call_entry _ _ _ _ ⟨hp, g, d, tk, os⟩ "int" (PySem.dunder "add") "int.__add__" _ (.int i t) [.ref x] _ F.slot_int_add hT F.entry_int_add ?_ (F.args_int_add_2 _ _)
  exact decl_add hx ⟨_, rfl, rfl, hq⟩
theorem left_sub {x dx : Addr} {i : Int} {t : Tok} {s : Shared} {E : Value → Shared → Prop} {Q' : Option Value → Shared → Prop} (hx : s.heap.get? x = some (PySem.W.instObj C dx)) (hq : Q' none s) : wpAny (model X.prog X.w) X.A (tryMethod (.int i t) (PySem.dunder "sub") (.ref x)) Q' E s := by
  obtain ⟨hp, g, d, tk, os⟩ := s
  have hT : Shared.TypeIs ⟨hp, g, d, tk, os⟩ (.int i t) "int" := typeIs_int _ i t
  refine @wpAny_tryMethod_declines _ _ _ ⟨hp, g, d, tk, os⟩ (.int i t) (.ref x) "int" (PySem.dunder "sub") "int.__sub__" _ hT F.slot_int_sub ?_
  refine @wpAny_call_entry _ _ _ _ ⟨hp, g, d, tk, os⟩ "int" (PySem.dunder "sub") "int.__sub__" _ (.int i t) [.ref x] _ F.slot_int_sub hT F.entry_int_sub ?_ (F.args_int_sub_2 _ _)
  exact decl_sub hx ⟨_, rfl, rfl, hq⟩
theorem left_mul {x dx : Addr} {i : Int} {t : Tok} {s : Shared} {E : Value → Shared → Prop} {Q' : Option Value → Shared → Prop} (hx : s.heap.get? x = some (PySem.W.instObj C dx)) (hq : Q' none s) : wpAny (model X.prog X.w) X.A (tryMethod (.int i t) (PySem.dunder "mul") (.ref x)) Q' E s := by
  obtain ⟨hp, g, d, tk, os⟩ := s
  have hT : Shared.TypeIs ⟨hp, g, d, tk, os⟩ (.int i t) "int" := typeIs_int _ i t
  refine @wpAny_tryMethod_declines _ _ _ ⟨hp, g, d, tk, os⟩ (.int i t) (.ref x) "int" (PySem.dunder "mul") "int.__mul__" _ hT F.slot_int_mul ?_
  refine @wpAny_call_entry _ _ _ _ ⟨hp, g, d, tk, os⟩ "int" (PySem.dunder "mul") "int.__mul__" _ (.int i t) [.ref x] _ F.slot_int_mul hT F.entry_int_mul ?_ (F.args_int_mul_2 _ _)
  exact decl_mul hx ⟨_, rfl, rfl, hq⟩
/-- -a -/
def rOwnU (C : Addr) (sp : Sp) : V → Hp → VK → Prop := fun x H Q => ∃ a dx fs, x = .ref a ∧ H a = some (.ins C dx fs) ∧ sp [.ref a] H Q E0
theorem un_ownN (hs : PySem.W.findIn X.K (.ref C) "__neg__" = some (some (.ref f))) (hf : PySem.W.isFn X.K (.ref f) = true) (F : FnOk X.prog X.w X.K X.mg X.base CX0 k f fd ps sp) (hr : Room k X.A) (hb : Binds X.K fd ps []) : UnR X (unaryOp .USub) (rOwnU C sp) := by
  intro pins s σ H x v Q I rx h
  obtain ⟨a, dx, fs, rfl, ea, q⟩ := h
  cases (show v = Value.ref a from rx)
  obtain ⟨mA, Ob, _⟩ := ins_get I.hok ea
  obtain ⟨od, J, _⟩ := Ob.look
  obtain ⟨m, fr⟩ := I.fr
  exact PySem.W.ksp_neg fr I.ok.mod.kin J hs hf (run_fn (us := [.ref a]) (vs := [.ref a]) F hr hb .nil pass0 I (.cons rfl .nil) q)
/-- abs(a) -/
def rOwnA (C : Addr) (sp : Sp) : List V → Hp → VK → Prop := fun xs H Q => ∃ a dx fs, xs = [.ref a] ∧ H a = some (.ins C dx fs) ∧ sp [.ref a] H Q E0
theorem call_absO (hs : PySem.W.findIn X.K (.ref C) "__abs__" = some (some (.ref f))) (hf : PySem.W.isFn X.K (.ref f) = true) (F : FnOk X.prog X.w X.K X.mg X.base CX0 k f fd ps sp) (hr : Room (k + 1) X.A) (hb : Binds X.K fd ps []) : CallR X (.builtin "abs") (rOwnA C sp) := by
  intro pins s σ H xs us Q I r h
  obtain ⟨a, dx, fs, rfl, ea, q⟩ := h
  obtain ⟨u, rfl, r1⟩ := vals1 r
  cases (show u = Value.ref a from r1)
  obtain ⟨mA, Ob, _⟩ := ins_get I.hok ea
  obtain ⟨od, J, _⟩ := Ob.look
  refine Calls.call_function_entry PyProof.Rows.kind_abs PyProof.Rows.plain_abs PyProof.Rows.entry_abs (PyProof.Rows.args_abs _) ?_
  unfold Builtin.«abs»
  refine wpAny_bind (m := oneArg "abs" _) (wpAny_pure ?_)
  have hl : ([Value.ref a] ++ ([] : List Value)).length = ps.length := by
    rw [← F.len _ _ _ _ q]
    rfl
  have go := F.run X.A.in1 X.stack s H ⟨[.ref a], []⟩ [.ref a] [.ref a] Q E0 hr.in1 I.env0.in1 (hb _ [.ref a] I.kIn hl) (.cons rfl .nil) q
  refine wpAny_bind (PySem.W.special_fn I.kIn J hs (beq_iff_eq.mp hf) (wpAny_call (codeAny_mono go fun res s' z => ?_)))
  match res, z with
  | .error er, z => exact z.elim
  | .ok (.ret u), z => exact wpAny_pure ⟨_, rfl, I.after z⟩
  | .ok .next, z => exact False.elim z
  | .ok .brk, z => exact False.elim z
  | .ok .cont, z => exact False.elim z
end
end FG
namespace FG
open PySem PySem.Spec L2
/-! == of an own class, with both answers; the right side is of the class or an int -/
section
variable {X : Cx} {k : Nat} {C f : Addr} {fd : FuncData} {ps : List Str} {sp : Sp}
theorem op_ownE (hn : PySem.W.notFirst X.K C (.type "int") = true) (hs : PySem.W.findIn X.K (.ref C) "__eq__" = some (some (.ref f))) (hf : PySem.W.isFn X.K (.ref f) = true)
    (F : FnOk X.prog X.w X.K X.mg X.base CX0 k f fd ps sp) (hr : Room k X.A) (hb : Binds X.K fd ps []) : OpR X (compareOp .Eq) (rOwnB C sp) := by
  intro pins s σ H x y v u Q I rx ry h
  obtain ⟨a, dx, fs, rfl, ea, hy, q⟩ := h
  cases (show v = Value.ref a from rx)
  obtain ⟨mA, Ob, _⟩ := ins_get I.hok ea
  obtain ⟨od, J, _⟩ := Ob.look
  obtain ⟨m, fr⟩ := I.fr
  have go := wpAny_mono (run_fn (us := [.ref a, u]) (vs := [.ref a, y]) F hr hb .nil pass0 I (.cons rfl (.cons ry .nil)) q) (fun _ _ z => back_of z) fun _ _ z => z
  show wpAny (model X.prog X.w) X.A (richCompare .Eq (.ref a) u) (EP X pins σ Q) X.xe s
  rcases hy with ⟨i, rfl⟩ | ⟨b, dy, gs, rfl, eb⟩
  · obtain ⟨t, rfl⟩ := ry
    exact PySem.W.cmp_K (op := .Eq) (tb := .type "int") hr.units0 fr I.ok.mod.kin J (PySem.W.Looks.of_pure rfl) hn hs hf go
  · cases (show u = Value.ref b from ry)
    obtain ⟨mB, Ob', _⟩ := ins_get I.hok eb
    obtain ⟨od', J', _⟩ := Ob'.look
    exact PySem.W.cmp_K (op := .Eq) (tb := .ref C) hr.units0 fr I.ok.mod.kin J J'.type (by simp [PySem.W.notFirst]) hs hf go
end
end FG
namespace FG
open PySem PySem.Spec L2
/-! ## sorting: what is tracked, told as data; lists by their one sorted order -/
/-! ### the body (len(g), g) of a key, told exactly -/
section
variable {prog : Program} {w : World} {A : Around} {env : Env} {E : Value → Shared → Prop} {s : Shared}
theorem eval_rank {g z : Str} {t : Tok} {mL mG mB : Str → Option Value} {p1 p2 p3 p4 p5 : Pos} {x1} {Q : Value → Shared → Prop} (hk : env.scope.kind = .function) (hg : env.kindOf g = some .local) (hl : env.kindOf "len" = some .globalImplicit)
    (nL : s.heap.Ns env.locals mL) (eL : mL g = some (.str z t)) (nG : s.heap.Ns env.globals mG) (miss : mG "len" = none) (nB : s.heap.Ns env.builtins mB) (hb : mB "len" = some (.builtin "len")) (hz : z.length ≤ sizeLine) (hd : (g == ("__debug__" : Str)) = false)
    (q : ∀ (t' : Tok) (tk : Nat), Q (.ref s.heap.objs.size) { s with heap := s.heap.push { cls := .type "tuple", data := .seq #[.int z.length t', .str z t] }, toks := tk })
    (hs : starEach [Expr.Call (.Name "len" p1) [.Name g p2] [] p3, .Name g p4] env = [(false, eval (.Call (.Name "len" p1) [.Name g p2] [] p3) env), (false, eval (.Name g p4) env)] := by rfl) :
    wpAny (model prog w) A (eval (.Tuple [.Call (.Name "len" p1) [.Name g p2] [] p3, .Name g p4] x1 p5) env) Q E s := by
  have hn := line63
  refine wpAny_Tuple_spliced ?_
  rw [hs]
  refine Calls.spliced_cons ?_
  refine wpAny_Call_Name_kw (Calls.Name_function_global hk hl (Calls.loadGlobal_builtin nG miss nB hb ?_))
  refine PyProof.Rows.callWith_builtin1 (Calls.spliced_cons (wpAny_Name (wpAny_loadName_local hk hg nL eL ?_) hd))
  refine Calls.spliced_nil ?_
  refine PyProof.Rows.len_str (by omega) ?_
  refine Calls.spliced_cons (wpAny_Name (wpAny_loadName_local hk hg nL eL ?_) hd)
  refine Calls.spliced_nil ⟨?_, q _ _⟩
  show 2 ≤ sizeLine
  decide
end
/-! ### sorted, over what is tracked -/
theorem vals_each {β : Type} {toV : β → V} : ∀ {xs : List β} {us : List Value}, Vals (xs.map toV) us → PySem.W.EachIs (fun v b => RelV (toV b) v) us xs
  | [], _, .nil => .nil
  | _ :: _, _, .cons r t => .cons r (vals_each t)
theorem each_vals {β : Type} {toV : β → V} : ∀ {xs : List β} {us : List Value}, PySem.W.EachIs (fun v b => RelV (toV b) v) us xs → Vals (xs.map toV) us
  | _, _, .nil => .nil
  | _, _, .cons r t => .cons r (each_vals t)
section
variable {X : Cx} {pins : List (Addr × Obj)} {σ : L2.St} {H : Hp} {s : Shared}
theorem each_reads {β : Type} {toV : β → V} {enc : β → PyData} (I : Inv X pins σ H s) : ∀ {xs : List β} {us : List Value}, PySem.W.EachIs (fun v b => RelV (toV b) v) us xs → (∀ b ∈ xs, Dp X.K H (toV b) (enc b)) → PySem.W.EachIs (fun v b => ∃ as, Reads s.heap v (enc b) as) us xs
  | _, _, .nil, _ => .nil
  | _, _, .cons r t, h => .cons (Dp.reads I _ _ _ (h _ List.mem_cons_self) r) (each_reads I t fun b hb => h b (List.mem_cons_of_mem _ hb))
/-- sorted(xs): the items stand for xs, told by enc -/
theorem sort_run {β : Type} {toV : β → V} {enc : β → PyData} {a : Addr} {xs : List β} {Q : VK} (I : Inv X pins σ H s) (hs : SqL X.K H a (xs.map toV)) (hd : ∀ b ∈ xs, Dp X.K H (toV b) (enc b)) (al : PySem.W.AllAlike (xs.map enc)) (so : PySem.W.Sortable (xs.map enc))
    (dp : ∀ b ∈ xs, (enc b).depth ≤ 32) (hu : X.A.units + 64 < cLine) (q : ∀ p, H p = none → Q (.ref p) (upd H p (.lst ((xs.mergeSort (PySem.W.dataLe false enc)).map toV)))) :
    wpAny (model X.prog X.w) X.A (call (.builtin "sorted") [.ref a]) (EP X pins σ Q) X.xe s := by
  obtain ⟨its, rv, hl, hz⟩ := I.list hs
  have e := vals_each rv
  rw [List.length_map] at hz
  refine PySem.W.sorted_data hl.isList e (each_reads I e hd) al so hz (fun b hb => by have := dp b hb; omega) fun out hlen eo => ?_
  obtain ⟨ep, he⟩ := PyProof.Rows.sortedAll_at s.heap its out.toArray
  have hf : H (s.heap.objs.size + 1) = none := I.hok.fresh (Nat.le_succ _)
  refine ⟨.ref (s.heap.objs.size + 1), upd H (s.heap.objs.size + 1) (.lst ((xs.mergeSort (PySem.W.dataLe false enc)).map toV)), I.laid (t' := s.toks) (fun _ _ => PyProof.Rows.sortedAll_old) (Nat.le_succ _) ⟨?_, out, ep, each_vals eo, he⟩, rfl, q _ hf⟩
  rw [List.length_map, List.length_mergeSort]
  exact hz
end
/-- pairs of texts by their order -/
def pairLe (x y : Str × Str) : Bool := decide (x.1.cps.toList < y.1.cps.toList ∨ (x.1 = y.1 ∧ x.2.cps.toList ≤ y.2.cps.toList))
def strLe (x y : Str) : Bool := decide (x.cps.toList ≤ y.cps.toList)
/-- glyphs by their length, then by their name -/
def rankLe (x y : Str) : Bool := decide (x.length < y.length ∨ (x.length = y.length ∧ x.cps.toList ≤ y.cps.toList))
theorem str_ext {x y : Str} (h : x.cps.toList = y.cps.toList) : x = y := by
  cases x; cases y
  simp only [Str.mk.injEq]
  exact Array.ext' h
theorem le_or_lt (x y : List Nat) : x ≤ y ∨ y < x := by
  by_cases h : x ≤ y
  · exact .inl h
  · exact .inr (List.not_le.mp h)
theorem lt_or_eq {x y : List Nat} (h : x ≤ y) : x < y ∨ x = y := by
  by_cases c : y ≤ x
  · exact .inr (List.le_antisymm h c)
  · exact .inl (List.not_le.mp c)
theorem dataLt_ss (x y x' y' : Str) : PySem.W.dataLt (.tuple [.str x, .str y]) (.tuple [.str x', .str y']) = !pairLe (x', y') (x, y) := by
  rw [PySem.W.dataLt_pair (by simp [PySem.W.alike]) (by simp [PySem.W.alike]), PySem.W.dataLt_str, PySem.W.dataLt_str]
  simp only [PyData.eqv, beq_iff_eq, pairLe]
  by_cases h1 : x = x'
  · subst h1
    by_cases h2 : y = y'
    · subst h2
      simp [List.lt_irrefl, List.le_refl]
    · simp only [if_true, h2, if_false, List.lt_irrefl, false_or, true_and]
      by_cases h3 : y.cps.toList < y'.cps.toList
      · simp [h3, List.not_le.mpr h3]
      · have h4 : y'.cps.toList ≤ y.cps.toList := List.not_lt.mp h3
        simp [h3, h4]
  · have n : ¬ x' = x := fun z => h1 z.symm
    simp only [h1, if_false, n, false_and, or_false]
    by_cases h3 : x.cps.toList < x'.cps.toList
    · have h4 : ¬ x'.cps.toList < x.cps.toList := fun z => List.lt_irrefl _ (List.lt_trans h3 z)
      simp [h3, h4]
    · have h4 : x'.cps.toList < x.cps.toList := (lt_or_eq (List.not_lt.mp h3)).resolve_right fun z => n (str_ext z)
      simp [h3, h4]
theorem dataLe_ss {β : Type} (f : β → Str × Str) : PySem.W.dataLe false (fun b => .tuple [.str (f b).1, .str (f b).2]) = fun a b => pairLe (f a) (f b) := by
  funext a b
  show (!PySem.W.dataLt _ _) = _
  rw [dataLt_ss, Bool.not_not]
theorem dataLt_is (x y : Nat) (x' y' : Str) : PySem.W.dataLt (.tuple [.int x, .str x']) (.tuple [.int y, .str y']) = !decide (y < x ∨ (y = x ∧ y'.cps.toList ≤ x'.cps.toList)) := by
  rw [PySem.W.dataLt_pair (by simp [PySem.W.alike]) (by simp [PySem.W.alike]), PySem.W.dataLt_int, PySem.W.dataLt_str]
  simp only [PyData.eqv, beq_iff_eq]
  by_cases h1 : x = y
  · subst h1
    by_cases h2 : x' = y'
    · subst h2
      simp [List.lt_irrefl, List.le_refl]
    · simp only [if_true, h2, if_false, Nat.lt_irrefl, false_or, true_and]
      by_cases h3 : x'.cps.toList < y'.cps.toList
      · simp [h3, List.not_le.mpr h3]
      · simp [h3, List.not_lt.mp h3]
  · have n : ¬ y = x := fun z => h1 z.symm
    have n2 : ¬ (x : Int) = y := by omega
    simp only [n2, if_false, n, false_and, or_false]
    by_cases h3 : x < y
    · have : ¬ y < x := by omega
      have h4 : (x : Int) < y := by omega
      simp [h4, this]
    · have : y < x := by omega
      have h4 : ¬ (x : Int) < y := by omega
      simp [h4, this]
theorem dataLe_rank {β : Type} (f : β → Str) : PySem.W.dataLe false (fun b => .tuple [.int ((f b).length : Nat), .str (f b)]) = fun a b => rankLe (f a) (f b) := by
  funext a b
  show (!PySem.W.dataLt _ _) = _
  rw [dataLt_is, Bool.not_not]
  rfl
/-- sorted(xs), xs a list of pairs of texts -/
def rSortSS (K : PySem.W.Frag) : List V → Hp → VK → Prop := fun vs H Q => ∃ (a : Addr) (zs : List (Addr × Str × Str)), vs = [.ref a] ∧ SqL K H a (zs.map fun z => V.ref z.1) ∧ (∀ z ∈ zs, SqT K H z.1 [.str z.2.1, .str z.2.2]) ∧
  ∀ p, H p = none → Q (.ref p) (upd H p (.lst ((zs.mergeSort fun x y => pairLe x.2 y.2).map fun z => V.ref z.1)))
/-- sorted(xs), xs a list of texts, of any length -/
def rSortStr (K : PySem.W.Frag) : List V → Hp → VK → Prop := fun vs H Q => ∃ (a : Addr) (zs : List Str), vs = [.ref a] ∧ SqL K H a (zs.map V.str) ∧
  ∀ p, H p = none → Q (.ref p) (upd H p (.lst ((zs.mergeSort strLe).map V.str)))
/-- sorted(xs), xs a list of pairs (len(g), g) -/
def rSortIS (K : PySem.W.Frag) : List V → Hp → VK → Prop := fun vs H Q => ∃ (a : Addr) (zs : List (Addr × Str)), vs = [.ref a] ∧ SqL K H a (zs.map fun z => V.ref z.1) ∧ (∀ z ∈ zs, SqT K H z.1 [.int (z.2.length : Nat), .str z.2]) ∧
  ∀ p, H p = none → Q (.ref p) (upd H p (.lst ((zs.mergeSort fun x y => rankLe x.2 y.2).map fun z => V.ref z.1)))
section
variable {X : Cx}
theorem cr_sortSS (hu : X.A.units + 64 < cLine) : CallR X (.builtin "sorted") (rSortSS X.K) := by
  intro pins s σ H vs us Q I r h
  obtain ⟨a, zs, rfl, hs, hx, q⟩ := h
  obtain rfl := Vals.ref1 r
  refine sort_run (toV := fun z : Addr × Str × Str => V.ref z.1) (enc := fun z => .tuple [.str z.2.1, .str z.2.2]) I hs (fun z hz => .tup (hx z hz) (.cons (.str _) (.cons (.str _) .nil))) (PySem.W.AllAlike.of fun _ _ => by simp [PySem.W.alike, PySem.W.alikeAll]) (PySem.W.Sortable.tuples fun _ => ⟨_, _, rfl⟩)
    (fun _ _ => by simp [PyData.depth, PyData.depthAll]) hu fun p hp => ?_
  rw [dataLe_ss fun z : Addr × Str × Str => z.2]
  exact q p hp
theorem cr_sortStr (hu : X.A.units + 64 < cLine) : CallR X (.builtin "sorted") (rSortStr X.K) := by
  intro pins s σ H vs us Q I r h
  obtain ⟨a, zs, rfl, hs, q⟩ := h
  obtain rfl := Vals.ref1 r
  refine sort_run (toV := V.str) (enc := fun z => .str z) I hs (fun z hz => .str _) (PySem.W.AllAlike.of fun _ _ => by simp [PySem.W.alike]) (PySem.W.Sortable.others fun _ => ⟨(fun z => by cases z), (fun _ z => by cases z)⟩)
    (fun _ _ => by simp [PyData.depth]) hu fun p hp => ?_
  rw [PySem.W.dataLe_str fun z : Str => z]
  exact q p hp
theorem cr_sortIS (hu : X.A.units + 64 < cLine) : CallR X (.builtin "sorted") (rSortIS X.K) := by
  intro pins s σ H vs us Q I r h
  obtain ⟨a, zs, rfl, hs, hx, q⟩ := h
  obtain rfl := Vals.ref1 r
  refine sort_run (toV := fun z : Addr × Str => V.ref z.1) (enc := fun z => .tuple [.int (z.2.length : Nat), .str z.2]) I hs (fun z hz => .tup (hx z hz) (.cons (.int _) (.cons (.str _) .nil))) (PySem.W.AllAlike.of fun _ _ => by simp [PySem.W.alike, PySem.W.alikeAll]) (PySem.W.Sortable.tuples fun _ => ⟨_, _, rfl⟩)
    (fun _ _ => by simp [PyData.depth, PyData.depthAll]) hu fun p hp => ?_
  rw [dataLe_rank fun z : Addr × Str => z.2]
  exact q p hp
end
/-! ### a key that gives (len(g), g): a lambda, or a def -/
/-- the names of such a key's scope -/
structure RankS (g : Str) (scope : Scope) : Prop where
  kind : scope.kind = .function
  co : scope.isCoroutine = false
  gen : scope.isGenerator = false
  cell : ∀ y ∈ scope.names, y.2 ≠ .cell
  free : ∀ y ∈ scope.names, y.2 ≠ .free
  own : scope.names.lookup g = some .local
  len : scope.names.lookup ("len" : Str) = some .globalImplicit
  dbg : (g == ("__debug__" : Str)) = false
section
variable {prog : Program} {w : World} {A : Around} {s : Shared}
theorem rank_reads {h : Heap} {z : Str} {t t' : Tok} : Reads (h.push { cls := .type "tuple", data := .seq #[.int z.length t', .str z t] }) (.ref h.objs.size) (.tuple [.int (z.length : Nat), .str z]) [] :=
  .tuple (as := []) (Heap.get?_push_size _ rfl) rfl rfl (.cons (as := []) (bs := []) (.int _ _) (.cons (as := []) (bs := []) (.str _ _) .nil))
theorem lam_key {f c' : Addr} {q g z : Str} {t : Tok} {params : Arguments} {scope : Scope} {cl : List (Str × Addr)} {pm ctv : Value} {mG mB : Str → Option Value} {p1 p2 p3 p4 p5 : Pos} {x1} (L : RankS g scope) (hroom : A.depth < recursionLimit)
    (hf : s.heap.get? f = some (PySem.W.kla_obj "<lambda>" q params (.Tuple [.Call (.Name "len" p1) [.Name g p2] [] p3, .Name g p4] x1 p5) scope cl pm c' ctv)) (hc : s.heap.CodeRec (.ref c') q) (lim : s.heap.NoLimit)
    (hb : ∀ v, bindArgs (PySem.W.kla_fn "<lambda>" q params (.Tuple [.Call (.Name "len" p1) [.Name g p2] [] p3, .Name g p4] x1 p5) scope cl pm (.ref c') ctv) ⟨[v], []⟩ = pure [(g, v)])
    (nG : s.heap.Ns mainGlobals mG) (miss : mG "len" = none) (nB : s.heap.Ns builtinsNs mB) (hB : mB "len" = some (.builtin "len")) (hz : z.length ≤ sizeLine) :
    wpAny (model prog w) A (call (.ref f) [.str z t]) (PySem.W.KeyPure (.tuple [.int (z.length : Nat), .str z]) s) (fun _ _ => False) s := by
  refine wpAny_call (PySem.W.kla_callFunE hroom hf rfl L.co L.gen rfl hc ?_)
  rw [hb]
  refine wpAny_pure (wpAny_newFunctionEnv L.cell (fun y hy => ?_) (fun h₁ hns hsb => ⟨lim.fresh _ hsb, ?_⟩) L.kind)
  · rw [List.mem_singleton] at hy
    rw [hy]
    exact L.own
  have kp : ∀ b o, s.heap.get? b = some o → h₁.get? b = some o := fun b o e => hsb.extBut b o (Nat.ne_of_lt (Heap.lt_size e)) (Heap.get?_push_of_some _ e)
  refine PySem.W.kla_codeExpr ?_
  refine eval_rank (g := g) (z := z) (t := t) L.kind L.own L.len hns (by simp [List.lookup]) (nG.keeps kp) miss (nB.keeps kp) hB hz L.dbg fun t' tk => ?_
  exact ⟨_, tk, rfl, fun b o e => Heap.get?_push_of_some _ (kp b o e), rank_reads⟩
theorem def_key {f : Addr} {name q g z : Str} {t : Tok} {params : Arguments} {scope : Scope} {dV kV doc pm cdv ct oc : Value} {an od : Option Addr} {osl : Array (Option Value)} {mG mB : Str → Option Value} {p1 p2 p3 p4 p5 p6 : Pos} {x1} (L : RankS g scope) (hroom : A.depth < recursionLimit)
    (hf : s.heap.get? f = some ⟨oc, od, .func (PySem.W.fnOf name q params [.Return (some (.Tuple [.Call (.Name "len" p1) [.Name g p2] [] p3, .Name g p4] x1 p5)) p6] scope dV kV doc pm an cdv ct), osl⟩) (hc : s.heap.CodeRec cdv q) (lim : s.heap.NoLimit)
    (hb : ∀ v, BindsTo s (PySem.W.fnOf name q params [.Return (some (.Tuple [.Call (.Name "len" p1) [.Name g p2] [] p3, .Name g p4] x1 p5)) p6] scope dV kV doc pm an cdv ct) ⟨[v], []⟩ [(g, v)])
    (nG : s.heap.Ns mainGlobals mG) (miss : mG "len" = none) (nB : s.heap.Ns builtinsNs mB) (hB : mB "len" = some (.builtin "len")) (hz : z.length ≤ sizeLine) :
    wpAny (model prog w) A (call (.ref f) [.str z t]) (PySem.W.KeyPure (.tuple [.int (z.length : Nat), .str z]) s) (fun _ _ => False) s := by
  refine wpAny_call (codeAny_call_def (binds := [(g, .str z t)]) hroom hf rfl lim hc rfl (hb _) L.cell (fun y hy => ?_) (fun h₁ hns kp => ?_) L.co L.gen L.kind)
  · rw [List.mem_singleton] at hy
    rw [hy]
    exact L.own
  refine wpAny_execs_cons (wpAny_Return_some ?_)
  refine eval_rank (g := g) (z := z) (t := t) L.kind L.own L.len hns (by simp [List.lookup]) (nG.keeps kp) miss (nB.keeps kp) hB hz L.dbg fun t' tk => ?_
  exact ⟨_, tk, rfl, fun b o e => Heap.get?_push_of_some _ (kp b o e), rank_reads⟩
end
/-! ### heaps, but for the tables of code objects -/
def NT : HO → Prop
  | .tbl _ => False
  | _ => True
/-- all but the tables stays -/
def Ex (H H' : Hp) : Prop := ∀ b o, H b = some o → NT o → H' b = some o
theorem Ex.refl (H : Hp) : Ex H H := fun _ _ h _ => h
theorem Ex.trans {H H1 H2 : Hp} (x : Ex H H1) (y : Ex H1 H2) : Ex H H2 := fun b o h n => y b o (x b o h n) n
theorem Same.ex {H H' : Hp} (s : Same H H') : Ex H H' := fun b o h _ => s b o h
theorem Ex.new {H : Hp} {p : Addr} {o : HO} (n : H p = none) : Ex H (upd H p o) := Same.ex (Same.new n)
theorem ext_ex {H H' : Hp} (e : LamX.ExtN H H') : Ex H H' := fun b o h n => e b o h fun ps z => by
  rw [z] at n
  exact n
theorem Ex.sqL {K : PySem.W.Frag} {H H' : Hp} {a : Addr} {xs : List V} (e : Ex H H') (h : SqL K H a xs) : SqL K H' a xs := by
  rcases h with (h | ⟨o, h⟩) | h
  · exact .inl (.inl (e _ _ h trivial))
  · exact .inl (.inr ⟨o, e _ _ h trivial⟩)
  · exact .inr h
theorem Ex.sqT {K : PySem.W.Frag} {H H' : Hp} {a : Addr} {xs : List V} (e : Ex H H') (h : SqT K H a xs) : SqT K H' a xs := by
  rcases h with (h | ⟨o, h⟩) | h
  · exact .inl (.inl (e _ _ h trivial))
  · exact .inl (.inr ⟨o, e _ _ h trivial⟩)
  · exact .inr h
/-- nothing but a table stands at p -/
def New (H : Hp) (p : Addr) : Prop := ∀ o, H p = some o → NT o → False
theorem New.of {H : Hp} {p : Addr} (h : H p = none) : New H p := fun o e _ => by
  rw [h] at e
  cases e
theorem New.ne {H : Hp} {p b : Addr} {o : HO} (n : New H p) (h : H b = some o) (t : NT o) : b ≠ p := fun z => n o (by rw [← z]; exact h) t
theorem New.back {H H' : Hp} {p : Addr} (n : New H' p) (e : Ex H H') : New H p := fun o h t => n o (e p o h t) t
/-! ### sorted(xs, key=f) -/
section
variable {X : Cx}
theorem rank_run {f : Addr} {pins : List (Addr × Obj)} {σ : L2.St} {H : Hp} {s : Shared} {a : Addr} {ss : List Str} {Q : VK} (I : Inv X pins σ H s) (hs : SqL X.K H a (ss.map V.str)) (hu : X.A.units + 64 < cLine)
    (turn : ∀ (z : Str) (t : Tok) (h : Heap) (tk : Nat), z ∈ ss → (∀ b o, s.heap.get? b = some o → h.get? b = some o) → wpAny (model X.prog X.w) X.A.in1.in1 (call (.ref f) [.str z t]) (PySem.W.KeyPure (.tuple [.int (z.length : Nat), .str z]) { s with heap := h, toks := tk }) (fun _ _ => False) { s with heap := h, toks := tk })
    (q : ∀ p, H p = none → Q (.ref p) (upd H p (.lst ((ss.mergeSort rankLe).map V.str)))) : wpAny (model X.prog X.w) X.A (call (.builtin "sorted") [.ref a] [(Str.ofString "key", .ref f)]) (EP X pins σ Q) X.xe s := by
  obtain ⟨its, rv, hl, hz⟩ := I.list hs
  have e := vals_each rv
  rw [List.length_map] at hz
  refine PySem.W.sorted_key_data (b := false) (fun z : Str => .tuple [.int (z.length : Nat), .str z]) hl.isList e (PySem.W.AllAlike.of fun _ _ => by simp [PySem.W.alike, PySem.W.alikeAll]) (PySem.W.Sortable.tuples fun _ => ⟨_, _, rfl⟩) hz (fun z _ => ?_) (PyProof.Rows.ksk_s1 _ _) (fun _ => PyProof.Rows.ksk_l1 _ _) (fun _ => PyProof.Rows.ksk_t1 _ _)
    (fun v z r hm h tk kp => ?_) fun out c h' tk kp fr hD hlen eo => ?_
  · have hd : (PyData.tuple [.int (z.length : Nat), .str z]).depth = 1 := by simp [PyData.depth, PyData.depthAll]
    omega
  · obtain ⟨t, rfl⟩ := r
    exact turn z t h tk hm kp
  · have hf : H (s.heap.objs.size + 1) = none := I.hok.fresh (Nat.le_succ _)
    rw [dataLe_rank fun z : Str => z] at eo
    refine ⟨.ref (s.heap.objs.size + 1), upd H (s.heap.objs.size + 1) (.lst ((ss.mergeSort rankLe).map V.str)), I.laid (t' := tk) kp (Nat.le_succ _) ⟨?_, out, c, each_vals eo, hD⟩, rfl, q _ hf⟩
    rw [List.length_map, List.length_mergeSort]
    exact hz
theorem boot_sorted : bootBuiltins "sorted" = some (.builtin "sorted") := by decide +kernel
theorem blt_len {pins : List (Addr × Obj)} {σ : L2.St} {H : Hp} {s : Shared} (I : Inv X pins σ H s) : ∃ mB, s.heap.Ns builtinsNs mB ∧ mB "len" = some (.builtin "len") := by
  obtain ⟨mb, h1, h2⟩ := I.mod.blt
  exact ⟨mb, h1.keeps I.bk, (h2 "len" (by decide)).trans boot_len⟩
/-- by a def of the form (len(g), g) -/
def rSortRank (K : PySem.W.Frag) (f : Addr) : List V → List V → Hp → VK → Prop := fun vs zs H Q => ∃ (a : Addr) (ss : List Str), vs = [.ref a] ∧ zs = [.ref f] ∧ SqL K H a (ss.map V.str) ∧ (∀ z ∈ ss, z.length ≤ sizeLine) ∧
  ∀ p, H p = none → Q (.ref p) (upd H p (.lst ((ss.mergeSort rankLe).map V.str)))
theorem cr_sortRank {f : Addr} {fd : FuncData} {x q g : Str} {st : Stmt} {p1 p2 p3 p4 p5 p6 : Pos} {x1} (F : Fun X.K x q st f fd) (hb : Binds X.K fd [g] []) (L : RankS g (defScope st)) (hbody : defBody st = [.Return (some (.Tuple [.Call (.Name "len" p1) [.Name g p2] [] p3, .Name g p4] x1 p5)) p6])
    (hm : X.mg "len" = none) (hr : Room 1 X.A) (hu : X.A.units + 64 < cLine) : CallRK X (.builtin "sorted") [Str.ofString "key"] (rSortRank X.K f) := by
  intro pins s σ H vs zs us ws Q I r rz h
  obtain ⟨a, ss, rfl, rfl, hs, hl, k⟩ := h
  obtain rfl := Vals.ref1 r
  obtain rfl := Vals.ref1 rz
  obtain ⟨oc, od, kV, doc, pm, an, cdv, ct, osl, rfl, lk, hcd⟩ := F.ex
  obtain ⟨mB, n1, n2⟩ := blt_len I
  refine rank_run I hs hu (fun z t h tk hz kp => ?_) k
  have KX : X.K.In h := I.kIn.keeps kp
  rw [hbody] at lk hb
  refine def_key (s := { s with heap := h, toks := tk }) L (by have := hr.dp; show X.A.depth < _; omega) (KX _ _ lk) (PySem.W.codeRec_of KX hcd) (I.nolimit.keeps kp) (fun v => hb _ [v] KX rfl) ((I.mod.glob.keeps I.bk).keeps kp) hm (n1.keeps kp) n2 (hl z hz)
/-- by a lambda of that form; the maker's table stands at P -/
def tSortLam (K : PySem.W.Frag) (P : Addr) (q : Str) (te : TE) : TE := fun σ H Q => te σ H fun x H1 => ∃ (a : Addr) (ss : List Str), x = .ref a ∧ SqL K H1 a (ss.map V.str) ∧ (∀ z ∈ ss, z.length ≤ sizeLine) ∧ LamX.TabS H1 P q ∧
  ∀ H2, Ex H1 H2 → LamX.TabS H2 P q → ∀ p, H2 p = none → Q (.ref p) (upd H2 p (.lst ((ss.mergeSort rankLe).map V.str)))
theorem pe_sortLam {c P : Addr} {e : Expr} {te : TE} {params : Arguments} {scope : Scope} {g q : Str} {p pos lpos kpos p1 p2 p3 p4 p5 : Pos} {x1} (TB : LamX.TabB X.base X.mg c P) (hcode : X.env.code = .ref c) (hq : X.env.qual ++ "<lambda>" = q) (L : RankS g scope) (hdef : defaultsOf params X.env = ([], []))
    (hbind : ∀ (cl : List (Str × Addr)) (pm cv ctv v : Value), bindArgs (PySem.W.kla_fn "<lambda>" q params (.Tuple [.Call (.Name "len" p1) [.Name g p2] [] p3, .Name g p4] x1 p5) scope cl pm cv ctv) ⟨[v], []⟩ = pure [(g, v)])
    (he : PE X e te) (hg : Gl X "sorted") (hm : X.mg "sorted" = none) (hml : X.mg "len" = none) (hr : Room 1 X.A) (hu : X.A.units + 64 < cLine)
    (hs0 : starEach [e] X.env = (false, eval e X.env) :: starEach [] X.env := by rfl) (hst : backTo pos (starEach [e] X.env) = (false, eval e X.env) :: backTo pos (starEach [] X.env) := by rfl) (hpl : (backTo pos (starEach [e] X.env)).any (·.1) = false := by rfl) :
    PE X (.Call (.Name "sorted" p) [e] [⟨some "key", .Lambda params (.Tuple [.Call (.Name "len" p1) [.Name g p2] [] p3, .Name g p4] x1 p5) scope lpos, kpos⟩] pos) (tSortLam X.K P q te) := by
  refine ⟨fun pins s σ H Q I h => ?_⟩
  refine wpAny_Call_Name_kw (ld_blt I hg hm boot_sorted ?_)
  have ha := (pa_cons he pa_nil hs0).run pos pins s σ H (fun vs H1 => match vs with
    | [x] => ∃ (a : Addr) (ss : List Str), x = .ref a ∧ SqL X.K H1 a (ss.map V.str) ∧ (∀ z ∈ ss, z.length ≤ sizeLine) ∧ LamX.TabS H1 P q ∧
      ∀ H2, Ex H1 H2 → LamX.TabS H2 P q → ∀ p, H2 p = none → Q (.ref p) (upd H2 p (.lst ((ss.mergeSort rankLe).map V.str)))
    | _ => False) I h
  refine PyProof.Rows.callWith_kw (thn ha fun us s1 ⟨vs, H1, I1, r1, z⟩ => ?_) hst hpl (by rfl) (by rfl)
  obtain ⟨x, rfl⟩ : ∃ x, vs = [x] := by
    match vs, z with
    | [x], _ => exact ⟨x, rfl⟩
  obtain ⟨a, ss, ex, hs, hl, hT, k⟩ := z
  subst ex
  obtain rfl := Vals.ref1 r1
  show wpAny _ _ (evalAll [do let v ← eval (.Lambda params (.Tuple [.Call (.Name "len" p1) [.Name g p2] [] p3, .Name g p4] x1 p5) scope lpos) X.env; standAt pos; pure v]) _ _ s1
  refine wpAny_evalAll_cons (wpAny_bind ?_)
  refine LamX.lam_make2 (T := [(P, q)]) I1 TB hcode (by rw [hq]; simp) (fun p hp _ => by rw [List.mem_singleton.mp hp, hq]) (fun p hp => by rw [List.mem_singleton.mp hp]; exact hT) hdef (fun y hy e => absurd e (L.free y hy)) fun f c' pm ctv H2 s2 I2 eN T2 hf hfn hfr hco => ?_
  refine wpAny_bind (wpAny_standAt (wpAny_pure ?_))
  refine wpAny_evalAll_nil ?_
  have hT2 := T2 _ (List.mem_singleton.mpr rfl)
  obtain ⟨mB, n1, n2⟩ := blt_len I2
  rw [hq] at hf hco
  refine rank_run I2 ((ext_ex eN).sqL hs) hu (fun z t h tk hz kp => ?_) (k H2 (ext_ex eN) hT2)
  obtain ⟨⟨oc, vs, t', hoc, hdc, hvc⟩, _, _⟩ := I2.hok c' _ hco
  exact lam_key (s := { s2 with heap := h, toks := tk }) L (by have := hr.dp; show X.A.depth < _; omega) (kp _ _ hf) ⟨c', oc, vs, t', rfl, kp _ _ hoc, hdc, hvc⟩ (I2.nolimit.keeps kp) (hbind _ _ _ _) ((I2.mod.glob.keeps I2.bk).keeps kp) hml (n1.keeps kp) n2 (hl z hz)
end
end FG
namespace FG
open PySem PySem.Spec L2
/-! ## rules for the fonts -/
/-- a def whose code object's place is known -/
structure FunC (K : PySem.W.Frag) (x qual : Str) (st : Stmt) (f : Addr) (fd : FuncData) (c : Addr) : Prop where
  ex : ∃ (oc : Value) (od : Option Addr) (kV doc pm : Value) (an : Option Addr) (ct : Value) (osl : Array (Option Value)),
    fd = PySem.W.fnOf x qual (defArgs st) (defBody st) (defScope st) .none kV doc pm an (.ref c) ct ∧ K.lookup f = some ⟨oc, od, .func fd, osl⟩ ∧ PySem.W.codeIn K (.ref c) qual = true
section
variable {P : Program} {w : World} {K : PySem.W.Frag} {mg : Str → Option Value} {base : Heap}
theorem FunC.ok {x qual : Str} {st : Stmt} {f c : Addr} {fd : FuncData} {N ps : List Str} {k : Nat} {sp : Sp} (F : FunC K x qual st f fd c) (S : FnScope N ps (defScope st)) (len : ∀ vs H Q E, sp vs H Q E → vs.length = ps.length)
    (hbody : ∀ (A : Around) (outer : List Env) (s : Shared) (H : Hp) (vs : List V) (Q : VK) (E : XK), Room k (A.deeper (PyProof.Rows.envOfC qual (defScope st) s.heap.objs.size f (.ref c))) → sp vs H Q E →
      ∃ t, PSs (cxOf CX0 P w K mg base N qual (defScope st) f (.ref c) A outer s H E).nox (defBody st) t ∧ t { nx := fun _ H' => Q .non H', rt := Q } (start N vs) H) : FnOk P w K mg base CX0 (k + 1) f fd ps sp := by
  obtain ⟨oc, od, kV, doc, pm, an, ct, osl, rfl, lk, hcd⟩ := F.ex
  refine fn_of lk hcd S len fun A outer s H vs Q E hr hsp => ?_
  obtain ⟨t, h, q⟩ := hbody A outer s H vs Q E hr hsp
  exact ⟨t, h.nox, q⟩
end
/-- one of two derivations -/
def tOrS (t u : TS) : TS := fun D σ H => t D σ H ∨ u D σ H
def tOrE (t u : TE) : TE := fun σ H Q => t σ H Q ∨ u σ H Q
theorem ps_or {X : Cx} {st : Stmt} {t u : TS} (h1 : PS X st t) (h2 : PS X st u) : PS X st (tOrS t u) := ⟨fun pins s σ H D I h => h.elim (fun h => h1.run pins s σ H D I h) fun h => h2.run pins s σ H D I h⟩
theorem pe_or2 {X : Cx} {e : Expr} {t u : TE} (h1 : PE X e t) (h2 : PE X e u) : PE X e (tOrE t u) := ⟨fun pins s σ H Q I h => h.elim (fun h => h1.run pins s σ H Q I h) fun h => h2.run pins s σ H Q I h⟩
section
variable {X : Cx} {CX : CXT} {k : Nat} {C f : Addr} {fd : FuncData} {ps : List Str} {sp : Sp}
/-- y in o, y not in o by an own __contains__ that gives True or False -/
def rInO (C : Addr) (sp : Sp) (neg : Bool) : R2 := fun y x H Q => ∃ a dx fs, x = .ref a ∧ H a = some (.ins C dx fs) ∧ sp [.ref a, y] H (fun v H1 => ∃ b, v = .bl b ∧ Q (.bl (neg != b)) H1) E0
theorem op_inO (hs : PySem.W.findIn X.K (.ref C) "__contains__" = some (some (.ref f))) (hf : PySem.W.isFn X.K (.ref f) = true) (F : FnOk X.prog X.w X.K X.mg X.base CX0 k f fd ps sp) (hr : Room k X.A) (hb : Binds X.K fd ps []) : OpR X (compareOp .In) (rInO C sp false) := by
  intro pins s σ H y x u v Q I ry rx h
  obtain ⟨a, dx, fs, rfl, ea, q⟩ := h
  cases (show v = Value.ref a from rx)
  obtain ⟨mA, Ob, _⟩ := ins_get I.hok ea
  obtain ⟨od, J, _⟩ := Ob.look
  obtain ⟨m, fr⟩ := I.fr
  refine PySem.W.in_K fr I.ok.mod.kin J hs hf (thn (run_fn (us := [.ref a, u]) (vs := [.ref a, y]) F hr hb .nil pass0 I (.cons rfl (.cons ry .nil)) q) fun r s' z => ?_)
  obtain ⟨v, H1, I1, rv, b, rfl, q1⟩ := z
  cases rv
  refine wpAny_truthy_bool ⟨.bl b, H1, I1, rfl, ?_⟩
  rw [Bool.false_bne] at q1
  exact q1
theorem op_notInO (hs : PySem.W.findIn X.K (.ref C) "__contains__" = some (some (.ref f))) (hf : PySem.W.isFn X.K (.ref f) = true) (F : FnOk X.prog X.w X.K X.mg X.base CX0 k f fd ps sp) (hr : Room k X.A) (hb : Binds X.K fd ps []) : OpR X (compareOp .NotIn) (rInO C sp true) := by
  intro pins s σ H y x u v Q I ry rx h
  obtain ⟨a, dx, fs, rfl, ea, q⟩ := h
  cases (show v = Value.ref a from rx)
  obtain ⟨mA, Ob, _⟩ := ins_get I.hok ea
  obtain ⟨od, J, _⟩ := Ob.look
  obtain ⟨m, fr⟩ := I.fr
  refine PySem.W.notIn_K fr I.ok.mod.kin J hs hf (thn (run_fn (us := [.ref a, u]) (vs := [.ref a, y]) F hr hb .nil pass0 I (.cons rfl (.cons ry .nil)) q) fun r s' z => ?_)
  obtain ⟨v, H1, I1, rv, b, rfl, q1⟩ := z
  cases rv
  refine wpAny_truthy_bool ⟨.bl (!b), H1, I1, rfl, ?_⟩
  rw [Bool.true_bne] at q1
  exact q1
end
section
variable {X : Cx} {CX : CXT} {k n : Nat} {f C : Addr} {fd : FuncData} {ps ks : List Str} {sp : Sp} {E : L2.St → XK} {x : Str} {p pos : Pos} {e : Expr} {es : List Expr} {kws : List Keyword} {t tk : TA} {g : List Value → List Value → List Value} {gV : List V → List V → List V}
/-- C(.., k = v, ..), its __init__ may raise, wished for at the caller's slots -/
def tMkKS (C : Addr) (n m : Nat) (sp : Sp) (gV : List V → List V → List V) (E : L2.St → XK) (t tk : TA) : TE := fun σ H Q => t σ H fun vs H1 => tk σ H1 fun zs H2 => vs.length = n ∧ zs.length = m ∧ ∀ z dz, H2 z = none → H2 dz = none → dz ≠ z →
  sp (gV (.ref z :: vs) zs) (upd (upd H2 dz (.own z)) z (.ins C dz [])) (fun v H3 => v = .non ∧ Q (.ref z) H3) (E σ)
theorem mkKS_run {pins : List (Addr × Obj)} {σ : L2.St} {H : Hp} {s : Shared} {Q : VK} {us ws : List Value} {vs zs : List V} (M : Mk X.K C f) (F : FnOk X.prog X.w X.K X.mg X.base CX k f fd ps sp) (hr : Room (k + 1) X.A) (hb : KBn X.K fd ps (n + 1) ks g gV)
    (hx : PassesAt CX X σ (E σ)) (I : Inv X pins σ H s) (r : Vals vs us) (rz : Vals zs ws) (l1 : vs.length = n) (l2 : zs.length = ks.length)
    (h : ∀ z dz, H z = none → H dz = none → dz ≠ z → sp (gV (.ref z :: vs) zs) (upd (upd H dz (.own z)) z (.ins C dz [])) (fun v H2 => v = .non ∧ Q (.ref z) H2) (E σ)) :
    wpAny (model X.prog X.w) X.A (call (.ref C) us (ks.zip ws)) (EP X pins σ Q) X.xe s := by
  have J := Inv.made (C := C) I
  have q0 := h _ _ (I.hok.fresh (Nat.le_succ s.heap.objs.size)) (I.hok.fresh (Nat.le_refl _)) (Nat.ne_of_lt (Nat.lt_succ_self _))
  have rr : Vals (V.ref (s.heap.objs.size + 1) :: vs) (Value.ref (s.heap.objs.size + 1) :: us) := .cons rfl r
  have ln : (Value.ref (s.heap.objs.size + 1) :: us).length = n + 1 := rr.length.symm.trans (congrArg Nat.succ l1)
  have go := F.run _ X.stack _ _ ⟨Value.ref (s.heap.objs.size + 1) :: us, ks.zip ws⟩ _ _ _ (E σ) (hr.make C us (ks.zip ws)) (J.env0.make C us (ks.zip ws)) (hb.to _ _ ws J.kIn ln (rz.length.symm.trans l2)) (hb.rel rr rz) q0
  refine wpAny_call (make_map (f := f) I.kIn M.makes M.init (beq_iff_eq.mp M.fn) (codeAny_mono go fun res s' z => ?_))
  match res, z with
  | .error er, z => exact hx pins _ _ er s' J z
  | .ok (.ret u), z =>
    obtain ⟨v, H2, J2, rv, ev, q2⟩ := J.after z
    subst ev
    exact ⟨rv, ⟨V.ref (s.heap.objs.size + 1), H2, J2, rfl, q2⟩⟩
  | .ok .next, z => exact False.elim z
  | .ok .brk, z => exact False.elim z
  | .ok .cont, z => exact False.elim z
theorem pe_mkKS (M : Mk X.K C f) (F : FnOk X.prog X.w X.K X.mg X.base CX k f fd ps sp) (hr : Room (k + 1) X.A) (hg : Gl X x) (hm : X.mg x = some (.ref C)) (hb : KBn X.K fd ps (n + 1) ks g gV) (hx : ∀ σ, PassesAt CX X σ (E σ)) (ha : PA X (e :: es) t) (hkw : PK X kws tk)
    (hall : (backToKw pos (keywordEach kws X.env)).all (·.1.isSome) = true := by rfl) (hks : (backToKw pos (keywordEach kws X.env)).filterMap (·.1) = ks := by rfl) (hdb : (x == ("__debug__" : Str)) = false := by decide)
    (he : starEach (e :: es) X.env = (false, eval e X.env) :: starEach es X.env := by rfl) (hpl : ((backTo pos (starEach (e :: es) X.env)).any (·.1) || (backToKw pos (keywordEach kws X.env)).any (·.1.isNone)) = false := by rfl) :
    PE X (.Call (.Name x p) (e :: es) kws pos) (tMkKS C n ks.length sp gV E t tk) := by
  refine ⟨fun pins s σ H Q I h => wpAny_Call_Name_kw (ld_glob I hg hm ?_ hdb)⟩
  refine PySem.W.callWith_KW (h₀ := X.base) I.ok.mod.kin M.kp hall (thn (ha.run pos pins s σ H _ I h) fun us s1 ⟨vs, H1, I1, r, q⟩ => ?_) hpl he
  refine thn (hkw.run pos pins s1 σ H1 _ I1 q) fun ws s2 ⟨zs, H2, I2, rz, l1, l2, q2⟩ => ⟨I2.kIn, ?_⟩
  rw [hks]
  exact mkKS_run M F hr hb (hx σ) I2 r rz l1 l2 q2
end
section
variable {X : Cx} {k : Nat} {C f : Addr} {fd : FuncData} {ps : List Str} {sp : Sp}
/-- len(o) by an own __len__ -/
def rLenO (C : Addr) (sp : Sp) : List V → Hp → VK → Prop := fun xs H Q => ∃ a dx fs, xs = [.ref a] ∧ H a = some (.ins C dx fs) ∧ sp [.ref a] H (fun v H1 => ∃ n : Nat, v = .int n ∧ n < 2 ^ 62 ∧ Q (.int n) H1) E0
end
end FG
namespace FG
open PySem PySem.Spec L2
/-! ## stepping lemmas for dicts, texts, comprehensions, properties -/
/-- the turns of a comprehension -/
def LcW (J : It) (g : TG) (tt : TT) (te : TE) (vs : List Nat) (σ : L2.St) (Q : VK) (H1 : Hp) : Prop := ∀ D, H1 D = none → ∃ W : Nat → Nat → Hp → Prop, (∃ m, W 0 m (upd H1 D (.lst []))) ∧ ∀ i m H, W i m H →
  (J.stop i H ∧ Q (.ref D) H) ∨ (J.go i H ∧ ∃ Nx : Hp → Prop, (∀ H', Nx H' → ∃ m', m' < m ∧ W (i + 1) m' H') ∧ ∀ x H', J.yld i H x H' → g x (wipe σ vs) H' fun σ2 H2 => wipe σ2 vs = wipe σ vs ∧ tt σ2 H2 fun b H3 =>
    if b = true then te σ2 H3 fun y H4 => ∃ acc, H4 D = some (.lst acc) ∧ acc.length < sizeLine ∧ Nx (upd H4 D (.lst (acc ++ [y]))) else Nx H3)
/-- the turns of a for -/
def ForW (J : It) (g : TG) (tb : TS) (D : Ends) (σ : L2.St) (H : Hp) : Prop := ∃ W : Nat → Nat → L2.St → Hp → Prop, (∃ m, W 0 m σ H) ∧ ∀ i m σ H, W i m σ H →
  (J.stop i H ∧ D.nx σ H) ∨ (J.go i H ∧ ∃ N : L2.St → Hp → Prop, (∀ σ' H', N σ' H' → ∃ m', m' < m ∧ W (i + 1) m' σ' H') ∧ ∀ x H', J.yld i H x H' → g x σ H' fun σ2 H2 => tb { D with nx := N, ct := N, bk := D.nx } σ2 H2)
def rLeS : R2 := fun x y H Q => ∃ i j : Str, x = .str i ∧ y = .str j ∧ Q (.bl (!decide (j.cps.toList < i.cps.toList))) H
theorem qo_leS {X : Cx} : OpR X (compareOp .LtE) rLeS := op_le_str
section
variable {K : PySem.W.Frag} {σ σ' : L2.St} {H : Hp} {Q : VK} {D : Ends} {ta tb te tc td ty tx to : TE} {tt tu : TT} {t u : TS} {tar : TA} {v x y : V} {i : Nat} {g : TG} {wi : TI} {vs : List Nat} {QB : Bool → Hp → Prop} {QA : List V → Hp → Prop}
theorem w_lc (k : wi σ H fun J H1 => LcW J g tt te vs σ Q H1) : tLc wi g tt te vs σ H Q := k
theorem w_iL {R : It → Hp → Prop} (k : te σ H fun x H1 => ∃ a, x = .ref a ∧ (∃ xs, SqL K H1 a xs) ∧ R (Itl K a) H1) : iList K te σ H R := k
theorem w_iK {R : It → Hp → Prop} (k : te σ H fun x H1 => ∃ d o, x = .ref d ∧ ((∃ kvs, H1 d = some (.frz o (.dK kvs)) ∧ R (Itk d o kvs) H1) ∨ ∃ kvs, H1 d = some (.frz o (.dT kvs)) ∧ R (Itkt d o kvs) H1)) : iKeys te σ H R := k
theorem w_iS {R : It → Hp → Prop} (k : te σ H fun v H1 => ∃ x, v = .str x ∧ R (Its x) H1) : iStr te σ H R := k
theorem w_iT {R : It → Hp → Prop} (k : te σ H fun x H1 => ∃ a, x = .ref a ∧ (∃ xs, SqT K H1 a xs) ∧ R (Itt K a) H1) : iTup K te σ H R := k
theorem w_iR1 {R : It → Hp → Prop} (k : tar σ H fun vs H1 => ∃ j : Int, vs = [.int j] ∧ -(2 ^ 62) ≤ j ∧ j < 2 ^ 62 ∧ R (Itr 0 j.toNat) H1) : iRng1 tar σ H R := k
theorem w_for (k : wi σ H fun J H1 => ForW J g t D σ H1) : tFor wi g t D σ H := k
theorem w_dnew (k : ∀ p, H p = none → Q (.ref p) (upd H p (.dK []))) : tDNewK σ H Q := k
theorem w_dget (k : td σ H fun x H1 => ty σ H1 fun y H2 => ∃ a v, x = .ref a ∧ DGet H2 a y (some v) ∧ Q v H2) : tDGet td ty σ H Q := k
theorem w_din (k : ty σ H fun y H1 => td σ H1 fun x H2 => ∃ a o, x = .ref a ∧ DGet H2 a y o ∧ Q (.bl o.isSome) H2) : tDIn ty td σ H Q := k
theorem w_dnin (k : ty σ H fun y H1 => td σ H1 fun x H2 => ∃ a o, x = .ref a ∧ DGet H2 a y o ∧ Q (.bl (!o.isSome)) H2) : tDNotIn ty td σ H Q := k
theorem w_dput (k : tc σ H fun v H1 => td σ H1 fun x H2 => ty σ H2 fun y H3 => ∃ a H', x = .ref a ∧ DPut H3 a y v H' ∧ D.nx σ H') : sDPut td ty tc D σ H := k
theorem w_prop {C : Addr} {sp : Sp} {dvs : List V} {E : XK} (k : ta σ H fun x H1 => ∃ a dx fs, x = .ref a ∧ H1 a = some (.ins C dx fs) ∧ sp (.ref a :: dvs) H1 Q E) : tProp C sp dvs E ta σ H Q := k
theorem w_cval {f : Str} (k : ta σ H fun x H1 => ∃ C mc v u, x = .ref C ∧ ClX.CRead K C mc ∧ ClX.CVal K C mc f v u ∧ Q v H1) : ClX.tCVal K ta f σ H Q := k
theorem w_mtS {C : Addr} {m : Str} {sp : Sp} {dvs : List V} {E : L2.St → XK} (k : ta σ H fun y H1 => ∃ a dx fs, y = .ref a ∧ H1 a = some (.ins C dx fs) ∧ fs.lookup m = none ∧ tar σ H1 fun vs H2 => sp (.ref a :: (vs ++ dvs)) H2 Q (E σ)) : tMtS C m sp dvs E ta tar σ H Q := k
theorem w_mkKS {C : Addr} {n m : Nat} {sp : Sp} {gV : List V → List V → List V} {E : L2.St → XK} {tk : TA} (k : tar σ H fun vs H1 => tk σ H1 fun zs H2 => vs.length = n ∧ zs.length = m ∧ ∀ z dz, H2 z = none → H2 dz = none → dz ≠ z →
  sp (gV (.ref z :: vs) zs) (upd (upd H2 dz (.own z)) z (.ins C dz [])) (fun v H3 => v = .non ∧ Q (.ref z) H3) (E σ)) : tMkKS C n m sp gV E tar tk σ H Q := k
theorem w_bm {T : String} {r : V → List V → Hp → VK → Prop} (k : to σ H fun x H1 => tyV K T x H1 ∧ tar σ H1 fun xs H2 => r x xs H2 Q) : tBM K T r to tar σ H Q := k
theorem w_bm0 {T : String} {r : V → List V → Hp → VK → Prop} (k : to σ H fun x H1 => tyV K T x H1 ∧ r x [] H1 Q) : tBM0 K T r to σ H Q := k
theorem w_append {l : Addr} {xs : List V} {y : V} (h : H l = some (.lst xs)) (hl : xs.length < sizeLine) (k : Q .non (upd H l (.lst (xs ++ [y])))) : tyV K "list" (.ref l) H ∧ rAppend (.ref l) [y] H Q := ⟨.inl ⟨rfl, _, SqL.of h⟩, l, xs, y, rfl, rfl, h, hl, k⟩
theorem w_cat {l b : Addr} {xs zs : List V} (h1 : H l = some (.lst xs)) (h2 : H b = some (.lst zs)) (hl : xs.length + zs.length ≤ sizeLine) (k : ∀ p, H p = none → Q (.ref p) (upd H p (.lst (xs ++ zs)))) : rCat (.ref l) (.ref b) H Q := ⟨l, b, xs, zs, rfl, rfl, h1, h2, hl, k⟩
theorem w_lock {d : Addr} {o : HO} (h : H d = some o) (m : Mut (some o)) (k : ∀ od, t ⟨fun σ' H' => H' d = some (.frz od o) ∧ D.nx σ' (upd H' d o), fun v H' => H' d = some (.frz od o) ∧ D.rt v (upd H' d o), fun σ' H' => H' d = some (.frz od o) ∧ D.bk σ' (upd H' d o), fun σ' H' => H' d = some (.frz od o) ∧ D.ct σ' (upd H' d o)⟩ σ (upd H d (.frz od o))) : tLock t D σ H := ⟨d, o, h, m, k⟩
theorem w_lockE {d : Addr} {o : HO} (h : H d = some o) (m : Mut (some o)) (k : ∀ od, te σ (upd H d (.frz od o)) fun v H' => H' d = some (.frz od o) ∧ Q v (upd H' d o)) : tLockE te σ H Q := ⟨d, o, h, m, k⟩
theorem w_sortLam {P : Addr} {q : Str} (k : te σ H fun x H1 => ∃ (a : Addr) (ss : List Str), x = .ref a ∧ SqL K H1 a (ss.map V.str) ∧ (∀ z ∈ ss, z.length ≤ sizeLine) ∧ LamX.TabS H1 P q ∧
  ∀ H2, Ex H1 H2 → LamX.TabS H2 P q → ∀ p, H2 p = none → Q (.ref p) (upd H2 p (.lst ((ss.mergeSort rankLe).map V.str)))) : tSortLam K P q te σ H Q := k
theorem w_leS {i j : Str} (k : Q (.bl (!decide (j.cps.toList < i.cps.toList))) H) : rLeS (.str i) (.str j) H Q := ⟨i, j, rfl, rfl, k⟩
theorem w_inl (k : t D σ H) : tOrS t u D σ H := .inl k
theorem w_inr (k : u D σ H) : tOrS t u D σ H := .inr k
theorem w_inlE {t u : TE} (k : t σ H Q) : tOrE t u σ H Q := .inl k
theorem w_inrE {t u : TE} (k : u σ H Q) : tOrE t u σ H Q := .inr k
theorem w_ixS {z : Str} {k : Int} {c : Nat} (h : z.length ≤ sizeLine) (e : atI z.cps.toList k = some c) (q : Q (.str ⟨#[c]⟩) H) : rIxS (.str z) (.int k) H Q := ⟨z, k, c, rfl, rfl, h, e, q⟩
theorem w_slS {z : Str} {lo hi : Option Int} (h : z.length ≤ sizeLine) (k : Q (.str (cutS z lo hi)) H) : rSlS (.str z) lo hi H Q := ⟨z, rfl, h, k⟩
end
/-- the turns, by what holds between them -/
theorem turnsW {J : It} {n : Nat} {G : Hp → Prop} {Y : Nat → Hp → V → Hp → Prop} {g : TG} {tb : TS} {D : Ends} {σ : L2.St} {H : Hp} (w : L2.Walk J n G Y) (Pv : Nat → L2.St → Hp → Prop) (h0 : Pv 0 σ H) (hG : ∀ i σ H, i ≤ n → Pv i σ H → G H)
    (hs : ∀ i x σ H H', i < n → Pv i σ H → Y i H x H' → g x σ H' fun σ2 H2 => tb { D with nx := Pv (i + 1), ct := Pv (i + 1), bk := D.nx } σ2 H2) (hd : ∀ σ H, Pv n σ H → D.nx σ H) : ForW J g tb D σ H := for_it w Pv h0 hG hs hd
theorem lcsW {J : It} {n : Nat} {G : Hp → Prop} {Y : Nat → Hp → V → Hp → Prop} {g : TG} {tt : TT} {te : TE} {vs : List Nat} {σ : L2.St} {Q : VK} {H1 : Hp} (w : L2.Walk J n G Y) (Pv : Addr → Nat → Hp → Prop) (h0 : ∀ D, H1 D = none → Pv D 0 (upd H1 D (.lst []))) (hG : ∀ D i H, i ≤ n → Pv D i H → G H)
    (hs : ∀ D i x H H', i < n → Pv D i H → Y i H x H' → g x (wipe σ vs) H' fun σ2 H2 => wipe σ2 vs = wipe σ vs ∧ tt σ2 H2 fun b H3 =>
      if b = true then te σ2 H3 fun y H4 => ∃ acc, H4 D = some (.lst acc) ∧ acc.length < sizeLine ∧ Pv D (i + 1) (upd H4 D (.lst (acc ++ [y]))) else Pv D (i + 1) H3) (hd : ∀ D H, Pv D n H → Q (.ref D) H) : LcW J g tt te vs σ Q H1 :=
  fun D hD => lc_it w (Pv D) (h0 D hD) (hG D) (hs D) (hd D)
theorem upd_lock {H : Hp} {d D : Addr} {o x y : HO} (h : H d = some o) (n : D ≠ d) : upd (upd (upd H d x) D y) d o = upd H D y := by
  funext b
  unfold upd
  by_cases h1 : b = d
  · rw [if_pos h1, if_neg (by rw [h1]; exact Ne.symm n), h1, h]
  · rw [if_neg h1]
    by_cases h2 : b = D
    · rw [if_pos h2, if_pos h2]
    · rw [if_neg h2, if_neg h2, if_neg h1]
theorem upd_same_of {H : Hp} {d : Addr} {o : HO} (h : H d = some o) : upd H d o = H := by
  funext b
  unfold upd
  by_cases h1 : b = d
  · rw [if_pos h1, h1, h]
  · rw [if_neg h1]
/-! ### a text repeated -/
def repS (z : Str) (n : Nat) : Str := ⟨(List.replicate n z.cps.toList).flatten.toArray⟩
def rMulS : R2 := fun x y H Q => ∃ (z : Str) (n : Int), x = .str z ∧ y = .int n ∧ -(2 ^ 62) ≤ n ∧ n < 2 ^ 62 ∧ z.length * n.toNat ≤ sizeLine ∧ Q (.str (repS z n.toNat)) H
theorem rep_foldl (z : Str) : ∀ (n : Nat) (acc : Array Nat), ((List.replicate n z.cps).foldl (· ++ ·) acc).toList = acc.toList ++ (List.replicate n z.cps.toList).flatten
  | 0, acc => by simp
  | n + 1, acc => by
    rw [List.replicate_succ, List.foldl_cons, rep_foldl z n, List.replicate_succ, List.flatten_cons]
    simp
theorem op_mulS {X : Cx} : OpR X (binaryOp .Mult) rMulS := by
  intro pins s σ H x y v u Q I rx ry h
  obtain ⟨z, n, rfl, rfl, h1, h2, hl, q⟩ := h
  obtain ⟨t, rfl⟩ := rx
  obtain ⟨t2, rfl⟩ := ry
  have hs := line63
  refine PySem.P.mul_str (by rw [decide_eq_false (by omega), decide_eq_false (by omega)]; rfl) (fun a b => ?_) (fun a b => ?_) ?_
  · have hz : (z.length : Int) * n ≤ sizeLine := by
      have : ((z.length * n.toNat : Nat) : Int) ≤ sizeLine := by omega
      rw [Int.natCast_mul] at this
      rw [show ((n.toNat : Nat) : Int) = n from Int.toNat_of_nonneg (by omega)] at this
      exact this
    intro c
    have c2 : (2 ^ 63 - 1) / n + 1 ≤ (z.length : Int) := c
    have c3 := Int.lt_ediv_add_one_mul_self (2 ^ 63 - 1) (show 0 < n by omega)
    have c4 := Int.mul_le_mul_of_nonneg_right c2 (show 0 ≤ n by omega)
    omega
  · unfold Builtin.Str.tooLong
    simp
    omega
  · by_cases c1 : n < 1
    · rw [if_pos c1]
      have e : repS z n.toNat = Str.empty := by
        rw [show n.toNat = 0 by omega]
        rfl
      rw [e] at q
      exact ⟨by decide, .str Str.empty, H, I.tok _, ⟨_, rfl⟩, q⟩
    · rw [if_neg c1]
      by_cases c2 : (n == 1 || z.length == 0) = true
      · rw [if_pos c2]
        have e : repS z n.toNat = z := by
          rcases Bool.or_eq_true _ _ ▸ c2 with c | c
          · have : n = 1 := by simpa using c
            subst this
            show (⟨(List.replicate 1 z.cps.toList).flatten.toArray⟩ : Str) = z
            simp
          · have c0 : z.cps.toList = [] := by
              have : z.length = 0 := by simpa using c
              exact List.eq_nil_of_length_eq_zero (by simpa [Str.length] using this)
            unfold repS
            rw [c0]
            have : (List.replicate n.toNat ([] : List Nat)).flatten = [] := by simp
            rw [this]
            exact str_ext (by rw [c0])
        rw [e] at q
        exact ⟨.str z, H, I, ⟨_, rfl⟩, q⟩
      · rw [if_neg c2]
        have e : (⟨(List.replicate n.toNat z.cps).foldl (· ++ ·) #[]⟩ : Str) = repS z n.toNat := str_ext (by rw [rep_foldl]; simp [repS])
        rw [e]
        have hlen : (repS z n.toNat).length = n.toNat * z.length := by
          unfold repS Str.length
          simp
        exact ⟨by rw [hlen, Nat.mul_comm]; exact hl, .str _, H, I.tok _, ⟨_, rfl⟩, q⟩
end FG
namespace FG
open PySem PySem.Builtin
/-- digits in groups of three -/
def commas (d : List Nat) : List Nat :=
  if d.length > 6 then d.take (d.length - 6) ++ 44 :: ((d.drop (d.length - 6)).take 3 ++ 44 :: d.drop (d.length - 3))
  else if d.length > 3 then d.take (d.length - 3) ++ 44 :: d.drop (d.length - 3) else d
def digs (n : Nat) : List Nat := (Nat.toDigits 10 n).map (·.toNat)
def fmtD (d : List Nat) : Str := ⟨(List.replicate (9 - (commas d).length) 32 ++ commas d).toArray⟩
def padR (z : Str) : Str := ⟨(z.cps.toList ++ List.replicate (6 - z.length) 32).toArray⟩
theorem int_fmt (n : Nat) (t u : Tok) (h1 : 1 ≤ (Nat.toDigits 10 n).length) (h2 : (Nat.toDigits 10 n).length ≤ 7) : ∃ K : Option Nat → Sem PySem.Fin, «int.__format__» ⟨[.int n t, .str ">9," u], []⟩ = (overDigitLimit? n >>= K) ∧ K none = retStr (fmtD (digs n)) := by
  refine ⟨_, rfl, ?_⟩
  refine Eq.trans (b := retStr ?y) (by first | rfl | with_unfolding_all rfl) (congrArg retStr ?h)
  case h =>
    rw [decide_eq_false (show ¬ ((n : Int) < 0) by omega)]
    unfold digs
    conv => lhs; pattern Nat.toDigits _ _; change Nat.toDigits 10 n
    generalize Nat.toDigits 10 n = d at h1 h2 ⊢
    match d, h1, h2 with
    | [a], _, _ => kernel_rfl
    | [a, b], _, _ => kernel_rfl
    | [a, b, c], _, _ => kernel_rfl
    | [a, b, c, d], _, _ => kernel_rfl
    | [a, b, c, d, e], _, _ => kernel_rfl
    | [a, b, c, d, e, f], _, _ => kernel_rfl
    | [a, b, c, d, e, f, g], _, _ => kernel_rfl
    | _ :: _ :: _ :: _ :: _ :: _ :: _ :: _ :: _, _, h => simp at h
theorem str_fmt (z : Str) (t u : Tok) (h : z.length ≤ 6) : «str.__format__» ⟨[.str z t, .str "<6" u], []⟩ = (if z.length = 6 then (do rule "str.__format__.unchanged"; ret (.str z t)) else retStr (padR z)) := by
  obtain ⟨⟨l⟩⟩ := z
  match l, h with
  | [], _ => kernel_rfl
  | [_], _ => kernel_rfl
  | [_, _], _ => kernel_rfl
  | [_, _, _], _ => kernel_rfl
  | [_, _, _, _], _ => kernel_rfl
  | [_, _, _, _, _], _ => kernel_rfl
  | [_, _, _, _, _, _], _ => kernel_rfl
  | _ :: _ :: _ :: _ :: _ :: _ :: _ :: _, h => exact absurd h (by simp [Str.length])
section
variable {prog : Program} {w : World} {A : Around} {E : Value → Shared → Prop} {s : Shared}
theorem padR_six {z : Str} (h : z.length = 6) : padR z = z := str_ext (by
  unfold padR
  rw [h]
  simp)
theorem fmt6_run {z : Str} {t : Tok} {Q : Value → Shared → Prop} (h : z.length ≤ 6) (q : ∀ t' tk, Q (.str (padR z) t') { s with toks := tk }) : wpAny (model prog w) A (formatField (.str z t) "<6") Q E s := by
  have hz : (padR z).length ≤ sizeLine := by
    unfold padR Str.length at *
    have : sizeLine = 16777216 := by decide
    simp
    omega
  by_cases c : z.length = 6
  · show wpAny (model prog w) A (holding [.str z t] (pyFormat (.str z t) "<6")) Q E s
    refine wpAny_holding ?_
    unfold pyFormat
    refine wpAny_bind (wpAny_mkStr ?_ (by decide +kernel))
    have T0 : ∀ s' : Shared, s'.TypeIs (.str z t) "str" := fun s' => typeIs_str s' z t
    have g0 : Gives («str.__format__» ⟨[.str z t, .str "<6" s.toks], []⟩) (.val (.str z t)) := by
      rw [str_fmt z t _ h, if_pos c]
      exact Gives.rule (Gives.of_eq rfl)
    refine wpAny_bind (wpAny_callSpecial?_slot (name := Str.ofString "__format__") (T0 _) F.slot_str_format (call_gives F.slot_str_format (T0 _) F.entry_str_format (F.args_str_format_2 _ _) g0 ?_))
    have q' := q t (s.toks + 1)
    rw [padR_six c] at q'
    exact wpAny_bind (wpAny_isInstance (T := "str") (b := true) rfl isSubtype_str_str (wpAny_pure q'))
  · exact wpAny_formatField_spec (by decide +kernel) (fun s' => typeIs_str s' z t) F.slot_str_format F.entry_str_format F.args_str_format_2 (fun u => by rw [str_fmt z t u h, if_neg c]; exact Gives.of_eq rfl) (q _ _) (by decide +kernel) hz
theorem fmt9_run {n : Nat} {t : Tok} {Q : Value → Shared → Prop} (h1 : 1 ≤ (Nat.toDigits 10 n).length) (h2 : (Nat.toDigits 10 n).length ≤ 7) (q : ∀ t' tk, Q (.str (fmtD (digs n)) t') { s with toks := tk }) (hz : (fmtD (digs n)).length ≤ sizeLine) (hn : n < 2 ^ 64) : wpAny (model prog w) A (formatField (.int n t) ">9,") Q E s := by
  refine wpAny_formatField_spec (by decide +kernel) (fun s' => typeIs_int s' n t) F.slot_int_format F.entry_int_format F.args_int_format_2 (fun u => ?_) (q _ _) (by decide +kernel) hz
  obtain ⟨K, e1, e2⟩ := int_fmt n t u h1 h2
  rw [e1, PySem.overDigitLimit_small ?_]
  · show Gives (K none) _
    rw [e2]
    exact Gives.of_eq rfl
  · show n.log2 < 1920
    by_cases c : n = 0
    · rw [c]
      decide
    · exact Nat.lt_trans ((Nat.log2_lt c).mpr hn) (by decide)
end
open L2 PySem.Spec
section
variable {X : Cx}
/-- {e:<6} of a text -/
def tFmt6 (te : TE) : TE := fun σ H Q => te σ H fun x H1 => ∃ z : Str, x = .str z ∧ z.length ≤ 6 ∧ Q (.str (padR z)) H1
theorem pe_fmt6 {e : Expr} {te : TE} {pos p1 p2 : Pos} {k : Nat} (he : PE X e te) : PE X (.FormattedValue e (-1) (some (.JoinedStr [.Constant (.str "<6") k p1] p2)) pos) (tFmt6 te) := by
  refine ⟨fun pins s σ H Q I h => ?_⟩
  refine wpAny_FormattedValue_spec (thn (he.run pins s σ H _ I h) fun v s1 hv => ?_)
  obtain ⟨x, H1, I1, r1, z, rfl, hz, q⟩ := hv
  obtain ⟨t, rfl⟩ := r1
  refine wpAny_JoinedStr_one (Calls.Constant_str ⟨_, _, rfl, fmt6_run hz fun t' tk => ⟨.str (padR z), H1, I1.tok _, ⟨_, rfl⟩, q⟩⟩)
/-- {e:>9,} of an int from 0 to 1000000 -/
def tFmt9 (te : TE) : TE := fun σ H Q => te σ H fun x H1 => ∃ n : Nat, x = .int n ∧ n ≤ 1000000 ∧ Q (.str (fmtD (digs n))) H1
theorem commas_len {d : List Nat} (h : d.length ≤ 7) : (commas d).length ≤ 9 := by
  unfold commas
  split
  · simp
    omega
  · split
    · simp
      omega
    · omega
theorem toDigits_len {n : Nat} (h : n ≤ 1000000) : 1 ≤ (Nat.toDigits 10 n).length ∧ (Nat.toDigits 10 n).length ≤ 7 := by
  exact ⟨PySem.toDigits_len_ge 10 n, PySem.toDigits_len_pow (by decide) (by decide) (by omega)⟩
theorem pe_fmt9 {e : Expr} {te : TE} {pos p1 p2 : Pos} {k : Nat} (he : PE X e te) : PE X (.FormattedValue e (-1) (some (.JoinedStr [.Constant (.str ">9,") k p1] p2)) pos) (tFmt9 te) := by
  refine ⟨fun pins s σ H Q I h => ?_⟩
  refine wpAny_FormattedValue_spec (thn (he.run pins s σ H _ I h) fun v s1 hv => ?_)
  obtain ⟨x, H1, I1, r1, n, rfl, hn, q⟩ := hv
  obtain ⟨t, rfl⟩ := r1
  obtain ⟨l1, l2⟩ := toDigits_len hn
  have hz : (fmtD (digs n)).length ≤ sizeLine := by
    have c := commas_len (d := digs n) (by unfold digs; simp; exact l2)
    have : sizeLine = 16777216 := by decide
    unfold fmtD Str.length
    simp
    omega
  refine wpAny_JoinedStr_one (Calls.Constant_str ⟨_, _, rfl, fmt9_run l1 l2 (fun t' tk => ⟨.str (fmtD (digs n)), H1, I1.tok _, ⟨_, rfl⟩, q⟩) hz (by omega)⟩)
end
section
variable {σ : L2.St} {H : Hp} {Q : VK} {t te : TE} {ts : List TE} {acc : Str} {QS : Str → Hp → Prop} {QB : Bool → Hp → Prop}
theorem w_js (k : t σ H fun x H1 => ∃ y : Str, x = .str y ∧ (acc ++ y).length ≤ sizeLine ∧ tJs ts (acc ++ y) σ H1 QS) : tJs (t :: ts) acc σ H QS := k
theorem w_jsN (k : QS acc H) : tJs [] acc σ H QS := k
theorem w_yes (k : QB true H) : tYes σ H QB := k
theorem w_fmt6 (k : te σ H fun x H1 => ∃ z : Str, x = .str z ∧ z.length ≤ 6 ∧ Q (.str (padR z)) H1) : tFmt6 te σ H Q := k
theorem w_fmt9 (k : te σ H fun x H1 => ∃ n : Nat, x = .int n ∧ n ≤ 1000000 ∧ Q (.str (fmtD (digs n))) H1) : tFmt9 te σ H Q := k
end
end FG
namespace FG
open PySem L2
/-! ### the text by places -/
def topS (i : Nat) : Stmt := PySem.Challenge.pw_fontgap_k19_width_table_columns.main.body.getD i (.Pass ⟨0, 0, 0, 0⟩)
abbrev s_is_integer : Stmt := topS 10
theorem sc_is_integer : FnScope (["value"] : List Str) (["value"] : List Str) (defScope s_is_integer) := ⟨rfl, rfl, rfl, by decide +kernel, rfl, by decide +kernel, by decide +kernel⟩
abbrev s_is_between : Stmt := topS 11
theorem sc_is_between : FnScope (["value", "low", "high"] : List Str) (["value", "low", "high"] : List Str) (defScope s_is_between) := ⟨rfl, rfl, rfl, by decide +kernel, rfl, by decide +kernel, by decide +kernel⟩
abbrev s_check_between : Stmt := topS 12
theorem sc_check_between : FnScope (["value", "low", "high"] : List Str) (["value", "low", "high"] : List Str) (defScope s_check_between) := ⟨rfl, rfl, rfl, by decide +kernel, rfl, by decide +kernel, by decide +kernel⟩
abbrev s_font_order : Stmt := topS 15
theorem sc_font_order : FnScope (["glyphs", "others", "glyph", "names"] : List Str) (["glyphs"] : List Str) (defScope s_font_order) := ⟨rfl, rfl, rfl, by decide +kernel, rfl, by decide +kernel, by decide +kernel⟩
abbrev s_is_name : Stmt := topS 16
theorem sc_is_name : FnScope (["glyph", "letter"] : List Str) (["glyph"] : List Str) (defScope s_is_name) := ⟨rfl, rfl, rfl, by decide +kernel, rfl, by decide +kernel, by decide +kernel⟩
abbrev s_Font_known : Stmt := inClass (topS 17) 17
theorem sc_Font_known : FnScope (["self", "glyph"] : List Str) (["self", "glyph"] : List Str) (defScope s_Font_known) := ⟨rfl, rfl, rfl, by decide +kernel, rfl, by decide +kernel, by decide +kernel⟩
abbrev s_Font_ligatures : Stmt := inClass (topS 17) 13
theorem sc_Font_ligatures : FnScope (["self", "glyph"] : List Str) (["self"] : List Str) (defScope s_Font_ligatures) := ⟨rfl, rfl, rfl, by decide +kernel, rfl, by decide +kernel, by decide +kernel⟩
abbrev s_Font_glyphs : Stmt := inClass (topS 17) 18
theorem sc_Font_glyphs : FnScope (["self"] : List Str) (["self"] : List Str) (defScope s_Font_glyphs) := ⟨rfl, rfl, rfl, by decide +kernel, rfl, by decide +kernel, by decide +kernel⟩
abbrev s_Font_advance_of : Stmt := inClass (topS 17) 20
theorem sc_Font_advance_of : FnScope (["self", "glyph"] : List Str) (["self", "glyph"] : List Str) (defScope s_Font_advance_of) := ⟨rfl, rfl, rfl, by decide +kernel, rfl, by decide +kernel, by decide +kernel⟩
abbrev s_Font_put_blank : Stmt := inClass (topS 17) 28
theorem sc_Font_put_blank : FnScope (["self", "advance"] : List Str) (["self", "advance"] : List Str) (defScope s_Font_put_blank) := ⟨rfl, rfl, rfl, by decide +kernel, rfl, by decide +kernel, by decide +kernel⟩
abbrev s_Font_put_advance : Stmt := inClass (topS 17) 25
theorem sc_Font_put_advance : FnScope (["self", "glyph", "advance", "letter", "pair"] : List Str) (["self", "glyph", "advance"] : List Str) (defScope s_Font_put_advance) := ⟨rfl, rfl, rfl, by decide +kernel, rfl, by decide +kernel, by decide +kernel⟩
abbrev s_Font_init : Stmt := inClass (topS 17) 4
theorem sc_Font_init : FnScope (["self", "advances", "kerns", "blank", "glyph", "pair"] : List Str) (["self", "advances", "kerns", "blank"] : List Str) (defScope s_Font_init) := ⟨rfl, rfl, rfl, by decide +kernel, rfl, by decide +kernel, by decide +kernel⟩
abbrev s_width_table : Stmt := topS 19
theorem sc_width_table : FnScope (["font", "glyph"] : List Str) (["font"] : List Str) (defScope s_width_table) := ⟨rfl, rfl, rfl, by decide +kernel, rfl, by decide +kernel, by decide +kernel⟩
abbrev s_law_bag : Stmt := topS 21
theorem sc_law_bag : FnScope (["_law_script"] : List Str) (["_law_script"] : List Str) (defScope s_law_bag) := ⟨rfl, rfl, rfl, by decide +kernel, rfl, by decide +kernel, by decide +kernel⟩
abbrev s_law_take : Stmt := topS 22
theorem sc_law_take : FnScope (["_law_bag_here", "_law_size", "_law_digit", "_law_cell"] : List Str) (["_law_bag_here", "_law_size"] : List Str) (defScope s_law_take) := ⟨rfl, rfl, rfl, by decide +kernel, rfl, by decide +kernel, by decide +kernel⟩
abbrev s_law_letters : Stmt := topS 23
theorem sc_law_letters : FnScope (["_law_bag_here", "_law_many", "_law_start", "_law_step", "_law_k"] : List Str) (["_law_bag_here", "_law_many"] : List Str) (defScope s_law_letters) := ⟨rfl, rfl, rfl, by decide +kernel, rfl, by decide +kernel, by decide +kernel⟩
abbrev s_law_row : Stmt := topS 24
theorem sc_law_row : FnScope (["_law_bag_here", "_law_letters_here", "_law_long", "_law_row_here", "_law_k"] : List Str) (["_law_bag_here", "_law_letters_here", "_law_long"] : List Str) (defScope s_law_row) := ⟨rfl, rfl, rfl, by decide +kernel, rfl, by decide +kernel, by decide +kernel⟩
abbrev s_law_commas : Stmt := topS 25
theorem sc_law_commas : FnScope (["_law_number", "_law_text"] : List Str) (["_law_number"] : List Str) (defScope s_law_commas) := ⟨rfl, rfl, rfl, by decide +kernel, rfl, by decide +kernel, by decide +kernel⟩
abbrev s_law_line : Stmt := topS 26
theorem sc_law_line : FnScope (["_law_glyph", "_law_number", "_law_text"] : List Str) (["_law_glyph", "_law_number"] : List Str) (defScope s_law_line) := ⟨rfl, rfl, rfl, by decide +kernel, rfl, by decide +kernel, by decide +kernel⟩
abbrev s_law : Stmt := topS 27
theorem sc_law : FnScope (["_law_script", "_law_bag_here", "_law_most", "_law_letters_here", "_law_rows", "_law_k", "_law_advances", "_law_glyph", "_law_ordered", "_law_due", "_law_row_here", "_law_font"] : List Str) (["_law_script"] : List Str) (defScope s_law) := ⟨rfl, rfl, rfl, by decide +kernel, rfl, by decide +kernel, by decide +kernel⟩
abbrev s_InvalidGlyph_init : Stmt := inClass (topS 3) 0
abbrev s_InvalidNumber_init : Stmt := inClass (topS 4) 0
abbrev s_UnknownGlyph_init : Stmt := inClass (topS 5) 0
abbrev s_TooMany_init : Stmt := inClass (topS 6) 0
/-! ### what the top has left: the places -/
structure Ad where
  f_is_integer : Addr
  d_is_integer : FuncData
  f_is_between : Addr
  d_is_between : FuncData
  f_check_between : Addr
  d_check_between : FuncData
  f_font_order : Addr
  d_font_order : FuncData
  c_font_order : Addr
  P_font_order : Addr
  f_is_name : Addr
  d_is_name : FuncData
  f_Font_known : Addr
  d_Font_known : FuncData
  f_Font_ligatures : Addr
  d_Font_ligatures : FuncData
  p_Font_ligatures : Addr
  f_Font_glyphs : Addr
  d_Font_glyphs : FuncData
  f_Font_advance_of : Addr
  d_Font_advance_of : FuncData
  f_Font_put_blank : Addr
  d_Font_put_blank : FuncData
  f_Font_put_advance : Addr
  d_Font_put_advance : FuncData
  f_Font_init : Addr
  d_Font_init : FuncData
  v1_Font_init : List Value
  f_width_table : Addr
  d_width_table : FuncData
  f_law_bag : Addr
  d_law_bag : FuncData
  f_law_take : Addr
  d_law_take : FuncData
  f_law_letters : Addr
  d_law_letters : FuncData
  f_law_row : Addr
  d_law_row : FuncData
  f_law_commas : Addr
  d_law_commas : FuncData
  f_law_line : Addr
  d_law_line : FuncData
  f_law : Addr
  d_law : FuncData
  C_Font : Addr
  C_InvalidGlyph : Addr
  i_InvalidGlyph : Addr
  c_InvalidGlyph : Addr
  k_InvalidGlyph : Addr
  C_InvalidNumber : Addr
  i_InvalidNumber : Addr
  c_InvalidNumber : Addr
  k_InvalidNumber : Addr
  C_UnknownGlyph : Addr
  i_UnknownGlyph : Addr
  c_UnknownGlyph : Addr
  k_UnknownGlyph : Addr
  C_TooMany : Addr
  i_TooMany : Addr
  c_TooMany : Addr
  k_TooMany : Addr
/-- .. and what is true of them -/
structure Txt (P : Program) (K : PySem.W.Frag) (mg : Str → Option Value) (base : Heap) (a : Ad) : Prop where
  F_is_integer : Fun K "is_integer" "is_integer" s_is_integer a.f_is_integer a.d_is_integer
  B_is_integer : Binds K a.d_is_integer (["value"] : List Str) []
  g_is_integer : mg "is_integer" = some (.ref a.f_is_integer)
  k_is_integer : PySem.W.keepIn K (.ref a.f_is_integer) = true
  F_is_between : Fun K "is_between" "is_between" s_is_between a.f_is_between a.d_is_between
  B_is_between : Binds K a.d_is_between (["value", "low", "high"] : List Str) []
  g_is_between : mg "is_between" = some (.ref a.f_is_between)
  k_is_between : PySem.W.keepIn K (.ref a.f_is_between) = true
  F_check_between : Fun K "check_between" "check_between" s_check_between a.f_check_between a.d_check_between
  B_check_between : Binds K a.d_check_between (["value", "low", "high"] : List Str) []
  g_check_between : mg "check_between" = some (.ref a.f_check_between)
  k_check_between : PySem.W.keepIn K (.ref a.f_check_between) = true
  F_font_order : FunC K "font_order" "font_order" s_font_order a.f_font_order a.d_font_order a.c_font_order
  TB_font_order : LamX.TabB base mg a.c_font_order a.P_font_order
  B_font_order : Binds K a.d_font_order (["glyphs"] : List Str) []
  g_font_order : mg "font_order" = some (.ref a.f_font_order)
  k_font_order : PySem.W.keepIn K (.ref a.f_font_order) = true
  F_is_name : Fun K "is_name" "is_name" s_is_name a.f_is_name a.d_is_name
  B_is_name : Binds K a.d_is_name (["glyph"] : List Str) []
  g_is_name : mg "is_name" = some (.ref a.f_is_name)
  k_is_name : PySem.W.keepIn K (.ref a.f_is_name) = true
  F_Font_known : Fun K "known" "Font.known" s_Font_known a.f_Font_known a.d_Font_known
  B_Font_known : Binds K a.d_Font_known (["self", "glyph"] : List Str) []
  M_Font_known : Meth K a.C_Font "known" a.f_Font_known
  F_Font_ligatures : Fun K "ligatures" "Font.ligatures" s_Font_ligatures a.f_Font_ligatures a.d_Font_ligatures
  B_Font_ligatures : Binds K a.d_Font_ligatures (["self"] : List Str) []
  P_Font_ligatures : PropOf K a.C_Font "ligatures" a.p_Font_ligatures a.f_Font_ligatures
  F_Font_glyphs : Fun K "glyphs" "Font.glyphs" s_Font_glyphs a.f_Font_glyphs a.d_Font_glyphs
  B_Font_glyphs : Binds K a.d_Font_glyphs (["self"] : List Str) []
  M_Font_glyphs : Meth K a.C_Font "glyphs" a.f_Font_glyphs
  F_Font_advance_of : Fun K "advance_of" "Font.advance_of" s_Font_advance_of a.f_Font_advance_of a.d_Font_advance_of
  B_Font_advance_of : Binds K a.d_Font_advance_of (["self", "glyph"] : List Str) []
  M_Font_advance_of : Meth K a.C_Font "advance_of" a.f_Font_advance_of
  F_Font_put_blank : Fun K "put_blank" "Font.put_blank" s_Font_put_blank a.f_Font_put_blank a.d_Font_put_blank
  B_Font_put_blank : Binds K a.d_Font_put_blank (["self", "advance"] : List Str) []
  M_Font_put_blank : Meth K a.C_Font "put_blank" a.f_Font_put_blank
  F_Font_put_advance : Fun K "put_advance" "Font.put_advance" s_Font_put_advance a.f_Font_put_advance a.d_Font_put_advance
  B_Font_put_advance : Binds K a.d_Font_put_advance (["self", "glyph", "advance"] : List Str) []
  M_Font_put_advance : Meth K a.C_Font "put_advance" a.f_Font_put_advance
  F_Font_init : FunD K "__init__" "Font.__init__" (defArgs s_Font_init) (defBody s_Font_init) (defScope s_Font_init) [V.non] [("blank", V.int 250)] a.f_Font_init a.d_Font_init
  B1_Font_init : Binds K a.d_Font_init (["self", "advances", "kerns", "blank"] : List Str) a.v1_Font_init
  V1_Font_init : Vals [V.non, V.int 250] a.v1_Font_init
  F_width_table : Fun K "width_table" "width_table" s_width_table a.f_width_table a.d_width_table
  B_width_table : Binds K a.d_width_table (["font"] : List Str) []
  g_width_table : mg "width_table" = some (.ref a.f_width_table)
  k_width_table : PySem.W.keepIn K (.ref a.f_width_table) = true
  F_law_bag : Fun K "_law_bag" "_law_bag" s_law_bag a.f_law_bag a.d_law_bag
  B_law_bag : Binds K a.d_law_bag (["_law_script"] : List Str) []
  g_law_bag : mg "_law_bag" = some (.ref a.f_law_bag)
  k_law_bag : PySem.W.keepIn K (.ref a.f_law_bag) = true
  F_law_take : Fun K "_law_take" "_law_take" s_law_take a.f_law_take a.d_law_take
  B_law_take : Binds K a.d_law_take (["_law_bag_here", "_law_size"] : List Str) []
  g_law_take : mg "_law_take" = some (.ref a.f_law_take)
  k_law_take : PySem.W.keepIn K (.ref a.f_law_take) = true
  F_law_letters : Fun K "_law_letters" "_law_letters" s_law_letters a.f_law_letters a.d_law_letters
  B_law_letters : Binds K a.d_law_letters (["_law_bag_here", "_law_many"] : List Str) []
  g_law_letters : mg "_law_letters" = some (.ref a.f_law_letters)
  k_law_letters : PySem.W.keepIn K (.ref a.f_law_letters) = true
  F_law_row : Fun K "_law_row" "_law_row" s_law_row a.f_law_row a.d_law_row
  B_law_row : Binds K a.d_law_row (["_law_bag_here", "_law_letters_here", "_law_long"] : List Str) []
  g_law_row : mg "_law_row" = some (.ref a.f_law_row)
  k_law_row : PySem.W.keepIn K (.ref a.f_law_row) = true
  F_law_commas : Fun K "_law_commas" "_law_commas" s_law_commas a.f_law_commas a.d_law_commas
  B_law_commas : Binds K a.d_law_commas (["_law_number"] : List Str) []
  g_law_commas : mg "_law_commas" = some (.ref a.f_law_commas)
  k_law_commas : PySem.W.keepIn K (.ref a.f_law_commas) = true
  F_law_line : Fun K "_law_line" "_law_line" s_law_line a.f_law_line a.d_law_line
  B_law_line : Binds K a.d_law_line (["_law_glyph", "_law_number"] : List Str) []
  g_law_line : mg "_law_line" = some (.ref a.f_law_line)
  k_law_line : PySem.W.keepIn K (.ref a.f_law_line) = true
  F_law : Fun K "law" "law" s_law a.f_law a.d_law
  B_law : Binds K a.d_law (["_law_script"] : List Str) []
  g_law : mg "law" = some (.ref a.f_law)
  k_law : PySem.W.keepIn K (.ref a.f_law) = true
  cr_Font : ClX.CRead K a.C_Font (.type "type")
  cv_Font_MOST_ADVANCE : ∃ u, ClX.CVal K a.C_Font (.type "type") "MOST_ADVANCE" (.int 1000000) u
  cv_Font_MOST_LETTERS : ∃ u, ClX.CVal K a.C_Font (.type "type") "MOST_LETTERS" (.int 6) u
  cv_Font_MOST_LIGATURES : ∃ u, ClX.CVal K a.C_Font (.type "type") "MOST_LIGATURES" (.int 40) u
  g_Font : mg "Font" = some (.ref a.C_Font)
  c_Font : Cls K a.C_Font
  I_Font : InsC K a.C_Font
  M_Font : Mk K a.C_Font a.f_Font_init
  E_InvalidGlyph : ErrC P K mg "InvalidGlyph" "InvalidGlyph.__init__" (defArgs s_InvalidGlyph_init) (defBody s_InvalidGlyph_init) (defScope s_InvalidGlyph_init) a.C_InvalidGlyph a.i_InvalidGlyph a.c_InvalidGlyph a.k_InvalidGlyph
  Y_InvalidGlyph : Txt1 "InvalidGlyph.__init__" "glyph" "not a glyph name" (defArgs s_InvalidGlyph_init) (defBody s_InvalidGlyph_init) (defScope s_InvalidGlyph_init)
  X_InvalidGlyph : ExcC K a.C_InvalidGlyph
  x_InvalidGlyph_glyph : PySem.W.findIn K (.ref a.C_InvalidGlyph) "glyph" = some none
  E_InvalidNumber : ErrC P K mg "InvalidNumber" "InvalidNumber.__init__" (defArgs s_InvalidNumber_init) (defBody s_InvalidNumber_init) (defScope s_InvalidNumber_init) a.C_InvalidNumber a.i_InvalidNumber a.c_InvalidNumber a.k_InvalidNumber
  Y_InvalidNumber : Txt1 "InvalidNumber.__init__" "value" "not a valid number" (defArgs s_InvalidNumber_init) (defBody s_InvalidNumber_init) (defScope s_InvalidNumber_init)
  X_InvalidNumber : ExcC K a.C_InvalidNumber
  x_InvalidNumber_value : PySem.W.findIn K (.ref a.C_InvalidNumber) "value" = some none
  E_UnknownGlyph : ErrC P K mg "UnknownGlyph" "UnknownGlyph.__init__" (defArgs s_UnknownGlyph_init) (defBody s_UnknownGlyph_init) (defScope s_UnknownGlyph_init) a.C_UnknownGlyph a.i_UnknownGlyph a.c_UnknownGlyph a.k_UnknownGlyph
  Y_UnknownGlyph : Txt1 "UnknownGlyph.__init__" "glyph" "the font does not have the glyph" (defArgs s_UnknownGlyph_init) (defBody s_UnknownGlyph_init) (defScope s_UnknownGlyph_init)
  X_UnknownGlyph : ExcC K a.C_UnknownGlyph
  x_UnknownGlyph_glyph : PySem.W.findIn K (.ref a.C_UnknownGlyph) "glyph" = some none
  E_TooMany : ErrC P K mg "TooMany" "TooMany.__init__" (defArgs s_TooMany_init) (defBody s_TooMany_init) (defScope s_TooMany_init) a.C_TooMany a.i_TooMany a.c_TooMany a.k_TooMany
  Y_TooMany : Txt1 "TooMany.__init__" "limit" "too many ligatures" (defArgs s_TooMany_init) (defBody s_TooMany_init) (defScope s_TooMany_init)
  X_TooMany : ExcC K a.C_TooMany
  x_TooMany_limit : PySem.W.findIn K (.ref a.C_TooMany) "limit" = some none
  n_bool : mg "bool" = none
  n_dict : mg "dict" = none
  n_int : mg "int" = none
  n_isinstance : mg "isinstance" = none
  n_len : mg "len" = none
  n_list : mg "list" = none
  n_range : mg "range" = none
  n_sorted : mg "sorted" = none
  n_str : mg "str" = none
  na_Font_rows : NoAttr K a.C_Font "rows"
  na_Font_pairs : NoAttr K a.C_Font "pairs"
  na_Font_space : NoAttr K a.C_Font "space"
  na_Font_past : NoAttr K a.C_Font "past"
theorem bb_bool : bootBuiltins "bool" = some (.type "bool") := by decide +kernel
theorem bb_dict : bootBuiltins "dict" = some (.type "dict") := by decide +kernel
theorem bb_int : bootBuiltins "int" = some (.type "int") := by decide +kernel
theorem bb_isinstance : bootBuiltins "isinstance" = some (.builtin "isinstance") := by decide +kernel
theorem bb_len : bootBuiltins "len" = some (.builtin "len") := by decide +kernel
theorem bb_list : bootBuiltins "list" = some (.type "list") := by decide +kernel
theorem bb_range : bootBuiltins "range" = some (.type "range") := by decide +kernel
theorem bb_sorted : bootBuiltins "sorted" = some (.builtin "sorted") := by decide +kernel
theorem bb_str : bootBuiltins "str" = some (.type "str") := by decide +kernel
end FG
namespace FG
open PySem PySem.Spec L2
local macro_rules | `(tactic| walk_at "s") => `(tactic| first
  | with_reducible refine w_seq ?_
  | with_reducible refine w_asg ?_
  | with_reducible refine w_ifs ?_
  | with_reducible refine w_ret ?_
  | with_reducible refine w_drop ?_
  | ((with_reducible refine' w_var ?h1 ?_); case h1 => rfl)
  | with_reducible refine w_c ?_
  | with_reducible refine w_op ?_
  | with_reducible refine w_I0 ?_
  | with_reducible refine w_cons ?_
  | with_reducible refine w_nil ?_
  | ((with_reducible refine' w_gname ?h1 ?_); case h1 => dsimp only [List.set])
  | with_reducible refine w_test ?_
  | with_reducible refine w_bl ?_
  | with_reducible refine w_blE ?_
  | with_reducible refine w_cb ?_
  | with_reducible refine w_call ?_
  | with_reducible refine w_callSD ?_
  | with_reducible refine w_andV ?_
  | with_reducible refine w_orV ?_
  | with_reducible refine w_notV ?_
  | with_reducible refine w_and ?_
  | with_reducible refine w_or ?_
  | with_reducible refine w_not ?_
  | with_reducible refine w_if ?_
  | with_reducible refine w_un ?_
  | with_reducible refine w_U ?_
  | with_reducible refine w_next ?_
  | with_reducible refine w_retN ?_
  | with_reducible refine w_tB ?_
  | with_reducible refine w_tup ?_
  | with_reducible refine w_lst ?_
  | with_reducible refine w_abs ?_
  | with_reducible refine w_int1 ?_
  | ((with_reducible refine' w_eq ?h1 ?_); case h1 => rfl)
  | ((with_reducible refine' w_ne ?h1 ?_); case h1 => rfl)
  | with_reducible refine w_gsub ?_
  | with_reducible refine w_sfld ?_
  | with_reducible refine w_par ?_
  | with_reducible refine w_rs ?_
  | with_reducible refine w_forR1 ?_
  | with_reducible refine w_forR2 ?_
  | with_reducible refine w_forL ?_
  | with_reducible refine w_fld ?_
  | with_reducible refine iteT ?_
  | with_reducible refine iteF ?_
  | with_reducible refine iteNT ?_
  | with_reducible refine iteNF ?_
  | with_reducible refine w_mk1 ?_
  | with_reducible refine w_mk2 ?_
  | with_reducible refine w_one ?_
  | with_reducible refine w_two ?_
  | with_reducible refine w_sl ?_
  | with_reducible refine w_nopart ?_
  | with_reducible refine w_part ?_
  | with_reducible refine w_exI ?_
  | with_reducible refine w_mks ?_
  | with_reducible refine w_isN ?_
  | with_reducible refine w_notN ?_
  | with_reducible refine w_min2 ?_
  | with_reducible refine w_max2 ?_
  | ((with_reducible refine' w_ix ?h1 ?h2 ?_); (case h1 => walk_at "q"); (case h2 => rfl))
  | ((with_reducible refine' w_ixT ?h1 ?h2 ?_); (case h1 => walk_at "q"); (case h2 => rfl))
  | ((with_reducible refine' w_setL ?h1 ?h2 ?_); (case h1 => walk_at "h"); (case h2 => rfl))
  | ((with_reducible refine' w_lenS ?h1 ?_); (case h1 => walk_at "q"))
  | ((with_reducible refine' w_lenT ?h1 ?_); (case h1 => walk_at "q"))
  | ((with_reducible refine' w_I ?h1 ?_); (case h1 => first | (show (0 : Int) < _; first | decide | assumption) | exact ⟨by decide, by decide, by decide⟩ | (show CDivX _ _; exact ⟨by decide, by decide +kernel⟩) | (show CDivX _ _; with_reducible apply_assumption) | (show CMulW _ _; exact small_mul (by with_reducible assumption) (by with_reducible assumption)) | (show CMul _ _; first | exact Or.inl ⟨by decide, by decide⟩ | exact Or.inr ⟨by decide, by decide⟩ | exact Or.inl ⟨by omega, by omega⟩ | exact Or.inr ⟨by omega, by omega⟩))))
local macro_rules | `(tactic| walk_at "h") => `(tactic| first | with_reducible assumption | exact upd_same | (refine upd_old ?_ ?_ <;> with_reducible assumption) | ((refine (upd_ne ?_).trans ?_) <;> (first | assumption | walk_at "h" | exact Ne.symm (by assumption))))
local macro_rules | `(tactic| walk_at "q") => `(tactic| first | with_reducible assumption | exact SqL.of (by walk_at "h") | exact SqT.of (by walk_at "h"))
local macro_rules | `(tactic| walk_at "w") => `(tactic| repeat (walk_at "s"))

/-- what isinstance(x, int) and not isinstance(x, bool) gives -/
def IsI (K : PySem.W.Frag) (H : Hp) (x : V) (b : Bool) : Prop := ∃ t b1 b2, TyX K H x t ∧ PySem.W.kitOne K t (.type "int") = some b1 ∧ (b1 = true → PySem.W.kitOne K t (.type "bool") = some b2) ∧ b = (b1 && !b2)
theorem isI_int {K : PySem.W.Frag} {H : Hp} (i : Int) : IsI K H (.int i) true := ⟨_, true, false, .base (.int i), kit_ty (by decide +kernel), fun _ => kit_ty (by decide +kernel), rfl⟩
theorem isI_bl {K : PySem.W.Frag} {H : Hp} (b : Bool) : IsI K H (.bl b) false := ⟨_, true, true, .base (.bl b), kit_ty (by decide +kernel), fun _ => kit_ty (by decide +kernel), rfl⟩
theorem isI_non {K : PySem.W.Frag} {H : Hp} : IsI K H .non false := ⟨_, false, false, .base .non, kit_ty (by decide +kernel), (fun z => by cases z), rfl⟩
theorem isI_str {K : PySem.W.Frag} {H : Hp} (x : Str) : IsI K H (.str x) false := ⟨_, false, false, .base (.str x), kit_ty (by decide +kernel), (fun z => by cases z), rfl⟩
theorem isI_lst {K : PySem.W.Frag} {H : Hp} {a : Addr} {xs : List V} (e : H a = some (.lst xs)) : IsI K H (.ref a) false := ⟨_, false, false, .base (.lst e), kit_ty (by decide +kernel), (fun z => by cases z), rfl⟩
theorem isI_tup {K : PySem.W.Frag} {H : Hp} {a : Addr} {xs : List V} (e : H a = some (.tup xs)) : IsI K H (.ref a) false := ⟨_, false, false, .base (.tup e), kit_ty (by decide +kernel), (fun z => by cases z), rfl⟩
/-- both defs that ask it -/
abbrev sp_isint (K : PySem.W.Frag) : Sp := sp1 fun x H Q _ => ∃ b, IsI K H x b ∧ Q (.bl b) H

abbrev sp_is_integer (K : PySem.W.Frag) (a : Ad) : Sp := sp_isint K
theorem ok_is_integer {P : Program} {w : World} {K : PySem.W.Frag} {mg : Str → Option Value} {base : Heap} {a : Ad} (T : Txt P K mg base a) : FnOk P w K mg base CX0 1 a.f_is_integer a.d_is_integer (["value"] : List Str) (sp_is_integer K a) := by
  refine T.F_is_integer.ok sc_is_integer (fun vs H Q E h => sp1_len h) (fun cdv A outer s H vs Q E hr h => ?_)
  have hu := hu_of hr
  refine ⟨_, (pss_one (ps_ret (pe_and (pe_callB call_isi (by rfl) T.n_isinstance bb_isinstance (pa_cons (pv 0) (pa_cons (pe_bltn (v := .ty "int") (by rfl) T.n_int bb_int rfl) pa_nil))) (pe_one (pe_not (pe_callB call_isi (by rfl) T.n_isinstance bb_isinstance (pa_cons (pv 0) (pa_cons (pe_bltn (v := .ty "bool") (by rfl) T.n_bool bb_bool rfl) pa_nil)))))))), ?_⟩
  try dsimp only [L2.cxOf]
  obtain ⟨x, rfl, b, ⟨t, b1, b2, ty, k1, k2, rfl⟩, k⟩ := h
  rw [show L2.start (["value"] : List Str) [x] = ([some (x)] : L2.St) from rfl]
  walk_at "w"
  refine w_isi (.ty "int") ty k1 ?_
  walk_at "w"
  refine it_b (fun e1 => ?_) (fun e1 => ?_)
  · walk_at "w"
    refine w_isi (.ty "bool") ty (k2 e1) ?_
    walk_at "w"
    subst e1
    exact k
  · subst e1
    exact k

/-- InvalidNumber(v) is raised -/
abbrev raiseIN (a : Ad) (v : V) (H : Hp) (E : XK) : Prop := ∀ d, H d = none → E (.ref a.C_InvalidNumber) (some d) (upd H d (.xd [("value", v)]))
theorem ratio_put {x y : V} : putF "bottom" y (putF "top" x []) = ([("top", x), ("bottom", y)] : List (Str × V)) := by
  have h : ¬ (("top" : Str) = "bottom") := by decide +kernel
  show (if ("top" : Str) = "bottom" then [(("top" : Str), y)] else (("top" : Str), x) :: putF "bottom" y []) = _
  rw [if_neg h]
  rfl

/-! ### a font's rows, plainly -/
abbrev Rows := List (Str × Int)
def encV (r : List (Str × V)) : List (L2.Key × V) := r.map fun x => (Sum.inr x.1, x.2)
def encR (r : Rows) : List (L2.Key × V) := r.map fun x => (Sum.inr x.1, V.int x.2)
def getR {α : Type} (r : List (Str × α)) (g : Str) : Option α := (r.find? fun x => decide (x.1 = g)).map (·.2)
def putR {α : Type} (r : List (Str × α)) (g : Str) (n : α) : List (Str × α) := if (r.any fun x => decide (x.1 = g)) = true then r.map (fun x => if x.1 = g then (x.1, n) else x) else r ++ [(g, n)]
theorem encR_V (r : Rows) : encR r = encV (r.map fun x => (x.1, V.int x.2)) := by simp [encR, encV]
theorem val_encV (r : List (Str × V)) (g : Str) : valV (encV r) (Sum.inr g) = getR r g := by
  unfold valV getR encV
  rw [List.find?_map]
  simp only [Option.map_map]
  congr 1
  congr 1
  funext x
  simp
theorem val_encR (r : Rows) (g : Str) : valV (encR r) (Sum.inr g) = (getR r g).map V.int := by
  unfold valV getR encR
  rw [List.find?_map]
  simp only [Option.map_map]
  congr 1
  congr 1
  funext x
  simp
theorem put_encV (r : List (Str × V)) (g : Str) (n : V) : putK (encV r) (Sum.inr g) n = encV (putR r g n) := by
  unfold putK putR encV
  rw [List.any_map]
  have e : ((fun kv : L2.Key × V => decide (kv.1 = Sum.inr g)) ∘ fun x : Str × V => ((Sum.inr x.1 : L2.Key), x.2)) = fun x => decide (x.1 = g) := by
    funext x
    simp
  rw [e]
  split
  · simp only [List.map_map]
    congr 1
    funext x
    by_cases c : x.1 = g <;> simp [c]
  · simp
theorem putR_map {α β : Type} (f : α → β) (r : List (Str × α)) (g : Str) (n : α) : putR (r.map fun x => (x.1, f x.2)) g (f n) = (putR r g n).map fun x => (x.1, f x.2) := by
  unfold putR
  rw [List.any_map]
  have e : ((fun x : Str × β => decide (x.1 = g)) ∘ fun x : Str × α => (x.1, f x.2)) = fun x => decide (x.1 = g) := by
    funext x
    rfl
  rw [e]
  split
  · simp only [List.map_map]
    congr 1
    funext x
    by_cases c : x.1 = g <;> simp [c]
  · simp
theorem put_encR (r : Rows) (g : Str) (n : Int) : putK (encR r) (Sum.inr g) (V.int n) = encR (putR r g n) := by
  rw [encR_V, encR_V, put_encV, putR_map]
theorem getR_put_same {α : Type} (r : List (Str × α)) (g : Str) (n : α) : getR (putR r g n) g = some n := by
  unfold getR putR
  split
  · rename_i h
    rw [List.find?_map]
    have e : ((fun x : Str × α => decide (x.1 = g)) ∘ fun x => if x.1 = g then (x.1, n) else x) = fun x => decide (x.1 = g) := by
      funext x
      by_cases c : x.1 = g <;> simp [c]
    rw [e]
    obtain ⟨y, hy⟩ := Option.isSome_iff_exists.mp (List.find?_isSome.mpr (List.any_eq_true.mp h))
    rw [hy]
    have hg : y.1 = g := by simpa using List.find?_some hy
    simp [hg]
  · rename_i h
    have h0 : r.find? (fun x => decide (x.1 = g)) = none := by
      rw [List.find?_eq_none]
      intro x hx c
      exact h (List.any_eq_true.mpr ⟨x, hx, c⟩)
    rw [List.find?_append, h0]
    simp
theorem getR_put_ne {α : Type} (r : List (Str × α)) (g k : Str) (n : α) (h : k ≠ g) : getR (putR r g n) k = getR r k := by
  unfold getR putR
  split
  · rw [List.find?_map]
    have e : ((fun x : Str × α => decide (x.1 = k)) ∘ fun x => if x.1 = g then (x.1, n) else x) = fun x => decide (x.1 = k) := by
      funext x
      by_cases c : x.1 = g
      · simp [c]
      · simp [c]
    rw [e]
    cases q : r.find? (fun x => decide (x.1 = k)) with
    | none => rfl
    | some y =>
      have hk : y.1 = k := by simpa using List.find?_some q
      have : ¬ y.1 = g := fun z => h (hk.symm.trans z)
      simp [this]
  · rw [List.find?_append]
    have e : List.find? (fun x : Str × α => decide (x.1 = k)) [(g, n)] = none := by
      simp [Ne.symm h]
    rw [e]
    simp
theorem keys_put {α : Type} (r : List (Str × α)) (g : Str) (n : α) : (putR r g n).map (·.1) = if g ∈ r.map (·.1) then r.map (·.1) else r.map (·.1) ++ [g] := by
  unfold putR
  by_cases c : g ∈ r.map (·.1)
  · have h : (r.any fun x => decide (x.1 = g)) = true := by
      obtain ⟨x, hx, e⟩ := List.mem_map.mp c
      exact List.any_eq_true.mpr ⟨x, hx, by simp [e]⟩
    rw [if_pos h, if_pos c, List.map_map]
    congr 1
    funext x
    by_cases c : x.1 = g <;> simp [c]
  · have h : ¬ (r.any fun x => decide (x.1 = g)) = true := fun z => c (by
      obtain ⟨x, hx, e⟩ := List.any_eq_true.mp z
      exact List.mem_map.mpr ⟨x, hx, by simpa using e⟩)
    rw [if_neg h, if_neg c]
    simp
theorem getR_mem {α : Type} {r : List (Str × α)} {g : Str} : (getR r g).isSome = true ↔ g ∈ r.map (·.1) := by
  unfold getR
  rw [Option.isSome_map, List.find?_isSome]
  constructor
  · rintro ⟨x, hx, e⟩
    exact List.mem_map.mpr ⟨x, hx, by simpa using e⟩
  · intro h
    obtain ⟨x, hx, e⟩ := List.mem_map.mp h
    exact ⟨x, hx, by simp [e]⟩
theorem keys_encV (r : List (Str × V)) : (encV r).map (·.1) = (r.map (·.1)).map (Sum.inr : Str → L2.Key) := by simp [encV]
theorem keys_encR (r : Rows) : (encR r).map (·.1) = (r.map (·.1)).map (Sum.inr : Str → L2.Key) := by simp [encR]
/-- a glyph's name -/
def isName (z : Str) : Bool := decide (1 ≤ z.length ∧ z.length ≤ 6) && z.cps.toList.all fun c => decide (97 ≤ c ∧ c ≤ 122)
def ligs (r : Rows) : List Str := (r.map (·.1)).filter fun z => decide (1 < z.length)
/-- why an advance is refused -/
inductive FErr where
  | ig (g : Str) | inn (v : V) | ug (g : Str) | tm
def one (c : Nat) : Str := ⟨#[c]⟩
def missing (r : Rows) (z : Str) : Option Nat := z.cps.toList.find? fun c => (getR r (one c)).isNone
def paRes (r : Rows) (z : Str) (y : V) : Except FErr Rows :=
  if isName z = true then match y with
    | .int n => if 0 ≤ n ∧ n ≤ 1000000 then (if 1 < z.length then match missing r z with
        | some c => .error (.ug (one c))
        | none => if (getR r z).isNone = true ∧ 40 ≤ (ligs r).length then .error .tm else .ok (putR r z n) else .ok (putR r z n)) else .error (.inn y)
    | v => .error (.inn v)
  else .error (.ig z)

theorem units64 {k : Nat} {A : Around} (hr : Room k A) : A.units + 64 < cLine := by
  have := hr.un
  omega
local macro_rules | `(tactic| walk_at "s2") => `(tactic| first
  | with_reducible refine w_chain ?_
  | with_reducible refine w_leS ?_
  | with_reducible refine w_for ?_
  | with_reducible refine w_lc ?_
  | with_reducible refine w_iL ?_
  | with_reducible refine w_iK ?_
  | with_reducible refine w_iS ?_
  | with_reducible refine w_iT ?_
  | with_reducible refine w_iR1 ?_
  | with_reducible refine w_dnew ?_
  | with_reducible refine w_dget ?_
  | with_reducible refine w_din ?_
  | with_reducible refine w_dnin ?_
  | with_reducible refine w_dput ?_
  | with_reducible refine w_prop ?_
  | with_reducible refine w_meth ?_
  | with_reducible refine w_mtS ?_
  | with_reducible refine w_cval ?_
  | with_reducible refine w_mkKS ?_
  | with_reducible refine w_bm ?_
  | with_reducible refine w_bm0 ?_)
local macro_rules | `(tactic| walk_at "w") => `(tactic| repeat (first | walk_at "s" | walk_at "s2"))

def isIntV : V → Bool
  | .int _ => true
  | _ => false
abbrev qfo : Str := ("font_order" : Str) ++ ".<locals>." ++ "<lambda>"
/-- font_order's table of code objects stands -/
abbrev Tab (a : Ad) (H : Hp) : Prop := LamX.TabS H a.P_font_order qfo
theorem Tab.same {a : Ad} {H H' : Hp} (t : Tab a H) (s : Same H H') : Tab a H' := LamX.TabS.ext t s
theorem Tab.new {a : Ad} {H : Hp} {p : Addr} {o : HO} (t : Tab a H) (n : H p = none) : Tab a (upd H p o) := Tab.same t (Same.new n)
/-- not a table, not a code object -/
def Pl : HO → Prop
  | .tbl _ => False
  | .ext _ => False
  | _ => True
theorem Tab.upd {a : Ad} {H : Hp} {p : Addr} {u o : HO} (t : Tab a H) (h : H p = some u) (pl : Pl u) : Tab a (L2.upd H p o) := by
  obtain ⟨ps, h1, h2, h3⟩ := t
  refine ⟨ps, ?_, h2, fun pos cv hc => ?_⟩
  · rw [upd_ne (fun z => by rw [← z, h1] at h; cases h; exact pl)]
    exact h1
  · obtain ⟨c, e1, e2⟩ := h3 pos cv hc
    refine ⟨c, e1, ?_⟩
    rw [upd_ne (fun z => by rw [← z, e2] at h; unfold LamX.CodeO at h; cases h; exact pl)]
    exact e2
/-- all but what stands at bs and the tables stays -/
def Fr (bs : List Addr) (H H' : Hp) : Prop := ∀ b o, H b = some o → NT o → b ∉ bs → H' b = some o
theorem Fr.of {bs : List Addr} {H H' : Hp} (e : Ex H H') : Fr bs H H' := fun b o h n _ => e b o h n
theorem Fr.refl {bs : List Addr} {H : Hp} : Fr bs H H := fun _ _ h _ _ => h
theorem Fr.trans {bs : List Addr} {H H1 H2 : Hp} (x : Fr bs H H1) (y : Fr bs H1 H2) : Fr bs H H2 := fun b o h n k => y b o (x b o h n k) n k
theorem Fr.upd {bs : List Addr} {H H1 : Hp} {p : Addr} {o : HO} (x : Fr bs H H1) (h : p ∈ bs) : Fr bs H (L2.upd H1 p o) := fun b u e n k => by
  rw [upd_ne (fun z => k (by rw [z]; exact h))]
  exact x b u e n k
theorem Fr.new {bs : List Addr} {H H1 : Hp} {p : Addr} {o : HO} (x : Fr bs H H1) (h : H1 p = none) : Fr bs H (L2.upd H1 p o) := fun b u e n k => upd_old (x b u e n k) h
theorem Fr.mono {bs cs : List Addr} {H H' : Hp} (x : Fr bs H H') (h : ∀ b ∈ bs, b ∈ cs) : Fr cs H H' := fun b o e n k => x b o e n fun z => k (h b z)
def ffields (ro pr pa : Addr) (s : Int) : List (Str × V) := [("rows", .ref ro), ("pairs", .ref pr), ("space", .int s), ("past", .ref pa)]
theorem fk1 : (("pairs" : Str) == "rows") = false := by decide +kernel
theorem fk2 : (("space" : Str) == "rows") = false := by decide +kernel
theorem fk3 : (("space" : Str) == "pairs") = false := by decide +kernel
theorem fk4 : (("past" : Str) == "rows") = false := by decide +kernel
theorem fk5 : (("past" : Str) == "pairs") = false := by decide +kernel
theorem fk6 : (("past" : Str) == "space") = false := by decide +kernel
section
variable {ro pr pa : Addr} {s : Int}
theorem ff_rows : (ffields ro pr pa s).lookup ("rows" : Str) = some (.ref ro) := by simp [ffields, List.lookup]
theorem ff_pairs : (ffields ro pr pa s).lookup ("pairs" : Str) = some (.ref pr) := by simp [ffields, List.lookup, fk1]
theorem ff_space : (ffields ro pr pa s).lookup ("space" : Str) = some (.int s) := by simp [ffields, List.lookup, fk2, fk3]
theorem ff_past : (ffields ro pr pa s).lookup ("past" : Str) = some (.ref pa) := by simp [ffields, List.lookup, fk4, fk5, fk6]
theorem ff_no {f : Str} (h : (["rows", "pairs", "space", "past"] : List Str).all (fun x => !(f == x)) = true) : (ffields ro pr pa s).lookup f = none := by
  simp only [List.all_cons, List.all_nil, Bool.and_true, Bool.and_eq_true, Bool.not_eq_true'] at h
  simp [ffields, List.lookup, h.1, h.2.1, h.2.2.1, h.2.2.2]
theorem ff_put (n : Int) : putF "space" (.int n) (ffields ro pr pa s) = ffields ro pr pa n := by
  have h1 : ¬ (("rows" : Str) = "space") := by decide +kernel
  have h2 : ¬ (("pairs" : Str) = "space") := by decide +kernel
  simp [ffields, putF, h1, h2]
end
/-- a font without kerns stands at p -/
structure FontAt (a : Ad) (H : Hp) (p dx ro pr pa : Addr) (r : Rows) (s : Int) : Prop where
  ins : H p = some (.ins a.C_Font dx (ffields ro pr pa s))
  row : H ro = some (.dK (encR r))
  pai : H pr = some (.dK [])
  ne : ro ≠ pr
theorem FontAt.fr {a : Ad} {H H' : Hp} {p dx ro pr pa : Addr} {r : Rows} {s : Int} {bs : List Addr} (F : FontAt a H p dx ro pr pa r s) (x : Fr bs H H') (h1 : p ∉ bs) (h2 : ro ∉ bs) (h3 : pr ∉ bs) : FontAt a H' p dx ro pr pa r s :=
  ⟨x _ _ F.ins trivial h1, x _ _ F.row trivial h2, x _ _ F.pai trivial h3, F.ne⟩
theorem FontAt.ex {a : Ad} {H H' : Hp} {p dx ro pr pa : Addr} {r : Rows} {s : Int} (F : FontAt a H p dx ro pr pa r s) (x : Ex H H') : FontAt a H' p dx ro pr pa r s := F.fr (bs := []) (Fr.of x) (by simp) (by simp) (by simp)
/-- its rows are put anew -/
theorem FontAt.put {a : Ad} {H : Hp} {p dx ro pr pa : Addr} {r : Rows} {s : Int} (F : FontAt a H p dx ro pr pa r s) (r' : Rows) : FontAt a (upd H ro (.dK (encR r'))) p dx ro pr pa r' s :=
  ⟨by rw [upd_ne (ne_of F.ins F.row (by intro z; cases z))]; exact F.ins, upd_same, by rw [upd_ne (Ne.symm F.ne)]; exact F.pai, F.ne⟩
/-- an error is raised behind H -/
abbrev raiseG (a : Ad) (H : Hp) (E : XK) (C : Addr) (fs : List (Str × V)) : Prop := ∀ H' d, Ex H H' → Tab a H' → H' d = none → E (.ref C) (some d) (upd H' d (.xd fs))
def raiseF (a : Ad) (H : Hp) (E : XK) : FErr → Prop
  | .ig g => raiseG a H E a.C_InvalidGlyph [("glyph", .str g)]
  | .inn v => raiseG a H E a.C_InvalidNumber [("value", v)]
  | .ug g => raiseG a H E a.C_UnknownGlyph [("glyph", .str g)]
  | .tm => raiseG a H E a.C_TooMany [("limit", .int 40)]
theorem raiseF.ex {a : Ad} {H H1 : Hp} {E : XK} {e : FErr} (h : raiseF a H E e) (x : Ex H H1) : raiseF a H1 E e := by
  cases e <;> exact fun H' d y => h H' d (x.trans y)
theorem kitSS {K : PySem.W.Frag} : PySem.W.kitOne K (.type "str") (.type "str") = some true := kit_ty (by decide +kernel)
theorem ltOne (c d : Nat) : decide (([c] : List Nat) < [d]) = decide (c < d) := decide_eq_decide.mpr (by rw [List.cons_lt_cons_iff]; simp)
theorem aCps : (Str.ofString "a").cps.toList = [97] := by decide +kernel
theorem zCps : (Str.ofString "z").cps.toList = [122] := by decide +kernel
section
variable {P : Program} {K : PySem.W.Frag} {mg : Str → Option Value} {base : Heap} {a : Ad} {H : Hp} {p dx ro pr pa : Addr} {r : Rows} {s : Int} {R : V → Prop}
theorem FontAt.rowsF (F : FontAt a H p dx ro pr pa r s) (T : Txt P K mg base a) (k : R (.ref ro)) : ∃ a' C dx fs v, V.ref p = .ref a' ∧ H a' = some (.ins C dx fs) ∧ Cls K C ∧ NoAttr K C "rows" ∧ fs.lookup ("rows" : Str) = some v ∧ R v := ⟨p, _, dx, _, _, rfl, F.ins, T.c_Font, T.na_Font_rows, ff_rows, k⟩
theorem FontAt.pairsF (F : FontAt a H p dx ro pr pa r s) (T : Txt P K mg base a) (k : R (.ref pr)) : ∃ a' C dx fs v, V.ref p = .ref a' ∧ H a' = some (.ins C dx fs) ∧ Cls K C ∧ NoAttr K C "pairs" ∧ fs.lookup ("pairs" : Str) = some v ∧ R v := ⟨p, _, dx, _, _, rfl, F.ins, T.c_Font, T.na_Font_pairs, ff_pairs, k⟩
theorem FontAt.spaceF (F : FontAt a H p dx ro pr pa r s) (T : Txt P K mg base a) (k : R (.int s)) : ∃ a' C dx fs v, V.ref p = .ref a' ∧ H a' = some (.ins C dx fs) ∧ Cls K C ∧ NoAttr K C "space" ∧ fs.lookup ("space" : Str) = some v ∧ R v := ⟨p, _, dx, _, _, rfl, F.ins, T.c_Font, T.na_Font_space, ff_space, k⟩
theorem FontAt.pastF (F : FontAt a H p dx ro pr pa r s) (T : Txt P K mg base a) (k : R (.ref pa)) : ∃ a' C dx fs v, V.ref p = .ref a' ∧ H a' = some (.ins C dx fs) ∧ Cls K C ∧ NoAttr K C "past" ∧ fs.lookup ("past" : Str) = some v ∧ R v := ⟨p, _, dx, _, _, rfl, F.ins, T.c_Font, T.na_Font_past, ff_past, k⟩
theorem FontAt.get (F : FontAt a H p dx ro pr pa r s) (g : Str) : DGet H ro (.str g) ((getR r g).map V.int) := by
  have h := DGet.k (k := (Sum.inr g : L2.Key)) F.row
  rw [val_encR] at h
  exact h
end

def sp_is_between (K : PySem.W.Frag) (a : Ad) : Sp := sp3 fun x lo hi H Q _ => ∃ (l h : Int) (b : Bool), lo = .int l ∧ hi = .int h ∧ IsI K H x b ∧ (b = false → Q (.bl false) H) ∧ (b = true → ∃ n : Int, x = .int n ∧ Q (.bl (decide (l ≤ n ∧ n ≤ h))) H)
theorem ok_is_between {P : Program} {w : World} {K : PySem.W.Frag} {mg : Str → Option Value} {base : Heap} {a : Ad} (T : Txt P K mg base a) : FnOk P w K mg base CX0 2 a.f_is_between a.d_is_between (["value", "low", "high"] : List Str) (sp_is_between K a) := by
  refine T.F_is_between.ok sc_is_between (fun vs H Q E h => sp3_len h) (fun cdv A outer s H vs Q E hr h => ?_)
  have hu := hu_of hr
  refine ⟨_, (pss_cons (ps_if (pt_not (pt_val (pe_call (ok_is_integer T) (hr.mono (by decide)) rfl T.g_is_integer T.k_is_integer T.B_is_integer .nil pass0 (pa_cons (pv 0) pa_nil)))) (pss_one (ps_ret pe_bl)) pss_nil)
      (pss_one (ps_ret (pe_chain op_le op_le (pv 1) (pv 0) (pv 2))))), ?_⟩
  try dsimp only [L2.cxOf]
  obtain ⟨x, lo, hi, rfl, l, h, b, rfl, rfl, hx, k0, k1⟩ := h
  rw [show L2.start (["value", "low", "high"] : List Str) [x, (.int l), (.int h)] = ([some (x), some ((.int l)), some ((.int h))] : L2.St) from rfl]
  walk_at "w"
  refine ⟨x, rfl, b, hx, ?_⟩
  cases b with
  | false =>
    walk_at "w"
    exact k0 rfl
  | true =>
    obtain ⟨n, rfl, k⟩ := k1 rfl
    walk_at "w"
    refine it_dec (fun c => ?_) (fun c => ?_)
    · walk_at "w"
      rw [show decide (l ≤ n ∧ n ≤ h) = decide (n ≤ h) from decide_eq_decide.mpr ⟨fun z => z.2, fun z => ⟨c, z⟩⟩] at k
      exact k
    · rw [decide_eq_false (fun z => c z.1)] at k
      exact k

def sp_check_between (K : PySem.W.Frag) (a : Ad) : Sp := sp3 fun x lo hi H Q E => ∃ (l h : Int) (b : Bool), lo = .int l ∧ hi = .int h ∧ IsI K H x b ∧ (b = false → raiseIN a x H E) ∧ (b = true → ∃ n : Int, x = .int n ∧ (l ≤ n ∧ n ≤ h → Q .non H) ∧ (¬ (l ≤ n ∧ n ≤ h) → raiseIN a x H E))
theorem ok_check_between {P : Program} {w : World} {K : PySem.W.Frag} {mg : Str → Option Value} {base : Heap} {a : Ad} (T : Txt P K mg base a) : FnOk P w K mg base (L2.CX P w) 3 a.f_check_between a.d_check_between (["value", "low", "high"] : List Str) (sp_check_between K a) := by
  refine T.F_check_between.okX sc_check_between (fun vs H Q E h => sp3_len h) (fun cdv A outer s H vs Q E hr h => ?_)
  have hu := hu_of hr
  refine ⟨_, (pss_one (ps_if (pt_not (pt_val (pe_call (ok_is_between T) (hr.mono (by decide)) rfl T.g_is_between T.k_is_between T.B_is_between .nil pass0 (pa_cons (pv 0) (pa_cons (pv 1) (pa_cons (pv 2) pa_nil)))))) (pss_one (ps_rs rfl (takes_of rfl rfl rfl rfl) (pmk1 T.E_InvalidNumber T.Y_InvalidNumber T.x_InvalidNumber_value hr (pa_cons (pv 0) pa_nil)))) pss_nil)), ?_⟩
  try dsimp only [L2.cxOf]
  obtain ⟨x, lo, hi, rfl, l, h, b, rfl, rfl, hx, k0, k1⟩ := h
  rw [show L2.start (["value", "low", "high"] : List Str) [x, (.int l), (.int h)] = ([some (x), some ((.int l)), some ((.int h))] : L2.St) from rfl]
  walk_at "w"
  refine ⟨x, _, _, rfl, l, h, b, rfl, rfl, hx, fun e => ?_, fun e => ?_⟩
  · walk_at "w"
    exact k0 e
  · obtain ⟨n, rfl, k2, k3⟩ := k1 e
    refine ⟨n, rfl, ?_⟩
    walk_at "w"
    refine it_ndec (fun c => ?_) (fun c => ?_)
    · walk_at "w"
      exact k2 c
    · walk_at "w"
      exact k3 c

def sp_font_order (K : PySem.W.Frag) (a : Ad) : Sp := sp1 fun x H Q _ => ∃ (p : Addr) (ss : List Str), x = .ref p ∧ (SqL K H p (ss.map V.str) ∨ ∃ kvs, H p = some (.dK kvs) ∧ kvs.map (·.1) = ss.map Sum.inr) ∧ ss.length ≤ 1000 ∧ (∀ z ∈ ss, z.length ≤ sizeLine) ∧ Tab a H ∧
  ∀ H' l, Ex H H' → Tab a H' → New H l → H' l = some (.lst ((ss.mergeSort rankLe).map V.str)) → Q (.ref l) H'
theorem ok_font_order {P : Program} {w : World} {K : PySem.W.Frag} {mg : Str → Option Value} {base : Heap} {a : Ad} (T : Txt P K mg base a) : FnOk P w K mg base CX0 3 a.f_font_order a.d_font_order (["glyphs"] : List Str) (sp_font_order K a) := by
  refine T.F_font_order.ok sc_font_order (fun vs H Q E h => sp1_len h) (fun A outer s H vs Q E hr h => ?_)
  have hu := hu_of hr
  refine ⟨_, (pss_cons (ps_or (ps_lock (ps_setLc (i := 1) (own := [("glyph", 2)]) (g := gName 2) (by rfl) sc_font_order.nd rfl rfl (sw_true rfl rfl rfl (by decide +kernel)) (pi_keys (pv 0)) (blkOk_by (own := [("glyph", 2)]) (N := ["glyphs", "others", "glyph", "names"]) (sc := defScope s_font_order) (by decide +kernel)) (fun _ _ _ _ _ => (pg_name (i := 2) sc_font_order.nd rfl (Or.inl rfl))) (fun _ _ _ _ _ => (pts_one (pt_not (pt_val (pe_callB (show CallR _ _ (rIsi K) from call_isi) (by rfl) T.n_isinstance bb_isinstance (pa_cons (pv 2) (pa_cons (pe_bltn (v := .ty "str") (by rfl) T.n_str bb_str rfl) pa_nil))))))) (fun _ _ _ _ _ => (pv 2))))
      (ps_setLc (i := 1) (own := [("glyph", 2)]) (g := gName 2) (by rfl) sc_font_order.nd rfl rfl (sw_true rfl rfl rfl (by decide +kernel)) (pi_list (pv 0)) (blkOk_by (own := [("glyph", 2)]) (N := ["glyphs", "others", "glyph", "names"]) (sc := defScope s_font_order) (by decide +kernel)) (fun _ _ _ _ _ => (pg_name (i := 2) sc_font_order.nd rfl (Or.inl rfl))) (fun _ _ _ _ _ => (pts_one (pt_not (pt_val (pe_callB (show CallR _ _ (rIsi K) from call_isi) (by rfl) T.n_isinstance bb_isinstance (pa_cons (pv 2) (pa_cons (pe_bltn (v := .ty "str") (by rfl) T.n_str bb_str rfl) pa_nil))))))) (fun _ _ _ _ _ => (pv 2))))
      (pss_cons (ps_or (ps_lock (ps_setLc (i := 3) (own := [("glyph", 2)]) (g := gName 2) (by rfl) sc_font_order.nd rfl rfl (sw_true rfl rfl rfl (by decide +kernel)) (pi_keys (pv 0)) (blkOk_by (own := [("glyph", 2)]) (N := ["glyphs", "others", "glyph", "names"]) (sc := defScope s_font_order) (by decide +kernel)) (fun _ _ _ _ _ => (pg_name (i := 2) sc_font_order.nd rfl (Or.inl rfl))) (fun _ _ _ _ _ => (pts_one (pt_val (pe_callB (show CallR _ _ (rIsi K) from call_isi) (by rfl) T.n_isinstance bb_isinstance (pa_cons (pv 2) (pa_cons (pe_bltn (v := .ty "str") (by rfl) T.n_str bb_str rfl) pa_nil)))))) (fun _ _ _ _ _ => (pv 2))))
      (ps_setLc (i := 3) (own := [("glyph", 2)]) (g := gName 2) (by rfl) sc_font_order.nd rfl rfl (sw_true rfl rfl rfl (by decide +kernel)) (pi_list (pv 0)) (blkOk_by (own := [("glyph", 2)]) (N := ["glyphs", "others", "glyph", "names"]) (sc := defScope s_font_order) (by decide +kernel)) (fun _ _ _ _ _ => (pg_name (i := 2) sc_font_order.nd rfl (Or.inl rfl))) (fun _ _ _ _ _ => (pts_one (pt_val (pe_callB (show CallR _ _ (rIsi K) from call_isi) (by rfl) T.n_isinstance bb_isinstance (pa_cons (pv 2) (pa_cons (pe_bltn (v := .ty "str") (by rfl) T.n_str bb_str rfl) pa_nil)))))) (fun _ _ _ _ _ => (pv 2))))
      (pss_one (ps_ret (pe_op op_cat (pv 1) (pe_sortLam T.TB_font_order rfl rfl ⟨rfl, rfl, rfl, by decide +kernel, by decide +kernel, rfl, rfl, by decide +kernel⟩ (by rfl) (fun _ _ _ _ _ => rfl) (pv 3) (by rfl) T.n_sorted T.n_len (hr.mono (by decide)) (units64 hr))))))), ?_⟩
  try dsimp only [L2.cxOf]
  obtain ⟨x, rfl, p, ss, rfl, hs, hn, hl, tb, k⟩ := h
  rw [show L2.start (["glyphs", "others", "glyph", "names"] : List Str) [(.ref p)] = ([some ((.ref p)), none, none, none] : L2.St) from rfl]
  have sz : sizeLine = 16777216 := by decide
  have fin : ∀ (D1 D2 : Addr) (σ0 : Option V), H D1 = none → upd H D1 (.lst []) D2 = none → tRet (tOp rCat (tVar 1) (tSortLam K a.P_font_order qfo (tVar 3))) { nx := fun x H' => Q V.non H', rt := Q } [some (V.ref p), some (V.ref D1), σ0, some (V.ref D2)] (upd (upd H D1 (.lst [])) D2 (.lst (ss.map V.str))) := by
    intro D1 D2 σ0 n1 n2
    have e2 : Ex H (upd (upd H D1 (.lst [])) D2 (.lst (ss.map V.str))) := (Ex.new n1).trans (Ex.new n2)
    walk_at "w"
    refine w_sortLam ?_
    walk_at "w"
    refine ⟨D2, ss, rfl, SqL.of upd_same, hl, Tab.new (Tab.new tb n1) n2, fun H2 x2 t2 q nq => ?_⟩
    have h1 : H2 D1 = some (.lst []) := x2 _ _ (upd_old upd_same n2) trivial
    refine w_cat (upd_old h1 nq) upd_same ?_ fun l nl => ?_
    · rw [List.length_map, List.length_mergeSort, sz]
      show 0 + ss.length ≤ _
      omega
    · rw [List.nil_append]
      have x3 : Ex H2 (upd (upd H2 q (.lst ((ss.mergeSort rankLe).map V.str))) l (.lst ((ss.mergeSort rankLe).map V.str))) := (Ex.new nq).trans (Ex.new nl)
      refine k _ l ((e2.trans x2).trans x3) (Tab.new (Tab.new t2 nq) nl) (New.back (New.of nl) ((e2.trans x2).trans (Ex.new nq))) upd_same
  have isS : ∀ (z : Str) (H' : Hp), TyX K H' (.str z) (.type "str") := fun z H' => .base (.str z)
  have kS : PySem.W.kitOne K (.type "str") (.type "str") = some true := kit_ty (by decide +kernel)
  rcases hs with hs | ⟨kvs, hd, hk⟩
  · have item : ∀ {i : Nat} {x : V}, (ss.map V.str)[i]? = some x → ∃ z, x = .str z ∧ ss[i]? = some z := fun {i x} e => by
      rw [List.getElem?_map] at e
      obtain ⟨z, h1, h2⟩ := Option.map_eq_some_iff.mp e
      exact ⟨z, h2.symm, h1⟩
    walk_at "w"
    refine w_inr ?_
    walk_at "w"
    refine ⟨p, rfl, ⟨_, hs⟩, lcsW (walk_list (xs := ss.map V.str)) (fun D i H' => H D = none ∧ H' = upd H D (.lst [])) (fun D hD => ⟨hD, rfl⟩) (fun D i H' _ ⟨hD, e⟩ => by rw [e]; exact (Ex.new hD).sqL hs) ?_ ?_⟩
    · rintro D i x H1 H' hi ⟨hD, rfl⟩ ⟨rfl, hx⟩
      obtain ⟨z, rfl, _⟩ := item hx
      walk_at "w"
      refine ⟨rfl, ?_⟩
      walk_at "w"
      refine w_isi (.ty "str") (isS z _) kS ?_
      walk_at "w"
      exact ⟨hD, rfl⟩
    · rintro D1 H' ⟨n1, rfl⟩
      have hs1 := (Ex.new (o := .lst []) n1).sqL hs
      walk_at "w"
      refine w_inr ?_
      walk_at "w"
      refine ⟨p, rfl, ⟨_, hs1⟩, lcsW (walk_list (xs := ss.map V.str)) (fun D i H' => upd H D1 (.lst []) D = none ∧ H' = upd (upd H D1 (.lst [])) D (.lst ((ss.take i).map V.str))) (fun D hD => ⟨hD, rfl⟩) (fun D i H' _ ⟨hD, e⟩ => by rw [e]; exact (Ex.new hD).sqL hs1) ?_ ?_⟩
      · rintro D i x H1 H' hi ⟨hD, rfl⟩ ⟨rfl, hx⟩
        obtain ⟨z, rfl, hz⟩ := item hx
        walk_at "w"
        refine ⟨rfl, ?_⟩
        walk_at "w"
        refine w_isi (.ty "str") (isS z _) kS ?_
        walk_at "w"
        refine ⟨_, upd_same, ?_, hD, ?_⟩
        · rw [List.length_map, List.length_take, sz]
          omega
        · rw [upd_upd, List.take_add_one, hz]
          simp
      · rintro D2 H' ⟨n2, rfl⟩
        rw [List.length_map, List.take_length]
        refine w_gname rfl ?_
        exact fin D1 D2 _ n1 n2
  · have item : ∀ {i : Nat} {x : V}, (∃ k v, kvs[i]? = some (k, v) ∧ x = kV k) → ∃ z, x = .str z ∧ ss[i]? = some z := fun {i x} ⟨k, v, e, ex⟩ => by
      have h1 : (kvs.map (·.1))[i]? = some k := by rw [List.getElem?_map, e]; rfl
      rw [hk, List.getElem?_map] at h1
      obtain ⟨z, h2, h3⟩ := Option.map_eq_some_iff.mp h1
      exact ⟨z, by rw [ex, ← h3]; rfl, h2⟩
    have hlen : kvs.length = ss.length := by
      have := congrArg List.length hk
      simpa using this
    walk_at "w"
    refine w_inl (w_lock hd trivial fun od => ?_)
    walk_at "w"
    have ed : ∀ D, upd H p (.frz od (.dK kvs)) D = none → H D = none ∧ D ≠ p := fun D e => by
      have n : D ≠ p := fun z => by rw [z, upd_same] at e; cases e
      rw [upd_ne n] at e
      exact ⟨e, n⟩
    refine ⟨p, od, rfl, .inl ⟨kvs, upd_same, lcsW walk_keys (fun D i H' => upd H p (.frz od (.dK kvs)) D = none ∧ H' = upd (upd H p (.frz od (.dK kvs))) D (.lst [])) (fun D hD => ⟨hD, rfl⟩) (fun D i H' _ ⟨hD, e⟩ => by rw [e]; exact upd_old upd_same hD) ?_ ?_⟩⟩
    · rintro D i x H1 H' hi ⟨hD, rfl⟩ ⟨rfl, hx⟩
      obtain ⟨z, rfl, _⟩ := item hx
      walk_at "w"
      refine ⟨rfl, ?_⟩
      walk_at "w"
      refine w_isi (.ty "str") (isS z _) kS ?_
      walk_at "w"
      exact ⟨hD, rfl⟩
    · rintro D1 H' ⟨m1, rfl⟩
      obtain ⟨n1, q1⟩ := ed D1 m1
      walk_at "w"
      refine ⟨upd_old upd_same m1, ?_⟩
      rw [upd_lock hd q1]
      have hd1 : upd H D1 (.lst []) p = some (.dK kvs) := upd_old hd n1
      walk_at "w"
      refine w_inl (w_lock hd1 trivial fun od2 => ?_)
      walk_at "w"
      have ed2 : ∀ D, upd (upd H D1 (.lst [])) p (.frz od2 (.dK kvs)) D = none → upd H D1 (.lst []) D = none ∧ D ≠ p := fun D e => by
        have n : D ≠ p := fun z => by rw [z, upd_same] at e; cases e
        rw [upd_ne n] at e
        exact ⟨e, n⟩
      refine ⟨p, od2, rfl, .inl ⟨kvs, upd_same, lcsW walk_keys (fun D i H' => upd (upd H D1 (.lst [])) p (.frz od2 (.dK kvs)) D = none ∧ H' = upd (upd (upd H D1 (.lst [])) p (.frz od2 (.dK kvs))) D (.lst ((ss.take i).map V.str))) (fun D hD => ⟨hD, rfl⟩) (fun D i H' _ ⟨hD, e⟩ => by rw [e]; exact upd_old upd_same hD) ?_ ?_⟩⟩
      · rintro D i x H1 H' hi ⟨hD, rfl⟩ ⟨rfl, hx⟩
        obtain ⟨z, rfl, hz⟩ := item hx
        walk_at "w"
        refine ⟨rfl, ?_⟩
        walk_at "w"
        refine w_isi (.ty "str") (isS z _) kS ?_
        walk_at "w"
        refine ⟨_, upd_same, ?_, hD, ?_⟩
        · rw [List.length_map, List.length_take, sz]
          omega
        · rw [upd_upd, List.take_add_one, hz]
          simp
      · rintro D2 H' ⟨m2, rfl⟩
        obtain ⟨n2, q2⟩ := ed2 D2 m2
        rw [hlen, List.take_length]
        walk_at "w"
        refine ⟨upd_old upd_same m2, ?_⟩
        rw [upd_lock hd1 q2]
        exact fin D1 D2 _ n1 n2

def sp_is_name (K : PySem.W.Frag) (a : Ad) : Sp := sp1 fun x H Q _ => ∃ z : Str, x = .str z ∧ z.length ≤ sizeLine ∧ Q (.bl (isName z)) H
theorem ok_is_name {P : Program} {w : World} {K : PySem.W.Frag} {mg : Str → Option Value} {base : Heap} {a : Ad} (T : Txt P K mg base a) : FnOk P w K mg base CX0 1 a.f_is_name a.d_is_name (["glyph"] : List Str) (sp_is_name K a) := by
  refine T.F_is_name.ok sc_is_name (fun vs H Q E h => sp1_len h) (fun cdv A outer s H vs Q E hr h => ?_)
  have hu := hu_of hr
  refine ⟨_, (pss_cons (ps_if (PW.pt (pw_or (pt_not (pt_val (pe_callB call_isi (by rfl) T.n_isinstance bb_isinstance (pa_cons (pv 0) (pa_cons (pe_bltn (v := .ty "str") (by rfl) T.n_str bb_str rfl) pa_nil))))) (pw_or1 (pt_not (pt_chain op_le op_le pe_int (pe_callB qc_lenX (by rfl) T.n_len bb_len (pa_cons (pv 0) pa_nil)) (ClX.pe_cval (pe_glob (v := .ref a.C_Font) rfl T.g_Font rfl))))))) (pss_one (ps_ret pe_bl)) pss_nil)
      (pss_cons (ps_for PassesOwn.never rfl (pi_str (pv 0)) (pg_name (i := 1) sc_is_name.nd rfl (Or.inl rfl)) (pss_one (ps_if (pt_not (pt_chain qo_leS qo_leS pe_str (pv 1) pe_str)) (pss_one (ps_ret pe_bl)) pss_nil)))
      (pss_one (ps_ret pe_bl)))), ?_⟩
  try dsimp only [L2.cxOf]
  obtain ⟨x, rfl, z, rfl, hz, k⟩ := h
  rw [show L2.start (["glyph", "letter"] : List Str) [(.str z)] = ([some ((.str z)), none] : L2.St) from rfl]
  walk_at "w"
  refine w_isi (.ty "str") (.base (.str z)) kitSS ?_
  obtain ⟨u6, cv6⟩ := T.cv_Font_MOST_LETTERS
  have fin : 1 ≤ z.length → z.length ≤ 6 → isName z = z.cps.toList.all fun c => decide (97 ≤ c ∧ c ≤ 122) := fun h1 h2 => by
    unfold isName
    rw [decide_eq_true ⟨h1, h2⟩, Bool.true_and]
  walk_at "w"
  refine w_lenX hz ?_
  walk_at "w"
  refine it_dec (fun c1 => ?_) (fun c1 => ?_)
  · walk_at "w"
    refine ⟨_, _, _, _, rfl, T.cr_Font, cv6, ?_⟩
    walk_at "w"
    refine it_ndec (fun c2 => ?_) (fun c2 => ?_)
    · rw [fin (by omega) (by omega)] at k
      walk_at "w"
      refine ⟨z, rfl, turnsW walk_str (fun i σ' H' => H' = H ∧ (∃ z0, σ' = [some (.str z), z0]) ∧ ((z.cps.toList.take i).all fun c => decide (97 ≤ c ∧ c ≤ 122)) = true) ⟨rfl, ⟨_, rfl⟩, by simp⟩ (fun _ _ _ _ _ => trivial) ?_ ?_⟩
      · rintro i x σ' H1 H' hi ⟨rfl, ⟨z0, rfl⟩, ok⟩ ⟨rfl, c, hc, rfl⟩
        have hc' : z.cps.toList[i]? = some c := by rw [Array.getElem?_toList]; exact hc
        walk_at "w"
        rw [aCps, ltOne]
        refine it_ndec (fun d1 => ?_) (fun d1 => ?_)
        · walk_at "w"
          rw [List.all_eq_false.mpr ⟨c, List.mem_of_getElem? hc', by simp; omega⟩] at k
          exact k
        · walk_at "w"
          rw [zCps, ltOne, Bool.not_not]
          refine it_dec (fun d2 => ?_) (fun d2 => ?_)
          · walk_at "w"
            rw [List.all_eq_false.mpr ⟨c, List.mem_of_getElem? hc', by simp; omega⟩] at k
            exact k
          · walk_at "w"
            refine ⟨rfl, ⟨_, rfl⟩, ?_⟩
            rw [List.take_add_one, hc', List.all_append, ok]
            simp
            omega
      · rintro σ' H1 ⟨rfl, ⟨z0, rfl⟩, ok⟩
        walk_at "w"
        rw [show z.cps.toList.take z.cps.size = z.cps.toList from List.take_of_length_le (by simp)] at ok
        rw [ok] at k
        exact k
    · walk_at "w"
      rw [show isName z = false from by unfold isName; rw [decide_eq_false (by omega), Bool.false_and]] at k
      exact k
  · walk_at "w"
    rw [show isName z = false from by unfold isName; rw [decide_eq_false (by omega), Bool.false_and]] at k
    exact k

def sp_Font_known (K : PySem.W.Frag) (a : Ad) : Sp := sp2 fun s x H Q _ => ∃ (p dx ro pr pa : Addr) (r : Rows) (sp : Int) (z : Str), s = .ref p ∧ x = .str z ∧ FontAt a H p dx ro pr pa r sp ∧ Q (.bl (getR r z).isSome) H
theorem ok_Font_known {P : Program} {w : World} {K : PySem.W.Frag} {mg : Str → Option Value} {base : Heap} {a : Ad} (T : Txt P K mg base a) : FnOk P w K mg base CX0 1 a.f_Font_known a.d_Font_known (["self", "glyph"] : List Str) (sp_Font_known K a) := by
  refine T.F_Font_known.ok sc_Font_known (fun vs H Q E h => sp2_len h) (fun cdv A outer s H vs Q E hr h => ?_)
  have hu := hu_of hr
  refine ⟨_, (pss_one (ps_ret (pe_and (pe_callB call_isi (by rfl) T.n_isinstance bb_isinstance (pa_cons (pv 1) (pa_cons (pe_bltn (v := .ty "str") (by rfl) T.n_str bb_str rfl) pa_nil))) (pe_one (pe_cmp (pc_din hu (pv 1) (pe_fld (pv 0) rfl)) rfl))))), ?_⟩
  try dsimp only [L2.cxOf]
  obtain ⟨s0, x, rfl, p, dx, ro, pr, pa, r, sp, z, rfl, rfl, F, k⟩ := h
  rw [show L2.start (["self", "glyph"] : List Str) [(.ref p), (.str z)] = ([some ((.ref p)), some ((.str z))] : L2.St) from rfl]
  walk_at "w"
  refine w_isi (.ty "str") (.base (.str z)) kitSS ?_
  walk_at "w"
  refine F.rowsF T ?_
  walk_at "w"
  refine ⟨ro, _, rfl, F.get z, ?_⟩
  rw [Option.isSome_map]
  exact k

def sp_Font_ligatures (K : PySem.W.Frag) (a : Ad) : Sp := sp1 fun s H Q _ => ∃ (p dx ro pr pa : Addr) (r : Rows) (sp : Int), s = .ref p ∧ FontAt a H p dx ro pr pa r sp ∧ r.length ≤ 1000 ∧ (∀ x ∈ r, x.1.length ≤ sizeLine) ∧ Tab a H ∧
  ∀ H' l, Ex H H' → Tab a H' → New H l → H' l = some (.lst (((ligs r).mergeSort rankLe).map V.str)) → Q (.ref l) H'
theorem ok_Font_ligatures {P : Program} {w : World} {K : PySem.W.Frag} {mg : Str → Option Value} {base : Heap} {a : Ad} (T : Txt P K mg base a) : FnOk P w K mg base CX0 4 a.f_Font_ligatures a.d_Font_ligatures (["self"] : List Str) (sp_Font_ligatures K a) := by
  refine T.F_Font_ligatures.ok sc_Font_ligatures (fun vs H Q E h => sp1_len h) (fun cdv A outer s H vs Q E hr h => ?_)
  have hu := hu_of hr
  refine ⟨_, (pss_one (ps_ret (pe_call (ok_font_order T) (hr.mono (by decide)) rfl T.g_font_order T.k_font_order T.B_font_order .nil pass0 (pa_cons (pe_lock (pe_lc (own := [("glyph", 1)]) (g := gName 1) (by rfl) sc_Font_ligatures.nd (pi_keys (pe_fld (pv 0) rfl)) (blkOk_by (own := [("glyph", 1)]) (N := ["self", "glyph"]) (sc := defScope s_Font_ligatures) (by decide +kernel)) (fun _ _ _ _ _ => (pg_name (i := 1) sc_Font_ligatures.nd rfl (Or.inl rfl))) (fun _ _ _ _ _ => (pts_one (pt_cmpR op_gt (pe_callB qc_lenX (by rfl) T.n_len bb_len (pa_cons (pv 1) pa_nil)) pe_int (nomark _)))) (fun _ _ _ _ _ => (pv 1)))) pa_nil)))), ?_⟩
  try dsimp only [L2.cxOf]
  obtain ⟨s0, rfl, p, dx, ro, pr, pa, r, sp, rfl, F, hn, hl, tb, k⟩ := h
  rw [show L2.start (["self", "glyph"] : List Str) [(.ref p)] = ([some ((.ref p)), none] : L2.St) from rfl]
  have sz : sizeLine = 16777216 := by decide
  walk_at "w"
  refine w_lockE F.row trivial fun od => ?_
  have ed : ∀ D, upd H ro (.frz od (.dK (encR r))) D = none → H D = none ∧ D ≠ ro := fun D e => by
    have n : D ≠ ro := fun z => by rw [z, upd_same] at e; cases e
    rw [upd_ne n] at e
    exact ⟨e, n⟩
  walk_at "w"
  refine ⟨p, _, dx, _, _, rfl, (by rw [upd_ne (ne_of F.ins F.row (by intro z; cases z))]; exact F.ins), T.c_Font, T.na_Font_rows, ff_rows, ?_⟩
  walk_at "w"
  refine ⟨ro, od, rfl, .inl ⟨encR r, upd_same, lcsW walk_keys (fun D i H' => upd H ro (.frz od (.dK (encR r))) D = none ∧ H' = upd (upd H ro (.frz od (.dK (encR r)))) D (.lst ((((r.map (·.1)).take i).filter fun z => decide (1 < z.length)).map V.str))) (fun D hD => ⟨hD, by simp⟩) (fun D i H' _ ⟨hD, e⟩ => by rw [e]; exact upd_old upd_same hD) ?_ ?_⟩⟩
  · rintro D i x H1 H' hi ⟨hD, rfl⟩ ⟨rfl, kk, v, hx, rfl⟩
    obtain ⟨y, hy, rfl⟩ : ∃ y : Str × Int, r[i]? = some y ∧ kk = Sum.inr y.1 := by
      unfold encR at hx
      rw [List.getElem?_map] at hx
      obtain ⟨y, h1, h2⟩ := Option.map_eq_some_iff.mp hx
      exact ⟨y, h1, (congrArg Prod.fst h2).symm⟩
    have hz := hl y (List.mem_of_getElem? hy)
    have ht : (r.map (·.1))[i]? = some y.1 := by rw [List.getElem?_map, hy]; rfl
    show gName 1 (.str y.1) _ _ _
    walk_at "w"
    refine ⟨rfl, ?_⟩
    walk_at "w"
    refine w_lenX hz ?_
    walk_at "w"
    refine it_dec (fun c => ?_) (fun c => ?_)
    · walk_at "w"
      refine ⟨_, upd_same, ?_, hD, ?_⟩
      · have := List.length_filter_le (fun z : Str => decide (1 < z.length)) ((r.map (·.1)).take i)
        rw [List.length_map, sz]
        rw [List.length_take] at this
        rw [List.length_map] at this
        omega
      · rw [upd_upd, List.take_add_one, ht, List.filter_append]
        have c' : 1 < y.1.length := by omega
        simp [c']
    · refine ⟨hD, ?_⟩
      rw [List.take_add_one, ht, List.filter_append]
      have c' : ¬ 1 < y.1.length := by omega
      simp [c']
  · rintro D H' ⟨m1, rfl⟩
    obtain ⟨n1, q1⟩ := ed D m1
    refine ⟨upd_old upd_same m1, ?_⟩
    rw [upd_lock F.row q1]
    rw [show (r.map (·.1)).take (encR r).length = r.map (·.1) from List.take_of_length_le (by simp [encR])]
    walk_at "w"
    refine ⟨_, rfl, D, ligs r, rfl, .inl (SqL.of upd_same), ?_, ?_, Tab.new tb n1, fun H' l x t n e => ?_⟩
    · have := List.length_filter_le (fun z : Str => decide (1 < z.length)) (r.map (·.1))
      unfold ligs
      rw [List.length_map] at this
      omega
    · intro z hz
      obtain ⟨h1, _⟩ := List.mem_filter.mp hz
      obtain ⟨y, h2, rfl⟩ := List.mem_map.mp h1
      exact hl y h2
    · exact k H' l ((Ex.new n1).trans x) t (New.back n (Ex.new n1)) e

def sp_Font_glyphs (K : PySem.W.Frag) (a : Ad) : Sp := sp1 fun s H Q _ => ∃ (p dx ro pr pa : Addr) (r : Rows) (sp : Int), s = .ref p ∧ FontAt a H p dx ro pr pa r sp ∧ r.length ≤ 1000 ∧ (∀ x ∈ r, x.1.length ≤ sizeLine) ∧ Tab a H ∧
  ∀ H' l, Ex H H' → Tab a H' → New H l → H' l = some (.lst (((r.map (·.1)).mergeSort rankLe).map V.str)) → Q (.ref l) H'
theorem ok_Font_glyphs {P : Program} {w : World} {K : PySem.W.Frag} {mg : Str → Option Value} {base : Heap} {a : Ad} (T : Txt P K mg base a) : FnOk P w K mg base CX0 4 a.f_Font_glyphs a.d_Font_glyphs (["self"] : List Str) (sp_Font_glyphs K a) := by
  refine T.F_Font_glyphs.ok sc_Font_glyphs (fun vs H Q E h => sp1_len h) (fun cdv A outer s H vs Q E hr h => ?_)
  have hu := hu_of hr
  refine ⟨_, (pss_one (ps_ret (pe_call (ok_font_order T) (hr.mono (by decide)) rfl T.g_font_order T.k_font_order T.B_font_order .nil pass0 (pa_cons (pe_fld (pv 0) rfl) pa_nil)))), ?_⟩
  try dsimp only [L2.cxOf]
  obtain ⟨s0, rfl, p, dx, ro, pr, pa, r, sp, rfl, F, hn, hl, tb, k⟩ := h
  rw [show L2.start (["self"] : List Str) [(.ref p)] = ([some ((.ref p))] : L2.St) from rfl]
  walk_at "w"
  refine F.rowsF T ?_
  walk_at "w"
  refine ⟨_, rfl, ro, r.map (·.1), rfl, .inr ⟨_, F.row, keys_encR r⟩, by rw [List.length_map]; exact hn, fun z hz => ?_, tb, k⟩
  obtain ⟨y, h2, rfl⟩ := List.mem_map.mp hz
  exact hl y h2

def sp_Font_advance_of (K : PySem.W.Frag) (a : Ad) : Sp := sp2 fun s x H Q E => ∃ (p dx ro pr pa : Addr) (r : Rows) (sp : Int) (z : Str), s = .ref p ∧ x = .str z ∧ FontAt a H p dx ro pr pa r sp ∧
  (∀ n, getR r z = some n → Q (.int n) H) ∧ (getR r z = none → ∀ d, H d = none → E (.ref a.C_UnknownGlyph) (some d) (upd H d (.xd [("glyph", x)])))
theorem ok_Font_advance_of {P : Program} {w : World} {K : PySem.W.Frag} {mg : Str → Option Value} {base : Heap} {a : Ad} (T : Txt P K mg base a) : FnOk P w K mg base (L2.CX P w) 2 a.f_Font_advance_of a.d_Font_advance_of (["self", "glyph"] : List Str) (sp_Font_advance_of K a) := by
  refine T.F_Font_advance_of.okX sc_Font_advance_of (fun vs H Q E h => sp2_len h) (fun cdv A outer s H vs Q E hr h => ?_)
  have hu := hu_of hr
  refine ⟨_, (pss_cons (ps_if (pt_not (pt_val (pe_meth (pv 0) T.c_Font T.M_Font_known (ok_Font_known T) (hr.mono (by decide)) T.B_Font_known .nil pass0 (pa_cons (pv 1) pa_nil)))) (pss_one (ps_rs rfl (takes_of rfl rfl rfl rfl) (pmk1 T.E_UnknownGlyph T.Y_UnknownGlyph T.x_UnknownGlyph_glyph hr (pa_cons (pv 1) pa_nil)))) pss_nil)
      (pss_one (ps_ret (pe_dget hu (pe_fld (pv 0) rfl) (pv 1) (fun _ _ => rfl))))), ?_⟩
  try dsimp only [L2.cxOf]
  obtain ⟨s0, x, rfl, p, dx, ro, pr, pa, r, sp, z, rfl, rfl, F, k1, k2⟩ := h
  rw [show L2.start (["self", "glyph"] : List Str) [(.ref p), (.str z)] = ([some ((.ref p)), some ((.str z))] : L2.St) from rfl]
  walk_at "w"
  refine ⟨p, dx, _, rfl, F.ins, ff_no (by decide +kernel), ?_⟩
  walk_at "w"
  refine ⟨_, _, rfl, p, dx, ro, pr, pa, r, sp, z, rfl, rfl, F, ?_⟩
  walk_at "w"
  cases e : getR r z with
  | none =>
    refine iteT ?_
    walk_at "w"
    exact k2 e
  | some n =>
    refine iteF ?_
    walk_at "w"
    refine F.rowsF T ?_
    walk_at "w"
    have g := F.get z
    rw [e] at g
    exact ⟨ro, _, rfl, g, k1 n e⟩

def sp_Font_put_blank (K : PySem.W.Frag) (a : Ad) : Sp := sp2 fun s y H Q E => ∃ (p dx : Addr) (fs : List (Str × V)) (b : Bool), s = .ref p ∧ H p = some (.ins a.C_Font dx fs) ∧ fs.length < 1000 ∧ IsI K H y b ∧ (b = false → raiseIN a y H E) ∧
  (b = true → ∃ n : Int, y = .int n ∧ (0 ≤ n ∧ n ≤ 1000000 → Q .non (upd H p (.ins a.C_Font dx (putF "space" y fs)))) ∧ (¬ (0 ≤ n ∧ n ≤ 1000000) → raiseIN a y H E))
theorem ok_Font_put_blank {P : Program} {w : World} {K : PySem.W.Frag} {mg : Str → Option Value} {base : Heap} {a : Ad} (T : Txt P K mg base a) : FnOk P w K mg base (L2.CX P w) 4 a.f_Font_put_blank a.d_Font_put_blank (["self", "advance"] : List Str) (sp_Font_put_blank K a) := by
  refine T.F_Font_put_blank.okX sc_Font_put_blank (fun vs H Q E h => sp2_len h) (fun cdv A outer s H vs Q E hr h => ?_)
  have hu := hu_of hr
  refine ⟨_, (pss_cons (ps_expr (pe_callSD (ok_check_between T) (hr.mono (by decide)) rfl T.g_check_between T.k_check_between T.B_check_between .nil (fun σ => passAt (takes_of rfl rfl rfl rfl) σ) (pa_cons (pv 1) (pa_cons pe_int (pa_cons (ClX.pe_cval (pe_glob (v := .ref a.C_Font) rfl T.g_Font rfl)) pa_nil)))))
      (pss_one (ps_fld (pv 0) (pv 1) rfl))), ?_⟩
  try dsimp only [L2.cxOf]
  obtain ⟨s0, y, rfl, p, dx, fs, b, rfl, hp, hf, hy, k0, k1⟩ := h
  obtain ⟨u6, cv6⟩ := T.cv_Font_MOST_ADVANCE
  rw [show L2.start (["self", "advance"] : List Str) [(.ref p), y] = ([some ((.ref p)), some (y)] : L2.St) from rfl]
  walk_at "w"
  refine ⟨_, _, _, _, rfl, T.cr_Font, cv6, ?_⟩
  walk_at "w"
  refine ⟨y, _, _, rfl, 0, 1000000, b, rfl, rfl, hy, fun e => ?_, fun e => ?_⟩
  · exact k0 e
  · obtain ⟨n, rfl, k2, k3⟩ := k1 e
    refine ⟨n, rfl, fun c => ?_, fun c => k3 c⟩
    walk_at "w"
    exact ⟨p, _, dx, _, rfl, hp, T.c_Font, T.na_Font_space, hf, k2 c⟩

def sp_Font_put_advance (K : PySem.W.Frag) (a : Ad) : Sp := sp3 fun s x y H Q E => ∃ (p dx ro pr pa : Addr) (r : Rows) (sp : Int) (z : Str), s = .ref p ∧ x = .str z ∧ FontAt a H p dx ro pr pa r sp ∧ r.length ≤ 900 ∧ (∀ x ∈ r, x.1.length ≤ sizeLine) ∧ z.length ≤ sizeLine ∧ IsI K H y (isIntV y) ∧ Tab a H ∧
  match paRes r z y with
  | .error e => raiseF a H E e
  | .ok r' => ∀ H', Ex H H' → Tab a H' → Q .non (upd H' ro (.dK (encR r')))
theorem ok_Font_put_advance {P : Program} {w : World} {K : PySem.W.Frag} {mg : Str → Option Value} {base : Heap} {a : Ad} (T : Txt P K mg base a) : FnOk P w K mg base (L2.CX P w) 6 a.f_Font_put_advance a.d_Font_put_advance (["self", "glyph", "advance"] : List Str) (sp_Font_put_advance K a) := by
  refine T.F_Font_put_advance.okX sc_Font_put_advance (fun vs H Q E h => sp3_len h) (fun cdv A outer s H vs Q E hr h => ?_)
  have hu := hu_of hr
  refine ⟨_, (pss_cons (ps_if (pt_not (pt_val (pe_call (ok_is_name T) (hr.mono (by decide)) rfl T.g_is_name T.k_is_name T.B_is_name .nil pass0 (pa_cons (pv 1) pa_nil)))) (pss_one (ps_rs rfl (takes_of rfl rfl rfl rfl) (pmk1 T.E_InvalidGlyph T.Y_InvalidGlyph T.x_InvalidGlyph_glyph hr (pa_cons (pv 1) pa_nil)))) pss_nil)
      (pss_cons (ps_expr (pe_callSD (ok_check_between T) (hr.mono (by decide)) rfl T.g_check_between T.k_check_between T.B_check_between .nil (fun σ => passAt (takes_of rfl rfl rfl rfl) σ) (pa_cons (pv 2) (pa_cons pe_int (pa_cons (ClX.pe_cval (pe_glob (v := .ref a.C_Font) rfl T.g_Font rfl)) pa_nil)))))
      (Evl.pss_cut (ps_if (pt_cmpR op_gt (pe_callB qc_lenX (by rfl) T.n_len bb_len (pa_cons (pv 1) pa_nil)) pe_int (nomark _)) (pss_cons (ps_for PassesOwn.leaving rfl (pi_str (pv 1)) (pg_name (i := 3) sc_Font_put_advance.nd rfl (Or.inl rfl)) (pss_one (ps_if (pt_cmp (pc_dnotin hu (pv 3) (pe_fld (pv 0) rfl))) (pss_one (ps_rs rfl (takes_of rfl rfl rfl rfl) (pmk1 T.E_UnknownGlyph T.Y_UnknownGlyph T.x_UnknownGlyph_glyph hr (pa_cons (pv 3) pa_nil)))) pss_nil)))
      (pss_one (ps_if (PW.pt (pw_and (pt_cmp (pc_dnotin hu (pv 1) (pe_fld (pv 0) rfl))) (pw_and1 (pt_cmpR op_ge (pe_callB qc_len (by rfl) T.n_len bb_len (pa_cons (pe_prop (pv 0) T.c_Font T.P_Font_ligatures (ok_Font_ligatures T) (hr.mono (by decide)) T.B_Font_ligatures .nil pass0 rfl) pa_nil)) (ClX.pe_cval (pe_glob (v := .ref a.C_Font) rfl T.g_Font rfl)) (nomark _))))) (pss_one (ps_rs rfl (takes_of rfl rfl rfl rfl) (pmk1 T.E_TooMany T.Y_TooMany T.x_TooMany_limit hr (pa_cons (ClX.pe_cval (pe_glob (v := .ref a.C_Font) rfl T.g_Font rfl)) pa_nil)))) pss_nil))) pss_nil)
      (pss_cons (ps_for PassesOwn.leaving rfl (pi_list (pe_callB (cr_sortStr (units64 hr)) (by rfl) T.n_sorted bb_sorted (pa_cons (pe_callTy (call_listD rfl) (by rfl) T.n_list bb_list (pa_cons (pe_fld (pv 0) rfl) pa_nil)) pa_nil))) (pg_name (i := 4) sc_Font_put_advance.nd rfl (Or.inl rfl)) (pss_one ps_never))
      (pss_one (ps_dput hu (pe_fld (pv 0) rfl) (pv 1) (pv 2) rfl)))))), ?_⟩
  try dsimp only [L2.cxOf]
  obtain ⟨s0, x, y, rfl, p, dx, ro, pr, pa, r, sp, z, rfl, rfl, F, hn, hl, hz, hy, tb, k⟩ := h
  obtain ⟨u6, cv6⟩ := T.cv_Font_MOST_ADVANCE
  obtain ⟨u7, cv7⟩ := T.cv_Font_MOST_LIGATURES
  rw [show L2.start (["self", "glyph", "advance", "letter", "pair"] : List Str) [(.ref p), (.str z), y] = ([some ((.ref p)), some ((.str z)), some (y), none, none] : L2.St) from rfl]
  walk_at "w"
  refine ⟨_, rfl, z, rfl, hz, ?_⟩
  walk_at "w"
  cases c1 : isName z with
  | false =>
    walk_at "w"
    rw [show paRes r z y = .error (.ig z) from by unfold paRes; rw [if_neg (by rw [c1]; decide)]] at k
    exact fun d hd => k H d (Ex.refl H) tb hd
  | true =>
    walk_at "w"
    refine ⟨_, _, _, _, rfl, T.cr_Font, cv6, ?_⟩
    walk_at "w"
    refine ⟨y, _, _, rfl, 0, 1000000, isIntV y, rfl, rfl, hy, fun e => ?_, fun e => ?_⟩
    · rw [show paRes r z y = .error (.inn y) from by
        unfold paRes
        rw [if_pos c1]
        cases y <;> first | rfl | cases e] at k
      exact fun d hd => k H d (Ex.refl H) tb hd
    · obtain ⟨n, rfl⟩ : ∃ n, y = .int n := by
        cases y <;> first | exact ⟨_, rfl⟩ | cases e
      refine ⟨n, rfl, fun c2 => ?_, fun c2 => ?_⟩
      · have e0 : paRes r z (.int n) = (if 1 < z.length then match missing r z with
            | some c => .error (.ug (one c))
            | none => if (getR r z).isNone = true ∧ 40 ≤ (ligs r).length then .error .tm else .ok (putR r z n) else .ok (putR r z n)) := by
          unfold paRes
          rw [if_pos c1]
          exact if_pos c2
        refine ⟨fun σ' H' => Ex H H' ∧ Tab a H' ∧ (∃ l, σ' = [some (.ref p), some (.str z), some (.int n), l, none]) ∧ paRes r z (.int n) = .ok (putR r z n), ?_, ?_⟩
        · walk_at "w"
          refine w_lenX hz ?_
          walk_at "w"
          refine it_dec (fun c3 => ?_) (fun c3 => ?_)
          · have c3' : 1 < z.length := by omega
            rw [if_pos c3'] at e0
            walk_at "w"
            refine ⟨z, rfl, turnsW walk_str (fun i σ' H' => H' = H ∧ (∃ l, σ' = [some (.ref p), some (.str z), some (.int n), l, none]) ∧ ∀ c ∈ z.cps.toList.take i, (getR r (one c)).isSome = true) ⟨rfl, ⟨_, rfl⟩, by simp⟩ (fun _ _ _ _ _ => trivial) ?_ ?_⟩
            · rintro i x σ' H1 H' hi ⟨rfl, ⟨l0, rfl⟩, ok⟩ ⟨rfl, c, hc, rfl⟩
              have hc' : z.cps.toList[i]? = some c := by rw [Array.getElem?_toList]; exact hc
              walk_at "w"
              refine F.rowsF T ?_
              walk_at "w"
              refine ⟨ro, _, rfl, F.get _, ?_⟩
              rw [Option.isSome_map]
              walk_at "w"
              cases q : getR r (one c) with
              | none =>
                rw [show getR r { cps := #[c] } = none from q]
                refine iteT ?_
                walk_at "w"
                have hm : missing r z = some c := by
                  unfold missing
                  rw [List.find?_eq_some_iff_append]
                  refine ⟨by rw [q]; rfl, z.cps.toList.take i, z.cps.toList.drop (i + 1), ?_, fun b hb => ?_⟩
                  · obtain ⟨hi', e⟩ := List.getElem?_eq_some_iff.mp hc'
                    rw [← e, ← List.drop_eq_getElem_cons, List.take_append_drop]
                  · have := ok b hb
                    cases q' : getR r (one b) with
                    | none => rw [q'] at this; cases this
                    | some v => rfl
                rw [hm] at e0
                rw [e0] at k
                exact fun d hd => k _ d (Ex.refl _) tb hd
              | some m =>
                rw [show getR r { cps := #[c] } = some m from q]
                refine iteF ?_
                walk_at "w"
                refine ⟨rfl, ⟨_, rfl⟩, fun b hb => ?_⟩
                rw [List.take_add_one, hc'] at hb
                rcases List.mem_append.mp hb with hb | hb
                · exact ok b hb
                · have : b = c := by simpa using hb
                  rw [this, q]
                  rfl
            · rintro σ' H1 ⟨rfl, ⟨l0, rfl⟩, ok⟩
              rw [show z.cps.toList.take z.cps.size = z.cps.toList from List.take_of_length_le (by simp)] at ok
              have hm : missing r z = none := by
                unfold missing
                rw [List.find?_eq_none]
                intro b hb c
                have := ok b hb
                cases q' : getR r (one b) with
                | none => rw [q'] at this; cases this
                | some v => rw [q'] at c; cases c
              rw [hm] at e0
              dsimp only at e0
              walk_at "w"
              refine F.rowsF T ?_
              walk_at "w"
              refine ⟨ro, _, rfl, F.get _, ?_⟩
              rw [Option.isSome_map]
              walk_at "w"
              cases q : getR r z with
              | some m =>
                refine iteF ?_
                walk_at "w"
                rw [q, if_neg (fun z => by cases z.1)] at e0
                exact ⟨Ex.refl _, tb, ⟨_, rfl⟩, e0⟩
              | none =>
                refine iteT ?_
                walk_at "w"
                refine ⟨p, dx, _, rfl, F.ins, _, rfl, p, dx, ro, pr, pa, r, sp, rfl, F, by omega, hl, tb, fun H2 l x2 t2 n2 e2 => ?_⟩
                walk_at "w"
                refine ⟨_, _, _, _, rfl, T.cr_Font, cv7, ?_⟩
                rw [List.length_map, List.length_mergeSort]
                walk_at "w"
                refine it_dec (fun c4 => ?_) (fun c4 => ?_)
                · walk_at "w"
                  refine ⟨_, _, _, _, rfl, T.cr_Font, cv7, ?_⟩
                  walk_at "w"
                  rw [q, if_pos ⟨rfl, by omega⟩] at e0
                  rw [e0] at k
                  exact fun d hd => k _ d x2 t2 hd
                · walk_at "w"
                  rw [q, if_neg (by omega)] at e0
                  exact ⟨x2, t2, ⟨_, rfl⟩, e0⟩
          · rw [if_neg (by omega)] at e0
            walk_at "w"
            exact ⟨Ex.refl _, tb, ⟨_, rfl⟩, e0⟩
        · rintro σ' H1 ⟨x1, t1, ⟨l0, rfl⟩, e1⟩
          rw [e1] at k
          have F1 := F.ex x1
          walk_at "w"
          refine F1.pairsF T ?_
          walk_at "w"
          refine ⟨pr, [], rfl, .inl F1.pai, fun q nq => ?_⟩
          walk_at "w"
          refine ⟨q, [], rfl, SqL.of upd_same, fun q2 nq2 => ?_⟩
          have x2 : Ex H1 (upd (upd H1 q (.lst (List.map (fun kv : L2.Key × V => kV kv.1) []))) q2 (.lst (([] : List Str).mergeSort strLe |>.map V.str))) := (Ex.new nq).trans (Ex.new nq2)
          have t2 : Tab a (upd (upd H1 q (.lst (List.map (fun kv : L2.Key × V => kV kv.1) []))) q2 (.lst (([] : List Str).mergeSort strLe |>.map V.str))) := Tab.new (Tab.new t1 nq) nq2
          have s2 : (upd (upd H1 q (.lst (List.map (fun kv : L2.Key × V => kV kv.1) []))) q2 (.lst (([] : List Str).mergeSort strLe |>.map V.str))) q2 = some (.lst []) := by rw [upd_same, List.mergeSort_nil]; rfl
          generalize (upd (upd H1 q (.lst (List.map (fun kv : L2.Key × V => kV kv.1) []))) q2 (.lst (([] : List Str).mergeSort strLe |>.map V.str))) = H2 at x2 t2 s2 ⊢
          refine ⟨q2, rfl, ⟨_, SqL.of s2⟩, turnsW (walk_list (xs := [])) (fun i σ' H' => H' = H2 ∧ σ' = [some (.ref p), some (.str z), some (.int n), l0, none]) ⟨rfl, rfl⟩ (fun i σ' H' _ ⟨e, _⟩ => by rw [e]; exact SqL.of s2) ?_ ?_⟩
          · rintro i x σ' H3 H' hi
            exact absurd hi (by simp)
          · rintro σ' H3 ⟨rfl, rfl⟩
            have F2 := F1.ex x2
            walk_at "w"
            refine F2.rowsF T ?_
            walk_at "w"
            refine ⟨ro, _, rfl, DPut.k (k := (Sum.inr z : L2.Key)) F2.row ?_, ?_⟩
            · have sz : sizeLine = 16777216 := by decide
              rw [sz]
              simp only [encR, List.length_map]
              omega
            · rw [put_encR]
              exact k _ (x1.trans x2) t2
      · rw [show paRes r z (.int n) = .error (.inn (.int n)) from by
          unfold paRes
          rw [if_pos c1]
          exact if_neg c2] at k
        exact fun d hd => k H d (Ex.refl H) tb hd

/-- the advances of es in the order gs -/
def runPA (es : List (Str × V)) : List Str → Rows → Except FErr Rows
  | [], r => .ok r
  | g :: gs, r => match paRes r g ((getR es g).getD .non) with
    | .ok r' => runPA es gs r'
    | .error e => .error e
theorem runPA_app {es : List (Str × V)} {r r' : Rows} : ∀ {l m : List Str}, runPA es l r = .ok r' → runPA es (l ++ m) r = runPA es m r'
  | [], m, h => by
    cases h
    rfl
  | g :: l, m, h => by
    unfold runPA at h
    show (match paRes r g ((getR es g).getD .non) with
      | .ok r' => runPA es (l ++ m) r'
      | .error e => .error e) = _
    cases q : paRes r g ((getR es g).getD .non) with
    | error e => rw [q] at h; cases h
    | ok r1 =>
      rw [q] at h
      exact runPA_app (l := l) h
theorem runPA_ok {es : List (Str × V)} {r r' : Rows} {g : Str} {m : List Str} (h : paRes r g ((getR es g).getD .non) = .ok r') : runPA es (g :: m) r = runPA es m r' := by
  rw [runPA, h]
theorem runPA_er {es : List (Str × V)} {r : Rows} {g : Str} {m : List Str} {e : FErr} (h : paRes r g ((getR es g).getD .non) = .error e) : runPA es (g :: m) r = .error e := by
  rw [runPA, h]
theorem paRes_put {r r' : Rows} {z : Str} {y : V} (h : paRes r z y = .ok r') : ∃ n, y = .int n ∧ r' = putR r z n ∧ 0 ≤ n ∧ n ≤ 1000000 := by
  unfold paRes at h
  split at h
  · cases y with
    | int n =>
      dsimp only at h
      split at h
      · rename_i c
        refine ⟨n, rfl, ?_, c.1, c.2⟩
        split at h
        · split at h
          · cases h
          · split at h
            · cases h
            · cases h
              rfl
        · cases h
          rfl
      · cases h
    | _ => cases h
  · cases h
theorem putR_len {r : Rows} {z : Str} {n : Int} : (putR r z n).length ≤ r.length + 1 := by
  unfold putR
  split
  · simp
  · simp
theorem putR_names {r : Rows} {z : Str} {n : Int} {P : Str → Prop} (h : ∀ x ∈ r, P x.1) (hz : P z) : ∀ x ∈ putR r z n, P x.1 := fun x hx => by
  have m : x.1 ∈ (putR r z n).map (·.1) := List.mem_map.mpr ⟨x, hx, rfl⟩
  rw [keys_put] at m
  split at m
  · obtain ⟨y, hy, e⟩ := List.mem_map.mp m
    rw [← e]
    exact h y hy
  · rcases List.mem_append.mp m with m | m
    · obtain ⟨y, hy, e⟩ := List.mem_map.mp m
      rw [← e]
      exact h y hy
    · rw [List.mem_singleton.mp m]
      exact hz
def raiseFB (a : Ad) (bs : List Addr) (H : Hp) (E : XK) : FErr → Prop
  | .ig g => ∀ H' d, Fr bs H H' → Tab a H' → H' d = none → E (.ref a.C_InvalidGlyph) (some d) (upd H' d (.xd [("glyph", .str g)]))
  | .inn v => ∀ H' d, Fr bs H H' → Tab a H' → H' d = none → E (.ref a.C_InvalidNumber) (some d) (upd H' d (.xd [("value", v)]))
  | .ug g => ∀ H' d, Fr bs H H' → Tab a H' → H' d = none → E (.ref a.C_UnknownGlyph) (some d) (upd H' d (.xd [("glyph", .str g)]))
  | .tm => ∀ H' d, Fr bs H H' → Tab a H' → H' d = none → E (.ref a.C_TooMany) (some d) (upd H' d (.xd [("limit", .int 40)]))
theorem raiseFB.at {a : Ad} {bs : List Addr} {H H1 : Hp} {E : XK} {e : FErr} (h : raiseFB a bs H E e) (x : Fr bs H H1) : raiseF a H1 E e := by
  cases e <;> exact fun H' d y => h H' d (x.trans (Fr.of y))
theorem ff_put1 (ro : Addr) : putF "rows" (.ref ro) [] = ([("rows", .ref ro)] : List (Str × V)) := rfl
theorem ff_put2 (ro pr : Addr) : putF "pairs" (.ref pr) [("rows", .ref ro)] = ([("rows", .ref ro), ("pairs", .ref pr)] : List (Str × V)) := by
  have h1 : ¬ (("rows" : Str) = "pairs") := by decide +kernel
  simp [putF, h1]
theorem ff_put3 (ro pr : Addr) (y : V) : putF "space" y [("rows", .ref ro), ("pairs", .ref pr)] = ([("rows", .ref ro), ("pairs", .ref pr), ("space", y)] : List (Str × V)) := by
  have h1 : ¬ (("rows" : Str) = "space") := by decide +kernel
  have h2 : ¬ (("pairs" : Str) = "space") := by decide +kernel
  simp [putF, h1, h2]
theorem ff_put4 (ro pr pa : Addr) (n : Int) : putF "past" (.ref pa) [("rows", .ref ro), ("pairs", .ref pr), ("space", .int n)] = ffields ro pr pa n := by
  have h1 : ¬ (("rows" : Str) = "past") := by decide +kernel
  have h2 : ¬ (("pairs" : Str) = "past") := by decide +kernel
  have h3 : ¬ (("space" : Str) = "past") := by decide +kernel
  simp [ffields, putF, h1, h2, h3]
theorem none_of {H : Hp} {p q : Addr} {o : HO} (h : upd H p o q = none) : q ≠ p ∧ H q = none := by
  have n : q ≠ p := fun z => by rw [z, upd_same] at h; cases h
  rw [upd_ne n] at h
  exact ⟨n, h⟩

def sp_Font_init (K : PySem.W.Frag) (a : Ad) : Sp := sp4 fun s x kr bl H Q E => ∃ (p dx d : Addr) (es : List (Str × V)) (n : Int), s = .ref p ∧ x = .ref d ∧ kr = .non ∧ bl = .int n ∧ H p = some (.ins a.C_Font dx []) ∧ H d = some (.dK (encV es)) ∧ (es.map (·.1)).Nodup ∧ es.length ≤ 500 ∧ (∀ x ∈ es, x.1.length ≤ sizeLine) ∧ (∀ x ∈ es, ∀ H', IsI K H' x.2 (isIntV x.2)) ∧ 0 ≤ n ∧ n ≤ 1000000 ∧ Tab a H ∧
  match runPA es ((es.map (·.1)).mergeSort rankLe) [] with
  | .error e => raiseFB a [p] H E e
  | .ok r => ∀ H' ro pr pa, Fr [p] H H' → Tab a H' → FontAt a H' p dx ro pr pa r n → H' pa = some (.lst []) → New H ro → New H pr → New H pa → Q .non H'
theorem ok_Font_init {P : Program} {w : World} {K : PySem.W.Frag} {mg : Str → Option Value} {base : Heap} {a : Ad} (T : Txt P K mg base a) : FnOk P w K mg base (L2.CX P w) 7 a.f_Font_init a.d_Font_init (["self", "advances", "kerns", "blank"] : List Str) (sp_Font_init K a) := by
  refine T.F_Font_init.ok sc_Font_init (fun vs H Q E h => sp4_len h) (fun cdv A outer s H vs Q E hr h => ?_)
  have hu := hu_of hr
  refine ⟨_, (pss_cons (ps_fld (pv 0) pe_dnewK rfl)
      (pss_cons (ps_fld (pv 0) pe_dnewK rfl)
      (pss_cons (ps_fld (pv 0) pe_int rfl)
      (pss_cons (ps_fld (pv 0) (pe_lst pa_nil) rfl)
      (pss_cons (ps_expr (pe_mtS (pv 0) T.c_Font T.M_Font_put_blank (ok_Font_put_blank T) (hr.mono (by decide)) T.B_Font_put_blank .nil (fun σ => passAt (takes_of rfl rfl rfl rfl) σ) (pa_cons (pv 3) pa_nil)))
      (pss_cons (ps_for PassesOwn.leaving rfl (pi_list (pe_call (ok_font_order T) (hr.mono (by decide)) rfl T.g_font_order T.k_font_order T.B_font_order .nil pass0 (pa_cons (pv 1) pa_nil))) (pg_name (i := 4) sc_Font_init.nd rfl (Or.inl rfl)) (pss_one (ps_expr (pe_mtS (pv 0) T.c_Font T.M_Font_put_advance (ok_Font_put_advance T) (hr.mono (by decide)) T.B_Font_put_advance .nil (fun σ => passAt (takes_of rfl rfl rfl rfl) σ) (pa_cons (pv 4) (pa_cons (pe_dget hu (pv 1) (pv 4) (fun _ _ => rfl)) pa_nil))))))
      (pss_one (ps_if (pt_cmpR qo_notN (pv 2) pe_non (nomark _)) (pss_one ps_never) pss_nil)))))))), ?_⟩
  try dsimp only [L2.cxOf]
  obtain ⟨s0, x, kr, bl, rfl, p, dx, d, es, n, rfl, rfl, rfl, rfl, hp, hd, nd, hlen, hnm, hI, n0, n1, tb, k⟩ := h
  rw [show L2.start (["self", "advances", "kerns", "blank", "glyph", "pair"] : List Str) [(.ref p), (.ref d), .non, (.int n)] = ([some ((.ref p)), some ((.ref d)), some (.non), some ((.int n)), none, none] : L2.St) from rfl]
  walk_at "w"
  intro ro nro
  walk_at "w"
  refine ⟨p, _, dx, _, rfl, upd_old hp nro, T.c_Font, T.na_Font_rows, by decide, ?_⟩
  walk_at "w"
  intro pr npr
  obtain ⟨d1, npr1⟩ := none_of npr
  obtain ⟨d2, npr2⟩ := none_of npr1
  walk_at "w"
  refine ⟨p, _, dx, _, rfl, upd_old upd_same npr, T.c_Font, T.na_Font_pairs, by show 1 < 1000; decide, ?_⟩
  walk_at "w"
  refine ⟨p, _, dx, _, rfl, upd_same, T.c_Font, T.na_Font_space, by rw [ff_put1, ff_put2]; show 2 < 1000; decide, ?_⟩
  rw [ff_put1, ff_put2, ff_put3]
  walk_at "w"
  refine ⟨by decide, fun pa npa => ?_⟩
  obtain ⟨d3, npa1⟩ := none_of npa
  obtain ⟨_, npa2⟩ := none_of npa1
  obtain ⟨d4, npa3⟩ := none_of npa2
  obtain ⟨_, npa4⟩ := none_of npa3
  obtain ⟨d5, npa5⟩ := none_of npa4
  walk_at "w"
  refine ⟨p, _, dx, _, rfl, upd_old upd_same npa, T.c_Font, T.na_Font_past, by show 3 < 1000; decide, ?_⟩
  rw [ff_put4]
  walk_at "w"
  refine ⟨p, dx, _, rfl, upd_same, ff_no (by decide +kernel), ?_⟩
  walk_at "w"
  refine ⟨_, _, rfl, p, dx, _, true, rfl, upd_same, by show 4 < 1000; decide, isI_int n, (fun z => by cases z), fun _ => ⟨n, rfl, fun _ => ?_, fun z => absurd ⟨n0, n1⟩ z⟩⟩
  rw [ff_put, upd_upd]
  -- the empty font
  have nep : ro ≠ p := fun z => by rw [z, hp] at nro; cases nro
  have F0 : FontAt a (upd (upd (upd (upd (upd (upd (upd H ro (.dK [])) p (.ins a.C_Font dx [("rows", .ref ro)])) pr (.dK [])) p (.ins a.C_Font dx [("rows", .ref ro), ("pairs", .ref pr)])) p (.ins a.C_Font dx [("rows", .ref ro), ("pairs", .ref pr), ("space", .int 0)])) pa (.lst [])) p (.ins a.C_Font dx (ffields ro pr pa n))) p dx ro pr pa [] n :=
    ⟨upd_same, by rw [upd_ne nep, upd_ne (Ne.symm d5), upd_ne nep, upd_ne nep, upd_ne (Ne.symm d2), upd_ne nep, upd_same]; rfl, by rw [upd_ne d1, upd_ne (Ne.symm d4), upd_ne d1, upd_ne d1, upd_same], Ne.symm d2⟩
  have A0 : (upd (upd (upd (upd (upd (upd (upd H ro (.dK [])) p (.ins a.C_Font dx [("rows", .ref ro)])) pr (.dK [])) p (.ins a.C_Font dx [("rows", .ref ro), ("pairs", .ref pr)])) p (.ins a.C_Font dx [("rows", .ref ro), ("pairs", .ref pr), ("space", .int 0)])) pa (.lst [])) p (.ins a.C_Font dx (ffields ro pr pa n))) pa = some (.lst []) := by rw [upd_ne d3, upd_same]
  have R0 : Fr [p] H (upd (upd (upd (upd (upd (upd (upd H ro (.dK [])) p (.ins a.C_Font dx [("rows", .ref ro)])) pr (.dK [])) p (.ins a.C_Font dx [("rows", .ref ro), ("pairs", .ref pr)])) p (.ins a.C_Font dx [("rows", .ref ro), ("pairs", .ref pr), ("space", .int 0)])) pa (.lst [])) p (.ins a.C_Font dx (ffields ro pr pa n))) :=
    (((((((Fr.refl.new nro).upd (by simp)).new npr).upd (by simp)).upd (by simp)).new npa).upd (by simp))
  have T0 : Tab a (upd (upd (upd (upd (upd (upd (upd H ro (.dK [])) p (.ins a.C_Font dx [("rows", .ref ro)])) pr (.dK [])) p (.ins a.C_Font dx [("rows", .ref ro), ("pairs", .ref pr)])) p (.ins a.C_Font dx [("rows", .ref ro), ("pairs", .ref pr), ("space", .int 0)])) pa (.lst [])) p (.ins a.C_Font dx (ffields ro pr pa n))) :=
    Tab.upd (Tab.new (Tab.upd (Tab.upd (Tab.new (Tab.upd (Tab.new tb nro) (upd_old hp nro) trivial) npr) (upd_old upd_same npr) trivial) upd_same trivial) npa) (upd_old upd_same npa) trivial
  generalize (upd (upd (upd (upd (upd (upd (upd H ro (.dK [])) p (.ins a.C_Font dx [("rows", .ref ro)])) pr (.dK [])) p (.ins a.C_Font dx [("rows", .ref ro), ("pairs", .ref pr)])) p (.ins a.C_Font dx [("rows", .ref ro), ("pairs", .ref pr), ("space", .int 0)])) pa (.lst [])) p (.ins a.C_Font dx (ffields ro pr pa n))) = H5 at F0 A0 R0 T0 ⊢
  clear npr npr1 npa npa1 npa2 npa3 npa4
  have hdp : d ∉ [p] := by
    simp
    exact ne_of hd hp (by intro z; cases z)
  have hd5 := R0 _ _ hd trivial hdp
  walk_at "w"
  refine ⟨_, rfl, d, es.map (·.1), rfl, .inr ⟨_, hd5, keys_encV es⟩, by rw [List.length_map]; omega, fun z hz => ?_, T0, fun H6 l x6 t6 n6 e6 => ?_⟩
  · obtain ⟨y, hy, rfl⟩ := List.mem_map.mp hz
    exact hnm y hy
  have hmem : ∀ g, g ∈ (es.map (·.1)).mergeSort rankLe → g ∈ es.map (·.1) := fun g hg => (List.mergeSort_perm _ _).mem_iff.mp hg
  generalize hord : (es.map (·.1)).mergeSort rankLe = ord at k e6 hmem
  have hol : ord.length ≤ 500 := by
    rw [← hord, List.length_mergeSort, List.length_map]
    exact hlen
  have F6 := F0.ex x6
  have ron : ro ∉ [p] := by simp; exact nep
  have lro : l ≠ ro := fun z => n6 (.dK (encR [])) (by rw [z]; exact F0.row) trivial
  have frP : ∀ H', Fr [ro] H6 H' → Fr [p] H H' := fun H' R7 b o hb nt nb => R7 _ _ (x6 _ _ (R0 b o hb nt nb) nt) nt (by simp; exact fun z => by rw [z, nro] at hb; cases hb)
  refine ⟨l, rfl, ⟨_, SqL.of e6⟩, turnsW (walk_list (xs := ord.map V.str)) (fun i σ' H' => ∃ r, runPA es (ord.take i) [] = .ok r ∧ FontAt a H' p dx ro pr pa r n ∧ Fr [ro] H6 H' ∧ Tab a H' ∧ r.length ≤ i ∧ (∀ x ∈ r, x.1.length ≤ sizeLine) ∧ ∃ g0, σ' = [some (.ref p), some (.ref d), some .non, some (.int n), g0, none]) ⟨[], rfl, F6, Fr.refl, t6, by simp, by simp, _, rfl⟩ ?_ ?_ ?_⟩
  · rintro i σ' H' _ ⟨r, _, _, R, _⟩
    exact SqL.of (R _ _ e6 trivial (by simp; exact lro))
  · rintro i x σ' H7 H' hi ⟨r, er, F7, R7, t7, lr, nr, g0, rfl⟩ ⟨rfl, hx⟩
    rw [List.getElem?_map] at hx
    obtain ⟨g, hg, rfl⟩ := Option.map_eq_some_iff.mp hx
    obtain ⟨v, hv⟩ : ∃ v, getR es g = some v := Option.isSome_iff_exists.mp (getR_mem.mpr (hmem g (List.mem_of_getElem? hg)))
    obtain ⟨⟨g', v'⟩, hm, e1, e2⟩ : ∃ y ∈ es, y.1 = g ∧ y.2 = v := by
      unfold getR at hv
      obtain ⟨y, h1, h2⟩ := Option.map_eq_some_iff.mp hv
      exact ⟨y, List.mem_of_find?_eq_some h1, by simpa using List.find?_some h1, h2⟩
    dsimp only at e1 e2
    subst e1 e2
    have hd7 : H' d = some (.dK (encV es)) := R7 _ _ (x6 _ _ hd5 trivial) trivial (by simp; exact fun z => absurd (by rw [z, nro] at hd; exact hd) (by intro z; cases z))
    have dg : DGet H' d (.str g') (some v') := by
      have h := DGet.k (k := (Sum.inr g' : L2.Key)) hd7
      rw [val_encV, hv] at h
      exact h
    have hi5 : i < 500 := by
      rw [List.length_map] at hi
      omega
    have split1 : ord = ord.take i ++ g' :: ord.drop (i + 1) := by
      obtain ⟨hi', e⟩ := List.getElem?_eq_some_iff.mp hg
      rw [← e, ← List.drop_eq_getElem_cons, List.take_append_drop]
    walk_at "w"
    refine ⟨p, dx, _, rfl, F7.ins, ff_no (by decide +kernel), ?_⟩
    walk_at "w"
    refine ⟨d, v', rfl, dg, ?_⟩
    walk_at "w"
    refine ⟨_, _, _, rfl, p, dx, ro, pr, pa, r, n, g', rfl, rfl, F7, by omega, nr, hnm _ hm, hI _ hm _, t7, ?_⟩
    cases q : paRes r g' v' with
    | error e =>
      have er2 : runPA es ord [] = .error e := by
        rw [split1, runPA_app er, runPA_er (by rw [hv]; exact q)]
      rw [er2] at k
      exact raiseFB.at k (frP _ R7)
    | ok r' =>
      obtain ⟨m, rfl, rfl, _, _⟩ := paRes_put q
      refine fun H8 x8 t8 => ?_
      walk_at "w"
      refine ⟨putR r g' m, ?_, (F7.ex x8).put _, (R7.trans (Fr.of x8)).upd (by simp), Tab.upd t8 (F7.ex x8).row trivial, ?_, putR_names (P := fun z => z.length ≤ sizeLine) nr (hnm _ hm), _, rfl⟩
      · rw [List.take_add_one, hg, runPA_app er]
        show runPA es [g'] r = _
        rw [runPA_ok (by rw [hv]; exact q)]
        rfl
      · have := putR_len (r := r) (z := g') (n := m)
        omega
  · rintro σ' H7 ⟨r, er, F7, R7, t7, lr, nr, g0, rfl⟩
    rw [List.length_map, List.take_length] at er
    rw [er] at k
    walk_at "w"
    refine it_npos rfl ?_
    walk_at "w"
    refine k H7 ro pr pa (frP _ R7) t7 F7 ?_ (New.of nro) (New.of npr2) (New.of npa5)
    · exact R7 _ _ (x6 _ _ A0 trivial) trivial (by simp; exact d5)

local macro_rules | `(tactic| walk_at "s2") => `(tactic| first
  | with_reducible refine w_yes ?_
  | with_reducible refine w_js ?_
  | with_reducible refine w_jsN ?_
  | with_reducible refine w_fmt6 ?_
  | with_reducible refine w_fmt9 ?_)
def rowText (g : Str) (n : Nat) : Str := ((Str.empty ++ padR g) ++ (" " : Str)) ++ fmtD (digs n)
theorem app_len (x y : Str) : (x ++ y).length = x.length + y.length := by
  show (x.cps ++ y.cps).size = _
  simp [Str.length]
theorem padR_len {g : Str} (h : g.length ≤ 6) : (padR g).length = 6 := by
  unfold padR Str.length at *
  simp
  omega
theorem fmtD_len {n : Nat} (h : n ≤ 1000000) : (fmtD (digs n)).length = 9 := by
  have c := commas_len (d := digs n) (by unfold digs; simp; exact (toDigits_len h).2)
  unfold fmtD Str.length
  simp
  omega

def sp_width_table (K : PySem.W.Frag) (a : Ad) : Sp := sp1 fun s H Q _ => ∃ (p dx ro pr pa : Addr) (r : Rows) (sp : Int), s = .ref p ∧ FontAt a H p dx ro pr pa r sp ∧ r.length ≤ 900 ∧ (∀ x ∈ r, x.1.length ≤ 6) ∧ (∀ x ∈ r, 0 ≤ x.2 ∧ x.2 ≤ 1000000) ∧ Tab a H ∧
  ∀ H' l, Ex H H' → Tab a H' → New H l → H' l = some (.lst (((r.map (·.1)).mergeSort rankLe).map fun g => V.str (rowText g ((getR r g).getD 0).toNat))) → Q (.ref l) H'
theorem ok_width_table {P : Program} {w : World} {K : PySem.W.Frag} {mg : Str → Option Value} {base : Heap} {a : Ad} (T : Txt P K mg base a) : FnOk P w K mg base CX0 5 a.f_width_table a.d_width_table (["font"] : List Str) (sp_width_table K a) := by
  refine T.F_width_table.ok sc_width_table (fun vs H Q E h => sp1_len h) (fun cdv A outer s H vs Q E hr h => ?_)
  have hu := hu_of hr
  refine ⟨_, (pss_one (ps_ret (pe_lc (own := [("glyph", 1)]) (g := gName 1) (tt := tYes) (by rfl) sc_width_table.nd (pi_list (pe_meth0 (pv 0) T.c_Font T.M_Font_glyphs (ok_Font_glyphs T) (hr.mono (by decide)) T.B_Font_glyphs .nil pass0)) (blkOk_by (own := [("glyph", 1)]) (N := ["font", "glyph"]) (sc := defScope s_width_table) (by decide +kernel)) (fun _ _ _ _ _ => (pg_name (i := 1) sc_width_table.nd rfl (Or.inl rfl))) (fun _ _ _ _ _ => pts_nil) (fun _ _ _ _ _ => (pe_joined (PJ.cons (pe_fmt6 (pv 1)) (PJ.cons pe_str (PJ.cons (pe_fmt9 (pe_mtS (pv 0) T.c_Font T.M_Font_advance_of (ok_Font_advance_of T) (hr.mono (by decide)) T.B_Font_advance_of .nil (fun σ => passAt takes0 σ) (pa_cons (pv 1) pa_nil))) PJ.nil)))))))), ?_⟩
  try dsimp only [L2.cxOf]
  obtain ⟨s0, rfl, p, dx, ro, pr, pa, r, sp, rfl, F, hn, hl, hv, tb, k⟩ := h
  rw [show L2.start (["font", "glyph"] : List Str) [(.ref p)] = ([some ((.ref p)), none] : L2.St) from rfl]
  have sz : sizeLine = 16777216 := by decide
  walk_at "w"
  refine ⟨p, dx, _, rfl, F.ins, ff_no (by decide +kernel), ?_⟩
  walk_at "w"
  refine ⟨_, rfl, p, dx, ro, pr, pa, r, sp, rfl, F, by omega, fun x hx => by have := hl x hx; omega, tb, fun H1 l x1 t1 n1 e1 => ?_⟩
  have hmem : ∀ g, g ∈ (r.map (·.1)).mergeSort rankLe → ∃ n, getR r g = some n ∧ g.length ≤ 6 ∧ 0 ≤ n ∧ n ≤ 1000000 := fun g hg => by
    have h1 := (List.mergeSort_perm _ _).mem_iff.mp hg
    obtain ⟨n, hn⟩ := Option.isSome_iff_exists.mp (getR_mem.mpr h1)
    have hn' := hn
    unfold getR at hn
    obtain ⟨y, h2, h3⟩ := Option.map_eq_some_iff.mp hn
    have hy := List.mem_of_find?_eq_some h2
    have e : y.1 = g := by simpa using List.find?_some h2
    have h4 := hv y hy
    have h5 := hl y hy
    rw [e] at h5
    rw [h3] at h4
    exact ⟨n, hn', h5, h4.1, h4.2⟩
  have hol : ((r.map (·.1)).mergeSort rankLe).length ≤ 900 := by rw [List.length_mergeSort, List.length_map]; exact hn
  generalize (r.map (·.1)).mergeSort rankLe = ord at k e1 hmem hol
  refine ⟨l, rfl, ⟨_, SqL.of e1⟩, lcsW (walk_list (xs := ord.map V.str)) (fun D i H' => H1 D = none ∧ H' = upd H1 D (.lst ((ord.take i).map fun g => V.str (rowText g ((getR r g).getD 0).toNat)))) (fun D hD => ⟨hD, by simp⟩) (fun D i H' _ ⟨hD, e⟩ => by rw [e]; exact (Ex.new hD).sqL (SqL.of e1)) ?_ ?_⟩
  · rintro D i x H2 H' hi ⟨hD, rfl⟩ ⟨rfl, hx⟩
    rw [List.getElem?_map] at hx
    obtain ⟨g, hg, rfl⟩ := Option.map_eq_some_iff.mp hx
    obtain ⟨n, en, lg, n0, n1'⟩ := hmem g (List.mem_of_getElem? hg)
    have F2 := (F.ex x1).ex (Ex.new (o := .lst ((ord.take i).map fun g => V.str (rowText g ((getR r g).getD 0).toNat))) hD)
    have pl := padR_len lg
    obtain ⟨m, rfl⟩ := Int.eq_ofNat_of_zero_le n0
    have fl := fmtD_len (n := m) (by omega)
    walk_at "w"
    refine ⟨rfl, ?_⟩
    walk_at "w"
    refine ⟨g, rfl, lg, _, rfl, ?_, ?_⟩
    · rw [app_len, pl, sz]
      decide
    walk_at "w"
    refine ⟨_, rfl, ?_, ?_⟩
    · rw [app_len, app_len, pl, sz]
      decide
    walk_at "w"
    refine ⟨p, dx, _, rfl, F2.ins, ff_no (by decide +kernel), ?_⟩
    walk_at "w"
    refine ⟨_, _, rfl, p, dx, ro, pr, pa, r, sp, g, rfl, rfl, F2, fun n' e' => ?_, fun z => by rw [en] at z; cases z⟩
    rw [en] at e'
    cases e'
    refine ⟨m, rfl, by omega, _, rfl, ?_, ?_⟩
    · rw [app_len, app_len, app_len, pl, fl, sz]
      decide
    walk_at "w"
    refine ⟨_, upd_same, ?_, hD, ?_⟩
    · rw [List.length_map, List.length_take, sz]
      omega
    · rw [upd_upd, List.take_add_one, hg]
      simp only [Option.toList_some, List.map_append, List.map_cons, List.map_nil, en, Option.getD_some]
      rfl
  · rintro D H' ⟨hD, rfl⟩
    rw [List.length_map, List.take_length]
    exact k _ D (x1.trans (Ex.new hD)) (Tab.new t1 hD) (New.back (New.of hD) x1) upd_same

/-- the law's bag of draws at b -/
def bagL (it : Addr) (p r s c : Int) : List V := [.ref it, .int p, .int r, .int s, .int c]
structure BagAt (H : Hp) (b it : Addr) : Prop where
  ex : ∃ (ns : List Int) (p r s c : Int), H b = some (.lst (bagL it p r s c)) ∧ H it = some (.lst (ns.map V.int)) ∧ b ≠ it ∧ 0 ≤ p ∧ 0 ≤ s ∧ s < 2147483647
theorem BagAt.lst {H : Hp} {b it : Addr} (B : BagAt H b it) : ∃ xs, H b = some (.lst xs) := by
  obtain ⟨ns, p, r, s, c, h, _⟩ := B.ex
  exact ⟨_, h⟩
theorem BagAt.same {H H' : Hp} {b it : Addr} (B : BagAt H b it) (s : Same H H') : BagAt H' b it := by
  obtain ⟨ns, p, r, s', c, h1, h2, h3⟩ := B.ex
  exact ⟨ns, p, r, s', c, s _ _ h1, s _ _ h2, h3⟩
theorem BagAt.put {H : Hp} {b it : Addr} {ns : List Int} {p r s c : Int} (h2 : H it = some (.lst (ns.map V.int))) (hb : b ≠ it) (hp : 0 ≤ p) (hs : 0 ≤ s) (hs2 : s < 2147483647) : BagAt (upd H b (.lst (bagL it p r s c))) b it :=
  ⟨ns, p, r, s, c, upd_same, by rw [upd_ne (Ne.symm hb)]; exact h2, hb, hp, hs, hs2⟩

def sp_law_bag (K : PySem.W.Frag) (a : Ad) : Sp := sp1 fun x H Q _ => ∃ (s : Addr) (ns : List Int), x = .ref s ∧ SqL K H s (ns.map V.int) ∧ ∀ b it H', H b = none → H it = none → Same H H' → BagAt H' b it → Q (.ref b) H'
theorem ok_law_bag {P : Program} {w : World} {K : PySem.W.Frag} {mg : Str → Option Value} {base : Heap} {a : Ad} (T : Txt P K mg base a) : FnOk P w K mg base CX0 1 a.f_law_bag a.d_law_bag (["_law_script"] : List Str) (sp_law_bag K a) := by
  refine T.F_law_bag.ok sc_law_bag (fun vs H Q E h => sp1_len h) (fun cdv A outer s H vs Q E hr h => ?_)
  have hu := hu_of hr
  refine ⟨_, (pss_one (ps_ret (pe_lst (pa_cons (pe_callTy qc_list (by rfl) T.n_list bb_list (pa_cons (pe_slice sl_list (pv 0) po_none (po_some pe_int)) pa_nil)) (pa_cons pe_int (pa_cons pe_int (pa_cons pe_int (pa_cons pe_int pa_nil)))))))), ?_⟩
  try dsimp only [L2.cxOf]
  obtain ⟨x, rfl, s0, ns, rfl, hS, k⟩ := h
  rw [show L2.start (["_law_script"] : List Str) [(.ref s0)] = ([some ((.ref s0))] : L2.St) from rfl]
  walk_at "w"
  refine w_slL hS fun p1 n1 => ?_
  walk_at "w"
  refine w_listS (SqL.of upd_same) fun p2 n2 => ?_
  walk_at "w"
  refine ⟨by show 5 ≤ sizeLine; decide, fun b n3 => ?_⟩
  have z1 : H p2 = none := (Same.new (o := .lst (cutV (ns.map V.int) none (some 63))) n1).free n2
  have z2 : (upd H p1 (.lst (cutV (ns.map V.int) none (some 63)))) b = none := (Same.new n2).free n3
  have z3 : H b = none := (Same.new n1).free z2
  have e2 : b ≠ p2 := fun z => by
    rw [z, upd_same] at n3
    cases n3
  refine k b p2 _ z3 z1 (Same.upd (Same.upd (Same.new n1) z1) z3) ?_
  obtain ⟨ms, em⟩ : ∃ ms : List Int, cutV (ns.map V.int) none (some 63) = ms.map V.int := by
    unfold cutV
    rw [← List.map_drop, ← List.map_take]
    exact ⟨_, rfl⟩
  rw [em]
  exact BagAt.put upd_same e2 (by decide) (by decide) (by decide)

def sp_law_take (K : PySem.W.Frag) (a : Ad) : Sp := sp2 fun x y H Q _ => ∃ (b it : Addr) (n : Int), x = .ref b ∧ y = .int n ∧ BagAt H b it ∧ 0 < n ∧ n.natAbs < 2 ^ 8000 ∧ ∀ r H', 0 ≤ r → r < n → BagAt H' b it → (∀ c, c ≠ b → H' c = H c) → Q (.int r) H'
theorem ok_law_take {P : Program} {w : World} {K : PySem.W.Frag} {mg : Str → Option Value} {base : Heap} {a : Ad} (T : Txt P K mg base a) : FnOk P w K mg base CX0 1 a.f_law_take a.d_law_take (["_law_bag_here", "_law_size"] : List Str) (sp_law_take K a) := by
  refine T.F_law_take.ok sc_law_take (fun vs H Q E h => sp2_len h) (fun cdv A outer s H vs Q E hr h => ?_)
  have hu := hu_of hr
  refine ⟨_, (pss_cons (ps_if (pt_cmpR op_ge (pe_ix ix_list (pv 0) pe_int (fun _ _ => rfl)) (pe_op op_pow pe_int pe_int) (nomark _)) (pss_cons (ps_set (i := 2) sc_law_take.nd rfl (Or.inl rfl) (pe_op op_mod (pe_callTy qc_int1 (by rfl) T.n_int bb_int (pa_cons (pe_ix ix_list (pv 0) pe_int (fun _ _ => rfl)) pa_nil)) (pv 1)))
      (pss_cons (ps_asg (pe_op op_fdivX (pe_ix ix_list (pv 0) pe_int (fun _ _ => rfl)) (pv 1)) (pg_sub (pv 0) pe_int set_list))
      (pss_one (ps_ret (pv 2))))) pss_nil)
      (pss_cons (ps_set (i := 3) sc_law_take.nd rfl (Or.inl rfl) pe_int)
      (Evl.pss_cut (ps_if (pt_cmpR op_lt (pe_ix ix_list (pv 0) pe_int (fun _ _ => rfl)) (pe_callB qc_len (by rfl) T.n_len bb_len (pa_cons (pe_ix ix_list (pv 0) pe_int (fun _ _ => rfl)) pa_nil)) (nomark _)) (pss_cons (ps_set (i := 3) sc_law_take.nd rfl (Or.inl rfl) (pe_ix ix_list (pe_ix ix_list (pv 0) pe_int (fun _ _ => rfl)) (pe_ix ix_list (pv 0) pe_int (fun _ _ => rfl)) (fun _ _ => rfl)))
      (pss_one (ps_asg (pe_op op_add (pe_ix ix_list (pv 0) pe_int (fun _ _ => rfl)) pe_int) (pg_sub (pv 0) pe_int set_list)))) pss_nil)
      (pss_cons (ps_if (pt_cmpR op_ge (pv 3) (pe_op op_pow pe_int pe_int) (nomark _)) (pss_cons (ps_asg (pe_op op_fdivX (pv 3) (pv 1)) (pg_sub (pv 0) pe_int set_list))
      (pss_one (ps_ret (pe_op op_mod (pe_callTy qc_int1 (by rfl) T.n_int bb_int (pa_cons (pv 3) pa_nil)) (pv 1))))) pss_nil)
      (pss_cons (ps_asg (pe_op op_add (pe_ix ix_list (pv 0) pe_int (fun _ _ => rfl)) pe_int) (pg_sub (pv 0) pe_int set_list))
      (pss_cons (ps_asg (pe_op op_mod (pe_callTy qc_int1 (by rfl) T.n_int bb_int (pa_cons (pe_op op_add (pe_op op_add (pe_op op_mul (pe_ix ix_list (pv 0) pe_int (fun _ _ => rfl)) pe_int) (pv 3)) (pe_op op_mul (pe_ix ix_list (pv 0) pe_int (fun _ _ => rfl)) pe_int)) pa_nil)) pe_int) (pg_sub (pv 0) pe_int set_list))
      (pss_one (ps_ret (pe_op op_mod (pe_op op_fdivX (pe_op op_mod (pe_callTy qc_int1 (by rfl) T.n_int bb_int (pa_cons (pe_op op_mul (pe_ix ix_list (pv 0) pe_int (fun _ _ => rfl)) (pe_ix ix_list (pv 0) pe_int (fun _ _ => rfl))) pa_nil)) pe_int) pe_int) (pv 1)))))))))), ?_⟩
  try dsimp only [L2.cxOf]
  obtain ⟨x, y, rfl, b, it, n, rfl, rfl, B, hn, hz, k⟩ := h
  obtain ⟨ns, p, r, s0, c, hb, hit, hne, hp, hs, hs2⟩ := B.ex
  have dn : ∀ i, CDivX i n := fun i => divX (by omega) hz (by decide) (by decide)
  have mn : ∀ i : Int, 0 ≤ i % n ∧ i % n < n := fun i => ⟨Int.emod_nonneg _ (by omega), Int.emod_lt_of_pos _ hn⟩
  have fr : ∀ (o : HO) (c : Addr), c ≠ b → upd H b o c = H c := fun o c z => upd_ne z
  rw [show L2.start (["_law_bag_here", "_law_size", "_law_digit", "_law_cell"] : List Str) [(.ref b), (.int n)] = ([some ((.ref b)), some ((.int n)), none, none] : L2.St) from rfl]
  walk_at "w"
  refine it_dec (fun c1 => ?_) (fun c1 => ?_)
  · walk_at "w"
    exact k _ _ (mn r).1 (mn r).2 (BagAt.put hit hne hp hs hs2) (fr _)
  · walk_at "w"
    refine ⟨fun σ' H' => ∃ cell p', σ' = [some (.ref b), some (.int n), none, some (.int cell)] ∧ 0 ≤ p' ∧ H' b = some (.lst (bagL it p' r s0 c)) ∧ ∀ z, z ≠ b → H' z = H z, ?_, ?_⟩
    · walk_at "w"
      refine it_dec (fun c2 => ?_) (fun c2 => ?_)
      · walk_at "w"
        obtain ⟨j, rfl⟩ := Int.eq_ofNat_of_zero_le hp
        rw [List.length_map] at c2
        have hj : j < ns.length := Int.ofNat_lt.mp c2
        refine w_ix (SqL.of hit) (at_of (j := j) rfl (by rw [List.getElem?_map, List.getElem?_eq_getElem hj]; rfl)) ?_
        walk_at "w"
        exact ⟨_, (j : Int) + 1, rfl, by omega, upd_same, fun z hz => upd_ne hz⟩
      · walk_at "w"
        exact ⟨0, p, rfl, hp, hb, fun _ _ => rfl⟩
    · rintro σ' H' ⟨cell, p', rfl, hp', hb', fr'⟩
      have hit' : H' it = some (.lst (ns.map V.int)) := (fr' it (Ne.symm hne)).trans hit
      walk_at "w"
      refine it_dec (fun c3 => ?_) (fun c3 => ?_)
      · walk_at "w"
        exact k _ _ (mn _).1 (mn _).2 (BagAt.put hit' hne hp' hs hs2) fun z hz => (upd_ne hz).trans (fr' z hz)
      · have q0 := Int.emod_nonneg (s0 * 48271 + cell + (c + 1) * 69621) (show (2147483647 : Int) ≠ 0 by decide)
        have q1 := Int.emod_lt_of_pos (s0 * 48271 + cell + (c + 1) * 69621) (show (0 : Int) < 2147483647 by decide)
        walk_at "w"
        refine k _ _ (mn _).1 (mn _).2 ?_ fun z hz => ((upd_ne hz).trans (upd_ne hz)).trans (fr' z hz)
        rw [upd_upd]
        exact BagAt.put hit' hne hp' q0 q1

--CUT
/-- a law's helper has drawn from the bag at b -/
structure Drew (a : Ad) (b it : Addr) (H H' : Hp) : Prop where
  bag : BagAt H' b it
  fr : Fr [b] H H'
  tab : Tab a H → Tab a H'
theorem Tab.but {a : Ad} {H H' : Hp} {b : Addr} {u : HO} (t : Tab a H) (h : H b = some u) (pl : Pl u) (e : ∀ c, c ≠ b → H' c = H c) : Tab a H' := by
  obtain ⟨ps, h1, h2, h3⟩ := t
  refine ⟨ps, ?_, h2, fun pos cv hc => ?_⟩
  · rw [e _ (fun z => by rw [← z, h1] at h; cases h; exact pl)]
    exact h1
  · obtain ⟨c, e1, e2⟩ := h3 pos cv hc
    refine ⟨c, e1, ?_⟩
    rw [e _ (fun z => by rw [← z, e2] at h; unfold LamX.CodeO at h; cases h; exact pl)]
    exact e2
section
variable {a : Ad} {H H' H1 H2 : Hp} {b it p : Addr}
theorem BagAt.fr {bs : List Addr} (B : BagAt H b it) (x : Fr bs H H') (h : b ∉ bs) (h' : it ∉ bs) : BagAt H' b it := by
  obtain ⟨ns, p, r, s', c, h1, h2, h3⟩ := B.ex
  exact ⟨ns, p, r, s', c, x _ _ h1 trivial h, x _ _ h2 trivial h', h3⟩
theorem BagAt.exx (B : BagAt H b it) (x : Ex H H') : BagAt H' b it := B.fr (bs := []) (Fr.of x) (by simp) (by simp)
theorem BagAt.neNew (B : BagAt H b it) (n : New H p) : p ≠ b ∧ p ≠ it := by
  obtain ⟨ns, p', r, s', c, h1, h2, _⟩ := B.ex
  exact ⟨fun z => n.ne h1 trivial z.symm, fun z => n.ne h2 trivial z.symm⟩
theorem BagAt.upd {o : HO} (B : BagAt H b it) (h : p ≠ b) (h' : p ≠ it) : BagAt (L2.upd H p o) b it := by
  obtain ⟨ns, p', r, s', c, h1, h2, h3⟩ := B.ex
  exact ⟨ns, p', r, s', c, by rw [upd_ne (Ne.symm h)]; exact h1, by rw [upd_ne (Ne.symm h')]; exact h2, h3⟩
theorem BagAt.neKind {u : HO} (B : BagAt H b it) (h : H p = some u) (k : ∀ xs, u ≠ .lst xs) : p ≠ b ∧ p ≠ it := by
  obtain ⟨ns, p', r, s', c, h1, h2, _⟩ := B.ex
  exact ⟨ne_of h h1 (k _), ne_of h h2 (k _)⟩
theorem Drew.refl (B : BagAt H b it) : Drew a b it H H := ⟨B, Fr.refl, id⟩
theorem Drew.trans (x : Drew a b it H H1) (y : Drew a b it H1 H2) : Drew a b it H H2 := ⟨y.bag, x.fr.trans y.fr, fun t => y.tab (x.tab t)⟩
theorem Drew.take (B : BagAt H b it) (B' : BagAt H' b it) (e : ∀ c, c ≠ b → H' c = H c) : Drew a b it H H' := by
  obtain ⟨xs, hb⟩ := B.lst
  refine ⟨B', fun c o hc _ n => ?_, fun t => Tab.but t hb trivial e⟩
  rw [e c (by simpa using n)]
  exact hc
theorem Drew.ex (B : BagAt H b it) (x : Ex H H') (t : Tab a H → Tab a H') : Drew a b it H H' := ⟨B.exx x, Fr.of x, t⟩
theorem Drew.new {o : HO} (x : Drew a b it H H1) (n : H1 p = none) : Drew a b it H (upd H1 p o) := ⟨x.bag.same (Same.new n), x.fr.new n, fun t => Tab.new (x.tab t) n⟩
/-- something that is new since H is changed -/
theorem Drew.upd {u o : HO} (x : Drew a b it H H1) (B : BagAt H b it) (n : New H p) (h : H1 p = some u) (pl : Pl u) : Drew a b it H (L2.upd H1 p o) :=
  ⟨x.bag.upd (B.neNew n).1 (B.neNew n).2, fun c w hc nt nb => by rw [upd_ne (n.ne hc nt)]; exact x.fr c w hc nt nb, fun t => Tab.upd (x.tab t) h pl⟩
theorem Drew.new' (x : Drew a b it H H1) (n : New H1 p) : New H p := fun o h nt => n o (x.fr p o h nt (by simpa using (x.bag.neNew n).1)) nt
theorem Drew.at {o : HO} (x : Drew a b it H H1) (h : H p = some o) (nt : NT o) (n : p ≠ b) : H1 p = some o := x.fr _ _ h nt (by simpa using n)
end
def letterAt (st sp : Int) (k : Nat) : Str := one (97 + ((st + k * sp) % 26).toNat)

def sp_law_letters (K : PySem.W.Frag) (a : Ad) : Sp := sp2 fun x y H Q _ => ∃ (b it : Addr) (m : Nat), x = .ref b ∧ y = .int m ∧ BagAt H b it ∧ m ≤ 100 ∧
  ∀ l H' st t, Drew a b it H H' → New H l → 0 ≤ st → st < 26 → 0 ≤ t → t < 6 → H' l = some (.lst ((List.range m).map fun k => V.str (letterAt st (2 * t + 1) k))) → Q (.ref l) H'
theorem ok_law_letters {P : Program} {w : World} {K : PySem.W.Frag} {mg : Str → Option Value} {base : Heap} {a : Ad} (T : Txt P K mg base a) : FnOk P w K mg base CX0 2 a.f_law_letters a.d_law_letters (["_law_bag_here", "_law_many"] : List Str) (sp_law_letters K a) := by
  refine T.F_law_letters.ok sc_law_letters (fun vs H Q E h => sp2_len h) (fun cdv A outer s H vs Q E hr h => ?_)
  have hu := hu_of hr
  refine ⟨_, (pss_cons (ps_set (i := 2) sc_law_letters.nd rfl (Or.inr rfl) (pe_call (ok_law_take T) (hr.mono (by decide)) rfl T.g_law_take T.k_law_take T.B_law_take .nil pass0 (pa_cons (pv 0) (pa_cons pe_int pa_nil))))
      (pss_cons (ps_set (i := 3) sc_law_letters.nd rfl (Or.inr rfl) (pe_op op_add (pe_op op_mul pe_int (pe_call (ok_law_take T) (hr.mono (by decide)) rfl T.g_law_take T.k_law_take T.B_law_take .nil pass0 (pa_cons (pv 0) (pa_cons pe_int pa_nil)))) pe_int))
      (pss_one (ps_ret (pe_lc (own := [("_law_k", 4)]) (g := gName 4) (tt := tYes) (by rfl) sc_law_letters.nd (pi_range1 (by rfl) T.n_range (pa_cons (pv 1) pa_nil)) (blkOk_by (own := [("_law_k", 4)]) (N := ["_law_bag_here", "_law_many", "_law_start", "_law_step", "_law_k"]) (sc := defScope s_law_letters) (by decide +kernel)) (fun _ _ _ _ _ => (pg_name (i := 4) sc_law_letters.nd rfl (Or.inl rfl))) (fun _ _ _ _ _ => pts_nil) (fun _ _ _ _ _ => (pe_ix ix_str pe_str (pe_op op_mod (pe_op op_add (pv 2) (pe_op op_mul (pv 4) (pv 3))) pe_int) (fun _ _ => rfl)))))))), ?_⟩
  try dsimp only [L2.cxOf]
  obtain ⟨x, y, rfl, b, it, m, rfl, rfl, B, hm, k⟩ := h
  rw [show L2.start (["_law_bag_here", "_law_many", "_law_start", "_law_step", "_law_k"] : List Str) [(.ref b), (.int m)] = ([some ((.ref b)), some ((.int m)), none, none, none] : L2.St) from rfl]
  have al : (Str.ofString "abcdefghijklmnopqrstuvwxyz").cps.toList = (List.range 26).map (· + 97) := by decide +kernel
  have all : (Str.ofString "abcdefghijklmnopqrstuvwxyz").length ≤ sizeLine := by decide +kernel
  have sz : sizeLine = 16777216 := by decide
  walk_at "w"
  refine ⟨_, _, rfl, b, it, 26, rfl, rfl, B, by decide, by decide +kernel, fun st H1 s0 s1 B1 fr1 => ?_⟩
  have D1 : Drew a b it H H1 := Drew.take B B1 fr1
  walk_at "w"
  refine ⟨_, _, rfl, b, it, 6, rfl, rfl, B1, by decide, by decide +kernel, fun t H2 t0 t1 B2 fr2 => ?_⟩
  have D2 : Drew a b it H H2 := D1.trans (Drew.take B1 B2 fr2)
  walk_at "w"
  refine ⟨m, rfl, by omega, by omega, lcsW walk_range (fun D i H' => H2 D = none ∧ H' = upd H2 D (.lst ((List.range i).map fun k => V.str (letterAt st (2 * t + 1) k)))) (fun D hD => ⟨hD, rfl⟩) (fun _ _ _ _ _ => trivial) ?_ ?_⟩
  · rintro D i x H3 H' hi ⟨hD, rfl⟩ ⟨rfl, rfl⟩
    have hi' : i < 100 := by omega
    walk_at "w"
    refine ⟨rfl, ?_⟩
    walk_at "w"
    have e0 : (0 : Int) + (i : Int) = i := by omega
    rw [e0]
    obtain ⟨j, hj⟩ := Int.eq_ofNat_of_zero_le (Int.emod_nonneg (st + (i : Int) * (2 * t + 1)) (show (26 : Int) ≠ 0 by decide))
    have hj2 := Int.emod_lt_of_pos (st + (i : Int) * (2 * t + 1)) (show (0 : Int) < 26 by decide)
    refine w_ixS (c := 97 + j) all ?_ ?_
    · rw [hj, al]
      refine atI_nat ?_
      rw [List.getElem?_map, List.getElem?_range (by omega)]
      simp
      omega
    · refine ⟨_, upd_same, ?_, hD, ?_⟩
      · rw [List.length_map, List.length_range, sz]
        omega
      · rw [upd_upd, List.range_succ, List.map_append, List.map_cons, List.map_nil]
        unfold letterAt
        rw [hj]
        rfl
  · rintro D H' ⟨hD, rfl⟩
    rw [show (m : Int).toNat = m from rfl]
    exact k D _ st t (D2.new hD) (D2.new' (New.of hD)) s0 s1 t0 t1 upd_same

theorem pick {ls : List Str} {r : Int} (h0 : 0 ≤ r) (h1 : r < ls.length) : ∃ s ∈ ls, atI (ls.map V.str) r = some (V.str s) := by
  obtain ⟨v, e, m⟩ := atI_mem (xs := ls.map V.str) h0 (by rw [List.length_map]; exact h1)
  obtain ⟨s, hs, rfl⟩ := List.mem_map.mp m
  exact ⟨s, hs, e⟩
theorem cps_app (x y : Str) : (x ++ y).cps.toList = x.cps.toList ++ y.cps.toList := by
  show (x.cps ++ y.cps).toList = _
  simp
theorem len_cps (x : Str) : x.length = x.cps.toList.length := by simp [Str.length]
theorem lenA (x y : Str) : (x ++ y).length = x.length + y.length := by rw [len_cps, cps_app, List.length_append, ← len_cps, ← len_cps]

theorem rank_iff {x y : Str} : rankLe x y = true ↔ x.length < y.length ∨ (x.length = y.length ∧ x.cps.toList ≤ y.cps.toList) := by
  unfold rankLe
  rw [decide_eq_true_iff]
theorem rank_anti {x y : Str} (h : rankLe x y = true) (h' : rankLe y x = true) : x = y := by
  have a := rank_iff.mp h
  have b := rank_iff.mp h'
  rcases a with a | a
  · rcases b with b | b <;> omega
  · rcases b with b | b
    · omega
    · exact str_ext (List.le_antisymm a.2 b.2)
theorem rank_trans (x y z : Str) (h : rankLe x y = true) (h' : rankLe y z = true) : rankLe x z = true := by
  have a := rank_iff.mp h
  have b := rank_iff.mp h'
  refine rank_iff.mpr ?_
  rcases a with a | a <;> rcases b with b | b
  · exact .inl (by omega)
  · exact .inl (by omega)
  · exact .inl (by omega)
  · exact .inr ⟨by omega, List.le_trans a.2 b.2⟩
theorem rank_total (x y : Str) : (rankLe x y || rankLe y x) = true := by
  rw [Bool.or_eq_true, rank_iff, rank_iff]
  rcases Nat.lt_trichotomy x.length y.length with h | h | h
  · exact .inl (.inl h)
  · rcases List.le_total x.cps.toList y.cps.toList with c | c
    · exact .inl (.inr ⟨h, c⟩)
    · exact .inr (.inr ⟨h.symm, c⟩)
  · exact .inr (.inl h)
theorem rank_sorted (l : List Str) : (l.mergeSort rankLe).Pairwise fun x y => rankLe x y = true := List.pairwise_mergeSort rank_trans rank_total l
theorem rank_uniq : ∀ {l m : List Str}, l.Pairwise (fun x y => rankLe x y = true) → m.Pairwise (fun x y => rankLe x y = true) → l.Perm m → l = m
  | [], m, _, _, h => (List.Perm.eq_nil h.symm).symm
  | x :: l, [], _, _, h => absurd h.length_eq (by simp)
  | x :: l, y :: m, hl, hm, h => by
    have e : x = y := by
      rcases List.mem_cons.mp (h.mem_iff.mp (List.mem_cons_self (a := x) (l := l))) with e | hx
      · exact e
      · rcases List.mem_cons.mp (h.mem_iff.mpr (List.mem_cons_self (a := y) (l := m))) with e | hy
        · exact e.symm
        · exact rank_anti ((List.pairwise_cons.mp hl).1 y hy) ((List.pairwise_cons.mp hm).1 x hx)
    subst e
    rw [rank_uniq (List.pairwise_cons.mp hl).2 (List.pairwise_cons.mp hm).2 h.cons_inv]
theorem rank_perm {l m : List Str} (h : l.Perm m) : l.mergeSort rankLe = m.mergeSort rankLe := rank_uniq (rank_sorted l) (rank_sorted m) (((List.mergeSort_perm l rankLe).trans h).trans (List.mergeSort_perm m rankLe).symm)
theorem rank_same {l : List Str} (h : l.Pairwise fun x y => rankLe x y = true) : l.mergeSort rankLe = l := rank_uniq (rank_sorted l) h (List.mergeSort_perm l rankLe)
/-- good advances are all accepted, in font order -/
theorem runPA_all {es : List (Str × V)} (v : Str → Int) {ord : List Str} (hs : ord.Pairwise fun x y => rankLe x y = true) (nd : ord.Nodup) (hv : ∀ g ∈ ord, getR es g = some (.int (v g)) ∧ isName g = true ∧ 0 ≤ v g ∧ v g ≤ 1000000)
    (hc : ∀ g ∈ ord, 1 < g.length → ∀ c ∈ g.cps.toList, one c ∈ ord) (hl : ord.length ≤ 40) : ∀ (m l : List Str), ord = l ++ m → runPA es m (l.map fun g => (g, v g)) = .ok (ord.map fun g => (g, v g))
  | [], l, e => by
    rw [e, List.append_nil]
    rfl
  | g :: m, l, e => by
    have hg : g ∈ ord := by rw [e]; simp
    obtain ⟨h1, h2, h3, h4⟩ := hv g hg
    have keys : ∀ s, (getR (l.map fun g => (g, v g)) s).isSome = true ↔ s ∈ l := fun s => by
      rw [getR_mem, List.map_map]
      simp
    have gl : g ∉ l := fun z => by
      rw [e] at nd
      exact (List.nodup_append.mp nd).2.2 g z g List.mem_cons_self rfl
    have gn : getR (l.map fun g => (g, v g)) g = none := by
      cases q : getR (l.map fun g => (g, v g)) g with
      | none => rfl
      | some w => exact absurd ((keys g).mp (by rw [q]; rfl)) gl
    have pu : putR (l.map fun g => (g, v g)) g (v g) = (l ++ [g]).map fun g => (g, v g) := by
      unfold putR
      rw [if_neg]
      · simp
      · intro z
        obtain ⟨x, hx, ex⟩ := List.any_eq_true.mp z
        obtain ⟨s, hs, rfl⟩ := List.mem_map.mp hx
        exact gl (by rw [← show s = g by simpa using ex]; exact hs)
    have q : paRes (l.map fun g => (g, v g)) g ((getR es g).getD .non) = .ok ((l ++ [g]).map fun g => (g, v g)) := by
      rw [h1, Option.getD_some]
      unfold paRes
      rw [if_pos h2]
      show (if 0 ≤ v g ∧ v g ≤ 1000000 then _ else _) = _
      rw [if_pos ⟨h3, h4⟩, pu]
      by_cases c1 : 1 < g.length
      · rw [if_pos c1]
        have hm : missing (l.map fun g => (g, v g)) g = none := by
          unfold missing
          rw [List.find?_eq_none]
          intro c hcm hn
          have ho := hc g hg c1 c hcm
          rw [e] at ho hs
          have : one c ∈ l := by
            rcases List.mem_append.mp ho with ho | ho
            · exact ho
            · rcases List.mem_cons.mp ho with ho | ho
              · rw [← ho] at c1
                exact absurd c1 (by show ¬ 1 < 1; decide)
              · have p := (List.pairwise_cons.mp (List.pairwise_append.mp hs).2.1).1 _ ho
                have p2 := rank_iff.mp p
                have p3 : (one c).length = 1 := rfl
                omega
          have k := (keys (one c)).mpr this
          cases q' : getR (l.map fun g => (g, v g)) (one c) with
          | none => rw [q'] at k; cases k
          | some w => rw [q'] at hn; cases hn
        rw [hm]
        have ll : (ligs (l.map fun g => (g, v g))).length < 40 := by
          have := List.length_filter_le (fun z : Str => decide (1 < z.length)) ((l.map fun g => (g, v g)).map (·.1))
          unfold ligs
          rw [List.length_map, List.length_map] at this
          rw [e, List.length_append, List.length_cons] at hl
          omega
        exact if_neg (by omega)
      · rw [if_neg c1]
    rw [runPA_ok q]
    exact runPA_all v hs nd hv hc hl m (l ++ [g]) (by rw [e]; simp)

def sp_law_row (K : PySem.W.Frag) (a : Ad) : Sp := sp3 fun x y z H Q _ => ∃ (b it q : Addr) (ls : List Str) (lg : Int), x = .ref b ∧ y = .ref q ∧ z = .int lg ∧ BagAt H b it ∧ H q = some (.lst (ls.map V.str)) ∧ q ≠ b ∧ ls ≠ [] ∧ ls.length ≤ 100 ∧ 2 ≤ lg ∧ lg ≤ 6 ∧ (∀ s ∈ ls, ∃ c, s = one c) ∧
  ∀ (w : Str) H', Drew a b it H H' → 2 ≤ w.length → w.length ≤ lg → (∀ c ∈ w.cps.toList, one c ∈ ls) → Q (.str w) H'
theorem ok_law_row {P : Program} {w : World} {K : PySem.W.Frag} {mg : Str → Option Value} {base : Heap} {a : Ad} (T : Txt P K mg base a) : FnOk P w K mg base CX0 2 a.f_law_row a.d_law_row (["_law_bag_here", "_law_letters_here", "_law_long"] : List Str) (sp_law_row K a) := by
  refine T.F_law_row.ok sc_law_row (fun vs H Q E h => sp3_len h) (fun cdv A outer s H vs Q E hr h => ?_)
  have hu := hu_of hr
  refine ⟨_, (pss_cons (ps_set (i := 3) sc_law_row.nd rfl (Or.inl rfl) (pe_ix ix_list (pv 1) (pe_call (ok_law_take T) (hr.mono (by decide)) rfl T.g_law_take T.k_law_take T.B_law_take .nil pass0 (pa_cons (pv 0) (pa_cons (pe_callB qc_len (by rfl) T.n_len bb_len (pa_cons (pv 1) pa_nil)) pa_nil))) (fun _ _ => rfl)))
      (pss_cons (ps_for PassesOwn.never rfl (pi_range1 (by rfl) T.n_range (pa_cons (pe_op op_add pe_int (pe_call (ok_law_take T) (hr.mono (by decide)) rfl T.g_law_take T.k_law_take T.B_law_take .nil pass0 (pa_cons (pv 0) (pa_cons (pe_op op_sub (pv 2) pe_int) pa_nil)))) pa_nil)) (pg_name (i := 4) sc_law_row.nd rfl (Or.inl rfl)) (pss_one (ps_set (i := 3) sc_law_row.nd rfl (Or.inl rfl) (pe_op qo_addS (pv 3) (pe_ix ix_list (pv 1) (pe_call (ok_law_take T) (hr.mono (by decide)) rfl T.g_law_take T.k_law_take T.B_law_take .nil pass0 (pa_cons (pv 0) (pa_cons (pe_callB qc_len (by rfl) T.n_len bb_len (pa_cons (pv 1) pa_nil)) pa_nil))) (fun _ _ => rfl))))))
      (pss_one (ps_ret (pv 3))))), ?_⟩
  try dsimp only [L2.cxOf]
  obtain ⟨x, y, z, rfl, b, it, q, ls, lg, rfl, rfl, rfl, B, hq, nqb, ne, hl, l2, l6, hone, k⟩ := h
  rw [show L2.start (["_law_bag_here", "_law_letters_here", "_law_long", "_law_row_here", "_law_k"] : List Str) [(.ref b), (.ref q), (.int lg)] = ([some ((.ref b)), some ((.ref q)), some ((.int lg)), none, none] : L2.St) from rfl]
  have sz : sizeLine = 16777216 := by decide
  have hpos : 0 < ls.length := by
    cases ls with
    | nil => exact absurd rfl ne
    | cons _ _ => simp
  walk_at "w"
  refine ⟨_, _, rfl, b, it, ls.length, rfl, by rw [List.length_map], B, by omega, by omega, fun r H1 r0 r1 B1 fr1 => ?_⟩
  have D1 : Drew a b it H H1 := Drew.take B B1 fr1
  have hq1 : H1 q = some (.lst (ls.map V.str)) := D1.fr _ _ hq trivial (by simpa using nqb)
  obtain ⟨s, hs, e⟩ := pick r0 r1
  obtain ⟨c0, rfl⟩ := hone s hs
  refine w_ix (SqL.of hq1) e ?_
  walk_at "w"
  refine ⟨_, _, rfl, b, it, lg - 1, rfl, rfl, B1, by omega, by omega, fun t H2 t0 t1 B2 fr2 => ?_⟩
  have D2 : Drew a b it H H2 := D1.trans (Drew.take B1 B2 fr2)
  walk_at "w"
  refine ⟨1 + t, rfl, by omega, by omega, ?_⟩
  refine turnsR (fun i σ' H' => Drew a b it H H' ∧ ∃ (w : Str) (k0 : Option V), σ' = [some (.ref b), some (.ref q), some (.int lg), some (.str w), k0] ∧ w.length = i + 1 ∧ ∀ c ∈ w.cps.toList, one c ∈ ls) ⟨D2, one c0, _, rfl, rfl, fun c hc => by rw [show c = c0 from by simpa [one] using hc]; exact hs⟩ ?_ ?_
  · rintro i σ' H3 hi ⟨D3, w, k0, rfl, lw, hw⟩
    have hq3 : H3 q = some (.lst (ls.map V.str)) := D3.fr _ _ hq trivial (by simpa using nqb)
    walk_at "w"
    refine ⟨_, _, rfl, b, it, ls.length, rfl, by rw [List.length_map], D3.bag, by omega, by omega, fun r H4 r0 r1 B4 fr4 => ?_⟩
    have D4 : Drew a b it H H4 := D3.trans (Drew.take D3.bag B4 fr4)
    have hq4 : H4 q = some (.lst (ls.map V.str)) := D4.fr _ _ hq trivial (by simpa using nqb)
    obtain ⟨s, hs', e⟩ := pick r0 r1
    obtain ⟨c1, rfl⟩ := hone s hs'
    refine w_ix (SqL.of hq4) e ?_
    refine w_addS ?_ ?_
    · show w.length + 1 ≤ sizeLine
      omega
    walk_at "w"
    refine ⟨D4, _, _, rfl, ?_, fun c hc => ?_⟩
    · rw [lenA, lw]
      rfl
    · rw [cps_app] at hc
      rcases List.mem_append.mp hc with hc | hc
      · exact hw c hc
      · rw [show c = c1 from by simpa [one] using hc]
        exact hs'
  · rintro σ' H3 ⟨D3, w, k0, rfl, lw, hw⟩
    walk_at "w"
    exact k w _ D3 (by omega) (by omega) hw

theorem str_digs (n : Nat) : (Str.ofString (toString (n : Int))).cps.toList = digs n := by
  rw [PyProof.Rows.signs_ofString]
  show (Nat.repr n).toList.map Char.toNat = _
  rw [Nat.toList_repr]
  rfl
theorem str_digs' (n : Nat) : Str.ofString (toString (n : Int)) = ⟨(digs n).toArray⟩ := str_ext (by rw [str_digs])
theorem comma7 {d : List Nat} (h : d.length = 7) : ((((cutS ⟨d.toArray⟩ none (some (-6)) ++ ("," : Str)) ++ cutS ⟨d.toArray⟩ (some (-6)) (some (-3))) ++ ("," : Str)) ++ cutS ⟨d.toArray⟩ (some (-3)) none) = ⟨(commas d).toArray⟩ := by
  match d, h with
  | [_, _, _, _, _, _, _], _ => kernel_rfl
theorem comma4 {d : List Nat} (h : 3 < d.length) (h2 : d.length ≤ 6) : ((cutS ⟨d.toArray⟩ none (some (-3)) ++ ("," : Str)) ++ cutS ⟨d.toArray⟩ (some (-3)) none) = ⟨(commas d).toArray⟩ := by
  match d, h, h2 with
  | [_, _, _, _], _, _ => kernel_rfl
  | [_, _, _, _, _], _, _ => kernel_rfl
  | [_, _, _, _, _, _], _, _ => kernel_rfl
  | [], h, _ => simp at h
  | [_], h, _ => simp at h
  | [_, _], h, _ => simp at h
  | [_, _, _], h, _ => simp at h
  | _ :: _ :: _ :: _ :: _ :: _ :: _ :: _, _, h2 => simp at h2
theorem cut_len (z : Str) (lo hi : Option Int) : (cutS z lo hi).length ≤ z.length := by
  rw [len_cps, len_cps]
  unfold cutS
  simp
  omega
theorem repS_cps (k : Nat) : (repS " " k).cps.toList = List.replicate k 32 := by
  unfold repS
  rw [show (Str.ofString " ").cps.toList = [32] from by decide +kernel]
  simp
theorem getR_map {α β : Type} (f : α → β) (r : List (Str × α)) (g : Str) : getR (r.map fun x => (x.1, f x.2)) g = (getR r g).map f := by
  unfold getR
  rw [List.find?_map]
  simp only [Option.map_map]
  rfl
theorem getR_list (v : Str → Int) : ∀ {l : List Str} {g : Str}, g ∈ l → getR (l.map fun g => (g, v g)) g = some (v g)
  | x :: l, g, h => by
    unfold getR
    rw [List.map_cons, List.find?_cons]
    by_cases c : x = g
    · subst c
      simp
    · have h' : g ∈ l := (List.mem_cons.mp h).resolve_left fun z => c z.symm
      have ih := getR_list v h'
      unfold getR at ih
      simp only [c, decide_false]
      exact ih
theorem okApp {x y : Str} (h1 : PyData.strOk x = true) (h2 : PyData.strOk y = true) : PyData.strOk (x ++ y) = true := by
  show ((x.cps ++ y.cps).all (· < 0x110000)) = true
  rw [Array.all_append]
  exact Bool.and_eq_true_iff.mpr ⟨h1, h2⟩
theorem okList {l : List Nat} (h : ∀ c ∈ l, c < 0x110000) : PyData.strOk ⟨l.toArray⟩ = true := by
  show (l.toArray.all (· < 0x110000)) = true
  rw [List.all_toArray, List.all_eq_true]
  exact fun c hc => decide_eq_true (h c hc)
theorem char_ok (c : Char) : c.toNat < 0x110000 := by
  rcases c.valid with h | ⟨_, h⟩
  · exact Nat.lt_trans h (by decide)
  · exact h
theorem commas_mem {d : List Nat} {c : Nat} (h : c ∈ commas d) : c = 44 ∨ c ∈ d := by
  unfold commas at h
  split at h
  · rcases List.mem_append.mp h with h | h
    · exact .inr (List.mem_of_mem_take h)
    · rcases List.mem_cons.mp h with h | h
      · exact .inl h
      · rcases List.mem_append.mp h with h | h
        · exact .inr (List.mem_of_mem_drop (List.mem_of_mem_take h))
        · rcases List.mem_cons.mp h with h | h
          · exact .inl h
          · exact .inr (List.mem_of_mem_drop h)
  · split at h
    · rcases List.mem_append.mp h with h | h
      · exact .inr (List.mem_of_mem_take h)
      · rcases List.mem_cons.mp h with h | h
        · exact .inl h
        · exact .inr (List.mem_of_mem_drop h)
    · exact .inr h
theorem rowOk {g : Str} (h : isName g = true) (n : Nat) : PyData.strOk (rowText g n) = true := by
  unfold rowText padR fmtD
  refine okApp (okApp (okApp (by decide +kernel) (okList fun c hc => ?_)) (by decide +kernel)) (okList fun c hc => ?_)
  · rcases List.mem_append.mp hc with hc | hc
    · unfold isName at h
      have h2 := of_decide_eq_true (List.all_eq_true.mp (Bool.and_eq_true_iff.mp h).2 c hc)
      omega
    · have := List.eq_of_mem_replicate hc
      omega
  · rcases List.mem_append.mp hc with hc | hc
    · have := List.eq_of_mem_replicate hc
      omega
    · rcases commas_mem hc with h3 | h3
      · omega
      · unfold digs at h3
        obtain ⟨z, _, rfl⟩ := List.mem_map.mp h3
        exact char_ok z
theorem canStrs : ∀ {ss : List Str}, (∀ z ∈ ss, PyData.strOk z = true) → PyData.canLayAll0 (ss.map PyData.str) = true
  | [], _ => by simp [PyData.canLayAll0]
  | n :: r, h => by simp [PyData.canLayAll0, PyData.canLay0, canStrs (ss := r) fun z hz => h z (List.mem_cons_of_mem _ hz), h n List.mem_cons_self]
theorem depStrs : ∀ ss : List Str, PyData.depthAll (ss.map PyData.str) ≤ 1
  | [] => by simp [PyData.depthAll]
  | n :: r => by
    have h := depStrs r
    simp only [List.map_cons, PyData.depthAll, PyData.depth]
    omega
theorem canStrL {ss : List Str} (h : ∀ z ∈ ss, PyData.strOk z = true) : PyData.canLay0 (.list (ss.map PyData.str)) = true := by
  simp only [PyData.canLay0]
  exact canStrs h
theorem shapedStrs {ss : List Str} (h : ∀ z ∈ ss, PyData.strOk z = true) : SeqAt.shaped (.list (ss.map PyData.str)) = true := by
  have h1 := depStrs ss
  have h2 : PyData.depth (.list (ss.map PyData.str)) ≤ 64 := by
    simp only [PyData.depth]
    omega
  show (PyData.canLay0 (.list (ss.map PyData.str)) && decide _) = true
  rw [canStrL h, decide_eq_true h2]
  rfl
theorem dpStrs {K : PySem.W.Frag} {H : Hp} : ∀ ss : List Str, DpAll K H (ss.map V.str) (ss.map PyData.str)
  | [] => .nil
  | s :: r => .cons (.str s) (dpStrs r)

def sp_law_commas (K : PySem.W.Frag) (a : Ad) : Sp := sp1 fun x H Q _ => ∃ n : Nat, x = .int n ∧ n ≤ 1000000 ∧ Q (.str ⟨(commas (digs n)).toArray⟩) H
theorem ok_law_commas {P : Program} {w : World} {K : PySem.W.Frag} {mg : Str → Option Value} {base : Heap} {a : Ad} (T : Txt P K mg base a) : FnOk P w K mg base CX0 1 a.f_law_commas a.d_law_commas (["_law_number"] : List Str) (sp_law_commas K a) := by
  refine T.F_law_commas.ok sc_law_commas (fun vs H Q E h => sp1_len h) (fun cdv A outer s H vs Q E hr h => ?_)
  have hu := hu_of hr
  refine ⟨_, (pss_cons (ps_set (i := 1) sc_law_commas.nd rfl (Or.inl rfl) (pe_callTy qc_strI (by rfl) T.n_str bb_str (pa_cons (pv 0) pa_nil)))
      (pss_cons (ps_if (pt_cmpR op_gt (pe_callB qc_lenX (by rfl) T.n_len bb_len (pa_cons (pv 1) pa_nil)) pe_int (nomark _)) (pss_one (ps_set (i := 1) sc_law_commas.nd rfl (Or.inl rfl) (pe_op qo_addS (pe_op qo_addS (pe_op qo_addS (pe_op qo_addS (pe_slice sl_str (pv 1) po_none (po_some (pe_un un_neg pe_int))) pe_str) (pe_slice sl_str (pv 1) (po_some (pe_un un_neg pe_int)) (po_some (pe_un un_neg pe_int)))) pe_str) (pe_slice sl_str (pv 1) (po_some (pe_un un_neg pe_int)) po_none)))) (pss_one (ps_if (pt_cmpR op_gt (pe_callB qc_lenX (by rfl) T.n_len bb_len (pa_cons (pv 1) pa_nil)) pe_int (nomark _)) (pss_one (ps_set (i := 1) sc_law_commas.nd rfl (Or.inl rfl) (pe_op qo_addS (pe_op qo_addS (pe_slice sl_str (pv 1) po_none (po_some (pe_un un_neg pe_int))) pe_str) (pe_slice sl_str (pv 1) (po_some (pe_un un_neg pe_int)) po_none)))) pss_nil)))
      (pss_one (ps_ret (pv 1))))), ?_⟩
  try dsimp only [L2.cxOf]
  obtain ⟨x, rfl, n, rfl, hn, k⟩ := h
  rw [show L2.start (["_law_number", "_law_text"] : List Str) [(.int n)] = ([some ((.int n)), none] : L2.St) from rfl]
  have sz : sizeLine = 16777216 := by decide
  obtain ⟨l1, l2⟩ := toDigits_len hn
  have hl : (digs n).length = (Nat.toDigits 10 n).length := by unfold digs; simp
  have hL : (⟨(digs n).toArray⟩ : Str).length = (digs n).length := by rw [len_cps]
  have cl : ∀ lo hi, (cutS ⟨(digs n).toArray⟩ lo hi).length ≤ 7 := fun lo hi => by
    have := cut_len ⟨(digs n).toArray⟩ lo hi
    omega
  have c1 : (Str.ofString ",").length = 1 := by decide +kernel
  walk_at "w"
  refine w_strI ?_ ?_
  · show n.log2 < 1920
    by_cases c : n = 0
    · rw [c]
      decide
    · exact Nat.lt_trans ((Nat.log2_lt c).mpr (show n < 2 ^ 64 by omega)) (by decide)
  rw [str_digs' n]
  walk_at "w"
  refine w_lenX (by omega) ?_
  walk_at "w"
  rw [hL]
  refine it_dec (fun c => ?_) (fun c => ?_)
  · walk_at "w"
    refine w_slS (by omega) ?_
    walk_at "w"
    refine w_addS (by have := cl none (some (-6)); omega) ?_
    walk_at "w"
    refine w_slS (by omega) ?_
    walk_at "w"
    refine w_addS (by rw [lenA]; have := cl none (some (-6)); have := cl (some (-6)) (some (-3)); omega) ?_
    walk_at "w"
    refine w_addS (by rw [lenA, lenA]; have := cl none (some (-6)); have := cl (some (-6)) (some (-3)); omega) ?_
    walk_at "w"
    refine w_slS (by omega) ?_
    walk_at "w"
    refine w_addS (by rw [lenA, lenA, lenA]; have := cl none (some (-6)); have := cl (some (-6)) (some (-3)); have := cl (some (-3)) none; omega) ?_
    walk_at "w"
    rw [← comma7 (by omega)] at k
    exact k
  · walk_at "w"
    refine w_lenX (by omega) ?_
    walk_at "w"
    rw [hL]
    refine it_dec (fun c' => ?_) (fun c' => ?_)
    · walk_at "w"
      refine w_slS (by omega) ?_
      walk_at "w"
      refine w_addS (by have := cl none (some (-3)); omega) ?_
      walk_at "w"
      refine w_slS (by omega) ?_
      walk_at "w"
      refine w_addS (by rw [lenA]; have := cl none (some (-3)); have := cl (some (-3)) none; omega) ?_
      walk_at "w"
      rw [← comma4 (by omega) (by omega)] at k
      exact k
    · walk_at "w"
      rw [show commas (digs n) = digs n from by unfold commas; rw [if_neg (by omega), if_neg (by omega)]] at k
      exact k

def sp_law_line (K : PySem.W.Frag) (a : Ad) : Sp := sp2 fun x y H Q _ => ∃ (z : Str) (n : Nat), x = .str z ∧ y = .int n ∧ z.length ≤ 6 ∧ n ≤ 1000000 ∧ Q (.str (rowText z n)) H
theorem ok_law_line {P : Program} {w : World} {K : PySem.W.Frag} {mg : Str → Option Value} {base : Heap} {a : Ad} (T : Txt P K mg base a) : FnOk P w K mg base CX0 2 a.f_law_line a.d_law_line (["_law_glyph", "_law_number"] : List Str) (sp_law_line K a) := by
  refine T.F_law_line.ok sc_law_line (fun vs H Q E h => sp2_len h) (fun cdv A outer s H vs Q E hr h => ?_)
  have hu := hu_of hr
  refine ⟨_, (pss_cons (ps_set (i := 2) sc_law_line.nd rfl (Or.inl rfl) (pe_call (ok_law_commas T) (hr.mono (by decide)) rfl T.g_law_commas T.k_law_commas T.B_law_commas .nil pass0 (pa_cons (pv 1) pa_nil)))
      (pss_one (ps_ret (pe_op qo_addS (pe_op qo_addS (pe_op qo_addS (pe_op qo_addS (pv 0) (pe_op op_mulS pe_str (pe_op op_sub pe_int (pe_callB qc_lenX (by rfl) T.n_len bb_len (pa_cons (pv 0) pa_nil))))) pe_str) (pe_op op_mulS pe_str (pe_op op_sub pe_int (pe_callB qc_lenX (by rfl) T.n_len bb_len (pa_cons (pv 2) pa_nil))))) (pv 2))))), ?_⟩
  try dsimp only [L2.cxOf]
  obtain ⟨x, y, rfl, z, n, rfl, rfl, hz, hn, k⟩ := h
  rw [show L2.start (["_law_glyph", "_law_number", "_law_text"] : List Str) [(.str z), (.int n)] = ([some ((.str z)), some ((.int n)), none] : L2.St) from rfl]
  have sz : sizeLine = 16777216 := by decide
  have hc := commas_len (d := digs n) (by unfold digs; simp; exact (toDigits_len hn).2)
  have hL : (⟨(commas (digs n)).toArray⟩ : Str).length = (commas (digs n)).length := by rw [len_cps]
  have s1 : (Str.ofString " ").length = 1 := by decide +kernel
  have rl : ∀ m, (repS " " m).length = m := fun m => by rw [len_cps, repS_cps, List.length_replicate]
  walk_at "w"
  refine ⟨_, rfl, n, rfl, hn, ?_⟩
  walk_at "w"
  refine w_lenX (by omega) ?_
  walk_at "w"
  refine ⟨_, _, rfl, rfl, by omega, by omega, by rw [s1]; omega, ?_⟩
  refine w_addS (by rw [rl]; omega) ?_
  walk_at "w"
  refine w_addS (by rw [lenA, rl, s1]; omega) ?_
  walk_at "w"
  refine w_lenX (by omega) ?_
  walk_at "w"
  refine ⟨_, _, rfl, rfl, by omega, by omega, by rw [s1]; omega, ?_⟩
  refine w_addS (by rw [lenA, lenA, rl, rl, s1]; omega) ?_
  walk_at "w"
  refine w_addS (by rw [lenA, lenA, lenA, rl, rl, s1]; omega) ?_
  have e : (((z ++ repS " " ((6 : Int) - (z.length : Nat)).toNat) ++ (Str.ofString " ")) ++ repS " " ((9 : Int) - ((⟨(commas (digs n)).toArray⟩ : Str).length : Nat)).toNat) ++ (⟨(commas (digs n)).toArray⟩ : Str) = rowText z n := by
    refine str_ext ?_
    unfold rowText fmtD padR
    simp only [cps_app, repS_cps, hL]
    rw [show ((6 : Int) - (z.length : Nat)).toNat = 6 - z.length by omega, show ((9 : Int) - ((commas (digs n)).length : Nat)).toNat = 9 - (commas (digs n)).length by omega]
    simp [Str.empty]
  rw [e]
  exact k

def sp_law (K : PySem.W.Frag) (a : Ad) : Sp := sp1 fun x H Q _ => ∃ (s : Addr) (ns : List Int), x = .ref s ∧ SqL K H s (ns.map V.int) ∧ ns.length ≤ 63 ∧ Tab a H ∧ ∀ H', Q (.bl true) H'
theorem ok_law {P : Program} {w : World} {K : PySem.W.Frag} {mg : Str → Option Value} {base : Heap} {a : Ad} (T : Txt P K mg base a) : FnOk P w K mg base CX0 9 a.f_law a.d_law (["_law_script"] : List Str) (sp_law K a) := by
  refine T.F_law.ok sc_law (fun vs H Q E h => sp1_len h) (fun cdv A outer s H vs Q E hr h => ?_)
  have hu := hu_of hr
  refine ⟨_, (pss_cons (ps_set (i := 1) sc_law.nd rfl (Or.inr rfl) (pe_call (ok_law_bag T) (hr.mono (by decide)) rfl T.g_law_bag T.k_law_bag T.B_law_bag .nil pass0 (pa_cons (pv 0) pa_nil)))
      (pss_cons (ps_set (i := 2) sc_law.nd rfl (Or.inl rfl) (pe_ix ix_list (pe_lst (pa_cons pe_int (pa_cons pe_int (pa_cons pe_int pa_nil)))) (pe_call (ok_law_take T) (hr.mono (by decide)) rfl T.g_law_take T.k_law_take T.B_law_take .nil pass0 (pa_cons (pv 1) (pa_cons pe_int pa_nil))) (fun _ _ => rfl)))
      (pss_cons (ps_set (i := 3) sc_law.nd rfl (Or.inr rfl) (pe_call (ok_law_letters T) (hr.mono (by decide)) rfl T.g_law_letters T.k_law_letters T.B_law_letters .nil pass0 (pa_cons (pv 1) (pa_cons (pe_op op_add pe_int (pe_call (ok_law_take T) (hr.mono (by decide)) rfl T.g_law_take T.k_law_take T.B_law_take .nil pass0 (pa_cons (pv 1) (pa_cons pe_int pa_nil)))) pa_nil))))
      (pss_cons (ps_setLc (i := 4) (own := [("_law_k", 5)]) (g := gName 5) (tt := tYes) (by rfl) sc_law.nd rfl rfl (sw_true rfl rfl rfl (by decide +kernel)) (pi_range1 (by rfl) T.n_range (pa_cons (pe_call (ok_law_take T) (hr.mono (by decide)) rfl T.g_law_take T.k_law_take T.B_law_take .nil pass0 (pa_cons (pv 1) (pa_cons pe_int pa_nil))) pa_nil)) (blkOk_by (own := [("_law_k", 5)]) (N := ["_law_script", "_law_bag_here", "_law_most", "_law_letters_here", "_law_rows", "_law_k", "_law_advances", "_law_glyph", "_law_ordered", "_law_due", "_law_row_here", "_law_font"]) (sc := defScope s_law) (by decide +kernel)) (fun _ _ _ _ _ => (pg_name (i := 5) sc_law.nd rfl (Or.inl rfl))) (fun _ _ _ _ _ => pts_nil) (fun _ _ _ _ _ => (pe_call (ok_law_row T) (hr.mono (by decide)) rfl T.g_law_row T.k_law_row T.B_law_row .nil pass0 (pa_cons (pv 1) (pa_cons (pv 3) (pa_cons pe_int pa_nil))))))
      (pss_cons (ps_set (i := 6) sc_law.nd rfl (Or.inr rfl) pe_dnewK)
      (pss_cons (ps_for PassesOwn.never rfl (pi_list (pe_op op_cat (pv 3) (pv 4))) (pg_name (i := 7) sc_law.nd rfl (Or.inl rfl)) (pss_one (ps_dput hu (pv 6) (pv 7) (pe_call (ok_law_take T) (hr.mono (by decide)) rfl T.g_law_take T.k_law_take T.B_law_take .nil pass0 (pa_cons (pv 1) (pa_cons (pe_op op_add (pv 2) pe_int) pa_nil))) rfl)))
      (pss_cons (ps_set (i := 8) sc_law.nd rfl (Or.inl rfl) (pe_callB (cr_sortIS (units64 hr)) (by rfl) T.n_sorted bb_sorted (pa_cons (pe_lc (own := [("_law_glyph", 7)]) (g := gName 7) (tt := tYes) (by rfl) sc_law.nd (pi_list (pe_callB (cr_sortStr (units64 hr)) (by rfl) T.n_sorted bb_sorted (pa_cons (pe_callTy (call_listD rfl) (by rfl) T.n_list bb_list (pa_cons (pv 6) pa_nil)) pa_nil))) (blkOk_by (own := [("_law_glyph", 7)]) (N := ["_law_script", "_law_bag_here", "_law_most", "_law_letters_here", "_law_rows", "_law_k", "_law_advances", "_law_glyph", "_law_ordered", "_law_due", "_law_row_here", "_law_font"]) (sc := defScope s_law) (by decide +kernel)) (fun _ _ _ _ _ => (pg_name (i := 7) sc_law.nd rfl (Or.inl rfl))) (fun _ _ _ _ _ => pts_nil) (fun _ _ _ _ _ => (pe_tup (pa_cons (pe_callB qc_lenX (by rfl) T.n_len bb_len (pa_cons (pv 7) pa_nil)) (pa_cons (pv 7) pa_nil))))) pa_nil)))
      (pss_cons (ps_setLc (i := 9) (own := [("_law_row_here", 10)]) (g := gName 10) (tt := tYes) (by rfl) sc_law.nd rfl rfl (sw_true rfl rfl rfl (by decide +kernel)) (pi_list (pv 8)) (blkOk_by (own := [("_law_row_here", 10)]) (N := ["_law_script", "_law_bag_here", "_law_most", "_law_letters_here", "_law_rows", "_law_k", "_law_advances", "_law_glyph", "_law_ordered", "_law_due", "_law_row_here", "_law_font"]) (sc := defScope s_law) (by decide +kernel)) (fun _ _ _ _ _ => (pg_name (i := 10) sc_law.nd rfl (Or.inl rfl))) (fun _ _ _ _ _ => pts_nil) (fun _ _ _ _ _ => (pe_call (ok_law_line T) (hr.mono (by decide)) rfl T.g_law_line T.k_law_line T.B_law_line .nil pass0 (pa_cons (pe_ix (show IxR _ (rIxT K) from ix_tup) (pv 10) pe_int (fun _ _ => rfl)) (pa_cons (pe_dget hu (pv 6) (pe_ix (show IxR _ (rIxT K) from ix_tup) (pv 10) pe_int (fun _ _ => rfl)) (fun _ _ => rfl)) pa_nil)))))
      (pss_cons (ps_if (PW.pt (pw_or (pt_cmpR op_ne (pe_call (ok_law_line T) (hr.mono (by decide)) rfl T.g_law_line T.k_law_line T.B_law_line .nil pass0 (pa_cons pe_str (pa_cons pe_int pa_nil))) pe_str (nomark _)) (pw_or1 (pt_cmpR op_ne (pe_call (ok_law_line T) (hr.mono (by decide)) rfl T.g_law_line T.k_law_line T.B_law_line .nil pass0 (pa_cons pe_str (pa_cons pe_int pa_nil))) pe_str (nomark _))))) (pss_one (ps_ret pe_bl)) pss_nil)
      (pss_cons (ps_set (i := 11) sc_law.nd rfl (Or.inl rfl) (pe_mkS T.M_Font (ok_Font_init T) (hr.mono (by decide)) rfl T.g_Font T.B1_Font_init T.V1_Font_init (fun σ => passAt takes0 σ) (pa_cons (pe_callTy call_dictD (by rfl) T.n_dict bb_dict (pa_cons (pv 6) pa_nil)) pa_nil)))
      (pss_one (ps_ret (pe_and (pe_cmpR (op_eqD hr.units) (pe_call (ok_width_table T) (hr.mono (by decide)) rfl T.g_width_table T.k_width_table T.B_width_table .nil pass0 (pa_cons (pv 11) pa_nil)) (pv 9) (nomark _)) (pe_one (pe_cmpR (op_eqD hr.units) (pe_call (ok_width_table T) (hr.mono (by decide)) rfl T.g_width_table T.k_width_table T.B_width_table .nil pass0 (pa_cons (pv 11) pa_nil)) (pv 9) (nomark _)))))))))))))))), ?_⟩
  try dsimp only [L2.cxOf]
  obtain ⟨x, rfl, s0, ns, rfl, hS, hlen, tb, k⟩ := h
  rw [show L2.start (["_law_script", "_law_bag_here", "_law_most", "_law_letters_here", "_law_rows", "_law_k", "_law_advances", "_law_glyph", "_law_ordered", "_law_due", "_law_row_here", "_law_font"] : List Str) [(.ref s0)] = ([some ((.ref s0)), none, none, none, none, none, none, none, none, none, none, none] : L2.St) from rfl]
  have sz : sizeLine = 16777216 := by decide
  have big : 2000000 < 2 ^ 8000 := by decide +kernel
  walk_at "w"
  refine ⟨_, rfl, s0, ns, rfl, hS, fun b it H1 nb nit s1 B1 => ?_⟩
  have t1 : Tab a H1 := Tab.same tb s1
  walk_at "w"
  refine ⟨by show 3 ≤ sizeLine; decide, fun p np => ?_⟩
  walk_at "w"
  refine ⟨_, _, rfl, b, it, 3, rfl, rfl, B1.same (Same.new np), by decide, by decide +kernel, fun r H2 r0 r1 B2 fr2 => ?_⟩
  have D2 : Drew a b it H1 H2 := ((Drew.refl B1).new np).trans (Drew.take (B1.same (Same.new np)) B2 fr2)
  have hp2 : H2 p = some (.lst [.int 9, .int 2000, .int 1000000]) := (fr2 p (B1.neNew (New.of np)).1).trans upd_same
  obtain ⟨mo, emo, mo1, mo2⟩ : ∃ mo : Int, atI [V.int 9, .int 2000, .int 1000000] r = some (.int mo) ∧ 0 < mo ∧ mo ≤ 1000000 := by
    obtain ⟨v, e, m⟩ := atI_mem (xs := [V.int 9, .int 2000, .int 1000000]) r0 r1
    simp only [List.mem_cons, List.not_mem_nil, or_false] at m
    rcases m with rfl | rfl | rfl
    · exact ⟨_, e, by decide, by decide⟩
    · exact ⟨_, e, by decide, by decide⟩
    · exact ⟨_, e, by decide, by decide⟩
  refine w_ix (SqL.of hp2) emo ?_
  walk_at "w"
  refine ⟨_, _, rfl, b, it, 5, rfl, rfl, B2, by decide, by decide +kernel, fun r3 H3 r30 r31 B3 fr3 => ?_⟩
  have D3 := D2.trans (Drew.take (a := a) B2 B3 fr3)
  obtain ⟨m, hm⟩ := Int.eq_ofNat_of_zero_le (show 0 ≤ 1 + r3 by omega)
  walk_at "w"
  refine ⟨_, _, rfl, b, it, m, rfl, congrArg V.int hm, B3, by omega, fun l H4 st t D4 nl st0 st1 t0 t5 el => ?_⟩
  have lone : ∀ s ∈ (List.range m).map (letterAt st (2 * t + 1)), ∃ c, s = one c ∧ 97 ≤ c ∧ c ≤ 122 := fun s hs => by
    obtain ⟨i, _, rfl⟩ := List.mem_map.mp hs
    have h1 := Int.emod_nonneg (st + (i : Int) * (2 * t + 1)) (show (26 : Int) ≠ 0 by decide)
    have h2 := Int.emod_lt_of_pos (st + (i : Int) * (2 * t + 1)) (show (0 : Int) < 26 by decide)
    exact ⟨_, rfl, by omega, by omega⟩
  have llen : ((List.range m).map (letterAt st (2 * t + 1))).length = m := by simp
  rw [show ((List.range m).map fun k => V.str (letterAt st (2 * t + 1) k)) = ((List.range m).map (letterAt st (2 * t + 1))).map V.str by rw [List.map_map]; rfl] at el
  generalize (List.range m).map (letterAt st (2 * t + 1)) = ls at lone llen el
  have D4' := D3.trans D4
  have nlb := (B3.neNew nl).1
  clear emo hp2 fr2 fr3
  walk_at "w"
  refine ⟨_, _, rfl, b, it, 5, rfl, rfl, D4.bag, by decide, by decide +kernel, fun r5 H5 r50 r51 B5 fr5 => ?_⟩
  have D45 : Drew a b it H4 H5 := Drew.take D4.bag B5 fr5
  have D5 := D4'.trans D45
  have el5 := D45.at el trivial nlb
  have lne : ls ≠ [] := fun z => by rw [z] at llen; simp at llen; omega
  walk_at "w"
  refine ⟨r5, rfl, by omega, by omega, lcsW walk_range (fun D i H' => H5 D = none ∧ Drew a b it H5 H' ∧ ∃ rs : List Str, H' D = some (.lst (rs.map V.str)) ∧ rs.length = i ∧ ∀ w ∈ rs, 2 ≤ w.length ∧ w.length ≤ 6 ∧ ∀ c ∈ w.cps.toList, one c ∈ ls) (fun D hD => ⟨hD, (Drew.refl B5).new hD, [], upd_same, rfl, by simp⟩) (fun _ _ _ _ _ => trivial) ?_ ?_⟩
  · rintro D i x H6 H' hi ⟨hD, D6, rs, eD, lr, hr⟩ ⟨rfl, rfl⟩
    have nD := B5.neNew (New.of hD)
    walk_at "w"
    refine ⟨rfl, ?_⟩
    walk_at "w"
    refine ⟨_, _, _, rfl, b, it, l, ls, 6, rfl, rfl, rfl, D6.bag, D6.at el5 trivial nlb, nlb, lne, by omega, by decide, by decide, fun s hs => ?_, fun w H7 D7 w2 w6 hw => ?_⟩
    · obtain ⟨c, e, _⟩ := lone s hs
      exact ⟨c, e⟩
    · have eD7 := D7.at eD trivial nD.1
      refine ⟨_, eD7, by rw [List.length_map, sz]; omega, hD, (D6.trans D7).upd B5 (New.of hD) eD7 trivial, rs ++ [w], ?_, by simp [lr], fun w' hw' => ?_⟩
      · rw [upd_same, List.map_append]
        rfl
      · rcases List.mem_append.mp hw' with h | h
        · exact hr w' h
        · rw [List.mem_singleton.mp h]
          exact ⟨w2, by omega, hw⟩
  · rintro D H6 ⟨hD, D6, rs, eD, lr, hr⟩
    have D6' := D5.trans D6
    have el6 := D6.at el5 trivial nlb
    have B6 := D6.bag
    clear B1 B2 B3 B5 D2 D3 D4 D4' D45 D5 D6 el5 hD el fr5
    walk_at "w"
    intro ad nad
    walk_at "w"
    refine w_cat (upd_old el6 nad) (upd_old eD nad) (by rw [List.length_map, List.length_map, sz]; omega) fun gl ngl => ?_
    walk_at "w"
    rw [← List.map_append]
    have B6u := (Drew.refl (a := a) B6).new (o := .dK []) nad
    have D8 : Drew a b it H6 (upd (upd H6 ad (.dK [])) gl (.lst ((ls ++ rs).map V.str))) := B6u.new ngl
    have nadg : gl ≠ ad := fun z => by rw [z, upd_same] at ngl; cases ngl
    have ngl6 : H6 gl = none := (none_of ngl).2
    have a8 : (upd (upd H6 ad (.dK [])) gl (.lst ((ls ++ rs).map V.str))) ad = some (.dK (encR [])) := upd_old upd_same ngl
    have g8 : (upd (upd H6 ad (.dK [])) gl (.lst ((ls ++ rs).map V.str))) gl = some (.lst ((ls ++ rs).map V.str)) := upd_same
    generalize (upd (upd H6 ad (.dK [])) gl (.lst ((ls ++ rs).map V.str))) = H8 at D8 a8 g8 ⊢
    have nab := B6.neNew (New.of nad)
    have ngb := B6.neNew (New.of ngl6)
    have Glen : (ls ++ rs).length ≤ 9 := by rw [List.length_append]; omega
    have Gok : ∀ g ∈ ls ++ rs, isName g = true ∧ g.length ≤ 6 ∧ (1 < g.length → ∀ c ∈ g.cps.toList, one c ∈ ls ++ rs) := fun g hg => by
      rcases List.mem_append.mp hg with h | h
      · obtain ⟨c, rfl, c1, c2⟩ := lone g h
        refine ⟨?_, by show 1 ≤ 6; decide, fun z => absurd z (by show ¬ 1 < 1; decide)⟩
        have : (one c).cps.toList = [c] := rfl
        unfold isName
        rw [this]
        simp [one, Str.length]
        omega
      · obtain ⟨h1, h2, h3⟩ := hr g h
        refine ⟨?_, h2, fun _ c hc => List.mem_append_left _ (h3 c hc)⟩
        unfold isName
        rw [decide_eq_true ⟨by omega, h2⟩, Bool.true_and, List.all_eq_true]
        intro c hc
        obtain ⟨c', e, c1, c2⟩ := lone _ (h3 c hc)
        have : c = c' := by
          have := congrArg (fun z : Str => z.cps.toList) e
          simpa [one] using this
        subst this
        exact decide_eq_true ⟨c1, c2⟩
    generalize ls ++ rs = G at D8 g8 Glen Gok ⊢
    refine ⟨gl, rfl, ⟨_, SqL.of g8⟩, turnsL (xs := G.map V.str) (fun i σ' H' => Drew a b it H6 H' ∧ H' gl = some (.lst (G.map V.str)) ∧ ∃ (es : Rows) (g0 : Option V), H' ad = some (.dK (encR es)) ∧ σ' = [some (.ref s0), some (.ref b), some (.int mo), some (.ref l), some (.ref D), none, some (.ref ad), g0, none, none, none, none] ∧ (es.map (·.1)).Nodup ∧ es.length ≤ i ∧ (∀ x ∈ es, x.1 ∈ G ∧ 0 ≤ x.2 ∧ x.2 ≤ 1000000) ∧ ∀ g ∈ G.take i, g ∈ es.map (·.1)) ⟨D8, g8, [], _, a8, rfl, by simp, by simp, by simp, by simp⟩ (fun i σ' H' _ ⟨_, e, _⟩ => SqL.of e) ?_ ?_⟩
    · rintro i x σ' H9 hx ⟨D9, g9, es, g0, a9, rfl, nd, el, ev, ek⟩
      rw [List.getElem?_map] at hx
      obtain ⟨g, hg, rfl⟩ := Option.map_eq_some_iff.mp hx
      have hi : i < G.length := (List.getElem?_eq_some_iff.mp hg).1
      walk_at "w"
      refine ⟨_, _, rfl, b, it, mo + 1, rfl, rfl, D9.bag, by omega, by omega, fun v H10 v0 v1 B10 fr10 => ?_⟩
      have D910 : Drew a b it H9 H10 := Drew.take D9.bag B10 fr10
      have a10 := D910.at a9 trivial nab.1
      walk_at "w"
      refine ⟨ad, _, rfl, DPut.k (k := (Sum.inr g : L2.Key)) a10 (by rw [sz]; simp only [encR, List.length_map]; omega), ?_⟩
      rw [put_encR]
      refine ⟨(D9.trans D910).upd B6 (New.of nad) a10 trivial, by rw [upd_ne nadg]; exact D910.at g9 trivial ngb.1, putR es g v, _, upd_same, rfl, ?_, ?_, ?_, ?_⟩
      · rw [keys_put]
        split
        · exact nd
        · rename_i h
          exact List.nodup_append.mpr ⟨nd, by simp, fun x hx y hy e => h (by rw [← List.mem_singleton.mp hy, ← e]; exact hx)⟩
      · have := putR_len (r := es) (z := g) (n := v)
        omega
      · intro x hx
        unfold putR at hx
        split at hx
        · obtain ⟨y, hy, e⟩ := List.mem_map.mp hx
          split at e
          · rw [← e]
            exact ⟨(ev y hy).1, by show 0 ≤ v; omega, by show v ≤ 1000000; omega⟩
          · rw [← e]
            exact ev y hy
        · rcases List.mem_append.mp hx with h | h
          · exact ev x h
          · rw [List.mem_singleton.mp h]
            exact ⟨List.mem_of_getElem? hg, by show 0 ≤ v; omega, by show v ≤ 1000000; omega⟩
      · intro g' hg'
        rw [keys_put]
        rw [List.take_add_one, hg] at hg'
        rcases List.mem_append.mp hg' with h | h
        · split
          · exact ek g' h
          · exact List.mem_append_left _ (ek g' h)
        · have : g' = g := by simpa using h
          rw [this]
          split
          · assumption
          · simp
    · rintro σ' H9 ⟨D9, g9, es, g0, a9, rfl, nd, el, ev, ek⟩
      rw [List.length_map] at el
      rw [List.length_map, List.take_length] at ek
      have D9' := D6'.trans D9
      have B9 := D9.bag
      have t9 := D9'.tab t1
      clear B6u D8 a8 g8 D6' D9 D9' B6
      walk_at "w"
      refine ⟨ad, encR es, rfl, .inl a9, fun q1 nq1 => ?_⟩
      rw [show (encR es).map (fun kv : L2.Key × V => kV kv.1) = (es.map (·.1)).map V.str by simp [encR, kV]]
      refine ⟨q1, es.map (·.1), rfl, SqL.of upd_same, fun q2 nq2 => ?_⟩
      walk_at "w"
      have x10 : Ex H9 (upd (upd H9 q1 (.lst ((es.map (·.1)).map V.str))) q2 (.lst (((es.map (·.1)).mergeSort strLe).map V.str))) := (Ex.new nq1).trans (Ex.new nq2)
      have t10 : Tab a (upd (upd H9 q1 (.lst ((es.map (·.1)).map V.str))) q2 (.lst (((es.map (·.1)).mergeSort strLe).map V.str))) := Tab.new (Tab.new t9 nq1) nq2
      have e10 : (upd (upd H9 q1 (.lst ((es.map (·.1)).map V.str))) q2 (.lst (((es.map (·.1)).mergeSort strLe).map V.str))) q2 = some (.lst (((es.map (·.1)).mergeSort strLe).map V.str)) := upd_same
      generalize (upd (upd H9 q1 (.lst ((es.map (·.1)).map V.str))) q2 (.lst (((es.map (·.1)).mergeSort strLe).map V.str))) = H10 at x10 t10 e10 ⊢
      have kok : ∀ g ∈ es.map (·.1), isName g = true ∧ g.length ≤ 6 ∧ (1 < g.length → ∀ c ∈ g.cps.toList, one c ∈ es.map (·.1)) ∧ ∃ n : Nat, getR es g = some (n : Int) ∧ n ≤ 1000000 := fun g hg => by
        obtain ⟨y, hy, rfl⟩ := List.mem_map.mp hg
        obtain ⟨h1, h2, h3⟩ := Gok _ (ev y hy).1
        refine ⟨h1, h2, fun z c hc => ek _ (h3 z c hc), ?_⟩
        obtain ⟨n, hn⟩ := Option.isSome_iff_exists.mp (getR_mem.mpr hg)
        have hn' := hn
        unfold getR at hn
        obtain ⟨y', h4, h5⟩ := Option.map_eq_some_iff.mp hn
        have h6 := ev y' (List.mem_of_find?_eq_some h4)
        rw [h5] at h6
        obtain ⟨m', rfl⟩ := Int.eq_ofNat_of_zero_le h6.2.1
        exact ⟨m', hn', by omega⟩
      have hks : ∀ g ∈ (es.map (·.1)).mergeSort strLe, g ∈ es.map (·.1) := fun g hg => (List.mergeSort_perm _ _).mem_iff.mp hg
      have pks : ((es.map (·.1)).mergeSort strLe).mergeSort rankLe = (es.map (·.1)).mergeSort rankLe := rank_perm (List.mergeSort_perm _ _)
      have lks : ((es.map (·.1)).mergeSort strLe).length ≤ 9 := by rw [List.length_mergeSort, List.length_map]; omega
      generalize (es.map (·.1)).mergeSort strLe = ks at e10 hks pks lks ⊢
      refine ⟨q2, rfl, ⟨_, SqL.of e10⟩, lcsW (walk_list (xs := ks.map V.str)) (fun D' i H' => H10 D' = none ∧ Ex H10 H' ∧ Tab a H' ∧ ∃ zs : List (Addr × Str), H' D' = some (.lst (zs.map fun z => V.ref z.1)) ∧ zs.map (·.2) = ks.take i ∧ ∀ z ∈ zs, H' z.1 = some (.tup [.int (z.2.length : Nat), .str z.2])) (fun D' hD => ⟨hD, Ex.new hD, Tab.new t10 hD, [], upd_same, rfl, by simp⟩) (fun D' i H' _ ⟨_, x, _⟩ => x.sqL (SqL.of e10)) ?_ ?_⟩
      · rintro D' i x H11 H' hi ⟨hD, x11, t11, zs, eD, ez, hz⟩ ⟨rfl, hx⟩
        rw [List.getElem?_map] at hx
        obtain ⟨g, hg, rfl⟩ := Option.map_eq_some_iff.mp hx
        have hg6 := (kok g (hks g (List.mem_of_getElem? hg))).2.1
        have zl : zs.length ≤ 9 := by
          have := congrArg List.length ez
          rw [List.length_map, List.length_take] at this
          omega
        walk_at "w"
        refine ⟨rfl, ?_⟩
        walk_at "w"
        refine w_lenX (by omega) ?_
        walk_at "w"
        refine ⟨by show 2 ≤ sizeLine; decide, fun T0 nT => ?_⟩
        have nTD : T0 ≠ D' := Ne.symm (ne_of_none eD nT)
        refine ⟨_, upd_old eD nT, by rw [List.length_map, sz]; omega, hD, fun c o hc nt => ?_, Tab.upd (Tab.new t11 nT) (upd_old eD nT) trivial, zs ++ [(T0, g)], ?_, ?_, fun z hz' => ?_⟩
        · rw [upd_ne (ne_of_none hc hD)]
          exact upd_old (x11 c o hc nt) nT
        · rw [upd_same, List.map_append]
          rfl
        · rw [List.map_append, ez, List.take_add_one, hg]
          rfl
        · rcases List.mem_append.mp hz' with h | h
          · have h1 := hz z h
            rw [upd_ne (ne_of h1 eD (by intro z; cases z))]
            exact upd_old h1 nT
          · rw [List.mem_singleton.mp h, upd_ne nTD]
            exact upd_same
      · rintro D' H11 ⟨hD, x11, t11, zs, eD, ez, hz⟩
        rw [List.length_map, List.take_length] at ez
        walk_at "w"
        refine ⟨D', zs, rfl, SqL.of eD, fun z h => SqT.of (hz z h), fun q3 nq3 => ?_⟩
        have eo : (zs.mergeSort fun x y => rankLe x.2 y.2).map (·.2) = (es.map (·.1)).mergeSort rankLe := by
          rw [PySem.W.sort_maps (r := fun x y : Addr × Str => rankLe x.2 y.2) (s := rankLe) (fun z : Addr × Str => z.2) (l := zs) (fun _ _ _ _ => rfl), ez, pks]
        have hz2 : ∀ z ∈ zs.mergeSort fun x y => rankLe x.2 y.2, H11 z.1 = some (.tup [.int (z.2.length : Nat), .str z.2]) ∧ z.2 ∈ es.map (·.1) := fun z h => by
          have h1 := (List.mergeSort_perm _ _).mem_iff.mp h
          exact ⟨hz z h1, hks _ (by rw [← ez]; exact List.mem_map.mpr ⟨z, h1, rfl⟩)⟩
        generalize (zs.mergeSort fun x y => rankLe x.2 y.2) = zo at eo hz2 ⊢
        have zol : zo.length ≤ 9 := by
          have := congrArg List.length eo
          rw [List.length_map, List.length_mergeSort, List.length_map] at this
          omega
        have x12 : Ex H11 (upd H11 q3 (.lst (zo.map fun z => V.ref z.1))) := Ex.new nq3
        have t12 : Tab a (upd H11 q3 (.lst (zo.map fun z => V.ref z.1))) := Tab.new t11 nq3
        have e12 : (upd H11 q3 (.lst (zo.map fun z => V.ref z.1))) q3 = some (.lst (zo.map fun z => V.ref z.1)) := upd_same
        generalize (upd H11 q3 (.lst (zo.map fun z => V.ref z.1))) = H12 at x12 t12 e12 ⊢
        have x912 := (x10.trans x11).trans x12
        have a12 := x912 _ _ a9 trivial
        clear eD hz e10 x10 x11 t10 t11 nq1 nq2 nq3 g9
        walk_at "w"
        refine ⟨q3, rfl, ⟨_, SqL.of e12⟩, lcsW (walk_list (xs := zo.map fun z => V.ref z.1)) (fun D2 i H' => H12 D2 = none ∧ H' = upd H12 D2 (.lst ((zo.take i).map fun z => V.str (rowText z.2 ((getR es z.2).getD 0).toNat)))) (fun D2 hD => ⟨hD, by simp⟩) (fun D2 i H' _ ⟨hD, e⟩ => by rw [e]; exact (Ex.new hD).sqL (SqL.of e12)) ?_ ?_⟩
        · rintro D2 i x H13 H' hi ⟨hD2, rfl⟩ ⟨rfl, hx⟩
          rw [List.getElem?_map] at hx
          obtain ⟨z, hzi, rfl⟩ := Option.map_eq_some_iff.mp hx
          obtain ⟨h1, h2⟩ := hz2 z (List.mem_of_getElem? hzi)
          obtain ⟨_, l6, _, n, gn, n6⟩ := kok _ h2
          have h3 := upd_old (p := D2) (u := .lst ((zo.take i).map fun z => V.str (rowText z.2 ((getR es z.2).getD 0).toNat))) (x12 _ _ h1 trivial) hD2
          have dg := DGet.k (k := (Sum.inr z.2 : L2.Key)) (upd_old (p := D2) (u := .lst ((zo.take i).map fun z => V.str (rowText z.2 ((getR es z.2).getD 0).toNat))) a12 hD2)
          rw [val_encR, gn] at dg
          walk_at "w"
          refine ⟨rfl, ?_⟩
          walk_at "w"
          refine ⟨ad, _, rfl, dg, ?_⟩
          walk_at "w"
          refine ⟨_, _, rfl, z.2, n, rfl, rfl, l6, n6, ?_⟩
          refine ⟨_, upd_same, ?_, hD2, ?_⟩
          · rw [List.length_map, List.length_take, sz]
            omega
          · rw [upd_upd, List.take_add_one, hzi]
            simp [gn]
        · rintro D2 H13 ⟨hD2, rfl⟩
          rw [List.length_map, List.take_length]
          have due : (zo.map fun z => V.str (rowText z.2 ((getR es z.2).getD 0).toNat)) = (((es.map (·.1)).mergeSort rankLe).map fun g => rowText g ((getR es g).getD 0).toNat).map V.str := by
            rw [← eo, List.map_map, List.map_map]
            rfl
          rw [due]
          have a13 := upd_old (p := D2) (u := .lst ((((es.map (·.1)).mergeSort rankLe).map fun g => rowText g ((getR es g).getD 0).toNat).map V.str)) a12 hD2
          have e13 : upd H12 D2 (.lst ((((es.map (·.1)).mergeSort rankLe).map fun g => rowText g ((getR es g).getD 0).toNat).map V.str)) D2 = some _ := upd_same
          have t13 : Tab a (upd H12 D2 (.lst ((((es.map (·.1)).mergeSort rankLe).map fun g => rowText g ((getR es g).getD 0).toNat).map V.str))) := Tab.new t12 hD2
          generalize upd H12 D2 (.lst ((((es.map (·.1)).mergeSort rankLe).map fun g => rowText g ((getR es g).getD 0).toNat).map V.str)) = H13 at a13 e13 t13 ⊢
          walk_at "w"
          refine ⟨_, _, rfl, "fi", 700, rfl, rfl, by decide +kernel, by decide, ?_⟩
          walk_at "w"
          refine it_npos (congrArg V.str (by decide +kernel)) ?_
          walk_at "w"
          refine ⟨_, _, rfl, "a", 1000000, rfl, rfl, by decide +kernel, by decide, ?_⟩
          walk_at "w"
          refine it_npos (congrArg V.str (by decide +kernel)) ?_
          walk_at "w"
          refine ⟨ad, encR es, rfl, .inl a13, fun dd ndd => ?_⟩
          walk_at "w"
          intro fp fdx nfp nfdx nex
          have hdd : upd (upd (upd H13 dd (.dK (encR es))) fdx (.own fp)) fp (.ins a.C_Font fdx []) dd = some (.dK (encV (es.map fun x => (x.1, V.int x.2)))) := by
            rw [upd_ne (ne_of_none upd_same nfp), upd_ne (ne_of_none upd_same nfdx), upd_same, encR_V]
          have nfp2 : upd (upd H13 dd (.dK (encR es))) fdx (.own fp) fp = none := by rw [upd_ne (Ne.symm nex)]; exact nfp
          have t15 : Tab a (upd (upd (upd H13 dd (.dK (encR es))) fdx (.own fp)) fp (.ins a.C_Font fdx [])) := Tab.new (Tab.new (Tab.new t13 ndd) nfdx) nfp2
          have e15 := upd_old (p := fp) (u := .ins a.C_Font fdx []) (upd_old (p := fdx) (u := .own fp) (upd_old (p := dd) (u := .dK (encR es)) e13 ndd) nfdx) nfp2
          have fpD : D2 ≠ fp := ne_of_none (upd_old (p := fdx) (u := .own fp) (upd_old (p := dd) (u := .dK (encR es)) e13 ndd) nfdx) nfp2
          have keq : (es.map fun x => (x.1, V.int x.2)).map (·.1) = es.map (·.1) := by rw [List.map_map]; rfl
          have om : ∀ g ∈ (es.map (·.1)).mergeSort rankLe, g ∈ es.map (·.1) := fun g hg => (List.mergeSort_perm _ _).mem_iff.mp hg
          have om' : ∀ g ∈ es.map (·.1), g ∈ (es.map (·.1)).mergeSort rankLe := fun g hg => (List.mergeSort_perm _ _).mem_iff.mpr hg
          have os := rank_sorted (es.map (·.1))
          have ond : ((es.map (·.1)).mergeSort rankLe).Nodup := (List.mergeSort_perm _ _).nodup_iff.mpr nd
          have ol : ((es.map (·.1)).mergeSort rankLe).length ≤ 9 := by rw [List.length_mergeSort, List.length_map]; omega
          refine ⟨_, _, _, _, rfl, fp, fdx, dd, es.map fun x => (x.1, V.int x.2), 250, rfl, rfl, rfl, rfl, upd_same, hdd, by rw [keq]; exact nd, by rw [List.length_map]; omega, fun x hx => ?_, fun x hx H' => ?_, by decide, by decide, t15, ?_⟩
          · obtain ⟨y, hy, rfl⟩ := List.mem_map.mp hx
            have := (kok y.1 (List.mem_map.mpr ⟨y, hy, rfl⟩)).2.1
            show y.1.length ≤ _
            omega
          · obtain ⟨y, hy, rfl⟩ := List.mem_map.mp hx
            exact isI_int _
          rw [keq]
          generalize (es.map (·.1)).mergeSort rankLe = ord at os ond ol om om' e13 e15 ⊢
          have q : runPA (es.map fun x => (x.1, V.int x.2)) ord [] = .ok (ord.map fun g => (g, (getR es g).getD 0)) := runPA_all (es := es.map fun x => (x.1, V.int x.2)) (fun g => (getR es g).getD 0) os ond (fun g hg => by
            obtain ⟨h1, _, _, n, h2, h3⟩ := kok g (om g hg)
            refine ⟨by rw [getR_map, h2]; rfl, h1, ?_, ?_⟩
            · rw [h2]
              show 0 ≤ (n : Int)
              omega
            · rw [h2]
              show (n : Int) ≤ 1000000
              omega) (fun g hg c1 c hc => om' _ ((kok g (om g hg)).2.2.1 c1 c hc)) (by omega) ord [] rfl
          rw [q]
          intro H16 ro pr pa R16 t16 F16 hpa w1 w2 w3
          refine ⟨rfl, ?_⟩
          have e16 := R16 _ _ e15 trivial (by simpa using fpD)
          have rk : (ord.map fun g => (g, (getR es g).getD 0)).map (·.1) = ord := by rw [List.map_map]; exact List.map_id _
          have rv : ∀ x ∈ ord.map fun g => (g, (getR es g).getD 0), x.1.length ≤ 6 ∧ 0 ≤ x.2 ∧ x.2 ≤ 1000000 := fun x hx => by
            obtain ⟨g, hg, rfl⟩ := List.mem_map.mp hx
            obtain ⟨_, h0, _, n, h2, h3⟩ := kok g (om g hg)
            refine ⟨h0, ?_, ?_⟩
            · show 0 ≤ (getR es g).getD 0
              rw [h2]
              show 0 ≤ (n : Int)
              omega
            · show (getR es g).getD 0 ≤ 1000000
              rw [h2]
              show (n : Int) ≤ 1000000
              omega
          have rok : ∀ z ∈ ord.map fun g => rowText g ((getR es g).getD 0).toNat, PyData.strOk z = true := fun z hz => by
            obtain ⟨g, hg, rfl⟩ := List.mem_map.mp hz
            exact rowOk (kok g (om g hg)).1 _
          have tabl : ((ord.map fun g => (g, (getR es g).getD 0)).map (·.1)).mergeSort rankLe = ord := by rw [rk]; exact rank_same os
          have rows : (ord.map fun g => V.str (rowText g ((getR (ord.map fun g => (g, (getR es g).getD 0)) g).getD 0).toNat)) = (ord.map fun g => rowText g ((getR es g).getD 0).toNat).map V.str := by
            rw [List.map_map]
            refine List.map_congr_left fun g hg => ?_
            rw [getR_list _ hg]
            rfl
          walk_at "w"
          refine ⟨_, rfl, fp, fdx, ro, pr, pa, _, 250, rfl, F16, by rw [List.length_map]; omega, fun x hx => (rv x hx).1, fun x hx => (rv x hx).2, t16, fun H17 l1 x17 t17 n17 e17 => ?_⟩
          rw [tabl, rows] at e17
          walk_at "w"
          refine ⟨.list ((ord.map fun g => rowText g ((getR es g).getD 0).toNat).map .str), .list ((ord.map fun g => rowText g ((getR es g).getD 0).toNat).map .str), .lst (SqL.of e17) (dpStrs _), .lst (SqL.of (x17 _ _ e16 trivial)) (dpStrs _), shapedStrs rok, shapedStrs rok, ?_⟩
          rw [SeqAt.eqv_refl _ (canStrL rok)]
          walk_at "w"
          refine ⟨_, rfl, fp, fdx, ro, pr, pa, _, 250, rfl, F16.ex x17, by rw [List.length_map]; omega, fun x hx => (rv x hx).1, fun x hx => (rv x hx).2, t17, fun H18 l2 x18 t18 n18 e18 => ?_⟩
          rw [tabl, rows] at e18
          walk_at "w"
          refine ⟨.list ((ord.map fun g => rowText g ((getR es g).getD 0).toNat).map .str), .list ((ord.map fun g => rowText g ((getR es g).getD 0).toNat).map .str), .lst (SqL.of e18) (dpStrs _), .lst (SqL.of (x18 _ _ (x17 _ _ e16 trivial) trivial)) (dpStrs _), shapedStrs rok, shapedStrs rok, ?_⟩
          rw [SeqAt.eqv_refl _ (canStrL rok)]
          walk_at "w"
          exact k _
theorem sp_law_start {K : PySem.W.Frag} {a : Ad} {H : Hp} {z : Addr} {ns : List Int} (h4 : SqL K H z (ns.map V.int)) (h1 : ns.length ≤ 63) (h3 : H a.P_font_order = some (.tbl #[])) : sp_law K a [.ref z] H (fun v _ => v = .bl true) fun _ _ _ => False := ⟨_, rfl, z, ns, rfl, h4, h1, LamX.TabS.nil h3, fun _ => rfl⟩

end FG
namespace FG
open PySem L2
theorem y_InvalidGlyph : Txt1 "InvalidGlyph.__init__" "glyph" "not a glyph name" (defArgs s_InvalidGlyph_init) (defBody s_InvalidGlyph_init) (defScope s_InvalidGlyph_init) where
  ex := ⟨_, _, _, _, _, _, _, _, _, _, _, _, rfl, rfl, rfl, fun L fI cc cda => ⟨by rfl, by rfl, by rfl, _, by rfl⟩⟩
  bind := fun _ _ _ _ _ _ _ _ _ => rfl
  nself := by decide +kernel
  ndbg := by decide +kernel
  ks := by decide +kernel
  kc := by decide +kernel
  k0 := by decide +kernel
  k1 := by decide +kernel
  cells := by decide +kernel
  kind := rfl
  co := rfl
  gen := rfl
theorem y_InvalidNumber : Txt1 "InvalidNumber.__init__" "value" "not a valid number" (defArgs s_InvalidNumber_init) (defBody s_InvalidNumber_init) (defScope s_InvalidNumber_init) where
  ex := ⟨_, _, _, _, _, _, _, _, _, _, _, _, rfl, rfl, rfl, fun L fI cc cda => ⟨by rfl, by rfl, by rfl, _, by rfl⟩⟩
  bind := fun _ _ _ _ _ _ _ _ _ => rfl
  nself := by decide +kernel
  ndbg := by decide +kernel
  ks := by decide +kernel
  kc := by decide +kernel
  k0 := by decide +kernel
  k1 := by decide +kernel
  cells := by decide +kernel
  kind := rfl
  co := rfl
  gen := rfl
theorem y_UnknownGlyph : Txt1 "UnknownGlyph.__init__" "glyph" "the font does not have the glyph" (defArgs s_UnknownGlyph_init) (defBody s_UnknownGlyph_init) (defScope s_UnknownGlyph_init) where
  ex := ⟨_, _, _, _, _, _, _, _, _, _, _, _, rfl, rfl, rfl, fun L fI cc cda => ⟨by rfl, by rfl, by rfl, _, by rfl⟩⟩
  bind := fun _ _ _ _ _ _ _ _ _ => rfl
  nself := by decide +kernel
  ndbg := by decide +kernel
  ks := by decide +kernel
  kc := by decide +kernel
  k0 := by decide +kernel
  k1 := by decide +kernel
  cells := by decide +kernel
  kind := rfl
  co := rfl
  gen := rfl
theorem y_TooMany : Txt1 "TooMany.__init__" "limit" "too many ligatures" (defArgs s_TooMany_init) (defBody s_TooMany_init) (defScope s_TooMany_init) where
  ex := ⟨_, _, _, _, _, _, _, _, _, _, _, _, rfl, rfl, rfl, fun L fI cc cda => ⟨by rfl, by rfl, by rfl, _, by rfl⟩⟩
  bind := fun _ _ _ _ _ _ _ _ _ => rfl
  nself := by decide +kernel
  ndbg := by decide +kernel
  ks := by decide +kernel
  kc := by decide +kernel
  k0 := by decide +kernel
  k1 := by decide +kernel
  cells := by decide +kernel
  kind := rfl
  co := rfl
  gen := rfl
theorem all_mk {w : World} {K : PySem.W.Frag} {h : Heap} {mg : Str → Option Value} {fa : Addr} (X : K.In h) (G : h.Ns mainGlobals mg) (hfa : mg "law" = some (.ref fa))
    {C_Font : Addr}
    {f_is_integer : Addr} {oc_is_integer kV_is_integer dc_is_integer pm_is_integer cd_is_integer ct_is_integer : Value} {od_is_integer an_is_integer : Option Addr} {sl_is_integer : Array (Option Value)}
    {f_is_between : Addr} {oc_is_between kV_is_between dc_is_between pm_is_between cd_is_between ct_is_between : Value} {od_is_between an_is_between : Option Addr} {sl_is_between : Array (Option Value)}
    {f_check_between : Addr} {oc_check_between kV_check_between dc_check_between pm_check_between cd_check_between ct_check_between : Value} {od_check_between an_check_between : Option Addr} {sl_check_between : Array (Option Value)}
    {f_font_order : Addr} {oc_font_order kV_font_order dc_font_order pm_font_order ct_font_order : Value} {od_font_order an_font_order : Option Addr} {sl_font_order : Array (Option Value)}
    {c_font_order P_font_order : Addr} {lo_font_order : Value} {ld_font_order : Option Addr} {lv_font_order : Array Value} {ls_font_order : Array (Option Value)}
    {f_is_name : Addr} {oc_is_name kV_is_name dc_is_name pm_is_name cd_is_name ct_is_name : Value} {od_is_name an_is_name : Option Addr} {sl_is_name : Array (Option Value)}
    {f_Font_known : Addr} {oc_Font_known kV_Font_known dc_Font_known pm_Font_known cd_Font_known ct_Font_known : Value} {od_Font_known an_Font_known : Option Addr} {sl_Font_known : Array (Option Value)}
    {f_Font_ligatures : Addr} {oc_Font_ligatures kV_Font_ligatures dc_Font_ligatures pm_Font_ligatures cd_Font_ligatures ct_Font_ligatures : Value} {od_Font_ligatures an_Font_ligatures : Option Addr} {sl_Font_ligatures : Array (Option Value)}
    {p_Font_ligatures : Addr} {pr_Font_ligatures : List Value}
    {f_Font_glyphs : Addr} {oc_Font_glyphs kV_Font_glyphs dc_Font_glyphs pm_Font_glyphs cd_Font_glyphs ct_Font_glyphs : Value} {od_Font_glyphs an_Font_glyphs : Option Addr} {sl_Font_glyphs : Array (Option Value)}
    {f_Font_advance_of : Addr} {oc_Font_advance_of kV_Font_advance_of dc_Font_advance_of pm_Font_advance_of cd_Font_advance_of ct_Font_advance_of : Value} {od_Font_advance_of an_Font_advance_of : Option Addr} {sl_Font_advance_of : Array (Option Value)}
    {f_Font_put_blank : Addr} {oc_Font_put_blank kV_Font_put_blank dc_Font_put_blank pm_Font_put_blank cd_Font_put_blank ct_Font_put_blank : Value} {od_Font_put_blank an_Font_put_blank : Option Addr} {sl_Font_put_blank : Array (Option Value)}
    {f_Font_put_advance : Addr} {oc_Font_put_advance kV_Font_put_advance dc_Font_put_advance pm_Font_put_advance cd_Font_put_advance ct_Font_put_advance : Value} {od_Font_put_advance an_Font_put_advance : Option Addr} {sl_Font_put_advance : Array (Option Value)}
    {f_Font_init : Addr} {oc_Font_init dc_Font_init pm_Font_init cd_Font_init ct_Font_init : Value} {od_Font_init an_Font_init : Option Addr} {sl_Font_init : Array (Option Value)}
    {tp_Font_init : Addr} {tc_Font_init : Value} {td_Font_init : Option Addr} {tn_Font_init : Nat} {ts_Font_init : Array (Option Value)} 
    {kd_Font_init : Addr} {kt0_Font_init : Tok}
    {f_width_table : Addr} {oc_width_table kV_width_table dc_width_table pm_width_table cd_width_table ct_width_table : Value} {od_width_table an_width_table : Option Addr} {sl_width_table : Array (Option Value)}
    {f_law_bag : Addr} {oc_law_bag kV_law_bag dc_law_bag pm_law_bag cd_law_bag ct_law_bag : Value} {od_law_bag an_law_bag : Option Addr} {sl_law_bag : Array (Option Value)}
    {f_law_take : Addr} {oc_law_take kV_law_take dc_law_take pm_law_take cd_law_take ct_law_take : Value} {od_law_take an_law_take : Option Addr} {sl_law_take : Array (Option Value)}
    {f_law_letters : Addr} {oc_law_letters kV_law_letters dc_law_letters pm_law_letters cd_law_letters ct_law_letters : Value} {od_law_letters an_law_letters : Option Addr} {sl_law_letters : Array (Option Value)}
    {f_law_row : Addr} {oc_law_row kV_law_row dc_law_row pm_law_row cd_law_row ct_law_row : Value} {od_law_row an_law_row : Option Addr} {sl_law_row : Array (Option Value)}
    {f_law_commas : Addr} {oc_law_commas kV_law_commas dc_law_commas pm_law_commas cd_law_commas ct_law_commas : Value} {od_law_commas an_law_commas : Option Addr} {sl_law_commas : Array (Option Value)}
    {f_law_line : Addr} {oc_law_line kV_law_line dc_law_line pm_law_line cd_law_line ct_law_line : Value} {od_law_line an_law_line : Option Addr} {sl_law_line : Array (Option Value)}
    {f_law : Addr} {oc_law kV_law dc_law pm_law cd_law ct_law : Value} {od_law an_law : Option Addr} {sl_law : Array (Option Value)}
    {ut_Font_MOST_ADVANCE : Tok}
    {ut_Font_MOST_LETTERS : Tok}
    {ut_Font_MOST_LIGATURES : Tok}
    {C_InvalidGlyph i_InvalidGlyph c_InvalidGlyph k_InvalidGlyph N_InvalidGlyph : Addr} {n1_InvalidGlyph q_InvalidGlyph : Str} {bs_InvalidGlyph bm_InvalidGlyph : List Value} {sn_InvalidGlyph : List Str} {su_InvalidGlyph : List Value} {ab_InvalidGlyph : Bool} {co_InvalidGlyph : Option Bool} {dd_InvalidGlyph : Option Addr} {m0_InvalidGlyph m1_InvalidGlyph m2_InvalidGlyph m3_InvalidGlyph m5_InvalidGlyph : Option Value}
    {ec_InvalidGlyph ekV_InvalidGlyph edc_InvalidGlyph epm_InvalidGlyph ect_InvalidGlyph ecl_InvalidGlyph ecl2_InvalidGlyph : Value} {ed_InvalidGlyph ean_InvalidGlyph ecd_InvalidGlyph ecd2_InvalidGlyph : Option Addr} {esl_InvalidGlyph ecs_InvalidGlyph ecs2_InvalidGlyph : Array (Option Value)} {evs_InvalidGlyph : Array Value} {efl_InvalidGlyph : Str} {etf_InvalidGlyph : Tok}
    {C_InvalidNumber i_InvalidNumber c_InvalidNumber k_InvalidNumber N_InvalidNumber : Addr} {n1_InvalidNumber q_InvalidNumber : Str} {bs_InvalidNumber bm_InvalidNumber : List Value} {sn_InvalidNumber : List Str} {su_InvalidNumber : List Value} {ab_InvalidNumber : Bool} {co_InvalidNumber : Option Bool} {dd_InvalidNumber : Option Addr} {m0_InvalidNumber m1_InvalidNumber m2_InvalidNumber m3_InvalidNumber m5_InvalidNumber : Option Value}
    {ec_InvalidNumber ekV_InvalidNumber edc_InvalidNumber epm_InvalidNumber ect_InvalidNumber ecl_InvalidNumber ecl2_InvalidNumber : Value} {ed_InvalidNumber ean_InvalidNumber ecd_InvalidNumber ecd2_InvalidNumber : Option Addr} {esl_InvalidNumber ecs_InvalidNumber ecs2_InvalidNumber : Array (Option Value)} {evs_InvalidNumber : Array Value} {efl_InvalidNumber : Str} {etf_InvalidNumber : Tok}
    {C_UnknownGlyph i_UnknownGlyph c_UnknownGlyph k_UnknownGlyph N_UnknownGlyph : Addr} {n1_UnknownGlyph q_UnknownGlyph : Str} {bs_UnknownGlyph bm_UnknownGlyph : List Value} {sn_UnknownGlyph : List Str} {su_UnknownGlyph : List Value} {ab_UnknownGlyph : Bool} {co_UnknownGlyph : Option Bool} {dd_UnknownGlyph : Option Addr} {m0_UnknownGlyph m1_UnknownGlyph m2_UnknownGlyph m3_UnknownGlyph m5_UnknownGlyph : Option Value}
    {ec_UnknownGlyph ekV_UnknownGlyph edc_UnknownGlyph epm_UnknownGlyph ect_UnknownGlyph ecl_UnknownGlyph ecl2_UnknownGlyph : Value} {ed_UnknownGlyph ean_UnknownGlyph ecd_UnknownGlyph ecd2_UnknownGlyph : Option Addr} {esl_UnknownGlyph ecs_UnknownGlyph ecs2_UnknownGlyph : Array (Option Value)} {evs_UnknownGlyph : Array Value} {efl_UnknownGlyph : Str} {etf_UnknownGlyph : Tok}
    {C_TooMany i_TooMany c_TooMany k_TooMany N_TooMany : Addr} {n1_TooMany q_TooMany : Str} {bs_TooMany bm_TooMany : List Value} {sn_TooMany : List Str} {su_TooMany : List Value} {ab_TooMany : Bool} {co_TooMany : Option Bool} {dd_TooMany : Option Addr} {m0_TooMany m1_TooMany m2_TooMany m3_TooMany m5_TooMany : Option Value}
    {ec_TooMany ekV_TooMany edc_TooMany epm_TooMany ect_TooMany ecl_TooMany ecl2_TooMany : Value} {ed_TooMany ean_TooMany ecd_TooMany ecd2_TooMany : Option Addr} {esl_TooMany ecs_TooMany ecs2_TooMany : Array (Option Value)} {evs_TooMany : Array Value} {efl_TooMany : Str} {etf_TooMany : Tok}
    (a_Font : PySem.W.nsIn K mainGlobals "Font" = some (some (.ref C_Font)))
    (a_is_integer : PySem.W.nsIn K mainGlobals "is_integer" = some (some (.ref f_is_integer)))
    (l_is_integer : K.lookup f_is_integer = some ⟨oc_is_integer, od_is_integer, .func (PySem.W.fnOf "is_integer" "is_integer" (defArgs s_is_integer) (defBody s_is_integer) (defScope s_is_integer) .none kV_is_integer dc_is_integer pm_is_integer an_is_integer cd_is_integer ct_is_integer), sl_is_integer⟩)
    (q_is_integer : PySem.W.codeIn K cd_is_integer "is_integer" = true)
    (k_is_integer : PySem.W.keepIn K (.ref f_is_integer) = true)
    (a_is_between : PySem.W.nsIn K mainGlobals "is_between" = some (some (.ref f_is_between)))
    (l_is_between : K.lookup f_is_between = some ⟨oc_is_between, od_is_between, .func (PySem.W.fnOf "is_between" "is_between" (defArgs s_is_between) (defBody s_is_between) (defScope s_is_between) .none kV_is_between dc_is_between pm_is_between an_is_between cd_is_between ct_is_between), sl_is_between⟩)
    (q_is_between : PySem.W.codeIn K cd_is_between "is_between" = true)
    (k_is_between : PySem.W.keepIn K (.ref f_is_between) = true)
    (a_check_between : PySem.W.nsIn K mainGlobals "check_between" = some (some (.ref f_check_between)))
    (l_check_between : K.lookup f_check_between = some ⟨oc_check_between, od_check_between, .func (PySem.W.fnOf "check_between" "check_between" (defArgs s_check_between) (defBody s_check_between) (defScope s_check_between) .none kV_check_between dc_check_between pm_check_between an_check_between cd_check_between ct_check_between), sl_check_between⟩)
    (q_check_between : PySem.W.codeIn K cd_check_between "check_between" = true)
    (k_check_between : PySem.W.keepIn K (.ref f_check_between) = true)
    (a_font_order : PySem.W.nsIn K mainGlobals "font_order" = some (some (.ref f_font_order)))
    (l_font_order : K.lookup f_font_order = some ⟨oc_font_order, od_font_order, .func (PySem.W.fnOf "font_order" "font_order" (defArgs s_font_order) (defBody s_font_order) (defScope s_font_order) .none kV_font_order dc_font_order pm_font_order an_font_order (.ref c_font_order) ct_font_order), sl_font_order⟩)
    (q_font_order : PySem.W.codeIn K (.ref c_font_order) "font_order" = true)
    (lk_font_order : K.lookup c_font_order = some ⟨lo_font_order, ld_font_order, .fields lv_font_order, ls_font_order⟩)
    (lp_font_order : lv_font_order[11]? = some (.ref P_font_order))
    (lh_font_order : PySem.W.codeHdIn K c_font_order P_font_order = true)
    (ln_font_order : K.lookup P_font_order = none)
    (lt_font_order : h.get? P_font_order = some { cls := .none, data := .fields #[] })
    (k_font_order : PySem.W.keepIn K (.ref f_font_order) = true)
    (a_is_name : PySem.W.nsIn K mainGlobals "is_name" = some (some (.ref f_is_name)))
    (l_is_name : K.lookup f_is_name = some ⟨oc_is_name, od_is_name, .func (PySem.W.fnOf "is_name" "is_name" (defArgs s_is_name) (defBody s_is_name) (defScope s_is_name) .none kV_is_name dc_is_name pm_is_name an_is_name cd_is_name ct_is_name), sl_is_name⟩)
    (q_is_name : PySem.W.codeIn K cd_is_name "is_name" = true)
    (k_is_name : PySem.W.keepIn K (.ref f_is_name) = true)
    (a_Font_known : PySem.W.findIn K (.ref C_Font) "known" = some (some (.ref f_Font_known)))
    (i_Font_known : PySem.W.isFn K (.ref f_Font_known) = true)
    (l_Font_known : K.lookup f_Font_known = some ⟨oc_Font_known, od_Font_known, .func (PySem.W.fnOf "known" "Font.known" (defArgs s_Font_known) (defBody s_Font_known) (defScope s_Font_known) .none kV_Font_known dc_Font_known pm_Font_known an_Font_known cd_Font_known ct_Font_known), sl_Font_known⟩)
    (q_Font_known : PySem.W.codeIn K cd_Font_known "Font.known" = true)
    (k_Font_known : PySem.W.keepIn K (.ref f_Font_known) = true)
    (a_Font_ligatures : PySem.W.findIn K (.ref C_Font) "ligatures" = some (some (.ref p_Font_ligatures)))
    (pg_Font_ligatures : PySem.W.specialIn K (.ref p_Font_ligatures) "__get__" = some (some (.builtin "property.__get__")))
    (pt_Font_ligatures : PySem.W.takesIn K (.ref p_Font_ligatures) = some true)
    (pr0_Font_ligatures : PySem.W.recIn K p_Font_ligatures "property" = some (.ref f_Font_ligatures :: pr_Font_ligatures))
    (l_Font_ligatures : K.lookup f_Font_ligatures = some ⟨oc_Font_ligatures, od_Font_ligatures, .func (PySem.W.fnOf "ligatures" "Font.ligatures" (defArgs s_Font_ligatures) (defBody s_Font_ligatures) (defScope s_Font_ligatures) .none kV_Font_ligatures dc_Font_ligatures pm_Font_ligatures an_Font_ligatures cd_Font_ligatures ct_Font_ligatures), sl_Font_ligatures⟩)
    (q_Font_ligatures : PySem.W.codeIn K cd_Font_ligatures "Font.ligatures" = true)
    (k_Font_ligatures : PySem.W.keepIn K (.ref f_Font_ligatures) = true)
    (a_Font_glyphs : PySem.W.findIn K (.ref C_Font) "glyphs" = some (some (.ref f_Font_glyphs)))
    (i_Font_glyphs : PySem.W.isFn K (.ref f_Font_glyphs) = true)
    (l_Font_glyphs : K.lookup f_Font_glyphs = some ⟨oc_Font_glyphs, od_Font_glyphs, .func (PySem.W.fnOf "glyphs" "Font.glyphs" (defArgs s_Font_glyphs) (defBody s_Font_glyphs) (defScope s_Font_glyphs) .none kV_Font_glyphs dc_Font_glyphs pm_Font_glyphs an_Font_glyphs cd_Font_glyphs ct_Font_glyphs), sl_Font_glyphs⟩)
    (q_Font_glyphs : PySem.W.codeIn K cd_Font_glyphs "Font.glyphs" = true)
    (k_Font_glyphs : PySem.W.keepIn K (.ref f_Font_glyphs) = true)
    (a_Font_advance_of : PySem.W.findIn K (.ref C_Font) "advance_of" = some (some (.ref f_Font_advance_of)))
    (i_Font_advance_of : PySem.W.isFn K (.ref f_Font_advance_of) = true)
    (l_Font_advance_of : K.lookup f_Font_advance_of = some ⟨oc_Font_advance_of, od_Font_advance_of, .func (PySem.W.fnOf "advance_of" "Font.advance_of" (defArgs s_Font_advance_of) (defBody s_Font_advance_of) (defScope s_Font_advance_of) .none kV_Font_advance_of dc_Font_advance_of pm_Font_advance_of an_Font_advance_of cd_Font_advance_of ct_Font_advance_of), sl_Font_advance_of⟩)
    (q_Font_advance_of : PySem.W.codeIn K cd_Font_advance_of "Font.advance_of" = true)
    (k_Font_advance_of : PySem.W.keepIn K (.ref f_Font_advance_of) = true)
    (a_Font_put_blank : PySem.W.findIn K (.ref C_Font) "put_blank" = some (some (.ref f_Font_put_blank)))
    (i_Font_put_blank : PySem.W.isFn K (.ref f_Font_put_blank) = true)
    (l_Font_put_blank : K.lookup f_Font_put_blank = some ⟨oc_Font_put_blank, od_Font_put_blank, .func (PySem.W.fnOf "put_blank" "Font.put_blank" (defArgs s_Font_put_blank) (defBody s_Font_put_blank) (defScope s_Font_put_blank) .none kV_Font_put_blank dc_Font_put_blank pm_Font_put_blank an_Font_put_blank cd_Font_put_blank ct_Font_put_blank), sl_Font_put_blank⟩)
    (q_Font_put_blank : PySem.W.codeIn K cd_Font_put_blank "Font.put_blank" = true)
    (k_Font_put_blank : PySem.W.keepIn K (.ref f_Font_put_blank) = true)
    (a_Font_put_advance : PySem.W.findIn K (.ref C_Font) "put_advance" = some (some (.ref f_Font_put_advance)))
    (i_Font_put_advance : PySem.W.isFn K (.ref f_Font_put_advance) = true)
    (l_Font_put_advance : K.lookup f_Font_put_advance = some ⟨oc_Font_put_advance, od_Font_put_advance, .func (PySem.W.fnOf "put_advance" "Font.put_advance" (defArgs s_Font_put_advance) (defBody s_Font_put_advance) (defScope s_Font_put_advance) .none kV_Font_put_advance dc_Font_put_advance pm_Font_put_advance an_Font_put_advance cd_Font_put_advance ct_Font_put_advance), sl_Font_put_advance⟩)
    (q_Font_put_advance : PySem.W.codeIn K cd_Font_put_advance "Font.put_advance" = true)
    (k_Font_put_advance : PySem.W.keepIn K (.ref f_Font_put_advance) = true)
    (a_Font_init : PySem.W.findIn K (.ref C_Font) "__init__" = some (some (.ref f_Font_init)))
    (i_Font_init : PySem.W.isFn K (.ref f_Font_init) = true)
    (l_Font_init : K.lookup f_Font_init = some ⟨oc_Font_init, od_Font_init, .func (PySem.W.fnOf "__init__" "Font.__init__" (defArgs s_Font_init) (defBody s_Font_init) (defScope s_Font_init) (.ref tp_Font_init) (.ref kd_Font_init) dc_Font_init pm_Font_init an_Font_init cd_Font_init ct_Font_init), sl_Font_init⟩)
    (q_Font_init : PySem.W.codeIn K cd_Font_init "Font.__init__" = true)
    (k_Font_init : PySem.W.keepIn K (.ref f_Font_init) = true)
    (t_Font_init : K.lookup tp_Font_init = some ⟨tc_Font_init, td_Font_init, .seq ([.none] : List Value).toArray tn_Font_init, ts_Font_init⟩)
    (kw0_Font_init : PySem.W.nsIn K kd_Font_init "blank" = some (some (.int 250 kt0_Font_init)))
    (a_width_table : PySem.W.nsIn K mainGlobals "width_table" = some (some (.ref f_width_table)))
    (l_width_table : K.lookup f_width_table = some ⟨oc_width_table, od_width_table, .func (PySem.W.fnOf "width_table" "width_table" (defArgs s_width_table) (defBody s_width_table) (defScope s_width_table) .none kV_width_table dc_width_table pm_width_table an_width_table cd_width_table ct_width_table), sl_width_table⟩)
    (q_width_table : PySem.W.codeIn K cd_width_table "width_table" = true)
    (k_width_table : PySem.W.keepIn K (.ref f_width_table) = true)
    (a_law_bag : PySem.W.nsIn K mainGlobals "_law_bag" = some (some (.ref f_law_bag)))
    (l_law_bag : K.lookup f_law_bag = some ⟨oc_law_bag, od_law_bag, .func (PySem.W.fnOf "_law_bag" "_law_bag" (defArgs s_law_bag) (defBody s_law_bag) (defScope s_law_bag) .none kV_law_bag dc_law_bag pm_law_bag an_law_bag cd_law_bag ct_law_bag), sl_law_bag⟩)
    (q_law_bag : PySem.W.codeIn K cd_law_bag "_law_bag" = true)
    (k_law_bag : PySem.W.keepIn K (.ref f_law_bag) = true)
    (a_law_take : PySem.W.nsIn K mainGlobals "_law_take" = some (some (.ref f_law_take)))
    (l_law_take : K.lookup f_law_take = some ⟨oc_law_take, od_law_take, .func (PySem.W.fnOf "_law_take" "_law_take" (defArgs s_law_take) (defBody s_law_take) (defScope s_law_take) .none kV_law_take dc_law_take pm_law_take an_law_take cd_law_take ct_law_take), sl_law_take⟩)
    (q_law_take : PySem.W.codeIn K cd_law_take "_law_take" = true)
    (k_law_take : PySem.W.keepIn K (.ref f_law_take) = true)
    (a_law_letters : PySem.W.nsIn K mainGlobals "_law_letters" = some (some (.ref f_law_letters)))
    (l_law_letters : K.lookup f_law_letters = some ⟨oc_law_letters, od_law_letters, .func (PySem.W.fnOf "_law_letters" "_law_letters" (defArgs s_law_letters) (defBody s_law_letters) (defScope s_law_letters) .none kV_law_letters dc_law_letters pm_law_letters an_law_letters cd_law_letters ct_law_letters), sl_law_letters⟩)
    (q_law_letters : PySem.W.codeIn K cd_law_letters "_law_letters" = true)
    (k_law_letters : PySem.W.keepIn K (.ref f_law_letters) = true)
    (a_law_row : PySem.W.nsIn K mainGlobals "_law_row" = some (some (.ref f_law_row)))
    (l_law_row : K.lookup f_law_row = some ⟨oc_law_row, od_law_row, .func (PySem.W.fnOf "_law_row" "_law_row" (defArgs s_law_row) (defBody s_law_row) (defScope s_law_row) .none kV_law_row dc_law_row pm_law_row an_law_row cd_law_row ct_law_row), sl_law_row⟩)
    (q_law_row : PySem.W.codeIn K cd_law_row "_law_row" = true)
    (k_law_row : PySem.W.keepIn K (.ref f_law_row) = true)
    (a_law_commas : PySem.W.nsIn K mainGlobals "_law_commas" = some (some (.ref f_law_commas)))
    (l_law_commas : K.lookup f_law_commas = some ⟨oc_law_commas, od_law_commas, .func (PySem.W.fnOf "_law_commas" "_law_commas" (defArgs s_law_commas) (defBody s_law_commas) (defScope s_law_commas) .none kV_law_commas dc_law_commas pm_law_commas an_law_commas cd_law_commas ct_law_commas), sl_law_commas⟩)
    (q_law_commas : PySem.W.codeIn K cd_law_commas "_law_commas" = true)
    (k_law_commas : PySem.W.keepIn K (.ref f_law_commas) = true)
    (a_law_line : PySem.W.nsIn K mainGlobals "_law_line" = some (some (.ref f_law_line)))
    (l_law_line : K.lookup f_law_line = some ⟨oc_law_line, od_law_line, .func (PySem.W.fnOf "_law_line" "_law_line" (defArgs s_law_line) (defBody s_law_line) (defScope s_law_line) .none kV_law_line dc_law_line pm_law_line an_law_line cd_law_line ct_law_line), sl_law_line⟩)
    (q_law_line : PySem.W.codeIn K cd_law_line "_law_line" = true)
    (k_law_line : PySem.W.keepIn K (.ref f_law_line) = true)
    (a_law : PySem.W.nsIn K mainGlobals "law" = some (some (.ref f_law)))
    (l_law : K.lookup f_law = some ⟨oc_law, od_law, .func (PySem.W.fnOf "law" "law" (defArgs s_law) (defBody s_law) (defScope s_law) .none kV_law dc_law pm_law an_law cd_law ct_law), sl_law⟩)
    (q_law : PySem.W.codeIn K cd_law "law" = true)
    (k_law : PySem.W.keepIn K (.ref f_law) = true)
    (pg_Font : PySem.W.plainGet K C_Font Str.empty = true)
    (hd_Font : PySem.W.hasDictIn K C_Font = true)
    (po_Font : PySem.W.plainOver K C_Font = true)
    (sa_Font : PySem.W.findIn K (.ref C_Font) "__setattr__" = some (some (.builtin "object.__setattr__")))
    (i1_Font : PySem.W.findIn K (.ref C_Font) "__class__" = some (some (.builtin "object.__class__")))
    (i4_Font : PySem.W.mroIn K C_Font (.type "object") = some true)
    (mk_Font : PySem.W.makesIn K C_Font = true)
    (kc_Font : PySem.W.keepIn K (.ref C_Font) = true)
    (rd_Font : PySem.W.readsIn K C_Font (.type "type") = true)
    (cg_Font : PySem.W.specialIn K (.ref C_Font) "__getattribute__" = some (some (.builtin "type.__getattribute__")))
    (cv_Font_MOST_ADVANCE : PySem.W.findCls K (.ref C_Font) (.type "type") "MOST_ADVANCE" = some (.val (.int 1000000 ut_Font_MOST_ADVANCE)))
    (cv_Font_MOST_LETTERS : PySem.W.findCls K (.ref C_Font) (.type "type") "MOST_LETTERS" = some (.val (.int 6 ut_Font_MOST_LETTERS)))
    (cv_Font_MOST_LIGATURES : PySem.W.findCls K (.ref C_Font) (.type "type") "MOST_LIGATURES" = some (.val (.int 40 ut_Font_MOST_LIGATURES)))
    (o2 : PySem.W.specialIn K (.builtin "object.__class__") "__get__" = some (some (.builtin "getset_descriptor.__get__")))
    (o3 : PySem.W.takesIn K (.builtin "object.__class__") = some true)
    (oq : PySem.W.nsIn K cStatics "thirdparty.any" = some none)
    (os : PySem.W.nsIn K mainGlobals "super" = some none)
    (a_InvalidGlyph : PySem.W.nsIn K mainGlobals "InvalidGlyph" = some (some (.ref C_InvalidGlyph)))
    (L_InvalidGlyph : K.lookup C_InvalidGlyph = some (excClassObj n1_InvalidGlyph q_InvalidGlyph C_InvalidGlyph N_InvalidGlyph bs_InvalidGlyph bm_InvalidGlyph true sn_InvalidGlyph su_InvalidGlyph ab_InvalidGlyph co_InvalidGlyph dd_InvalidGlyph m0_InvalidGlyph m1_InvalidGlyph m2_InvalidGlyph m3_InvalidGlyph m5_InvalidGlyph "ValueError.__new__"))
    (ve_InvalidGlyph : PySem.HandSPX.refsVE bm_InvalidGlyph = true)
    (al_InvalidGlyph : PySem.W.alongIn K "__init__" bm_InvalidGlyph = some (some (.builtin "ValueError.__init__")))
    (sa_InvalidGlyph : PySem.W.findIn K (.ref C_InvalidGlyph) "__setattr__" = some (some (.builtin "object.__setattr__")))
    (ga_InvalidGlyph : PySem.W.findIn K (.ref C_InvalidGlyph) "__getattribute__" = some (some (.builtin "BaseException.__getattribute__")))
    (gg_InvalidGlyph : PySem.W.findIn K (.ref C_InvalidGlyph) "__getattr__" = some none)
    (ii_InvalidGlyph : PySem.W.findIn K (.ref C_InvalidGlyph) "__init__" = some (some (.ref i_InvalidGlyph)))
    (ti_InvalidGlyph : PySem.W.typeIn K (.ref i_InvalidGlyph) = some (.type "function"))
    (kc_InvalidGlyph : PySem.W.keepIn K (.ref C_InvalidGlyph) = true)
    (be_InvalidGlyph : PySem.W.subIn K (.ref C_InvalidGlyph) (.type "BaseException") = some true)
    (ev_InvalidGlyph : PySem.W.subIn K (.ref C_InvalidGlyph) (.type "ValueError") = some true)
    (ty_InvalidGlyph : PySem.W.typeIn K (.ref C_InvalidGlyph) = some (.type "type"))
    (hd_InvalidGlyph : PySem.W.hasDictIn K C_InvalidGlyph = true)
    (me_InvalidGlyph : PySem.W.mroIn K C_InvalidGlyph (.ref C_InvalidGlyph) = some true)
    (l_InvalidGlyph : K.lookup i_InvalidGlyph = some ⟨ec_InvalidGlyph, ed_InvalidGlyph, .func (errFd "InvalidGlyph.__init__" (defArgs s_InvalidGlyph_init) (defBody s_InvalidGlyph_init) (defScope s_InvalidGlyph_init) c_InvalidGlyph ekV_InvalidGlyph edc_InvalidGlyph epm_InvalidGlyph ean_InvalidGlyph (.ref k_InvalidGlyph) ect_InvalidGlyph), esl_InvalidGlyph⟩)
    (q_InvalidGlyph : PySem.W.codeIn K (.ref k_InvalidGlyph) "InvalidGlyph.__init__" = true)
    (lk_InvalidGlyph : K.lookup k_InvalidGlyph = some ⟨ecl_InvalidGlyph, ecd_InvalidGlyph, .fields evs_InvalidGlyph, ecs_InvalidGlyph⟩)
    (fl_InvalidGlyph : evs_InvalidGlyph[2]? = some (.str efl_InvalidGlyph etf_InvalidGlyph))
    (fi_InvalidGlyph : ((PySem.Challenge.rw_fontgap_k19_width_table_columns.prog.main.file : Str) == efl_InvalidGlyph) = true)
    (lc_InvalidGlyph : K.lookup c_InvalidGlyph = some ⟨ecl2_InvalidGlyph, ecd2_InvalidGlyph, .cell (some (.ref C_InvalidGlyph)), ecs2_InvalidGlyph⟩)
    (i1_InvalidGlyph : PySem.W.findIn K (.ref C_InvalidGlyph) "__class__" = some (some (.builtin "object.__class__")))
    (i4_InvalidGlyph : PySem.W.mroIn K C_InvalidGlyph (.type "object") = some true)
    (x_InvalidGlyph_glyph : PySem.W.findIn K (.ref C_InvalidGlyph) "glyph" = some none)
    (a_InvalidNumber : PySem.W.nsIn K mainGlobals "InvalidNumber" = some (some (.ref C_InvalidNumber)))
    (L_InvalidNumber : K.lookup C_InvalidNumber = some (excClassObj n1_InvalidNumber q_InvalidNumber C_InvalidNumber N_InvalidNumber bs_InvalidNumber bm_InvalidNumber true sn_InvalidNumber su_InvalidNumber ab_InvalidNumber co_InvalidNumber dd_InvalidNumber m0_InvalidNumber m1_InvalidNumber m2_InvalidNumber m3_InvalidNumber m5_InvalidNumber "ValueError.__new__"))
    (ve_InvalidNumber : PySem.HandSPX.refsVE bm_InvalidNumber = true)
    (al_InvalidNumber : PySem.W.alongIn K "__init__" bm_InvalidNumber = some (some (.builtin "ValueError.__init__")))
    (sa_InvalidNumber : PySem.W.findIn K (.ref C_InvalidNumber) "__setattr__" = some (some (.builtin "object.__setattr__")))
    (ga_InvalidNumber : PySem.W.findIn K (.ref C_InvalidNumber) "__getattribute__" = some (some (.builtin "BaseException.__getattribute__")))
    (gg_InvalidNumber : PySem.W.findIn K (.ref C_InvalidNumber) "__getattr__" = some none)
    (ii_InvalidNumber : PySem.W.findIn K (.ref C_InvalidNumber) "__init__" = some (some (.ref i_InvalidNumber)))
    (ti_InvalidNumber : PySem.W.typeIn K (.ref i_InvalidNumber) = some (.type "function"))
    (kc_InvalidNumber : PySem.W.keepIn K (.ref C_InvalidNumber) = true)
    (be_InvalidNumber : PySem.W.subIn K (.ref C_InvalidNumber) (.type "BaseException") = some true)
    (ev_InvalidNumber : PySem.W.subIn K (.ref C_InvalidNumber) (.type "ValueError") = some true)
    (ty_InvalidNumber : PySem.W.typeIn K (.ref C_InvalidNumber) = some (.type "type"))
    (hd_InvalidNumber : PySem.W.hasDictIn K C_InvalidNumber = true)
    (me_InvalidNumber : PySem.W.mroIn K C_InvalidNumber (.ref C_InvalidNumber) = some true)
    (l_InvalidNumber : K.lookup i_InvalidNumber = some ⟨ec_InvalidNumber, ed_InvalidNumber, .func (errFd "InvalidNumber.__init__" (defArgs s_InvalidNumber_init) (defBody s_InvalidNumber_init) (defScope s_InvalidNumber_init) c_InvalidNumber ekV_InvalidNumber edc_InvalidNumber epm_InvalidNumber ean_InvalidNumber (.ref k_InvalidNumber) ect_InvalidNumber), esl_InvalidNumber⟩)
    (q_InvalidNumber : PySem.W.codeIn K (.ref k_InvalidNumber) "InvalidNumber.__init__" = true)
    (lk_InvalidNumber : K.lookup k_InvalidNumber = some ⟨ecl_InvalidNumber, ecd_InvalidNumber, .fields evs_InvalidNumber, ecs_InvalidNumber⟩)
    (fl_InvalidNumber : evs_InvalidNumber[2]? = some (.str efl_InvalidNumber etf_InvalidNumber))
    (fi_InvalidNumber : ((PySem.Challenge.rw_fontgap_k19_width_table_columns.prog.main.file : Str) == efl_InvalidNumber) = true)
    (lc_InvalidNumber : K.lookup c_InvalidNumber = some ⟨ecl2_InvalidNumber, ecd2_InvalidNumber, .cell (some (.ref C_InvalidNumber)), ecs2_InvalidNumber⟩)
    (i1_InvalidNumber : PySem.W.findIn K (.ref C_InvalidNumber) "__class__" = some (some (.builtin "object.__class__")))
    (i4_InvalidNumber : PySem.W.mroIn K C_InvalidNumber (.type "object") = some true)
    (x_InvalidNumber_value : PySem.W.findIn K (.ref C_InvalidNumber) "value" = some none)
    (a_UnknownGlyph : PySem.W.nsIn K mainGlobals "UnknownGlyph" = some (some (.ref C_UnknownGlyph)))
    (L_UnknownGlyph : K.lookup C_UnknownGlyph = some (excClassObj n1_UnknownGlyph q_UnknownGlyph C_UnknownGlyph N_UnknownGlyph bs_UnknownGlyph bm_UnknownGlyph true sn_UnknownGlyph su_UnknownGlyph ab_UnknownGlyph co_UnknownGlyph dd_UnknownGlyph m0_UnknownGlyph m1_UnknownGlyph m2_UnknownGlyph m3_UnknownGlyph m5_UnknownGlyph "ValueError.__new__"))
    (ve_UnknownGlyph : PySem.HandSPX.refsVE bm_UnknownGlyph = true)
    (al_UnknownGlyph : PySem.W.alongIn K "__init__" bm_UnknownGlyph = some (some (.builtin "ValueError.__init__")))
    (sa_UnknownGlyph : PySem.W.findIn K (.ref C_UnknownGlyph) "__setattr__" = some (some (.builtin "object.__setattr__")))
    (ga_UnknownGlyph : PySem.W.findIn K (.ref C_UnknownGlyph) "__getattribute__" = some (some (.builtin "BaseException.__getattribute__")))
    (gg_UnknownGlyph : PySem.W.findIn K (.ref C_UnknownGlyph) "__getattr__" = some none)
    (ii_UnknownGlyph : PySem.W.findIn K (.ref C_UnknownGlyph) "__init__" = some (some (.ref i_UnknownGlyph)))
    (ti_UnknownGlyph : PySem.W.typeIn K (.ref i_UnknownGlyph) = some (.type "function"))
    (kc_UnknownGlyph : PySem.W.keepIn K (.ref C_UnknownGlyph) = true)
    (be_UnknownGlyph : PySem.W.subIn K (.ref C_UnknownGlyph) (.type "BaseException") = some true)
    (ev_UnknownGlyph : PySem.W.subIn K (.ref C_UnknownGlyph) (.type "ValueError") = some true)
    (ty_UnknownGlyph : PySem.W.typeIn K (.ref C_UnknownGlyph) = some (.type "type"))
    (hd_UnknownGlyph : PySem.W.hasDictIn K C_UnknownGlyph = true)
    (me_UnknownGlyph : PySem.W.mroIn K C_UnknownGlyph (.ref C_UnknownGlyph) = some true)
    (l_UnknownGlyph : K.lookup i_UnknownGlyph = some ⟨ec_UnknownGlyph, ed_UnknownGlyph, .func (errFd "UnknownGlyph.__init__" (defArgs s_UnknownGlyph_init) (defBody s_UnknownGlyph_init) (defScope s_UnknownGlyph_init) c_UnknownGlyph ekV_UnknownGlyph edc_UnknownGlyph epm_UnknownGlyph ean_UnknownGlyph (.ref k_UnknownGlyph) ect_UnknownGlyph), esl_UnknownGlyph⟩)
    (q_UnknownGlyph : PySem.W.codeIn K (.ref k_UnknownGlyph) "UnknownGlyph.__init__" = true)
    (lk_UnknownGlyph : K.lookup k_UnknownGlyph = some ⟨ecl_UnknownGlyph, ecd_UnknownGlyph, .fields evs_UnknownGlyph, ecs_UnknownGlyph⟩)
    (fl_UnknownGlyph : evs_UnknownGlyph[2]? = some (.str efl_UnknownGlyph etf_UnknownGlyph))
    (fi_UnknownGlyph : ((PySem.Challenge.rw_fontgap_k19_width_table_columns.prog.main.file : Str) == efl_UnknownGlyph) = true)
    (lc_UnknownGlyph : K.lookup c_UnknownGlyph = some ⟨ecl2_UnknownGlyph, ecd2_UnknownGlyph, .cell (some (.ref C_UnknownGlyph)), ecs2_UnknownGlyph⟩)
    (i1_UnknownGlyph : PySem.W.findIn K (.ref C_UnknownGlyph) "__class__" = some (some (.builtin "object.__class__")))
    (i4_UnknownGlyph : PySem.W.mroIn K C_UnknownGlyph (.type "object") = some true)
    (x_UnknownGlyph_glyph : PySem.W.findIn K (.ref C_UnknownGlyph) "glyph" = some none)
    (a_TooMany : PySem.W.nsIn K mainGlobals "TooMany" = some (some (.ref C_TooMany)))
    (L_TooMany : K.lookup C_TooMany = some (excClassObj n1_TooMany q_TooMany C_TooMany N_TooMany bs_TooMany bm_TooMany true sn_TooMany su_TooMany ab_TooMany co_TooMany dd_TooMany m0_TooMany m1_TooMany m2_TooMany m3_TooMany m5_TooMany "ValueError.__new__"))
    (ve_TooMany : PySem.HandSPX.refsVE bm_TooMany = true)
    (al_TooMany : PySem.W.alongIn K "__init__" bm_TooMany = some (some (.builtin "ValueError.__init__")))
    (sa_TooMany : PySem.W.findIn K (.ref C_TooMany) "__setattr__" = some (some (.builtin "object.__setattr__")))
    (ga_TooMany : PySem.W.findIn K (.ref C_TooMany) "__getattribute__" = some (some (.builtin "BaseException.__getattribute__")))
    (gg_TooMany : PySem.W.findIn K (.ref C_TooMany) "__getattr__" = some none)
    (ii_TooMany : PySem.W.findIn K (.ref C_TooMany) "__init__" = some (some (.ref i_TooMany)))
    (ti_TooMany : PySem.W.typeIn K (.ref i_TooMany) = some (.type "function"))
    (kc_TooMany : PySem.W.keepIn K (.ref C_TooMany) = true)
    (be_TooMany : PySem.W.subIn K (.ref C_TooMany) (.type "BaseException") = some true)
    (ev_TooMany : PySem.W.subIn K (.ref C_TooMany) (.type "ValueError") = some true)
    (ty_TooMany : PySem.W.typeIn K (.ref C_TooMany) = some (.type "type"))
    (hd_TooMany : PySem.W.hasDictIn K C_TooMany = true)
    (me_TooMany : PySem.W.mroIn K C_TooMany (.ref C_TooMany) = some true)
    (l_TooMany : K.lookup i_TooMany = some ⟨ec_TooMany, ed_TooMany, .func (errFd "TooMany.__init__" (defArgs s_TooMany_init) (defBody s_TooMany_init) (defScope s_TooMany_init) c_TooMany ekV_TooMany edc_TooMany epm_TooMany ean_TooMany (.ref k_TooMany) ect_TooMany), esl_TooMany⟩)
    (q_TooMany : PySem.W.codeIn K (.ref k_TooMany) "TooMany.__init__" = true)
    (lk_TooMany : K.lookup k_TooMany = some ⟨ecl_TooMany, ecd_TooMany, .fields evs_TooMany, ecs_TooMany⟩)
    (fl_TooMany : evs_TooMany[2]? = some (.str efl_TooMany etf_TooMany))
    (fi_TooMany : ((PySem.Challenge.rw_fontgap_k19_width_table_columns.prog.main.file : Str) == efl_TooMany) = true)
    (lc_TooMany : K.lookup c_TooMany = some ⟨ecl2_TooMany, ecd2_TooMany, .cell (some (.ref C_TooMany)), ecs2_TooMany⟩)
    (i1_TooMany : PySem.W.findIn K (.ref C_TooMany) "__class__" = some (some (.builtin "object.__class__")))
    (i4_TooMany : PySem.W.mroIn K C_TooMany (.type "object") = some true)
    (x_TooMany_limit : PySem.W.findIn K (.ref C_TooMany) "limit" = some none)
    (n_bool : PySem.W.nsIn K mainGlobals "bool" = some none)
    (n_dict : PySem.W.nsIn K mainGlobals "dict" = some none)
    (n_int : PySem.W.nsIn K mainGlobals "int" = some none)
    (n_isinstance : PySem.W.nsIn K mainGlobals "isinstance" = some none)
    (n_len : PySem.W.nsIn K mainGlobals "len" = some none)
    (n_list : PySem.W.nsIn K mainGlobals "list" = some none)
    (n_range : PySem.W.nsIn K mainGlobals "range" = some none)
    (n_sorted : PySem.W.nsIn K mainGlobals "sorted" = some none)
    (n_str : PySem.W.nsIn K mainGlobals "str" = some none)
    (na_Font_rows : NoAttr K C_Font "rows")
    (na_Font_pairs : NoAttr K C_Font "pairs")
    (na_Font_space : NoAttr K C_Font "space")
    (na_Font_past : NoAttr K C_Font "past")
    : LamX.LawAtS PySem.Challenge.rw_fontgap_k19_width_table_columns w K CX0 9 63 "_law_script" mg fa h := by
  have e := hfa.symm.trans (PySem.W.mg_of X G a_law)
  cases e
  have HF_Font_init : FunD K "__init__" "Font.__init__" (defArgs s_Font_init) (defBody s_Font_init) (defScope s_Font_init) [V.non] [("blank", V.int 250)] f_Font_init (PySem.W.fnOf "__init__" "Font.__init__" (defArgs s_Font_init) (defBody s_Font_init) (defScope s_Font_init) (.ref tp_Font_init) (.ref kd_Font_init) dc_Font_init pm_Font_init an_Font_init cd_Font_init ct_Font_init) := ⟨⟨_, _, _, _, _, _, _, _, _, _, rfl, l_Font_init, q_Font_init, .inr ⟨by simp, _, _, _, _, rfl, t_Font_init, rfl, (.cons rfl .nil)⟩, .inr ⟨_, rfl, fun q hq => by rw [List.mem_singleton.mp hq]; exact ⟨_, kw0_Font_init, ⟨_, rfl⟩⟩⟩⟩, k_Font_init⟩
  obtain ⟨v1_Font_init, V1_Font_init, B1_Font_init⟩ := FunD.binds (ps := (["self", "advances", "kerns", "blank"] : List Str)) HF_Font_init 2 0 (by simp) (by decide) (fun T D doc pm an cdv ct us its ks h1 h2 h3 => match us, its, ks, h1, h2, h3 with | [_, _], [_], [_], _, _, _ => ⟨_, rfl, _, _, _, _, _, _, rfl, rfl, rfl⟩) (by simp)
  have T : ∀ base, (∀ p ∈ ([(c_font_order, P_font_order)] : List (Addr × Addr)), LamX.TabB base mg p.1 p.2) → Txt PySem.Challenge.rw_fontgap_k19_width_table_columns.prog K mg base { f_is_integer := f_is_integer, d_is_integer := PySem.W.fnOf "is_integer" "is_integer" (defArgs s_is_integer) (defBody s_is_integer) (defScope s_is_integer) .none kV_is_integer dc_is_integer pm_is_integer an_is_integer cd_is_integer ct_is_integer, f_is_between := f_is_between, d_is_between := PySem.W.fnOf "is_between" "is_between" (defArgs s_is_between) (defBody s_is_between) (defScope s_is_between) .none kV_is_between dc_is_between pm_is_between an_is_between cd_is_between ct_is_between, f_check_between := f_check_between, d_check_between := PySem.W.fnOf "check_between" "check_between" (defArgs s_check_between) (defBody s_check_between) (defScope s_check_between) .none kV_check_between dc_check_between pm_check_between an_check_between cd_check_between ct_check_between, c_font_order := c_font_order, P_font_order := P_font_order, f_font_order := f_font_order, d_font_order := PySem.W.fnOf "font_order" "font_order" (defArgs s_font_order) (defBody s_font_order) (defScope s_font_order) .none kV_font_order dc_font_order pm_font_order an_font_order (.ref c_font_order) ct_font_order, f_is_name := f_is_name, d_is_name := PySem.W.fnOf "is_name" "is_name" (defArgs s_is_name) (defBody s_is_name) (defScope s_is_name) .none kV_is_name dc_is_name pm_is_name an_is_name cd_is_name ct_is_name, f_Font_known := f_Font_known, d_Font_known := PySem.W.fnOf "known" "Font.known" (defArgs s_Font_known) (defBody s_Font_known) (defScope s_Font_known) .none kV_Font_known dc_Font_known pm_Font_known an_Font_known cd_Font_known ct_Font_known, p_Font_ligatures := p_Font_ligatures, f_Font_ligatures := f_Font_ligatures, d_Font_ligatures := PySem.W.fnOf "ligatures" "Font.ligatures" (defArgs s_Font_ligatures) (defBody s_Font_ligatures) (defScope s_Font_ligatures) .none kV_Font_ligatures dc_Font_ligatures pm_Font_ligatures an_Font_ligatures cd_Font_ligatures ct_Font_ligatures, f_Font_glyphs := f_Font_glyphs, d_Font_glyphs := PySem.W.fnOf "glyphs" "Font.glyphs" (defArgs s_Font_glyphs) (defBody s_Font_glyphs) (defScope s_Font_glyphs) .none kV_Font_glyphs dc_Font_glyphs pm_Font_glyphs an_Font_glyphs cd_Font_glyphs ct_Font_glyphs, f_Font_advance_of := f_Font_advance_of, d_Font_advance_of := PySem.W.fnOf "advance_of" "Font.advance_of" (defArgs s_Font_advance_of) (defBody s_Font_advance_of) (defScope s_Font_advance_of) .none kV_Font_advance_of dc_Font_advance_of pm_Font_advance_of an_Font_advance_of cd_Font_advance_of ct_Font_advance_of, f_Font_put_blank := f_Font_put_blank, d_Font_put_blank := PySem.W.fnOf "put_blank" "Font.put_blank" (defArgs s_Font_put_blank) (defBody s_Font_put_blank) (defScope s_Font_put_blank) .none kV_Font_put_blank dc_Font_put_blank pm_Font_put_blank an_Font_put_blank cd_Font_put_blank ct_Font_put_blank, f_Font_put_advance := f_Font_put_advance, d_Font_put_advance := PySem.W.fnOf "put_advance" "Font.put_advance" (defArgs s_Font_put_advance) (defBody s_Font_put_advance) (defScope s_Font_put_advance) .none kV_Font_put_advance dc_Font_put_advance pm_Font_put_advance an_Font_put_advance cd_Font_put_advance ct_Font_put_advance, f_Font_init := f_Font_init, d_Font_init := PySem.W.fnOf "__init__" "Font.__init__" (defArgs s_Font_init) (defBody s_Font_init) (defScope s_Font_init) (.ref tp_Font_init) (.ref kd_Font_init) dc_Font_init pm_Font_init an_Font_init cd_Font_init ct_Font_init, v1_Font_init := v1_Font_init, f_width_table := f_width_table, d_width_table := PySem.W.fnOf "width_table" "width_table" (defArgs s_width_table) (defBody s_width_table) (defScope s_width_table) .none kV_width_table dc_width_table pm_width_table an_width_table cd_width_table ct_width_table, f_law_bag := f_law_bag, d_law_bag := PySem.W.fnOf "_law_bag" "_law_bag" (defArgs s_law_bag) (defBody s_law_bag) (defScope s_law_bag) .none kV_law_bag dc_law_bag pm_law_bag an_law_bag cd_law_bag ct_law_bag, f_law_take := f_law_take, d_law_take := PySem.W.fnOf "_law_take" "_law_take" (defArgs s_law_take) (defBody s_law_take) (defScope s_law_take) .none kV_law_take dc_law_take pm_law_take an_law_take cd_law_take ct_law_take, f_law_letters := f_law_letters, d_law_letters := PySem.W.fnOf "_law_letters" "_law_letters" (defArgs s_law_letters) (defBody s_law_letters) (defScope s_law_letters) .none kV_law_letters dc_law_letters pm_law_letters an_law_letters cd_law_letters ct_law_letters, f_law_row := f_law_row, d_law_row := PySem.W.fnOf "_law_row" "_law_row" (defArgs s_law_row) (defBody s_law_row) (defScope s_law_row) .none kV_law_row dc_law_row pm_law_row an_law_row cd_law_row ct_law_row, f_law_commas := f_law_commas, d_law_commas := PySem.W.fnOf "_law_commas" "_law_commas" (defArgs s_law_commas) (defBody s_law_commas) (defScope s_law_commas) .none kV_law_commas dc_law_commas pm_law_commas an_law_commas cd_law_commas ct_law_commas, f_law_line := f_law_line, d_law_line := PySem.W.fnOf "_law_line" "_law_line" (defArgs s_law_line) (defBody s_law_line) (defScope s_law_line) .none kV_law_line dc_law_line pm_law_line an_law_line cd_law_line ct_law_line, f_law := fa, d_law := PySem.W.fnOf "law" "law" (defArgs s_law) (defBody s_law) (defScope s_law) .none kV_law dc_law pm_law an_law cd_law ct_law, C_Font := C_Font, C_InvalidGlyph := C_InvalidGlyph, i_InvalidGlyph := i_InvalidGlyph, c_InvalidGlyph := c_InvalidGlyph, k_InvalidGlyph := k_InvalidGlyph, C_InvalidNumber := C_InvalidNumber, i_InvalidNumber := i_InvalidNumber, c_InvalidNumber := c_InvalidNumber, k_InvalidNumber := k_InvalidNumber, C_UnknownGlyph := C_UnknownGlyph, i_UnknownGlyph := i_UnknownGlyph, c_UnknownGlyph := c_UnknownGlyph, k_UnknownGlyph := k_UnknownGlyph, C_TooMany := C_TooMany, i_TooMany := i_TooMany, c_TooMany := c_TooMany, k_TooMany := k_TooMany } := fun base TB =>
    { F_is_integer := fun_mk (st := s_is_integer) l_is_integer q_is_integer k_is_integer,
      B_is_integer := (fun_mk (st := s_is_integer) l_is_integer q_is_integer k_is_integer).binds (fun _ _ _ _ _ _ us hl => match us, hl with | [_], _ => rfl),
      g_is_integer := PySem.W.mg_of X G a_is_integer,
      k_is_integer := k_is_integer,
      F_is_between := fun_mk (st := s_is_between) l_is_between q_is_between k_is_between,
      B_is_between := (fun_mk (st := s_is_between) l_is_between q_is_between k_is_between).binds (fun _ _ _ _ _ _ us hl => match us, hl with | [_, _, _], _ => rfl),
      g_is_between := PySem.W.mg_of X G a_is_between,
      k_is_between := k_is_between,
      F_check_between := fun_mk (st := s_check_between) l_check_between q_check_between k_check_between,
      B_check_between := (fun_mk (st := s_check_between) l_check_between q_check_between k_check_between).binds (fun _ _ _ _ _ _ us hl => match us, hl with | [_, _, _], _ => rfl),
      g_check_between := PySem.W.mg_of X G a_check_between,
      k_check_between := k_check_between,
      F_font_order := ⟨_, _, _, _, _, _, _, _, rfl, l_font_order, q_font_order⟩,
      TB_font_order := TB (c_font_order, P_font_order) (by simp),
      B_font_order := (fun_mk (st := s_font_order) l_font_order q_font_order k_font_order).binds (fun _ _ _ _ _ _ us hl => match us, hl with | [_], _ => rfl),
      g_font_order := PySem.W.mg_of X G a_font_order,
      k_font_order := k_font_order,
      F_is_name := fun_mk (st := s_is_name) l_is_name q_is_name k_is_name,
      B_is_name := (fun_mk (st := s_is_name) l_is_name q_is_name k_is_name).binds (fun _ _ _ _ _ _ us hl => match us, hl with | [_], _ => rfl),
      g_is_name := PySem.W.mg_of X G a_is_name,
      k_is_name := k_is_name,
      F_Font_known := fun_mk (st := s_Font_known) l_Font_known q_Font_known k_Font_known,
      B_Font_known := (fun_mk (st := s_Font_known) l_Font_known q_Font_known k_Font_known).binds (fun _ _ _ _ _ _ us hl => match us, hl with | [_, _], _ => rfl),
      M_Font_known := ⟨a_Font_known, i_Font_known, k_Font_known⟩,
      F_Font_ligatures := fun_mk (st := s_Font_ligatures) l_Font_ligatures q_Font_ligatures k_Font_ligatures,
      B_Font_ligatures := (fun_mk (st := s_Font_ligatures) l_Font_ligatures q_Font_ligatures k_Font_ligatures).binds (fun _ _ _ _ _ _ us hl => match us, hl with | [_], _ => rfl),
      P_Font_ligatures := ⟨a_Font_ligatures, pg_Font_ligatures, pt_Font_ligatures, _, pr0_Font_ligatures⟩,
      F_Font_glyphs := fun_mk (st := s_Font_glyphs) l_Font_glyphs q_Font_glyphs k_Font_glyphs,
      B_Font_glyphs := (fun_mk (st := s_Font_glyphs) l_Font_glyphs q_Font_glyphs k_Font_glyphs).binds (fun _ _ _ _ _ _ us hl => match us, hl with | [_], _ => rfl),
      M_Font_glyphs := ⟨a_Font_glyphs, i_Font_glyphs, k_Font_glyphs⟩,
      F_Font_advance_of := fun_mk (st := s_Font_advance_of) l_Font_advance_of q_Font_advance_of k_Font_advance_of,
      B_Font_advance_of := (fun_mk (st := s_Font_advance_of) l_Font_advance_of q_Font_advance_of k_Font_advance_of).binds (fun _ _ _ _ _ _ us hl => match us, hl with | [_, _], _ => rfl),
      M_Font_advance_of := ⟨a_Font_advance_of, i_Font_advance_of, k_Font_advance_of⟩,
      F_Font_put_blank := fun_mk (st := s_Font_put_blank) l_Font_put_blank q_Font_put_blank k_Font_put_blank,
      B_Font_put_blank := (fun_mk (st := s_Font_put_blank) l_Font_put_blank q_Font_put_blank k_Font_put_blank).binds (fun _ _ _ _ _ _ us hl => match us, hl with | [_, _], _ => rfl),
      M_Font_put_blank := ⟨a_Font_put_blank, i_Font_put_blank, k_Font_put_blank⟩,
      F_Font_put_advance := fun_mk (st := s_Font_put_advance) l_Font_put_advance q_Font_put_advance k_Font_put_advance,
      B_Font_put_advance := (fun_mk (st := s_Font_put_advance) l_Font_put_advance q_Font_put_advance k_Font_put_advance).binds (fun _ _ _ _ _ _ us hl => match us, hl with | [_, _, _], _ => rfl),
      M_Font_put_advance := ⟨a_Font_put_advance, i_Font_put_advance, k_Font_put_advance⟩,
      F_Font_init := HF_Font_init,
      B1_Font_init := B1_Font_init,
      V1_Font_init := V1_Font_init,
      F_width_table := fun_mk (st := s_width_table) l_width_table q_width_table k_width_table,
      B_width_table := (fun_mk (st := s_width_table) l_width_table q_width_table k_width_table).binds (fun _ _ _ _ _ _ us hl => match us, hl with | [_], _ => rfl),
      g_width_table := PySem.W.mg_of X G a_width_table,
      k_width_table := k_width_table,
      F_law_bag := fun_mk (st := s_law_bag) l_law_bag q_law_bag k_law_bag,
      B_law_bag := (fun_mk (st := s_law_bag) l_law_bag q_law_bag k_law_bag).binds (fun _ _ _ _ _ _ us hl => match us, hl with | [_], _ => rfl),
      g_law_bag := PySem.W.mg_of X G a_law_bag,
      k_law_bag := k_law_bag,
      F_law_take := fun_mk (st := s_law_take) l_law_take q_law_take k_law_take,
      B_law_take := (fun_mk (st := s_law_take) l_law_take q_law_take k_law_take).binds (fun _ _ _ _ _ _ us hl => match us, hl with | [_, _], _ => rfl),
      g_law_take := PySem.W.mg_of X G a_law_take,
      k_law_take := k_law_take,
      F_law_letters := fun_mk (st := s_law_letters) l_law_letters q_law_letters k_law_letters,
      B_law_letters := (fun_mk (st := s_law_letters) l_law_letters q_law_letters k_law_letters).binds (fun _ _ _ _ _ _ us hl => match us, hl with | [_, _], _ => rfl),
      g_law_letters := PySem.W.mg_of X G a_law_letters,
      k_law_letters := k_law_letters,
      F_law_row := fun_mk (st := s_law_row) l_law_row q_law_row k_law_row,
      B_law_row := (fun_mk (st := s_law_row) l_law_row q_law_row k_law_row).binds (fun _ _ _ _ _ _ us hl => match us, hl with | [_, _, _], _ => rfl),
      g_law_row := PySem.W.mg_of X G a_law_row,
      k_law_row := k_law_row,
      F_law_commas := fun_mk (st := s_law_commas) l_law_commas q_law_commas k_law_commas,
      B_law_commas := (fun_mk (st := s_law_commas) l_law_commas q_law_commas k_law_commas).binds (fun _ _ _ _ _ _ us hl => match us, hl with | [_], _ => rfl),
      g_law_commas := PySem.W.mg_of X G a_law_commas,
      k_law_commas := k_law_commas,
      F_law_line := fun_mk (st := s_law_line) l_law_line q_law_line k_law_line,
      B_law_line := (fun_mk (st := s_law_line) l_law_line q_law_line k_law_line).binds (fun _ _ _ _ _ _ us hl => match us, hl with | [_, _], _ => rfl),
      g_law_line := PySem.W.mg_of X G a_law_line,
      k_law_line := k_law_line,
      F_law := fun_mk (st := s_law) l_law q_law k_law,
      B_law := (fun_mk (st := s_law) l_law q_law k_law).binds (fun _ _ _ _ _ _ us hl => match us, hl with | [_], _ => rfl),
      g_law := PySem.W.mg_of X G a_law,
      k_law := k_law,
      cr_Font := ⟨rd_Font, cg_Font⟩,
      cv_Font_MOST_ADVANCE := ⟨_, cv_Font_MOST_ADVANCE, ⟨_, rfl⟩⟩,
      cv_Font_MOST_LETTERS := ⟨_, cv_Font_MOST_LETTERS, ⟨_, rfl⟩⟩,
      cv_Font_MOST_LIGATURES := ⟨_, cv_Font_MOST_LIGATURES, ⟨_, rfl⟩⟩,
      g_Font := PySem.W.mg_of X G a_Font,
      c_Font := ⟨pg_Font, hd_Font, po_Font, sa_Font⟩,
      I_Font := ⟨i1_Font, o2, o3, i4_Font⟩,
      M_Font := ⟨mk_Font, a_Font_init, i_Font_init, kc_Font⟩,
      E_InvalidGlyph := { gC := PySem.W.mg_of X G a_InvalidGlyph, cls := ⟨_, _, _, _, _, _, _, _, _, _, _, _, _, _, _, L_InvalidGlyph, ve_InvalidGlyph, al_InvalidGlyph⟩, sa := sa_InvalidGlyph, ga := ga_InvalidGlyph, gg := gg_InvalidGlyph, iC := ii_InvalidGlyph, tC := ti_InvalidGlyph, kC := kc_InvalidGlyph, exC := be_InvalidGlyph, veC := ev_InvalidGlyph, tyC := ty_InvalidGlyph, hdC := hd_InvalidGlyph, meC := me_InvalidGlyph, fn := ⟨_, _, _, _, _, _, _, _, l_InvalidGlyph, q_InvalidGlyph⟩, code := ⟨_, _, _, _, _, _, lk_InvalidGlyph, fl_InvalidGlyph, fi_InvalidGlyph⟩, cell := ⟨_, _, _, lc_InvalidGlyph⟩, opq := oq, sup := PySem.W.mg_none_of X G os, top := by rfl },
      Y_InvalidGlyph := y_InvalidGlyph,
      X_InvalidGlyph := ⟨ga_InvalidGlyph, gg_InvalidGlyph, be_InvalidGlyph, hd_InvalidGlyph, i1_InvalidGlyph, o2, o3, i4_InvalidGlyph⟩,
      x_InvalidGlyph_glyph := x_InvalidGlyph_glyph,
      E_InvalidNumber := { gC := PySem.W.mg_of X G a_InvalidNumber, cls := ⟨_, _, _, _, _, _, _, _, _, _, _, _, _, _, _, L_InvalidNumber, ve_InvalidNumber, al_InvalidNumber⟩, sa := sa_InvalidNumber, ga := ga_InvalidNumber, gg := gg_InvalidNumber, iC := ii_InvalidNumber, tC := ti_InvalidNumber, kC := kc_InvalidNumber, exC := be_InvalidNumber, veC := ev_InvalidNumber, tyC := ty_InvalidNumber, hdC := hd_InvalidNumber, meC := me_InvalidNumber, fn := ⟨_, _, _, _, _, _, _, _, l_InvalidNumber, q_InvalidNumber⟩, code := ⟨_, _, _, _, _, _, lk_InvalidNumber, fl_InvalidNumber, fi_InvalidNumber⟩, cell := ⟨_, _, _, lc_InvalidNumber⟩, opq := oq, sup := PySem.W.mg_none_of X G os, top := by rfl },
      Y_InvalidNumber := y_InvalidNumber,
      X_InvalidNumber := ⟨ga_InvalidNumber, gg_InvalidNumber, be_InvalidNumber, hd_InvalidNumber, i1_InvalidNumber, o2, o3, i4_InvalidNumber⟩,
      x_InvalidNumber_value := x_InvalidNumber_value,
      E_UnknownGlyph := { gC := PySem.W.mg_of X G a_UnknownGlyph, cls := ⟨_, _, _, _, _, _, _, _, _, _, _, _, _, _, _, L_UnknownGlyph, ve_UnknownGlyph, al_UnknownGlyph⟩, sa := sa_UnknownGlyph, ga := ga_UnknownGlyph, gg := gg_UnknownGlyph, iC := ii_UnknownGlyph, tC := ti_UnknownGlyph, kC := kc_UnknownGlyph, exC := be_UnknownGlyph, veC := ev_UnknownGlyph, tyC := ty_UnknownGlyph, hdC := hd_UnknownGlyph, meC := me_UnknownGlyph, fn := ⟨_, _, _, _, _, _, _, _, l_UnknownGlyph, q_UnknownGlyph⟩, code := ⟨_, _, _, _, _, _, lk_UnknownGlyph, fl_UnknownGlyph, fi_UnknownGlyph⟩, cell := ⟨_, _, _, lc_UnknownGlyph⟩, opq := oq, sup := PySem.W.mg_none_of X G os, top := by rfl },
      Y_UnknownGlyph := y_UnknownGlyph,
      X_UnknownGlyph := ⟨ga_UnknownGlyph, gg_UnknownGlyph, be_UnknownGlyph, hd_UnknownGlyph, i1_UnknownGlyph, o2, o3, i4_UnknownGlyph⟩,
      x_UnknownGlyph_glyph := x_UnknownGlyph_glyph,
      E_TooMany := { gC := PySem.W.mg_of X G a_TooMany, cls := ⟨_, _, _, _, _, _, _, _, _, _, _, _, _, _, _, L_TooMany, ve_TooMany, al_TooMany⟩, sa := sa_TooMany, ga := ga_TooMany, gg := gg_TooMany, iC := ii_TooMany, tC := ti_TooMany, kC := kc_TooMany, exC := be_TooMany, veC := ev_TooMany, tyC := ty_TooMany, hdC := hd_TooMany, meC := me_TooMany, fn := ⟨_, _, _, _, _, _, _, _, l_TooMany, q_TooMany⟩, code := ⟨_, _, _, _, _, _, lk_TooMany, fl_TooMany, fi_TooMany⟩, cell := ⟨_, _, _, lc_TooMany⟩, opq := oq, sup := PySem.W.mg_none_of X G os, top := by rfl },
      Y_TooMany := y_TooMany,
      X_TooMany := ⟨ga_TooMany, gg_TooMany, be_TooMany, hd_TooMany, i1_TooMany, o2, o3, i4_TooMany⟩,
      x_TooMany_limit := x_TooMany_limit,
      n_bool := PySem.W.mg_none_of X G n_bool,
      n_dict := PySem.W.mg_none_of X G n_dict,
      n_int := PySem.W.mg_none_of X G n_int,
      n_isinstance := PySem.W.mg_none_of X G n_isinstance,
      n_len := PySem.W.mg_none_of X G n_len,
      n_list := PySem.W.mg_none_of X G n_list,
      n_range := PySem.W.mg_none_of X G n_range,
      n_sorted := PySem.W.mg_none_of X G n_sorted,
      n_str := PySem.W.mg_none_of X G n_str,
      na_Font_rows := na_Font_rows,
      na_Font_pairs := na_Font_pairs,
      na_Font_space := na_Font_space,
      na_Font_past := na_Font_past }
  exact ⟨_, [(c_font_order, P_font_order)], _, fun p hp => by rw [List.mem_singleton.mp hp]; exact lt_font_order, fun p hp => by rw [List.mem_singleton.mp hp]; exact ln_font_order, fun p hp => by rw [List.mem_singleton.mp hp]; exact PySem.W.codeHd_of_K X lh_font_order, fun s v => .of_eq rfl, fun H z ns h1 _ h3 h4 => sp_law_start h4 h1 (h3 (c_font_order, P_font_order) (List.mem_singleton.mpr rfl)), fun base _ _ TB => ok_law (T base TB)⟩
end FG
open PySem PySem.W PyProof.Rows
set_option maxRecDepth 100000 in
set_option maxHeartbeats 0 in
theorem PySem.Challenge.cw_fontgap_k19_width_table_columns_holds : PySem.Challenge.rw_fontgap_k19_width_table_columns.Holds := by
  w_on; o_law; k_head; (case hw => w_witness2)
  k_fill
  refine LamX.walk_ofTs (CX := fun _ => L2.CX0) (k := 9) (x := "_law_script") rfl (by decide) rfl ⟨rfl, by decide, by decide⟩ (fun w h Y => PySem.W.km_in_of Y) ?F (fun _ _ _ _ _ z => z)
  case F =>
    intro w mg fa h Y KX G hmg
    have hT8 := PySem.W.km_tabs_of Y
    refine' FG.all_mk KX G hmg ?a_Font ?a_is_integer ?l_is_integer ?q_is_integer ?k_is_integer ?a_is_between ?l_is_between ?q_is_between ?k_is_between ?a_check_between ?l_check_between ?q_check_between ?k_check_between ?a_font_order ?l_font_order ?q_font_order ?lk_font_order ?lp_font_order ?lh_font_order ?ln_font_order ?lt_font_order ?k_font_order ?a_is_name ?l_is_name ?q_is_name ?k_is_name ?a_Font_known ?i_Font_known ?l_Font_known ?q_Font_known ?k_Font_known ?a_Font_ligatures ?pg_Font_ligatures ?pt_Font_ligatures ?pr0_Font_ligatures ?l_Font_ligatures ?q_Font_ligatures ?k_Font_ligatures ?a_Font_glyphs ?i_Font_glyphs ?l_Font_glyphs ?q_Font_glyphs ?k_Font_glyphs ?a_Font_advance_of ?i_Font_advance_of ?l_Font_advance_of ?q_Font_advance_of ?k_Font_advance_of ?a_Font_put_blank ?i_Font_put_blank ?l_Font_put_blank ?q_Font_put_blank ?k_Font_put_blank ?a_Font_put_advance ?i_Font_put_advance ?l_Font_put_advance ?q_Font_put_advance ?k_Font_put_advance ?a_Font_init ?i_Font_init ?l_Font_init ?q_Font_init ?k_Font_init ?t_Font_init ?kw0_Font_init ?a_width_table ?l_width_table ?q_width_table ?k_width_table ?a_law_bag ?l_law_bag ?q_law_bag ?k_law_bag ?a_law_take ?l_law_take ?q_law_take ?k_law_take ?a_law_letters ?l_law_letters ?q_law_letters ?k_law_letters ?a_law_row ?l_law_row ?q_law_row ?k_law_row ?a_law_commas ?l_law_commas ?q_law_commas ?k_law_commas ?a_law_line ?l_law_line ?q_law_line ?k_law_line ?a_law ?l_law ?q_law ?k_law ?pg_Font ?hd_Font ?po_Font ?sa_Font ?i1_Font ?i4_Font ?mk_Font ?kc_Font ?rd_Font ?cg_Font ?cv_Font_MOST_ADVANCE ?cv_Font_MOST_LETTERS ?cv_Font_MOST_LIGATURES ?o2 ?o3 ?oq ?os ?a_InvalidGlyph ?L_InvalidGlyph ?ve_InvalidGlyph ?al_InvalidGlyph ?sa_InvalidGlyph ?ga_InvalidGlyph ?gg_InvalidGlyph ?ii_InvalidGlyph ?ti_InvalidGlyph ?kc_InvalidGlyph ?be_InvalidGlyph ?ev_InvalidGlyph ?ty_InvalidGlyph ?hd_InvalidGlyph ?me_InvalidGlyph ?l_InvalidGlyph ?q_InvalidGlyph ?lk_InvalidGlyph ?fl_InvalidGlyph ?fi_InvalidGlyph ?lc_InvalidGlyph ?i1_InvalidGlyph ?i4_InvalidGlyph ?x_InvalidGlyph_glyph ?a_InvalidNumber ?L_InvalidNumber ?ve_InvalidNumber ?al_InvalidNumber ?sa_InvalidNumber ?ga_InvalidNumber ?gg_InvalidNumber ?ii_InvalidNumber ?ti_InvalidNumber ?kc_InvalidNumber ?be_InvalidNumber ?ev_InvalidNumber ?ty_InvalidNumber ?hd_InvalidNumber ?me_InvalidNumber ?l_InvalidNumber ?q_InvalidNumber ?lk_InvalidNumber ?fl_InvalidNumber ?fi_InvalidNumber ?lc_InvalidNumber ?i1_InvalidNumber ?i4_InvalidNumber ?x_InvalidNumber_value ?a_UnknownGlyph ?L_UnknownGlyph ?ve_UnknownGlyph ?al_UnknownGlyph ?sa_UnknownGlyph ?ga_UnknownGlyph ?gg_UnknownGlyph ?ii_UnknownGlyph ?ti_UnknownGlyph ?kc_UnknownGlyph ?be_UnknownGlyph ?ev_UnknownGlyph ?ty_UnknownGlyph ?hd_UnknownGlyph ?me_UnknownGlyph ?l_UnknownGlyph ?q_UnknownGlyph ?lk_UnknownGlyph ?fl_UnknownGlyph ?fi_UnknownGlyph ?lc_UnknownGlyph ?i1_UnknownGlyph ?i4_UnknownGlyph ?x_UnknownGlyph_glyph ?a_TooMany ?L_TooMany ?ve_TooMany ?al_TooMany ?sa_TooMany ?ga_TooMany ?gg_TooMany ?ii_TooMany ?ti_TooMany ?kc_TooMany ?be_TooMany ?ev_TooMany ?ty_TooMany ?hd_TooMany ?me_TooMany ?l_TooMany ?q_TooMany ?lk_TooMany ?fl_TooMany ?fi_TooMany ?lc_TooMany ?i1_TooMany ?i4_TooMany ?x_TooMany_limit ?n_bool ?n_dict ?n_int ?n_isinstance ?n_len ?n_list ?n_range ?n_sorted ?n_str ?na_Font_rows ?na_Font_pairs ?na_Font_space ?na_Font_past
    (case a_Font => first | k_is | rfl)
    (case a_is_integer => first | k_is | rfl)
    (case l_is_integer => first | k_is | rfl)
    (case q_is_integer => first | k_is | rfl)
    (case k_is_integer => first | k_is | rfl)
    (case a_is_between => first | k_is | rfl)
    (case l_is_between => first | k_is | rfl)
    (case q_is_between => first | k_is | rfl)
    (case k_is_between => first | k_is | rfl)
    (case a_check_between => first | k_is | rfl)
    (case l_check_between => first | k_is | rfl)
    (case q_check_between => first | k_is | rfl)
    (case k_check_between => first | k_is | rfl)
    (case a_font_order => first | k_is | rfl)
    (case l_font_order => first | k_is | rfl)
    (case q_font_order => first | k_is | rfl)
    (case lk_font_order => first | k_is | rfl)
    (case lp_font_order => rfl)
    (case lh_font_order => first | k_is | rfl | kernel_rfl | decide +kernel)
    (case ln_font_order => first | k_is | rfl | kernel_rfl | decide +kernel)
    (case lt_font_order => exact hT8 _ (by simp))
    (case k_font_order => first | k_is | rfl)
    (case a_is_name => first | k_is | rfl)
    (case l_is_name => first | k_is | rfl)
    (case q_is_name => first | k_is | rfl)
    (case k_is_name => first | k_is | rfl)
    (case a_Font_known => first | k_is | rfl)
    (case i_Font_known => first | k_is | rfl)
    (case l_Font_known => first | k_is | rfl)
    (case q_Font_known => first | k_is | rfl)
    (case k_Font_known => first | k_is | rfl)
    (case a_Font_ligatures => first | k_is | rfl)
    (case pg_Font_ligatures => first | k_is | rfl)
    (case pt_Font_ligatures => first | k_is | rfl)
    (case pr0_Font_ligatures => first | k_is | rfl)
    (case l_Font_ligatures => first | k_is | rfl)
    (case q_Font_ligatures => first | k_is | rfl)
    (case k_Font_ligatures => first | k_is | rfl)
    (case a_Font_glyphs => first | k_is | rfl)
    (case i_Font_glyphs => first | k_is | rfl)
    (case l_Font_glyphs => first | k_is | rfl)
    (case q_Font_glyphs => first | k_is | rfl)
    (case k_Font_glyphs => first | k_is | rfl)
    (case a_Font_advance_of => first | k_is | rfl)
    (case i_Font_advance_of => first | k_is | rfl)
    (case l_Font_advance_of => first | k_is | rfl)
    (case q_Font_advance_of => first | k_is | rfl)
    (case k_Font_advance_of => first | k_is | rfl)
    (case a_Font_put_blank => first | k_is | rfl)
    (case i_Font_put_blank => first | k_is | rfl)
    (case l_Font_put_blank => first | k_is | rfl)
    (case q_Font_put_blank => first | k_is | rfl)
    (case k_Font_put_blank => first | k_is | rfl)
    (case a_Font_put_advance => first | k_is | rfl)
    (case i_Font_put_advance => first | k_is | rfl)
    (case l_Font_put_advance => first | k_is | rfl)
    (case q_Font_put_advance => first | k_is | rfl)
    (case k_Font_put_advance => first | k_is | rfl)
    (case a_Font_init => first | k_is | rfl)
    (case i_Font_init => first | k_is | rfl)
    (case l_Font_init => first | k_is | rfl)
    (case q_Font_init => first | k_is | rfl)
    (case k_Font_init => first | k_is | rfl)
    (case t_Font_init => first | k_is | rfl)
    (case kw0_Font_init => first | k_is | rfl)
    (case a_width_table => first | k_is | rfl)
    (case l_width_table => first | k_is | rfl)
    (case q_width_table => first | k_is | rfl)
    (case k_width_table => first | k_is | rfl)
    (case a_law_bag => first | k_is | rfl)
    (case l_law_bag => first | k_is | rfl)
    (case q_law_bag => first | k_is | rfl)
    (case k_law_bag => first | k_is | rfl)
    (case a_law_take => first | k_is | rfl)
    (case l_law_take => first | k_is | rfl)
    (case q_law_take => first | k_is | rfl)
    (case k_law_take => first | k_is | rfl)
    (case a_law_letters => first | k_is | rfl)
    (case l_law_letters => first | k_is | rfl)
    (case q_law_letters => first | k_is | rfl)
    (case k_law_letters => first | k_is | rfl)
    (case a_law_row => first | k_is | rfl)
    (case l_law_row => first | k_is | rfl)
    (case q_law_row => first | k_is | rfl)
    (case k_law_row => first | k_is | rfl)
    (case a_law_commas => first | k_is | rfl)
    (case l_law_commas => first | k_is | rfl)
    (case q_law_commas => first | k_is | rfl)
    (case k_law_commas => first | k_is | rfl)
    (case a_law_line => first | k_is | rfl)
    (case l_law_line => first | k_is | rfl)
    (case q_law_line => first | k_is | rfl)
    (case k_law_line => first | k_is | rfl)
    (case a_law => first | k_is | rfl)
    (case l_law => first | k_is | rfl)
    (case q_law => first | k_is | rfl)
    (case k_law => first | k_is | rfl)
    (case pg_Font => first | k_is | rfl)
    (case hd_Font => first | k_is | rfl)
    (case po_Font => first | k_is | rfl)
    (case sa_Font => first | k_is | rfl)
    (case i1_Font => first | k_is | rfl)
    (case i4_Font => first | k_is | rfl)
    (case mk_Font => first | k_is | rfl)
    (case kc_Font => first | k_is | rfl)
    (case rd_Font => first | k_is | rfl)
    (case cg_Font => first | k_is | rfl)
    (case cv_Font_MOST_ADVANCE => first | k_is | rfl)
    (case cv_Font_MOST_LETTERS => first | k_is | rfl)
    (case cv_Font_MOST_LIGATURES => first | k_is | rfl)
    (case o2 => first | k_is | rfl)
    (case o3 => first | k_is | rfl)
    (case oq => first | k_is | rfl)
    (case os => first | k_is | rfl)
    (case a_InvalidGlyph => first | k_is | rfl)
    (case L_InvalidGlyph => first | k_is | rfl)
    (case ve_InvalidGlyph => decide +kernel)
    (case al_InvalidGlyph => first | k_is | rfl)
    (case sa_InvalidGlyph => first | k_is | rfl)
    (case ga_InvalidGlyph => first | k_is | rfl)
    (case gg_InvalidGlyph => first | k_is | rfl)
    (case ii_InvalidGlyph => first | k_is | rfl)
    (case ti_InvalidGlyph => first | k_is | rfl)
    (case kc_InvalidGlyph => first | k_is | rfl)
    (case be_InvalidGlyph => first | k_is | rfl)
    (case ev_InvalidGlyph => first | k_is | rfl)
    (case ty_InvalidGlyph => first | k_is | rfl)
    (case hd_InvalidGlyph => first | k_is | rfl)
    (case me_InvalidGlyph => first | k_is | rfl)
    (case l_InvalidGlyph => first | k_is | rfl)
    (case q_InvalidGlyph => first | k_is | rfl)
    (case lk_InvalidGlyph => first | k_is | rfl)
    (case fl_InvalidGlyph => rfl)
    (case fi_InvalidGlyph => decide +kernel)
    (case lc_InvalidGlyph => first | k_is | rfl)
    (case i1_InvalidGlyph => first | k_is | rfl)
    (case i4_InvalidGlyph => first | k_is | rfl)
    (case x_InvalidGlyph_glyph => first | k_is | rfl)
    (case a_InvalidNumber => first | k_is | rfl)
    (case L_InvalidNumber => first | k_is | rfl)
    (case ve_InvalidNumber => decide +kernel)
    (case al_InvalidNumber => first | k_is | rfl)
    (case sa_InvalidNumber => first | k_is | rfl)
    (case ga_InvalidNumber => first | k_is | rfl)
    (case gg_InvalidNumber => first | k_is | rfl)
    (case ii_InvalidNumber => first | k_is | rfl)
    (case ti_InvalidNumber => first | k_is | rfl)
    (case kc_InvalidNumber => first | k_is | rfl)
    (case be_InvalidNumber => first | k_is | rfl)
    (case ev_InvalidNumber => first | k_is | rfl)
    (case ty_InvalidNumber => first | k_is | rfl)
    (case hd_InvalidNumber => first | k_is | rfl)
    (case me_InvalidNumber => first | k_is | rfl)
    (case l_InvalidNumber => first | k_is | rfl)
    (case q_InvalidNumber => first | k_is | rfl)
    (case lk_InvalidNumber => first | k_is | rfl)
    (case fl_InvalidNumber => rfl)
    (case fi_InvalidNumber => decide +kernel)
    (case lc_InvalidNumber => first | k_is | rfl)
    (case i1_InvalidNumber => first | k_is | rfl)
    (case i4_InvalidNumber => first | k_is | rfl)
    (case x_InvalidNumber_value => first | k_is | rfl)
    (case a_UnknownGlyph => first | k_is | rfl)
    (case L_UnknownGlyph => first | k_is | rfl)
    (case ve_UnknownGlyph => decide +kernel)
    (case al_UnknownGlyph => first | k_is | rfl)
    (case sa_UnknownGlyph => first | k_is | rfl)
    (case ga_UnknownGlyph => first | k_is | rfl)
    (case gg_UnknownGlyph => first | k_is | rfl)
    (case ii_UnknownGlyph => first | k_is | rfl)
    (case ti_UnknownGlyph => first | k_is | rfl)
    (case kc_UnknownGlyph => first | k_is | rfl)
    (case be_UnknownGlyph => first | k_is | rfl)
    (case ev_UnknownGlyph => first | k_is | rfl)
    (case ty_UnknownGlyph => first | k_is | rfl)
    (case hd_UnknownGlyph => first | k_is | rfl)
    (case me_UnknownGlyph => first | k_is | rfl)
    (case l_UnknownGlyph => first | k_is | rfl)
    (case q_UnknownGlyph => first | k_is | rfl)
    (case lk_UnknownGlyph => first | k_is | rfl)
    (case fl_UnknownGlyph => rfl)
    (case fi_UnknownGlyph => decide +kernel)
    (case lc_UnknownGlyph => first | k_is | rfl)
    (case i1_UnknownGlyph => first | k_is | rfl)
    (case i4_UnknownGlyph => first | k_is | rfl)
    (case x_UnknownGlyph_glyph => first | k_is | rfl)
    (case a_TooMany => first | k_is | rfl)
    (case L_TooMany => first | k_is | rfl)
    (case ve_TooMany => decide +kernel)
    (case al_TooMany => first | k_is | rfl)
    (case sa_TooMany => first | k_is | rfl)
    (case ga_TooMany => first | k_is | rfl)
    (case gg_TooMany => first | k_is | rfl)
    (case ii_TooMany => first | k_is | rfl)
    (case ti_TooMany => first | k_is | rfl)
    (case kc_TooMany => first | k_is | rfl)
    (case be_TooMany => first | k_is | rfl)
    (case ev_TooMany => first | k_is | rfl)
    (case ty_TooMany => first | k_is | rfl)
    (case hd_TooMany => first | k_is | rfl)
    (case me_TooMany => first | k_is | rfl)
    (case l_TooMany => first | k_is | rfl)
    (case q_TooMany => first | k_is | rfl)
    (case lk_TooMany => first | k_is | rfl)
    (case fl_TooMany => rfl)
    (case fi_TooMany => decide +kernel)
    (case lc_TooMany => first | k_is | rfl)
    (case i1_TooMany => first | k_is | rfl)
    (case i4_TooMany => first | k_is | rfl)
    (case x_TooMany_limit => first | k_is | rfl)
    (case n_bool => first | k_is | rfl)
    (case n_dict => first | k_is | rfl)
    (case n_int => first | k_is | rfl)
    (case n_isinstance => first | k_is | rfl)
    (case n_len => first | k_is | rfl)
    (case n_list => first | k_is | rfl)
    (case n_range => first | k_is | rfl)
    (case n_sorted => first | k_is | rfl)
    (case n_str => first | k_is | rfl)
    (case na_Font_rows => first | k_is | rfl)
    (case na_Font_pairs => first | k_is | rfl)
    (case na_Font_space => first | k_is | rfl)
    (case na_Font_past => first | k_is | rfl)
