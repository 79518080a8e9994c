import PyProof.Rows.All
import Wide.All
import OpenK.AllK
import Wide.FinOn
import KE.KExcSuper
import HandS.ForMost
import HandS.ForExc
import HandS.ExcInit
import HandS.ExcField
import HandS.IsInst
import HandS.ExcIs
import HandS.TryMany
import HandS.Wide
import HandS.Defaults
import HandS.CallSlots
import HandS.Flow
import HandS.Steps
import HandS.WideBits
import HandS.Evl
import KE.KExcIs
import KE.KOpsOwn
import PySem.Challenge.RW_fontgap_k03_ratio_compare_and_round
set_option Elab.async false
set_option linter.all false
set_option maxRecDepth 100000
set_option maxHeartbeats 4000000
namespace FG
/-! plain mathematics: Euclid's steps, lowest terms -/
/-- one step of the law's loop -/
def eStep (p : Int × Int) : Int × Int := if p.2 > 0 then (p.2, p.1 % p.2) else p
def eIter : Nat → Int × Int → Int × Int
  | 0, p => p
  | n + 1, p => eStep (eIter n p)
theorem eStep_nonneg {p : Int × Int} (h1 : 0 ≤ p.1) (h2 : 0 ≤ p.2) : 0 ≤ (eStep p).1 ∧ 0 ≤ (eStep p).2 := by
  unfold eStep
  split
  · rename_i h
    exact ⟨h2, Int.emod_nonneg _ (by omega)⟩
  · exact ⟨h1, h2⟩
theorem eStep_gcd {p : Int × Int} : Int.gcd (eStep p).1 (eStep p).2 = Int.gcd p.1 p.2 := by
  unfold eStep
  split
  · show Int.gcd p.2 (p.1 % p.2) = Int.gcd p.1 p.2
    have e : p.1 / p.2 * p.2 + p.1 % p.2 = p.1 := Int.ediv_mul_add_emod _ _
    have q := Int.gcd_mul_right_add_left p.2 (p.1 % p.2) (p.1 / p.2)
    rw [e] at q
    rw [Int.gcd_comm p.2, q]
  · rfl
theorem eIter_gcd (n : Nat) (p : Int × Int) : Int.gcd (eIter n p).1 (eIter n p).2 = Int.gcd p.1 p.2 := by
  induction n with
  | zero => rfl
  | succ n ih => exact eStep_gcd.trans ih
theorem eIter_nonneg (n : Nat) {p : Int × Int} (h1 : 0 ≤ p.1) (h2 : 0 ≤ p.2) : 0 ≤ (eIter n p).1 ∧ 0 ≤ (eIter n p).2 := by
  induction n with
  | zero => exact ⟨h1, h2⟩
  | succ n ih => exact eStep_nonneg ih.1 ih.2
/-- the bound of the second part: two steps halve it -/
theorem eStep_two {p : Int × Int} (h1 : 0 ≤ p.1) (h2 : 0 ≤ p.2) : 2 * (eStep (eStep p)).2 ≤ p.2 := by
  by_cases h : p.2 > 0
  · have e1 : eStep p = (p.2, p.1 % p.2) := if_pos h
    have m0 : 0 ≤ p.1 % p.2 := Int.emod_nonneg _ (by omega)
    have m1 : p.1 % p.2 < p.2 := Int.emod_lt_of_pos _ h
    rw [e1]
    by_cases h' : p.1 % p.2 > 0
    · have e2 : eStep (p.2, p.1 % p.2) = (p.1 % p.2, p.2 % (p.1 % p.2)) := if_pos h'
      rw [e2]
      show 2 * (p.2 % (p.1 % p.2)) ≤ p.2
      generalize hr : p.1 % p.2 = r at *
      have k0 : 0 ≤ p.2 % r := Int.emod_nonneg _ (by omega)
      have k1 : p.2 % r < r := Int.emod_lt_of_pos _ h'
      have k2 : p.2 / r * r + p.2 % r = p.2 := Int.ediv_mul_add_emod _ _
      have k3 : 1 ≤ p.2 / r := by
        have := Int.le_ediv_of_mul_le h' (show 1 * r ≤ p.2 by omega)
        exact this
      have k4 : r ≤ p.2 / r * r := by
        have := Int.mul_le_mul_of_nonneg_right k3 (show 0 ≤ r by omega)
        omega
      omega
    · have e2 : eStep (p.2, p.1 % p.2) = (p.2, p.1 % p.2) := if_neg h'
      rw [e2]
      show 2 * (p.1 % p.2) ≤ p.2
      omega
  · have e1 : eStep p = p := if_neg h
    rw [e1, e1]
    omega
theorem eIter_add (m n : Nat) (p : Int × Int) : eIter (m + n) p = eIter m (eIter n p) := by
  induction m with
  | zero => rw [Nat.zero_add]; rfl
  | succ m ih =>
    rw [Nat.succ_add]
    show eStep (eIter (m + n) p) = eStep (eIter m (eIter n p))
    rw [ih]
theorem eIter_small (j : Nat) : ∀ {p : Int × Int}, 0 ≤ p.1 → 0 ≤ p.2 → p.2 < 2 ^ j → (eIter (2 * j) p).2 = 0 := by
  induction j with
  | zero =>
    intro p h1 h2 h
    have e : (2 : Int) ^ 0 = 1 := by decide
    rw [e] at h
    show p.2 = 0
    omega
  | succ j ih =>
    intro p h1 h2 h
    have e : 2 * (j + 1) = 2 * j + 2 := by omega
    rw [e, eIter_add]
    have q := eIter_nonneg 2 h1 h2
    have t : 2 * (eIter 2 p).2 ≤ p.2 := eStep_two h1 h2
    have pw : (2 : Int) ^ (j + 1) = 2 ^ j * 2 := Int.pow_succ ..
    rw [pw] at h
    refine ih q.1 q.2 ?_
    omega
theorem eIter_400 {p : Int × Int} (h1 : 0 ≤ p.1) (h2 : 0 ≤ p.2) (h : p.2 < 2 ^ 200) : eIter 400 p = (((Int.gcd p.1 p.2 : Nat) : Int), (0 : Int)) := by
  have z := eIter_small 200 h1 h2 h
  have g := eIter_gcd 400 p
  have q := eIter_nonneg 400 h1 h2
  have z' : (eIter 400 p).2 = 0 := z
  rw [z', Int.gcd_zero_right] at g
  have f : (eIter 400 p).1 = ((Int.gcd p.1 p.2 : Nat) : Int) := by
    rw [← g]
    omega
  exact Prod.ext f z'
/-- the python abs -/
def pabs (i : Int) : Int := if i < 0 then -i else i
theorem pabs_eq (i : Int) : pabs i = (i.natAbs : Int) := by
  unfold pabs
  split <;> omega
/-- lowest terms, as the program and the law reckon them -/
def sgn (b : Int) (g : Nat) : Int := if b < 0 then -(g : Int) else (g : Int)
def lowT (t b : Int) : Int := t.fdiv (sgn b (Int.gcd t b))
def lowB (t b : Int) : Int := b.fdiv (sgn b (Int.gcd t b))
theorem gcd_pos_of {t b : Int} (h : b ≠ 0) : 0 < Int.gcd t b := Int.gcd_pos_of_ne_zero_right _ h
theorem sgn_ne {t b : Int} (h : b ≠ 0) : sgn b (Int.gcd t b) ≠ 0 := by
  have := gcd_pos_of (t := t) h
  unfold sgn
  split <;> omega
theorem sgn_mul {b f : Int} {g : Nat} (hf : 0 < f) : sgn (b * f) (g * f.natAbs) = sgn b g * f := by
  unfold sgn
  have e : ((g * f.natAbs : Nat) : Int) = (g : Int) * f := by
    rw [Int.natCast_mul]
    have : (f.natAbs : Int) = f := by omega
    rw [this]
  by_cases h : b < 0
  · have : b * f < 0 := Int.mul_neg_of_neg_of_pos h hf
    rw [if_pos h, if_pos this, e, Int.neg_mul]
  · have : ¬ b * f < 0 := by
      have := Int.mul_nonneg (show 0 ≤ b by omega) (show 0 ≤ f by omega)
      omega
    rw [if_neg h, if_neg this, e]
theorem low_mul {t b f : Int} (hb : b ≠ 0) (hf : 0 < f) : lowT (t * f) (b * f) = lowT t b ∧ lowB (t * f) (b * f) = lowB t b := by
  have g : Int.gcd (t * f) (b * f) = Int.gcd t b * f.natAbs := Int.gcd_mul_right ..
  unfold lowT lowB
  rw [g, sgn_mul hf]
  exact ⟨Int.mul_fdiv_mul_of_pos_left _ _ hf, Int.mul_fdiv_mul_of_pos_left _ _ hf⟩
/-- in lowest terms, over a positive bottom -/
structure Low (t b : Int) : Prop where
  pos : 0 < b
  one : Int.gcd t b = 1
theorem sgn_pos {b : Int} {g : Nat} (h : 0 < b) : sgn b g = (g : Int) := if_neg (by omega)
theorem low_idem {t b : Int} (h : Low t b) : lowT t b = t ∧ lowB t b = b := by
  have e : sgn b (Int.gcd t b) = 1 := by rw [sgn_pos h.pos, h.one]; rfl
  unfold lowT lowB
  rw [e]
  exact ⟨Int.fdiv_one t, Int.fdiv_one b⟩
theorem low_pos {t b : Int} (h : 0 < b) : lowT t b = t / (Int.gcd t b : Nat) ∧ lowB t b = b / (Int.gcd t b : Nat) := by
  unfold lowT lowB
  rw [sgn_pos h]
  exact ⟨Int.fdiv_eq_ediv_of_nonneg _ (by omega), Int.fdiv_eq_ediv_of_nonneg _ (by omega)⟩
theorem low_low {t b : Int} (h : 0 < b) : Low (lowT t b) (lowB t b) := by
  have g0 : 0 < Int.gcd t b := Int.gcd_pos_of_ne_zero_right _ (by omega)
  have d1 : ((Int.gcd t b : Nat) : Int) ∣ t := Int.gcd_dvd_left t b
  have d2 : ((Int.gcd t b : Nat) : Int) ∣ b := Int.gcd_dvd_right t b
  rw [(low_pos h).1, (low_pos h).2]
  refine ⟨?_, ?_⟩
  · exact Int.ediv_pos_of_pos_of_dvd h (by omega) d2
  · rw [Int.gcd_ediv d1 d2, Int.natAbs_natCast]
    exact Nat.div_self g0
theorem low_bound {t b : Int} (h : 0 < b) : (lowT t b).natAbs ≤ t.natAbs ∧ lowB t b ≤ b := by
  have g0 : 0 < Int.gcd t b := Int.gcd_pos_of_ne_zero_right _ (by omega)
  rw [(low_pos h).1, (low_pos h).2]
  refine ⟨?_, ?_⟩
  · rw [Int.natAbs_ediv_of_dvd (Int.gcd_dvd_left t b)]
    exact Nat.div_le_self _ _
  · exact Int.ediv_le_self _ (by omega)
theorem low_neg {t b : Int} (h : Low t b) : Low (-t) b := ⟨h.pos, by rw [Int.neg_gcd]; exact h.one⟩
theorem low_abs {t b : Int} (h : Low t b) : Low (pabs t) b := by
  unfold pabs
  split
  · exact low_neg h
  · exact h
theorem low_one (t : Int) : lowT t 1 = t ∧ lowB t 1 = 1 := by
  have g : Int.gcd t 1 = 1 := Int.gcd_one_right t
  have e : sgn 1 (Int.gcd t 1) = 1 := by rw [g]; rfl
  unfold lowT lowB
  rw [e]
  exact ⟨Int.fdiv_one t, by decide⟩
theorem low_zero {f : Int} (h : 0 < f) : lowT 0 f = 0 ∧ lowB 0 f = 1 := by
  have g : Int.gcd 0 f = f.natAbs := Int.gcd_zero_left f
  have e : sgn f (Int.gcd 0 f) = f := by
    rw [g]
    unfold sgn
    rw [if_neg (by omega)]
    omega
  unfold lowT lowB
  rw [e]
  exact ⟨Int.zero_fdiv f, Int.fdiv_self (by omega)⟩
end FG
/-! own errors below ValueError whose __init__ first calls super().__init__(text) and then stores its parameters -/
namespace FG
open PySem PySem.W PySem.Calls PyProof.Rows PySem.HandSPX

abbrev errFd (qn : Str) (ps : Arguments) (bd : List Stmt) (sc : Scope) (cc : Addr) (kV doc pm : Value) (an : Option Addr) (cd ct : Value) : FuncData :=
  { fnOf "__init__" qn ps bd sc .none kV doc pm an cd ct with closure := [("__class__", cc)] }
/-- what the written part says of such a class at C: its __init__ at fI, the cell of __class__ at cc -/
structure ErrC (P : Program) (K : Frag) (mg : Str → Option Value) (nm qn : Str) (ps : Arguments) (bd : List Stmt) (sc : Scope) (C fI cc cda : Addr) : Prop where
  gC : mg nm = some (.ref C)
  cls : ∃ n1 q N bs bm sn sub ab col dd k0 k1 k2 k3 k5, K.lookup C = some (excClassObj n1 q C N bs bm true sn sub ab col dd k0 k1 k2 k3 k5 "ValueError.__new__") ∧ refsVE bm = true ∧
    alongIn K "__init__" bm = some (some (.builtin "ValueError.__init__"))
  sa : findIn K (.ref C) "__setattr__" = some (some (.builtin "object.__setattr__"))
  ga : findIn K (.ref C) "__getattribute__" = some (some (.builtin "BaseException.__getattribute__"))
  gg : findIn K (.ref C) "__getattr__" = some none
  iC : findIn K (.ref C) "__init__" = some (some (.ref fI))
  tC : typeIn K (.ref fI) = some (.type "function")
  kC : keepIn K (.ref C) = true
  exC : subIn K (.ref C) (.type "BaseException") = some true
  veC : subIn K (.ref C) (.type "ValueError") = some true
  tyC : typeIn K (.ref C) = some (.type "type")
  hdC : hasDictIn K C = true
  meC : mroIn K C (.ref C) = some true
  fn : ∃ (oc : Value) (od : Option Addr) (kV doc pm : Value) (an : Option Addr) (ct : Value) (osl : Array (Option Value)),
    K.lookup fI = some ⟨oc, od, .func (errFd qn ps bd sc cc kV doc pm an (.ref cda) ct), osl⟩ ∧ codeIn K (.ref cda) qn = true
  code : ∃ (cl : Value) (cd : Option Addr) (vs : Array Value) (cs : Array (Option Value)) (file : Str) (tf : Tok), K.lookup cda = some ⟨cl, cd, .fields vs, cs⟩ ∧ vs[2]? = some (.str file tf) ∧ ((P.main.file : Str) == file) = true
  cell : ∃ (cl : Value) (cd : Option Addr) (cs : Array (Option Value)), K.lookup cc = some ⟨cl, cd, .cell (some (.ref C)), cs⟩
  opq : nsIn K cStatics "thirdparty.any" = some none
  sup : mg "super" = none
  top : (P.main.scope.names.lookup ("super" : Str)).isSome = false

/-- the module's names and the built-ins' as they stand -/
structure Names0 (mg : Str → Option Value) (h : Heap) : Prop where
  glob : h.Ns mainGlobals mg
  blt : ∃ mb, h.Ns builtinsNs mb ∧ ∀ x : Str, x ≠ "__name__" → mb x = bootBuiltins x
theorem Names0.keeps {mg : Str → Option Value} {h h' : Heap} (n : Names0 mg h) (k : ∀ b o, h.get? b = some o → h'.get? b = some o) : Names0 mg h' := by
  obtain ⟨g, mb, b1, b2⟩ := n
  exact ⟨g.keeps k, mb, b1.keeps k, b2⟩

/-- super().__init__(text) -/
abbrev supE (p0 p1 p2 p3 p4 : Pos) (msg : Str) (j : Nat) : Expr := .Call (.Attribute (.Call (.Name "super" p0) [] [] p1) "__init__" p2) [.Constant (.str msg) j p3] [] p4
theorem ve_len (v : Value) : [v].length ≤ sizeLine := by
  show 1 ≤ sizeLine
  decide

section
variable {P : Program} {w : World} {A : Around} {E : Value → Shared → Prop} {hh : Heap} {g : Array GenState} {d : Drawn} {tk : Nat} {os : OsState}
/-- the bound ValueError.__init__ is called -/
theorem mw_call {n1 q : Str} {N : Addr} {bs bm : List Value} {hd : Bool} {sn : List Str} {sub : List Value} {ab : Bool} {col : Option Bool} {dd : Option Addr} {k0 k1 k2 k3 k5 : Option Value} {u e t0 C : Addr} {r : List Value} {Q : Value → Shared → Prop}
    (hC : hh.get? C = some (excClassObj n1 q C N bs bm hd sn sub ab col dd k0 k1 k2 k3 k5 "ValueError.__new__")) (he : hh.get? e = some (excO C t0)) (hu : hh.get? u = some (kxs_mw "ValueError.__init__" e)) (hz : r.length ≤ sizeLine)
    (hq : ∀ h' t1, (∀ b o, b ≠ e → hh.get? b = some o → h'.get? b = some o) → h'.get? e = some (excO C t1) → Q .none ⟨h', g, d, tk, os⟩) : wpAny (model P w) A (call (.ref u) r) Q E ⟨hh, g, d, tk, os⟩ := by
  have B := F.excBase_ValueError
  refine wpAny_call (codeAny_of_tree ?_)
  show wpAny _ A.in1 (callAny (.ref u) ⟨r, []⟩) _ _ _
  simp only [callAny]
  refine wpAny_bind (wpAny_load (a := u) hu ?_)
  have c1 : (Value.type "method-wrapper" == Value.type "method" || Value.type "method-wrapper" == Value.type "builtin_function_or_method" || Value.type "method-wrapper" == Value.type "method-wrapper") = true := by decide
  simp only [kxs_mw, c1, if_true]
  refine KFB.if_so (by decide) (wpAny_bind (check_bound_init B.toExcCallFacts hC he rfl (wpAny_bind (wpAny_pure (wpAny_pure ⟨plainId_quiet B.init.plain _, codeAny_builtin B.initEntry ?_⟩)))))
  exact exc_init_tree (cls := .ref C) (t0 := t0) (dv := none) (c2 := .none) (c3 := .none) (b4 := .bool false) he hz fun h' k e' _ => hq h' _ k e'

/-- the statement super().__init__(text) -/
theorem sup_stmt {K : Frag} {mg : Str → Option Value} {nm qn : Str} {ps : Arguments} {bd body : List Stmt} {sc : Scope} {C fI cc cda x t0 L : Addr} {m : Str → Option Value} {msg : Str} {j : Nat} {p0 p1 p2 p3 p4 p5 : Pos} {a0 : Arg} {Q : Flow → Shared → Prop}
    (T : ErrC P K mg nm qn ps bd sc C fI cc cda) (X : K.In hh) (Nm : Names0 mg hh) (hx : hh.get? x = some (excO C t0)) (hn : hh.Ns L m) (hs : m a0.arg = some (.ref x))
    (hp : (ps.posonlyargs ++ ps.args).head? = some a0) (hks : sc.names.lookup ("super" : Str) = some .globalImplicit) (hkc : sc.names.lookup ("__class__" : Str) = some .free) (hka : sc.names.lookup a0.arg = some .local) (hk : sc.kind = .function)
    (hi : interactive (ksEnv qn sc L fI (.ref cda) cc) = false) (hw : swapsWith (supE p0 p1 p2 p3 p4 msg j) none p5.line (ksEnv qn sc L fI (.ref cda) cc) = pure false) {pl : Sem Bool}
    (he : eval (supE p0 p1 p2 p3 p4 msg j) (ksEnv qn sc L fI (.ref cda) cc) = (do
      let ov ← attributeBase (.Call (.Name "super" p0) [] [] p1) "__init__" (ksEnv qn sc L fI (.ref cda) cc) (eval (.Call (.Name "super" p0) [] [] p1) (ksEnv qn sc L fI (.ref cda) cc))
      standAt p2.atName
      let (f, first) ← holding [ov] (getMethod ov "__init__" pl)
      callWith p4 f first (backTo p4 (starEach [.Constant (.str msg) j p3] (ksEnv qn sc L fI (.ref cda) cc))) []))
    (hq : ∀ h' t1 tk', (∀ b o, b ≠ x → hh.get? b = some o → h'.get? b = some o) → h'.get? x = some (excO C t1) → Q .next ⟨h', g, d, tk', os⟩) :
    PySem.wpAt (model P w) A (.func body (ksEnv qn sc L fI (.ref cda) cc)) (exec (.Expr (supE p0 p1 p2 p3 p4 msg j) p5) (ksEnv qn sc L fI (.ref cda) cc)) Q E ⟨hh, g, d, tk, os⟩ := by
  obtain ⟨n1, q, N, bs, bm, sn, sub, ab, col, dd, k0, k1, k2, k3, k5, lC, vm, ai⟩ := T.cls
  obtain ⟨oc, od, kV, doc, pm, an, ct, osl, lf, cdi⟩ := T.fn
  obtain ⟨cl, cd, vs, cs, file, tf, lc, v2, ef⟩ := T.code
  obtain ⟨l1, l2, l3, lcc⟩ := T.cell
  obtain ⟨mb, nb, eb⟩ := Nm.blt
  have hcd : clsIn K C = some { name := n1, bases := bs, mro := .ref C :: bm, ns := N, qualname := q, hasDict := true, slotNames := sn, subclasses := sub, abstract := ab, collection := col, hasDel := false } := by
    unfold clsIn
    rw [lC]
    all_goals rfl
  have hC := X _ _ lC
  have I : InstAt hh x (excO C t0) C none := ⟨hx, rfl, rfl, trivial⟩
  refine ks_wpAt_Expr_any ?_ hi hw
  refine ks_wpAt_MethodCall ?_ he
  refine ks_wpAt_super_base (f := fI) (cc := cda) (ar := a0) hks hkc (by decide) rfl (X _ _ lf) rfl hp rfl (X _ _ lc) rfl v2 ef T.top ?_
  refine ks_loadName_global hk hks (Calls.loadGlobal_builtin Nm.glob T.sup nb ((eb "super" (by decide)).trans (by decide +kernel)) ⟨rfl, ?_⟩)
  refine wpAny_loadName_free (c := cc) (v := .ref C) hk hkc rfl ⟨_, X _ _ lcc, rfl⟩ (wpAny_loadName_local hk hka hn hs ?_)
  refine ks_wpAny_isType_cls hC rfl ⟨rfl, ?_⟩
  refine ks_wpAny_call_super hC rfl hx rfl (fun c z => by cases z) (looks_mroIn X T.meC) fun h1 hso k1' => ?_
  have X1 : K.In h1 := X.keeps k1'
  have I1 : InstAt h1 x (excO C t0) C none := ⟨k1' _ _ hx, rfl, rfl, trivial⟩
  refine kxs_getMethod kxs_ValueError hso (looks_opaque X1 T.opq) (l₀ := .ref C :: bm) (l := bm) ?_ (by simp [List.dropWhile_cons]) X1 ai (I1.type.andThen (looks_subIn X1 T.veC)) (ks_ne X1 I1 hcd) (by decide) ?_
  · exact fun A' Q' E' s' kk qq => wpAny_bind ((looks_clsIn X1 hcd) A' _ E' s' kk (wpAny_pure qq))
  have k2' : ∀ b o, h1.get? b = some o → (h1.push (kxs_mw "ValueError.__init__" x)).get? b = some o := fun b o z => Heap.get?_push_of_some _ z
  have hu : (h1.push (kxs_mw "ValueError.__init__" x)).get? h1.objs.size = some (kxs_mw "ValueError.__init__" x) := Heap.get?_push_at rfl rfl
  refine kxs_callWith (i := "ValueError.__init__") (x := x) (by rfl) (evalArgs_plain ?_)
  refine Calls.spliced_cons (Calls.Constant_str (k := j) (pos := p3) ?_)
  refine Calls.spliced_nil ?_
  refine ⟨hu, ?_⟩
  refine mw_call (k2' _ _ (k1' _ _ hC)) (k2' _ _ (k1' _ _ hx)) hu (ve_len _) fun h' t1 kk e' => hq h' t1 _ (fun b o hb z => kk b o hb (k2' _ _ (k1' _ _ z))) e'

/-- self.f = f, the first one and a further one -/
theorem sto_new {K : Frag} {mg : Str → Option Value} {nm qn : Str} {ps : Arguments} {bd : List Stmt} {sc : Scope} {C fI cc cda x t0 : Addr} {f : Str} {v : Value} {Q : Unit → Shared → Prop} (T : ErrC P K mg nm qn ps bd sc C fI cc cda)
    (X : K.In hh) (hx : hh.get? x = some (excO C t0)) (no : findIn K (.ref C) f = some none)
    (hq : ∀ h' tk' dx, (∀ b o, b ≠ x → hh.get? b = some o → h'.get? b = some o) → hh.objs.size ≤ dx → dx ≠ x → h'.get? x = some { cls := .ref C, dict := some dx, data := .fields #[.ref t0, .none, .none, .none, .bool false, .none] } →
      h'.Ns1 dx (fun y => if y = f then some v else none) → Q () ⟨h', g, d, tk', os⟩) : wpAny (model P w) A (setAttr (.ref x) f v) Q E ⟨hh, g, d, tk, os⟩ := by
  obtain ⟨n1, q, N, bs, bm, sn, sub, ab, col, dd, k0, k1, k2, k3, k5, lC, vm, ai⟩ := T.cls
  have hcd : clsIn K C = some { name := n1, bases := bs, mro := .ref C :: bm, ns := N, qualname := q, hasDict := true, slotNames := sn, subclasses := sub, abstract := ab, collection := col, hasDel := false } := by
    unfold clsIn
    rw [lC]
    all_goals rfl
  have I : InstAt hh x (excO C t0) C none := ⟨hx, rfl, rfl, trivial⟩
  exact set_plain (ox := excO C t0) (od := none) X I T.sa (exc_osa X hx hcd (show refsVE (.ref C :: bm) = true from vm) rfl no fun h' t' dx kk dn de e1 e2 => hq h' t' dx kk dn de e1 e2)
theorem sto_old {K : Frag} {mg : Str → Option Value} {nm qn : Str} {ps : Arguments} {bd : List Stmt} {sc : Scope} {C fI cc cda x t0 dx : Addr} {f f0 : Str} {v v0 : Value} {Q : Unit → Shared → Prop} (T : ErrC P K mg nm qn ps bd sc C fI cc cda)
    (X : K.In hh) (hx : hh.get? x = some { cls := .ref C, dict := some dx, data := .fields #[.ref t0, .none, .none, .none, .bool false, .none] }) (hd : hh.Ns1 dx (fun y => if y = f0 then some v0 else none)) (no : findIn K (.ref C) f = some none)
    (hq : ∀ h' tk', (∀ b o, b ≠ dx → hh.get? b = some o → h'.get? b = some o) → h'.Ns1 dx (fun y => if y = f then some v else if y = f0 then some v0 else none) → Q () ⟨h', g, d, tk', os⟩) : wpAny (model P w) A (setAttr (.ref x) f v) Q E ⟨hh, g, d, tk, os⟩ := by
  obtain ⟨n1, q, N, bs, bm, sn, sub, ab, col, dd, k0, k1, k2, k3, k5, lC, vm, ai⟩ := T.cls
  have hcd : clsIn K C = some { name := n1, bases := bs, mro := .ref C :: bm, ns := N, qualname := q, hasDict := true, slotNames := sn, subclasses := sub, abstract := ab, collection := col, hasDel := false } := by
    unfold clsIn
    rw [lC]
    all_goals rfl
  have hw : Within (fun y => if y = f0 then some v0 else none) [f0] := Within.cons f0 v0 Within.nil
  obtain ⟨oD, _, _, hoD, _, _⟩ := hd.count hw
  refine set_plain (ox := { cls := .ref C, dict := some dx, data := .fields #[.ref t0, .none, .none, .none, .bool false, .none] }) (od := some oD) X ⟨hx, rfl, rfl, hoD⟩ T.sa ?_
  exact OEX.osa_old X hx hd hw (by show 1 ≤ 1000; decide) hcd (show refsVE (.ref C :: bm) = true from vm) rfl no fun h' t' kk e2 => hq h' t' kk e2
end

/-! ### the whole __init__ -/
/-- what the text of an __init__ of one field looks like; L stands for the frame -/
structure Txt1 (qn f msg : Str) (ps : Arguments) (bd : List Stmt) (sc : Scope) : Prop where
  ex : ∃ (p0 p1 p2 p3 p4 p5 q1 q2 q3 q4 : Pos) (j : Nat) (a0 : Arg), bd = [.Expr (supE p0 p1 p2 p3 p4 msg j) p5, .Assign [.Attribute (.Name "self" q1) f q2] (.Name f q3) q4] ∧ (ps.posonlyargs ++ ps.args).head? = some a0 ∧ a0.arg = "self" ∧
    (∀ (L fI cc cda : Addr), interactive (ksEnv qn sc L fI (.ref cda) cc) = false ∧ swapsWith (supE p0 p1 p2 p3 p4 msg j) none p5.line (ksEnv qn sc L fI (.ref cda) cc) = pure false ∧
      swapsWith (.Name f q3) (some (.Attribute (.Name "self" q1) f q2)) q4.line (ksEnv qn sc L fI (.ref cda) cc) = pure false ∧
      ∃ pl : Sem Bool, eval (supE p0 p1 p2 p3 p4 msg j) (ksEnv qn sc L fI (.ref cda) cc) = (do
        let ov ← attributeBase (.Call (.Name "super" p0) [] [] p1) "__init__" (ksEnv qn sc L fI (.ref cda) cc) (eval (.Call (.Name "super" p0) [] [] p1) (ksEnv qn sc L fI (.ref cda) cc))
        standAt p2.atName
        let (f, first) ← holding [ov] (getMethod ov "__init__" pl)
        callWith p4 f first (backTo p4 (starEach [.Constant (.str msg) j p3] (ksEnv qn sc L fI (.ref cda) cc))) []))
  bind : ∀ (cc : Addr) (kV doc pm : Value) (an : Option Addr) (cd ct : Value) (a b : Value), bindArgs (errFd qn ps bd sc cc kV doc pm an cd ct) ⟨[a, b], []⟩ = pure [(("self" : Str), a), (f, b)]
  nself : (f == ("self" : Str)) = false
  ndbg : (f == ("__debug__" : Str)) = false
  ks : sc.names.lookup ("super" : Str) = some .globalImplicit
  kc : sc.names.lookup ("__class__" : Str) = some .free
  k0 : sc.names.lookup ("self" : Str) = some .local
  k1 : sc.names.lookup f = some .local
  cells : ∀ x ∈ sc.names, x.2 ≠ .cell
  kind : sc.kind = .function
  co : sc.isCoroutine = false
  gen : sc.isGenerator = false
structure Txt2 (qn f f2 msg : Str) (ps : Arguments) (bd : List Stmt) (sc : Scope) : Prop where
  ex : ∃ (p0 p1 p2 p3 p4 p5 q1 q2 q3 q4 r1 r2 r3 r4 : Pos) (j : Nat) (a0 : Arg), bd = [.Expr (supE p0 p1 p2 p3 p4 msg j) p5, .Assign [.Attribute (.Name "self" q1) f q2] (.Name f q3) q4, .Assign [.Attribute (.Name "self" r1) f2 r2] (.Name f2 r3) r4] ∧ (ps.posonlyargs ++ ps.args).head? = some a0 ∧ a0.arg = "self" ∧
    (∀ (L fI cc cda : Addr), interactive (ksEnv qn sc L fI (.ref cda) cc) = false ∧ swapsWith (supE p0 p1 p2 p3 p4 msg j) none p5.line (ksEnv qn sc L fI (.ref cda) cc) = pure false ∧
      swapsWith (.Name f q3) (some (.Attribute (.Name "self" q1) f q2)) q4.line (ksEnv qn sc L fI (.ref cda) cc) = pure false ∧
      swapsWith (.Name f2 r3) (some (.Attribute (.Name "self" r1) f2 r2)) r4.line (ksEnv qn sc L fI (.ref cda) cc) = pure false ∧
      ∃ pl : Sem Bool, eval (supE p0 p1 p2 p3 p4 msg j) (ksEnv qn sc L fI (.ref cda) cc) = (do
        let ov ← attributeBase (.Call (.Name "super" p0) [] [] p1) "__init__" (ksEnv qn sc L fI (.ref cda) cc) (eval (.Call (.Name "super" p0) [] [] p1) (ksEnv qn sc L fI (.ref cda) cc))
        standAt p2.atName
        let (f, first) ← holding [ov] (getMethod ov "__init__" pl)
        callWith p4 f first (backTo p4 (starEach [.Constant (.str msg) j p3] (ksEnv qn sc L fI (.ref cda) cc))) []))
  bind : ∀ (cc : Addr) (kV doc pm : Value) (an : Option Addr) (cd ct : Value) (a b c : Value), bindArgs (errFd qn ps bd sc cc kV doc pm an cd ct) ⟨[a, b, c], []⟩ = pure [(("self" : Str), a), (f, b), (f2, c)]
  nself : (f == ("self" : Str)) = false
  nself2 : (f2 == ("self" : Str)) = false
  nff : (f == f2) = false
  ndbg2 : (f2 == ("__debug__" : Str)) = false
  ndbg : (f == ("__debug__" : Str)) = false
  ks : sc.names.lookup ("super" : Str) = some .globalImplicit
  kc : sc.names.lookup ("__class__" : Str) = some .free
  k0 : sc.names.lookup ("self" : Str) = some .local
  k1 : sc.names.lookup f = some .local
  k2 : sc.names.lookup f2 = some .local
  cells : ∀ x ∈ sc.names, x.2 ≠ .cell
  kind : sc.kind = .function
  co : sc.isCoroutine = false
  gen : sc.isGenerator = false
/-- what is left of a made error: its class C, its own dict dx with the fields m -/
structure Made (h h' : Heap) (e C dx : Addr) (m : Str → Option Value) : Prop where
  keep : ∀ b o, h.get? b = some o → h'.get? b = some o
  new : h.objs.size ≤ e
  obj : ∃ oe vs, h'.get? e = some oe ∧ oe.cls = .ref C ∧ oe.dict = some dx ∧ oe.data = .fields vs ∧ vs[1]? = some .none
  dbig : h.objs.size ≤ dx
  dne : dx ≠ e
  ns : h'.Ns1 dx m
section
variable {P : Program} {w : World} {A : Around} {R : Result → Shared → Prop} {hp : Heap} {g : Array GenState} {d : Drawn} {tk : Nat} {os : OsState} {K : Frag} {mg : Str → Option Value} {nm qn f f2 msg : Str} {ps : Arguments} {bd : List Stmt} {sc : Scope} {C fI cc cda : Addr}
theorem init1 {x t0 : Addr} {v : Value} (T : ErrC P K mg nm qn ps bd sc C fI cc cda) (Y : Txt1 qn f msg ps bd sc) (no : findIn K (.ref C) f = some none) (X : K.In hp) (lim : hp.NoLimit) (Nm : Names0 mg hp) (hx : hp.get? x = some (excO C t0)) (nx : K.lookup x = none) (room : A.depth < recursionLimit)
    (hq : ∀ h' tk' t1 dx, (∀ b o, b ≠ x → hp.get? b = some o → h'.get? b = some o) → h'.get? x = some { cls := .ref C, dict := some dx, data := .fields #[.ref t1, .none, .none, .none, .bool false, .none] } → hp.objs.size ≤ dx → dx ≠ x →
      h'.Ns1 dx (fun y => if y = f then some v else none) → R (.ok (.ret .none)) ⟨h', g, d, tk', os⟩) : codeAny (model P w) A (.call (.ref fI) ⟨[.ref x, v], []⟩) R ⟨hp, g, d, tk, os⟩ := by
  obtain ⟨oc, od, kV, doc, pm, an, ct, osl, lf, cdi⟩ := T.fn
  obtain ⟨p0, p1, p2, p3, p4, p5, q1, q2, q3, q4, j, a0, eb, hp0, ea0, ht⟩ := Y.ex
  refine ks_codeAny_call_defAt (s := ⟨hp, g, d, tk, os⟩) (fd := errFd qn ps bd sc cc kV doc pm an (.ref cda) ct) (binds := [(("self" : Str), .ref x), (f, v)]) room (X _ _ lf) rfl lim (codeRec_of X cdi) rfl (BindsTo.of_eq (Y.bind cc kV doc pm an (.ref cda) ct _ _)) Y.cells ?_ (fun h₀ ns k => ?_) Y.co Y.gen Y.kind
  · intro z hz
    rcases List.mem_cons.mp hz with rfl | hz
    · exact Y.k0
    · rcases List.mem_cons.mp hz with rfl | hz
      · exact Y.k1
      · cases hz
  have X0 : K.In h₀ := X.keeps k
  have N0 := Nm.keeps k
  have hx0 := k _ _ hx
  have nself : ¬ f = "self" := fun z => by have := Y.nself; rw [z] at this; exact absurd this (by decide)
  have hs : (fun x_1 : Str => List.lookup x_1 [(("self" : Str), Value.ref x), (f, v)].reverse) "self" = some (.ref x) := by
    show List.lookup ("self" : Str) [(f, v), ("self", Value.ref x)] = _
    have z : (("self" : Str) == f) = false := by
      rw [beq_eq_false_iff_ne]
      exact fun q => nself q.symm
    simp [List.lookup, z]
  have hf : (fun x_1 : Str => List.lookup x_1 [(("self" : Str), Value.ref x), (f, v)].reverse) f = some v := by
    show List.lookup f [(f, v), ("self", Value.ref x)] = _
    simp [List.lookup]
  obtain ⟨hi, hw, hw2, pl, he⟩ := ht hp.objs.size fI cc cda
  subst eb
  have nL : x ≠ hp.objs.size := Nat.ne_of_lt (Heap.lt_size hx)
  show PySem.wpAt (model P w) (A.deeper (ksEnv qn sc hp.objs.size fI (.ref cda) cc)) (.func _ (ksEnv qn sc hp.objs.size fI (.ref cda) cc)) (execs _ (ksEnv qn sc hp.objs.size fI (.ref cda) cc)) _ _ _
  refine ks_wpAt_execs_cons (sup_stmt T X0 N0 hx0 ns (by rw [ea0]; exact hs) hp0 Y.ks Y.kc (by rw [ea0]; exact Y.k0) Y.kind hi hw he fun h1 t1 tk1 k1 e1 => ?_)
  have nsL : h1.Ns hp.objs.size (fun x_1 : Str => List.lookup x_1 [(("self" : Str), Value.ref x), (f, v)].reverse) := ns.at fun o z => k1 _ _ (Ne.symm nL) z
  show PySem.wpAt _ _ _ _ _ _ _
  refine PySem.wpAt_of_wpAny ?_
  refine wpAny_execs_cons (plainObj_wpAny_Assign_Attribute ?_ hw2)
  refine wpAny_Name (wpAny_loadName_local Y.kind Y.k1 nsL hf ?_) Y.ndbg
  refine wpAny_Name (wpAny_loadName_local Y.kind Y.k0 nsL hs ?_) (by decide)
  have X1 : K.In h1 := fun a o z => k1 a o (fun q => by
    rw [q, nx] at z
    cases z) (X0 a o z)
  have big : hp.objs.size < h1.objs.size := nsL.lt
  refine sto_new T X1 e1 no fun h' tk' dx k2 dn de e2 e3 => ?_
  refine wpAny_execs_nil ?_
  refine hq h' tk' t1 dx (fun b o hb z => k2 b o hb (k1 b o hb (k b o z))) e2 (Nat.le_trans (Nat.le_of_lt big) dn) de e3
theorem init2 {x t0 : Addr} {v v2 : Value} (T : ErrC P K mg nm qn ps bd sc C fI cc cda) (Y : Txt2 qn f f2 msg ps bd sc) (no : findIn K (.ref C) f = some none) (no2 : findIn K (.ref C) f2 = some none) (X : K.In hp) (lim : hp.NoLimit) (Nm : Names0 mg hp) (hx : hp.get? x = some (excO C t0)) (nx : K.lookup x = none) (room : A.depth < recursionLimit)
    (hq : ∀ h' tk' t1 dx, (∀ b o, b ≠ x → hp.get? b = some o → h'.get? b = some o) → h'.get? x = some { cls := .ref C, dict := some dx, data := .fields #[.ref t1, .none, .none, .none, .bool false, .none] } → hp.objs.size ≤ dx → dx ≠ x →
      h'.Ns1 dx (fun y => if y = f2 then some v2 else if y = f then some v else none) → R (.ok (.ret .none)) ⟨h', g, d, tk', os⟩) : codeAny (model P w) A (.call (.ref fI) ⟨[.ref x, v, v2], []⟩) R ⟨hp, g, d, tk, os⟩ := by
  obtain ⟨oc, od, kV, doc, pm, an, ct, osl, lf, cdi⟩ := T.fn
  obtain ⟨p0, p1, p2, p3, p4, p5, q1, q2, q3, q4, r1, r2, r3, r4, j, a0, eb, hp0, ea0, ht⟩ := Y.ex
  refine ks_codeAny_call_defAt (s := ⟨hp, g, d, tk, os⟩) (fd := errFd qn ps bd sc cc kV doc pm an (.ref cda) ct) (binds := [(("self" : Str), .ref x), (f, v), (f2, v2)]) room (X _ _ lf) rfl lim (codeRec_of X cdi) rfl (BindsTo.of_eq (Y.bind cc kV doc pm an (.ref cda) ct _ _ _)) Y.cells ?_ (fun h₀ ns k => ?_) Y.co Y.gen Y.kind
  · intro z hz
    rcases List.mem_cons.mp hz with rfl | hz
    · exact Y.k0
    · rcases List.mem_cons.mp hz with rfl | hz
      · exact Y.k1
      · rcases List.mem_cons.mp hz with rfl | hz
        · exact Y.k2
        · cases hz
  have X0 : K.In h₀ := X.keeps k
  have N0 := Nm.keeps k
  have hx0 := k _ _ hx
  have ns1 : (("self" : Str) == f) = false := by
    rw [beq_eq_false_iff_ne]
    exact fun q => absurd Y.nself (by rw [← q]; decide)
  have ns2 : (("self" : Str) == f2) = false := by
    rw [beq_eq_false_iff_ne]
    exact fun q => absurd Y.nself2 (by rw [← q]; decide)
  have hs : (fun x_1 : Str => List.lookup x_1 [(("self" : Str), Value.ref x), (f, v), (f2, v2)].reverse) "self" = some (.ref x) := by
    show List.lookup ("self" : Str) [(f2, v2), (f, v), ("self", Value.ref x)] = _
    simp [List.lookup, ns1, ns2]
  have hf : (fun x_1 : Str => List.lookup x_1 [(("self" : Str), Value.ref x), (f, v), (f2, v2)].reverse) f = some v := by
    show List.lookup f [(f2, v2), (f, v), ("self", Value.ref x)] = _
    simp [List.lookup, Y.nff]
  have hf2 : (fun x_1 : Str => List.lookup x_1 [(("self" : Str), Value.ref x), (f, v), (f2, v2)].reverse) f2 = some v2 := by
    show List.lookup f2 [(f2, v2), (f, v), ("self", Value.ref x)] = _
    simp [List.lookup]
  obtain ⟨hi, hw, hw2, hw3, pl, he⟩ := ht hp.objs.size fI cc cda
  subst eb
  have nL : x ≠ hp.objs.size := Nat.ne_of_lt (Heap.lt_size hx)
  show PySem.wpAt (model P w) (A.deeper (ksEnv qn sc hp.objs.size fI (.ref cda) cc)) (.func _ (ksEnv qn sc hp.objs.size fI (.ref cda) cc)) (execs _ (ksEnv qn sc hp.objs.size fI (.ref cda) cc)) _ _ _
  refine ks_wpAt_execs_cons (sup_stmt T X0 N0 hx0 ns (by rw [ea0]; exact hs) hp0 Y.ks Y.kc (by rw [ea0]; exact Y.k0) Y.kind hi hw he fun h1 t1 tk1 k1 e1 => ?_)
  have nsL : h1.Ns hp.objs.size (fun x_1 : Str => List.lookup x_1 [(("self" : Str), Value.ref x), (f, v), (f2, v2)].reverse) := ns.at fun o z => k1 _ _ (Ne.symm nL) z
  show PySem.wpAt _ _ _ _ _ _ _
  refine PySem.wpAt_of_wpAny ?_
  refine wpAny_execs_cons (plainObj_wpAny_Assign_Attribute ?_ hw2)
  refine wpAny_Name (wpAny_loadName_local Y.kind Y.k1 nsL hf ?_) Y.ndbg
  refine wpAny_Name (wpAny_loadName_local Y.kind Y.k0 nsL hs ?_) (by decide)
  have X1 : K.In h1 := fun a o z => k1 a o (fun q => by
    rw [q, nx] at z
    cases z) (X0 a o z)
  have big : hp.objs.size < h1.objs.size := nsL.lt
  refine sto_new T X1 e1 no fun h2 tk2 dx kk dn de e2 e3 => ?_
  have X2 : K.In h2 := fun a o z => kk a o (fun q => by
    rw [q, nx] at z
    cases z) (X1 a o z)
  have nsL2 : h2.Ns hp.objs.size (fun x_1 : Str => List.lookup x_1 [(("self" : Str), Value.ref x), (f, v), (f2, v2)].reverse) := nsL.at fun o z => kk _ _ (Ne.symm nL) z
  show wpAny _ _ (execs _ _) _ _ _
  refine wpAny_execs_cons (plainObj_wpAny_Assign_Attribute ?_ hw3)
  refine wpAny_Name (wpAny_loadName_local Y.kind Y.k2 nsL2 hf2 ?_) Y.ndbg2
  refine wpAny_Name (wpAny_loadName_local Y.kind Y.k0 nsL2 hs ?_) (by decide)
  have nd : ∀ b o, hp.get? b = some o → b ≠ dx := fun b o z => Nat.ne_of_lt (Nat.lt_of_lt_of_le (Heap.lt_size z) (Nat.le_trans (Nat.le_of_lt big) dn))
  refine sto_old T X2 e2 e3 no2 fun h' tk' k3 e4 => ?_
  refine wpAny_execs_nil ?_
  exact hq h' tk' t1 dx (fun b o hb z => k3 b o (nd b o z) (kk b o hb (k1 b o hb (k b o z)))) (k3 _ _ (Ne.symm de) e2) (Nat.le_trans (Nat.le_of_lt big) dn) de e4
/-- C(v, ..): from what __init__ does -/
theorem made_of {us : List Value} {m : Str → Option Value} (T : ErrC P K mg nm qn ps bd sc C fI cc cda) (X : K.In hp) (lim : hp.NoLimit) (Nm : Names0 mg hp) (hz : us.length ≤ sizeLine)
    (ini : ∀ (A' : Around) (hp' : Heap) (x t0 : Addr) (R' : Result → Shared → Prop), K.In hp' → hp'.NoLimit → Names0 mg hp' → hp'.get? x = some (excO C t0) → K.lookup x = none → A'.depth < recursionLimit →
      (∀ h' tk' t1 dx, (∀ b o, b ≠ x → hp'.get? b = some o → h'.get? b = some o) → h'.get? x = some { cls := .ref C, dict := some dx, data := .fields #[.ref t1, .none, .none, .none, .bool false, .none] } → hp'.objs.size ≤ dx → dx ≠ x →
        h'.Ns1 dx m → R' (.ok (.ret .none)) ⟨h', g, d, tk', os⟩) → codeAny (model P w) A' (.call (.ref fI) ⟨.ref x :: us, []⟩) R' ⟨hp', g, d, tk, os⟩)
    (room : A.depth + 1 < recursionLimit) (hq : ∀ h' tk' e dx, Made hp h' e C dx m → R (.ok (.ret (.ref e))) ⟨h', g, d, tk', os⟩) : codeAny (model P w) A (.call (.ref C) ⟨us, []⟩) R ⟨hp, g, d, tk, os⟩ := by
  obtain ⟨n1, q, N, bs, bm, sn, sub, ab, col, dd, k0, k1, k2, k3, k5, lC, vm, ai⟩ := T.cls
  have k : ∀ b o, hp.get? b = some o → ((hp.push (kdv_tup us)).push (excO C hp.objs.size)).get? b = some o := fun b o z => Heap.get?_push_of_some _ (Heap.get?_push_of_some _ z)
  have hx : ((hp.push (kdv_tup us)).push (excO C hp.objs.size)).get? (hp.objs.size + 1) = some (excO C hp.objs.size) := by heap_get
  have nx : K.lookup (hp.objs.size + 1) = none := by
    cases z : K.lookup (hp.objs.size + 1) with
    | none => rfl
    | some o => exact absurd (Nat.lt_of_succ_lt (Heap.lt_size (X _ _ z))) (Nat.lt_irrefl _)
  refine call_own F.excBase_ValueError (fun Y => refsVE_contains Y bm vm) (X _ _ lC) (looks_findIn X T.iC) (fun self => bind_fn X self T.tC) hz ?_
  refine ini _ _ _ _ _ (X.keeps k) (lim.keeps k) (Nm.keeps k) hx nx (by show A.depth + 1 < recursionLimit; exact room) fun h' tk' t1 dx kk e1 dn de ns => ⟨rfl, ?_⟩
  have sz : ((hp.push (kdv_tup us)).push (excO C hp.objs.size)).objs.size = hp.objs.size + 1 + 1 := by rw [Heap.size_push, Heap.size_push]
  rw [sz] at dn
  exact hq h' tk' _ dx ⟨fun b o z => kk b o (Nat.ne_of_lt (Nat.lt_succ_of_lt (Heap.lt_size z))) (k b o z), Nat.le_succ _, ⟨_, _, e1, rfl, rfl, rfl, rfl⟩, Nat.le_trans (Nat.le_trans (Nat.le_succ _) (Nat.le_succ _)) dn, de, ns⟩
end
end FG
namespace FG
open PySem PySem.Spec PyProof.Rows L2
/-! own errors in the hand layer: making, raising -/
theorem relO1 {f : Str} {v : V} {u : Value} (r : RelV v u) (y : Str) : RelO (List.lookup y [(f, v)]) (if y = f then some u else none) := by
  by_cases h : y = f
  · subst h
    simp [List.lookup, RelO, r]
  · have z : (y == f) = false := by simpa using h
    simp [List.lookup, z, h, RelO]
theorem relO2 {f f2 : Str} {v v2 : V} {u u2 : Value} (nf : (f == f2) = false) (r : RelV v u) (r2 : RelV v2 u2) (y : Str) : RelO (List.lookup y [(f, v), (f2, v2)]) (if y = f2 then some u2 else if y = f then some u else none) := by
  by_cases h2 : y = f2
  · subst h2
    have z : (y == f) = false := by
      rw [beq_eq_false_iff_ne] at nf ⊢
      exact fun q => nf q.symm
    simp [List.lookup, z, RelO, r2]
  · have z2 : (y == f2) = false := by simpa using h2
    by_cases h : y = f
    · subst h
      simp [List.lookup, RelO, r, h2]
    · have z : (y == f) = false := by simpa using h
      simp [List.lookup, z, z2, h, h2, RelO]
section
variable {X : Cx} {nm qn f f2 msg : Str} {ps : Arguments} {bd : List Stmt} {sc : Scope} {C fI cc cda : Addr} {a a2 : Expr} {ta tb : TE} {p pos : Pos} {k : Nat}
/-- what making such an error does to the state: e is new, its own dict d is tracked from now on -/
theorem mkp_of {pins : List (Addr × Obj)} {σ : L2.St} {H1 : Hp} {Q : XK} {hp h' : Heap} {g : Array GenState} {dr : Drawn} {tk tk' : Nat} {os : OsState} {e d : Addr} {m : Str → Option Value} {fs : List (Str × V)}
    (T : ErrC X.prog X.K X.mg nm qn ps bd sc C fI cc cda) (I1 : Inv X pins σ H1 ⟨hp, g, dr, tk, os⟩) (M : Made hp h' e C d m) (rel : ∀ y, RelO (fs.lookup y) (m y))
    (q1 : ∀ d, H1 d = none → Q (.ref C) (some d) (upd H1 d (.xd fs))) : MkP X pins σ Q (.ref e) ⟨h', g, dr, tk', os⟩ := by
  obtain ⟨oe, fv, hoe, hc, hd, hdat, h1⟩ := M.obj
  have hns := M.ns
  obtain ⟨G', g1, g2⟩ := restrict h' fun b => decide (b ≠ e)
  have gk : ∀ b, b ≠ e → G'.get? b = h'.get? b := fun b hb => g1 b (decide_eq_true hb)
  have ge : G'.get? e = none := g2 e (by simp)
  have old : ∀ b o, hp.get? b = some o → G'.get? b = some o := fun b o z => (gk b (Nat.ne_of_lt (Nat.lt_of_lt_of_le (Heap.lt_size z) M.new))).trans (M.keep b o z)
  have ob : ObjOk X.prog X.w (upd H1 d (.xd fs)) G' d (.xd fs) := ⟨_, hns.at (fun o z => (gk d M.dne).trans z), rel⟩
  have J : Inv X pins σ (upd H1 d (.xd fs)) ⟨G', g, dr, tk', os⟩ := I1.laid (t' := tk') old M.dbig ob
  refine ⟨e, oe, fv, ⟨G', g, dr, tk', os⟩, _, .ref C, some d, rfl, J, fun b o z => ?_, ge, hoe, ⟨hc, hd⟩, hdat, h1, ?_, rfl, I1.bare, raises_own T.exC T.tyC, q1 d (I1.hok.fresh M.dbig)⟩
  · have nb : b ≠ e := fun y => by
      have z' : G'.get? b = some o := z
      rw [y, ge] at z'
      cases z'
    exact (gk b nb).symm.trans z
  · rw [upd_ne (Ne.symm M.dne)]
    exact I1.hok.fresh M.new
theorem names_of {pins : List (Addr × Obj)} {σ : L2.St} {H : Hp} {s : Shared} (I : Inv X pins σ H s) : Names0 X.mg s.heap := by
  obtain ⟨mb, b1, b2⟩ := I.mod.blt
  exact ⟨I.mod.glob.keeps I.bk, mb, b1.keeps I.bk, b2⟩
/-- C(e) -/
def tMk1 (C : Addr) (f : Str) (ta : TA) : L2.St → Hp → XK → Prop := fun σ H Q => ta σ H fun vs H1 => ∃ v, vs = [v] ∧ ∀ d, H1 d = none → Q (.ref C) (some d) (upd H1 d (.xd [(f, v)]))
/-- C(e, e2) -/
def tMk2 (C : Addr) (f f2 : Str) (ta : TA) : L2.St → Hp → XK → Prop := fun σ H Q => ta σ H fun vs H1 => ∃ v v2, vs = [v, v2] ∧ ∀ d, H1 d = none → Q (.ref C) (some d) (upd H1 d (.xd [(f, v), (f2, v2)]))
theorem pmk1 {as : List Expr} {ta : TA} (T : ErrC X.prog X.K X.mg nm qn ps bd sc C fI cc cda) (Y : Txt1 qn f msg ps bd sc) (no : PySem.W.findIn X.K (.ref C) f = some none) (hr : Room k X.A) (ha : PA X (a :: as) ta) (hg : Gl X nm := by rfl) (hdb : (nm == ("__debug__" : Str)) = false := by decide)
    (he : starEach (a :: as) X.env = (false, eval a X.env) :: starEach as X.env := by rfl) (hpl : (backTo pos (starEach as X.env)).any (·.1) = false := by rfl) : PMk X (.Call (.Name nm p) (a :: as) [] pos) (tMk1 C f ta) := by
  intro pins s σ H Q I h
  refine wpAny_Call_Name_kw (ld_glob I hg T.gC ?_ hdb)
  refine PySem.W.callWith_K (h₀ := X.base) I.ok.mod.kin T.kC (thn (ha.run pos pins s σ H _ I h) fun us s1 ⟨vs, H1, I1, r1, v, ev, q1⟩ => ⟨I1.kIn, ?_⟩) he hpl
  subst ev
  have Nm := names_of I1
  have lim := I1.nolimit
  have KI := I1.kIn
  cases r1 with
  | @cons _ u1 _ ur rv rn =>
    cases rn
    obtain ⟨hp, g, dr, tk, os⟩ := s1
    exact wpAny_call (made_of (m := fun y => if y = f then some u1 else none) T KI lim Nm (ve_len _) (fun A' hp' x t0 R' x1 x2 x3 x4 x5 x6 x7 => init1 T Y no x1 x2 x3 x4 x5 x6 x7) (by have := hr.dp; omega) fun h' tk' e d M => mkp_of T I1 M (relO1 rv) q1)
theorem two_len (v v' : Value) : [v, v'].length ≤ sizeLine := by
  show 2 ≤ sizeLine
  decide
theorem pmk2 {as : List Expr} {ta : TA} (T : ErrC X.prog X.K X.mg nm qn ps bd sc C fI cc cda) (Y : Txt2 qn f f2 msg ps bd sc) (no : PySem.W.findIn X.K (.ref C) f = some none) (no2 : PySem.W.findIn X.K (.ref C) f2 = some none) (hr : Room k X.A) (ha : PA X (a :: as) ta) (hg : Gl X nm := by rfl) (hdb : (nm == ("__debug__" : Str)) = false := by decide)
    (he : starEach (a :: as) X.env = (false, eval a X.env) :: starEach as X.env := by rfl) (hpl : (backTo pos (starEach as X.env)).any (·.1) = false := by rfl) : PMk X (.Call (.Name nm p) (a :: as) [] pos) (tMk2 C f f2 ta) := by
  intro pins s σ H Q I h
  refine wpAny_Call_Name_kw (ld_glob I hg T.gC ?_ hdb)
  refine PySem.W.callWith_K (h₀ := X.base) I.ok.mod.kin T.kC (thn (ha.run pos pins s σ H _ I h) fun us s1 ⟨vs, H1, I1, r1, v, v2, ev, q1⟩ => ⟨I1.kIn, ?_⟩) he hpl
  subst ev
  have Nm := names_of I1
  have lim := I1.nolimit
  have KI := I1.kIn
  cases r1 with
  | @cons _ u1 _ ur rv rn =>
    cases rn with
    | @cons _ u2 _ ur2 rv2 rn2 =>
      cases rn2
      obtain ⟨hp, g, dr, tk, os⟩ := s1
      exact wpAny_call (made_of (m := fun y => if y = f2 then some u2 else if y = f then some u1 else none) T KI lim Nm (two_len _ _) (fun A' hp' x t0 R' x1 x2 x3 x4 x5 x6 x7 => init2 T Y no no2 x1 x2 x3 x4 x5 x6 x7) (by have := hr.dp; omega) fun h' tk' e d M => mkp_of T I1 M (relO2 Y.nff rv rv2) q1)
theorem xfC_of (T : ErrC X.prog X.K X.mg nm qn ps bd sc C fI cc cda) : XfC X.K C := ⟨T.ga, T.gg, T.exC, T.hdC⟩
end
end FG
namespace FG
open PySem PySem.Spec L2
/-! further rules of the hand layer -/
section
variable {X : Cx}
/-- // by any divisor but 0 below 2 ^ 9000 in size -/
def CDivX (_ j : Int) : Prop := j ≠ 0 ∧ j.natAbs.log2 < 9000
theorem op_fdivX : OpR X (binaryOp .FloorDiv) (rI CDivX fun i j => .int (i.fdiv j)) := opI fun i j _ _ _ _ _ hc q => PyProof.Rows.floordiv_int hc.1 q (.inl (PyProof.noPylong_of_log2 hc.2))
end
theorem divX {i j : Int} {b : Nat} (h : j ≠ 0) (hb : j.natAbs < 2 ^ b) (h0 : 0 < b) (h9 : b ≤ 9000) : CDivX i j := ⟨h, Nat.lt_of_lt_of_le (PySem.Flt.log2_lt_of h0 hb) h9⟩
/-! ### calls that may raise, wished for at the caller's slots -/
section
variable {X : Cx} {CX : CXT} {k : Nat} {f C : Addr} {fd : FuncData} {ps : List Str} {sp : Sp} {dvs : List V} {ds : List Value} {E : L2.St → XK} {x m : Str} {p pos apos : Pos} {e o : Expr} {es : List Expr} {ta : TE} {t : TA}
/-- C(..), its __init__ may raise -/
def tMkS (C : Addr) (sp : Sp) (dvs : List V) (E : L2.St → XK) (t : TA) : TE := fun σ H Q => t σ H fun vs H1 => ∀ z dz, H1 z = none → H1 dz = none → dz ≠ z →
  sp (.ref z :: (vs ++ dvs)) (upd (upd H1 dz (.own z)) z (.ins C dz [])) (fun v H2 => v = .non ∧ Q (.ref z) H2) (E σ)
theorem mkS_run {pins : List (Addr × Obj)} {σ : L2.St} {H : Hp} {s : Shared} {Q : VK} {us : List Value} {vs : List V} (M : Mk X.K C f) (F : FnOk X.prog X.w X.K X.mg X.base CX k f fd ps sp) (hr : Room (k + 1) X.A) (hb : Binds X.K fd ps ds) (hd : Vals dvs ds)
    (hx : PassesAt CX X σ (E σ)) (I : Inv X pins σ H s) (r : Vals vs us)
    (h : ∀ z dz, H z = none → H dz = none → dz ≠ z → sp (.ref z :: (vs ++ dvs)) (upd (upd H dz (.own z)) z (.ins C dz [])) (fun v H2 => v = .non ∧ Q (.ref z) H2) (E σ)) :
    wpAny (model X.prog X.w) X.A (call (.ref C) us) (EP X pins σ Q) X.xe s := by
  have J := Inv.made (C := C) I
  have q0 := h _ _ (I.hok.fresh (Nat.le_succ s.heap.objs.size)) (I.hok.fresh (Nat.le_refl _)) (Nat.ne_of_lt (Nat.lt_succ_self _))
  have rr : Vals (V.ref (s.heap.objs.size + 1) :: (vs ++ dvs)) (Value.ref (s.heap.objs.size + 1) :: (us ++ ds)) := .cons rfl (r.append hd)
  have ln : (Value.ref (s.heap.objs.size + 1) :: us ++ ds).length = ps.length := rr.length.symm.trans (F.len _ _ _ _ q0)
  have go := F.run _ X.stack _ _ ⟨Value.ref (s.heap.objs.size + 1) :: us, []⟩ _ _ _ (E σ) (hr.make C us []) (J.env0.make C us []) (hb _ (Value.ref (s.heap.objs.size + 1) :: us) J.kIn ln) rr q0
  refine wpAny_call (make_map (f := f) I.kIn M.makes M.init (beq_iff_eq.mp M.fn) (codeAny_mono go fun res s' z => ?_))
  match res, z with
  | .error er, z => exact hx pins _ _ er s' J z
  | .ok (.ret u), z =>
    obtain ⟨v, H2, J2, rv, ev, q2⟩ := J.after z
    subst ev
    exact ⟨rv, ⟨V.ref (s.heap.objs.size + 1), H2, J2, rfl, q2⟩⟩
  | .ok .next, z => exact False.elim z
  | .ok .brk, z => exact False.elim z
  | .ok .cont, z => exact False.elim z
theorem pe_mkS (M : Mk X.K C f) (F : FnOk X.prog X.w X.K X.mg X.base CX k f fd ps sp) (hr : Room (k + 1) X.A) (hg : Gl X x) (hm : X.mg x = some (.ref C)) (hb : Binds X.K fd ps ds) (hd : Vals dvs ds) (hx : ∀ σ, PassesAt CX X σ (E σ)) (ha : PA X (e :: es) t)
    (hdb : (x == ("__debug__" : Str)) = false := by decide) (he : starEach (e :: es) X.env = (false, eval e X.env) :: starEach es X.env := by rfl) (hpl : (backTo pos (starEach es X.env)).any (·.1) = false := by rfl) :
    PE X (.Call (.Name x p) (e :: es) [] pos) (tMkS C sp dvs E t) := ⟨fun pins s σ H Q I h => wpAny_Call_Name_kw (ld_glob I hg hm (PySem.W.callWith_K (h₀ := X.base) I.ok.mod.kin M.kp (thn (ha.run pos pins s σ H _ I h) fun us s1 ⟨vs, H1, I1, r, q⟩ => ⟨I1.kIn, mkS_run M F hr hb hd (hx σ) I1 r q⟩) he hpl) hdb)⟩
/-- o.m(e, ..) that may raise -/
def tMtS (C : Addr) (m : Str) (sp : Sp) (dvs : List V) (E : L2.St → XK) (ta : TE) (t : TA) : TE := fun σ H Q => ta σ H fun y H1 => ∃ a dx fs, y = .ref a ∧ H1 a = some (.ins C dx fs) ∧ fs.lookup m = none ∧ t σ H1 fun vs H2 => sp (.ref a :: (vs ++ dvs)) H2 Q (E σ)
theorem pe_mtS {pl : Sem Bool} (he : PE X o ta) (c : Cls X.K C) (hm : Meth X.K C m f) (F : FnOk X.prog X.w X.K X.mg X.base CX k f fd ps sp) (hr : Room k X.A) (hb : Binds X.K fd ps ds) (hd : Vals dvs ds) (hx : ∀ σ, PassesAt CX X σ (E σ)) (ha : PA X (e :: es) t)
    (hst : starEach (e :: es) X.env = (false, eval e X.env) :: starEach es X.env := by rfl) (hpl : (backTo pos (starEach es X.env)).any (·.1) = false := by rfl)
    (ht : eval (.Call (.Attribute o m apos) (e :: es) [] pos) X.env = (do
      let ov ← eval o X.env
      standAt apos.atName
      let (fn, first) ← holding [ov] (getMethod ov m pl)
      callWith pos fn first (backTo pos (starEach (e :: es) X.env)) (backToKw pos (keywordEach [] X.env))) := by rfl) :
    PE X (.Call (.Attribute o m apos) (e :: es) [] pos) (tMtS C m sp dvs E ta t) := by
  refine ⟨fun pins s σ H Q I h => PySem.W.methodCall_KW (pl := pl) (thn (he.run pins s σ H _ I h) fun u s1 ⟨y, H1, I1, ry, a, dx, fs, ey, ea, l, q⟩ => ?_) ht⟩
  subst ey
  cases (show u = Value.ref a from ry)
  refine getmeth_ok I1 ea c hm l (PySem.W.callWith_K (first := [.ref a]) (h₀ := X.base) I.ok.mod.kin hm.kp (thn (ha.run pos pins s1 σ H1 _ I1 q) fun us s2 ⟨vs, H2, I2, r, q2⟩ => ⟨I2.kIn, ?_⟩) hst hpl)
  exact run_fnSD (us := .ref a :: us) (vs := .ref a :: vs) F hr hb hd (hx σ) I2 (.cons rfl r) q2
theorem pe_mt0S {pl : Sem Bool} (he : PE X o ta) (c : Cls X.K C) (hm : Meth X.K C m f) (F : FnOk X.prog X.w X.K X.mg X.base CX k f fd ps sp) (hr : Room k X.A) (hb : Binds X.K fd ps ds) (hd : Vals dvs ds) (hx : ∀ σ, PassesAt CX X σ (E σ))
    (ht : eval (.Call (.Attribute o m apos) [] [] pos) X.env = (do
      let ov ← eval o X.env
      standAt apos.atName
      let (fn, first) ← holding [ov] (getMethod ov m pl)
      callWith pos fn first (backTo pos (starEach [] X.env)) (backToKw pos (keywordEach [] X.env))) := by rfl) :
    PE X (.Call (.Attribute o m apos) [] [] pos) (tMtS C m sp dvs E ta tNil) := by
  refine ⟨fun pins s σ H Q I h => PySem.W.methodCall_KW (pl := pl) (thn (he.run pins s σ H _ I h) fun u s1 ⟨y, H1, I1, ry, a, dx, fs, ey, ea, l, q⟩ => ?_) ht⟩
  subst ey
  cases (show u = Value.ref a from ry)
  exact getmeth_ok I1 ea c hm l (PySem.W.callWith_K0 (first := [.ref a]) I1.kIn hm.kp (run_fnSD (us := [.ref a]) (vs := [.ref a]) F hr hb hd (hx σ) I1 (.cons rfl .nil) q))
end
/-! ### isinstance of the caught error -/
/-- isinstance(e, c): e the error at a that the suite holds, cls its class, d its dict -/
def rIsX (K : PySem.W.Frag) (a : Addr) (cls : Value) (d : Option Addr) : List V → Hp → VK → Prop := fun xs H Q => ∃ (c : V) (cv : Value) (D dd : Addr) (fs : List (Str × V)) (b : Bool), xs = [.ref a, c] ∧ ClsV c cv ∧ cls = .ref D ∧ ExcC K D ∧ d = some dd ∧ H dd = some (.xd fs) ∧ PySem.W.kitOne K (.ref D) cv = some b ∧ Q (.bl b) H
theorem call_isX {X : Cx} {a : Addr} {cls : Value} {d : Option Addr} {oe : Obj} {pn : List (Addr × Obj)} (hz : Zc cls d oe) (hf : ∃ vs, oe.data = .fields vs) : CallR (X.suite a ((a, oe) :: pn)) (.builtin "isinstance") (rIsX X.K a cls d) := by
  intro pins s σ H xs us Q I r h
  obtain ⟨c, cv, D, dd, fs, b, rfl, hc, rfl, C, rfl, hx, e, q⟩ := h
  obtain ⟨u1, u2, rfl, r1, r2⟩ := vals2 r
  cases (show u1 = Value.ref a from r1)
  have e2 := hc.eq r2
  subst e2
  obtain ⟨hget, _⟩ := I.pin (a, oe) (List.mem_append_left _ List.mem_cons_self)
  obtain ⟨vs, hv⟩ := hf
  obtain ⟨mA, hns, _⟩ := (show ObjOk X.prog X.w H s.heap dd (.xd fs) from I.hok dd _ hx)
  obtain ⟨od, ho, _⟩ := lookIn_ns hns
  have J : PySem.W.InstAt s.heap a oe D (some od) := ⟨hget, hz.1, by unfold PySem.W.notCls; rw [hv] <;> rfl, by rw [hz.2]; exact ho⟩
  obtain ⟨cd, hcd, _⟩ := PySem.W.any_some C.hd
  have Z : PySem.W.KitX X.K (.ref a) (.ref D) (fun h => PySem.W.InstAt h a oe D (some od)) := PySem.W.kitx_exc (by rw [hcd]; rfl) C.hg C.hk C.hs C.ha C.hn C.ht C.hm
  exact PySem.W.kia_one Z I.kIn J e (fun z => nomatch z) fun tk => ⟨.bl b, H, I.kept (t' := tk) fun _ _ z => z, rfl, q⟩
end FG
namespace FG
open PySem PySem.Spec L2
/-! ### loops, by names -/
def ForR (lo : Int) (n : Nat) (g : TG) (tb : TS) (D : Ends) (σ : L2.St) (H : Hp) : Prop := ∃ W : Nat → Nat → L2.St → Hp → Prop, (∃ m, W 0 m σ H) ∧ ∀ i m σ H, W i m σ H →
  ((Itr lo n).stop i H ∧ D.nx σ H) ∨ ((Itr lo n).go i H ∧ ∃ N : L2.St → Hp → Prop, (∀ σ' H', N σ' H' → ∃ m', m' < m ∧ W (i + 1) m' σ' H') ∧ ∀ x H', (Itr lo n).yld i H x H' → g x σ H' fun σ2 H2 => tb { D with nx := N, ct := N, bk := D.nx } σ2 H2)
def ForL (K : PySem.W.Frag) (a : Addr) (g : TG) (tb : TS) (D : Ends) (σ : L2.St) (H : Hp) : Prop := ∃ W : Nat → Nat → L2.St → Hp → Prop, (∃ m, W 0 m σ H) ∧ ∀ i m σ H, W i m σ H →
  ((Itl K a).stop i H ∧ D.nx σ H) ∨ ((Itl K a).go i H ∧ ∃ N : L2.St → Hp → Prop, (∀ σ' H', N σ' H' → ∃ m', m' < m ∧ W (i + 1) m' σ' H') ∧ ∀ x H', (Itl K a).yld i H x H' → g x σ H' fun σ2 H2 => tb { D with nx := N, ct := N, bk := D.nx } σ2 H2)
section
variable {K : PySem.W.Frag} {σ : L2.St} {H : Hp} {D : Ends} {g : TG} {tb : TS} {tar : TA} {tl : TE}
theorem w_forR1 (k : tar σ H fun vs H1 => ∃ j : Int, vs = [.int j] ∧ -(2 ^ 62) ≤ j ∧ j < 2 ^ 62 ∧ ForR 0 j.toNat g tb D σ H1) : tFor (iRng1 tar) g tb D σ H := k
theorem w_forR2 (k : tar σ H fun vs H1 => ∃ i j : Int, vs = [.int i, .int j] ∧ (-(2 ^ 62) ≤ i ∧ i < 2 ^ 62 ∧ -(2 ^ 62) ≤ j ∧ j < 2 ^ 62) ∧ ForR i (j - i).toNat g tb D σ H1) : tFor (iRng2 tar) g tb D σ H := k
theorem w_forL (k : tl σ H fun x H1 => ∃ a, x = .ref a ∧ (∃ xs, SqL K H1 a xs) ∧ ForL K a g tb D σ H1) : tFor (iList K tl) g tb D σ H := k
/-- the turns of a range, by what holds between them -/
theorem turnsR {lo : Int} {n : Nat} (Pv : Nat → L2.St → Hp → Prop) (h0 : Pv 0 σ H) (hs : ∀ (i : Nat) σ H, i < n → Pv i σ H → g (.int (lo + i)) σ H fun σ2 H2 => tb { D with nx := Pv (i + 1), ct := Pv (i + 1), bk := D.nx } σ2 H2) (hd : ∀ σ H, Pv n σ H → D.nx σ H) : ForR lo n g tb D σ H := for_range Pv h0 hs hd
theorem turnsL {a : Addr} {xs : List V} (Pv : Nat → L2.St → Hp → Prop) (h0 : Pv 0 σ H) (hl : ∀ i σ H, i ≤ xs.length → Pv i σ H → SqL K H a xs) (hs : ∀ (i : Nat) x σ H, xs[i]? = some x → Pv i σ H → g x σ H fun σ2 H2 => tb { D with nx := Pv (i + 1), ct := Pv (i + 1), bk := D.nx } σ2 H2) (hd : ∀ σ H, Pv xs.length σ H → D.nx σ H) : ForL K a g tb D σ H := for_list Pv h0 hl hs hd
end
/-! ### readings of built-ins by names -/
def rAbs : List V → Hp → VK → Prop := fun xs H Q => ∃ i, xs = [.int i] ∧ Q (.int (if i < 0 then -i else i)) H
def rInt1 : List V → Hp → VK → Prop := fun xs H Q => (∃ i, xs = [.int i] ∧ Q (.int i) H) ∨ ∃ k, xs = [.bl k] ∧ Q (.int (if k then 1 else 0)) H
def rLenQ (K : PySem.W.Frag) : List V → Hp → VK → Prop := fun xs H Q => ∃ p ys, xs = [.ref p] ∧ (SqL K H p ys ∨ SqT K H p ys) ∧ Q (.int ys.length) H
def rLenX : List V → Hp → VK → Prop := fun xs H Q => ∃ z : Str, xs = [.str z] ∧ z.length ≤ sizeLine ∧ Q (.int z.length) H
def rListQ (K : PySem.W.Frag) : List V → Hp → VK → Prop := fun xs H Q => ∃ p ys, xs = [.ref p] ∧ (SqL K H p ys ∨ SqT K H p ys) ∧ ∀ l, H l = none → Q (.ref l) (upd H l (.lst ys))
def rMin2 : List V → Hp → VK → Prop := fun xs H Q => ∃ i j, xs = [.int i, .int j] ∧ Q (.int (if j < i then j else i)) H
def rMax2 : List V → Hp → VK → Prop := fun xs H Q => ∃ i j, xs = [.int i, .int j] ∧ Q (.int (if j > i then j else i)) H
def rIsNo : R2 := fun x y H Q => y = .non ∧ Q (.bl (decide (x = .non))) H
def rNotNo : R2 := fun x y H Q => y = .non ∧ Q (.bl (!decide (x = .non))) H
def rAddStr : R2 := fun x y H Q => ∃ i j : Str, x = .str i ∧ y = .str j ∧ i.length + j.length ≤ sizeLine ∧ Q (.str (i ++ j)) H
def rStrI : List V → Hp → VK → Prop := fun xs H Q => ∃ i : Int, xs = [.int i] ∧ i.natAbs.log2 < 1920 ∧ Q (.str (toString i)) H
def rIntS : List V → Hp → VK → Prop := fun xs H Q => ∃ (a : Str) (n : Int), xs = [.str a] ∧ PySem.intText? a = some n ∧ a.length ≤ 640 ∧ Q (.int n) H
section
variable {X : Cx}
theorem qc_abs : CallR X (.builtin "abs") rAbs := call_abs
theorem qc_int1 : CallR X (.type "int") rInt1 := call_int1
theorem qc_len : CallR X (.builtin "len") (rLenQ X.K) := call_len_seq
theorem qc_lenX : CallR X (.builtin "len") rLenX := call_len_str
theorem qc_list : CallR X (.type "list") (rListQ X.K) := call_list_of
theorem qc_min2 (hc : X.calm = true) : CallR X (.builtin "min") rMin2 := call_min2 hc
theorem qc_max2 (hc : X.calm = true) : CallR X (.builtin "max") rMax2 := call_max2 hc
theorem qo_isN : OpR X (compareOp .Is) rIsNo := op_isN
theorem qo_notN : OpR X (compareOp .IsNot) rNotNo := op_notN
theorem qo_addS : OpR X (binaryOp .Add) rAddStr := op_add_str
theorem qc_strI : CallR X (.type "str") rStrI := call_str_int
theorem qc_intS : CallR X (.type "int") rIntS := call_int_str
end
/-! ### stepping through a reading: one lemma a construct -/
section
variable {K : PySem.W.Frag} {σ σ' : L2.St} {H : Hp} {Q : VK} {D : Ends} {ta tb te tc : TE} {tt tu : TT} {t u : TS} {tar : TA} {v x y : V} {i : Nat} {g : TG} {r r' : R2} {QB : Bool → Hp → Prop} {QA : List V → Hp → Prop} {QS : L2.St → Hp → Prop}
theorem w_var (h : σ[i]? = some (some v)) (k : Q v H) : tVar i σ H Q := ⟨v, h, k⟩
theorem w_c (k : Q v H) : tC v σ H Q := k
theorem w_op (k : ta σ H fun x H1 => tb σ H1 fun y H2 => r x y H2 Q) : tOp r ta tb σ H Q := k
theorem w_un {r1 : V → Hp → VK → Prop} (k : ta σ H fun x H1 => r1 x H1 Q) : tUn r1 ta σ H Q := k
theorem w_U {g : Int → V} {i : Int} (k : Q (g i) H) : rU g (.int i) H Q := ⟨i, rfl, k⟩
theorem w_I0 {g : Int → Int → V} {i j : Int} (k : Q (g i j) H) : rI0 g (.int i) (.int j) H Q := ⟨i, j, rfl, rfl, k⟩
theorem w_I {C : Int → Int → Prop} {g : Int → Int → V} {i j : Int} (c : C i j) (k : Q (g i j) H) : rI C g (.int i) (.int j) H Q := ⟨i, j, rfl, rfl, c, k⟩
theorem w_eq (c : scal x y = true) (k : Q (.bl (decide (x = y))) H) : rEq x y H Q := ⟨c, k⟩
theorem w_ne (c : scal x y = true) (k : Q (.bl (!decide (x = y))) H) : rNe x y H Q := ⟨c, k⟩
theorem w_test (k : te σ H fun z H1 => ∃ b, z = .bl b ∧ QB b H1) : tTest te σ H QB := k
theorem w_tB (k : te σ H fun z H1 => ∃ b, z = .bl b ∧ QB b H1) : tB te σ H QB := k
theorem w_bl {b : Bool} (k : QB b H) : ∃ b', V.bl b = .bl b' ∧ QB b' H := ⟨b, rfl, k⟩
theorem w_blE {b : Bool} {P : Bool → Prop} (k : P b) : ∃ b', V.bl b = .bl b' ∧ P b' := ⟨b, rfl, k⟩
theorem w_and (k : tt σ H fun c H1 => if c = true then tu σ H1 QB else QB false H1) : tAnd tt tu σ H QB := k
theorem w_or (k : tt σ H fun c H1 => if c = true then QB true H1 else tu σ H1 QB) : tOr tt tu σ H QB := k
theorem w_not (k : tt σ H fun c H1 => QB (!c) H1) : tNot tt σ H QB := k
theorem w_andV (k : ta σ H fun x H1 => ∃ c, x = .bl c ∧ if c = true then tb σ H1 Q else Q (.bl false) H1) : tAndV ta tb σ H Q := k
theorem w_orV (k : ta σ H fun x H1 => ∃ c, x = .bl c ∧ if c = true then Q (.bl true) H1 else tb σ H1 Q) : tOrV ta tb σ H Q := k
theorem w_notV (k : ta σ H fun x H1 => ∃ c, x = .bl c ∧ Q (.bl (!c)) H1) : tNotV ta σ H Q := k
theorem w_if (k : tt σ H fun c H1 => if c = true then ta σ H1 Q else tb σ H1 Q) : tIf tt ta tb σ H Q := k
theorem w_nil (k : QA [] H) : tNil σ H QA := k
theorem w_cons (k : ta σ H fun x H1 => tar σ H1 fun xs H2 => QA (x :: xs) H2) : tCons ta tar σ H QA := k
theorem w_tup (k : tar σ H fun xs H1 => xs.length ≤ sizeLine ∧ ∀ p, H1 p = none → Q (.ref p) (upd H1 p (.tup xs))) : tTup tar σ H Q := k
theorem w_lst (k : tar σ H fun xs H1 => xs.length ≤ sizeLine ∧ ∀ p, H1 p = none → Q (.ref p) (upd H1 p (.lst xs))) : tLst tar σ H Q := k
theorem w_cb {r : List V → Hp → VK → Prop} (k : tar σ H fun vs H1 => r vs H1 Q) : tCB r tar σ H Q := k
theorem w_call {sp : Sp} {dvs : List V} {E : XK} (k : tar σ H fun vs H1 => sp (vs ++ dvs) H1 Q E) : tCall sp dvs E tar σ H Q := k
theorem w_callSD {sp : Sp} {dvs : List V} {E : L2.St → XK} (k : tar σ H fun vs H1 => sp (vs ++ dvs) H1 Q (E σ)) : tCallSD sp dvs E tar σ H Q := k
theorem w_callS {sp : Sp} {E : L2.St → XK} (k : tar σ H fun vs H1 => sp vs H1 Q (E σ)) : tCallS sp E tar σ H Q := k
theorem w_meth {C : Addr} {m : Str} {sp : Sp} {dvs : List V} {E : XK} (k : ta σ H fun x H1 => ∃ a dx fs, x = .ref a ∧ H1 a = some (.ins C dx fs) ∧ fs.lookup m = none ∧ tar σ H1 fun vs H2 => sp (x :: (vs ++ dvs)) H2 Q E) : tMeth C m sp dvs E ta tar σ H Q := k
theorem w_chain (k : ta σ H fun x H1 => tb σ H1 fun y H2 => r x y H2 fun z H3 => ∃ k, z = .bl k ∧ (if k = true then tc σ H3 fun w' H4 => r' y w' H4 Q else Q (.bl false) H3)) : tChain r r' ta tb tc σ H Q := k
/-- statements -/
theorem w_seq (k : t { D with nx := u D } σ H) : tSeq t u D σ H := k
theorem w_next (k : D.nx σ H) : tNext D σ H := k
theorem w_drop (k : te σ H fun _ H1 => D.nx σ H1) : tDrop te D σ H := k
theorem w_ret (k : te σ H D.rt) : tRet te D σ H := k
theorem w_retN (k : D.rt .non H) : tRetN D σ H := k
theorem w_ifs (k : tt σ H fun b H1 => if b = true then t D σ H1 else u D σ H1) : tIfS tt t u D σ H := k
theorem w_asg (k : te σ H fun x H1 => g x σ H1 D.nx) : tAsg te g D σ H := k
theorem w_gname (e : σ.set i (some v) = σ') (k : QS σ' H) : gName i v σ H QS := by
  subst e
  exact k
theorem w_par {j : Nat} (k : tar σ H fun vs H1 => ∃ v w, vs = [v, w] ∧ D.nx ((σ.set i (some v)).set j (some w)) H1) : tPar i j tar D σ H := k
theorem w_ix {p : Addr} {xs : List V} {i : Int} (h : SqL K H p xs) (e : atI xs i = some v) (k : Q v H) : rIxL K (.ref p) (.int i) H Q := ⟨p, xs, i, v, rfl, rfl, h, e, k⟩
theorem w_ixT {p : Addr} {xs : List V} {i : Int} (h : SqT K H p xs) (e : atI xs i = some v) (k : Q v H) : rIxT K (.ref p) (.int i) H Q := ⟨p, xs, i, v, rfl, rfl, h, e, k⟩
theorem w_gsub {to ti : TE} {s : TSet} (k : to σ H fun o H1 => ti σ H1 fun i H2 => s o i v H2 fun H3 => QS σ H3) : gSub to ti s v σ H QS := k
theorem w_setL {p : Addr} {xs : List V} {k : Int} {j : Nat} {P : Hp → Prop} (h : H p = some (.lst xs)) (e : ixN xs.length k = some j) (q : P (upd H p (.lst (xs.set j v)))) : rSetL (.ref p) (.int k) v H P := ⟨p, xs, k, j, rfl, rfl, h, e, q⟩
theorem w_fld {f : Str} (k : ta σ H fun x H1 => ∃ a C dx fs v, x = .ref a ∧ H1 a = some (.ins C dx fs) ∧ Cls K C ∧ NoAttr K C f ∧ fs.lookup f = some v ∧ Q v H1) : tFld K ta f σ H Q := k
theorem w_sfld {f : Str} (k : tb σ H fun y H1 => ta σ H1 fun x H2 => ∃ a C dx fs, x = .ref a ∧ H2 a = some (.ins C dx fs) ∧ Cls K C ∧ NoAttr K C f ∧ fs.length < 1000 ∧ D.nx σ (upd H2 a (.ins C dx (putF f y fs)))) : sFld K ta tb f D σ H := k
theorem w_sl {r : V → Option Int → Option Int → Hp → VK → Prop} {tl th : TO} (k : te σ H fun x H1 => tl σ H1 fun l H2 => th σ H2 fun u H3 => r x l u H3 Q) : tSl r te tl th σ H Q := k
theorem w_nopart {QO : Option Int → Hp → Prop} (k : QO none H) : tNoPart σ H QO := k
theorem w_part {QO : Option Int → Hp → Prop} (k : te σ H fun x H1 => ∃ i, x = .int i ∧ QO (some i) H1) : tPart te σ H QO := k
theorem w_exI {P : Int → Prop} {i : Int} (k : P i) : ∃ i', V.int i = .int i' ∧ P i' := ⟨i, rfl, k⟩
theorem w_exR {P : Addr → Prop} {p : Addr} (k : P p) : ∃ a, V.ref p = .ref a ∧ P a := ⟨p, rfl, k⟩
theorem w_slL {p : Addr} {xs : List V} {lo hi : Option Int} (h : SqL K H p xs) (k : ∀ q, H q = none → Q (.ref q) (upd H q (.lst (cutV xs lo hi)))) : rSlL K (.ref p) lo hi H Q := ⟨p, xs, rfl, h, k⟩
theorem w_mks {C : Addr} {sp : Sp} {dvs : List V} {E : L2.St → XK} (k : tar σ H fun vs H1 => ∀ z dz, H1 z = none → H1 dz = none → dz ≠ z → sp (.ref z :: (vs ++ dvs)) (upd (upd H1 dz (.own z)) z (.ins C dz [])) (fun v H2 => v = .non ∧ Q (.ref z) H2) (E σ)) : tMkS C sp dvs E tar σ H Q := k
theorem w_abs {i : Int} (k : Q (.int (if i < 0 then -i else i)) H) : rAbs [.int i] H Q := ⟨i, rfl, k⟩
theorem w_int1 {i : Int} (k : Q (.int i) H) : rInt1 [.int i] H Q := .inl ⟨i, rfl, k⟩
theorem w_isi {c : V} {t' u' : Value} {b : Bool} (h1 : ClsV c u') (h2 : TyX K H x t') (h3 : PySem.W.kitOne K t' u' = some b) (k : Q (.bl b) H) : rIsi K [x, c] H Q := ⟨x, c, t', u', b, rfl, h1, h2, h3, k⟩
theorem w_lenS {p : Addr} {xs : List V} (h : SqL K H p xs) (k : Q (.int xs.length) H) : rLenQ K [.ref p] H Q := ⟨p, xs, rfl, .inl h, k⟩
theorem w_lenT {p : Addr} {xs : List V} (h : SqT K H p xs) (k : Q (.int xs.length) H) : rLenQ K [.ref p] H Q := ⟨p, xs, rfl, .inr h, k⟩
theorem w_lenX {z : Str} (h : z.length ≤ sizeLine) (k : Q (.int z.length) H) : rLenX [.str z] H Q := ⟨z, rfl, h, k⟩
theorem w_listS {p : Addr} {xs : List V} (h : SqL K H p xs) (k : ∀ l, H l = none → Q (.ref l) (upd H l (.lst xs))) : rListQ K [.ref p] H Q := ⟨p, xs, rfl, .inl h, k⟩
theorem w_min2 {i j : Int} (k : Q (.int (if j < i then j else i)) H) : rMin2 [.int i, .int j] H Q := ⟨i, j, rfl, k⟩
theorem w_max2 {i j : Int} (k : Q (.int (if j > i then j else i)) H) : rMax2 [.int i, .int j] H Q := ⟨i, j, rfl, k⟩
theorem w_isN (k : Q (.bl (decide (x = .non))) H) : rIsNo x .non H Q := ⟨rfl, k⟩
theorem w_notN (k : Q (.bl (!decide (x = .non))) H) : rNotNo x .non H Q := ⟨rfl, k⟩
theorem w_addS {i j : Str} (h : i.length + j.length ≤ sizeLine) (k : Q (.str (i ++ j)) H) : rAddStr (.str i) (.str j) H Q := ⟨i, j, rfl, rfl, h, k⟩
theorem w_strI {i : Int} (h : i.natAbs.log2 < 1920) (k : Q (.str (toString i)) H) : rStrI [.int i] H Q := ⟨i, rfl, h, k⟩
theorem w_intS {z : Str} {n : Int} (h : PySem.intText? z = some n) (h2 : z.length ≤ 640) (k : Q (.int n) H) : rIntS [.str z] H Q := ⟨z, n, rfl, h, h2, k⟩
end
/-- raise, by a name -/
def tRs (W : WX) (t : L2.St → Hp → XK → Prop) : TS := fun _ σ H => t σ H fun cls d H' => W cls d σ H'
theorem ps_rs {X : Cx} {W : WX} {e : Expr} {t : L2.St → Hp → XK → Prop} {pos : Pos} (hc : X.calm = true) (tk : Takes X W) (he : PMk X e t) : PS X (.Raise (some e) none pos) (tRs W t) := ps_raise hc tk he
section
variable {σ : L2.St} {H : Hp} {D : Ends} {W : WX} {t : L2.St → Hp → XK → Prop} {QX : XK} {ta tb : TE} {C : Addr} {f f2 : Str}
theorem w_rs (k : t σ H fun cls d H' => W cls d σ H') : tRs W t D σ H := k
theorem w_mk1 (k : ta σ H fun x H1 => ∃ v, [x] = [v] ∧ ∀ d, H1 d = none → QX (.ref C) (some d) (upd H1 d (.xd [(f, v)]))) : tMk1 C f (tCons ta tNil) σ H QX := k
theorem w_mk2 (k : ta σ H fun x H1 => tb σ H1 fun y H2 => ∃ v v2, [x, y] = [v, v2] ∧ ∀ d, H2 d = none → QX (.ref C) (some d) (upd H2 d (.xd [(f, v), (f2, v2)]))) : tMk2 C f f2 (tCons ta (tCons tb tNil)) σ H QX := k
theorem w_one {x : V} {P : V → Prop} (k : P x) : ∃ v, [x] = [v] ∧ P v := ⟨x, rfl, k⟩
theorem w_two {x y : V} {P : V → V → Prop} (k : P x y) : ∃ v v2, [x, y] = [v, v2] ∧ P v v2 := ⟨x, y, rfl, k⟩
end
theorem it_pos {c A B : Prop} [Decidable c] (hc : c) (h : A) : if decide c = true then A else B := by
  rw [decide_eq_true hc]
  exact iteT h
theorem it_neg {c A B : Prop} [Decidable c] (hc : ¬ c) (h : B) : if decide c = true then A else B := by
  rw [decide_eq_false hc]
  exact iteF h
theorem it_dec {c A B : Prop} [Decidable c] (h1 : c → A) (h2 : ¬ c → B) : if decide c = true then A else B := by
  by_cases h : c
  · exact it_pos h (h1 h)
  · exact it_neg h (h2 h)
theorem it_npos {c A B : Prop} [Decidable c] (hc : c) (h : B) : if (!decide c) = true then A else B := by
  rw [decide_eq_true hc]
  exact iteF h
theorem it_nneg {c A B : Prop} [Decidable c] (hc : ¬ c) (h : A) : if (!decide c) = true then A else B := by
  rw [decide_eq_false hc]
  exact iteT h
theorem it_ndec {c A B : Prop} [Decidable c] (h1 : c → B) (h2 : ¬ c → A) : if (!decide c) = true then A else B := by
  by_cases h : c
  · exact it_npos h (h1 h)
  · exact it_nneg h (h2 h)
theorem iteNT {A B : Prop} (h : B) : if (!true) = true then A else B := iteF h
theorem iteNF {A B : Prop} (h : A) : if (!false) = true then A else B := iteT h
theorem it_b {b : Bool} {A B : Prop} (h1 : b = true → A) (h2 : b = false → B) : if b = true then A else B := by
  cases b
  · exact iteF (h2 rfl)
  · exact iteT (h1 rfl)
/-- heaps -/
theorem upd_old {H : Hp} {a p : Addr} {o u : HO} (h : H a = some o) (n : H p = none) : upd H p u a = some o := by
  rw [upd_ne (ne_of_none h n)]
  exact h
theorem Same.upd {H H' : Hp} {p : Addr} {o : HO} (s : Same H H') (n : H p = none) : Same H (upd H' p o) := fun b u e => by
  rw [upd_ne (ne_of_none e n)]
  exact s b u e
theorem Same.new {H : Hp} {p : Addr} {o : HO} (n : H p = none) : Same H (L2.upd H p o) := fun b u e => upd_old e n
theorem Same.fld {H H' : Hp} (s : Same H H') {p : Addr} (n : H' p = none) : H p = none := s.free n
/-- promises of defs of one to four parameters -/
def sp1 (f : V → Hp → VK → XK → Prop) : Sp := fun vs H Q E => ∃ x, vs = [x] ∧ f x H Q E
def sp2 (f : V → V → Hp → VK → XK → Prop) : Sp := fun vs H Q E => ∃ x y, vs = [x, y] ∧ f x y H Q E
def sp3 (f : V → V → V → Hp → VK → XK → Prop) : Sp := fun vs H Q E => ∃ x y z, vs = [x, y, z] ∧ f x y z H Q E
def sp4 (f : V → V → V → V → Hp → VK → XK → Prop) : Sp := fun vs H Q E => ∃ x y z w, vs = [x, y, z, w] ∧ f x y z w H Q E
theorem sp1_len {f} {vs H Q E} (h : sp1 f vs H Q E) : vs.length = 1 := by obtain ⟨_, rfl, _⟩ := h; rfl
theorem sp2_len {f} {vs H Q E} (h : sp2 f vs H Q E) : vs.length = 2 := by obtain ⟨_, _, rfl, _⟩ := h; rfl
theorem sp3_len {f} {vs H Q E} (h : sp3 f vs H Q E) : vs.length = 3 := by obtain ⟨_, _, _, rfl, _⟩ := h; rfl
theorem sp4_len {f} {vs H Q E} (h : sp4 f vs H Q E) : vs.length = 4 := by obtain ⟨_, _, _, _, rfl, _⟩ := h; rfl
end FG
namespace FG
open PySem PySem.Spec L2
/-- what a class must say so that isinstance asks its instances -/
structure InsC (K : PySem.W.Frag) (C : Addr) : Prop where
  ha : PySem.W.findIn K (.ref C) "__class__" = some (some (.builtin "object.__class__"))
  hn : PySem.W.specialIn K (.builtin "object.__class__") "__get__" = some (some (.builtin "getset_descriptor.__get__"))
  htk : PySem.W.takesIn K (.builtin "object.__class__") = some true
  hm : PySem.W.mroIn K C (.type "object") = some true
theorem ty_ins {K : PySem.W.Frag} {H : Hp} {a C dx : Addr} {fs : List (Str × V)} (e : H a = some (.ins C dx fs)) (c : Cls K C) (I : InsC K C) : TyX K H (.ref a) (.ref C) := .base (.ins e c I.ha I.hn I.htk I.hm)
theorem kit_self {K : PySem.W.Frag} {C : Addr} : PySem.W.kitOne K (.ref C) (.ref C) = some true := by
  unfold PySem.W.kitOne
  rw [if_pos (by simp)]
/-- the arguments of a def with defaults -/
theorem bindsD {K : PySem.W.Frag} {x qual : Str} {params : Arguments} {body : List Stmt} {scope : Scope} {tp f : Addr} {oc kV doc pm cd ct tc : Value} {an od td : Option Addr} {osl ts : Array (Option Value)} {its ds : List Value} {tn : Nat} {ps : List Str}
    (_l : K.lookup f = some ⟨oc, od, .func (PySem.W.fnOf x qual params body scope (.ref tp) kV doc pm an cd ct), osl⟩) (t : K.lookup tp = some ⟨tc, td, .seq its.toArray tn, ts⟩)
    (h : ∀ us : List Value, us.length + ds.length = ps.length → ∃ k, bindArgs (PySem.W.fnOf x qual params body scope (.ref tp) kV doc pm an cd ct) ⟨us, []⟩ = seqItems? (.ref tp) >>= k ∧ k (some its.toArray) = pure (ps.zip (us ++ ds))) :
    Binds K (PySem.W.fnOf x qual params body scope (.ref tp) kV doc pm an cd ct) ps ds := by
  intro s us X hl
  rw [List.length_append] at hl
  obtain ⟨k, e1, e2⟩ := h us hl
  refine BindsTo.of_looks fun M => ?_
  rw [e1]
  exact looks_items X t rfl (.of_pure e2)
/-- an item at a drawn place -/
theorem atI_mem {α : Type} {xs : List α} {r : Int} (h0 : 0 ≤ r) (h1 : r < xs.length) : ∃ v, atI xs r = some v ∧ v ∈ xs := by
  obtain ⟨j, rfl⟩ := Int.eq_ofNat_of_zero_le h0
  have hj : j < xs.length := Int.ofNat_lt.mp h1
  exact ⟨xs[j], atI_nat (List.getElem?_eq_getElem hj), List.getElem_mem hj⟩
theorem keep_of {H H' : Hp} {b c : Addr} {o : HO} (fr : ∀ c, c ≠ b → H' c = H c) (h : H c = some o) (n : c ≠ b) : H' c = some o := (fr c n).trans h
theorem small_mul {i j : Int} (hi : i.natAbs < 2 ^ 1000) (hj : j.natAbs < 2 ^ 1000) : CMulW i j := wide_mul hi hj (by decide) (by decide) (by decide)
theorem small_le {i : Int} {n : Nat} (h : i.natAbs < 2 ^ n) (hn : n ≤ 8000) : i.natAbs < 2 ^ 8000 := Nat.lt_of_lt_of_le h (Nat.pow_le_pow_right (by decide) hn)
theorem mul_small {i j : Int} (hi : i.natAbs < 2 ^ 1000) (hj : j.natAbs < 2 ^ 1000) : (i * j).natAbs < 2 ^ 8000 := small_le (wide_lt hi hj) (by decide)
end FG
namespace FG
open PySem PySem.W PySem.Calls
/-! operators of an own class: a + b, a + n, n + a, -a, abs(a) -/
section
variable {prog : Program} {w : World} {M : Model} {A : Around} {E : Value → Shared → Prop} {hp : Heap} {g : Array GenState} {d : Drawn} {tk : Nat} {os : OsState} {x C dx : Addr} {i : Int} {t : Tok} {P : PySem.Fin → Shared → Prop}
theorem decl_add (hx : hp.get? x = some (instObj C dx)) (hq : P (.done (.ret .notImplemented)) ⟨hp, g, d, tk, os⟩) : wpAny M A (Builtin.«int.__add__» ⟨[.int i t, .ref x], []⟩) P E ⟨hp, g, d, tk, os⟩ := by
  wp_walk
  exact hq
theorem decl_sub (hx : hp.get? x = some (instObj C dx)) (hq : P (.done (.ret .notImplemented)) ⟨hp, g, d, tk, os⟩) : wpAny M A (Builtin.«int.__sub__» ⟨[.int i t, .ref x], []⟩) P E ⟨hp, g, d, tk, os⟩ := by
  wp_walk
  exact hq
theorem decl_mul (hx : hp.get? x = some (instObj C dx)) (hq : P (.done (.ret .notImplemented)) ⟨hp, g, d, tk, os⟩) : wpAny M A (Builtin.«int.__mul__» ⟨[.int i t, .ref x], []⟩) P E ⟨hp, g, d, tk, os⟩ := by
  wp_walk
  exact hq
end
/-- what the written part says of a class's operator nm: the method at f, the turned one at r -/
structure OpC (K : Frag) (C : Addr) (nm : String) (f r : Addr) : Prop where
  hc : selfFirst K C = true
  hs : findIn K (.ref C) (PySem.dunder nm) = some (some (.ref f))
  hf : isFn K (.ref f) = true
  hr : findIn K (.ref C) (dunderR nm) = some (some (.ref r))
  hrf : isFn K (.ref r) = true
  h1 : ∃ fo, findIn K (.type "int") (PySem.dunder nm) = some fo
  h2 : ∃ ro, findIn K (.type "int") (dunderR nm) = some ro
  hsub : subIn K (.type "int") (.ref C) = some false
  hsubR : subIn K (.ref C) (.type "int") = some false
section
variable {prog : Program} {w : World} {A : Around} {E : Value → Shared → Prop} {K : Frag} {x C f r : Addr} {ox : Obj} {od : Option Obj} {i : Int} {t : Tok}
/-- n op a: the int declines, the turned method answers -/
theorem bin_intL {s : Shared} {op : Operator} {Q : Value → Shared → Prop} (X : K.In s.heap) (I : InstAt s.heap x ox C od) (O : OpC K C op.info.2 f r) (fi : fillsNumberSlot (.type "int") op.info.2 = pure true)
    (left : ∀ {Q' : Option Value → Shared → Prop}, Q' none s → wpAny (model prog w) A (tryMethod (.int i t) (PySem.dunder op.info.2) (.ref x)) Q' E s)
    (h : wpAny (model prog w) A (call (.ref r) [.ref x, .int i t]) (CmpBack Q) E s) : wpAny (model prog w) A (binaryOp op (.int i t) (.ref x)) Q E s := by
  obtain ⟨cd, rest, hcd, hm⟩ := ksp_first O.hc
  have hs := O.hs
  have hrr := O.hr
  rcases hi : op.info with ⟨sym, nm'⟩
  rw [hi] at hs hrr fi left
  dsimp only at hs hrr fi left
  have one := ksp_try X I hrr O.hrf h
  obtain ⟨hh, g, d, tt, os⟩ := s
  have L1 : Looks (model prog w) hh (typeOf (.int i t)) (.type "int") := Looks.of_pure rfl
  have L2 : Looks (model prog w) hh (typeOf (.ref x)) (.ref C) := I.type
  have L3 : Looks (model prog w) hh (fillsNumberSlot (.type "int") nm') true := Looks.of_pure fi
  have L4 : Looks (model prog w) hh (fillsNumberSlot (.ref C) nm') true := fills_K X hcd hm hs
  have L5 : Looks (model prog w) hh (isSubtype (.ref C) (.type "int")) false := looks_subIn X O.hsubR
  have L6 : Looks (model prog w) hh (numberSlotInPython (.type "int") nm') false := Looks.of_pure rfl
  have hne : (Value.type "int" == Value.ref C) = false := Bool.eq_false_iff.mpr fun q => by cases beq_iff_eq.mp q
  simp only [binaryOp, hi]
  refine wpAny_holding (wpAny_bind ?_)
  unfold binaryOp1
  refine wpAny_bind (L1.at (wpAny_bind (L2.at (wpAny_bind (L3.at ?_)))))
  simp only [hne, Bool.false_eq_true, if_false]
  refine wpAny_bind (L4.at ?_)
  simp only [Bool.and_self, if_true]
  refine wpAny_bind (L5.at ?_)
  simp only [Bool.false_eq_true, if_false, Bool.not_false, Bool.and_self, if_true]
  refine wpAny_bind (L6.at ?_)
  simp only [Bool.false_eq_true, if_false, if_true]
  refine wpAny_bind (left ?_)
  simp only [Bool.false_eq_true, if_false, if_true, Bool.and_self, Bool.not_false]
  refine wpAny_bind (wpAny_mono one (fun rv s' hr' => ?_) fun _ _ e => e)
  obtain ⟨v, rfl, hq⟩ := hr'
  exact wpAny_bind (wpAny_rule (wpAny_pure (wpAny_pure hq)))
end
end FG
namespace FG
open PySem PySem.Spec L2
theorem back_of {X : Cx} {pins : List (Addr × Obj)} {σ : L2.St} {Q : VK} {v : Value} {s : Shared} (h : EP X pins σ Q v s) : PySem.W.CmpBack (EP X pins σ Q) v s := by
  obtain ⟨y, H, I, r, q⟩ := id h
  cases v with
  | notImplemented =>
    exfalso
    cases y <;> first | exact nomatch (show Value.notImplemented = _ from r) | (obtain ⟨_, z⟩ := (show ∃ t, Value.notImplemented = _ from r); exact nomatch z)
  | _ => exact h
section
variable {X : Cx} {k : Nat} {C f r : Addr} {fd : FuncData} {ps : List Str} {sp : Sp} {op : Operator}
/-- a op y, a of the class C, y of the same class or an int -/
def rOwnB (C : Addr) (sp : Sp) : R2 := fun x y H Q => ∃ a dx fs, x = .ref a ∧ H a = some (.ins C dx fs) ∧ ((∃ i, y = .int i) ∨ ∃ b dy gs, y = .ref b ∧ H b = some (.ins C dy gs)) ∧ sp [.ref a, y] H Q E0
theorem op_ownB (O : OpC X.K C op.info.2 f r) (F : FnOk X.prog X.w X.K X.mg X.base CX0 k f fd ps sp) (hr : Room k X.A) (hb : Binds X.K fd ps []) : OpR X (binaryOp op) (rOwnB C sp) := by
  intro pins s σ H x y v u Q I rx ry h
  obtain ⟨a, dx, fs, rfl, ea, hy, q⟩ := h
  cases (show v = Value.ref a from rx)
  obtain ⟨mA, Ob, _⟩ := ins_get I.hok ea
  obtain ⟨od, J, _⟩ := Ob.look
  obtain ⟨m, fr⟩ := I.fr
  have go := wpAny_mono (run_fn (us := [.ref a, u]) (vs := [.ref a, y]) F hr hb .nil pass0 I (.cons rfl (.cons ry .nil)) q) (fun _ _ z => back_of z) fun _ _ z => z
  rcases hy with ⟨i, rfl⟩ | ⟨b, dy, gs, rfl, eb⟩
  · obtain ⟨t, rfl⟩ := ry
    obtain ⟨fo, h1⟩ := O.h1
    obtain ⟨ro, h2⟩ := O.h2
    exact PySem.W.ksp_binT fr I.ok.mod.kin J rfl O.hc O.hs O.hf O.hr (.inr ⟨_, rfl⟩) h1 h2 O.hsub go
  · cases (show u = Value.ref b from ry)
    obtain ⟨mB, Ob', _⟩ := ins_get I.hok eb
    obtain ⟨od', J', _⟩ := Ob'.look
    exact PySem.W.binop_K fr I.ok.mod.kin J J'.type O.hc O.hs O.hf go
/-- n op a -/
def rOwnR (C : Addr) (sp : Sp) : R2 := fun x y H Q => ∃ a dx fs i, x = .int i ∧ y = .ref a ∧ H a = some (.ins C dx fs) ∧ sp [.ref a, .int i] H Q E0
theorem op_ownR (O : OpC X.K C op.info.2 f r) (F : FnOk X.prog X.w X.K X.mg X.base CX0 k r fd ps sp) (hr : Room k X.A) (hb : Binds X.K fd ps []) (fi : fillsNumberSlot (.type "int") op.info.2 = pure true)
    (left : ∀ {x dx : Addr} {i : Int} {t : Tok} {s : Shared} {E : Value → Shared → Prop} {Q' : Option Value → Shared → Prop}, s.heap.get? x = some (PySem.W.instObj C dx) → Q' none s → wpAny (model X.prog X.w) X.A (tryMethod (.int i t) (PySem.dunder op.info.2) (.ref x)) Q' E s) :
    OpR X (binaryOp op) (rOwnR C sp) := by
  intro pins s σ H x y v u Q I rx ry h
  obtain ⟨a, dx, fs, i, rfl, rfl, ea, q⟩ := h
  cases (show u = Value.ref a from ry)
  obtain ⟨t, rfl⟩ := rx
  obtain ⟨_, _, _, eo, _⟩ := (show ObjOk X.prog X.w H s.heap a (.ins C dx fs) from I.hok a _ ea)
  obtain ⟨mA, Ob, _⟩ := ins_get I.hok ea
  obtain ⟨od, J, _⟩ := Ob.look
  have go := wpAny_mono (run_fn (us := [.ref a, .int i t]) (vs := [.ref a, .int i]) F hr hb .nil pass0 I (.cons rfl (.cons ⟨t, rfl⟩ .nil)) q) (fun _ _ z => back_of z) fun _ _ z => z
  exact bin_intL I.kIn J O fi (fun {Q'} z => left eo z) go
theorem left_add {x dx : Addr} {i : Int} {t : Tok} {s : Shared} {E : Value → Shared → Prop} {Q' : Option Value → Shared → Prop} (hx : s.heap.get? x = some (PySem.W.instObj C dx)) (hq : Q' none s) : wpAny (model X.prog X.w) X.A (tryMethod (.int i t) (PySem.dunder "add") (.ref x)) Q' E s := by
  obtain ⟨hp, g, d, tk, os⟩ := s
  have hT : Shared.TypeIs ⟨hp, g, d, tk, os⟩ (.int i t) "int" := typeIs_int _ i t
  refine @wpAny_tryMethod_declines _ _ _ ⟨hp, g, d, tk, os⟩ (.int i t) (.ref x) "int" (PySem.dunder "add") "int.__add__" _ hT F.slot_int_add ?_
  refine @wpAny_call_entry _ _ _ _ ⟨hp, g, d, tk, os⟩ "int" (PySem.dunder "add") "int.__add__" _ (.int i t) [.ref x] _ F.slot_int_add hT F.entry_int_add ?_ (F.args_int_add_2 _ _)
  exact decl_add hx ⟨_, rfl, rfl, hq⟩
theorem left_sub {x dx : Addr} {i : Int} {t : Tok} {s : Shared} {E : Value → Shared → Prop} {Q' : Option Value → Shared → Prop} (hx : s.heap.get? x = some (PySem.W.instObj C dx)) (hq : Q' none s) : wpAny (model X.prog X.w) X.A (tryMethod (.int i t) (PySem.dunder "sub") (.ref x)) Q' E s := by
  obtain ⟨hp, g, d, tk, os⟩ := s
  have hT : Shared.TypeIs ⟨hp, g, d, tk, os⟩ (.int i t) "int" := typeIs_int _ i t
  refine @wpAny_tryMethod_declines _ _ _ ⟨hp, g, d, tk, os⟩ (.int i t) (.ref x) "int" (PySem.dunder "sub") "int.__sub__" _ hT F.slot_int_sub ?_
  refine @wpAny_call_entry _ _ _ _ ⟨hp, g, d, tk, os⟩ "int" (PySem.dunder "sub") "int.__sub__" _ (.int i t) [.ref x] _ F.slot_int_sub hT F.entry_int_sub ?_ (F.args_int_sub_2 _ _)
  exact decl_sub hx ⟨_, rfl, rfl, hq⟩
theorem left_mul {x dx : Addr} {i : Int} {t : Tok} {s : Shared} {E : Value → Shared → Prop} {Q' : Option Value → Shared → Prop} (hx : s.heap.get? x = some (PySem.W.instObj C dx)) (hq : Q' none s) : wpAny (model X.prog X.w) X.A (tryMethod (.int i t) (PySem.dunder "mul") (.ref x)) Q' E s := by
  obtain ⟨hp, g, d, tk, os⟩ := s
  have hT : Shared.TypeIs ⟨hp, g, d, tk, os⟩ (.int i t) "int" := typeIs_int _ i t
  refine @wpAny_tryMethod_declines _ _ _ ⟨hp, g, d, tk, os⟩ (.int i t) (.ref x) "int" (PySem.dunder "mul") "int.__mul__" _ hT F.slot_int_mul ?_
  refine @wpAny_call_entry _ _ _ _ ⟨hp, g, d, tk, os⟩ "int" (PySem.dunder "mul") "int.__mul__" _ (.int i t) [.ref x] _ F.slot_int_mul hT F.entry_int_mul ?_ (F.args_int_mul_2 _ _)
  exact decl_mul hx ⟨_, rfl, rfl, hq⟩
/-- -a -/
def rOwnU (C : Addr) (sp : Sp) : V → Hp → VK → Prop := fun x H Q => ∃ a dx fs, x = .ref a ∧ H a = some (.ins C dx fs) ∧ sp [.ref a] H Q E0
theorem un_ownN (hs : PySem.W.findIn X.K (.ref C) "__neg__" = some (some (.ref f))) (hf : PySem.W.isFn X.K (.ref f) = true) (F : FnOk X.prog X.w X.K X.mg X.base CX0 k f fd ps sp) (hr : Room k X.A) (hb : Binds X.K fd ps []) : UnR X (unaryOp .USub) (rOwnU C sp) := by
  intro pins s σ H x v Q I rx h
  obtain ⟨a, dx, fs, rfl, ea, q⟩ := h
  cases (show v = Value.ref a from rx)
  obtain ⟨mA, Ob, _⟩ := ins_get I.hok ea
  obtain ⟨od, J, _⟩ := Ob.look
  obtain ⟨m, fr⟩ := I.fr
  exact PySem.W.ksp_neg fr I.ok.mod.kin J hs hf (run_fn (us := [.ref a]) (vs := [.ref a]) F hr hb .nil pass0 I (.cons rfl .nil) q)
/-- abs(a) -/
def rOwnA (C : Addr) (sp : Sp) : List V → Hp → VK → Prop := fun xs H Q => ∃ a dx fs, xs = [.ref a] ∧ H a = some (.ins C dx fs) ∧ sp [.ref a] H Q E0
theorem call_absO (hs : PySem.W.findIn X.K (.ref C) "__abs__" = some (some (.ref f))) (hf : PySem.W.isFn X.K (.ref f) = true) (F : FnOk X.prog X.w X.K X.mg X.base CX0 k f fd ps sp) (hr : Room (k + 1) X.A) (hb : Binds X.K fd ps []) : CallR X (.builtin "abs") (rOwnA C sp) := by
  intro pins s σ H xs us Q I r h
  obtain ⟨a, dx, fs, rfl, ea, q⟩ := h
  obtain ⟨u, rfl, r1⟩ := vals1 r
  cases (show u = Value.ref a from r1)
  obtain ⟨mA, Ob, _⟩ := ins_get I.hok ea
  obtain ⟨od, J, _⟩ := Ob.look
  refine Calls.call_function_entry PyProof.Rows.kind_abs PyProof.Rows.plain_abs PyProof.Rows.entry_abs (PyProof.Rows.args_abs _) ?_
  unfold Builtin.«abs»
  refine wpAny_bind (m := oneArg "abs" _) (wpAny_pure ?_)
  have hl : ([Value.ref a] ++ ([] : List Value)).length = ps.length := by
    rw [← F.len _ _ _ _ q]
    rfl
  have go := F.run X.A.in1 X.stack s H ⟨[.ref a], []⟩ [.ref a] [.ref a] Q E0 hr.in1 I.env0.in1 (hb _ [.ref a] I.kIn hl) (.cons rfl .nil) q
  refine wpAny_bind (PySem.W.special_fn I.kIn J hs (beq_iff_eq.mp hf) (wpAny_call (codeAny_mono go fun res s' z => ?_)))
  match res, z with
  | .error er, z => exact z.elim
  | .ok (.ret u), z => exact wpAny_pure ⟨_, rfl, I.after z⟩
  | .ok .next, z => exact False.elim z
  | .ok .brk, z => exact False.elim z
  | .ok .cont, z => exact False.elim z
end
end FG
namespace FG
open PySem PySem.Spec L2
/-! == of an own class, with both answers; the right side is of the class or an int -/
section
variable {X : Cx} {k : Nat} {C f : Addr} {fd : FuncData} {ps : List Str} {sp : Sp}
theorem op_ownE (hn : PySem.W.notFirst X.K C (.type "int") = true) (hs : PySem.W.findIn X.K (.ref C) "__eq__" = some (some (.ref f))) (hf : PySem.W.isFn X.K (.ref f) = true)
    (F : FnOk X.prog X.w X.K X.mg X.base CX0 k f fd ps sp) (hr : Room k X.A) (hb : Binds X.K fd ps []) : OpR X (compareOp .Eq) (rOwnB C sp) := by
  intro pins s σ H x y v u Q I rx ry h
  obtain ⟨a, dx, fs, rfl, ea, hy, q⟩ := h
  cases (show v = Value.ref a from rx)
  obtain ⟨mA, Ob, _⟩ := ins_get I.hok ea
  obtain ⟨od, J, _⟩ := Ob.look
  obtain ⟨m, fr⟩ := I.fr
  have go := wpAny_mono (run_fn (us := [.ref a, u]) (vs := [.ref a, y]) F hr hb .nil pass0 I (.cons rfl (.cons ry .nil)) q) (fun _ _ z => back_of z) fun _ _ z => z
  show wpAny (model X.prog X.w) X.A (richCompare .Eq (.ref a) u) (EP X pins σ Q) X.xe s
  rcases hy with ⟨i, rfl⟩ | ⟨b, dy, gs, rfl, eb⟩
  · obtain ⟨t, rfl⟩ := ry
    exact PySem.W.cmp_K (op := .Eq) (tb := .type "int") hr.units0 fr I.ok.mod.kin J (PySem.W.Looks.of_pure rfl) hn hs hf go
  · cases (show u = Value.ref b from ry)
    obtain ⟨mB, Ob', _⟩ := ins_get I.hok eb
    obtain ⟨od', J', _⟩ := Ob'.look
    exact PySem.W.cmp_K (op := .Eq) (tb := .ref C) hr.units0 fr I.ok.mod.kin J J'.type (by simp [PySem.W.notFirst]) hs hf go
end
end FG
namespace FG
open PySem L2
/-! ### the text by places -/
def topS (i : Nat) : Stmt := PySem.Challenge.pw_fontgap_k03_ratio_compare_and_round.main.body.getD i (.Pass ⟨0, 0, 0, 0⟩)
abbrev s_is_integer : Stmt := topS 4
theorem sc_is_integer : FnScope (["value"] : List Str) (["value"] : List Str) (defScope s_is_integer) := ⟨rfl, rfl, rfl, by decide +kernel, rfl, by decide +kernel, by decide +kernel⟩
abbrev s_greatest_divisor : Stmt := topS 7
theorem sc_greatest_divisor : FnScope (["left", "right"] : List Str) (["left", "right"] : List Str) (defScope s_greatest_divisor) := ⟨rfl, rfl, rfl, by decide +kernel, rfl, by decide +kernel, by decide +kernel⟩
abbrev s_law_bag : Stmt := topS 11
theorem sc_law_bag : FnScope (["_law_script"] : List Str) (["_law_script"] : List Str) (defScope s_law_bag) := ⟨rfl, rfl, rfl, by decide +kernel, rfl, by decide +kernel, by decide +kernel⟩
abbrev s_law_take : Stmt := topS 12
theorem sc_law_take : FnScope (["_law_bag_here", "_law_size", "_law_digit", "_law_cell"] : List Str) (["_law_bag_here", "_law_size"] : List Str) (defScope s_law_take) := ⟨rfl, rfl, rfl, by decide +kernel, rfl, by decide +kernel, by decide +kernel⟩
abbrev s_Ratio_init : Stmt := inClass (topS 9) 1
theorem sc_Ratio_init : FnScope (["self", "top", "bottom", "shared"] : List Str) (["self", "top", "bottom"] : List Str) (defScope s_Ratio_init) := ⟨rfl, rfl, rfl, by decide +kernel, rfl, by decide +kernel, by decide +kernel⟩
abbrev s_as_ratio : Stmt := topS 8
theorem sc_as_ratio : FnScope (["value"] : List Str) (["value"] : List Str) (defScope s_as_ratio) := ⟨rfl, rfl, rfl, by decide +kernel, rfl, by decide +kernel, by decide +kernel⟩
abbrev s_Ratio_add : Stmt := inClass (topS 9) 3
theorem sc_Ratio_add : FnScope (["self", "other", "right"] : List Str) (["self", "other"] : List Str) (defScope s_Ratio_add) := ⟨rfl, rfl, rfl, by decide +kernel, rfl, by decide +kernel, by decide +kernel⟩
abbrev s_Ratio_sub : Stmt := inClass (topS 9) 5
theorem sc_Ratio_sub : FnScope (["self", "other", "right"] : List Str) (["self", "other"] : List Str) (defScope s_Ratio_sub) := ⟨rfl, rfl, rfl, by decide +kernel, rfl, by decide +kernel, by decide +kernel⟩
abbrev s_Ratio_mul : Stmt := inClass (topS 9) 7
theorem sc_Ratio_mul : FnScope (["self", "other", "right"] : List Str) (["self", "other"] : List Str) (defScope s_Ratio_mul) := ⟨rfl, rfl, rfl, by decide +kernel, rfl, by decide +kernel, by decide +kernel⟩
abbrev s_Ratio_neg : Stmt := inClass (topS 9) 9
theorem sc_Ratio_neg : FnScope (["self"] : List Str) (["self"] : List Str) (defScope s_Ratio_neg) := ⟨rfl, rfl, rfl, by decide +kernel, rfl, by decide +kernel, by decide +kernel⟩
abbrev s_Ratio_abs : Stmt := inClass (topS 9) 10
theorem sc_Ratio_abs : FnScope (["self"] : List Str) (["self"] : List Str) (defScope s_Ratio_abs) := ⟨rfl, rfl, rfl, by decide +kernel, rfl, by decide +kernel, by decide +kernel⟩
abbrev s_Ratio_radd : Stmt := inClass (topS 9) 4
theorem sc_Ratio_radd : FnScope (["self", "other"] : List Str) (["self", "other"] : List Str) (defScope s_Ratio_radd) := ⟨rfl, rfl, rfl, by decide +kernel, rfl, by decide +kernel, by decide +kernel⟩
abbrev s_Ratio_rmul : Stmt := inClass (topS 9) 8
theorem sc_Ratio_rmul : FnScope (["self", "other"] : List Str) (["self", "other"] : List Str) (defScope s_Ratio_rmul) := ⟨rfl, rfl, rfl, by decide +kernel, rfl, by decide +kernel, by decide +kernel⟩
abbrev s_Ratio_rsub : Stmt := inClass (topS 9) 6
theorem sc_Ratio_rsub : FnScope (["self", "other"] : List Str) (["self", "other"] : List Str) (defScope s_Ratio_rsub) := ⟨rfl, rfl, rfl, by decide +kernel, rfl, by decide +kernel, by decide +kernel⟩
abbrev s_Ratio_eq : Stmt := inClass (topS 9) 2
theorem sc_Ratio_eq : FnScope (["self", "other"] : List Str) (["self", "other"] : List Str) (defScope s_Ratio_eq) := ⟨rfl, rfl, rfl, by decide +kernel, rfl, by decide +kernel, by decide +kernel⟩
abbrev s_Ratio_compare : Stmt := inClass (topS 9) 13
theorem sc_Ratio_compare : FnScope (["self", "other", "difference"] : List Str) (["self", "other"] : List Str) (defScope s_Ratio_compare) := ⟨rfl, rfl, rfl, by decide +kernel, rfl, by decide +kernel, by decide +kernel⟩
abbrev s_Ratio_floor : Stmt := inClass (topS 9) 14
theorem sc_Ratio_floor : FnScope (["self"] : List Str) (["self"] : List Str) (defScope s_Ratio_floor) := ⟨rfl, rfl, rfl, by decide +kernel, rfl, by decide +kernel, by decide +kernel⟩
abbrev s_Ratio_ceiling : Stmt := inClass (topS 9) 15
theorem sc_Ratio_ceiling : FnScope (["self"] : List Str) (["self"] : List Str) (defScope s_Ratio_ceiling) := ⟨rfl, rfl, rfl, by decide +kernel, rfl, by decide +kernel, by decide +kernel⟩
abbrev s_law_int : Stmt := topS 15
theorem sc_law_int : FnScope (["_law_actual"] : List Str) (["_law_actual"] : List Str) (defScope s_law_int) := ⟨rfl, rfl, rfl, by decide +kernel, rfl, by decide +kernel, by decide +kernel⟩
abbrev s_law_is : Stmt := topS 16
theorem sc_law_is : FnScope (["_law_actual", "_law_due"] : List Str) (["_law_actual", "_law_due"] : List Str) (defScope s_law_is) := ⟨rfl, rfl, rfl, by decide +kernel, rfl, by decide +kernel, by decide +kernel⟩
abbrev s_law_lowest : Stmt := topS 13
theorem sc_law_lowest : FnScope (["_law_top", "_law_bottom", "_law_left", "_law_right", "_law_k", "_law_rest"] : List Str) (["_law_top", "_law_bottom"] : List Str) (defScope s_law_lowest) := ⟨rfl, rfl, rfl, by decide +kernel, rfl, by decide +kernel, by decide +kernel⟩
abbrev s_law_fraction : Stmt := topS 14
theorem sc_law_fraction : FnScope (["_law_bag_here", "_law_wide", "_law_top"] : List Str) (["_law_bag_here"] : List Str) (defScope s_law_fraction) := ⟨rfl, rfl, rfl, by decide +kernel, rfl, by decide +kernel, by decide +kernel⟩
abbrev s_law_sign : Stmt := topS 17
theorem sc_law_sign : FnScope (["_law_number"] : List Str) (["_law_number"] : List Str) (defScope s_law_sign) := ⟨rfl, rfl, rfl, by decide +kernel, rfl, by decide +kernel, by decide +kernel⟩
abbrev s_law : Stmt := topS 18
theorem sc_law : FnScope (["_law_script", "_law_bag_here", "_law_way", "_law_a", "_law_b", "_law_n", "_law_left", "_law_right", "_law_told", "_law_low", "_law_high"] : List Str) (["_law_script"] : List Str) (defScope s_law) := ⟨rfl, rfl, rfl, by decide +kernel, rfl, by decide +kernel, by decide +kernel⟩
abbrev s_InvalidNumber_init : Stmt := inClass (topS 2) 0
/-! ### what the top has left: the places -/
structure Ad where
  f_is_integer : Addr
  d_is_integer : FuncData
  f_greatest_divisor : Addr
  d_greatest_divisor : FuncData
  f_law_bag : Addr
  d_law_bag : FuncData
  f_law_take : Addr
  d_law_take : FuncData
  f_Ratio_init : Addr
  d_Ratio_init : FuncData
  v1_Ratio_init : List Value
  f_as_ratio : Addr
  d_as_ratio : FuncData
  f_Ratio_add : Addr
  d_Ratio_add : FuncData
  f_Ratio_sub : Addr
  d_Ratio_sub : FuncData
  f_Ratio_mul : Addr
  d_Ratio_mul : FuncData
  f_Ratio_neg : Addr
  d_Ratio_neg : FuncData
  f_Ratio_abs : Addr
  d_Ratio_abs : FuncData
  f_Ratio_radd : Addr
  d_Ratio_radd : FuncData
  f_Ratio_rmul : Addr
  d_Ratio_rmul : FuncData
  f_Ratio_rsub : Addr
  d_Ratio_rsub : FuncData
  f_Ratio_eq : Addr
  d_Ratio_eq : FuncData
  f_Ratio_compare : Addr
  d_Ratio_compare : FuncData
  f_Ratio_floor : Addr
  d_Ratio_floor : FuncData
  f_Ratio_ceiling : Addr
  d_Ratio_ceiling : FuncData
  f_law_int : Addr
  d_law_int : FuncData
  f_law_is : Addr
  d_law_is : FuncData
  f_law_lowest : Addr
  d_law_lowest : FuncData
  f_law_fraction : Addr
  d_law_fraction : FuncData
  f_law_sign : Addr
  d_law_sign : FuncData
  f_law : Addr
  d_law : FuncData
  C_Ratio : Addr
  C_InvalidNumber : Addr
  i_InvalidNumber : Addr
  c_InvalidNumber : Addr
  k_InvalidNumber : Addr
/-- .. and what is true of them -/
structure Txt (P : Program) (K : PySem.W.Frag) (mg : Str → Option Value) (a : Ad) : Prop where
  F_is_integer : Fun K "is_integer" "is_integer" s_is_integer a.f_is_integer a.d_is_integer
  B_is_integer : Binds K a.d_is_integer (["value"] : List Str) []
  g_is_integer : mg "is_integer" = some (.ref a.f_is_integer)
  k_is_integer : PySem.W.keepIn K (.ref a.f_is_integer) = true
  F_greatest_divisor : Fun K "greatest_divisor" "greatest_divisor" s_greatest_divisor a.f_greatest_divisor a.d_greatest_divisor
  B_greatest_divisor : Binds K a.d_greatest_divisor (["left", "right"] : List Str) []
  g_greatest_divisor : mg "greatest_divisor" = some (.ref a.f_greatest_divisor)
  k_greatest_divisor : PySem.W.keepIn K (.ref a.f_greatest_divisor) = true
  F_law_bag : Fun K "_law_bag" "_law_bag" s_law_bag a.f_law_bag a.d_law_bag
  B_law_bag : Binds K a.d_law_bag (["_law_script"] : List Str) []
  g_law_bag : mg "_law_bag" = some (.ref a.f_law_bag)
  k_law_bag : PySem.W.keepIn K (.ref a.f_law_bag) = true
  F_law_take : Fun K "_law_take" "_law_take" s_law_take a.f_law_take a.d_law_take
  B_law_take : Binds K a.d_law_take (["_law_bag_here", "_law_size"] : List Str) []
  g_law_take : mg "_law_take" = some (.ref a.f_law_take)
  k_law_take : PySem.W.keepIn K (.ref a.f_law_take) = true
  F_Ratio_init : FunD K "__init__" "Ratio.__init__" (defArgs s_Ratio_init) (defBody s_Ratio_init) (defScope s_Ratio_init) [V.int 1] [] a.f_Ratio_init a.d_Ratio_init
  B_Ratio_init : Binds K a.d_Ratio_init (["self", "top", "bottom"] : List Str) []
  B1_Ratio_init : Binds K a.d_Ratio_init (["self", "top", "bottom"] : List Str) a.v1_Ratio_init
  V1_Ratio_init : Vals [V.int 1] a.v1_Ratio_init
  F_as_ratio : Fun K "as_ratio" "as_ratio" s_as_ratio a.f_as_ratio a.d_as_ratio
  B_as_ratio : Binds K a.d_as_ratio (["value"] : List Str) []
  g_as_ratio : mg "as_ratio" = some (.ref a.f_as_ratio)
  k_as_ratio : PySem.W.keepIn K (.ref a.f_as_ratio) = true
  F_Ratio_add : Fun K "__add__" "Ratio.__add__" s_Ratio_add a.f_Ratio_add a.d_Ratio_add
  B_Ratio_add : Binds K a.d_Ratio_add (["self", "other"] : List Str) []
  M_Ratio_add : Meth K a.C_Ratio "__add__" a.f_Ratio_add
  F_Ratio_sub : Fun K "__sub__" "Ratio.__sub__" s_Ratio_sub a.f_Ratio_sub a.d_Ratio_sub
  B_Ratio_sub : Binds K a.d_Ratio_sub (["self", "other"] : List Str) []
  M_Ratio_sub : Meth K a.C_Ratio "__sub__" a.f_Ratio_sub
  F_Ratio_mul : Fun K "__mul__" "Ratio.__mul__" s_Ratio_mul a.f_Ratio_mul a.d_Ratio_mul
  B_Ratio_mul : Binds K a.d_Ratio_mul (["self", "other"] : List Str) []
  M_Ratio_mul : Meth K a.C_Ratio "__mul__" a.f_Ratio_mul
  F_Ratio_neg : Fun K "__neg__" "Ratio.__neg__" s_Ratio_neg a.f_Ratio_neg a.d_Ratio_neg
  B_Ratio_neg : Binds K a.d_Ratio_neg (["self"] : List Str) []
  M_Ratio_neg : Meth K a.C_Ratio "__neg__" a.f_Ratio_neg
  F_Ratio_abs : Fun K "__abs__" "Ratio.__abs__" s_Ratio_abs a.f_Ratio_abs a.d_Ratio_abs
  B_Ratio_abs : Binds K a.d_Ratio_abs (["self"] : List Str) []
  M_Ratio_abs : Meth K a.C_Ratio "__abs__" a.f_Ratio_abs
  F_Ratio_radd : Fun K "__radd__" "Ratio.__radd__" s_Ratio_radd a.f_Ratio_radd a.d_Ratio_radd
  B_Ratio_radd : Binds K a.d_Ratio_radd (["self", "other"] : List Str) []
  M_Ratio_radd : Meth K a.C_Ratio "__radd__" a.f_Ratio_radd
  F_Ratio_rmul : Fun K "__rmul__" "Ratio.__rmul__" s_Ratio_rmul a.f_Ratio_rmul a.d_Ratio_rmul
  B_Ratio_rmul : Binds K a.d_Ratio_rmul (["self", "other"] : List Str) []
  M_Ratio_rmul : Meth K a.C_Ratio "__rmul__" a.f_Ratio_rmul
  F_Ratio_rsub : Fun K "__rsub__" "Ratio.__rsub__" s_Ratio_rsub a.f_Ratio_rsub a.d_Ratio_rsub
  B_Ratio_rsub : Binds K a.d_Ratio_rsub (["self", "other"] : List Str) []
  M_Ratio_rsub : Meth K a.C_Ratio "__rsub__" a.f_Ratio_rsub
  F_Ratio_eq : Fun K "__eq__" "Ratio.__eq__" s_Ratio_eq a.f_Ratio_eq a.d_Ratio_eq
  B_Ratio_eq : Binds K a.d_Ratio_eq (["self", "other"] : List Str) []
  M_Ratio_eq : Meth K a.C_Ratio "__eq__" a.f_Ratio_eq
  F_Ratio_compare : Fun K "compare" "Ratio.compare" s_Ratio_compare a.f_Ratio_compare a.d_Ratio_compare
  B_Ratio_compare : Binds K a.d_Ratio_compare (["self", "other"] : List Str) []
  M_Ratio_compare : Meth K a.C_Ratio "compare" a.f_Ratio_compare
  F_Ratio_floor : Fun K "floor" "Ratio.floor" s_Ratio_floor a.f_Ratio_floor a.d_Ratio_floor
  B_Ratio_floor : Binds K a.d_Ratio_floor (["self"] : List Str) []
  M_Ratio_floor : Meth K a.C_Ratio "floor" a.f_Ratio_floor
  F_Ratio_ceiling : Fun K "ceiling" "Ratio.ceiling" s_Ratio_ceiling a.f_Ratio_ceiling a.d_Ratio_ceiling
  B_Ratio_ceiling : Binds K a.d_Ratio_ceiling (["self"] : List Str) []
  M_Ratio_ceiling : Meth K a.C_Ratio "ceiling" a.f_Ratio_ceiling
  F_law_int : Fun K "_law_int" "_law_int" s_law_int a.f_law_int a.d_law_int
  B_law_int : Binds K a.d_law_int (["_law_actual"] : List Str) []
  g_law_int : mg "_law_int" = some (.ref a.f_law_int)
  k_law_int : PySem.W.keepIn K (.ref a.f_law_int) = true
  F_law_is : Fun K "_law_is" "_law_is" s_law_is a.f_law_is a.d_law_is
  B_law_is : Binds K a.d_law_is (["_law_actual", "_law_due"] : List Str) []
  g_law_is : mg "_law_is" = some (.ref a.f_law_is)
  k_law_is : PySem.W.keepIn K (.ref a.f_law_is) = true
  F_law_lowest : Fun K "_law_lowest" "_law_lowest" s_law_lowest a.f_law_lowest a.d_law_lowest
  B_law_lowest : Binds K a.d_law_lowest (["_law_top", "_law_bottom"] : List Str) []
  g_law_lowest : mg "_law_lowest" = some (.ref a.f_law_lowest)
  k_law_lowest : PySem.W.keepIn K (.ref a.f_law_lowest) = true
  F_law_fraction : Fun K "_law_fraction" "_law_fraction" s_law_fraction a.f_law_fraction a.d_law_fraction
  B_law_fraction : Binds K a.d_law_fraction (["_law_bag_here"] : List Str) []
  g_law_fraction : mg "_law_fraction" = some (.ref a.f_law_fraction)
  k_law_fraction : PySem.W.keepIn K (.ref a.f_law_fraction) = true
  F_law_sign : Fun K "_law_sign" "_law_sign" s_law_sign a.f_law_sign a.d_law_sign
  B_law_sign : Binds K a.d_law_sign (["_law_number"] : List Str) []
  g_law_sign : mg "_law_sign" = some (.ref a.f_law_sign)
  k_law_sign : PySem.W.keepIn K (.ref a.f_law_sign) = true
  F_law : Fun K "law" "law" s_law a.f_law a.d_law
  B_law : Binds K a.d_law (["_law_script"] : List Str) []
  g_law : mg "law" = some (.ref a.f_law)
  k_law : PySem.W.keepIn K (.ref a.f_law) = true
  g_Ratio : mg "Ratio" = some (.ref a.C_Ratio)
  c_Ratio : Cls K a.C_Ratio
  I_Ratio : InsC K a.C_Ratio
  M_Ratio : Mk K a.C_Ratio a.f_Ratio_init
  E_InvalidNumber : ErrC P K mg "InvalidNumber" "InvalidNumber.__init__" (defArgs s_InvalidNumber_init) (defBody s_InvalidNumber_init) (defScope s_InvalidNumber_init) a.C_InvalidNumber a.i_InvalidNumber a.c_InvalidNumber a.k_InvalidNumber
  Y_InvalidNumber : Txt1 "InvalidNumber.__init__" "value" "not a valid number" (defArgs s_InvalidNumber_init) (defBody s_InvalidNumber_init) (defScope s_InvalidNumber_init)
  X_InvalidNumber : ExcC K a.C_InvalidNumber
  x_InvalidNumber_value : PySem.W.findIn K (.ref a.C_InvalidNumber) "value" = some none
  n_abs : mg "abs" = none
  n_bool : mg "bool" = none
  n_int : mg "int" = none
  n_isinstance : mg "isinstance" = none
  n_len : mg "len" = none
  n_list : mg "list" = none
  n_range : mg "range" = none
  na_Ratio_top : NoAttr K a.C_Ratio "top"
  na_Ratio_bottom : NoAttr K a.C_Ratio "bottom"
  sf_Ratio : PySem.W.selfFirst K a.C_Ratio = true
  su_int_Ratio : PySem.W.subIn K (.type "int") (.ref a.C_Ratio) = some false
  su_Ratio_int : PySem.W.subIn K (.ref a.C_Ratio) (.type "int") = some false
  ia_add : PySem.W.findIn K (.type "int") "__add__" = some (some (.builtin "int.__add__"))
  ir_add : PySem.W.findIn K (.type "int") "__radd__" = some (some (.builtin "int.__radd__"))
  ia_sub : PySem.W.findIn K (.type "int") "__sub__" = some (some (.builtin "int.__sub__"))
  ir_sub : PySem.W.findIn K (.type "int") "__rsub__" = some (some (.builtin "int.__rsub__"))
  ia_mul : PySem.W.findIn K (.type "int") "__mul__" = some (some (.builtin "int.__mul__"))
  ir_mul : PySem.W.findIn K (.type "int") "__rmul__" = some (some (.builtin "int.__rmul__"))
  ki_int_Ratio : PySem.W.kitOne K (.type "int") (.ref a.C_Ratio) = some false
  nf_Ratio_int : PySem.W.notFirst K a.C_Ratio (.type "int") = true
end FG
namespace FG
open PySem PySem.Spec L2
local macro_rules | `(tactic| walk_at "s") => `(tactic| first
  | with_reducible refine w_seq ?_
  | with_reducible refine w_asg ?_
  | with_reducible refine w_ifs ?_
  | with_reducible refine w_ret ?_
  | with_reducible refine w_drop ?_
  | ((with_reducible refine' w_var ?h1 ?_); case h1 => rfl)
  | with_reducible refine w_c ?_
  | with_reducible refine w_op ?_
  | with_reducible refine w_I0 ?_
  | with_reducible refine w_cons ?_
  | with_reducible refine w_nil ?_
  | ((with_reducible refine' w_gname ?h1 ?_); case h1 => dsimp only [List.set])
  | with_reducible refine w_test ?_
  | with_reducible refine w_bl ?_
  | with_reducible refine w_blE ?_
  | with_reducible refine w_cb ?_
  | with_reducible refine w_call ?_
  | with_reducible refine w_callSD ?_
  | with_reducible refine w_andV ?_
  | with_reducible refine w_orV ?_
  | with_reducible refine w_notV ?_
  | with_reducible refine w_and ?_
  | with_reducible refine w_or ?_
  | with_reducible refine w_not ?_
  | with_reducible refine w_if ?_
  | with_reducible refine w_un ?_
  | with_reducible refine w_U ?_
  | with_reducible refine w_next ?_
  | with_reducible refine w_retN ?_
  | with_reducible refine w_tB ?_
  | with_reducible refine w_tup ?_
  | with_reducible refine w_lst ?_
  | with_reducible refine w_abs ?_
  | with_reducible refine w_int1 ?_
  | ((with_reducible refine' w_eq ?h1 ?_); case h1 => rfl)
  | ((with_reducible refine' w_ne ?h1 ?_); case h1 => rfl)
  | with_reducible refine w_gsub ?_
  | with_reducible refine w_sfld ?_
  | with_reducible refine w_par ?_
  | with_reducible refine w_rs ?_
  | with_reducible refine w_forR1 ?_
  | with_reducible refine w_forR2 ?_
  | with_reducible refine w_forL ?_
  | with_reducible refine w_fld ?_
  | with_reducible refine iteT ?_
  | with_reducible refine iteF ?_
  | with_reducible refine iteNT ?_
  | with_reducible refine iteNF ?_
  | with_reducible refine w_mk1 ?_
  | with_reducible refine w_mk2 ?_
  | with_reducible refine w_one ?_
  | with_reducible refine w_two ?_
  | with_reducible refine w_sl ?_
  | with_reducible refine w_nopart ?_
  | with_reducible refine w_part ?_
  | with_reducible refine w_exI ?_
  | with_reducible refine w_mks ?_
  | with_reducible refine w_isN ?_
  | with_reducible refine w_notN ?_
  | with_reducible refine w_min2 ?_
  | with_reducible refine w_max2 ?_
  | ((with_reducible refine' w_ix ?h1 ?h2 ?_); (case h1 => walk_at "q"); (case h2 => rfl))
  | ((with_reducible refine' w_ixT ?h1 ?h2 ?_); (case h1 => walk_at "q"); (case h2 => rfl))
  | ((with_reducible refine' w_setL ?h1 ?h2 ?_); (case h1 => walk_at "h"); (case h2 => rfl))
  | ((with_reducible refine' w_lenS ?h1 ?_); (case h1 => walk_at "q"))
  | ((with_reducible refine' w_lenT ?h1 ?_); (case h1 => walk_at "q"))
  | ((with_reducible refine' w_I ?h1 ?_); (case h1 => first | (show (0 : Int) < _; first | decide | assumption) | exact ⟨by decide, by decide, by decide⟩ | (show CDivX _ _; exact ⟨by decide, by decide +kernel⟩) | (show CDivX _ _; with_reducible apply_assumption) | (show CMulW _ _; exact small_mul (by with_reducible assumption) (by with_reducible assumption)) | (show CMul _ _; first | exact Or.inl ⟨by decide, by decide⟩ | exact Or.inr ⟨by decide, by decide⟩ | exact Or.inl ⟨by omega, by omega⟩ | exact Or.inr ⟨by omega, by omega⟩))))
local macro_rules | `(tactic| walk_at "h") => `(tactic| first | with_reducible assumption | exact upd_same | (refine upd_old ?_ ?_ <;> with_reducible assumption) | ((refine (upd_ne ?_).trans ?_) <;> (first | assumption | walk_at "h" | exact Ne.symm (by assumption))))
local macro_rules | `(tactic| walk_at "q") => `(tactic| first | with_reducible assumption | exact SqL.of (by walk_at "h") | exact SqT.of (by walk_at "h"))
local macro_rules | `(tactic| walk_at "w") => `(tactic| repeat (walk_at "s"))

/-- what isinstance(x, int) and not isinstance(x, bool) gives -/
def IsI (K : PySem.W.Frag) (H : Hp) (x : V) (b : Bool) : Prop := ∃ t b1 b2, TyX K H x t ∧ PySem.W.kitOne K t (.type "int") = some b1 ∧ (b1 = true → PySem.W.kitOne K t (.type "bool") = some b2) ∧ b = (b1 && !b2)
theorem isI_int {K : PySem.W.Frag} {H : Hp} (i : Int) : IsI K H (.int i) true := ⟨_, true, false, .base (.int i), kit_ty (by decide +kernel), fun _ => kit_ty (by decide +kernel), rfl⟩
theorem isI_bl {K : PySem.W.Frag} {H : Hp} (b : Bool) : IsI K H (.bl b) false := ⟨_, true, true, .base (.bl b), kit_ty (by decide +kernel), fun _ => kit_ty (by decide +kernel), rfl⟩
theorem isI_non {K : PySem.W.Frag} {H : Hp} : IsI K H .non false := ⟨_, false, false, .base .non, kit_ty (by decide +kernel), (fun z => by cases z), rfl⟩
theorem isI_str {K : PySem.W.Frag} {H : Hp} (x : Str) : IsI K H (.str x) false := ⟨_, false, false, .base (.str x), kit_ty (by decide +kernel), (fun z => by cases z), rfl⟩
theorem isI_lst {K : PySem.W.Frag} {H : Hp} {a : Addr} {xs : List V} (e : H a = some (.lst xs)) : IsI K H (.ref a) false := ⟨_, false, false, .base (.lst e), kit_ty (by decide +kernel), (fun z => by cases z), rfl⟩
theorem isI_tup {K : PySem.W.Frag} {H : Hp} {a : Addr} {xs : List V} (e : H a = some (.tup xs)) : IsI K H (.ref a) false := ⟨_, false, false, .base (.tup e), kit_ty (by decide +kernel), (fun z => by cases z), rfl⟩
/-- both defs that ask it -/
abbrev sp_isint (K : PySem.W.Frag) : Sp := sp1 fun x H Q _ => ∃ b, IsI K H x b ∧ Q (.bl b) H

abbrev sp_is_integer (K : PySem.W.Frag) (a : Ad) : Sp := sp_isint K
theorem ok_is_integer {P : Program} {w : World} {K : PySem.W.Frag} {mg : Str → Option Value} {base : Heap} {a : Ad} (T : Txt P K mg a) : FnOk P w K mg base CX0 1 a.f_is_integer a.d_is_integer (["value"] : List Str) (sp_is_integer K a) := by
  refine T.F_is_integer.ok sc_is_integer (fun vs H Q E h => sp1_len h) (fun cdv A outer s H vs Q E hr h => ?_)
  have hu := hu_of hr
  refine ⟨_, (pss_one (ps_ret (pe_and (pe_callB call_isi (by rfl) T.n_isinstance (by decide +kernel) (pa_cons (pv 0) (pa_cons (pe_bltn (v := .ty "int") (by rfl) T.n_int (by decide +kernel) rfl) pa_nil))) (pe_one (pe_not (pe_callB call_isi (by rfl) T.n_isinstance (by decide +kernel) (pa_cons (pv 0) (pa_cons (pe_bltn (v := .ty "bool") (by rfl) T.n_bool (by decide +kernel) rfl) pa_nil)))))))), ?_⟩
  try dsimp only [L2.cxOf]
  obtain ⟨x, rfl, b, ⟨t, b1, b2, ty, k1, k2, rfl⟩, k⟩ := h
  rw [show L2.start (["value"] : List Str) [x] = ([some (x)] : L2.St) from rfl]
  walk_at "w"
  refine w_isi (.ty "int") ty k1 ?_
  walk_at "w"
  refine it_b (fun e1 => ?_) (fun e1 => ?_)
  · walk_at "w"
    refine w_isi (.ty "bool") ty (k2 e1) ?_
    walk_at "w"
    subst e1
    exact k
  · subst e1
    exact k

def sp_greatest_divisor (K : PySem.W.Frag) (a : Ad) : Sp := sp2 fun x y H Q _ => ∃ l r : Int, x = .int l ∧ y = .int r ∧ Q (.int (Int.gcd l r : Nat)) H
theorem ok_greatest_divisor {P : Program} {w : World} {K : PySem.W.Frag} {mg : Str → Option Value} {base : Heap} {a : Ad} (T : Txt P K mg a) : FnOk P w K mg base CX0 1 a.f_greatest_divisor a.d_greatest_divisor (["left", "right"] : List Str) (sp_greatest_divisor K a) := by
  refine T.F_greatest_divisor.ok sc_greatest_divisor (fun vs H Q E h => sp2_len h) (fun cdv A outer s H vs Q E hr h => ?_)
  have hu := hu_of hr
  refine ⟨_, (pss_cons (ps_set (i := 0) sc_greatest_divisor.nd rfl (Or.inl rfl) (pe_callB qc_abs (by rfl) T.n_abs (by decide +kernel) (pa_cons (pv 0) pa_nil)))
      (pss_cons (ps_set (i := 1) sc_greatest_divisor.nd rfl (Or.inl rfl) (pe_callB qc_abs (by rfl) T.n_abs (by decide +kernel) (pa_cons (pv 1) pa_nil)))
      (pss_cons (ps_while PassesOwn.never (pt_cmpR op_gt (pv 1) pe_int (nomark _)) (pss_one (ps_par (i := 0) (j := 1) (by rfl) sc_greatest_divisor.nd rfl rfl (by decide) rfl rfl (pa_cons (pv 1) (pa_cons (pe_op op_mod (pv 0) (pv 1)) pa_nil)) (by rfl))))
      (pss_one (ps_ret (pv 0)))))), ?_⟩
  try dsimp only [L2.cxOf]
  obtain ⟨x, y, rfl, l, r, rfl, rfl, k⟩ := h
  rw [show L2.start (["left", "right"] : List Str) [(.int l), (.int r)] = ([some ((.int l)), some ((.int r))] : L2.St) from rfl]
  walk_at "w"
  refine while_by (fun σ' H' => H' = H ∧ ∃ p : Int × Int, σ' = [some (.int p.1), some (.int p.2)] ∧ 0 ≤ p.1 ∧ 0 ≤ p.2 ∧ Int.gcd p.1 p.2 = Int.gcd l r) (fun σ' _ => match σ' with | [_, some (.int z)] => z.toNat | _ => 0) ?_ ?_ ?_
  · have e1 := pabs_eq l
    have e2 := pabs_eq r
    refine ⟨rfl, (pabs l, pabs r), rfl, ?_, ?_, ?_⟩
    · show 0 ≤ pabs l
      omega
    · show 0 ≤ pabs r
      omega
    · show Int.gcd (pabs l) (pabs r) = Int.gcd l r
      rw [e1, e2]
      rfl
  · rintro σ' H' ⟨rfl, p, rfl, h1, h2, h3⟩
    walk_at "w"
    refine it_dec (fun c => ?_) (fun c => ?_)
    · walk_at "w"
      refine ⟨⟨rfl, (p.2, p.1 % p.2), rfl, h2, Int.emod_nonneg _ (by omega), ?_⟩, ?_⟩
      · have e : eStep p = (p.2, p.1 % p.2) := if_pos c
        have q := eStep_gcd (p := p)
        rw [e] at q
        exact q.trans h3
      · show (p.1 % p.2).toNat < p.2.toNat
        have := Int.emod_lt_of_pos p.1 c
        have := Int.emod_nonneg p.1 (show p.2 ≠ 0 by omega)
        omega
    · walk_at "w"
      have z : p.2 = 0 := by omega
      rw [z, Int.gcd_zero_right] at h3
      have e : p.1 = ((Int.gcd l r : Nat) : Int) := by omega
      rw [e]
      exact k
  · intro σ' H' Q1 Q2 m z
    obtain ⟨v, e1, z⟩ := z
    obtain ⟨i, j, e3, e4, b, e5, z⟩ := z
    exact ⟨v, e1, i, j, e3, e4, b, e5, m _ _ z⟩

/-- the law's bag of draws at b -/
def bagL (it : Addr) (p r s c : Int) : List V := [.ref it, .int p, .int r, .int s, .int c]
structure BagAt (H : Hp) (b : Addr) : Prop where
  ex : ∃ (it : Addr) (ns : List Int) (p r s c : Int), H b = some (.lst (bagL it p r s c)) ∧ H it = some (.lst (ns.map V.int)) ∧ b ≠ it ∧ 0 ≤ p ∧ 0 ≤ s ∧ s < 2147483647
theorem BagAt.lst {H : Hp} {b : Addr} (B : BagAt H b) : ∃ xs, H b = some (.lst xs) := by
  obtain ⟨it, ns, p, r, s, c, h, _⟩ := B.ex
  exact ⟨_, h⟩
theorem BagAt.same {H H' : Hp} {b : Addr} (B : BagAt H b) (s : Same H H') : BagAt H' b := by
  obtain ⟨it, ns, p, r, s', c, h1, h2, h3⟩ := B.ex
  exact ⟨it, ns, p, r, s', c, s _ _ h1, s _ _ h2, h3⟩
theorem BagAt.put {H : Hp} {b it : Addr} {ns : List Int} {p r s c : Int} (h2 : H it = some (.lst (ns.map V.int))) (hb : b ≠ it) (hp : 0 ≤ p) (hs : 0 ≤ s) (hs2 : s < 2147483647) : BagAt (upd H b (.lst (bagL it p r s c))) b :=
  ⟨it, ns, p, r, s, c, upd_same, by rw [upd_ne (Ne.symm hb)]; exact h2, hb, hp, hs, hs2⟩

def sp_law_bag (K : PySem.W.Frag) (a : Ad) : Sp := sp1 fun x H Q _ => ∃ (s : Addr) (ns : List Int), x = .ref s ∧ SqL K H s (ns.map V.int) ∧ ∀ b H', H b = none → Same H H' → BagAt H' b → Q (.ref b) H'
theorem ok_law_bag {P : Program} {w : World} {K : PySem.W.Frag} {mg : Str → Option Value} {base : Heap} {a : Ad} (T : Txt P K mg a) : FnOk P w K mg base CX0 1 a.f_law_bag a.d_law_bag (["_law_script"] : List Str) (sp_law_bag K a) := by
  refine T.F_law_bag.ok sc_law_bag (fun vs H Q E h => sp1_len h) (fun cdv A outer s H vs Q E hr h => ?_)
  have hu := hu_of hr
  refine ⟨_, (pss_one (ps_ret (pe_lst (pa_cons (pe_callTy qc_list (by rfl) T.n_list (by decide +kernel) (pa_cons (pe_slice sl_list (pv 0) po_none (po_some pe_int)) pa_nil)) (pa_cons pe_int (pa_cons pe_int (pa_cons pe_int (pa_cons pe_int pa_nil)))))))), ?_⟩
  try dsimp only [L2.cxOf]
  obtain ⟨x, rfl, s0, ns, rfl, hS, k⟩ := h
  rw [show L2.start (["_law_script"] : List Str) [(.ref s0)] = ([some ((.ref s0))] : L2.St) from rfl]
  walk_at "w"
  refine w_slL hS fun p1 n1 => ?_
  walk_at "w"
  refine w_listS (SqL.of upd_same) fun p2 n2 => ?_
  walk_at "w"
  refine ⟨by show 5 ≤ sizeLine; decide, fun b n3 => ?_⟩
  have z1 : H p2 = none := (Same.new (o := .lst (cutV (ns.map V.int) none (some 63))) n1).free n2
  have z2 : (upd H p1 (.lst (cutV (ns.map V.int) none (some 63)))) b = none := (Same.new n2).free n3
  have z3 : H b = none := (Same.new n1).free z2
  have e2 : b ≠ p2 := fun z => by
    rw [z, upd_same] at n3
    cases n3
  refine k b _ z3 (Same.upd (Same.upd (Same.new n1) z1) z3) ?_
  obtain ⟨ms, em⟩ : ∃ ms : List Int, cutV (ns.map V.int) none (some 63) = ms.map V.int := by
    unfold cutV
    rw [← List.map_drop, ← List.map_take]
    exact ⟨_, rfl⟩
  rw [em]
  exact BagAt.put upd_same e2 (by decide) (by decide) (by decide)

def sp_law_take (K : PySem.W.Frag) (a : Ad) : Sp := sp2 fun x y H Q _ => ∃ (b : Addr) (n : Int), x = .ref b ∧ y = .int n ∧ BagAt H b ∧ 0 < n ∧ n.natAbs < 2 ^ 8000 ∧ ∀ r H', 0 ≤ r → r < n → BagAt H' b → (∀ c, c ≠ b → H' c = H c) → Q (.int r) H'
theorem ok_law_take {P : Program} {w : World} {K : PySem.W.Frag} {mg : Str → Option Value} {base : Heap} {a : Ad} (T : Txt P K mg a) : FnOk P w K mg base CX0 1 a.f_law_take a.d_law_take (["_law_bag_here", "_law_size"] : List Str) (sp_law_take K a) := by
  refine T.F_law_take.ok sc_law_take (fun vs H Q E h => sp2_len h) (fun cdv A outer s H vs Q E hr h => ?_)
  have hu := hu_of hr
  refine ⟨_, (pss_cons (ps_if (pt_cmpR op_ge (pe_ix ix_list (pv 0) pe_int (fun _ _ => rfl)) (pe_op op_pow pe_int pe_int) (nomark _)) (pss_cons (ps_set (i := 2) sc_law_take.nd rfl (Or.inl rfl) (pe_op op_mod (pe_callTy qc_int1 (by rfl) T.n_int (by decide +kernel) (pa_cons (pe_ix ix_list (pv 0) pe_int (fun _ _ => rfl)) pa_nil)) (pv 1)))
      (pss_cons (ps_asg (pe_op op_fdivX (pe_ix ix_list (pv 0) pe_int (fun _ _ => rfl)) (pv 1)) (pg_sub (pv 0) pe_int set_list))
      (pss_one (ps_ret (pv 2))))) pss_nil)
      (pss_cons (ps_set (i := 3) sc_law_take.nd rfl (Or.inl rfl) pe_int)
      (Evl.pss_cut (ps_if (pt_cmpR op_lt (pe_ix ix_list (pv 0) pe_int (fun _ _ => rfl)) (pe_callB qc_len (by rfl) T.n_len (by decide +kernel) (pa_cons (pe_ix ix_list (pv 0) pe_int (fun _ _ => rfl)) pa_nil)) (nomark _)) (pss_cons (ps_set (i := 3) sc_law_take.nd rfl (Or.inl rfl) (pe_ix ix_list (pe_ix ix_list (pv 0) pe_int (fun _ _ => rfl)) (pe_ix ix_list (pv 0) pe_int (fun _ _ => rfl)) (fun _ _ => rfl)))
      (pss_one (ps_asg (pe_op op_add (pe_ix ix_list (pv 0) pe_int (fun _ _ => rfl)) pe_int) (pg_sub (pv 0) pe_int set_list)))) pss_nil)
      (pss_cons (ps_if (pt_cmpR op_ge (pv 3) (pe_op op_pow pe_int pe_int) (nomark _)) (pss_cons (ps_asg (pe_op op_fdivX (pv 3) (pv 1)) (pg_sub (pv 0) pe_int set_list))
      (pss_one (ps_ret (pe_op op_mod (pe_callTy qc_int1 (by rfl) T.n_int (by decide +kernel) (pa_cons (pv 3) pa_nil)) (pv 1))))) pss_nil)
      (pss_cons (ps_asg (pe_op op_add (pe_ix ix_list (pv 0) pe_int (fun _ _ => rfl)) pe_int) (pg_sub (pv 0) pe_int set_list))
      (pss_cons (ps_asg (pe_op op_mod (pe_callTy qc_int1 (by rfl) T.n_int (by decide +kernel) (pa_cons (pe_op op_add (pe_op op_add (pe_op op_mul (pe_ix ix_list (pv 0) pe_int (fun _ _ => rfl)) pe_int) (pv 3)) (pe_op op_mul (pe_ix ix_list (pv 0) pe_int (fun _ _ => rfl)) pe_int)) pa_nil)) pe_int) (pg_sub (pv 0) pe_int set_list))
      (pss_one (ps_ret (pe_op op_mod (pe_op op_fdivX (pe_op op_mod (pe_callTy qc_int1 (by rfl) T.n_int (by decide +kernel) (pa_cons (pe_op op_mul (pe_ix ix_list (pv 0) pe_int (fun _ _ => rfl)) (pe_ix ix_list (pv 0) pe_int (fun _ _ => rfl))) pa_nil)) pe_int) pe_int) (pv 1)))))))))), ?_⟩
  try dsimp only [L2.cxOf]
  obtain ⟨x, y, rfl, b, n, rfl, rfl, B, hn, hz, k⟩ := h
  obtain ⟨it, ns, p, r, s0, c, hb, hit, hne, hp, hs, hs2⟩ := B.ex
  have dn : ∀ i, CDivX i n := fun i => divX (by omega) hz (by decide) (by decide)
  have mn : ∀ i : Int, 0 ≤ i % n ∧ i % n < n := fun i => ⟨Int.emod_nonneg _ (by omega), Int.emod_lt_of_pos _ hn⟩
  have fr : ∀ (o : HO) (c : Addr), c ≠ b → upd H b o c = H c := fun o c z => upd_ne z
  rw [show L2.start (["_law_bag_here", "_law_size", "_law_digit", "_law_cell"] : List Str) [(.ref b), (.int n)] = ([some ((.ref b)), some ((.int n)), none, none] : L2.St) from rfl]
  walk_at "w"
  refine it_dec (fun c1 => ?_) (fun c1 => ?_)
  · walk_at "w"
    exact k _ _ (mn r).1 (mn r).2 (BagAt.put hit hne hp hs hs2) (fr _)
  · walk_at "w"
    refine ⟨fun σ' H' => ∃ cell p', σ' = [some (.ref b), some (.int n), none, some (.int cell)] ∧ 0 ≤ p' ∧ H' b = some (.lst (bagL it p' r s0 c)) ∧ ∀ z, z ≠ b → H' z = H z, ?_, ?_⟩
    · walk_at "w"
      refine it_dec (fun c2 => ?_) (fun c2 => ?_)
      · walk_at "w"
        obtain ⟨j, rfl⟩ := Int.eq_ofNat_of_zero_le hp
        rw [List.length_map] at c2
        have hj : j < ns.length := Int.ofNat_lt.mp c2
        refine w_ix (SqL.of hit) (at_of (j := j) rfl (by rw [List.getElem?_map, List.getElem?_eq_getElem hj]; rfl)) ?_
        walk_at "w"
        exact ⟨_, (j : Int) + 1, rfl, by omega, upd_same, fun z hz => upd_ne hz⟩
      · walk_at "w"
        exact ⟨0, p, rfl, hp, hb, fun _ _ => rfl⟩
    · rintro σ' H' ⟨cell, p', rfl, hp', hb', fr'⟩
      have hit' : H' it = some (.lst (ns.map V.int)) := (fr' it (Ne.symm hne)).trans hit
      walk_at "w"
      refine it_dec (fun c3 => ?_) (fun c3 => ?_)
      · walk_at "w"
        exact k _ _ (mn _).1 (mn _).2 (BagAt.put hit' hne hp' hs hs2) fun z hz => (upd_ne hz).trans (fr' z hz)
      · have q0 := Int.emod_nonneg (s0 * 48271 + cell + (c + 1) * 69621) (show (2147483647 : Int) ≠ 0 by decide)
        have q1 := Int.emod_lt_of_pos (s0 * 48271 + cell + (c + 1) * 69621) (show (0 : Int) < 2147483647 by decide)
        walk_at "w"
        refine k _ _ (mn _).1 (mn _).2 ?_ fun z hz => ((upd_ne hz).trans (upd_ne hz)).trans (fr' z hz)
        rw [upd_upd]
        exact BagAt.put hit' hne hp' q0 q1

/-- InvalidNumber(v) is raised -/
abbrev raiseIN (a : Ad) (v : V) (H : Hp) (E : XK) : Prop := ∀ d, H d = none → E (.ref a.C_InvalidNumber) (some d) (upd H d (.xd [("value", v)]))
theorem ratio_put {x y : V} : putF "bottom" y (putF "top" x []) = ([("top", x), ("bottom", y)] : List (Str × V)) := by
  have h : ¬ (("top" : Str) = "bottom") := by decide +kernel
  show (if ("top" : Str) = "bottom" then [(("top" : Str), y)] else (("top" : Str), x) :: putF "bottom" y []) = _
  rw [if_neg h]
  rfl

def sp_Ratio_init (K : PySem.W.Frag) (a : Ad) : Sp := sp3 fun s x y H Q E => ∃ (p dx : Addr) (bt : Bool), s = .ref p ∧ H p = some (.ins a.C_Ratio dx []) ∧ IsI K H x bt ∧ (bt = false → raiseIN a x H E) ∧
  (bt = true → ∃ t : Int, x = .int t ∧ ∃ bb, IsI K H y bb ∧ (bb = false → raiseIN a y H E) ∧ (bb = true → ∃ b : Int, y = .int b ∧ (b = 0 → raiseIN a y H E) ∧
    (b ≠ 0 → b.natAbs < 2 ^ 8000 ∧ Q .non (upd H p (.ins a.C_Ratio dx [("top", .int (lowT t b)), ("bottom", .int (lowB t b))])))))
theorem ok_Ratio_init {P : Program} {w : World} {K : PySem.W.Frag} {mg : Str → Option Value} {base : Heap} {a : Ad} (T : Txt P K mg a) : FnOk P w K mg base (L2.CX P w) 2 a.f_Ratio_init a.d_Ratio_init (["self", "top", "bottom"] : List Str) (sp_Ratio_init K a) := by
  refine T.F_Ratio_init.ok sc_Ratio_init (fun vs H Q E h => sp3_len h) (fun cdv A outer s H vs Q E hr h => ?_)
  have hu := hu_of hr
  refine ⟨_, (pss_cons (ps_if (pt_not (pt_val (pe_call (ok_is_integer T) (hr.mono (by decide)) rfl T.g_is_integer T.k_is_integer T.B_is_integer .nil pass0 (pa_cons (pv 1) pa_nil)))) (pss_one (ps_rs rfl (takes_of rfl rfl rfl rfl) (pmk1 T.E_InvalidNumber T.Y_InvalidNumber T.x_InvalidNumber_value hr (pa_cons (pv 1) pa_nil)))) pss_nil)
      (pss_cons (ps_if (PW.pt (pw_or (pt_not (pt_val (pe_call (ok_is_integer T) (hr.mono (by decide)) rfl T.g_is_integer T.k_is_integer T.B_is_integer .nil pass0 (pa_cons (pv 2) pa_nil)))) (pw_or1 (pt_cmpR op_eq (pv 2) pe_int (nomark _))))) (pss_one (ps_rs rfl (takes_of rfl rfl rfl rfl) (pmk1 T.E_InvalidNumber T.Y_InvalidNumber T.x_InvalidNumber_value hr (pa_cons (pv 2) pa_nil)))) pss_nil)
      (pss_cons (ps_set (i := 3) sc_Ratio_init.nd rfl (Or.inl rfl) (pe_call (ok_greatest_divisor T) (hr.mono (by decide)) rfl T.g_greatest_divisor T.k_greatest_divisor T.B_greatest_divisor .nil pass0 (pa_cons (pv 1) (pa_cons (pv 2) pa_nil))))
      (Evl.pss_cut (ps_if (pt_cmpR op_lt (pv 2) pe_int (nomark _)) (pss_one (ps_set (i := 3) sc_Ratio_init.nd rfl (Or.inl rfl) (pe_un un_neg (pv 3)))) pss_nil)
      (pss_cons (ps_fld (pv 0) (pe_op op_fdivX (pv 1) (pv 3)) rfl)
      (pss_one (ps_fld (pv 0) (pe_op op_fdivX (pv 2) (pv 3)) rfl))))))), ?_⟩
  try dsimp only [L2.cxOf]
  obtain ⟨s0, x, y, rfl, p, dx, bt, rfl, hp, hx, k0, k1⟩ := h
  rw [show L2.start (["self", "top", "bottom", "shared"] : List Str) [(.ref p), x, y] = ([some ((.ref p)), some (x), some (y), none] : L2.St) from rfl]
  walk_at "w"
  refine ⟨x, rfl, bt, hx, ?_⟩
  cases bt with
  | false =>
    walk_at "w"
    exact k0 rfl
  | true =>
    obtain ⟨t, rfl, bb, hy, k2, k3⟩ := k1 rfl
    walk_at "w"
    refine ⟨y, rfl, bb, hy, ?_⟩
    cases bb with
    | false =>
      walk_at "w"
      exact k2 rfl
    | true =>
      obtain ⟨b, rfl, k4, k5⟩ := k3 rfl
      walk_at "w"
      refine it_dec (fun c => ?_) (fun c => ?_)
      · walk_at "w"
        exact k4 (V.int.inj c)
      · walk_at "w"
        have hb : b ≠ 0 := fun z => c (congrArg V.int z)
        obtain ⟨hz, k6⟩ := k5 hb
        refine ⟨.int t, .int b, rfl, t, b, rfl, rfl, ?_⟩
        have g0 := gcd_pos_of (t := t) hb
        have g1 : Int.gcd t b ≤ b.natAbs := Int.gcd_le_natAbs_right t hb
        have dx0 : ∀ i, CDivX i (sgn b (Int.gcd t b)) := fun i => divX (sgn_ne hb) (Nat.lt_of_le_of_lt (by unfold sgn; split <;> omega) hz) (by decide) (by decide)
        walk_at "w"
        refine ⟨fun σ' H' => H' = H ∧ σ' = [some (.ref p), some (.int t), some (.int b), some (.int (sgn b (Int.gcd t b)))], ?_, ?_⟩
        · walk_at "w"
          refine it_dec (fun c => ?_) (fun c => ?_)
          · walk_at "w"
            exact ⟨rfl, by rw [show sgn b (Int.gcd t b) = -((Int.gcd t b : Nat) : Int) from if_pos c]⟩
          · walk_at "w"
            exact ⟨rfl, by rw [show sgn b (Int.gcd t b) = ((Int.gcd t b : Nat) : Int) from if_neg c]⟩
        · rintro σ' H' ⟨rfl, rfl⟩
          walk_at "w"
          refine ⟨p, _, dx, _, rfl, hp, T.c_Ratio, T.na_Ratio_top, by decide, ?_⟩
          walk_at "w"
          refine ⟨p, _, dx, _, rfl, upd_same, T.c_Ratio, T.na_Ratio_bottom, by show 1 < 1000; decide, ?_⟩
          rw [upd_upd, ratio_put]
          exact k6

/-- a ratio t over b stands at p -/
def rfields (t b : Int) : List (Str × V) := [("top", .int t), ("bottom", .int b)]
structure RatioAt (a : Ad) (H : Hp) (p : Addr) (t b : Int) : Prop where
  ex : ∃ dx, H p = some (.ins a.C_Ratio dx (rfields t b))
theorem rl_top (t b : Int) : (rfields t b).lookup ("top" : Str) = some (.int t) := by simp [rfields, List.lookup]
theorem rl_bottom (t b : Int) : (rfields t b).lookup ("bottom" : Str) = some (.int b) := by
  have h : (("bottom" : Str) == "top") = false := by decide +kernel
  simp [rfields, List.lookup, h]
theorem RatioAt.same {a : Ad} {H H' : Hp} {p : Addr} {t b : Int} (R : RatioAt a H p t b) (s : Same H H') : RatioAt a H' p t b := by
  obtain ⟨dx, h⟩ := R.ex
  exact ⟨dx, s _ _ h⟩

/-- Ratio(t, b) with b not 0 -/
theorem init_ok {K : PySem.W.Frag} {a : Ad} {H : Hp} {p dx : Addr} {t b : Int} {Q : VK} {E : XK} (hp : H p = some (.ins a.C_Ratio dx [])) (hb : b ≠ 0) (hz : b.natAbs < 2 ^ 8000)
    (k : Q .non (upd H p (.ins a.C_Ratio dx (rfields (lowT t b) (lowB t b))))) : sp_Ratio_init K a [.ref p, .int t, .int b] H Q E :=
  ⟨_, _, _, rfl, p, dx, true, rfl, hp, isI_int _, (fun z => by cases z), fun _ => ⟨t, rfl, true, isI_int _, (fun z => by cases z), fun _ => ⟨b, rfl, fun z => absurd z hb, fun _ => ⟨hz, k⟩⟩⟩⟩
/-- the new instance, made whole: nothing else is touched -/
theorem made_same {H : Hp} {z dz C : Addr} {fs gs : List (Str × V)} (nz : H z = none) (nd : H dz = none) : Same H (upd (upd (upd H dz (.own z)) z (.ins C dz fs)) z (.ins C dz gs)) := by
  rw [upd_upd]
  exact Same.upd (Same.new nd) nz
theorem made_at {a : Ad} {H : Hp} {z dz : Addr} {fs : List (Str × V)} {t b : Int} : RatioAt a (upd (upd (upd H dz (.own z)) z (.ins a.C_Ratio dz fs)) z (.ins a.C_Ratio dz (rfields t b))) z t b := ⟨dz, upd_same⟩

theorem dn_add : PySem.dunder "add" = ("__add__" : Str) := by decide +kernel
theorem dn_sub : PySem.dunder "sub" = ("__sub__" : Str) := by decide +kernel
theorem dn_mul : PySem.dunder "mul" = ("__mul__" : Str) := by decide +kernel
theorem dr_add : dunderR "add" = ("__radd__" : Str) := by decide +kernel
theorem dr_sub : dunderR "sub" = ("__rsub__" : Str) := by decide +kernel
theorem dr_mul : dunderR "mul" = ("__rmul__" : Str) := by decide +kernel
theorem ops_Ratio_add {P : Program} {K : PySem.W.Frag} {mg : Str → Option Value} {a : Ad} (T : Txt P K mg a) : OpC K a.C_Ratio "add" a.f_Ratio_add a.f_Ratio_radd :=
  ⟨T.sf_Ratio, by rw [dn_add]; exact T.M_Ratio_add.at_, T.M_Ratio_add.fn, by rw [dr_add]; exact T.M_Ratio_radd.at_, T.M_Ratio_radd.fn, ⟨_, by rw [dn_add]; exact T.ia_add⟩, ⟨_, by rw [dr_add]; exact T.ir_add⟩, T.su_int_Ratio, T.su_Ratio_int⟩
theorem ops_Ratio_sub {P : Program} {K : PySem.W.Frag} {mg : Str → Option Value} {a : Ad} (T : Txt P K mg a) : OpC K a.C_Ratio "sub" a.f_Ratio_sub a.f_Ratio_rsub :=
  ⟨T.sf_Ratio, by rw [dn_sub]; exact T.M_Ratio_sub.at_, T.M_Ratio_sub.fn, by rw [dr_sub]; exact T.M_Ratio_rsub.at_, T.M_Ratio_rsub.fn, ⟨_, by rw [dn_sub]; exact T.ia_sub⟩, ⟨_, by rw [dr_sub]; exact T.ir_sub⟩, T.su_int_Ratio, T.su_Ratio_int⟩
theorem ops_Ratio_mul {P : Program} {K : PySem.W.Frag} {mg : Str → Option Value} {a : Ad} (T : Txt P K mg a) : OpC K a.C_Ratio "mul" a.f_Ratio_mul a.f_Ratio_rmul :=
  ⟨T.sf_Ratio, by rw [dn_mul]; exact T.M_Ratio_mul.at_, T.M_Ratio_mul.fn, by rw [dr_mul]; exact T.M_Ratio_rmul.at_, T.M_Ratio_rmul.fn, ⟨_, by rw [dn_mul]; exact T.ia_mul⟩, ⟨_, by rw [dr_mul]; exact T.ir_mul⟩, T.su_int_Ratio, T.su_Ratio_int⟩
/-- an operand: a ratio u over v, or the int u -/
def Oper (a : Ad) (H : Hp) (y : V) (u v : Int) : Prop := (∃ p, y = .ref p ∧ RatioAt a H p u v) ∨ (y = .int u ∧ v = 1)
theorem Oper.own {a : Ad} {H : Hp} {y : V} {u v : Int} (o : Oper a H y u v) : (∃ i, y = .int i) ∨ ∃ b dy gs, y = .ref b ∧ H b = some (.ins a.C_Ratio dy gs) := by
  rcases o with ⟨p, rfl, R⟩ | ⟨rfl, _⟩
  · obtain ⟨dx, h⟩ := R.ex
    exact .inr ⟨p, dx, _, rfl, h⟩
  · exact .inl ⟨u, rfl⟩
/-- a new ratio comes back -/
abbrev GivesR (a : Ad) (H : Hp) (Q : VK) (t b : Int) : Prop := ∀ q H', H q = none → Same H H' → RatioAt a H' q t b → Q (.ref q) H'
theorem made_gives {a : Ad} {H : Hp} {Q : VK} {z dz : Addr} {t b : Int} (k : GivesR a H Q t b) (nz : H z = none) (nd : H dz = none) : Q (.ref z) (upd (upd (upd H dz (.own z)) z (.ins a.C_Ratio dz [])) z (.ins a.C_Ratio dz (rfields t b))) :=
  k z _ nz (made_same nz nd) made_at

def sp_as_ratio (K : PySem.W.Frag) (a : Ad) : Sp := sp1 fun x H Q _ => (∃ p t b, x = .ref p ∧ RatioAt a H p t b ∧ Q x H) ∨ (∃ i, x = .int i ∧ GivesR a H Q i 1)
theorem ok_as_ratio {P : Program} {w : World} {K : PySem.W.Frag} {mg : Str → Option Value} {base : Heap} {a : Ad} (T : Txt P K mg a) : FnOk P w K mg base CX0 4 a.f_as_ratio a.d_as_ratio (["value"] : List Str) (sp_as_ratio K a) := by
  refine T.F_as_ratio.ok sc_as_ratio (fun vs H Q E h => sp1_len h) (fun cdv A outer s H vs Q E hr h => ?_)
  have hu := hu_of hr
  refine ⟨_, (pss_cons (ps_if (pt_val (pe_callB call_isi (by rfl) T.n_isinstance (by decide +kernel) (pa_cons (pv 0) (pa_cons (pe_glob (v := .ref a.C_Ratio) rfl T.g_Ratio rfl) pa_nil)))) (pss_one (ps_ret (pv 0))) pss_nil)
      (pss_cons (ps_if (pt_val (pe_call (ok_is_integer T) (hr.mono (by decide)) rfl T.g_is_integer T.k_is_integer T.B_is_integer .nil pass0 (pa_cons (pv 0) pa_nil))) (pss_one (ps_ret (pe_mkS T.M_Ratio (ok_Ratio_init T) (hr.mono (by decide)) rfl T.g_Ratio T.B1_Ratio_init T.V1_Ratio_init (fun σ => passAt takes0 σ) (pa_cons (pv 0) pa_nil)))) pss_nil)
      (pss_one (ps_ret pe_non)))), ?_⟩
  try dsimp only [L2.cxOf]
  obtain ⟨x, rfl, ⟨p, t, b, rfl, R, k⟩ | ⟨i, rfl, k⟩⟩ := h
  · obtain ⟨dx, hp⟩ := R.ex
    rw [show L2.start (["value"] : List Str) [(.ref p)] = ([some ((.ref p))] : L2.St) from rfl]
    walk_at "w"
    refine w_isi (.own _) (ty_ins hp T.c_Ratio T.I_Ratio) kit_self ?_
    walk_at "w"
    exact k
  · rw [show L2.start (["value"] : List Str) [(.int i)] = ([some ((.int i))] : L2.St) from rfl]
    walk_at "w"
    refine w_isi (.own _) (.base (.int i)) T.ki_int_Ratio ?_
    walk_at "w"
    refine ⟨_, rfl, true, isI_int i, ?_⟩
    walk_at "w"
    intro z dz nz nd ne
    refine init_ok upd_same (by decide) (by decide +kernel) ⟨rfl, ?_⟩
    rw [(low_one i).1, (low_one i).2]
    exact made_gives k nz nd

/-- what the three operators' bodies share: the right operand as a ratio -/
theorem as_call {K : PySem.W.Frag} {a : Ad} {H : Hp} {y : V} {u v : Int} {Q : VK} {E : XK} (o : Oper a H y u v) (k : ∀ q H', Same H H' → RatioAt a H' q u v → Q (.ref q) H') : sp_as_ratio K a [y] H Q E := by
  rcases o with ⟨p, rfl, R⟩ | ⟨rfl, rfl⟩
  · exact ⟨_, rfl, .inl ⟨p, u, v, rfl, R, k p H (Same.refl H) R⟩⟩
  · exact ⟨_, rfl, .inr ⟨u, rfl, fun q H' _ s R => k q H' s R⟩⟩
def spBin (a : Ad) (f g : Int → Int → Int → Int → Int) : Sp := sp2 fun x y H Q _ => ∃ (p : Addr) (t b u v : Int), x = .ref p ∧ RatioAt a H p t b ∧ Oper a H y u v ∧ (t.natAbs < 2 ^ 1000 ∧ b.natAbs < 2 ^ 1000 ∧ u.natAbs < 2 ^ 1000 ∧ v.natAbs < 2 ^ 1000) ∧ b ≠ 0 ∧ v ≠ 0 ∧
  GivesR a H Q (lowT (f t b u v) (g t b u v)) (lowB (f t b u v) (g t b u v))

abbrev sp_Ratio_add (K : PySem.W.Frag) (a : Ad) : Sp := spBin a (fun t b u v => t * v + u * b) (fun t b u v => b * v)
theorem ok_Ratio_add {P : Program} {w : World} {K : PySem.W.Frag} {mg : Str → Option Value} {base : Heap} {a : Ad} (T : Txt P K mg a) : FnOk P w K mg base CX0 5 a.f_Ratio_add a.d_Ratio_add (["self", "other"] : List Str) (sp_Ratio_add K a) := by
  refine T.F_Ratio_add.ok sc_Ratio_add (fun vs H Q E h => sp2_len h) (fun cdv A outer s H vs Q E hr h => ?_)
  have hu := hu_of hr
  refine ⟨_, (pss_cons (ps_set (i := 2) sc_Ratio_add.nd rfl (Or.inl rfl) (pe_call (ok_as_ratio T) (hr.mono (by decide)) rfl T.g_as_ratio T.k_as_ratio T.B_as_ratio .nil pass0 (pa_cons (pv 1) pa_nil)))
      (pss_cons (ps_if (pt_cmpR qo_isN (pv 2) pe_non (nomark _)) (pss_one ps_never) pss_nil)
      (pss_one (ps_ret (pe_mkS T.M_Ratio (ok_Ratio_init T) (hr.mono (by decide)) rfl T.g_Ratio T.B_Ratio_init .nil (fun σ => passAt takes0 σ) (pa_cons (pe_op op_add (pe_op op_mulW (pe_fld (pv 0) rfl) (pe_fld (pv 2) rfl)) (pe_op op_mulW (pe_fld (pv 2) rfl) (pe_fld (pv 0) rfl))) (pa_cons (pe_op op_mulW (pe_fld (pv 0) rfl) (pe_fld (pv 2) rfl)) pa_nil))))))), ?_⟩
  try dsimp only [L2.cxOf]
  obtain ⟨x, y, rfl, p, t, b, u, v, rfl, R, o, ⟨m1, m2, m3, m4⟩, hb, hv, k⟩ := h
  rw [show L2.start (["self", "other", "right"] : List Str) [(.ref p), y] = ([some ((.ref p)), some (y), none] : L2.St) from rfl]
  walk_at "w"
  refine as_call o fun q H1 s1 R1 => ?_
  have R' := R.same s1
  obtain ⟨dx, hp⟩ := R'.ex
  obtain ⟨dq, hq⟩ := R1.ex
  walk_at "w"
  rw [decide_eq_false (show ¬ (V.ref q = .non) from fun z => nomatch z)]
  walk_at "w"
  refine ⟨p, _, dx, _, _, rfl, hp, T.c_Ratio, T.na_Ratio_top, rl_top t b, ?_⟩
  walk_at "w"
  refine ⟨q, _, dq, _, _, rfl, hq, T.c_Ratio, T.na_Ratio_bottom, rl_bottom u v, ?_⟩
  walk_at "w"
  refine ⟨q, _, dq, _, _, rfl, hq, T.c_Ratio, T.na_Ratio_top, rl_top u v, ?_⟩
  walk_at "w"
  refine ⟨p, _, dx, _, _, rfl, hp, T.c_Ratio, T.na_Ratio_bottom, rl_bottom t b, ?_⟩
  walk_at "w"
  refine ⟨p, _, dx, _, _, rfl, hp, T.c_Ratio, T.na_Ratio_bottom, rl_bottom t b, ?_⟩
  walk_at "w"
  refine ⟨q, _, dq, _, _, rfl, hq, T.c_Ratio, T.na_Ratio_bottom, rl_bottom u v, ?_⟩
  walk_at "w"
  intro z dz nz nd ne
  refine init_ok upd_same (Int.mul_ne_zero hb hv) (mul_small m2 m4) ⟨rfl, ?_⟩
  exact k z _ (s1.free nz) (s1.trans (made_same nz nd)) made_at

abbrev sp_Ratio_sub (K : PySem.W.Frag) (a : Ad) : Sp := spBin a (fun t b u v => t * v - u * b) (fun t b u v => b * v)
theorem ok_Ratio_sub {P : Program} {w : World} {K : PySem.W.Frag} {mg : Str → Option Value} {base : Heap} {a : Ad} (T : Txt P K mg a) : FnOk P w K mg base CX0 5 a.f_Ratio_sub a.d_Ratio_sub (["self", "other"] : List Str) (sp_Ratio_sub K a) := by
  refine T.F_Ratio_sub.ok sc_Ratio_sub (fun vs H Q E h => sp2_len h) (fun cdv A outer s H vs Q E hr h => ?_)
  have hu := hu_of hr
  refine ⟨_, (pss_cons (ps_set (i := 2) sc_Ratio_sub.nd rfl (Or.inl rfl) (pe_call (ok_as_ratio T) (hr.mono (by decide)) rfl T.g_as_ratio T.k_as_ratio T.B_as_ratio .nil pass0 (pa_cons (pv 1) pa_nil)))
      (pss_cons (ps_if (pt_cmpR qo_isN (pv 2) pe_non (nomark _)) (pss_one ps_never) pss_nil)
      (pss_one (ps_ret (pe_mkS T.M_Ratio (ok_Ratio_init T) (hr.mono (by decide)) rfl T.g_Ratio T.B_Ratio_init .nil (fun σ => passAt takes0 σ) (pa_cons (pe_op op_sub (pe_op op_mulW (pe_fld (pv 0) rfl) (pe_fld (pv 2) rfl)) (pe_op op_mulW (pe_fld (pv 2) rfl) (pe_fld (pv 0) rfl))) (pa_cons (pe_op op_mulW (pe_fld (pv 0) rfl) (pe_fld (pv 2) rfl)) pa_nil))))))), ?_⟩
  try dsimp only [L2.cxOf]
  obtain ⟨x, y, rfl, p, t, b, u, v, rfl, R, o, ⟨m1, m2, m3, m4⟩, hb, hv, k⟩ := h
  rw [show L2.start (["self", "other", "right"] : List Str) [(.ref p), y] = ([some ((.ref p)), some (y), none] : L2.St) from rfl]
  walk_at "w"
  refine as_call o fun q H1 s1 R1 => ?_
  have R' := R.same s1
  obtain ⟨dx, hp⟩ := R'.ex
  obtain ⟨dq, hq⟩ := R1.ex
  walk_at "w"
  rw [decide_eq_false (show ¬ (V.ref q = .non) from fun z => nomatch z)]
  walk_at "w"
  refine ⟨p, _, dx, _, _, rfl, hp, T.c_Ratio, T.na_Ratio_top, rl_top t b, ?_⟩
  walk_at "w"
  refine ⟨q, _, dq, _, _, rfl, hq, T.c_Ratio, T.na_Ratio_bottom, rl_bottom u v, ?_⟩
  walk_at "w"
  refine ⟨q, _, dq, _, _, rfl, hq, T.c_Ratio, T.na_Ratio_top, rl_top u v, ?_⟩
  walk_at "w"
  refine ⟨p, _, dx, _, _, rfl, hp, T.c_Ratio, T.na_Ratio_bottom, rl_bottom t b, ?_⟩
  walk_at "w"
  refine ⟨p, _, dx, _, _, rfl, hp, T.c_Ratio, T.na_Ratio_bottom, rl_bottom t b, ?_⟩
  walk_at "w"
  refine ⟨q, _, dq, _, _, rfl, hq, T.c_Ratio, T.na_Ratio_bottom, rl_bottom u v, ?_⟩
  walk_at "w"
  intro z dz nz nd ne
  refine init_ok upd_same (Int.mul_ne_zero hb hv) (mul_small m2 m4) ⟨rfl, ?_⟩
  exact k z _ (s1.free nz) (s1.trans (made_same nz nd)) made_at

abbrev sp_Ratio_mul (K : PySem.W.Frag) (a : Ad) : Sp := spBin a (fun t b u v => t * u) (fun t b u v => b * v)
theorem ok_Ratio_mul {P : Program} {w : World} {K : PySem.W.Frag} {mg : Str → Option Value} {base : Heap} {a : Ad} (T : Txt P K mg a) : FnOk P w K mg base CX0 5 a.f_Ratio_mul a.d_Ratio_mul (["self", "other"] : List Str) (sp_Ratio_mul K a) := by
  refine T.F_Ratio_mul.ok sc_Ratio_mul (fun vs H Q E h => sp2_len h) (fun cdv A outer s H vs Q E hr h => ?_)
  have hu := hu_of hr
  refine ⟨_, (pss_cons (ps_set (i := 2) sc_Ratio_mul.nd rfl (Or.inl rfl) (pe_call (ok_as_ratio T) (hr.mono (by decide)) rfl T.g_as_ratio T.k_as_ratio T.B_as_ratio .nil pass0 (pa_cons (pv 1) pa_nil)))
      (pss_cons (ps_if (pt_cmpR qo_isN (pv 2) pe_non (nomark _)) (pss_one ps_never) pss_nil)
      (pss_one (ps_ret (pe_mkS T.M_Ratio (ok_Ratio_init T) (hr.mono (by decide)) rfl T.g_Ratio T.B_Ratio_init .nil (fun σ => passAt takes0 σ) (pa_cons (pe_op op_mulW (pe_fld (pv 0) rfl) (pe_fld (pv 2) rfl)) (pa_cons (pe_op op_mulW (pe_fld (pv 0) rfl) (pe_fld (pv 2) rfl)) pa_nil))))))), ?_⟩
  try dsimp only [L2.cxOf]
  obtain ⟨x, y, rfl, p, t, b, u, v, rfl, R, o, ⟨m1, m2, m3, m4⟩, hb, hv, k⟩ := h
  rw [show L2.start (["self", "other", "right"] : List Str) [(.ref p), y] = ([some ((.ref p)), some (y), none] : L2.St) from rfl]
  walk_at "w"
  refine as_call o fun q H1 s1 R1 => ?_
  have R' := R.same s1
  obtain ⟨dx, hp⟩ := R'.ex
  obtain ⟨dq, hq⟩ := R1.ex
  walk_at "w"
  rw [decide_eq_false (show ¬ (V.ref q = .non) from fun z => nomatch z)]
  walk_at "w"
  refine ⟨p, _, dx, _, _, rfl, hp, T.c_Ratio, T.na_Ratio_top, rl_top t b, ?_⟩
  walk_at "w"
  refine ⟨q, _, dq, _, _, rfl, hq, T.c_Ratio, T.na_Ratio_top, rl_top u v, ?_⟩
  walk_at "w"
  refine ⟨p, _, dx, _, _, rfl, hp, T.c_Ratio, T.na_Ratio_bottom, rl_bottom t b, ?_⟩
  walk_at "w"
  refine ⟨q, _, dq, _, _, rfl, hq, T.c_Ratio, T.na_Ratio_bottom, rl_bottom u v, ?_⟩
  walk_at "w"
  intro z dz nz nd ne
  refine init_ok upd_same (Int.mul_ne_zero hb hv) (mul_small m2 m4) ⟨rfl, ?_⟩
  exact k z _ (s1.free nz) (s1.trans (made_same nz nd)) made_at

def spUn (a : Ad) (f : Int → Int) : Sp := sp1 fun x H Q _ => ∃ (p : Addr) (t b : Int), x = .ref p ∧ RatioAt a H p t b ∧ b.natAbs < 2 ^ 1000 ∧ b ≠ 0 ∧ GivesR a H Q (lowT (f t) b) (lowB (f t) b)
theorem RatioAt.ins {a : Ad} {H : Hp} {p : Addr} {t b : Int} (R : RatioAt a H p t b) : ∃ dx fs, H p = some (.ins a.C_Ratio dx fs) := by
  obtain ⟨dx, h⟩ := R.ex
  exact ⟨dx, _, h⟩

abbrev sp_Ratio_neg (K : PySem.W.Frag) (a : Ad) : Sp := spUn a (fun t => -t)
theorem ok_Ratio_neg {P : Program} {w : World} {K : PySem.W.Frag} {mg : Str → Option Value} {base : Heap} {a : Ad} (T : Txt P K mg a) : FnOk P w K mg base CX0 4 a.f_Ratio_neg a.d_Ratio_neg (["self"] : List Str) (sp_Ratio_neg K a) := by
  refine T.F_Ratio_neg.ok sc_Ratio_neg (fun vs H Q E h => sp1_len h) (fun cdv A outer s H vs Q E hr h => ?_)
  have hu := hu_of hr
  refine ⟨_, (pss_one (ps_ret (pe_mkS T.M_Ratio (ok_Ratio_init T) (hr.mono (by decide)) rfl T.g_Ratio T.B_Ratio_init .nil (fun σ => passAt takes0 σ) (pa_cons (pe_un un_neg (pe_fld (pv 0) rfl)) (pa_cons (pe_fld (pv 0) rfl) pa_nil))))), ?_⟩
  try dsimp only [L2.cxOf]
  obtain ⟨x, rfl, p, t, b, rfl, R, m, hb, k⟩ := h
  obtain ⟨dx, hp⟩ := R.ex
  rw [show L2.start (["self"] : List Str) [(.ref p)] = ([some ((.ref p))] : L2.St) from rfl]
  walk_at "w"
  refine ⟨p, _, dx, _, _, rfl, hp, T.c_Ratio, T.na_Ratio_top, rl_top t b, ?_⟩
  walk_at "w"
  refine ⟨p, _, dx, _, _, rfl, hp, T.c_Ratio, T.na_Ratio_bottom, rl_bottom t b, ?_⟩
  walk_at "w"
  intro z dz nz nd ne
  exact init_ok upd_same hb (small_le m (by decide)) ⟨rfl, made_gives k nz nd⟩

abbrev sp_Ratio_abs (K : PySem.W.Frag) (a : Ad) : Sp := spUn a pabs
theorem ok_Ratio_abs {P : Program} {w : World} {K : PySem.W.Frag} {mg : Str → Option Value} {base : Heap} {a : Ad} (T : Txt P K mg a) : FnOk P w K mg base CX0 4 a.f_Ratio_abs a.d_Ratio_abs (["self"] : List Str) (sp_Ratio_abs K a) := by
  refine T.F_Ratio_abs.ok sc_Ratio_abs (fun vs H Q E h => sp1_len h) (fun cdv A outer s H vs Q E hr h => ?_)
  have hu := hu_of hr
  refine ⟨_, (pss_one (ps_ret (pe_mkS T.M_Ratio (ok_Ratio_init T) (hr.mono (by decide)) rfl T.g_Ratio T.B_Ratio_init .nil (fun σ => passAt takes0 σ) (pa_cons (pe_callB qc_abs (by rfl) T.n_abs (by decide +kernel) (pa_cons (pe_fld (pv 0) rfl) pa_nil)) (pa_cons (pe_fld (pv 0) rfl) pa_nil))))), ?_⟩
  try dsimp only [L2.cxOf]
  obtain ⟨x, rfl, p, t, b, rfl, R, m, hb, k⟩ := h
  obtain ⟨dx, hp⟩ := R.ex
  rw [show L2.start (["self"] : List Str) [(.ref p)] = ([some ((.ref p))] : L2.St) from rfl]
  walk_at "w"
  refine ⟨p, _, dx, _, _, rfl, hp, T.c_Ratio, T.na_Ratio_top, rl_top t b, ?_⟩
  walk_at "w"
  refine ⟨p, _, dx, _, _, rfl, hp, T.c_Ratio, T.na_Ratio_bottom, rl_bottom t b, ?_⟩
  walk_at "w"
  intro z dz nz nd ne
  exact init_ok upd_same hb (small_le m (by decide)) ⟨rfl, made_gives k nz nd⟩

abbrev sp_Ratio_radd (K : PySem.W.Frag) (a : Ad) : Sp := spBin a (fun t b u v => t * v + u * b) (fun t b u v => b * v)
theorem ok_Ratio_radd {P : Program} {w : World} {K : PySem.W.Frag} {mg : Str → Option Value} {base : Heap} {a : Ad} (T : Txt P K mg a) : FnOk P w K mg base CX0 6 a.f_Ratio_radd a.d_Ratio_radd (["self", "other"] : List Str) (sp_Ratio_radd K a) := by
  refine T.F_Ratio_radd.ok sc_Ratio_radd (fun vs H Q E h => sp2_len h) (fun cdv A outer s H vs Q E hr h => ?_)
  have hu := hu_of hr
  refine ⟨_, (pss_one (ps_ret (pe_op (op_ownB (op := .Add) (ops_Ratio_add T) (ok_Ratio_add T) (hr.mono (by decide)) T.B_Ratio_add) (pv 0) (pv 1)))), ?_⟩
  try dsimp only [L2.cxOf]
  obtain ⟨x, y, rfl, p, t, b, u, v, rfl, R, o, m, hb, hv, k⟩ := h
  obtain ⟨dx, fs, hp⟩ := R.ins
  rw [show L2.start (["self", "other"] : List Str) [(.ref p), y] = ([some ((.ref p)), some (y)] : L2.St) from rfl]
  walk_at "w"
  exact ⟨p, dx, fs, rfl, hp, o.own, _, _, rfl, p, t, b, u, v, rfl, R, o, m, hb, hv, k⟩

abbrev sp_Ratio_rmul (K : PySem.W.Frag) (a : Ad) : Sp := spBin a (fun t b u v => t * u) (fun t b u v => b * v)
theorem ok_Ratio_rmul {P : Program} {w : World} {K : PySem.W.Frag} {mg : Str → Option Value} {base : Heap} {a : Ad} (T : Txt P K mg a) : FnOk P w K mg base CX0 6 a.f_Ratio_rmul a.d_Ratio_rmul (["self", "other"] : List Str) (sp_Ratio_rmul K a) := by
  refine T.F_Ratio_rmul.ok sc_Ratio_rmul (fun vs H Q E h => sp2_len h) (fun cdv A outer s H vs Q E hr h => ?_)
  have hu := hu_of hr
  refine ⟨_, (pss_one (ps_ret (pe_op (op_ownB (op := .Mult) (ops_Ratio_mul T) (ok_Ratio_mul T) (hr.mono (by decide)) T.B_Ratio_mul) (pv 0) (pv 1)))), ?_⟩
  try dsimp only [L2.cxOf]
  obtain ⟨x, y, rfl, p, t, b, u, v, rfl, R, o, m, hb, hv, k⟩ := h
  obtain ⟨dx, fs, hp⟩ := R.ins
  rw [show L2.start (["self", "other"] : List Str) [(.ref p), y] = ([some ((.ref p)), some (y)] : L2.St) from rfl]
  walk_at "w"
  exact ⟨p, dx, fs, rfl, hp, o.own, _, _, rfl, p, t, b, u, v, rfl, R, o, m, hb, hv, k⟩

def sp_Ratio_rsub (K : PySem.W.Frag) (a : Ad) : Sp := sp2 fun x y H Q _ => ∃ (p : Addr) (t b u : Int), x = .ref p ∧ RatioAt a H p t b ∧ y = .int u ∧ (t.natAbs < 2 ^ 1000 ∧ b.natAbs < 2 ^ 1000 ∧ u.natAbs < 2 ^ 1000) ∧ Low t b ∧
  GivesR a H Q (lowT (-t * 1 + u * b) (b * 1)) (lowB (-t * 1 + u * b) (b * 1))
theorem ok_Ratio_rsub {P : Program} {w : World} {K : PySem.W.Frag} {mg : Str → Option Value} {base : Heap} {a : Ad} (T : Txt P K mg a) : FnOk P w K mg base CX0 6 a.f_Ratio_rsub a.d_Ratio_rsub (["self", "other"] : List Str) (sp_Ratio_rsub K a) := by
  refine T.F_Ratio_rsub.ok sc_Ratio_rsub (fun vs H Q E h => sp2_len h) (fun cdv A outer s H vs Q E hr h => ?_)
  have hu := hu_of hr
  refine ⟨_, (pss_one (ps_ret (pe_op (op_ownB (op := .Add) (ops_Ratio_add T) (ok_Ratio_add T) (hr.mono (by decide)) T.B_Ratio_add) (pe_un (un_ownN T.M_Ratio_neg.at_ T.M_Ratio_neg.fn (ok_Ratio_neg T) (hr.mono (by decide)) T.B_Ratio_neg) (pv 0)) (pv 1)))), ?_⟩
  try dsimp only [L2.cxOf]
  obtain ⟨x, y, rfl, p, t, b, u, rfl, R, rfl, ⟨m1, m2, m3⟩, L, k⟩ := h
  obtain ⟨dx, fs, hp⟩ := R.ins
  have hb : b ≠ 0 := by have := L.pos; omega
  rw [show L2.start (["self", "other"] : List Str) [(.ref p), (.int u)] = ([some ((.ref p)), some ((.int u))] : L2.St) from rfl]
  walk_at "w"
  refine ⟨p, dx, fs, rfl, hp, _, rfl, p, t, b, rfl, R, m2, hb, fun q H1 nq s1 R1 => ?_⟩
  rw [(low_idem (low_neg L)).1, (low_idem (low_neg L)).2] at R1
  obtain ⟨dq, gs, hq⟩ := R1.ins
  walk_at "w"
  exact ⟨q, dq, gs, rfl, hq, .inl ⟨u, rfl⟩, _, _, rfl, q, -t, b, u, 1, rfl, R1, .inr ⟨rfl, rfl⟩, ⟨by rw [Int.natAbs_neg]; exact m1, m2, m3, by decide⟩, hb, by decide, fun q' H' nq' s' R' => k q' H' (s1.free nq') (s1.trans s') R'⟩

def sg (n : Int) : Int := if n < 0 then -1 else if 0 < n then 1 else 0
theorem lowT_sg {n d : Int} (h : 0 < d) : sg (lowT n d) = sg n := by
  have g0 : 0 < Int.gcd n d := Int.gcd_pos_of_ne_zero_right _ (by omega)
  rw [(low_pos h).1]
  obtain ⟨c, hc⟩ := Int.gcd_dvd_left n d
  have e : n / (Int.gcd n d : Nat) = c := Int.ediv_eq_of_eq_mul_right (by omega) hc
  rw [e]
  have p : (0 : Int) < (Int.gcd n d : Nat) := by omega
  unfold sg
  rcases Int.lt_trichotomy c 0 with z | z | z
  · have : n < 0 := by rw [hc]; exact Int.mul_neg_of_pos_of_neg p z
    rw [if_pos z, if_pos this]
  · have : n = 0 := by rw [hc, z, Int.mul_zero]
    rw [z, this]
  · have : 0 < n := by rw [hc]; exact Int.mul_pos p z
    rw [if_neg (by omega), if_pos z, if_neg (by omega), if_pos this]
theorem quo {t u : Int} (h : 0 < u) : t.fdiv u * u ≤ t ∧ t < (t.fdiv u + 1) * u ∧ (t.fdiv u).natAbs ≤ t.natAbs := by
  rw [Int.fdiv_eq_ediv_of_nonneg t (by omega)]
  have h1 := Int.ediv_mul_le t (show u ≠ 0 by omega)
  have h2 := Int.lt_ediv_add_one_mul_self t h
  refine ⟨h1, h2, ?_⟩
  generalize t / u = q at h1 h2
  by_cases c : 0 ≤ q
  · have := Int.mul_le_mul_of_nonneg_left (show (1 : Int) ≤ u by omega) c
    omega
  · have := Int.mul_le_mul_of_nonneg_left (show (1 : Int) ≤ u by omega) (show 0 ≤ -(q + 1) by omega)
    rw [Int.neg_mul, Int.neg_mul] at this
    omega

def sp_Ratio_eq (K : PySem.W.Frag) (a : Ad) : Sp := sp2 fun x y H Q _ => ∃ (p : Addr) (t b : Int), x = .ref p ∧ RatioAt a H p t b ∧
  ((∃ q u v, y = .ref q ∧ RatioAt a H q u v ∧ Q (.bl (decide (t = u) && decide (b = v))) H) ∨ (∃ i, y = .int i ∧ Q (.bl false) H))
theorem ok_Ratio_eq {P : Program} {w : World} {K : PySem.W.Frag} {mg : Str → Option Value} {base : Heap} {a : Ad} (T : Txt P K mg a) : FnOk P w K mg base CX0 1 a.f_Ratio_eq a.d_Ratio_eq (["self", "other"] : List Str) (sp_Ratio_eq K a) := by
  refine T.F_Ratio_eq.ok sc_Ratio_eq (fun vs H Q E h => sp2_len h) (fun cdv A outer s H vs Q E hr h => ?_)
  have hu := hu_of hr
  refine ⟨_, (pss_one (ps_ret (pe_and (pe_callB call_isi (by rfl) T.n_isinstance (by decide +kernel) (pa_cons (pv 1) (pa_cons (pe_glob (v := .ref a.C_Ratio) rfl T.g_Ratio rfl) pa_nil))) (pe_and (pe_cmpR op_eq (pe_fld (pv 0) rfl) (pe_fld (pv 1) rfl) (nomark _)) (pe_one (pe_cmpR op_eq (pe_fld (pv 0) rfl) (pe_fld (pv 1) rfl) (nomark _))))))), ?_⟩
  try dsimp only [L2.cxOf]
  obtain ⟨x, y, rfl, p, t, b, rfl, R, ⟨q, u, v, rfl, R1, k⟩ | ⟨i, rfl, k⟩⟩ := h
  · obtain ⟨dx, hp⟩ := R.ex
    obtain ⟨dq, hq⟩ := R1.ex
    rw [show L2.start (["self", "other"] : List Str) [(.ref p), (.ref q)] = ([some ((.ref p)), some ((.ref q))] : L2.St) from rfl]
    walk_at "w"
    refine w_isi (.own _) (ty_ins hq T.c_Ratio T.I_Ratio) kit_self ?_
    walk_at "w"
    refine ⟨p, _, dx, _, _, rfl, hp, T.c_Ratio, T.na_Ratio_top, rl_top t b, ?_⟩
    walk_at "w"
    refine ⟨q, _, dq, _, _, rfl, hq, T.c_Ratio, T.na_Ratio_top, rl_top u v, ?_⟩
    walk_at "w"
    refine it_dec (fun c => ?_) (fun c => ?_)
    · walk_at "w"
      refine ⟨p, _, dx, _, _, rfl, hp, T.c_Ratio, T.na_Ratio_bottom, rl_bottom t b, ?_⟩
      walk_at "w"
      refine ⟨q, _, dq, _, _, rfl, hq, T.c_Ratio, T.na_Ratio_bottom, rl_bottom u v, ?_⟩
      walk_at "w"
      rw [decide_eq_true (V.int.inj c), Bool.true_and] at k
      rw [show decide (V.int b = V.int v) = decide (b = v) from decide_eq_decide.mpr ⟨V.int.inj, congrArg V.int⟩]
      exact k
    · rw [decide_eq_false (show ¬ t = u from fun z => c (congrArg V.int z)), Bool.false_and] at k
      exact k
  · rw [show L2.start (["self", "other"] : List Str) [(.ref p), (.int i)] = ([some ((.ref p)), some ((.int i))] : L2.St) from rfl]
    walk_at "w"
    refine w_isi (.own _) (.base (.int i)) T.ki_int_Ratio ?_
    walk_at "w"
    exact k

def sp_Ratio_compare (K : PySem.W.Frag) (a : Ad) : Sp := sp2 fun x y H Q _ => ∃ (p : Addr) (t b u v : Int), x = .ref p ∧ RatioAt a H p t b ∧ Oper a H y u v ∧ (t.natAbs < 2 ^ 1000 ∧ b.natAbs < 2 ^ 1000 ∧ u.natAbs < 2 ^ 1000 ∧ v.natAbs < 2 ^ 1000) ∧ 0 < b ∧ 0 < v ∧
  ∀ H', Same H H' → Q (.int (sg (t * v - u * b))) H'
theorem ok_Ratio_compare {P : Program} {w : World} {K : PySem.W.Frag} {mg : Str → Option Value} {base : Heap} {a : Ad} (T : Txt P K mg a) : FnOk P w K mg base CX0 6 a.f_Ratio_compare a.d_Ratio_compare (["self", "other"] : List Str) (sp_Ratio_compare K a) := by
  refine T.F_Ratio_compare.ok sc_Ratio_compare (fun vs H Q E h => sp2_len h) (fun cdv A outer s H vs Q E hr h => ?_)
  have hu := hu_of hr
  refine ⟨_, (pss_cons (ps_set (i := 2) sc_Ratio_compare.nd rfl (Or.inl rfl) (pe_fld (pe_op (op_ownB (op := .Sub) (ops_Ratio_sub T) (ok_Ratio_sub T) (hr.mono (by decide)) T.B_Ratio_sub) (pv 0) (pv 1)) rfl))
      (pss_cons (ps_if (pt_cmpR op_lt (pv 2) pe_int (nomark _)) (pss_one (ps_ret (pe_un un_neg pe_int))) pss_nil)
      (pss_cons (ps_if (pt_cmpR op_gt (pv 2) pe_int (nomark _)) (pss_one (ps_ret pe_int)) pss_nil)
      (pss_one (ps_ret pe_int))))), ?_⟩
  try dsimp only [L2.cxOf]
  obtain ⟨x, y, rfl, p, t, b, u, v, rfl, R, o, m, hb, hv, k⟩ := h
  obtain ⟨dx, fs, hp⟩ := R.ins
  rw [show L2.start (["self", "other", "difference"] : List Str) [(.ref p), y] = ([some ((.ref p)), some (y), none] : L2.St) from rfl]
  walk_at "w"
  refine ⟨p, dx, fs, rfl, hp, o.own, _, _, rfl, p, t, b, u, v, rfl, R, o, m, by omega, by omega, fun q H1 nq s1 R1 => ?_⟩
  obtain ⟨dq, hq⟩ := R1.ex
  have k := k H1 s1
  rw [← lowT_sg (n := t * v - u * b) (Int.mul_pos hb hv)] at k
  walk_at "w"
  refine ⟨q, _, dq, _, _, rfl, hq, T.c_Ratio, T.na_Ratio_top, rl_top _ _, ?_⟩
  walk_at "w"
  refine it_dec (fun c => ?_) (fun c => ?_)
  · walk_at "w"
    rw [sg, if_pos c] at k
    exact k
  · walk_at "w"
    refine it_dec (fun c' => ?_) (fun c' => ?_)
    · walk_at "w"
      rw [sg, if_neg c, if_pos c'] at k
      exact k
    · walk_at "w"
      rw [sg, if_neg c, if_neg c'] at k
      exact k

def sp_Ratio_floor (K : PySem.W.Frag) (a : Ad) : Sp := sp1 fun x H Q _ => ∃ (p : Addr) (t b : Int), x = .ref p ∧ RatioAt a H p t b ∧ b ≠ 0 ∧ b.natAbs < 2 ^ 1000 ∧ Q (.int (t.fdiv b)) H
theorem ok_Ratio_floor {P : Program} {w : World} {K : PySem.W.Frag} {mg : Str → Option Value} {base : Heap} {a : Ad} (T : Txt P K mg a) : FnOk P w K mg base CX0 1 a.f_Ratio_floor a.d_Ratio_floor (["self"] : List Str) (sp_Ratio_floor K a) := by
  refine T.F_Ratio_floor.ok sc_Ratio_floor (fun vs H Q E h => sp1_len h) (fun cdv A outer s H vs Q E hr h => ?_)
  have hu := hu_of hr
  refine ⟨_, (pss_one (ps_ret (pe_op op_fdivX (pe_fld (pv 0) rfl) (pe_fld (pv 0) rfl)))), ?_⟩
  try dsimp only [L2.cxOf]
  obtain ⟨x, rfl, p, t, b, rfl, R, hb, m, k⟩ := h
  obtain ⟨dx, hp⟩ := R.ex
  have dx0 : ∀ i, CDivX i b := fun i => divX (b := 1000) hb m (by decide) (by decide)
  rw [show L2.start (["self"] : List Str) [(.ref p)] = ([some ((.ref p))] : L2.St) from rfl]
  walk_at "w"
  refine ⟨p, _, dx, _, _, rfl, hp, T.c_Ratio, T.na_Ratio_top, rl_top t b, ?_⟩
  walk_at "w"
  refine ⟨p, _, dx, _, _, rfl, hp, T.c_Ratio, T.na_Ratio_bottom, rl_bottom t b, ?_⟩
  walk_at "w"
  exact k

def sp_Ratio_ceiling (K : PySem.W.Frag) (a : Ad) : Sp := sp1 fun x H Q _ => ∃ (p : Addr) (t b : Int), x = .ref p ∧ RatioAt a H p t b ∧ b ≠ 0 ∧ b.natAbs < 2 ^ 1000 ∧ Q (.int (-((-t).fdiv b))) H
theorem ok_Ratio_ceiling {P : Program} {w : World} {K : PySem.W.Frag} {mg : Str → Option Value} {base : Heap} {a : Ad} (T : Txt P K mg a) : FnOk P w K mg base CX0 1 a.f_Ratio_ceiling a.d_Ratio_ceiling (["self"] : List Str) (sp_Ratio_ceiling K a) := by
  refine T.F_Ratio_ceiling.ok sc_Ratio_ceiling (fun vs H Q E h => sp1_len h) (fun cdv A outer s H vs Q E hr h => ?_)
  have hu := hu_of hr
  refine ⟨_, (pss_one (ps_ret (pe_un un_neg (pe_op op_fdivX (pe_un un_neg (pe_fld (pv 0) rfl)) (pe_fld (pv 0) rfl))))), ?_⟩
  try dsimp only [L2.cxOf]
  obtain ⟨x, rfl, p, t, b, rfl, R, hb, m, k⟩ := h
  obtain ⟨dx, hp⟩ := R.ex
  have dx0 : ∀ i, CDivX i b := fun i => divX (b := 1000) hb m (by decide) (by decide)
  rw [show L2.start (["self"] : List Str) [(.ref p)] = ([some ((.ref p))] : L2.St) from rfl]
  walk_at "w"
  refine ⟨p, _, dx, _, _, rfl, hp, T.c_Ratio, T.na_Ratio_top, rl_top t b, ?_⟩
  walk_at "w"
  refine ⟨p, _, dx, _, _, rfl, hp, T.c_Ratio, T.na_Ratio_bottom, rl_bottom t b, ?_⟩
  walk_at "w"
  exact k

abbrev sp_law_int (K : PySem.W.Frag) (a : Ad) : Sp := sp_isint K
theorem ok_law_int {P : Program} {w : World} {K : PySem.W.Frag} {mg : Str → Option Value} {base : Heap} {a : Ad} (T : Txt P K mg a) : FnOk P w K mg base CX0 1 a.f_law_int a.d_law_int (["_law_actual"] : List Str) (sp_law_int K a) := by
  refine T.F_law_int.ok sc_law_int (fun vs H Q E h => sp1_len h) (fun cdv A outer s H vs Q E hr h => ?_)
  have hu := hu_of hr
  refine ⟨_, (pss_one (ps_ret (pe_and (pe_callB call_isi (by rfl) T.n_isinstance (by decide +kernel) (pa_cons (pv 0) (pa_cons (pe_bltn (v := .ty "int") (by rfl) T.n_int (by decide +kernel) rfl) pa_nil))) (pe_one (pe_not (pe_callB call_isi (by rfl) T.n_isinstance (by decide +kernel) (pa_cons (pv 0) (pa_cons (pe_bltn (v := .ty "bool") (by rfl) T.n_bool (by decide +kernel) rfl) pa_nil)))))))), ?_⟩
  try dsimp only [L2.cxOf]
  obtain ⟨x, rfl, b, ⟨t, b1, b2, ty, k1, k2, rfl⟩, k⟩ := h
  rw [show L2.start (["_law_actual"] : List Str) [x] = ([some (x)] : L2.St) from rfl]
  walk_at "w"
  refine w_isi (.ty "int") ty k1 ?_
  walk_at "w"
  refine it_b (fun e1 => ?_) (fun e1 => ?_)
  · walk_at "w"
    refine w_isi (.ty "bool") ty (k2 e1) ?_
    walk_at "w"
    subst e1
    exact k
  · subst e1
    exact k

def sp_law_is (K : PySem.W.Frag) (a : Ad) : Sp := sp2 fun x y H Q _ => ∃ (p d : Addr) (t b : Int), x = .ref p ∧ RatioAt a H p t b ∧ y = .ref d ∧ SqT K H d [.int t, .int b] ∧ Q (.bl true) H
theorem ok_law_is {P : Program} {w : World} {K : PySem.W.Frag} {mg : Str → Option Value} {base : Heap} {a : Ad} (T : Txt P K mg a) : FnOk P w K mg base CX0 2 a.f_law_is a.d_law_is (["_law_actual", "_law_due"] : List Str) (sp_law_is K a) := by
  refine T.F_law_is.ok sc_law_is (fun vs H Q E h => sp2_len h) (fun cdv A outer s H vs Q E hr h => ?_)
  have hu := hu_of hr
  refine ⟨_, (pss_cons (ps_if (PW.pt (pw_or (pt_not (pt_val (pe_callB call_isi (by rfl) T.n_isinstance (by decide +kernel) (pa_cons (pv 0) (pa_cons (pe_glob (v := .ref a.C_Ratio) rfl T.g_Ratio rfl) pa_nil))))) (pw_or (pt_not (pt_val (pe_call (ok_law_int T) (hr.mono (by decide)) rfl T.g_law_int T.k_law_int T.B_law_int .nil pass0 (pa_cons (pe_fld (pv 0) rfl) pa_nil)))) (pw_or1 (pt_not (pt_val (pe_call (ok_law_int T) (hr.mono (by decide)) rfl T.g_law_int T.k_law_int T.B_law_int .nil pass0 (pa_cons (pe_fld (pv 0) rfl) pa_nil)))))))) (pss_one (ps_ret pe_bl)) pss_nil)
      (pss_one (ps_ret (pe_and (pe_cmpR op_eq (pe_fld (pv 0) rfl) (pe_ix ix_tup (pv 1) pe_int (fun _ _ => rfl)) (nomark _)) (pe_one (pe_cmpR op_eq (pe_fld (pv 0) rfl) (pe_ix ix_tup (pv 1) pe_int (fun _ _ => rfl)) (nomark _))))))), ?_⟩
  try dsimp only [L2.cxOf]
  obtain ⟨x, y, rfl, p, d, t, b, rfl, R, rfl, hd, k⟩ := h
  obtain ⟨dx, hp⟩ := R.ex
  rw [show L2.start (["_law_actual", "_law_due"] : List Str) [(.ref p), (.ref d)] = ([some ((.ref p)), some ((.ref d))] : L2.St) from rfl]
  walk_at "w"
  refine w_isi (.own _) (ty_ins hp T.c_Ratio T.I_Ratio) kit_self ?_
  walk_at "w"
  refine ⟨p, _, dx, _, _, rfl, hp, T.c_Ratio, T.na_Ratio_top, rl_top t b, ?_⟩
  walk_at "w"
  refine ⟨_, rfl, true, isI_int t, ?_⟩
  walk_at "w"
  refine ⟨p, _, dx, _, _, rfl, hp, T.c_Ratio, T.na_Ratio_bottom, rl_bottom t b, ?_⟩
  walk_at "w"
  refine ⟨_, rfl, true, isI_int b, ?_⟩
  walk_at "w"
  refine ⟨p, _, dx, _, _, rfl, hp, T.c_Ratio, T.na_Ratio_top, rl_top t b, ?_⟩
  walk_at "w"
  refine it_pos rfl ?_
  walk_at "w"
  refine ⟨p, _, dx, _, _, rfl, hp, T.c_Ratio, T.na_Ratio_bottom, rl_bottom t b, ?_⟩
  walk_at "w"
  rw [decide_eq_true rfl]
  exact k

def sp_law_lowest (K : PySem.W.Frag) (a : Ad) : Sp := sp2 fun x y H Q _ => ∃ t b : Int, x = .int t ∧ y = .int b ∧ b ≠ 0 ∧ b.natAbs < 2 ^ 200 ∧ ∀ p, H p = none → Q (.ref p) (upd H p (.tup [.int (lowT t b), .int (lowB t b)]))
theorem ok_law_lowest {P : Program} {w : World} {K : PySem.W.Frag} {mg : Str → Option Value} {base : Heap} {a : Ad} (T : Txt P K mg a) : FnOk P w K mg base CX0 1 a.f_law_lowest a.d_law_lowest (["_law_top", "_law_bottom"] : List Str) (sp_law_lowest K a) := by
  refine T.F_law_lowest.ok sc_law_lowest (fun vs H Q E h => sp2_len h) (fun cdv A outer s H vs Q E hr h => ?_)
  have hu := hu_of hr
  refine ⟨_, (pss_cons (ps_set (i := 2) sc_law_lowest.nd rfl (Or.inl rfl) (pe_callB qc_abs (by rfl) T.n_abs (by decide +kernel) (pa_cons (pv 0) pa_nil)))
      (pss_cons (ps_set (i := 3) sc_law_lowest.nd rfl (Or.inl rfl) (pe_callB qc_abs (by rfl) T.n_abs (by decide +kernel) (pa_cons (pv 1) pa_nil)))
      (pss_cons (ps_for PassesOwn.never rfl (pi_range1 (by rfl) T.n_range (pa_cons pe_int pa_nil)) (pg_name (i := 4) sc_law_lowest.nd rfl (Or.inl rfl)) (pss_one (ps_if (pt_cmpR op_gt (pv 3) pe_int (nomark _)) (pss_cons (ps_set (i := 5) sc_law_lowest.nd rfl (Or.inl rfl) (pe_op op_mod (pv 2) (pv 3)))
      (pss_cons (ps_set (i := 2) sc_law_lowest.nd rfl (Or.inl rfl) (pv 3))
      (pss_one (ps_set (i := 3) sc_law_lowest.nd rfl (Or.inl rfl) (pv 5))))) pss_nil)))
      (Evl.pss_cut (ps_if (pt_cmpR op_lt (pv 1) pe_int (nomark _)) (pss_one (ps_set (i := 2) sc_law_lowest.nd rfl (Or.inl rfl) (pe_op op_sub pe_int (pv 2)))) pss_nil)
      (pss_one (ps_ret (pe_tup (pa_cons (pe_op op_fdivX (pv 0) (pv 2)) (pa_cons (pe_op op_fdivX (pv 1) (pv 2)) pa_nil))))))))), ?_⟩
  try dsimp only [L2.cxOf]
  obtain ⟨x, y, rfl, t, b, rfl, rfl, hb, hz, k⟩ := h
  have e1 := pabs_eq t
  have e2 := pabs_eq b
  have g1 : Int.gcd t b ≤ b.natAbs := Int.gcd_le_natAbs_right t hb
  have dx0 : ∀ i, CDivX i (sgn b (Int.gcd t b)) := fun i => divX (b := 200) (sgn_ne hb) (Nat.lt_of_le_of_lt (by unfold sgn; split <;> omega) hz) (by decide) (by decide)
  rw [show L2.start (["_law_top", "_law_bottom", "_law_left", "_law_right", "_law_k", "_law_rest"] : List Str) [(.int t), (.int b)] = ([some ((.int t)), some ((.int b)), none, none, none, none] : L2.St) from rfl]
  walk_at "w"
  refine ⟨400, rfl, by decide, by decide, turnsR (fun i σ' H' => H' = H ∧ ∃ z1 z2, σ' = [some (.int t), some (.int b), some (.int (eIter i (pabs t, pabs b)).1), some (.int (eIter i (pabs t, pabs b)).2), z1, z2]) ?_ ?_ ?_⟩
  · exact ⟨rfl, none, none, rfl⟩
  · rintro i σ' H' hi ⟨rfl, z1, z2, rfl⟩
    generalize hp : eIter i (pabs t, pabs b) = p
    have hn : eIter (i + 1) (pabs t, pabs b) = eStep p := by rw [← hp]; rfl
    walk_at "w"
    refine it_dec (fun c => ?_) (fun c => ?_)
    · walk_at "w"
      rw [hn, show eStep p = (p.2, p.1 % p.2) from if_pos c]
      exact ⟨rfl, _, _, rfl⟩
    · walk_at "w"
      rw [hn, show eStep p = p from if_neg c]
      exact ⟨rfl, _, _, rfl⟩
  · rintro σ' H' ⟨rfl, z1, z2, rfl⟩
    have q : eIter 400 (pabs t, pabs b) = (((Int.gcd t b : Nat) : Int), (0 : Int)) := by
      have w := eIter_400 (p := (pabs t, pabs b)) (by show 0 ≤ pabs t; omega) (by show 0 ≤ pabs b; omega) (by show pabs b < 2 ^ 200; omega)
      rw [w]
      show (((Int.gcd (pabs t) (pabs b) : Nat) : Int), (0 : Int)) = _
      rw [e1, e2]
      rfl
    rw [show Int.toNat 400 = 400 from rfl, q]
    refine ⟨fun σ' H2 => H2 = H' ∧ ∃ z1 z2 z3, σ' = [some (.int t), some (.int b), some (.int (sgn b (Int.gcd t b))), z3, z1, z2], ?_, ?_⟩
    · walk_at "w"
      refine it_dec (fun c => ?_) (fun c => ?_)
      · walk_at "w"
        rw [show sgn b (Int.gcd t b) = 0 - ((Int.gcd t b : Nat) : Int) from (if_pos c).trans (by omega)]
        exact ⟨rfl, z1, z2, _, rfl⟩
      · walk_at "w"
        rw [show sgn b (Int.gcd t b) = ((Int.gcd t b : Nat) : Int) from if_neg c]
        exact ⟨rfl, z1, z2, _, rfl⟩
    · rintro σ' H2 ⟨rfl, z1, z2, z3, rfl⟩
      walk_at "w"
      exact ⟨by show 2 ≤ sizeLine; decide, fun p hp => k p hp⟩

/-- the bag's draws leave all but the bag as it was -/
def Keep (b : Addr) (H H' : Hp) : Prop := ∀ c o, c ≠ b → H c = some o → H' c = some o
theorem Keep.of {b : Addr} {H H' : Hp} (fr : ∀ c, c ≠ b → H' c = H c) : Keep b H H' := fun c o n h => (fr c n).trans h
theorem Keep.trans {b : Addr} {H H1 H2 : Hp} (k : Keep b H H1) (l : Keep b H1 H2) : Keep b H H2 := fun c o n h => l c o n (k c o n h)
theorem Keep.same {b : Addr} {H H' : Hp} (s : Same H H') : Keep b H H' := fun c o _ h => s c o h
theorem Keep.free {b : Addr} {H H' : Hp} {p : Addr} (k : Keep b H H') (n : p ≠ b) (h : H' p = none) : H p = none := by
  cases q : H p with
  | none => rfl
  | some o =>
    rw [k p o n q] at h
    cases h
theorem BagAt.ne {H : Hp} {b p : Addr} (B : BagAt H b) (h : H p = none) : p ≠ b := by
  obtain ⟨_, hb⟩ := B.lst
  exact Ne.symm (ne_of_none hb h)
theorem pow30 : (10 : Int) ^ Int.toNat 30 = 1000000000000000000000000000000 := by decide +kernel
theorem pow6 : (10 : Int) ^ Int.toNat 6 = 1000000 := by decide +kernel
theorem wide_item {r : Int} (r0 : 0 ≤ r) (r1 : r < 4) : ∃ wd : Int, atI [V.int 4, .int 60, .int ((10 : Int) ^ Int.toNat 6), .int ((10 : Int) ^ Int.toNat 30)] r = some (.int wd) ∧ 4 ≤ wd ∧ wd ≤ 1000000000000000000000000000000 := by
  obtain ⟨v, e, m⟩ := atI_mem (xs := [V.int 4, .int 60, .int ((10 : Int) ^ Int.toNat 6), .int ((10 : Int) ^ Int.toNat 30)]) r0 r1
  simp only [List.mem_cons, List.not_mem_nil, or_false] at m
  rcases m with rfl | rfl | rfl | rfl
  · exact ⟨_, e, by decide, by decide⟩
  · exact ⟨_, e, by decide, by decide⟩
  · exact ⟨_, e, by rw [pow6]; decide, by rw [pow6]; decide⟩
  · exact ⟨_, e, by rw [pow30]; decide, by rw [pow30]; decide⟩
theorem big8000 : (10000000000000000000000000000000000000000 : Nat) < 2 ^ 8000 := by decide +kernel
theorem big200 : (10000000000000000000000000000000000000000 : Nat) < 2 ^ 200 := by decide +kernel
theorem big1000 : (10000000000000000000000000000000000000000 : Nat) < 2 ^ 1000 := by decide +kernel
theorem big60 : (1000000000000000000000000000000 : Nat) * 1000000000000000000000000000000 < 2 ^ 200 := by decide +kernel
/-- a drawn fraction in lowest terms -/
structure Frac (t b : Int) : Prop where
  low : Low t b
  top : t.natAbs ≤ 1000000000000000000000000000000
  bot : b ≤ 1000000000000000000000000000000

def sp_law_fraction (K : PySem.W.Frag) (a : Ad) : Sp := sp1 fun x H Q _ => ∃ b : Addr, x = .ref b ∧ BagAt H b ∧ ∀ p t u H', BagAt H' b → H p = none → Keep b H H' → H' p = some (.tup [.int t, .int u]) → Frac t u → Q (.ref p) H'
theorem ok_law_fraction {P : Program} {w : World} {K : PySem.W.Frag} {mg : Str → Option Value} {base : Heap} {a : Ad} (T : Txt P K mg a) : FnOk P w K mg base CX0 2 a.f_law_fraction a.d_law_fraction (["_law_bag_here"] : List Str) (sp_law_fraction K a) := by
  refine T.F_law_fraction.ok sc_law_fraction (fun vs H Q E h => sp1_len h) (fun cdv A outer s H vs Q E hr h => ?_)
  have hu := hu_of hr
  refine ⟨_, (pss_cons (ps_set (i := 1) sc_law_fraction.nd rfl (Or.inl rfl) (pe_ix ix_list (pe_lst (pa_cons pe_int (pa_cons pe_int (pa_cons (pe_op op_pow pe_int pe_int) (pa_cons (pe_op op_pow pe_int pe_int) pa_nil))))) (pe_call (ok_law_take T) (hr.mono (by decide)) rfl T.g_law_take T.k_law_take T.B_law_take .nil pass0 (pa_cons (pv 0) (pa_cons pe_int pa_nil))) (fun _ _ => rfl)))
      (pss_cons (ps_set (i := 2) sc_law_fraction.nd rfl (Or.inl rfl) (pe_op op_sub (pe_call (ok_law_take T) (hr.mono (by decide)) rfl T.g_law_take T.k_law_take T.B_law_take .nil pass0 (pa_cons (pv 0) (pa_cons (pe_op op_add (pe_op op_mul pe_int (pv 1)) pe_int) pa_nil))) (pv 1)))
      (pss_one (ps_ret (pe_call (ok_law_lowest T) (hr.mono (by decide)) rfl T.g_law_lowest T.k_law_lowest T.B_law_lowest .nil pass0 (pa_cons (pv 2) (pa_cons (pe_op op_add pe_int (pe_call (ok_law_take T) (hr.mono (by decide)) rfl T.g_law_take T.k_law_take T.B_law_take .nil pass0 (pa_cons (pv 0) (pa_cons (pv 1) pa_nil)))) pa_nil))))))), ?_⟩
  try dsimp only [L2.cxOf]
  obtain ⟨x, rfl, b, rfl, B, k⟩ := h
  have big := big8000
  have big2 := big200
  rw [show L2.start (["_law_bag_here", "_law_wide", "_law_top"] : List Str) [(.ref b)] = ([some ((.ref b)), none, none] : L2.St) from rfl]
  walk_at "w"
  refine ⟨by show 4 ≤ sizeLine; decide, fun p np => ?_⟩
  walk_at "w"
  refine ⟨_, _, rfl, b, 4, rfl, rfl, B.same (Same.new np), by decide, by decide +kernel, fun r H2 r0 r1 B2 fr2 => ?_⟩
  have hp2 : H2 p = some (.lst [.int 4, .int 60, .int ((10 : Int) ^ Int.toNat 6), .int ((10 : Int) ^ Int.toNat 30)]) := keep_of fr2 upd_same (B.ne np)
  obtain ⟨wd, ew, w1, w2⟩ := wide_item r0 r1
  refine w_ix (SqL.of hp2) ew ?_
  walk_at "w"
  refine ⟨_, _, rfl, b, _, rfl, rfl, B2, by omega, by omega, fun r3 H3 r30 r31 B3 fr3 => ?_⟩
  walk_at "w"
  refine ⟨_, _, rfl, b, _, rfl, rfl, B3, by omega, by omega, fun r4 H4 r40 r41 B4 fr4 => ?_⟩
  walk_at "w"
  refine ⟨_, _, rfl, r3 - wd, 1 + r4, rfl, rfl, by omega, by omega, fun q nq => ?_⟩
  have kp : Keep b H H4 := ((Keep.same (Same.new np)).trans (Keep.of fr2)).trans ((Keep.of fr3).trans (Keep.of fr4))
  have hpos : 0 < 1 + r4 := by omega
  have lb := low_bound (t := r3 - wd) hpos
  refine k q _ _ _ (B4.same (Same.new nq)) (kp.free (B4.ne nq) nq) (kp.trans (Keep.same (Same.new nq))) upd_same ⟨low_low hpos, by omega, by omega⟩

def sp_law_sign (K : PySem.W.Frag) (a : Ad) : Sp := sp1 fun x H Q _ => ∃ n : Int, x = .int n ∧ Q (.int (sg n)) H
theorem ok_law_sign {P : Program} {w : World} {K : PySem.W.Frag} {mg : Str → Option Value} {base : Heap} {a : Ad} (T : Txt P K mg a) : FnOk P w K mg base CX0 1 a.f_law_sign a.d_law_sign (["_law_number"] : List Str) (sp_law_sign K a) := by
  refine T.F_law_sign.ok sc_law_sign (fun vs H Q E h => sp1_len h) (fun cdv A outer s H vs Q E hr h => ?_)
  have hu := hu_of hr
  refine ⟨_, (pss_cons (ps_if (pt_cmpR op_lt (pv 0) pe_int (nomark _)) (pss_one (ps_ret (pe_un un_neg pe_int))) pss_nil)
      (pss_cons (ps_if (pt_cmpR op_gt (pv 0) pe_int (nomark _)) (pss_one (ps_ret pe_int)) pss_nil)
      (pss_one (ps_ret pe_int)))), ?_⟩
  try dsimp only [L2.cxOf]
  obtain ⟨x, rfl, n, rfl, k⟩ := h
  rw [show L2.start (["_law_number"] : List Str) [(.int n)] = ([some ((.int n))] : L2.St) from rfl]
  walk_at "w"
  refine it_dec (fun c => ?_) (fun c => ?_)
  · walk_at "w"
    rw [sg, if_pos c] at k
    exact k
  · walk_at "w"
    refine it_dec (fun c' => ?_) (fun c' => ?_)
    · walk_at "w"
      rw [sg, if_neg c, if_pos c'] at k
      exact k
    · walk_at "w"
      rw [sg, if_neg c, if_neg c'] at k
      exact k

theorem rl_no {t b : Int} {f : Str} (h1 : (f == ("top" : Str)) = false) (h2 : (f == ("bottom" : Str)) = false) : (rfields t b).lookup f = none := by
  simp [rfields, List.lookup, h1, h2]
structure Wide (t b : Int) : Prop where
  low : Low t b
  top : t.natAbs < 2 ^ 1000
  bot : b.natAbs < 2 ^ 1000
theorem big61 : (10000000000000000000000000000000000000000000000000000000000000 : Nat) < 2 ^ 1000 := by decide +kernel
theorem big60' : (1000000000000000000000000000000000000000000000000000000000000 : Nat) < 2 ^ 200 := by decide +kernel
theorem frac_small {t b : Int} (F : Frac t b) : t.natAbs < 2 ^ 1000 ∧ b.natAbs < 2 ^ 1000 := by
  have := big1000
  have := F.top
  have := F.bot
  have := F.low.pos
  exact ⟨by omega, by omega⟩
theorem Frac.wide {t b : Int} (F : Frac t b) : Wide t b := ⟨F.low, (frac_small F).1, (frac_small F).2⟩
theorem near_ok {t u : Int} (F : Frac t u) : u * (10 : Int) ^ Int.toNat 30 ≠ 0 ∧ (u * (10 : Int) ^ Int.toNat 30).natAbs < 2 ^ 200 ∧
    Wide (lowT (t * (10 : Int) ^ Int.toNat 30 + u) (u * (10 : Int) ^ Int.toNat 30)) (lowB (t * (10 : Int) ^ Int.toNat 30 + u) (u * (10 : Int) ^ Int.toNat 30)) := by
  have b1 := big61
  have b2 := big60'
  have f1 := F.top
  have f2 := F.bot
  have f3 := F.low.pos
  rw [pow30]
  have hp : 0 < u * 1000000000000000000000000000000 := by omega
  have lb := low_bound (t := t * 1000000000000000000000000000000 + u) hp
  have lp := (low_low (t := t * 1000000000000000000000000000000 + u) hp).pos
  exact ⟨by omega, by omega, low_low hp, by omega, by omega⟩
theorem BagAt.neT {H : Hp} {b p : Addr} {xs : List V} (B : BagAt H b) (h : H p = some (.tup xs)) : p ≠ b := by
  rintro rfl
  obtain ⟨_, hb⟩ := B.lst
  rw [h] at hb
  cases hb

def sp_law (K : PySem.W.Frag) : Sp := sp1 fun x H Q _ => ∃ (s : Addr) (ns : List Int), x = .ref s ∧ SqL K H s (ns.map V.int) ∧ ns.length ≤ 63 ∧ ∀ H', Q (.bl true) H'
theorem ok_law {P : Program} {w : World} {K : PySem.W.Frag} {mg : Str → Option Value} {base : Heap} {a : Ad} (T : Txt P K mg a) : FnOk P w K mg base CX0 7 a.f_law a.d_law (["_law_script"] : List Str) (sp_law K) := by
  refine T.F_law.ok sc_law (fun vs H Q E h => sp1_len h) (fun cdv A outer s H vs Q E hr h => ?_)
  have hu := hu_of hr
  refine ⟨_, (pss_cons (ps_set (i := 1) sc_law.nd rfl (Or.inl rfl) (pe_call (ok_law_bag T) (hr.mono (by decide)) rfl T.g_law_bag T.k_law_bag T.B_law_bag .nil pass0 (pa_cons (pv 0) pa_nil)))
      (pss_cons (ps_set (i := 2) sc_law.nd rfl (Or.inl rfl) (pe_call (ok_law_take T) (hr.mono (by decide)) rfl T.g_law_take T.k_law_take T.B_law_take .nil pass0 (pa_cons (pv 1) (pa_cons pe_int pa_nil))))
      (pss_cons (ps_set (i := 3) sc_law.nd rfl (Or.inl rfl) (pe_call (ok_law_fraction T) (hr.mono (by decide)) rfl T.g_law_fraction T.k_law_fraction T.B_law_fraction .nil pass0 (pa_cons (pv 1) pa_nil)))
      (pss_cons (ps_set (i := 4) sc_law.nd rfl (Or.inl rfl) (pe_call (ok_law_fraction T) (hr.mono (by decide)) rfl T.g_law_fraction T.k_law_fraction T.B_law_fraction .nil pass0 (pa_cons (pv 1) pa_nil)))
      (Evl.pss_cut (ps_if (pt_cmpR op_eq (pv 2) pe_int (nomark _)) (pss_one (ps_set (i := 4) sc_law.nd rfl (Or.inl rfl) (pv 3))) pss_nil)
      (Evl.pss_cut (ps_if (pt_cmpR op_eq (pv 2) pe_int (nomark _)) (pss_one (ps_set (i := 4) sc_law.nd rfl (Or.inl rfl) (pe_call (ok_law_lowest T) (hr.mono (by decide)) rfl T.g_law_lowest T.k_law_lowest T.B_law_lowest .nil pass0 (pa_cons (pe_op op_add (pe_op op_mulW (pe_ix ix_tup (pv 3) pe_int (fun _ _ => rfl)) (pe_op op_pow pe_int pe_int)) (pe_ix ix_tup (pv 3) pe_int (fun _ _ => rfl))) (pa_cons (pe_op op_mulW (pe_ix ix_tup (pv 3) pe_int (fun _ _ => rfl)) (pe_op op_pow pe_int pe_int)) pa_nil))))) pss_nil)
      (pss_cons (ps_set (i := 5) sc_law.nd rfl (Or.inl rfl) (pe_op op_sub (pe_op op_add (pe_op op_fdivX (pe_ix ix_tup (pv 3) pe_int (fun _ _ => rfl)) (pe_ix ix_tup (pv 3) pe_int (fun _ _ => rfl))) (pe_call (ok_law_take T) (hr.mono (by decide)) rfl T.g_law_take T.k_law_take T.B_law_take .nil pass0 (pa_cons (pv 1) (pa_cons pe_int pa_nil)))) pe_int))
      (pss_cons (ps_set (i := 6) sc_law.nd rfl (Or.inl rfl) (pe_mkS T.M_Ratio (ok_Ratio_init T) (hr.mono (by decide)) rfl T.g_Ratio T.B_Ratio_init .nil (fun σ => passAt takes0 σ) (pa_cons (pe_ix ix_tup (pv 3) pe_int (fun _ _ => rfl)) (pa_cons (pe_ix ix_tup (pv 3) pe_int (fun _ _ => rfl)) pa_nil))))
      (pss_cons (ps_set (i := 7) sc_law.nd rfl (Or.inl rfl) (pe_mkS T.M_Ratio (ok_Ratio_init T) (hr.mono (by decide)) rfl T.g_Ratio T.B_Ratio_init .nil (fun σ => passAt takes0 σ) (pa_cons (pe_ix ix_tup (pv 4) pe_int (fun _ _ => rfl)) (pa_cons (pe_ix ix_tup (pv 4) pe_int (fun _ _ => rfl)) pa_nil))))
      (pss_cons (ps_set (i := 8) sc_law.nd rfl (Or.inl rfl) (pe_meth (pv 6) T.c_Ratio T.M_Ratio_compare (ok_Ratio_compare T) (hr.mono (by decide)) T.B_Ratio_compare .nil pass0 (pa_cons (pv 7) pa_nil)))
      (pss_cons (ps_if (PW.pt (pw_or (pt_not (pt_val (pe_call (ok_law_int T) (hr.mono (by decide)) rfl T.g_law_int T.k_law_int T.B_law_int .nil pass0 (pa_cons (pv 8) pa_nil)))) (pw_or1 (pt_cmpR op_ne (pv 8) (pe_call (ok_law_sign T) (hr.mono (by decide)) rfl T.g_law_sign T.k_law_sign T.B_law_sign .nil pass0 (pa_cons (pe_op op_sub (pe_op op_mulW (pe_ix ix_tup (pv 3) pe_int (fun _ _ => rfl)) (pe_ix ix_tup (pv 4) pe_int (fun _ _ => rfl))) (pe_op op_mulW (pe_ix ix_tup (pv 4) pe_int (fun _ _ => rfl)) (pe_ix ix_tup (pv 3) pe_int (fun _ _ => rfl)))) pa_nil)) (nomark _))))) (pss_one (ps_ret pe_bl)) pss_nil)
      (pss_cons (ps_set (i := 8) sc_law.nd rfl (Or.inl rfl) (pe_meth (pv 6) T.c_Ratio T.M_Ratio_compare (ok_Ratio_compare T) (hr.mono (by decide)) T.B_Ratio_compare .nil pass0 (pa_cons (pv 5) pa_nil)))
      (pss_cons (ps_if (PW.pt (pw_or (pt_not (pt_val (pe_call (ok_law_int T) (hr.mono (by decide)) rfl T.g_law_int T.k_law_int T.B_law_int .nil pass0 (pa_cons (pv 8) pa_nil)))) (pw_or1 (pt_cmpR op_ne (pv 8) (pe_call (ok_law_sign T) (hr.mono (by decide)) rfl T.g_law_sign T.k_law_sign T.B_law_sign .nil pass0 (pa_cons (pe_op op_sub (pe_ix ix_tup (pv 3) pe_int (fun _ _ => rfl)) (pe_op op_mulW (pv 5) (pe_ix ix_tup (pv 3) pe_int (fun _ _ => rfl)))) pa_nil)) (nomark _))))) (pss_one (ps_ret pe_bl)) pss_nil)
      (pss_cons (ps_if (PW.pt (pw_or (pt_cmpR op_ne (pe_cmpR (op_ownE T.nf_Ratio_int T.M_Ratio_eq.at_ T.M_Ratio_eq.fn (ok_Ratio_eq T) (hr.mono (by decide)) T.B_Ratio_eq) (pv 6) (pv 7) (nomark _)) (pe_cmpR (op_eqD hr.units) (pv 3) (pv 4) (nomark _)) (nomark _)) (pw_or1 (pt_cmpR (op_ownE T.nf_Ratio_int T.M_Ratio_eq.at_ T.M_Ratio_eq.fn (ok_Ratio_eq T) (hr.mono (by decide)) T.B_Ratio_eq) (pv 6) (pv 5) (nomark _))))) (pss_one (ps_ret pe_bl)) pss_nil)
      (pss_cons (ps_set (i := 9) sc_law.nd rfl (Or.inl rfl) (pe_meth0 (pv 6) T.c_Ratio T.M_Ratio_floor (ok_Ratio_floor T) (hr.mono (by decide)) T.B_Ratio_floor .nil pass0))
      (pss_cons (ps_set (i := 10) sc_law.nd rfl (Or.inl rfl) (pe_meth0 (pv 6) T.c_Ratio T.M_Ratio_ceiling (ok_Ratio_ceiling T) (hr.mono (by decide)) T.B_Ratio_ceiling .nil pass0))
      (pss_cons (ps_if (PW.pt (pw_or (pt_not (pt_val (pe_call (ok_law_int T) (hr.mono (by decide)) rfl T.g_law_int T.k_law_int T.B_law_int .nil pass0 (pa_cons (pv 9) pa_nil)))) (pw_or1 (pt_not (pt_val (pe_call (ok_law_int T) (hr.mono (by decide)) rfl T.g_law_int T.k_law_int T.B_law_int .nil pass0 (pa_cons (pv 10) pa_nil))))))) (pss_one (ps_ret pe_bl)) pss_nil)
      (pss_cons (ps_if (pt_not (pt_chain op_le op_lt (pe_op op_mulW (pv 9) (pe_ix ix_tup (pv 3) pe_int (fun _ _ => rfl))) (pe_ix ix_tup (pv 3) pe_int (fun _ _ => rfl)) (pe_op op_mulW (pe_op op_add (pv 9) pe_int) (pe_ix ix_tup (pv 3) pe_int (fun _ _ => rfl))))) (pss_one (ps_ret pe_bl)) pss_nil)
      (pss_one (ps_ret (pe_and (pe_chain op_lt op_le (pe_op op_mulW (pe_op op_sub (pv 10) pe_int) (pe_ix ix_tup (pv 3) pe_int (fun _ _ => rfl))) (pe_ix ix_tup (pv 3) pe_int (fun _ _ => rfl)) (pe_op op_mulW (pv 10) (pe_ix ix_tup (pv 3) pe_int (fun _ _ => rfl)))) (pe_one (pe_call (ok_law_is T) (hr.mono (by decide)) rfl T.g_law_is T.k_law_is T.B_law_is .nil pass0 (pa_cons (pv 6) (pa_cons (pv 3) pa_nil))))))))))))))))))))))))), ?_⟩
  try dsimp only [L2.cxOf]
  obtain ⟨x, rfl, s0, ns, rfl, hS, hlen, k⟩ := h
  rw [show L2.start (["_law_script", "_law_bag_here", "_law_way", "_law_a", "_law_b", "_law_n", "_law_left", "_law_right", "_law_told", "_law_low", "_law_high"] : List Str) [(.ref s0)] = ([some ((.ref s0)), none, none, none, none, none, none, none, none, none, none] : L2.St) from rfl]
  walk_at "w"
  refine ⟨_, rfl, s0, ns, rfl, hS, fun b H1 nb s1 B1 => ?_⟩
  walk_at "w"
  have p30 : ((10 : Int) ^ Int.toNat 30).natAbs < 2 ^ 1000 := by rw [pow30]; decide +kernel
  refine ⟨_, _, rfl, b, 4, rfl, rfl, B1, by decide, by decide +kernel, fun way H2 _ _ B2 fr2 => ?_⟩
  walk_at "w"
  refine ⟨_, rfl, b, rfl, B2, fun pa t u H3 B3 na k3 hA3 FA => ?_⟩
  walk_at "w"
  refine ⟨_, rfl, b, rfl, B3, fun pb v w2 H4 B4 nb4 k4 hB4 FB => ?_⟩
  have hA4 := k4 _ _ (B2.ne na) hA3
  obtain ⟨m1, m2⟩ := frac_small FA
  have LA := FA.low
  have ua := LA.pos
  have ua' : u ≠ 0 := by omega
  have dxu : ∀ i, CDivX i u := fun i => divX (b := 1000) ua' m2 (by decide) (by decide)
  walk_at "w"
  refine ⟨fun σ' H' => H' = H4 ∧ ∃ pc v w, σ' = [some (.ref s0), some (.ref b), some (.int way), some (.ref pa), some (.ref pc), none, none, none, none, none, none] ∧ H4 pc = some (.tup [.int v, .int w]) ∧ Frac v w, ?_, ?_⟩
  · walk_at "w"
    refine it_dec (fun c => ?_) (fun c => ?_)
    · walk_at "w"
      exact ⟨rfl, pa, t, u, rfl, hA4, FA⟩
    · walk_at "w"
      exact ⟨rfl, pb, v, w2, rfl, hB4, FB⟩
  rintro σ' H' ⟨rfl, pc, v1, w1, rfl, hC4, FC⟩
  walk_at "w"
  refine ⟨fun σ' H' => BagAt H' b ∧ H' pa = some (.tup [.int t, .int u]) ∧ ∃ pc v w, σ' = [some (.ref s0), some (.ref b), some (.int way), some (.ref pa), some (.ref pc), none, none, none, none, none, none] ∧ H' pc = some (.tup [.int v, .int w]) ∧ Wide v w, ?_, ?_⟩
  · walk_at "w"
    refine it_dec (fun c => ?_) (fun c => ?_)
    · walk_at "w"
      obtain ⟨e1, e2, e3⟩ := near_ok FA
      refine ⟨_, _, rfl, _, _, rfl, rfl, e1, e2, fun p np => ?_⟩
      walk_at "w"
      exact ⟨B4.same (Same.new np), Same.new np _ _ hA4, p, _, _, rfl, upd_same, e3⟩
    · walk_at "w"
      exact ⟨B4, hA4, pc, v1, w1, rfl, hC4, FC.wide⟩
  clear hC4 hA4 FC hB4 FB B4 hA3 B3 B2 fr2
  rintro σ' H5 ⟨B5, hA5, pc, v, w, rfl, hC5, W⟩
  have LB := W.low
  have ub := LB.pos
  have ub' : w ≠ 0 := by omega
  have m3 := W.top
  have m4 := W.bot
  walk_at "w"
  refine ⟨_, _, rfl, b, 3, rfl, rfl, B5, by decide, by decide +kernel, fun r H6 r0 r1 B6 fr6 => ?_⟩
  have hA6 : H6 pa = _ := keep_of fr6 hA5 (B5.neT hA5)
  have hC6 : H6 pc = _ := keep_of fr6 hC5 (B5.neT hC5)
  walk_at "w"
  intro pl dl nl ndl nel
  refine init_ok upd_same ua' (small_le m2 (by decide)) ⟨rfl, ?_⟩
  have SL := made_same (C := a.C_Ratio) (fs := []) (gs := rfields (lowT t u) (lowB t u)) nl ndl
  have RL7 := made_at (a := a) (H := H6) (z := pl) (dz := dl) (fs := []) (t := lowT t u) (b := lowB t u)
  rw [(low_idem LA).1, (low_idem LA).2] at SL RL7 ⊢
  generalize upd (upd (upd H6 dl (.own pl)) pl (.ins a.C_Ratio dl [])) pl (.ins a.C_Ratio dl (rfields t u)) = H7 at SL RL7 ⊢
  have hA7 := SL _ _ hA6
  have hC7 := SL _ _ hC6
  walk_at "w"
  intro pr dr nr ndr ner
  refine init_ok upd_same ub' (small_le m4 (by decide)) ⟨rfl, ?_⟩
  have SR := made_same (C := a.C_Ratio) (fs := []) (gs := rfields (lowT v w) (lowB v w)) nr ndr
  have RR := made_at (a := a) (H := H7) (z := pr) (dz := dr) (fs := []) (t := lowT v w) (b := lowB v w)
  rw [(low_idem LB).1, (low_idem LB).2] at SR RR ⊢
  generalize upd (upd (upd H7 dr (.own pr)) pr (.ins a.C_Ratio dr [])) pr (.ins a.C_Ratio dr (rfields v w)) = Z at SR RR ⊢
  have RL := RL7.same SR
  have hA := SR _ _ hA7
  have hC := SR _ _ hC7
  clear hA5 hC5 hA6 hC6 hA7 hC7 B5 B6 fr6 SL SR RL7
  walk_at "w"
  obtain ⟨dL, hL⟩ := RL.ex
  obtain ⟨dR, hR⟩ := RR.ex
  have qn := quo (t := t) ua
  have ft := FA.top
  have b0 := big1000
  have mn : (t.fdiv u + r - 1).natAbs < 2 ^ 1000 := by omega
  generalize hn : t.fdiv u + r - 1 = n at mn ⊢
  refine w_meth ?_
  walk_at "w"
  refine ⟨pl, dL, _, rfl, hL, rl_no (by decide +kernel) (by decide +kernel), ?_⟩
  walk_at "w"
  refine ⟨_, _, rfl, pl, t, u, v, w, rfl, RL, .inl ⟨pr, rfl, RR⟩, ⟨m1, m2, m3, m4⟩, ua, ub, fun Z1 s1 => ?_⟩
  have hA1 := s1 _ _ hA
  have hC1 := s1 _ _ hC
  walk_at "w"
  refine ⟨_, rfl, true, isI_int _, ?_⟩
  walk_at "w"
  refine ⟨_, rfl, _, rfl, ?_⟩
  walk_at "w"
  refine it_npos rfl ?_
  clear hA1 hC1
  walk_at "w"
  refine w_meth ?_
  walk_at "w"
  refine ⟨pl, dL, _, rfl, s1 _ _ hL, rl_no (by decide +kernel) (by decide +kernel), ?_⟩
  walk_at "w"
  refine ⟨_, _, rfl, pl, t, u, n, 1, rfl, RL.same s1, .inr ⟨rfl, rfl⟩, ⟨m1, m2, mn, by decide⟩, ua, by decide, fun Z2 s2 => ?_⟩
  have hA2 := s2 _ _ (s1 _ _ hA)
  have hC2 := s2 _ _ (s1 _ _ hC)
  have hL2 := s2 _ _ (s1 _ _ hL)
  have hR2 := s2 _ _ (s1 _ _ hR)
  have RL2 := (RL.same s1).same s2
  have RR2 := (RR.same s1).same s2
  clear hA hC hL hR RL RR
  walk_at "w"
  refine ⟨_, rfl, true, isI_int _, ?_⟩
  walk_at "w"
  refine ⟨_, rfl, _, rfl, ?_⟩
  walk_at "w"
  rw [Int.mul_one]
  refine it_npos rfl ?_
  walk_at "w"
  refine ⟨pl, dL, _, rfl, hL2, .inr ⟨pr, dR, _, rfl, hR2⟩, _, _, rfl, pl, t, u, rfl, RL2, .inl ⟨pr, v, w, rfl, RR2, ?_⟩⟩
  walk_at "w"
  refine ⟨.tuple [.int t, .int u], .tuple [.int v, .int w], .tup (SqT.of hA2) (.cons (.int _) (.cons (.int _) .nil)), .tup (SqT.of hC2) (.cons (.int _) (.cons (.int _) .nil)), by rfl, by rfl, ?_⟩
  walk_at "w"
  refine it_npos (congrArg V.bl (by simp [PyData.eqv, PyData.eqvAll]; rfl)) ?_
  walk_at "w"
  refine ⟨pl, dL, _, rfl, hL2, .inl ⟨_, rfl⟩, _, _, rfl, pl, t, u, rfl, RL2, .inr ⟨n, rfl, ?_⟩⟩
  clear RR2 hR2 hC2
  walk_at "w"
  have q1 := quo (t := -t) ua
  have f1 : (t.fdiv u).natAbs < 2 ^ 1000 := by omega
  have f2 : (t.fdiv u + 1).natAbs < 2 ^ 1000 := by omega
  have f3 : (-((-t).fdiv u)).natAbs < 2 ^ 1000 := by omega
  have f4 : (-((-t).fdiv u) - 1).natAbs < 2 ^ 1000 := by omega
  obtain ⟨g1, g2, _⟩ := qn
  obtain ⟨g3, g4, _⟩ := q1
  refine w_meth ?_
  walk_at "w"
  refine ⟨pl, dL, _, rfl, hL2, rl_no (by decide +kernel) (by decide +kernel), ?_⟩
  walk_at "w"
  refine ⟨_, rfl, pl, t, u, rfl, RL2, ua', m2, ?_⟩
  walk_at "w"
  refine w_meth ?_
  walk_at "w"
  refine ⟨pl, dL, _, rfl, hL2, rl_no (by decide +kernel) (by decide +kernel), ?_⟩
  walk_at "w"
  refine ⟨_, rfl, pl, t, u, rfl, RL2, ua', m2, ?_⟩
  walk_at "w"
  refine ⟨_, rfl, true, isI_int _, ?_⟩
  walk_at "w"
  refine ⟨_, rfl, true, isI_int _, ?_⟩
  walk_at "w"
  refine w_chain ?_
  walk_at "w"
  refine it_pos g1 ?_
  walk_at "w"
  refine it_npos g2 ?_
  walk_at "w"
  refine w_chain ?_
  walk_at "w"
  refine it_pos (by rw [Int.sub_mul, Int.neg_mul]; rw [Int.add_mul] at g4; omega) ?_
  walk_at "w"
  refine it_pos (by rw [Int.neg_mul]; omega) ?_
  walk_at "w"
  refine ⟨_, _, rfl, pl, pa, t, u, rfl, RL2, rfl, SqT.of hA2, ?_⟩
  walk_at "w"
  exact k _

end FG
namespace FG
open PySem L2
theorem y_InvalidNumber : Txt1 "InvalidNumber.__init__" "value" "not a valid number" (defArgs s_InvalidNumber_init) (defBody s_InvalidNumber_init) (defScope s_InvalidNumber_init) where
  ex := ⟨_, _, _, _, _, _, _, _, _, _, _, _, rfl, rfl, rfl, fun L fI cc cda => ⟨by rfl, by rfl, by rfl, _, by rfl⟩⟩
  bind := fun _ _ _ _ _ _ _ _ _ => rfl
  nself := by decide +kernel
  ndbg := by decide +kernel
  ks := by decide +kernel
  kc := by decide +kernel
  k0 := by decide +kernel
  k1 := by decide +kernel
  cells := by decide +kernel
  kind := rfl
  co := rfl
  gen := rfl
theorem all_mk {w : World} {K : PySem.W.Frag} {h : Heap} {mg : Str → Option Value} {fa : Addr} (X : K.In h) (G : h.Ns mainGlobals mg) (hfa : mg "law" = some (.ref fa))
    {C_Ratio : Addr}
    {f_is_integer : Addr} {oc_is_integer kV_is_integer dc_is_integer pm_is_integer cd_is_integer ct_is_integer : Value} {od_is_integer an_is_integer : Option Addr} {sl_is_integer : Array (Option Value)}
    {f_greatest_divisor : Addr} {oc_greatest_divisor kV_greatest_divisor dc_greatest_divisor pm_greatest_divisor cd_greatest_divisor ct_greatest_divisor : Value} {od_greatest_divisor an_greatest_divisor : Option Addr} {sl_greatest_divisor : Array (Option Value)}
    {f_law_bag : Addr} {oc_law_bag kV_law_bag dc_law_bag pm_law_bag cd_law_bag ct_law_bag : Value} {od_law_bag an_law_bag : Option Addr} {sl_law_bag : Array (Option Value)}
    {f_law_take : Addr} {oc_law_take kV_law_take dc_law_take pm_law_take cd_law_take ct_law_take : Value} {od_law_take an_law_take : Option Addr} {sl_law_take : Array (Option Value)}
    {f_Ratio_init : Addr} {oc_Ratio_init kV_Ratio_init dc_Ratio_init pm_Ratio_init cd_Ratio_init ct_Ratio_init : Value} {od_Ratio_init an_Ratio_init : Option Addr} {sl_Ratio_init : Array (Option Value)}
    {tp_Ratio_init : Addr} {tc_Ratio_init : Value} {td_Ratio_init : Option Addr} {tn_Ratio_init : Nat} {ts_Ratio_init : Array (Option Value)} {tk0_Ratio_init : Tok}
    {f_as_ratio : Addr} {oc_as_ratio kV_as_ratio dc_as_ratio pm_as_ratio cd_as_ratio ct_as_ratio : Value} {od_as_ratio an_as_ratio : Option Addr} {sl_as_ratio : Array (Option Value)}
    {f_Ratio_add : Addr} {oc_Ratio_add kV_Ratio_add dc_Ratio_add pm_Ratio_add cd_Ratio_add ct_Ratio_add : Value} {od_Ratio_add an_Ratio_add : Option Addr} {sl_Ratio_add : Array (Option Value)}
    {f_Ratio_sub : Addr} {oc_Ratio_sub kV_Ratio_sub dc_Ratio_sub pm_Ratio_sub cd_Ratio_sub ct_Ratio_sub : Value} {od_Ratio_sub an_Ratio_sub : Option Addr} {sl_Ratio_sub : Array (Option Value)}
    {f_Ratio_mul : Addr} {oc_Ratio_mul kV_Ratio_mul dc_Ratio_mul pm_Ratio_mul cd_Ratio_mul ct_Ratio_mul : Value} {od_Ratio_mul an_Ratio_mul : Option Addr} {sl_Ratio_mul : Array (Option Value)}
    {f_Ratio_neg : Addr} {oc_Ratio_neg kV_Ratio_neg dc_Ratio_neg pm_Ratio_neg cd_Ratio_neg ct_Ratio_neg : Value} {od_Ratio_neg an_Ratio_neg : Option Addr} {sl_Ratio_neg : Array (Option Value)}
    {f_Ratio_abs : Addr} {oc_Ratio_abs kV_Ratio_abs dc_Ratio_abs pm_Ratio_abs cd_Ratio_abs ct_Ratio_abs : Value} {od_Ratio_abs an_Ratio_abs : Option Addr} {sl_Ratio_abs : Array (Option Value)}
    {f_Ratio_radd : Addr} {oc_Ratio_radd kV_Ratio_radd dc_Ratio_radd pm_Ratio_radd cd_Ratio_radd ct_Ratio_radd : Value} {od_Ratio_radd an_Ratio_radd : Option Addr} {sl_Ratio_radd : Array (Option Value)}
    {f_Ratio_rmul : Addr} {oc_Ratio_rmul kV_Ratio_rmul dc_Ratio_rmul pm_Ratio_rmul cd_Ratio_rmul ct_Ratio_rmul : Value} {od_Ratio_rmul an_Ratio_rmul : Option Addr} {sl_Ratio_rmul : Array (Option Value)}
    {f_Ratio_rsub : Addr} {oc_Ratio_rsub kV_Ratio_rsub dc_Ratio_rsub pm_Ratio_rsub cd_Ratio_rsub ct_Ratio_rsub : Value} {od_Ratio_rsub an_Ratio_rsub : Option Addr} {sl_Ratio_rsub : Array (Option Value)}
    {f_Ratio_eq : Addr} {oc_Ratio_eq kV_Ratio_eq dc_Ratio_eq pm_Ratio_eq cd_Ratio_eq ct_Ratio_eq : Value} {od_Ratio_eq an_Ratio_eq : Option Addr} {sl_Ratio_eq : Array (Option Value)}
    {f_Ratio_compare : Addr} {oc_Ratio_compare kV_Ratio_compare dc_Ratio_compare pm_Ratio_compare cd_Ratio_compare ct_Ratio_compare : Value} {od_Ratio_compare an_Ratio_compare : Option Addr} {sl_Ratio_compare : Array (Option Value)}
    {f_Ratio_floor : Addr} {oc_Ratio_floor kV_Ratio_floor dc_Ratio_floor pm_Ratio_floor cd_Ratio_floor ct_Ratio_floor : Value} {od_Ratio_floor an_Ratio_floor : Option Addr} {sl_Ratio_floor : Array (Option Value)}
    {f_Ratio_ceiling : Addr} {oc_Ratio_ceiling kV_Ratio_ceiling dc_Ratio_ceiling pm_Ratio_ceiling cd_Ratio_ceiling ct_Ratio_ceiling : Value} {od_Ratio_ceiling an_Ratio_ceiling : Option Addr} {sl_Ratio_ceiling : Array (Option Value)}
    {f_law_int : Addr} {oc_law_int kV_law_int dc_law_int pm_law_int cd_law_int ct_law_int : Value} {od_law_int an_law_int : Option Addr} {sl_law_int : Array (Option Value)}
    {f_law_is : Addr} {oc_law_is kV_law_is dc_law_is pm_law_is cd_law_is ct_law_is : Value} {od_law_is an_law_is : Option Addr} {sl_law_is : Array (Option Value)}
    {f_law_lowest : Addr} {oc_law_lowest kV_law_lowest dc_law_lowest pm_law_lowest cd_law_lowest ct_law_lowest : Value} {od_law_lowest an_law_lowest : Option Addr} {sl_law_lowest : Array (Option Value)}
    {f_law_fraction : Addr} {oc_law_fraction kV_law_fraction dc_law_fraction pm_law_fraction cd_law_fraction ct_law_fraction : Value} {od_law_fraction an_law_fraction : Option Addr} {sl_law_fraction : Array (Option Value)}
    {f_law_sign : Addr} {oc_law_sign kV_law_sign dc_law_sign pm_law_sign cd_law_sign ct_law_sign : Value} {od_law_sign an_law_sign : Option Addr} {sl_law_sign : Array (Option Value)}
    {f_law : Addr} {oc_law kV_law dc_law pm_law cd_law ct_law : Value} {od_law an_law : Option Addr} {sl_law : Array (Option Value)}
    {C_InvalidNumber i_InvalidNumber c_InvalidNumber k_InvalidNumber N_InvalidNumber : Addr} {n1_InvalidNumber q_InvalidNumber : Str} {bs_InvalidNumber bm_InvalidNumber : List Value} {sn_InvalidNumber : List Str} {su_InvalidNumber : List Value} {ab_InvalidNumber : Bool} {co_InvalidNumber : Option Bool} {dd_InvalidNumber : Option Addr} {m0_InvalidNumber m1_InvalidNumber m2_InvalidNumber m3_InvalidNumber m5_InvalidNumber : Option Value}
    {ec_InvalidNumber ekV_InvalidNumber edc_InvalidNumber epm_InvalidNumber ect_InvalidNumber ecl_InvalidNumber ecl2_InvalidNumber : Value} {ed_InvalidNumber ean_InvalidNumber ecd_InvalidNumber ecd2_InvalidNumber : Option Addr} {esl_InvalidNumber ecs_InvalidNumber ecs2_InvalidNumber : Array (Option Value)} {evs_InvalidNumber : Array Value} {efl_InvalidNumber : Str} {etf_InvalidNumber : Tok}
    (a_Ratio : PySem.W.nsIn K mainGlobals "Ratio" = some (some (.ref C_Ratio)))
    (a_is_integer : PySem.W.nsIn K mainGlobals "is_integer" = some (some (.ref f_is_integer)))
    (l_is_integer : K.lookup f_is_integer = some ⟨oc_is_integer, od_is_integer, .func (PySem.W.fnOf "is_integer" "is_integer" (defArgs s_is_integer) (defBody s_is_integer) (defScope s_is_integer) .none kV_is_integer dc_is_integer pm_is_integer an_is_integer cd_is_integer ct_is_integer), sl_is_integer⟩)
    (q_is_integer : PySem.W.codeIn K cd_is_integer "is_integer" = true)
    (k_is_integer : PySem.W.keepIn K (.ref f_is_integer) = true)
    (a_greatest_divisor : PySem.W.nsIn K mainGlobals "greatest_divisor" = some (some (.ref f_greatest_divisor)))
    (l_greatest_divisor : K.lookup f_greatest_divisor = some ⟨oc_greatest_divisor, od_greatest_divisor, .func (PySem.W.fnOf "greatest_divisor" "greatest_divisor" (defArgs s_greatest_divisor) (defBody s_greatest_divisor) (defScope s_greatest_divisor) .none kV_greatest_divisor dc_greatest_divisor pm_greatest_divisor an_greatest_divisor cd_greatest_divisor ct_greatest_divisor), sl_greatest_divisor⟩)
    (q_greatest_divisor : PySem.W.codeIn K cd_greatest_divisor "greatest_divisor" = true)
    (k_greatest_divisor : PySem.W.keepIn K (.ref f_greatest_divisor) = true)
    (a_law_bag : PySem.W.nsIn K mainGlobals "_law_bag" = some (some (.ref f_law_bag)))
    (l_law_bag : K.lookup f_law_bag = some ⟨oc_law_bag, od_law_bag, .func (PySem.W.fnOf "_law_bag" "_law_bag" (defArgs s_law_bag) (defBody s_law_bag) (defScope s_law_bag) .none kV_law_bag dc_law_bag pm_law_bag an_law_bag cd_law_bag ct_law_bag), sl_law_bag⟩)
    (q_law_bag : PySem.W.codeIn K cd_law_bag "_law_bag" = true)
    (k_law_bag : PySem.W.keepIn K (.ref f_law_bag) = true)
    (a_law_take : PySem.W.nsIn K mainGlobals "_law_take" = some (some (.ref f_law_take)))
    (l_law_take : K.lookup f_law_take = some ⟨oc_law_take, od_law_take, .func (PySem.W.fnOf "_law_take" "_law_take" (defArgs s_law_take) (defBody s_law_take) (defScope s_law_take) .none kV_law_take dc_law_take pm_law_take an_law_take cd_law_take ct_law_take), sl_law_take⟩)
    (q_law_take : PySem.W.codeIn K cd_law_take "_law_take" = true)
    (k_law_take : PySem.W.keepIn K (.ref f_law_take) = true)
    (a_Ratio_init : PySem.W.findIn K (.ref C_Ratio) "__init__" = some (some (.ref f_Ratio_init)))
    (i_Ratio_init : PySem.W.isFn K (.ref f_Ratio_init) = true)
    (l_Ratio_init : K.lookup f_Ratio_init = some ⟨oc_Ratio_init, od_Ratio_init, .func (PySem.W.fnOf "__init__" "Ratio.__init__" (defArgs s_Ratio_init) (defBody s_Ratio_init) (defScope s_Ratio_init) (.ref tp_Ratio_init) kV_Ratio_init dc_Ratio_init pm_Ratio_init an_Ratio_init cd_Ratio_init ct_Ratio_init), sl_Ratio_init⟩)
    (q_Ratio_init : PySem.W.codeIn K cd_Ratio_init "Ratio.__init__" = true)
    (k_Ratio_init : PySem.W.keepIn K (.ref f_Ratio_init) = true)
    (t_Ratio_init : K.lookup tp_Ratio_init = some ⟨tc_Ratio_init, td_Ratio_init, .seq ([.int 1 tk0_Ratio_init] : List Value).toArray tn_Ratio_init, ts_Ratio_init⟩)
    (a_as_ratio : PySem.W.nsIn K mainGlobals "as_ratio" = some (some (.ref f_as_ratio)))
    (l_as_ratio : K.lookup f_as_ratio = some ⟨oc_as_ratio, od_as_ratio, .func (PySem.W.fnOf "as_ratio" "as_ratio" (defArgs s_as_ratio) (defBody s_as_ratio) (defScope s_as_ratio) .none kV_as_ratio dc_as_ratio pm_as_ratio an_as_ratio cd_as_ratio ct_as_ratio), sl_as_ratio⟩)
    (q_as_ratio : PySem.W.codeIn K cd_as_ratio "as_ratio" = true)
    (k_as_ratio : PySem.W.keepIn K (.ref f_as_ratio) = true)
    (a_Ratio_add : PySem.W.findIn K (.ref C_Ratio) "__add__" = some (some (.ref f_Ratio_add)))
    (i_Ratio_add : PySem.W.isFn K (.ref f_Ratio_add) = true)
    (l_Ratio_add : K.lookup f_Ratio_add = some ⟨oc_Ratio_add, od_Ratio_add, .func (PySem.W.fnOf "__add__" "Ratio.__add__" (defArgs s_Ratio_add) (defBody s_Ratio_add) (defScope s_Ratio_add) .none kV_Ratio_add dc_Ratio_add pm_Ratio_add an_Ratio_add cd_Ratio_add ct_Ratio_add), sl_Ratio_add⟩)
    (q_Ratio_add : PySem.W.codeIn K cd_Ratio_add "Ratio.__add__" = true)
    (k_Ratio_add : PySem.W.keepIn K (.ref f_Ratio_add) = true)
    (a_Ratio_sub : PySem.W.findIn K (.ref C_Ratio) "__sub__" = some (some (.ref f_Ratio_sub)))
    (i_Ratio_sub : PySem.W.isFn K (.ref f_Ratio_sub) = true)
    (l_Ratio_sub : K.lookup f_Ratio_sub = some ⟨oc_Ratio_sub, od_Ratio_sub, .func (PySem.W.fnOf "__sub__" "Ratio.__sub__" (defArgs s_Ratio_sub) (defBody s_Ratio_sub) (defScope s_Ratio_sub) .none kV_Ratio_sub dc_Ratio_sub pm_Ratio_sub an_Ratio_sub cd_Ratio_sub ct_Ratio_sub), sl_Ratio_sub⟩)
    (q_Ratio_sub : PySem.W.codeIn K cd_Ratio_sub "Ratio.__sub__" = true)
    (k_Ratio_sub : PySem.W.keepIn K (.ref f_Ratio_sub) = true)
    (a_Ratio_mul : PySem.W.findIn K (.ref C_Ratio) "__mul__" = some (some (.ref f_Ratio_mul)))
    (i_Ratio_mul : PySem.W.isFn K (.ref f_Ratio_mul) = true)
    (l_Ratio_mul : K.lookup f_Ratio_mul = some ⟨oc_Ratio_mul, od_Ratio_mul, .func (PySem.W.fnOf "__mul__" "Ratio.__mul__" (defArgs s_Ratio_mul) (defBody s_Ratio_mul) (defScope s_Ratio_mul) .none kV_Ratio_mul dc_Ratio_mul pm_Ratio_mul an_Ratio_mul cd_Ratio_mul ct_Ratio_mul), sl_Ratio_mul⟩)
    (q_Ratio_mul : PySem.W.codeIn K cd_Ratio_mul "Ratio.__mul__" = true)
    (k_Ratio_mul : PySem.W.keepIn K (.ref f_Ratio_mul) = true)
    (a_Ratio_neg : PySem.W.findIn K (.ref C_Ratio) "__neg__" = some (some (.ref f_Ratio_neg)))
    (i_Ratio_neg : PySem.W.isFn K (.ref f_Ratio_neg) = true)
    (l_Ratio_neg : K.lookup f_Ratio_neg = some ⟨oc_Ratio_neg, od_Ratio_neg, .func (PySem.W.fnOf "__neg__" "Ratio.__neg__" (defArgs s_Ratio_neg) (defBody s_Ratio_neg) (defScope s_Ratio_neg) .none kV_Ratio_neg dc_Ratio_neg pm_Ratio_neg an_Ratio_neg cd_Ratio_neg ct_Ratio_neg), sl_Ratio_neg⟩)
    (q_Ratio_neg : PySem.W.codeIn K cd_Ratio_neg "Ratio.__neg__" = true)
    (k_Ratio_neg : PySem.W.keepIn K (.ref f_Ratio_neg) = true)
    (a_Ratio_abs : PySem.W.findIn K (.ref C_Ratio) "__abs__" = some (some (.ref f_Ratio_abs)))
    (i_Ratio_abs : PySem.W.isFn K (.ref f_Ratio_abs) = true)
    (l_Ratio_abs : K.lookup f_Ratio_abs = some ⟨oc_Ratio_abs, od_Ratio_abs, .func (PySem.W.fnOf "__abs__" "Ratio.__abs__" (defArgs s_Ratio_abs) (defBody s_Ratio_abs) (defScope s_Ratio_abs) .none kV_Ratio_abs dc_Ratio_abs pm_Ratio_abs an_Ratio_abs cd_Ratio_abs ct_Ratio_abs), sl_Ratio_abs⟩)
    (q_Ratio_abs : PySem.W.codeIn K cd_Ratio_abs "Ratio.__abs__" = true)
    (k_Ratio_abs : PySem.W.keepIn K (.ref f_Ratio_abs) = true)
    (a_Ratio_radd : PySem.W.findIn K (.ref C_Ratio) "__radd__" = some (some (.ref f_Ratio_radd)))
    (i_Ratio_radd : PySem.W.isFn K (.ref f_Ratio_radd) = true)
    (l_Ratio_radd : K.lookup f_Ratio_radd = some ⟨oc_Ratio_radd, od_Ratio_radd, .func (PySem.W.fnOf "__radd__" "Ratio.__radd__" (defArgs s_Ratio_radd) (defBody s_Ratio_radd) (defScope s_Ratio_radd) .none kV_Ratio_radd dc_Ratio_radd pm_Ratio_radd an_Ratio_radd cd_Ratio_radd ct_Ratio_radd), sl_Ratio_radd⟩)
    (q_Ratio_radd : PySem.W.codeIn K cd_Ratio_radd "Ratio.__radd__" = true)
    (k_Ratio_radd : PySem.W.keepIn K (.ref f_Ratio_radd) = true)
    (a_Ratio_rmul : PySem.W.findIn K (.ref C_Ratio) "__rmul__" = some (some (.ref f_Ratio_rmul)))
    (i_Ratio_rmul : PySem.W.isFn K (.ref f_Ratio_rmul) = true)
    (l_Ratio_rmul : K.lookup f_Ratio_rmul = some ⟨oc_Ratio_rmul, od_Ratio_rmul, .func (PySem.W.fnOf "__rmul__" "Ratio.__rmul__" (defArgs s_Ratio_rmul) (defBody s_Ratio_rmul) (defScope s_Ratio_rmul) .none kV_Ratio_rmul dc_Ratio_rmul pm_Ratio_rmul an_Ratio_rmul cd_Ratio_rmul ct_Ratio_rmul), sl_Ratio_rmul⟩)
    (q_Ratio_rmul : PySem.W.codeIn K cd_Ratio_rmul "Ratio.__rmul__" = true)
    (k_Ratio_rmul : PySem.W.keepIn K (.ref f_Ratio_rmul) = true)
    (a_Ratio_rsub : PySem.W.findIn K (.ref C_Ratio) "__rsub__" = some (some (.ref f_Ratio_rsub)))
    (i_Ratio_rsub : PySem.W.isFn K (.ref f_Ratio_rsub) = true)
    (l_Ratio_rsub : K.lookup f_Ratio_rsub = some ⟨oc_Ratio_rsub, od_Ratio_rsub, .func (PySem.W.fnOf "__rsub__" "Ratio.__rsub__" (defArgs s_Ratio_rsub) (defBody s_Ratio_rsub) (defScope s_Ratio_rsub) .none kV_Ratio_rsub dc_Ratio_rsub pm_Ratio_rsub an_Ratio_rsub cd_Ratio_rsub ct_Ratio_rsub), sl_Ratio_rsub⟩)
    (q_Ratio_rsub : PySem.W.codeIn K cd_Ratio_rsub "Ratio.__rsub__" = true)
    (k_Ratio_rsub : PySem.W.keepIn K (.ref f_Ratio_rsub) = true)
    (a_Ratio_eq : PySem.W.findIn K (.ref C_Ratio) "__eq__" = some (some (.ref f_Ratio_eq)))
    (i_Ratio_eq : PySem.W.isFn K (.ref f_Ratio_eq) = true)
    (l_Ratio_eq : K.lookup f_Ratio_eq = some ⟨oc_Ratio_eq, od_Ratio_eq, .func (PySem.W.fnOf "__eq__" "Ratio.__eq__" (defArgs s_Ratio_eq) (defBody s_Ratio_eq) (defScope s_Ratio_eq) .none kV_Ratio_eq dc_Ratio_eq pm_Ratio_eq an_Ratio_eq cd_Ratio_eq ct_Ratio_eq), sl_Ratio_eq⟩)
    (q_Ratio_eq : PySem.W.codeIn K cd_Ratio_eq "Ratio.__eq__" = true)
    (k_Ratio_eq : PySem.W.keepIn K (.ref f_Ratio_eq) = true)
    (a_Ratio_compare : PySem.W.findIn K (.ref C_Ratio) "compare" = some (some (.ref f_Ratio_compare)))
    (i_Ratio_compare : PySem.W.isFn K (.ref f_Ratio_compare) = true)
    (l_Ratio_compare : K.lookup f_Ratio_compare = some ⟨oc_Ratio_compare, od_Ratio_compare, .func (PySem.W.fnOf "compare" "Ratio.compare" (defArgs s_Ratio_compare) (defBody s_Ratio_compare) (defScope s_Ratio_compare) .none kV_Ratio_compare dc_Ratio_compare pm_Ratio_compare an_Ratio_compare cd_Ratio_compare ct_Ratio_compare), sl_Ratio_compare⟩)
    (q_Ratio_compare : PySem.W.codeIn K cd_Ratio_compare "Ratio.compare" = true)
    (k_Ratio_compare : PySem.W.keepIn K (.ref f_Ratio_compare) = true)
    (a_Ratio_floor : PySem.W.findIn K (.ref C_Ratio) "floor" = some (some (.ref f_Ratio_floor)))
    (i_Ratio_floor : PySem.W.isFn K (.ref f_Ratio_floor) = true)
    (l_Ratio_floor : K.lookup f_Ratio_floor = some ⟨oc_Ratio_floor, od_Ratio_floor, .func (PySem.W.fnOf "floor" "Ratio.floor" (defArgs s_Ratio_floor) (defBody s_Ratio_floor) (defScope s_Ratio_floor) .none kV_Ratio_floor dc_Ratio_floor pm_Ratio_floor an_Ratio_floor cd_Ratio_floor ct_Ratio_floor), sl_Ratio_floor⟩)
    (q_Ratio_floor : PySem.W.codeIn K cd_Ratio_floor "Ratio.floor" = true)
    (k_Ratio_floor : PySem.W.keepIn K (.ref f_Ratio_floor) = true)
    (a_Ratio_ceiling : PySem.W.findIn K (.ref C_Ratio) "ceiling" = some (some (.ref f_Ratio_ceiling)))
    (i_Ratio_ceiling : PySem.W.isFn K (.ref f_Ratio_ceiling) = true)
    (l_Ratio_ceiling : K.lookup f_Ratio_ceiling = some ⟨oc_Ratio_ceiling, od_Ratio_ceiling, .func (PySem.W.fnOf "ceiling" "Ratio.ceiling" (defArgs s_Ratio_ceiling) (defBody s_Ratio_ceiling) (defScope s_Ratio_ceiling) .none kV_Ratio_ceiling dc_Ratio_ceiling pm_Ratio_ceiling an_Ratio_ceiling cd_Ratio_ceiling ct_Ratio_ceiling), sl_Ratio_ceiling⟩)
    (q_Ratio_ceiling : PySem.W.codeIn K cd_Ratio_ceiling "Ratio.ceiling" = true)
    (k_Ratio_ceiling : PySem.W.keepIn K (.ref f_Ratio_ceiling) = true)
    (a_law_int : PySem.W.nsIn K mainGlobals "_law_int" = some (some (.ref f_law_int)))
    (l_law_int : K.lookup f_law_int = some ⟨oc_law_int, od_law_int, .func (PySem.W.fnOf "_law_int" "_law_int" (defArgs s_law_int) (defBody s_law_int) (defScope s_law_int) .none kV_law_int dc_law_int pm_law_int an_law_int cd_law_int ct_law_int), sl_law_int⟩)
    (q_law_int : PySem.W.codeIn K cd_law_int "_law_int" = true)
    (k_law_int : PySem.W.keepIn K (.ref f_law_int) = true)
    (a_law_is : PySem.W.nsIn K mainGlobals "_law_is" = some (some (.ref f_law_is)))
    (l_law_is : K.lookup f_law_is = some ⟨oc_law_is, od_law_is, .func (PySem.W.fnOf "_law_is" "_law_is" (defArgs s_law_is) (defBody s_law_is) (defScope s_law_is) .none kV_law_is dc_law_is pm_law_is an_law_is cd_law_is ct_law_is), sl_law_is⟩)
    (q_law_is : PySem.W.codeIn K cd_law_is "_law_is" = true)
    (k_law_is : PySem.W.keepIn K (.ref f_law_is) = true)
    (a_law_lowest : PySem.W.nsIn K mainGlobals "_law_lowest" = some (some (.ref f_law_lowest)))
    (l_law_lowest : K.lookup f_law_lowest = some ⟨oc_law_lowest, od_law_lowest, .func (PySem.W.fnOf "_law_lowest" "_law_lowest" (defArgs s_law_lowest) (defBody s_law_lowest) (defScope s_law_lowest) .none kV_law_lowest dc_law_lowest pm_law_lowest an_law_lowest cd_law_lowest ct_law_lowest), sl_law_lowest⟩)
    (q_law_lowest : PySem.W.codeIn K cd_law_lowest "_law_lowest" = true)
    (k_law_lowest : PySem.W.keepIn K (.ref f_law_lowest) = true)
    (a_law_fraction : PySem.W.nsIn K mainGlobals "_law_fraction" = some (some (.ref f_law_fraction)))
    (l_law_fraction : K.lookup f_law_fraction = some ⟨oc_law_fraction, od_law_fraction, .func (PySem.W.fnOf "_law_fraction" "_law_fraction" (defArgs s_law_fraction) (defBody s_law_fraction) (defScope s_law_fraction) .none kV_law_fraction dc_law_fraction pm_law_fraction an_law_fraction cd_law_fraction ct_law_fraction), sl_law_fraction⟩)
    (q_law_fraction : PySem.W.codeIn K cd_law_fraction "_law_fraction" = true)
    (k_law_fraction : PySem.W.keepIn K (.ref f_law_fraction) = true)
    (a_law_sign : PySem.W.nsIn K mainGlobals "_law_sign" = some (some (.ref f_law_sign)))
    (l_law_sign : K.lookup f_law_sign = some ⟨oc_law_sign, od_law_sign, .func (PySem.W.fnOf "_law_sign" "_law_sign" (defArgs s_law_sign) (defBody s_law_sign) (defScope s_law_sign) .none kV_law_sign dc_law_sign pm_law_sign an_law_sign cd_law_sign ct_law_sign), sl_law_sign⟩)
    (q_law_sign : PySem.W.codeIn K cd_law_sign "_law_sign" = true)
    (k_law_sign : PySem.W.keepIn K (.ref f_law_sign) = true)
    (a_law : PySem.W.nsIn K mainGlobals "law" = some (some (.ref f_law)))
    (l_law : K.lookup f_law = some ⟨oc_law, od_law, .func (PySem.W.fnOf "law" "law" (defArgs s_law) (defBody s_law) (defScope s_law) .none kV_law dc_law pm_law an_law cd_law ct_law), sl_law⟩)
    (q_law : PySem.W.codeIn K cd_law "law" = true)
    (k_law : PySem.W.keepIn K (.ref f_law) = true)
    (pg_Ratio : PySem.W.plainGet K C_Ratio Str.empty = true)
    (hd_Ratio : PySem.W.hasDictIn K C_Ratio = true)
    (po_Ratio : PySem.W.plainOver K C_Ratio = true)
    (sa_Ratio : PySem.W.findIn K (.ref C_Ratio) "__setattr__" = some (some (.builtin "object.__setattr__")))
    (i1_Ratio : PySem.W.findIn K (.ref C_Ratio) "__class__" = some (some (.builtin "object.__class__")))
    (i4_Ratio : PySem.W.mroIn K C_Ratio (.type "object") = some true)
    (mk_Ratio : PySem.W.makesIn K C_Ratio = true)
    (kc_Ratio : PySem.W.keepIn K (.ref C_Ratio) = true)
    (o2 : PySem.W.specialIn K (.builtin "object.__class__") "__get__" = some (some (.builtin "getset_descriptor.__get__")))
    (o3 : PySem.W.takesIn K (.builtin "object.__class__") = some true)
    (oq : PySem.W.nsIn K cStatics "thirdparty.any" = some none)
    (os : PySem.W.nsIn K mainGlobals "super" = some none)
    (a_InvalidNumber : PySem.W.nsIn K mainGlobals "InvalidNumber" = some (some (.ref C_InvalidNumber)))
    (L_InvalidNumber : K.lookup C_InvalidNumber = some (excClassObj n1_InvalidNumber q_InvalidNumber C_InvalidNumber N_InvalidNumber bs_InvalidNumber bm_InvalidNumber true sn_InvalidNumber su_InvalidNumber ab_InvalidNumber co_InvalidNumber dd_InvalidNumber m0_InvalidNumber m1_InvalidNumber m2_InvalidNumber m3_InvalidNumber m5_InvalidNumber "ValueError.__new__"))
    (ve_InvalidNumber : PySem.HandSPX.refsVE bm_InvalidNumber = true)
    (al_InvalidNumber : PySem.W.alongIn K "__init__" bm_InvalidNumber = some (some (.builtin "ValueError.__init__")))
    (sa_InvalidNumber : PySem.W.findIn K (.ref C_InvalidNumber) "__setattr__" = some (some (.builtin "object.__setattr__")))
    (ga_InvalidNumber : PySem.W.findIn K (.ref C_InvalidNumber) "__getattribute__" = some (some (.builtin "BaseException.__getattribute__")))
    (gg_InvalidNumber : PySem.W.findIn K (.ref C_InvalidNumber) "__getattr__" = some none)
    (ii_InvalidNumber : PySem.W.findIn K (.ref C_InvalidNumber) "__init__" = some (some (.ref i_InvalidNumber)))
    (ti_InvalidNumber : PySem.W.typeIn K (.ref i_InvalidNumber) = some (.type "function"))
    (kc_InvalidNumber : PySem.W.keepIn K (.ref C_InvalidNumber) = true)
    (be_InvalidNumber : PySem.W.subIn K (.ref C_InvalidNumber) (.type "BaseException") = some true)
    (ev_InvalidNumber : PySem.W.subIn K (.ref C_InvalidNumber) (.type "ValueError") = some true)
    (ty_InvalidNumber : PySem.W.typeIn K (.ref C_InvalidNumber) = some (.type "type"))
    (hd_InvalidNumber : PySem.W.hasDictIn K C_InvalidNumber = true)
    (me_InvalidNumber : PySem.W.mroIn K C_InvalidNumber (.ref C_InvalidNumber) = some true)
    (l_InvalidNumber : K.lookup i_InvalidNumber = some ⟨ec_InvalidNumber, ed_InvalidNumber, .func (errFd "InvalidNumber.__init__" (defArgs s_InvalidNumber_init) (defBody s_InvalidNumber_init) (defScope s_InvalidNumber_init) c_InvalidNumber ekV_InvalidNumber edc_InvalidNumber epm_InvalidNumber ean_InvalidNumber (.ref k_InvalidNumber) ect_InvalidNumber), esl_InvalidNumber⟩)
    (q_InvalidNumber : PySem.W.codeIn K (.ref k_InvalidNumber) "InvalidNumber.__init__" = true)
    (lk_InvalidNumber : K.lookup k_InvalidNumber = some ⟨ecl_InvalidNumber, ecd_InvalidNumber, .fields evs_InvalidNumber, ecs_InvalidNumber⟩)
    (fl_InvalidNumber : evs_InvalidNumber[2]? = some (.str efl_InvalidNumber etf_InvalidNumber))
    (fi_InvalidNumber : ((PySem.Challenge.rw_fontgap_k03_ratio_compare_and_round.prog.main.file : Str) == efl_InvalidNumber) = true)
    (lc_InvalidNumber : K.lookup c_InvalidNumber = some ⟨ecl2_InvalidNumber, ecd2_InvalidNumber, .cell (some (.ref C_InvalidNumber)), ecs2_InvalidNumber⟩)
    (i1_InvalidNumber : PySem.W.findIn K (.ref C_InvalidNumber) "__class__" = some (some (.builtin "object.__class__")))
    (i4_InvalidNumber : PySem.W.mroIn K C_InvalidNumber (.type "object") = some true)
    (x_InvalidNumber_value : PySem.W.findIn K (.ref C_InvalidNumber) "value" = some none)
    (n_abs : PySem.W.nsIn K mainGlobals "abs" = some none)
    (n_bool : PySem.W.nsIn K mainGlobals "bool" = some none)
    (n_int : PySem.W.nsIn K mainGlobals "int" = some none)
    (n_isinstance : PySem.W.nsIn K mainGlobals "isinstance" = some none)
    (n_len : PySem.W.nsIn K mainGlobals "len" = some none)
    (n_list : PySem.W.nsIn K mainGlobals "list" = some none)
    (n_range : PySem.W.nsIn K mainGlobals "range" = some none)
    (na_Ratio_top : NoAttr K C_Ratio "top")
    (na_Ratio_bottom : NoAttr K C_Ratio "bottom")
    (sf_Ratio : PySem.W.selfFirst K C_Ratio = true)
    (su_int_Ratio : PySem.W.subIn K (.type "int") (.ref C_Ratio) = some false)
    (su_Ratio_int : PySem.W.subIn K (.ref C_Ratio) (.type "int") = some false)
    (ia_add : PySem.W.findIn K (.type "int") "__add__" = some (some (.builtin "int.__add__")))
    (ir_add : PySem.W.findIn K (.type "int") "__radd__" = some (some (.builtin "int.__radd__")))
    (ia_sub : PySem.W.findIn K (.type "int") "__sub__" = some (some (.builtin "int.__sub__")))
    (ir_sub : PySem.W.findIn K (.type "int") "__rsub__" = some (some (.builtin "int.__rsub__")))
    (ia_mul : PySem.W.findIn K (.type "int") "__mul__" = some (some (.builtin "int.__mul__")))
    (ir_mul : PySem.W.findIn K (.type "int") "__rmul__" = some (some (.builtin "int.__rmul__")))
    (ki_int_Ratio : PySem.W.kitOne K (.type "int") (.ref C_Ratio) = some false)
    (nf_Ratio_int : PySem.W.notFirst K C_Ratio (.type "int") = true)
    : ∃ fd : FuncData, (∀ (s : Shared) (v : Value), BindsTo s fd ⟨[v], []⟩ [(("_law_script" : Str), v)]) ∧ ∀ base : Heap, K.In base → base.Ns mainGlobals mg → FnOk PySem.Challenge.rw_fontgap_k03_ratio_compare_and_round.prog w K mg base CX0 7 fa fd (["_law_script"] : List Str) (sp_law K) := by
  have e := hfa.symm.trans (PySem.W.mg_of X G a_law)
  cases e
  have T : Txt PySem.Challenge.rw_fontgap_k03_ratio_compare_and_round.prog K mg { f_is_integer := f_is_integer, d_is_integer := PySem.W.fnOf "is_integer" "is_integer" (defArgs s_is_integer) (defBody s_is_integer) (defScope s_is_integer) .none kV_is_integer dc_is_integer pm_is_integer an_is_integer cd_is_integer ct_is_integer, f_greatest_divisor := f_greatest_divisor, d_greatest_divisor := PySem.W.fnOf "greatest_divisor" "greatest_divisor" (defArgs s_greatest_divisor) (defBody s_greatest_divisor) (defScope s_greatest_divisor) .none kV_greatest_divisor dc_greatest_divisor pm_greatest_divisor an_greatest_divisor cd_greatest_divisor ct_greatest_divisor, f_law_bag := f_law_bag, d_law_bag := PySem.W.fnOf "_law_bag" "_law_bag" (defArgs s_law_bag) (defBody s_law_bag) (defScope s_law_bag) .none kV_law_bag dc_law_bag pm_law_bag an_law_bag cd_law_bag ct_law_bag, f_law_take := f_law_take, d_law_take := PySem.W.fnOf "_law_take" "_law_take" (defArgs s_law_take) (defBody s_law_take) (defScope s_law_take) .none kV_law_take dc_law_take pm_law_take an_law_take cd_law_take ct_law_take, f_Ratio_init := f_Ratio_init, d_Ratio_init := PySem.W.fnOf "__init__" "Ratio.__init__" (defArgs s_Ratio_init) (defBody s_Ratio_init) (defScope s_Ratio_init) (.ref tp_Ratio_init) kV_Ratio_init dc_Ratio_init pm_Ratio_init an_Ratio_init cd_Ratio_init ct_Ratio_init, v1_Ratio_init := [.int 1 tk0_Ratio_init], f_as_ratio := f_as_ratio, d_as_ratio := PySem.W.fnOf "as_ratio" "as_ratio" (defArgs s_as_ratio) (defBody s_as_ratio) (defScope s_as_ratio) .none kV_as_ratio dc_as_ratio pm_as_ratio an_as_ratio cd_as_ratio ct_as_ratio, f_Ratio_add := f_Ratio_add, d_Ratio_add := PySem.W.fnOf "__add__" "Ratio.__add__" (defArgs s_Ratio_add) (defBody s_Ratio_add) (defScope s_Ratio_add) .none kV_Ratio_add dc_Ratio_add pm_Ratio_add an_Ratio_add cd_Ratio_add ct_Ratio_add, f_Ratio_sub := f_Ratio_sub, d_Ratio_sub := PySem.W.fnOf "__sub__" "Ratio.__sub__" (defArgs s_Ratio_sub) (defBody s_Ratio_sub) (defScope s_Ratio_sub) .none kV_Ratio_sub dc_Ratio_sub pm_Ratio_sub an_Ratio_sub cd_Ratio_sub ct_Ratio_sub, f_Ratio_mul := f_Ratio_mul, d_Ratio_mul := PySem.W.fnOf "__mul__" "Ratio.__mul__" (defArgs s_Ratio_mul) (defBody s_Ratio_mul) (defScope s_Ratio_mul) .none kV_Ratio_mul dc_Ratio_mul pm_Ratio_mul an_Ratio_mul cd_Ratio_mul ct_Ratio_mul, f_Ratio_neg := f_Ratio_neg, d_Ratio_neg := PySem.W.fnOf "__neg__" "Ratio.__neg__" (defArgs s_Ratio_neg) (defBody s_Ratio_neg) (defScope s_Ratio_neg) .none kV_Ratio_neg dc_Ratio_neg pm_Ratio_neg an_Ratio_neg cd_Ratio_neg ct_Ratio_neg, f_Ratio_abs := f_Ratio_abs, d_Ratio_abs := PySem.W.fnOf "__abs__" "Ratio.__abs__" (defArgs s_Ratio_abs) (defBody s_Ratio_abs) (defScope s_Ratio_abs) .none kV_Ratio_abs dc_Ratio_abs pm_Ratio_abs an_Ratio_abs cd_Ratio_abs ct_Ratio_abs, f_Ratio_radd := f_Ratio_radd, d_Ratio_radd := PySem.W.fnOf "__radd__" "Ratio.__radd__" (defArgs s_Ratio_radd) (defBody s_Ratio_radd) (defScope s_Ratio_radd) .none kV_Ratio_radd dc_Ratio_radd pm_Ratio_radd an_Ratio_radd cd_Ratio_radd ct_Ratio_radd, f_Ratio_rmul := f_Ratio_rmul, d_Ratio_rmul := PySem.W.fnOf "__rmul__" "Ratio.__rmul__" (defArgs s_Ratio_rmul) (defBody s_Ratio_rmul) (defScope s_Ratio_rmul) .none kV_Ratio_rmul dc_Ratio_rmul pm_Ratio_rmul an_Ratio_rmul cd_Ratio_rmul ct_Ratio_rmul, f_Ratio_rsub := f_Ratio_rsub, d_Ratio_rsub := PySem.W.fnOf "__rsub__" "Ratio.__rsub__" (defArgs s_Ratio_rsub) (defBody s_Ratio_rsub) (defScope s_Ratio_rsub) .none kV_Ratio_rsub dc_Ratio_rsub pm_Ratio_rsub an_Ratio_rsub cd_Ratio_rsub ct_Ratio_rsub, f_Ratio_eq := f_Ratio_eq, d_Ratio_eq := PySem.W.fnOf "__eq__" "Ratio.__eq__" (defArgs s_Ratio_eq) (defBody s_Ratio_eq) (defScope s_Ratio_eq) .none kV_Ratio_eq dc_Ratio_eq pm_Ratio_eq an_Ratio_eq cd_Ratio_eq ct_Ratio_eq, f_Ratio_compare := f_Ratio_compare, d_Ratio_compare := PySem.W.fnOf "compare" "Ratio.compare" (defArgs s_Ratio_compare) (defBody s_Ratio_compare) (defScope s_Ratio_compare) .none kV_Ratio_compare dc_Ratio_compare pm_Ratio_compare an_Ratio_compare cd_Ratio_compare ct_Ratio_compare, f_Ratio_floor := f_Ratio_floor, d_Ratio_floor := PySem.W.fnOf "floor" "Ratio.floor" (defArgs s_Ratio_floor) (defBody s_Ratio_floor) (defScope s_Ratio_floor) .none kV_Ratio_floor dc_Ratio_floor pm_Ratio_floor an_Ratio_floor cd_Ratio_floor ct_Ratio_floor, f_Ratio_ceiling := f_Ratio_ceiling, d_Ratio_ceiling := PySem.W.fnOf "ceiling" "Ratio.ceiling" (defArgs s_Ratio_ceiling) (defBody s_Ratio_ceiling) (defScope s_Ratio_ceiling) .none kV_Ratio_ceiling dc_Ratio_ceiling pm_Ratio_ceiling an_Ratio_ceiling cd_Ratio_ceiling ct_Ratio_ceiling, f_law_int := f_law_int, d_law_int := PySem.W.fnOf "_law_int" "_law_int" (defArgs s_law_int) (defBody s_law_int) (defScope s_law_int) .none kV_law_int dc_law_int pm_law_int an_law_int cd_law_int ct_law_int, f_law_is := f_law_is, d_law_is := PySem.W.fnOf "_law_is" "_law_is" (defArgs s_law_is) (defBody s_law_is) (defScope s_law_is) .none kV_law_is dc_law_is pm_law_is an_law_is cd_law_is ct_law_is, f_law_lowest := f_law_lowest, d_law_lowest := PySem.W.fnOf "_law_lowest" "_law_lowest" (defArgs s_law_lowest) (defBody s_law_lowest) (defScope s_law_lowest) .none kV_law_lowest dc_law_lowest pm_law_lowest an_law_lowest cd_law_lowest ct_law_lowest, f_law_fraction := f_law_fraction, d_law_fraction := PySem.W.fnOf "_law_fraction" "_law_fraction" (defArgs s_law_fraction) (defBody s_law_fraction) (defScope s_law_fraction) .none kV_law_fraction dc_law_fraction pm_law_fraction an_law_fraction cd_law_fraction ct_law_fraction, f_law_sign := f_law_sign, d_law_sign := PySem.W.fnOf "_law_sign" "_law_sign" (defArgs s_law_sign) (defBody s_law_sign) (defScope s_law_sign) .none kV_law_sign dc_law_sign pm_law_sign an_law_sign cd_law_sign ct_law_sign, f_law := fa, d_law := PySem.W.fnOf "law" "law" (defArgs s_law) (defBody s_law) (defScope s_law) .none kV_law dc_law pm_law an_law cd_law ct_law, C_Ratio := C_Ratio, C_InvalidNumber := C_InvalidNumber, i_InvalidNumber := i_InvalidNumber, c_InvalidNumber := c_InvalidNumber, k_InvalidNumber := k_InvalidNumber } :=
    { F_is_integer := fun_mk (st := s_is_integer) l_is_integer q_is_integer k_is_integer,
      B_is_integer := (fun_mk (st := s_is_integer) l_is_integer q_is_integer k_is_integer).binds (fun _ _ _ _ _ _ us hl => match us, hl with | [_], _ => rfl),
      g_is_integer := PySem.W.mg_of X G a_is_integer,
      k_is_integer := k_is_integer,
      F_greatest_divisor := fun_mk (st := s_greatest_divisor) l_greatest_divisor q_greatest_divisor k_greatest_divisor,
      B_greatest_divisor := (fun_mk (st := s_greatest_divisor) l_greatest_divisor q_greatest_divisor k_greatest_divisor).binds (fun _ _ _ _ _ _ us hl => match us, hl with | [_, _], _ => rfl),
      g_greatest_divisor := PySem.W.mg_of X G a_greatest_divisor,
      k_greatest_divisor := k_greatest_divisor,
      F_law_bag := fun_mk (st := s_law_bag) l_law_bag q_law_bag k_law_bag,
      B_law_bag := (fun_mk (st := s_law_bag) l_law_bag q_law_bag k_law_bag).binds (fun _ _ _ _ _ _ us hl => match us, hl with | [_], _ => rfl),
      g_law_bag := PySem.W.mg_of X G a_law_bag,
      k_law_bag := k_law_bag,
      F_law_take := fun_mk (st := s_law_take) l_law_take q_law_take k_law_take,
      B_law_take := (fun_mk (st := s_law_take) l_law_take q_law_take k_law_take).binds (fun _ _ _ _ _ _ us hl => match us, hl with | [_, _], _ => rfl),
      g_law_take := PySem.W.mg_of X G a_law_take,
      k_law_take := k_law_take,
      F_Ratio_init := ⟨⟨_, _, _, _, _, _, _, _, _, _, rfl, l_Ratio_init, q_Ratio_init, .inr ⟨by simp, _, _, _, _, rfl, t_Ratio_init, rfl, (.cons ⟨_, rfl⟩ .nil)⟩, .inl rfl⟩, k_Ratio_init⟩,
      B_Ratio_init := FG.bindsD (its := [.int 1 tk0_Ratio_init]) (ds := []) l_Ratio_init t_Ratio_init (fun us hl => match us, hl with | [_, _, _], _ => ⟨_, rfl, rfl⟩),
      B1_Ratio_init := FG.bindsD (its := [.int 1 tk0_Ratio_init]) (ds := [.int 1 tk0_Ratio_init]) l_Ratio_init t_Ratio_init (fun us hl => match us, hl with | [_, _], _ => ⟨_, rfl, rfl⟩),
      V1_Ratio_init := (.cons ⟨_, rfl⟩ .nil),
      F_as_ratio := fun_mk (st := s_as_ratio) l_as_ratio q_as_ratio k_as_ratio,
      B_as_ratio := (fun_mk (st := s_as_ratio) l_as_ratio q_as_ratio k_as_ratio).binds (fun _ _ _ _ _ _ us hl => match us, hl with | [_], _ => rfl),
      g_as_ratio := PySem.W.mg_of X G a_as_ratio,
      k_as_ratio := k_as_ratio,
      F_Ratio_add := fun_mk (st := s_Ratio_add) l_Ratio_add q_Ratio_add k_Ratio_add,
      B_Ratio_add := (fun_mk (st := s_Ratio_add) l_Ratio_add q_Ratio_add k_Ratio_add).binds (fun _ _ _ _ _ _ us hl => match us, hl with | [_, _], _ => rfl),
      M_Ratio_add := ⟨a_Ratio_add, i_Ratio_add, k_Ratio_add⟩,
      F_Ratio_sub := fun_mk (st := s_Ratio_sub) l_Ratio_sub q_Ratio_sub k_Ratio_sub,
      B_Ratio_sub := (fun_mk (st := s_Ratio_sub) l_Ratio_sub q_Ratio_sub k_Ratio_sub).binds (fun _ _ _ _ _ _ us hl => match us, hl with | [_, _], _ => rfl),
      M_Ratio_sub := ⟨a_Ratio_sub, i_Ratio_sub, k_Ratio_sub⟩,
      F_Ratio_mul := fun_mk (st := s_Ratio_mul) l_Ratio_mul q_Ratio_mul k_Ratio_mul,
      B_Ratio_mul := (fun_mk (st := s_Ratio_mul) l_Ratio_mul q_Ratio_mul k_Ratio_mul).binds (fun _ _ _ _ _ _ us hl => match us, hl with | [_, _], _ => rfl),
      M_Ratio_mul := ⟨a_Ratio_mul, i_Ratio_mul, k_Ratio_mul⟩,
      F_Ratio_neg := fun_mk (st := s_Ratio_neg) l_Ratio_neg q_Ratio_neg k_Ratio_neg,
      B_Ratio_neg := (fun_mk (st := s_Ratio_neg) l_Ratio_neg q_Ratio_neg k_Ratio_neg).binds (fun _ _ _ _ _ _ us hl => match us, hl with | [_], _ => rfl),
      M_Ratio_neg := ⟨a_Ratio_neg, i_Ratio_neg, k_Ratio_neg⟩,
      F_Ratio_abs := fun_mk (st := s_Ratio_abs) l_Ratio_abs q_Ratio_abs k_Ratio_abs,
      B_Ratio_abs := (fun_mk (st := s_Ratio_abs) l_Ratio_abs q_Ratio_abs k_Ratio_abs).binds (fun _ _ _ _ _ _ us hl => match us, hl with | [_], _ => rfl),
      M_Ratio_abs := ⟨a_Ratio_abs, i_Ratio_abs, k_Ratio_abs⟩,
      F_Ratio_radd := fun_mk (st := s_Ratio_radd) l_Ratio_radd q_Ratio_radd k_Ratio_radd,
      B_Ratio_radd := (fun_mk (st := s_Ratio_radd) l_Ratio_radd q_Ratio_radd k_Ratio_radd).binds (fun _ _ _ _ _ _ us hl => match us, hl with | [_, _], _ => rfl),
      M_Ratio_radd := ⟨a_Ratio_radd, i_Ratio_radd, k_Ratio_radd⟩,
      F_Ratio_rmul := fun_mk (st := s_Ratio_rmul) l_Ratio_rmul q_Ratio_rmul k_Ratio_rmul,
      B_Ratio_rmul := (fun_mk (st := s_Ratio_rmul) l_Ratio_rmul q_Ratio_rmul k_Ratio_rmul).binds (fun _ _ _ _ _ _ us hl => match us, hl with | [_, _], _ => rfl),
      M_Ratio_rmul := ⟨a_Ratio_rmul, i_Ratio_rmul, k_Ratio_rmul⟩,
      F_Ratio_rsub := fun_mk (st := s_Ratio_rsub) l_Ratio_rsub q_Ratio_rsub k_Ratio_rsub,
      B_Ratio_rsub := (fun_mk (st := s_Ratio_rsub) l_Ratio_rsub q_Ratio_rsub k_Ratio_rsub).binds (fun _ _ _ _ _ _ us hl => match us, hl with | [_, _], _ => rfl),
      M_Ratio_rsub := ⟨a_Ratio_rsub, i_Ratio_rsub, k_Ratio_rsub⟩,
      F_Ratio_eq := fun_mk (st := s_Ratio_eq) l_Ratio_eq q_Ratio_eq k_Ratio_eq,
      B_Ratio_eq := (fun_mk (st := s_Ratio_eq) l_Ratio_eq q_Ratio_eq k_Ratio_eq).binds (fun _ _ _ _ _ _ us hl => match us, hl with | [_, _], _ => rfl),
      M_Ratio_eq := ⟨a_Ratio_eq, i_Ratio_eq, k_Ratio_eq⟩,
      F_Ratio_compare := fun_mk (st := s_Ratio_compare) l_Ratio_compare q_Ratio_compare k_Ratio_compare,
      B_Ratio_compare := (fun_mk (st := s_Ratio_compare) l_Ratio_compare q_Ratio_compare k_Ratio_compare).binds (fun _ _ _ _ _ _ us hl => match us, hl with | [_, _], _ => rfl),
      M_Ratio_compare := ⟨a_Ratio_compare, i_Ratio_compare, k_Ratio_compare⟩,
      F_Ratio_floor := fun_mk (st := s_Ratio_floor) l_Ratio_floor q_Ratio_floor k_Ratio_floor,
      B_Ratio_floor := (fun_mk (st := s_Ratio_floor) l_Ratio_floor q_Ratio_floor k_Ratio_floor).binds (fun _ _ _ _ _ _ us hl => match us, hl with | [_], _ => rfl),
      M_Ratio_floor := ⟨a_Ratio_floor, i_Ratio_floor, k_Ratio_floor⟩,
      F_Ratio_ceiling := fun_mk (st := s_Ratio_ceiling) l_Ratio_ceiling q_Ratio_ceiling k_Ratio_ceiling,
      B_Ratio_ceiling := (fun_mk (st := s_Ratio_ceiling) l_Ratio_ceiling q_Ratio_ceiling k_Ratio_ceiling).binds (fun _ _ _ _ _ _ us hl => match us, hl with | [_], _ => rfl),
      M_Ratio_ceiling := ⟨a_Ratio_ceiling, i_Ratio_ceiling, k_Ratio_ceiling⟩,
      F_law_int := fun_mk (st := s_law_int) l_law_int q_law_int k_law_int,
      B_law_int := (fun_mk (st := s_law_int) l_law_int q_law_int k_law_int).binds (fun _ _ _ _ _ _ us hl => match us, hl with | [_], _ => rfl),
      g_law_int := PySem.W.mg_of X G a_law_int,
      k_law_int := k_law_int,
      F_law_is := fun_mk (st := s_law_is) l_law_is q_law_is k_law_is,
      B_law_is := (fun_mk (st := s_law_is) l_law_is q_law_is k_law_is).binds (fun _ _ _ _ _ _ us hl => match us, hl with | [_, _], _ => rfl),
      g_law_is := PySem.W.mg_of X G a_law_is,
      k_law_is := k_law_is,
      F_law_lowest := fun_mk (st := s_law_lowest) l_law_lowest q_law_lowest k_law_lowest,
      B_law_lowest := (fun_mk (st := s_law_lowest) l_law_lowest q_law_lowest k_law_lowest).binds (fun _ _ _ _ _ _ us hl => match us, hl with | [_, _], _ => rfl),
      g_law_lowest := PySem.W.mg_of X G a_law_lowest,
      k_law_lowest := k_law_lowest,
      F_law_fraction := fun_mk (st := s_law_fraction) l_law_fraction q_law_fraction k_law_fraction,
      B_law_fraction := (fun_mk (st := s_law_fraction) l_law_fraction q_law_fraction k_law_fraction).binds (fun _ _ _ _ _ _ us hl => match us, hl with | [_], _ => rfl),
      g_law_fraction := PySem.W.mg_of X G a_law_fraction,
      k_law_fraction := k_law_fraction,
      F_law_sign := fun_mk (st := s_law_sign) l_law_sign q_law_sign k_law_sign,
      B_law_sign := (fun_mk (st := s_law_sign) l_law_sign q_law_sign k_law_sign).binds (fun _ _ _ _ _ _ us hl => match us, hl with | [_], _ => rfl),
      g_law_sign := PySem.W.mg_of X G a_law_sign,
      k_law_sign := k_law_sign,
      F_law := fun_mk (st := s_law) l_law q_law k_law,
      B_law := (fun_mk (st := s_law) l_law q_law k_law).binds (fun _ _ _ _ _ _ us hl => match us, hl with | [_], _ => rfl),
      g_law := PySem.W.mg_of X G a_law,
      k_law := k_law,
      g_Ratio := PySem.W.mg_of X G a_Ratio,
      c_Ratio := ⟨pg_Ratio, hd_Ratio, po_Ratio, sa_Ratio⟩,
      I_Ratio := ⟨i1_Ratio, o2, o3, i4_Ratio⟩,
      M_Ratio := ⟨mk_Ratio, a_Ratio_init, i_Ratio_init, kc_Ratio⟩,
      E_InvalidNumber := { gC := PySem.W.mg_of X G a_InvalidNumber, cls := ⟨_, _, _, _, _, _, _, _, _, _, _, _, _, _, _, L_InvalidNumber, ve_InvalidNumber, al_InvalidNumber⟩, sa := sa_InvalidNumber, ga := ga_InvalidNumber, gg := gg_InvalidNumber, iC := ii_InvalidNumber, tC := ti_InvalidNumber, kC := kc_InvalidNumber, exC := be_InvalidNumber, veC := ev_InvalidNumber, tyC := ty_InvalidNumber, hdC := hd_InvalidNumber, meC := me_InvalidNumber, fn := ⟨_, _, _, _, _, _, _, _, l_InvalidNumber, q_InvalidNumber⟩, code := ⟨_, _, _, _, _, _, lk_InvalidNumber, fl_InvalidNumber, fi_InvalidNumber⟩, cell := ⟨_, _, _, lc_InvalidNumber⟩, opq := oq, sup := PySem.W.mg_none_of X G os, top := by rfl },
      Y_InvalidNumber := y_InvalidNumber,
      X_InvalidNumber := ⟨ga_InvalidNumber, gg_InvalidNumber, be_InvalidNumber, hd_InvalidNumber, i1_InvalidNumber, o2, o3, i4_InvalidNumber⟩,
      x_InvalidNumber_value := x_InvalidNumber_value,
      n_abs := PySem.W.mg_none_of X G n_abs,
      n_bool := PySem.W.mg_none_of X G n_bool,
      n_int := PySem.W.mg_none_of X G n_int,
      n_isinstance := PySem.W.mg_none_of X G n_isinstance,
      n_len := PySem.W.mg_none_of X G n_len,
      n_list := PySem.W.mg_none_of X G n_list,
      n_range := PySem.W.mg_none_of X G n_range,
      na_Ratio_top := na_Ratio_top,
      na_Ratio_bottom := na_Ratio_bottom,
      sf_Ratio := sf_Ratio,
      su_int_Ratio := su_int_Ratio,
      su_Ratio_int := su_Ratio_int,
      ia_add := ia_add,
      ir_add := ir_add,
      ia_sub := ia_sub,
      ir_sub := ir_sub,
      ia_mul := ia_mul,
      ir_mul := ir_mul,
      ki_int_Ratio := ki_int_Ratio,
      nf_Ratio_int := nf_Ratio_int }
  exact ⟨_, fun s v => .of_eq rfl, fun base _ _ => ok_law T⟩
theorem walk {q : Program} {loose : List Str} {XP : (Str → Option Value) → Heap → Prop} {YP : World → Heap → Prop} {d : DefRec} {K : Params → PySem.W.Frag} (hn : PySem.Challenge.rw_fontgap_k03_ratio_compare_and_round.most = some 63) (hdf : d.params.defaults = [])
    (hY : ∀ (w : World) (h : Heap), YP w h → (K w.params).In h)
    (F : ∀ (w : World) (mg : Str → Option Value) (fa : Addr) (h : Heap), (K w.params).In h → h.Ns mainGlobals mg → mg d.name = some (.ref fa) →
      ∃ fd : FuncData, (∀ (s : Shared) (u : Value), BindsTo s fd ⟨[u], []⟩ [(("_law_script" : Str), u)]) ∧ ∀ base : Heap, (K w.params).In base → base.Ns mainGlobals mg → FnOk PySem.Challenge.rw_fontgap_k03_ratio_compare_and_round.prog w (K w.params) mg base CX0 7 fa fd (["_law_script"] : List Str) (sp_law (K w.params))) :
    PySem.W.WalkO q loose XP YP PySem.Challenge.rw_fontgap_k03_ratio_compare_and_round.row.toRowW d [] (fun f vs => PySem.call f vs) :=
  L2.walk_of (n := 63) (k := 7) (x := "_law_script") (CX := fun _ => CX0) (sp := fun w => sp_law (K w.params)) hn (by decide) hdf ⟨rfl, by decide, by decide⟩ hY F (fun _ _ a ns hl _ hS => ⟨_, rfl, a, ns, rfl, hS, hl, fun _ => rfl⟩) fun _ _ _ _ _ z => z
end FG
open PySem PySem.W PyProof.Rows
set_option maxRecDepth 100000 in
set_option maxHeartbeats 0 in
theorem PySem.Challenge.cw_fontgap_k03_ratio_compare_and_round_holds : PySem.Challenge.rw_fontgap_k03_ratio_compare_and_round.Holds := by
  w_on; o_law; k_head; (case hw => w_witness2)
  k_fill
  refine FG.walk rfl rfl (fun w h Y => PySem.W.kIn_of Y) ?F
  case F =>
    intro w mg fa h KX G hmg
    refine' FG.all_mk KX G hmg ?a_Ratio ?a_is_integer ?l_is_integer ?q_is_integer ?k_is_integer ?a_greatest_divisor ?l_greatest_divisor ?q_greatest_divisor ?k_greatest_divisor ?a_law_bag ?l_law_bag ?q_law_bag ?k_law_bag ?a_law_take ?l_law_take ?q_law_take ?k_law_take ?a_Ratio_init ?i_Ratio_init ?l_Ratio_init ?q_Ratio_init ?k_Ratio_init ?t_Ratio_init ?a_as_ratio ?l_as_ratio ?q_as_ratio ?k_as_ratio ?a_Ratio_add ?i_Ratio_add ?l_Ratio_add ?q_Ratio_add ?k_Ratio_add ?a_Ratio_sub ?i_Ratio_sub ?l_Ratio_sub ?q_Ratio_sub ?k_Ratio_sub ?a_Ratio_mul ?i_Ratio_mul ?l_Ratio_mul ?q_Ratio_mul ?k_Ratio_mul ?a_Ratio_neg ?i_Ratio_neg ?l_Ratio_neg ?q_Ratio_neg ?k_Ratio_neg ?a_Ratio_abs ?i_Ratio_abs ?l_Ratio_abs ?q_Ratio_abs ?k_Ratio_abs ?a_Ratio_radd ?i_Ratio_radd ?l_Ratio_radd ?q_Ratio_radd ?k_Ratio_radd ?a_Ratio_rmul ?i_Ratio_rmul ?l_Ratio_rmul ?q_Ratio_rmul ?k_Ratio_rmul ?a_Ratio_rsub ?i_Ratio_rsub ?l_Ratio_rsub ?q_Ratio_rsub ?k_Ratio_rsub ?a_Ratio_eq ?i_Ratio_eq ?l_Ratio_eq ?q_Ratio_eq ?k_Ratio_eq ?a_Ratio_compare ?i_Ratio_compare ?l_Ratio_compare ?q_Ratio_compare ?k_Ratio_compare ?a_Ratio_floor ?i_Ratio_floor ?l_Ratio_floor ?q_Ratio_floor ?k_Ratio_floor ?a_Ratio_ceiling ?i_Ratio_ceiling ?l_Ratio_ceiling ?q_Ratio_ceiling ?k_Ratio_ceiling ?a_law_int ?l_law_int ?q_law_int ?k_law_int ?a_law_is ?l_law_is ?q_law_is ?k_law_is ?a_law_lowest ?l_law_lowest ?q_law_lowest ?k_law_lowest ?a_law_fraction ?l_law_fraction ?q_law_fraction ?k_law_fraction ?a_law_sign ?l_law_sign ?q_law_sign ?k_law_sign ?a_law ?l_law ?q_law ?k_law ?pg_Ratio ?hd_Ratio ?po_Ratio ?sa_Ratio ?i1_Ratio ?i4_Ratio ?mk_Ratio ?kc_Ratio ?o2 ?o3 ?oq ?os ?a_InvalidNumber ?L_InvalidNumber ?ve_InvalidNumber ?al_InvalidNumber ?sa_InvalidNumber ?ga_InvalidNumber ?gg_InvalidNumber ?ii_InvalidNumber ?ti_InvalidNumber ?kc_InvalidNumber ?be_InvalidNumber ?ev_InvalidNumber ?ty_InvalidNumber ?hd_InvalidNumber ?me_InvalidNumber ?l_InvalidNumber ?q_InvalidNumber ?lk_InvalidNumber ?fl_InvalidNumber ?fi_InvalidNumber ?lc_InvalidNumber ?i1_InvalidNumber ?i4_InvalidNumber ?x_InvalidNumber_value ?n_abs ?n_bool ?n_int ?n_isinstance ?n_len ?n_list ?n_range ?na_Ratio_top ?na_Ratio_bottom ?sf_Ratio ?su_int_Ratio ?su_Ratio_int ?ia_add ?ir_add ?ia_sub ?ir_sub ?ia_mul ?ir_mul ?ki_int_Ratio ?nf_Ratio_int
    (case a_Ratio => first | k_is | rfl)
    (case a_is_integer => first | k_is | rfl)
    (case l_is_integer => first | k_is | rfl)
    (case q_is_integer => first | k_is | rfl)
    (case k_is_integer => first | k_is | rfl)
    (case a_greatest_divisor => first | k_is | rfl)
    (case l_greatest_divisor => first | k_is | rfl)
    (case q_greatest_divisor => first | k_is | rfl)
    (case k_greatest_divisor => first | k_is | rfl)
    (case a_law_bag => first | k_is | rfl)
    (case l_law_bag => first | k_is | rfl)
    (case q_law_bag => first | k_is | rfl)
    (case k_law_bag => first | k_is | rfl)
    (case a_law_take => first | k_is | rfl)
    (case l_law_take => first | k_is | rfl)
    (case q_law_take => first | k_is | rfl)
    (case k_law_take => first | k_is | rfl)
    (case a_Ratio_init => first | k_is | rfl)
    (case i_Ratio_init => first | k_is | rfl)
    (case l_Ratio_init => first | k_is | rfl)
    (case q_Ratio_init => first | k_is | rfl)
    (case k_Ratio_init => first | k_is | rfl)
    (case t_Ratio_init => first | k_is | rfl)
    (case a_as_ratio => first | k_is | rfl)
    (case l_as_ratio => first | k_is | rfl)
    (case q_as_ratio => first | k_is | rfl)
    (case k_as_ratio => first | k_is | rfl)
    (case a_Ratio_add => first | k_is | rfl)
    (case i_Ratio_add => first | k_is | rfl)
    (case l_Ratio_add => first | k_is | rfl)
    (case q_Ratio_add => first | k_is | rfl)
    (case k_Ratio_add => first | k_is | rfl)
    (case a_Ratio_sub => first | k_is | rfl)
    (case i_Ratio_sub => first | k_is | rfl)
    (case l_Ratio_sub => first | k_is | rfl)
    (case q_Ratio_sub => first | k_is | rfl)
    (case k_Ratio_sub => first | k_is | rfl)
    (case a_Ratio_mul => first | k_is | rfl)
    (case i_Ratio_mul => first | k_is | rfl)
    (case l_Ratio_mul => first | k_is | rfl)
    (case q_Ratio_mul => first | k_is | rfl)
    (case k_Ratio_mul => first | k_is | rfl)
    (case a_Ratio_neg => first | k_is | rfl)
    (case i_Ratio_neg => first | k_is | rfl)
    (case l_Ratio_neg => first | k_is | rfl)
    (case q_Ratio_neg => first | k_is | rfl)
    (case k_Ratio_neg => first | k_is | rfl)
    (case a_Ratio_abs => first | k_is | rfl)
    (case i_Ratio_abs => first | k_is | rfl)
    (case l_Ratio_abs => first | k_is | rfl)
    (case q_Ratio_abs => first | k_is | rfl)
    (case k_Ratio_abs => first | k_is | rfl)
    (case a_Ratio_radd => first | k_is | rfl)
    (case i_Ratio_radd => first | k_is | rfl)
    (case l_Ratio_radd => first | k_is | rfl)
    (case q_Ratio_radd => first | k_is | rfl)
    (case k_Ratio_radd => first | k_is | rfl)
    (case a_Ratio_rmul => first | k_is | rfl)
    (case i_Ratio_rmul => first | k_is | rfl)
    (case l_Ratio_rmul => first | k_is | rfl)
    (case q_Ratio_rmul => first | k_is | rfl)
    (case k_Ratio_rmul => first | k_is | rfl)
    (case a_Ratio_rsub => first | k_is | rfl)
    (case i_Ratio_rsub => first | k_is | rfl)
    (case l_Ratio_rsub => first | k_is | rfl)
    (case q_Ratio_rsub => first | k_is | rfl)
    (case k_Ratio_rsub => first | k_is | rfl)
    (case a_Ratio_eq => first | k_is | rfl)
    (case i_Ratio_eq => first | k_is | rfl)
    (case l_Ratio_eq => first | k_is | rfl)
    (case q_Ratio_eq => first | k_is | rfl)
    (case k_Ratio_eq => first | k_is | rfl)
    (case a_Ratio_compare => first | k_is | rfl)
    (case i_Ratio_compare => first | k_is | rfl)
    (case l_Ratio_compare => first | k_is | rfl)
    (case q_Ratio_compare => first | k_is | rfl)
    (case k_Ratio_compare => first | k_is | rfl)
    (case a_Ratio_floor => first | k_is | rfl)
    (case i_Ratio_floor => first | k_is | rfl)
    (case l_Ratio_floor => first | k_is | rfl)
    (case q_Ratio_floor => first | k_is | rfl)
    (case k_Ratio_floor => first | k_is | rfl)
    (case a_Ratio_ceiling => first | k_is | rfl)
    (case i_Ratio_ceiling => first | k_is | rfl)
    (case l_Ratio_ceiling => first | k_is | rfl)
    (case q_Ratio_ceiling => first | k_is | rfl)
    (case k_Ratio_ceiling => first | k_is | rfl)
    (case a_law_int => first | k_is | rfl)
    (case l_law_int => first | k_is | rfl)
    (case q_law_int => first | k_is | rfl)
    (case k_law_int => first | k_is | rfl)
    (case a_law_is => first | k_is | rfl)
    (case l_law_is => first | k_is | rfl)
    (case q_law_is => first | k_is | rfl)
    (case k_law_is => first | k_is | rfl)
    (case a_law_lowest => first | k_is | rfl)
    (case l_law_lowest => first | k_is | rfl)
    (case q_law_lowest => first | k_is | rfl)
    (case k_law_lowest => first | k_is | rfl)
    (case a_law_fraction => first | k_is | rfl)
    (case l_law_fraction => first | k_is | rfl)
    (case q_law_fraction => first | k_is | rfl)
    (case k_law_fraction => first | k_is | rfl)
    (case a_law_sign => first | k_is | rfl)
    (case l_law_sign => first | k_is | rfl)
    (case q_law_sign => first | k_is | rfl)
    (case k_law_sign => first | k_is | rfl)
    (case a_law => first | k_is | rfl)
    (case l_law => first | k_is | rfl)
    (case q_law => first | k_is | rfl)
    (case k_law => first | k_is | rfl)
    (case pg_Ratio => first | k_is | rfl)
    (case hd_Ratio => first | k_is | rfl)
    (case po_Ratio => first | k_is | rfl)
    (case sa_Ratio => first | k_is | rfl)
    (case i1_Ratio => first | k_is | rfl)
    (case i4_Ratio => first | k_is | rfl)
    (case mk_Ratio => first | k_is | rfl)
    (case kc_Ratio => first | k_is | rfl)
    (case o2 => first | k_is | rfl)
    (case o3 => first | k_is | rfl)
    (case oq => first | k_is | rfl)
    (case os => first | k_is | rfl)
    (case a_InvalidNumber => first | k_is | rfl)
    (case L_InvalidNumber => first | k_is | rfl)
    (case ve_InvalidNumber => decide +kernel)
    (case al_InvalidNumber => first | k_is | rfl)
    (case sa_InvalidNumber => first | k_is | rfl)
    (case ga_InvalidNumber => first | k_is | rfl)
    (case gg_InvalidNumber => first | k_is | rfl)
    (case ii_InvalidNumber => first | k_is | rfl)
    (case ti_InvalidNumber => first | k_is | rfl)
    (case kc_InvalidNumber => first | k_is | rfl)
    (case be_InvalidNumber => first | k_is | rfl)
    (case ev_InvalidNumber => first | k_is | rfl)
    (case ty_InvalidNumber => first | k_is | rfl)
    (case hd_InvalidNumber => first | k_is | rfl)
    (case me_InvalidNumber => first | k_is | rfl)
    (case l_InvalidNumber => first | k_is | rfl)
    (case q_InvalidNumber => first | k_is | rfl)
    (case lk_InvalidNumber => first | k_is | rfl)
    (case fl_InvalidNumber => rfl)
    (case fi_InvalidNumber => decide +kernel)
    (case lc_InvalidNumber => first | k_is | rfl)
    (case i1_InvalidNumber => first | k_is | rfl)
    (case i4_InvalidNumber => first | k_is | rfl)
    (case x_InvalidNumber_value => first | k_is | rfl)
    (case n_abs => first | k_is | rfl)
    (case n_bool => first | k_is | rfl)
    (case n_int => first | k_is | rfl)
    (case n_isinstance => first | k_is | rfl)
    (case n_len => first | k_is | rfl)
    (case n_list => first | k_is | rfl)
    (case n_range => first | k_is | rfl)
    (case na_Ratio_top => first | k_is | rfl)
    (case na_Ratio_bottom => first | k_is | rfl)
    (case sf_Ratio => first | k_is | rfl)
    (case su_int_Ratio => first | k_is | rfl)
    (case su_Ratio_int => first | k_is | rfl)
    (case ia_add => first | k_is | rfl)
    (case ir_add => first | k_is | rfl)
    (case ia_sub => first | k_is | rfl)
    (case ir_sub => first | k_is | rfl)
    (case ia_mul => first | k_is | rfl)
    (case ir_mul => first | k_is | rfl)
    (case ki_int_Ratio => first | k_is | rfl)
    (case nf_Ratio_int => first | k_is | rfl)
