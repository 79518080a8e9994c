import PyProof.Rows.All
import Wide.All
import OpenK.AllK
import Wide.FinOn
import KE.KExcSuper
import HandS.ForMost
import HandS.ForExc
import HandS.ExcInit
import HandS.ExcField
import HandS.IsInst
import HandS.ExcIs
import HandS.TryMany
import HandS.Wide
import HandS.Defaults
import HandS.CallSlots
import HandS.Flow
import HandS.Steps
import HandS.WideBits
import HandS.Evl
import KE.KExcIs
import PySem.Challenge.RW_fontgap_k01_ratio_in_lowest_terms
set_option Elab.async false
set_option linter.all false
set_option maxRecDepth 100000
set_option maxHeartbeats 4000000
namespace FG
/-! plain mathematics: Euclid's steps, lowest terms -/
/-- one step of the law's loop -/
def eStep (p : Int × Int) : Int × Int := if p.2 > 0 then (p.2, p.1 % p.2) else p
def eIter : Nat → Int × Int → Int × Int
  | 0, p => p
  | n + 1, p => eStep (eIter n p)
theorem eStep_nonneg {p : Int × Int} (h1 : 0 ≤ p.1) (h2 : 0 ≤ p.2) : 0 ≤ (eStep p).1 ∧ 0 ≤ (eStep p).2 := by
  unfold eStep
  split
  · rename_i h
    exact ⟨h2, Int.emod_nonneg _ (by omega)⟩
  · exact ⟨h1, h2⟩
theorem eStep_gcd {p : Int × Int} : Int.gcd (eStep p).1 (eStep p).2 = Int.gcd p.1 p.2 := by
  unfold eStep
  split
  · show Int.gcd p.2 (p.1 % p.2) = Int.gcd p.1 p.2
    have e : p.1 / p.2 * p.2 + p.1 % p.2 = p.1 := Int.ediv_mul_add_emod _ _
    have q := Int.gcd_mul_right_add_left p.2 (p.1 % p.2) (p.1 / p.2)
    rw [e] at q
    rw [Int.gcd_comm p.2, q]
  · rfl
theorem eIter_gcd (n : Nat) (p : Int × Int) : Int.gcd (eIter n p).1 (eIter n p).2 = Int.gcd p.1 p.2 := by
  induction n with
  | zero => rfl
  | succ n ih => exact eStep_gcd.trans ih
theorem eIter_nonneg (n : Nat) {p : Int × Int} (h1 : 0 ≤ p.1) (h2 : 0 ≤ p.2) : 0 ≤ (eIter n p).1 ∧ 0 ≤ (eIter n p).2 := by
  induction n with
  | zero => exact ⟨h1, h2⟩
  | succ n ih => exact eStep_nonneg ih.1 ih.2
/-- the bound of the second part: two steps halve it -/
theorem eStep_two {p : Int × Int} (h1 : 0 ≤ p.1) (h2 : 0 ≤ p.2) : 2 * (eStep (eStep p)).2 ≤ p.2 := by
  by_cases h : p.2 > 0
  · have e1 : eStep p = (p.2, p.1 % p.2) := if_pos h
    have m0 : 0 ≤ p.1 % p.2 := Int.emod_nonneg _ (by omega)
    have m1 : p.1 % p.2 < p.2 := Int.emod_lt_of_pos _ h
    rw [e1]
    by_cases h' : p.1 % p.2 > 0
    · have e2 : eStep (p.2, p.1 % p.2) = (p.1 % p.2, p.2 % (p.1 % p.2)) := if_pos h'
      rw [e2]
      show 2 * (p.2 % (p.1 % p.2)) ≤ p.2
      generalize hr : p.1 % p.2 = r at *
      have k0 : 0 ≤ p.2 % r := Int.emod_nonneg _ (by omega)
      have k1 : p.2 % r < r := Int.emod_lt_of_pos _ h'
      have k2 : p.2 / r * r + p.2 % r = p.2 := Int.ediv_mul_add_emod _ _
      have k3 : 1 ≤ p.2 / r := by
        have := Int.le_ediv_of_mul_le h' (show 1 * r ≤ p.2 by omega)
        exact this
      have k4 : r ≤ p.2 / r * r := by
        have := Int.mul_le_mul_of_nonneg_right k3 (show 0 ≤ r by omega)
        omega
      omega
    · have e2 : eStep (p.2, p.1 % p.2) = (p.2, p.1 % p.2) := if_neg h'
      rw [e2]
      show 2 * (p.1 % p.2) ≤ p.2
      omega
  · have e1 : eStep p = p := if_neg h
    rw [e1, e1]
    omega
theorem eIter_add (m n : Nat) (p : Int × Int) : eIter (m + n) p = eIter m (eIter n p) := by
  induction m with
  | zero => rw [Nat.zero_add]; rfl
  | succ m ih =>
    rw [Nat.succ_add]
    show eStep (eIter (m + n) p) = eStep (eIter m (eIter n p))
    rw [ih]
theorem eIter_small (j : Nat) : ∀ {p : Int × Int}, 0 ≤ p.1 → 0 ≤ p.2 → p.2 < 2 ^ j → (eIter (2 * j) p).2 = 0 := by
  induction j with
  | zero =>
    intro p h1 h2 h
    have e : (2 : Int) ^ 0 = 1 := by decide
    rw [e] at h
    show p.2 = 0
    omega
  | succ j ih =>
    intro p h1 h2 h
    have e : 2 * (j + 1) = 2 * j + 2 := by omega
    rw [e, eIter_add]
    have q := eIter_nonneg 2 h1 h2
    have t : 2 * (eIter 2 p).2 ≤ p.2 := eStep_two h1 h2
    have pw : (2 : Int) ^ (j + 1) = 2 ^ j * 2 := Int.pow_succ ..
    rw [pw] at h
    refine ih q.1 q.2 ?_
    omega
theorem eIter_400 {p : Int × Int} (h1 : 0 ≤ p.1) (h2 : 0 ≤ p.2) (h : p.2 < 2 ^ 200) : eIter 400 p = (((Int.gcd p.1 p.2 : Nat) : Int), (0 : Int)) := by
  have z := eIter_small 200 h1 h2 h
  have g := eIter_gcd 400 p
  have q := eIter_nonneg 400 h1 h2
  have z' : (eIter 400 p).2 = 0 := z
  rw [z', Int.gcd_zero_right] at g
  have f : (eIter 400 p).1 = ((Int.gcd p.1 p.2 : Nat) : Int) := by
    rw [← g]
    omega
  exact Prod.ext f z'
/-- the python abs -/
def pabs (i : Int) : Int := if i < 0 then -i else i
theorem pabs_eq (i : Int) : pabs i = (i.natAbs : Int) := by
  unfold pabs
  split <;> omega
/-- lowest terms, as the program and the law reckon them -/
def sgn (b : Int) (g : Nat) : Int := if b < 0 then -(g : Int) else (g : Int)
def lowT (t b : Int) : Int := t.fdiv (sgn b (Int.gcd t b))
def lowB (t b : Int) : Int := b.fdiv (sgn b (Int.gcd t b))
theorem gcd_pos_of {t b : Int} (h : b ≠ 0) : 0 < Int.gcd t b := Int.gcd_pos_of_ne_zero_right _ h
theorem sgn_ne {t b : Int} (h : b ≠ 0) : sgn b (Int.gcd t b) ≠ 0 := by
  have := gcd_pos_of (t := t) h
  unfold sgn
  split <;> omega
theorem sgn_mul {b f : Int} {g : Nat} (hf : 0 < f) : sgn (b * f) (g * f.natAbs) = sgn b g * f := by
  unfold sgn
  have e : ((g * f.natAbs : Nat) : Int) = (g : Int) * f := by
    rw [Int.natCast_mul]
    have : (f.natAbs : Int) = f := by omega
    rw [this]
  by_cases h : b < 0
  · have : b * f < 0 := Int.mul_neg_of_neg_of_pos h hf
    rw [if_pos h, if_pos this, e, Int.neg_mul]
  · have : ¬ b * f < 0 := by
      have := Int.mul_nonneg (show 0 ≤ b by omega) (show 0 ≤ f by omega)
      omega
    rw [if_neg h, if_neg this, e]
theorem low_mul {t b f : Int} (hb : b ≠ 0) (hf : 0 < f) : lowT (t * f) (b * f) = lowT t b ∧ lowB (t * f) (b * f) = lowB t b := by
  have g : Int.gcd (t * f) (b * f) = Int.gcd t b * f.natAbs := Int.gcd_mul_right ..
  unfold lowT lowB
  rw [g, sgn_mul hf]
  exact ⟨Int.mul_fdiv_mul_of_pos_left _ _ hf, Int.mul_fdiv_mul_of_pos_left _ _ hf⟩
theorem low_one (t : Int) : lowT t 1 = t ∧ lowB t 1 = 1 := by
  have g : Int.gcd t 1 = 1 := Int.gcd_one_right t
  have e : sgn 1 (Int.gcd t 1) = 1 := by rw [g]; rfl
  unfold lowT lowB
  rw [e]
  exact ⟨Int.fdiv_one t, by decide⟩
theorem low_zero {f : Int} (h : 0 < f) : lowT 0 f = 0 ∧ lowB 0 f = 1 := by
  have g : Int.gcd 0 f = f.natAbs := Int.gcd_zero_left f
  have e : sgn f (Int.gcd 0 f) = f := by
    rw [g]
    unfold sgn
    rw [if_neg (by omega)]
    omega
  unfold lowT lowB
  rw [e]
  exact ⟨Int.zero_fdiv f, Int.fdiv_self (by omega)⟩
end FG
/-! own errors below ValueError whose __init__ first calls super().__init__(text) and then stores its parameters -/
namespace FG
open PySem PySem.W PySem.Calls PyProof.Rows PySem.HandSPX

abbrev errFd (qn : Str) (ps : Arguments) (bd : List Stmt) (sc : Scope) (cc : Addr) (kV doc pm : Value) (an : Option Addr) (cd ct : Value) : FuncData :=
  { fnOf "__init__" qn ps bd sc .none kV doc pm an cd ct with closure := [("__class__", cc)] }
/-- what the written part says of such a class at C: its __init__ at fI, the cell of __class__ at cc -/
structure ErrC (P : Program) (K : Frag) (mg : Str → Option Value) (nm qn : Str) (ps : Arguments) (bd : List Stmt) (sc : Scope) (C fI cc cda : Addr) : Prop where
  gC : mg nm = some (.ref C)
  cls : ∃ n1 q N bs bm sn sub ab col dd k0 k1 k2 k3 k5, K.lookup C = some (excClassObj n1 q C N bs bm true sn sub ab col dd k0 k1 k2 k3 k5 "ValueError.__new__") ∧ refsVE bm = true ∧
    alongIn K "__init__" bm = some (some (.builtin "ValueError.__init__"))
  sa : findIn K (.ref C) "__setattr__" = some (some (.builtin "object.__setattr__"))
  ga : findIn K (.ref C) "__getattribute__" = some (some (.builtin "BaseException.__getattribute__"))
  gg : findIn K (.ref C) "__getattr__" = some none
  iC : findIn K (.ref C) "__init__" = some (some (.ref fI))
  tC : typeIn K (.ref fI) = some (.type "function")
  kC : keepIn K (.ref C) = true
  exC : subIn K (.ref C) (.type "BaseException") = some true
  veC : subIn K (.ref C) (.type "ValueError") = some true
  tyC : typeIn K (.ref C) = some (.type "type")
  hdC : hasDictIn K C = true
  meC : mroIn K C (.ref C) = some true
  fn : ∃ (oc : Value) (od : Option Addr) (kV doc pm : Value) (an : Option Addr) (ct : Value) (osl : Array (Option Value)),
    K.lookup fI = some ⟨oc, od, .func (errFd qn ps bd sc cc kV doc pm an (.ref cda) ct), osl⟩ ∧ codeIn K (.ref cda) qn = true
  code : ∃ (cl : Value) (cd : Option Addr) (vs : Array Value) (cs : Array (Option Value)) (file : Str) (tf : Tok), K.lookup cda = some ⟨cl, cd, .fields vs, cs⟩ ∧ vs[2]? = some (.str file tf) ∧ ((P.main.file : Str) == file) = true
  cell : ∃ (cl : Value) (cd : Option Addr) (cs : Array (Option Value)), K.lookup cc = some ⟨cl, cd, .cell (some (.ref C)), cs⟩
  opq : nsIn K cStatics "thirdparty.any" = some none
  sup : mg "super" = none
  top : (P.main.scope.names.lookup ("super" : Str)).isSome = false

/-- the module's names and the built-ins' as they stand -/
structure Names0 (mg : Str → Option Value) (h : Heap) : Prop where
  glob : h.Ns mainGlobals mg
  blt : ∃ mb, h.Ns builtinsNs mb ∧ ∀ x : Str, x ≠ "__name__" → mb x = bootBuiltins x
theorem Names0.keeps {mg : Str → Option Value} {h h' : Heap} (n : Names0 mg h) (k : ∀ b o, h.get? b = some o → h'.get? b = some o) : Names0 mg h' := by
  obtain ⟨g, mb, b1, b2⟩ := n
  exact ⟨g.keeps k, mb, b1.keeps k, b2⟩

/-- super().__init__(text) -/
abbrev supE (p0 p1 p2 p3 p4 : Pos) (msg : Str) (j : Nat) : Expr := .Call (.Attribute (.Call (.Name "super" p0) [] [] p1) "__init__" p2) [.Constant (.str msg) j p3] [] p4
theorem ve_len (v : Value) : [v].length ≤ sizeLine := by
  show 1 ≤ sizeLine
  decide

section
variable {P : Program} {w : World} {A : Around} {E : Value → Shared → Prop} {hh : Heap} {g : Array GenState} {d : Drawn} {tk : Nat} {os : OsState}
/-- the bound ValueError.__init__ is called -/
theorem mw_call {n1 q : Str} {N : Addr} {bs bm : List Value} {hd : Bool} {sn : List Str} {sub : List Value} {ab : Bool} {col : Option Bool} {dd : Option Addr} {k0 k1 k2 k3 k5 : Option Value} {u e t0 C : Addr} {r : List Value} {Q : Value → Shared → Prop}
    (hC : hh.get? C = some (excClassObj n1 q C N bs bm hd sn sub ab col dd k0 k1 k2 k3 k5 "ValueError.__new__")) (he : hh.get? e = some (excO C t0)) (hu : hh.get? u = some (kxs_mw "ValueError.__init__" e)) (hz : r.length ≤ sizeLine)
    (hq : ∀ h' t1, (∀ b o, b ≠ e → hh.get? b = some o → h'.get? b = some o) → h'.get? e = some (excO C t1) → Q .none ⟨h', g, d, tk, os⟩) : wpAny (model P w) A (call (.ref u) r) Q E ⟨hh, g, d, tk, os⟩ := by
  have B := F.excBase_ValueError
  refine wpAny_call (codeAny_of_tree ?_)
  show wpAny _ A.in1 (callAny (.ref u) ⟨r, []⟩) _ _ _
  simp only [callAny]
  refine wpAny_bind (wpAny_load (a := u) hu ?_)
  have c1 : (Value.type "method-wrapper" == Value.type "method" || Value.type "method-wrapper" == Value.type "builtin_function_or_method" || Value.type "method-wrapper" == Value.type "method-wrapper") = true := by decide
  simp only [kxs_mw, c1, if_true]
  refine KFB.if_so (by decide) (wpAny_bind (check_bound_init B.toExcCallFacts hC he rfl (wpAny_bind (wpAny_pure (wpAny_pure ⟨plainId_quiet B.init.plain _, codeAny_builtin B.initEntry ?_⟩)))))
  exact exc_init_tree (cls := .ref C) (t0 := t0) (dv := none) (c2 := .none) (c3 := .none) (b4 := .bool false) he hz fun h' k e' _ => hq h' _ k e'

/-- the statement super().__init__(text) -/
theorem sup_stmt {K : Frag} {mg : Str → Option Value} {nm qn : Str} {ps : Arguments} {bd body : List Stmt} {sc : Scope} {C fI cc cda x t0 L : Addr} {m : Str → Option Value} {msg : Str} {j : Nat} {p0 p1 p2 p3 p4 p5 : Pos} {a0 : Arg} {Q : Flow → Shared → Prop}
    (T : ErrC P K mg nm qn ps bd sc C fI cc cda) (X : K.In hh) (Nm : Names0 mg hh) (hx : hh.get? x = some (excO C t0)) (hn : hh.Ns L m) (hs : m a0.arg = some (.ref x))
    (hp : (ps.posonlyargs ++ ps.args).head? = some a0) (hks : sc.names.lookup ("super" : Str) = some .globalImplicit) (hkc : sc.names.lookup ("__class__" : Str) = some .free) (hka : sc.names.lookup a0.arg = some .local) (hk : sc.kind = .function)
    (hi : interactive (ksEnv qn sc L fI (.ref cda) cc) = false) (hw : swapsWith (supE p0 p1 p2 p3 p4 msg j) none p5.line (ksEnv qn sc L fI (.ref cda) cc) = pure false) {pl : Sem Bool}
    (he : eval (supE p0 p1 p2 p3 p4 msg j) (ksEnv qn sc L fI (.ref cda) cc) = (do
      let ov ← attributeBase (.Call (.Name "super" p0) [] [] p1) "__init__" (ksEnv qn sc L fI (.ref cda) cc) (eval (.Call (.Name "super" p0) [] [] p1) (ksEnv qn sc L fI (.ref cda) cc))
      standAt p2.atName
      let (f, first) ← holding [ov] (getMethod ov "__init__" pl)
      callWith p4 f first (backTo p4 (starEach [.Constant (.str msg) j p3] (ksEnv qn sc L fI (.ref cda) cc))) []))
    (hq : ∀ h' t1 tk', (∀ b o, b ≠ x → hh.get? b = some o → h'.get? b = some o) → h'.get? x = some (excO C t1) → Q .next ⟨h', g, d, tk', os⟩) :
    PySem.wpAt (model P w) A (.func body (ksEnv qn sc L fI (.ref cda) cc)) (exec (.Expr (supE p0 p1 p2 p3 p4 msg j) p5) (ksEnv qn sc L fI (.ref cda) cc)) Q E ⟨hh, g, d, tk, os⟩ := by
  obtain ⟨n1, q, N, bs, bm, sn, sub, ab, col, dd, k0, k1, k2, k3, k5, lC, vm, ai⟩ := T.cls
  obtain ⟨oc, od, kV, doc, pm, an, ct, osl, lf, cdi⟩ := T.fn
  obtain ⟨cl, cd, vs, cs, file, tf, lc, v2, ef⟩ := T.code
  obtain ⟨l1, l2, l3, lcc⟩ := T.cell
  obtain ⟨mb, nb, eb⟩ := Nm.blt
  have hcd : clsIn K C = some { name := n1, bases := bs, mro := .ref C :: bm, ns := N, qualname := q, hasDict := true, slotNames := sn, subclasses := sub, abstract := ab, collection := col, hasDel := false } := by
    unfold clsIn
    rw [lC]
    all_goals rfl
  have hC := X _ _ lC
  have I : InstAt hh x (excO C t0) C none := ⟨hx, rfl, rfl, trivial⟩
  refine ks_wpAt_Expr_any ?_ hi hw
  refine ks_wpAt_MethodCall ?_ he
  refine ks_wpAt_super_base (f := fI) (cc := cda) (ar := a0) hks hkc (by decide) rfl (X _ _ lf) rfl hp rfl (X _ _ lc) rfl v2 ef T.top ?_
  refine ks_loadName_global hk hks (Calls.loadGlobal_builtin Nm.glob T.sup nb ((eb "super" (by decide)).trans (by decide +kernel)) ⟨rfl, ?_⟩)
  refine wpAny_loadName_free (c := cc) (v := .ref C) hk hkc rfl ⟨_, X _ _ lcc, rfl⟩ (wpAny_loadName_local hk hka hn hs ?_)
  refine ks_wpAny_isType_cls hC rfl ⟨rfl, ?_⟩
  refine ks_wpAny_call_super hC rfl hx rfl (fun c z => by cases z) (looks_mroIn X T.meC) fun h1 hso k1' => ?_
  have X1 : K.In h1 := X.keeps k1'
  have I1 : InstAt h1 x (excO C t0) C none := ⟨k1' _ _ hx, rfl, rfl, trivial⟩
  refine kxs_getMethod kxs_ValueError hso (looks_opaque X1 T.opq) (l₀ := .ref C :: bm) (l := bm) ?_ (by simp [List.dropWhile_cons]) X1 ai (I1.type.andThen (looks_subIn X1 T.veC)) (ks_ne X1 I1 hcd) (by decide) ?_
  · exact fun A' Q' E' s' kk qq => wpAny_bind ((looks_clsIn X1 hcd) A' _ E' s' kk (wpAny_pure qq))
  have k2' : ∀ b o, h1.get? b = some o → (h1.push (kxs_mw "ValueError.__init__" x)).get? b = some o := fun b o z => Heap.get?_push_of_some _ z
  have hu : (h1.push (kxs_mw "ValueError.__init__" x)).get? h1.objs.size = some (kxs_mw "ValueError.__init__" x) := Heap.get?_push_at rfl rfl
  refine kxs_callWith (i := "ValueError.__init__") (x := x) (by rfl) (evalArgs_plain ?_)
  refine Calls.spliced_cons (Calls.Constant_str (k := j) (pos := p3) ?_)
  refine Calls.spliced_nil ?_
  refine ⟨hu, ?_⟩
  refine mw_call (k2' _ _ (k1' _ _ hC)) (k2' _ _ (k1' _ _ hx)) hu (ve_len _) fun h' t1 kk e' => hq h' t1 _ (fun b o hb z => kk b o hb (k2' _ _ (k1' _ _ z))) e'

/-- self.f = f, the first one and a further one -/
theorem sto_new {K : Frag} {mg : Str → Option Value} {nm qn : Str} {ps : Arguments} {bd : List Stmt} {sc : Scope} {C fI cc cda x t0 : Addr} {f : Str} {v : Value} {Q : Unit → Shared → Prop} (T : ErrC P K mg nm qn ps bd sc C fI cc cda)
    (X : K.In hh) (hx : hh.get? x = some (excO C t0)) (no : findIn K (.ref C) f = some none)
    (hq : ∀ h' tk' dx, (∀ b o, b ≠ x → hh.get? b = some o → h'.get? b = some o) → hh.objs.size ≤ dx → dx ≠ x → h'.get? x = some { cls := .ref C, dict := some dx, data := .fields #[.ref t0, .none, .none, .none, .bool false, .none] } →
      h'.Ns1 dx (fun y => if y = f then some v else none) → Q () ⟨h', g, d, tk', os⟩) : wpAny (model P w) A (setAttr (.ref x) f v) Q E ⟨hh, g, d, tk, os⟩ := by
  obtain ⟨n1, q, N, bs, bm, sn, sub, ab, col, dd, k0, k1, k2, k3, k5, lC, vm, ai⟩ := T.cls
  have hcd : clsIn K C = some { name := n1, bases := bs, mro := .ref C :: bm, ns := N, qualname := q, hasDict := true, slotNames := sn, subclasses := sub, abstract := ab, collection := col, hasDel := false } := by
    unfold clsIn
    rw [lC]
    all_goals rfl
  have I : InstAt hh x (excO C t0) C none := ⟨hx, rfl, rfl, trivial⟩
  exact set_plain (ox := excO C t0) (od := none) X I T.sa (exc_osa X hx hcd (show refsVE (.ref C :: bm) = true from vm) rfl no fun h' t' dx kk dn de e1 e2 => hq h' t' dx kk dn de e1 e2)
theorem sto_old {K : Frag} {mg : Str → Option Value} {nm qn : Str} {ps : Arguments} {bd : List Stmt} {sc : Scope} {C fI cc cda x t0 dx : Addr} {f f0 : Str} {v v0 : Value} {Q : Unit → Shared → Prop} (T : ErrC P K mg nm qn ps bd sc C fI cc cda)
    (X : K.In hh) (hx : hh.get? x = some { cls := .ref C, dict := some dx, data := .fields #[.ref t0, .none, .none, .none, .bool false, .none] }) (hd : hh.Ns1 dx (fun y => if y = f0 then some v0 else none)) (no : findIn K (.ref C) f = some none)
    (hq : ∀ h' tk', (∀ b o, b ≠ dx → hh.get? b = some o → h'.get? b = some o) → h'.Ns1 dx (fun y => if y = f then some v else if y = f0 then some v0 else none) → Q () ⟨h', g, d, tk', os⟩) : wpAny (model P w) A (setAttr (.ref x) f v) Q E ⟨hh, g, d, tk, os⟩ := by
  obtain ⟨n1, q, N, bs, bm, sn, sub, ab, col, dd, k0, k1, k2, k3, k5, lC, vm, ai⟩ := T.cls
  have hcd : clsIn K C = some { name := n1, bases := bs, mro := .ref C :: bm, ns := N, qualname := q, hasDict := true, slotNames := sn, subclasses := sub, abstract := ab, collection := col, hasDel := false } := by
    unfold clsIn
    rw [lC]
    all_goals rfl
  have hw : Within (fun y => if y = f0 then some v0 else none) [f0] := Within.cons f0 v0 Within.nil
  obtain ⟨oD, _, _, hoD, _, _⟩ := hd.count hw
  refine set_plain (ox := { cls := .ref C, dict := some dx, data := .fields #[.ref t0, .none, .none, .none, .bool false, .none] }) (od := some oD) X ⟨hx, rfl, rfl, hoD⟩ T.sa ?_
  exact OEX.osa_old X hx hd hw (by show 1 ≤ 1000; decide) hcd (show refsVE (.ref C :: bm) = true from vm) rfl no fun h' t' kk e2 => hq h' t' kk e2
end

/-! ### the whole __init__ -/
/-- what the text of an __init__ of one field looks like; L stands for the frame -/
structure Txt1 (qn f msg : Str) (ps : Arguments) (bd : List Stmt) (sc : Scope) : Prop where
  ex : ∃ (p0 p1 p2 p3 p4 p5 q1 q2 q3 q4 : Pos) (j : Nat) (a0 : Arg), bd = [.Expr (supE p0 p1 p2 p3 p4 msg j) p5, .Assign [.Attribute (.Name "self" q1) f q2] (.Name f q3) q4] ∧ (ps.posonlyargs ++ ps.args).head? = some a0 ∧ a0.arg = "self" ∧
    (∀ (L fI cc cda : Addr), interactive (ksEnv qn sc L fI (.ref cda) cc) = false ∧ swapsWith (supE p0 p1 p2 p3 p4 msg j) none p5.line (ksEnv qn sc L fI (.ref cda) cc) = pure false ∧
      swapsWith (.Name f q3) (some (.Attribute (.Name "self" q1) f q2)) q4.line (ksEnv qn sc L fI (.ref cda) cc) = pure false ∧
      ∃ pl : Sem Bool, eval (supE p0 p1 p2 p3 p4 msg j) (ksEnv qn sc L fI (.ref cda) cc) = (do
        let ov ← attributeBase (.Call (.Name "super" p0) [] [] p1) "__init__" (ksEnv qn sc L fI (.ref cda) cc) (eval (.Call (.Name "super" p0) [] [] p1) (ksEnv qn sc L fI (.ref cda) cc))
        standAt p2.atName
        let (f, first) ← holding [ov] (getMethod ov "__init__" pl)
        callWith p4 f first (backTo p4 (starEach [.Constant (.str msg) j p3] (ksEnv qn sc L fI (.ref cda) cc))) []))
  bind : ∀ (cc : Addr) (kV doc pm : Value) (an : Option Addr) (cd ct : Value) (a b : Value), bindArgs (errFd qn ps bd sc cc kV doc pm an cd ct) ⟨[a, b], []⟩ = pure [(("self" : Str), a), (f, b)]
  nself : (f == ("self" : Str)) = false
  ndbg : (f == ("__debug__" : Str)) = false
  ks : sc.names.lookup ("super" : Str) = some .globalImplicit
  kc : sc.names.lookup ("__class__" : Str) = some .free
  k0 : sc.names.lookup ("self" : Str) = some .local
  k1 : sc.names.lookup f = some .local
  cells : ∀ x ∈ sc.names, x.2 ≠ .cell
  kind : sc.kind = .function
  co : sc.isCoroutine = false
  gen : sc.isGenerator = false
structure Txt2 (qn f f2 msg : Str) (ps : Arguments) (bd : List Stmt) (sc : Scope) : Prop where
  ex : ∃ (p0 p1 p2 p3 p4 p5 q1 q2 q3 q4 r1 r2 r3 r4 : Pos) (j : Nat) (a0 : Arg), bd = [.Expr (supE p0 p1 p2 p3 p4 msg j) p5, .Assign [.Attribute (.Name "self" q1) f q2] (.Name f q3) q4, .Assign [.Attribute (.Name "self" r1) f2 r2] (.Name f2 r3) r4] ∧ (ps.posonlyargs ++ ps.args).head? = some a0 ∧ a0.arg = "self" ∧
    (∀ (L fI cc cda : Addr), interactive (ksEnv qn sc L fI (.ref cda) cc) = false ∧ swapsWith (supE p0 p1 p2 p3 p4 msg j) none p5.line (ksEnv qn sc L fI (.ref cda) cc) = pure false ∧
      swapsWith (.Name f q3) (some (.Attribute (.Name "self" q1) f q2)) q4.line (ksEnv qn sc L fI (.ref cda) cc) = pure false ∧
      swapsWith (.Name f2 r3) (some (.Attribute (.Name "self" r1) f2 r2)) r4.line (ksEnv qn sc L fI (.ref cda) cc) = pure false ∧
      ∃ pl : Sem Bool, eval (supE p0 p1 p2 p3 p4 msg j) (ksEnv qn sc L fI (.ref cda) cc) = (do
        let ov ← attributeBase (.Call (.Name "super" p0) [] [] p1) "__init__" (ksEnv qn sc L fI (.ref cda) cc) (eval (.Call (.Name "super" p0) [] [] p1) (ksEnv qn sc L fI (.ref cda) cc))
        standAt p2.atName
        let (f, first) ← holding [ov] (getMethod ov "__init__" pl)
        callWith p4 f first (backTo p4 (starEach [.Constant (.str msg) j p3] (ksEnv qn sc L fI (.ref cda) cc))) []))
  bind : ∀ (cc : Addr) (kV doc pm : Value) (an : Option Addr) (cd ct : Value) (a b c : Value), bindArgs (errFd qn ps bd sc cc kV doc pm an cd ct) ⟨[a, b, c], []⟩ = pure [(("self" : Str), a), (f, b), (f2, c)]
  nself : (f == ("self" : Str)) = false
  nself2 : (f2 == ("self" : Str)) = false
  nff : (f == f2) = false
  ndbg2 : (f2 == ("__debug__" : Str)) = false
  ndbg : (f == ("__debug__" : Str)) = false
  ks : sc.names.lookup ("super" : Str) = some .globalImplicit
  kc : sc.names.lookup ("__class__" : Str) = some .free
  k0 : sc.names.lookup ("self" : Str) = some .local
  k1 : sc.names.lookup f = some .local
  k2 : sc.names.lookup f2 = some .local
  cells : ∀ x ∈ sc.names, x.2 ≠ .cell
  kind : sc.kind = .function
  co : sc.isCoroutine = false
  gen : sc.isGenerator = false
/-- what is left of a made error: its class C, its own dict dx with the fields m -/
structure Made (h h' : Heap) (e C dx : Addr) (m : Str → Option Value) : Prop where
  keep : ∀ b o, h.get? b = some o → h'.get? b = some o
  new : h.objs.size ≤ e
  obj : ∃ oe vs, h'.get? e = some oe ∧ oe.cls = .ref C ∧ oe.dict = some dx ∧ oe.data = .fields vs ∧ vs[1]? = some .none
  dbig : h.objs.size ≤ dx
  dne : dx ≠ e
  ns : h'.Ns1 dx m
section
variable {P : Program} {w : World} {A : Around} {R : Result → Shared → Prop} {hp : Heap} {g : Array GenState} {d : Drawn} {tk : Nat} {os : OsState} {K : Frag} {mg : Str → Option Value} {nm qn f f2 msg : Str} {ps : Arguments} {bd : List Stmt} {sc : Scope} {C fI cc cda : Addr}
theorem init1 {x t0 : Addr} {v : Value} (T : ErrC P K mg nm qn ps bd sc C fI cc cda) (Y : Txt1 qn f msg ps bd sc) (no : findIn K (.ref C) f = some none) (X : K.In hp) (lim : hp.NoLimit) (Nm : Names0 mg hp) (hx : hp.get? x = some (excO C t0)) (nx : K.lookup x = none) (room : A.depth < recursionLimit)
    (hq : ∀ h' tk' t1 dx, (∀ b o, b ≠ x → hp.get? b = some o → h'.get? b = some o) → h'.get? x = some { cls := .ref C, dict := some dx, data := .fields #[.ref t1, .none, .none, .none, .bool false, .none] } → hp.objs.size ≤ dx → dx ≠ x →
      h'.Ns1 dx (fun y => if y = f then some v else none) → R (.ok (.ret .none)) ⟨h', g, d, tk', os⟩) : codeAny (model P w) A (.call (.ref fI) ⟨[.ref x, v], []⟩) R ⟨hp, g, d, tk, os⟩ := by
  obtain ⟨oc, od, kV, doc, pm, an, ct, osl, lf, cdi⟩ := T.fn
  obtain ⟨p0, p1, p2, p3, p4, p5, q1, q2, q3, q4, j, a0, eb, hp0, ea0, ht⟩ := Y.ex
  refine ks_codeAny_call_defAt (s := ⟨hp, g, d, tk, os⟩) (fd := errFd qn ps bd sc cc kV doc pm an (.ref cda) ct) (binds := [(("self" : Str), .ref x), (f, v)]) room (X _ _ lf) rfl lim (codeRec_of X cdi) rfl (BindsTo.of_eq (Y.bind cc kV doc pm an (.ref cda) ct _ _)) Y.cells ?_ (fun h₀ ns k => ?_) Y.co Y.gen Y.kind
  · intro z hz
    rcases List.mem_cons.mp hz with rfl | hz
    · exact Y.k0
    · rcases List.mem_cons.mp hz with rfl | hz
      · exact Y.k1
      · cases hz
  have X0 : K.In h₀ := X.keeps k
  have N0 := Nm.keeps k
  have hx0 := k _ _ hx
  have nself : ¬ f = "self" := fun z => by have := Y.nself; rw [z] at this; exact absurd this (by decide)
  have hs : (fun x_1 : Str => List.lookup x_1 [(("self" : Str), Value.ref x), (f, v)].reverse) "self" = some (.ref x) := by
    show List.lookup ("self" : Str) [(f, v), ("self", Value.ref x)] = _
    have z : (("self" : Str) == f) = false := by
      rw [beq_eq_false_iff_ne]
      exact fun q => nself q.symm
    simp [List.lookup, z]
  have hf : (fun x_1 : Str => List.lookup x_1 [(("self" : Str), Value.ref x), (f, v)].reverse) f = some v := by
    show List.lookup f [(f, v), ("self", Value.ref x)] = _
    simp [List.lookup]
  obtain ⟨hi, hw, hw2, pl, he⟩ := ht hp.objs.size fI cc cda
  subst eb
  have nL : x ≠ hp.objs.size := Nat.ne_of_lt (Heap.lt_size hx)
  show PySem.wpAt (model P w) (A.deeper (ksEnv qn sc hp.objs.size fI (.ref cda) cc)) (.func _ (ksEnv qn sc hp.objs.size fI (.ref cda) cc)) (execs _ (ksEnv qn sc hp.objs.size fI (.ref cda) cc)) _ _ _
  refine ks_wpAt_execs_cons (sup_stmt T X0 N0 hx0 ns (by rw [ea0]; exact hs) hp0 Y.ks Y.kc (by rw [ea0]; exact Y.k0) Y.kind hi hw he fun h1 t1 tk1 k1 e1 => ?_)
  have nsL : h1.Ns hp.objs.size (fun x_1 : Str => List.lookup x_1 [(("self" : Str), Value.ref x), (f, v)].reverse) := ns.at fun o z => k1 _ _ (Ne.symm nL) z
  show PySem.wpAt _ _ _ _ _ _ _
  refine PySem.wpAt_of_wpAny ?_
  refine wpAny_execs_cons (plainObj_wpAny_Assign_Attribute ?_ hw2)
  refine wpAny_Name (wpAny_loadName_local Y.kind Y.k1 nsL hf ?_) Y.ndbg
  refine wpAny_Name (wpAny_loadName_local Y.kind Y.k0 nsL hs ?_) (by decide)
  have X1 : K.In h1 := fun a o z => k1 a o (fun q => by
    rw [q, nx] at z
    cases z) (X0 a o z)
  have big : hp.objs.size < h1.objs.size := nsL.lt
  refine sto_new T X1 e1 no fun h' tk' dx k2 dn de e2 e3 => ?_
  refine wpAny_execs_nil ?_
  refine hq h' tk' t1 dx (fun b o hb z => k2 b o hb (k1 b o hb (k b o z))) e2 (Nat.le_trans (Nat.le_of_lt big) dn) de e3
theorem init2 {x t0 : Addr} {v v2 : Value} (T : ErrC P K mg nm qn ps bd sc C fI cc cda) (Y : Txt2 qn f f2 msg ps bd sc) (no : findIn K (.ref C) f = some none) (no2 : findIn K (.ref C) f2 = some none) (X : K.In hp) (lim : hp.NoLimit) (Nm : Names0 mg hp) (hx : hp.get? x = some (excO C t0)) (nx : K.lookup x = none) (room : A.depth < recursionLimit)
    (hq : ∀ h' tk' t1 dx, (∀ b o, b ≠ x → hp.get? b = some o → h'.get? b = some o) → h'.get? x = some { cls := .ref C, dict := some dx, data := .fields #[.ref t1, .none, .none, .none, .bool false, .none] } → hp.objs.size ≤ dx → dx ≠ x →
      h'.Ns1 dx (fun y => if y = f2 then some v2 else if y = f then some v else none) → R (.ok (.ret .none)) ⟨h', g, d, tk', os⟩) : codeAny (model P w) A (.call (.ref fI) ⟨[.ref x, v, v2], []⟩) R ⟨hp, g, d, tk, os⟩ := by
  obtain ⟨oc, od, kV, doc, pm, an, ct, osl, lf, cdi⟩ := T.fn
  obtain ⟨p0, p1, p2, p3, p4, p5, q1, q2, q3, q4, r1, r2, r3, r4, j, a0, eb, hp0, ea0, ht⟩ := Y.ex
  refine ks_codeAny_call_defAt (s := ⟨hp, g, d, tk, os⟩) (fd := errFd qn ps bd sc cc kV doc pm an (.ref cda) ct) (binds := [(("self" : Str), .ref x), (f, v), (f2, v2)]) room (X _ _ lf) rfl lim (codeRec_of X cdi) rfl (BindsTo.of_eq (Y.bind cc kV doc pm an (.ref cda) ct _ _ _)) Y.cells ?_ (fun h₀ ns k => ?_) Y.co Y.gen Y.kind
  · intro z hz
    rcases List.mem_cons.mp hz with rfl | hz
    · exact Y.k0
    · rcases List.mem_cons.mp hz with rfl | hz
      · exact Y.k1
      · rcases List.mem_cons.mp hz with rfl | hz
        · exact Y.k2
        · cases hz
  have X0 : K.In h₀ := X.keeps k
  have N0 := Nm.keeps k
  have hx0 := k _ _ hx
  have ns1 : (("self" : Str) == f) = false := by
    rw [beq_eq_false_iff_ne]
    exact fun q => absurd Y.nself (by rw [← q]; decide)
  have ns2 : (("self" : Str) == f2) = false := by
    rw [beq_eq_false_iff_ne]
    exact fun q => absurd Y.nself2 (by rw [← q]; decide)
  have hs : (fun x_1 : Str => List.lookup x_1 [(("self" : Str), Value.ref x), (f, v), (f2, v2)].reverse) "self" = some (.ref x) := by
    show List.lookup ("self" : Str) [(f2, v2), (f, v), ("self", Value.ref x)] = _
    simp [List.lookup, ns1, ns2]
  have hf : (fun x_1 : Str => List.lookup x_1 [(("self" : Str), Value.ref x), (f, v), (f2, v2)].reverse) f = some v := by
    show List.lookup f [(f2, v2), (f, v), ("self", Value.ref x)] = _
    simp [List.lookup, Y.nff]
  have hf2 : (fun x_1 : Str => List.lookup x_1 [(("self" : Str), Value.ref x), (f, v), (f2, v2)].reverse) f2 = some v2 := by
    show List.lookup f2 [(f2, v2), (f, v), ("self", Value.ref x)] = _
    simp [List.lookup]
  obtain ⟨hi, hw, hw2, hw3, pl, he⟩ := ht hp.objs.size fI cc cda
  subst eb
  have nL : x ≠ hp.objs.size := Nat.ne_of_lt (Heap.lt_size hx)
  show PySem.wpAt (model P w) (A.deeper (ksEnv qn sc hp.objs.size fI (.ref cda) cc)) (.func _ (ksEnv qn sc hp.objs.size fI (.ref cda) cc)) (execs _ (ksEnv qn sc hp.objs.size fI (.ref cda) cc)) _ _ _
  refine ks_wpAt_execs_cons (sup_stmt T X0 N0 hx0 ns (by rw [ea0]; exact hs) hp0 Y.ks Y.kc (by rw [ea0]; exact Y.k0) Y.kind hi hw he fun h1 t1 tk1 k1 e1 => ?_)
  have nsL : h1.Ns hp.objs.size (fun x_1 : Str => List.lookup x_1 [(("self" : Str), Value.ref x), (f, v), (f2, v2)].reverse) := ns.at fun o z => k1 _ _ (Ne.symm nL) z
  show PySem.wpAt _ _ _ _ _ _ _
  refine PySem.wpAt_of_wpAny ?_
  refine wpAny_execs_cons (plainObj_wpAny_Assign_Attribute ?_ hw2)
  refine wpAny_Name (wpAny_loadName_local Y.kind Y.k1 nsL hf ?_) Y.ndbg
  refine wpAny_Name (wpAny_loadName_local Y.kind Y.k0 nsL hs ?_) (by decide)
  have X1 : K.In h1 := fun a o z => k1 a o (fun q => by
    rw [q, nx] at z
    cases z) (X0 a o z)
  have big : hp.objs.size < h1.objs.size := nsL.lt
  refine sto_new T X1 e1 no fun h2 tk2 dx kk dn de e2 e3 => ?_
  have X2 : K.In h2 := fun a o z => kk a o (fun q => by
    rw [q, nx] at z
    cases z) (X1 a o z)
  have nsL2 : h2.Ns hp.objs.size (fun x_1 : Str => List.lookup x_1 [(("self" : Str), Value.ref x), (f, v), (f2, v2)].reverse) := nsL.at fun o z => kk _ _ (Ne.symm nL) z
  show wpAny _ _ (execs _ _) _ _ _
  refine wpAny_execs_cons (plainObj_wpAny_Assign_Attribute ?_ hw3)
  refine wpAny_Name (wpAny_loadName_local Y.kind Y.k2 nsL2 hf2 ?_) Y.ndbg2
  refine wpAny_Name (wpAny_loadName_local Y.kind Y.k0 nsL2 hs ?_) (by decide)
  have nd : ∀ b o, hp.get? b = some o → b ≠ dx := fun b o z => Nat.ne_of_lt (Nat.lt_of_lt_of_le (Heap.lt_size z) (Nat.le_trans (Nat.le_of_lt big) dn))
  refine sto_old T X2 e2 e3 no2 fun h' tk' k3 e4 => ?_
  refine wpAny_execs_nil ?_
  exact hq h' tk' t1 dx (fun b o hb z => k3 b o (nd b o z) (kk b o hb (k1 b o hb (k b o z)))) (k3 _ _ (Ne.symm de) e2) (Nat.le_trans (Nat.le_of_lt big) dn) de e4
/-- C(v, ..): from what __init__ does -/
theorem made_of {us : List Value} {m : Str → Option Value} (T : ErrC P K mg nm qn ps bd sc C fI cc cda) (X : K.In hp) (lim : hp.NoLimit) (Nm : Names0 mg hp) (hz : us.length ≤ sizeLine)
    (ini : ∀ (A' : Around) (hp' : Heap) (x t0 : Addr) (R' : Result → Shared → Prop), K.In hp' → hp'.NoLimit → Names0 mg hp' → hp'.get? x = some (excO C t0) → K.lookup x = none → A'.depth < recursionLimit →
      (∀ h' tk' t1 dx, (∀ b o, b ≠ x → hp'.get? b = some o → h'.get? b = some o) → h'.get? x = some { cls := .ref C, dict := some dx, data := .fields #[.ref t1, .none, .none, .none, .bool false, .none] } → hp'.objs.size ≤ dx → dx ≠ x →
        h'.Ns1 dx m → R' (.ok (.ret .none)) ⟨h', g, d, tk', os⟩) → codeAny (model P w) A' (.call (.ref fI) ⟨.ref x :: us, []⟩) R' ⟨hp', g, d, tk, os⟩)
    (room : A.depth + 1 < recursionLimit) (hq : ∀ h' tk' e dx, Made hp h' e C dx m → R (.ok (.ret (.ref e))) ⟨h', g, d, tk', os⟩) : codeAny (model P w) A (.call (.ref C) ⟨us, []⟩) R ⟨hp, g, d, tk, os⟩ := by
  obtain ⟨n1, q, N, bs, bm, sn, sub, ab, col, dd, k0, k1, k2, k3, k5, lC, vm, ai⟩ := T.cls
  have k : ∀ b o, hp.get? b = some o → ((hp.push (kdv_tup us)).push (excO C hp.objs.size)).get? b = some o := fun b o z => Heap.get?_push_of_some _ (Heap.get?_push_of_some _ z)
  have hx : ((hp.push (kdv_tup us)).push (excO C hp.objs.size)).get? (hp.objs.size + 1) = some (excO C hp.objs.size) := by heap_get
  have nx : K.lookup (hp.objs.size + 1) = none := by
    cases z : K.lookup (hp.objs.size + 1) with
    | none => rfl
    | some o => exact absurd (Nat.lt_of_succ_lt (Heap.lt_size (X _ _ z))) (Nat.lt_irrefl _)
  refine call_own F.excBase_ValueError (fun Y => refsVE_contains Y bm vm) (X _ _ lC) (looks_findIn X T.iC) (fun self => bind_fn X self T.tC) hz ?_
  refine ini _ _ _ _ _ (X.keeps k) (lim.keeps k) (Nm.keeps k) hx nx (by show A.depth + 1 < recursionLimit; exact room) fun h' tk' t1 dx kk e1 dn de ns => ⟨rfl, ?_⟩
  have sz : ((hp.push (kdv_tup us)).push (excO C hp.objs.size)).objs.size = hp.objs.size + 1 + 1 := by rw [Heap.size_push, Heap.size_push]
  rw [sz] at dn
  exact hq h' tk' _ dx ⟨fun b o z => kk b o (Nat.ne_of_lt (Nat.lt_succ_of_lt (Heap.lt_size z))) (k b o z), Nat.le_succ _, ⟨_, _, e1, rfl, rfl, rfl, rfl⟩, Nat.le_trans (Nat.le_trans (Nat.le_succ _) (Nat.le_succ _)) dn, de, ns⟩
end
end FG
namespace FG
open PySem PySem.Spec PyProof.Rows L2
/-! own errors in the hand layer: making, raising -/
theorem relO1 {f : Str} {v : V} {u : Value} (r : RelV v u) (y : Str) : RelO (List.lookup y [(f, v)]) (if y = f then some u else none) := by
  by_cases h : y = f
  · subst h
    simp [List.lookup, RelO, r]
  · have z : (y == f) = false := by simpa using h
    simp [List.lookup, z, h, RelO]
theorem relO2 {f f2 : Str} {v v2 : V} {u u2 : Value} (nf : (f == f2) = false) (r : RelV v u) (r2 : RelV v2 u2) (y : Str) : RelO (List.lookup y [(f, v), (f2, v2)]) (if y = f2 then some u2 else if y = f then some u else none) := by
  by_cases h2 : y = f2
  · subst h2
    have z : (y == f) = false := by
      rw [beq_eq_false_iff_ne] at nf ⊢
      exact fun q => nf q.symm
    simp [List.lookup, z, RelO, r2]
  · have z2 : (y == f2) = false := by simpa using h2
    by_cases h : y = f
    · subst h
      simp [List.lookup, RelO, r, h2]
    · have z : (y == f) = false := by simpa using h
      simp [List.lookup, z, z2, h, h2, RelO]
section
variable {X : Cx} {nm qn f f2 msg : Str} {ps : Arguments} {bd : List Stmt} {sc : Scope} {C fI cc cda : Addr} {a a2 : Expr} {ta tb : TE} {p pos : Pos} {k : Nat}
/-- what making such an error does to the state: e is new, its own dict d is tracked from now on -/
theorem mkp_of {pins : List (Addr × Obj)} {σ : L2.St} {H1 : Hp} {Q : XK} {hp h' : Heap} {g : Array GenState} {dr : Drawn} {tk tk' : Nat} {os : OsState} {e d : Addr} {m : Str → Option Value} {fs : List (Str × V)}
    (T : ErrC X.prog X.K X.mg nm qn ps bd sc C fI cc cda) (I1 : Inv X pins σ H1 ⟨hp, g, dr, tk, os⟩) (M : Made hp h' e C d m) (rel : ∀ y, RelO (fs.lookup y) (m y))
    (q1 : ∀ d, H1 d = none → Q (.ref C) (some d) (upd H1 d (.xd fs))) : MkP X pins σ Q (.ref e) ⟨h', g, dr, tk', os⟩ := by
  obtain ⟨oe, fv, hoe, hc, hd, hdat, h1⟩ := M.obj
  have hns := M.ns
  obtain ⟨G', g1, g2⟩ := restrict h' fun b => decide (b ≠ e)
  have gk : ∀ b, b ≠ e → G'.get? b = h'.get? b := fun b hb => g1 b (decide_eq_true hb)
  have ge : G'.get? e = none := g2 e (by simp)
  have old : ∀ b o, hp.get? b = some o → G'.get? b = some o := fun b o z => (gk b (Nat.ne_of_lt (Nat.lt_of_lt_of_le (Heap.lt_size z) M.new))).trans (M.keep b o z)
  have ob : ObjOk X.prog X.w (upd H1 d (.xd fs)) G' d (.xd fs) := ⟨_, hns.at (fun o z => (gk d M.dne).trans z), rel⟩
  have J : Inv X pins σ (upd H1 d (.xd fs)) ⟨G', g, dr, tk', os⟩ := I1.laid (t' := tk') old M.dbig ob
  refine ⟨e, oe, fv, ⟨G', g, dr, tk', os⟩, _, .ref C, some d, rfl, J, fun b o z => ?_, ge, hoe, ⟨hc, hd⟩, hdat, h1, ?_, rfl, I1.bare, raises_own T.exC T.tyC, q1 d (I1.hok.fresh M.dbig)⟩
  · have nb : b ≠ e := fun y => by
      have z' : G'.get? b = some o := z
      rw [y, ge] at z'
      cases z'
    exact (gk b nb).symm.trans z
  · rw [upd_ne (Ne.symm M.dne)]
    exact I1.hok.fresh M.new
theorem names_of {pins : List (Addr × Obj)} {σ : L2.St} {H : Hp} {s : Shared} (I : Inv X pins σ H s) : Names0 X.mg s.heap := by
  obtain ⟨mb, b1, b2⟩ := I.mod.blt
  exact ⟨I.mod.glob.keeps I.bk, mb, b1.keeps I.bk, b2⟩
/-- C(e) -/
def tMk1 (C : Addr) (f : Str) (ta : TA) : L2.St → Hp → XK → Prop := fun σ H Q => ta σ H fun vs H1 => ∃ v, vs = [v] ∧ ∀ d, H1 d = none → Q (.ref C) (some d) (upd H1 d (.xd [(f, v)]))
/-- C(e, e2) -/
def tMk2 (C : Addr) (f f2 : Str) (ta : TA) : L2.St → Hp → XK → Prop := fun σ H Q => ta σ H fun vs H1 => ∃ v v2, vs = [v, v2] ∧ ∀ d, H1 d = none → Q (.ref C) (some d) (upd H1 d (.xd [(f, v), (f2, v2)]))
theorem pmk1 {as : List Expr} {ta : TA} (T : ErrC X.prog X.K X.mg nm qn ps bd sc C fI cc cda) (Y : Txt1 qn f msg ps bd sc) (no : PySem.W.findIn X.K (.ref C) f = some none) (hr : Room k X.A) (ha : PA X (a :: as) ta) (hg : Gl X nm := by rfl) (hdb : (nm == ("__debug__" : Str)) = false := by decide)
    (he : starEach (a :: as) X.env = (false, eval a X.env) :: starEach as X.env := by rfl) (hpl : (backTo pos (starEach as X.env)).any (·.1) = false := by rfl) : PMk X (.Call (.Name nm p) (a :: as) [] pos) (tMk1 C f ta) := by
  intro pins s σ H Q I h
  refine wpAny_Call_Name_kw (ld_glob I hg T.gC ?_ hdb)
  refine PySem.W.callWith_K (h₀ := X.base) I.ok.mod.kin T.kC (thn (ha.run pos pins s σ H _ I h) fun us s1 ⟨vs, H1, I1, r1, v, ev, q1⟩ => ⟨I1.kIn, ?_⟩) he hpl
  subst ev
  have Nm := names_of I1
  have lim := I1.nolimit
  have KI := I1.kIn
  cases r1 with
  | @cons _ u1 _ ur rv rn =>
    cases rn
    obtain ⟨hp, g, dr, tk, os⟩ := s1
    exact wpAny_call (made_of (m := fun y => if y = f then some u1 else none) T KI lim Nm (ve_len _) (fun A' hp' x t0 R' x1 x2 x3 x4 x5 x6 x7 => init1 T Y no x1 x2 x3 x4 x5 x6 x7) (by have := hr.dp; omega) fun h' tk' e d M => mkp_of T I1 M (relO1 rv) q1)
theorem two_len (v v' : Value) : [v, v'].length ≤ sizeLine := by
  show 2 ≤ sizeLine
  decide
theorem pmk2 {as : List Expr} {ta : TA} (T : ErrC X.prog X.K X.mg nm qn ps bd sc C fI cc cda) (Y : Txt2 qn f f2 msg ps bd sc) (no : PySem.W.findIn X.K (.ref C) f = some none) (no2 : PySem.W.findIn X.K (.ref C) f2 = some none) (hr : Room k X.A) (ha : PA X (a :: as) ta) (hg : Gl X nm := by rfl) (hdb : (nm == ("__debug__" : Str)) = false := by decide)
    (he : starEach (a :: as) X.env = (false, eval a X.env) :: starEach as X.env := by rfl) (hpl : (backTo pos (starEach as X.env)).any (·.1) = false := by rfl) : PMk X (.Call (.Name nm p) (a :: as) [] pos) (tMk2 C f f2 ta) := by
  intro pins s σ H Q I h
  refine wpAny_Call_Name_kw (ld_glob I hg T.gC ?_ hdb)
  refine PySem.W.callWith_K (h₀ := X.base) I.ok.mod.kin T.kC (thn (ha.run pos pins s σ H _ I h) fun us s1 ⟨vs, H1, I1, r1, v, v2, ev, q1⟩ => ⟨I1.kIn, ?_⟩) he hpl
  subst ev
  have Nm := names_of I1
  have lim := I1.nolimit
  have KI := I1.kIn
  cases r1 with
  | @cons _ u1 _ ur rv rn =>
    cases rn with
    | @cons _ u2 _ ur2 rv2 rn2 =>
      cases rn2
      obtain ⟨hp, g, dr, tk, os⟩ := s1
      exact wpAny_call (made_of (m := fun y => if y = f2 then some u2 else if y = f then some u1 else none) T KI lim Nm (two_len _ _) (fun A' hp' x t0 R' x1 x2 x3 x4 x5 x6 x7 => init2 T Y no no2 x1 x2 x3 x4 x5 x6 x7) (by have := hr.dp; omega) fun h' tk' e d M => mkp_of T I1 M (relO2 Y.nff rv rv2) q1)
theorem xfC_of (T : ErrC X.prog X.K X.mg nm qn ps bd sc C fI cc cda) : XfC X.K C := ⟨T.ga, T.gg, T.exC, T.hdC⟩
end
end FG
namespace FG
open PySem PySem.Spec L2
/-! further rules of the hand layer -/
section
variable {X : Cx}
/-- // by any divisor but 0 below 2 ^ 9000 in size -/
def CDivX (_ j : Int) : Prop := j ≠ 0 ∧ j.natAbs.log2 < 9000
theorem op_fdivX : OpR X (binaryOp .FloorDiv) (rI CDivX fun i j => .int (i.fdiv j)) := opI fun i j _ _ _ _ _ hc q => PyProof.Rows.floordiv_int hc.1 q (.inl (PyProof.noPylong_of_log2 hc.2))
end
theorem divX {i j : Int} {b : Nat} (h : j ≠ 0) (hb : j.natAbs < 2 ^ b) (h0 : 0 < b) (h9 : b ≤ 9000) : CDivX i j := ⟨h, Nat.lt_of_lt_of_le (PySem.Flt.log2_lt_of h0 hb) h9⟩
/-! ### calls that may raise, wished for at the caller's slots -/
section
variable {X : Cx} {CX : CXT} {k : Nat} {f C : Addr} {fd : FuncData} {ps : List Str} {sp : Sp} {dvs : List V} {ds : List Value} {E : L2.St → XK} {x m : Str} {p pos apos : Pos} {e o : Expr} {es : List Expr} {ta : TE} {t : TA}
/-- C(..), its __init__ may raise -/
def tMkS (C : Addr) (sp : Sp) (dvs : List V) (E : L2.St → XK) (t : TA) : TE := fun σ H Q => t σ H fun vs H1 => ∀ z dz, H1 z = none → H1 dz = none → dz ≠ z →
  sp (.ref z :: (vs ++ dvs)) (upd (upd H1 dz (.own z)) z (.ins C dz [])) (fun v H2 => v = .non ∧ Q (.ref z) H2) (E σ)
theorem mkS_run {pins : List (Addr × Obj)} {σ : L2.St} {H : Hp} {s : Shared} {Q : VK} {us : List Value} {vs : List V} (M : Mk X.K C f) (F : FnOk X.prog X.w X.K X.mg X.base CX k f fd ps sp) (hr : Room (k + 1) X.A) (hb : Binds X.K fd ps ds) (hd : Vals dvs ds)
    (hx : PassesAt CX X σ (E σ)) (I : Inv X pins σ H s) (r : Vals vs us)
    (h : ∀ z dz, H z = none → H dz = none → dz ≠ z → sp (.ref z :: (vs ++ dvs)) (upd (upd H dz (.own z)) z (.ins C dz [])) (fun v H2 => v = .non ∧ Q (.ref z) H2) (E σ)) :
    wpAny (model X.prog X.w) X.A (call (.ref C) us) (EP X pins σ Q) X.xe s := by
  have J := Inv.made (C := C) I
  have q0 := h _ _ (I.hok.fresh (Nat.le_succ s.heap.objs.size)) (I.hok.fresh (Nat.le_refl _)) (Nat.ne_of_lt (Nat.lt_succ_self _))
  have rr : Vals (V.ref (s.heap.objs.size + 1) :: (vs ++ dvs)) (Value.ref (s.heap.objs.size + 1) :: (us ++ ds)) := .cons rfl (r.append hd)
  have ln : (Value.ref (s.heap.objs.size + 1) :: us ++ ds).length = ps.length := rr.length.symm.trans (F.len _ _ _ _ q0)
  have go := F.run _ X.stack _ _ ⟨Value.ref (s.heap.objs.size + 1) :: us, []⟩ _ _ _ (E σ) (hr.make C us []) (J.env0.make C us []) (hb _ (Value.ref (s.heap.objs.size + 1) :: us) J.kIn ln) rr q0
  refine wpAny_call (make_map (f := f) I.kIn M.makes M.init (beq_iff_eq.mp M.fn) (codeAny_mono go fun res s' z => ?_))
  match res, z with
  | .error er, z => exact hx pins _ _ er s' J z
  | .ok (.ret u), z =>
    obtain ⟨v, H2, J2, rv, ev, q2⟩ := J.after z
    subst ev
    exact ⟨rv, ⟨V.ref (s.heap.objs.size + 1), H2, J2, rfl, q2⟩⟩
  | .ok .next, z => exact False.elim z
  | .ok .brk, z => exact False.elim z
  | .ok .cont, z => exact False.elim z
theorem pe_mkS (M : Mk X.K C f) (F : FnOk X.prog X.w X.K X.mg X.base CX k f fd ps sp) (hr : Room (k + 1) X.A) (hg : Gl X x) (hm : X.mg x = some (.ref C)) (hb : Binds X.K fd ps ds) (hd : Vals dvs ds) (hx : ∀ σ, PassesAt CX X σ (E σ)) (ha : PA X (e :: es) t)
    (hdb : (x == ("__debug__" : Str)) = false := by decide) (he : starEach (e :: es) X.env = (false, eval e X.env) :: starEach es X.env := by rfl) (hpl : (backTo pos (starEach es X.env)).any (·.1) = false := by rfl) :
    PE X (.Call (.Name x p) (e :: es) [] pos) (tMkS C sp dvs E t) := ⟨fun pins s σ H Q I h => wpAny_Call_Name_kw (ld_glob I hg hm (PySem.W.callWith_K (h₀ := X.base) I.ok.mod.kin M.kp (thn (ha.run pos pins s σ H _ I h) fun us s1 ⟨vs, H1, I1, r, q⟩ => ⟨I1.kIn, mkS_run M F hr hb hd (hx σ) I1 r q⟩) he hpl) hdb)⟩
/-- o.m(e, ..) that may raise -/
def tMtS (C : Addr) (m : Str) (sp : Sp) (dvs : List V) (E : L2.St → XK) (ta : TE) (t : TA) : TE := fun σ H Q => ta σ H fun y H1 => ∃ a dx fs, y = .ref a ∧ H1 a = some (.ins C dx fs) ∧ fs.lookup m = none ∧ t σ H1 fun vs H2 => sp (.ref a :: (vs ++ dvs)) H2 Q (E σ)
theorem pe_mtS {pl : Sem Bool} (he : PE X o ta) (c : Cls X.K C) (hm : Meth X.K C m f) (F : FnOk X.prog X.w X.K X.mg X.base CX k f fd ps sp) (hr : Room k X.A) (hb : Binds X.K fd ps ds) (hd : Vals dvs ds) (hx : ∀ σ, PassesAt CX X σ (E σ)) (ha : PA X (e :: es) t)
    (hst : starEach (e :: es) X.env = (false, eval e X.env) :: starEach es X.env := by rfl) (hpl : (backTo pos (starEach es X.env)).any (·.1) = false := by rfl)
    (ht : eval (.Call (.Attribute o m apos) (e :: es) [] pos) X.env = (do
      let ov ← eval o X.env
      standAt apos.atName
      let (fn, first) ← holding [ov] (getMethod ov m pl)
      callWith pos fn first (backTo pos (starEach (e :: es) X.env)) (backToKw pos (keywordEach [] X.env))) := by rfl) :
    PE X (.Call (.Attribute o m apos) (e :: es) [] pos) (tMtS C m sp dvs E ta t) := by
  refine ⟨fun pins s σ H Q I h => PySem.W.methodCall_KW (pl := pl) (thn (he.run pins s σ H _ I h) fun u s1 ⟨y, H1, I1, ry, a, dx, fs, ey, ea, l, q⟩ => ?_) ht⟩
  subst ey
  cases (show u = Value.ref a from ry)
  refine getmeth_ok I1 ea c hm l (PySem.W.callWith_K (first := [.ref a]) (h₀ := X.base) I.ok.mod.kin hm.kp (thn (ha.run pos pins s1 σ H1 _ I1 q) fun us s2 ⟨vs, H2, I2, r, q2⟩ => ⟨I2.kIn, ?_⟩) hst hpl)
  exact run_fnSD (us := .ref a :: us) (vs := .ref a :: vs) F hr hb hd (hx σ) I2 (.cons rfl r) q2
theorem pe_mt0S {pl : Sem Bool} (he : PE X o ta) (c : Cls X.K C) (hm : Meth X.K C m f) (F : FnOk X.prog X.w X.K X.mg X.base CX k f fd ps sp) (hr : Room k X.A) (hb : Binds X.K fd ps ds) (hd : Vals dvs ds) (hx : ∀ σ, PassesAt CX X σ (E σ))
    (ht : eval (.Call (.Attribute o m apos) [] [] pos) X.env = (do
      let ov ← eval o X.env
      standAt apos.atName
      let (fn, first) ← holding [ov] (getMethod ov m pl)
      callWith pos fn first (backTo pos (starEach [] X.env)) (backToKw pos (keywordEach [] X.env))) := by rfl) :
    PE X (.Call (.Attribute o m apos) [] [] pos) (tMtS C m sp dvs E ta tNil) := by
  refine ⟨fun pins s σ H Q I h => PySem.W.methodCall_KW (pl := pl) (thn (he.run pins s σ H _ I h) fun u s1 ⟨y, H1, I1, ry, a, dx, fs, ey, ea, l, q⟩ => ?_) ht⟩
  subst ey
  cases (show u = Value.ref a from ry)
  exact getmeth_ok I1 ea c hm l (PySem.W.callWith_K0 (first := [.ref a]) I1.kIn hm.kp (run_fnSD (us := [.ref a]) (vs := [.ref a]) F hr hb hd (hx σ) I1 (.cons rfl .nil) q))
end
/-! ### isinstance of the caught error -/
/-- isinstance(e, c): e the error at a that the suite holds, cls its class, d its dict -/
def rIsX (K : PySem.W.Frag) (a : Addr) (cls : Value) (d : Option Addr) : List V → Hp → VK → Prop := fun xs H Q => ∃ (c : V) (cv : Value) (D dd : Addr) (fs : List (Str × V)) (b : Bool), xs = [.ref a, c] ∧ ClsV c cv ∧ cls = .ref D ∧ ExcC K D ∧ d = some dd ∧ H dd = some (.xd fs) ∧ PySem.W.kitOne K (.ref D) cv = some b ∧ Q (.bl b) H
theorem call_isX {X : Cx} {a : Addr} {cls : Value} {d : Option Addr} {oe : Obj} {pn : List (Addr × Obj)} (hz : Zc cls d oe) (hf : ∃ vs, oe.data = .fields vs) : CallR (X.suite a ((a, oe) :: pn)) (.builtin "isinstance") (rIsX X.K a cls d) := by
  intro pins s σ H xs us Q I r h
  obtain ⟨c, cv, D, dd, fs, b, rfl, hc, rfl, C, rfl, hx, e, q⟩ := h
  obtain ⟨u1, u2, rfl, r1, r2⟩ := vals2 r
  cases (show u1 = Value.ref a from r1)
  have e2 := hc.eq r2
  subst e2
  obtain ⟨hget, _⟩ := I.pin (a, oe) (List.mem_append_left _ List.mem_cons_self)
  obtain ⟨vs, hv⟩ := hf
  obtain ⟨mA, hns, _⟩ := (show ObjOk X.prog X.w H s.heap dd (.xd fs) from I.hok dd _ hx)
  obtain ⟨od, ho, _⟩ := lookIn_ns hns
  have J : PySem.W.InstAt s.heap a oe D (some od) := ⟨hget, hz.1, by unfold PySem.W.notCls; rw [hv] <;> rfl, by rw [hz.2]; exact ho⟩
  obtain ⟨cd, hcd, _⟩ := PySem.W.any_some C.hd
  have Z : PySem.W.KitX X.K (.ref a) (.ref D) (fun h => PySem.W.InstAt h a oe D (some od)) := PySem.W.kitx_exc (by rw [hcd]; rfl) C.hg C.hk C.hs C.ha C.hn C.ht C.hm
  exact PySem.W.kia_one Z I.kIn J e (fun z => nomatch z) fun tk => ⟨.bl b, H, I.kept (t' := tk) fun _ _ z => z, rfl, q⟩
end FG
namespace FG
open PySem PySem.Spec L2
/-! ### loops, by names -/
def ForR (lo : Int) (n : Nat) (g : TG) (tb : TS) (D : Ends) (σ : L2.St) (H : Hp) : Prop := ∃ W : Nat → Nat → L2.St → Hp → Prop, (∃ m, W 0 m σ H) ∧ ∀ i m σ H, W i m σ H →
  ((Itr lo n).stop i H ∧ D.nx σ H) ∨ ((Itr lo n).go i H ∧ ∃ N : L2.St → Hp → Prop, (∀ σ' H', N σ' H' → ∃ m', m' < m ∧ W (i + 1) m' σ' H') ∧ ∀ x H', (Itr lo n).yld i H x H' → g x σ H' fun σ2 H2 => tb { D with nx := N, ct := N, bk := D.nx } σ2 H2)
def ForL (K : PySem.W.Frag) (a : Addr) (g : TG) (tb : TS) (D : Ends) (σ : L2.St) (H : Hp) : Prop := ∃ W : Nat → Nat → L2.St → Hp → Prop, (∃ m, W 0 m σ H) ∧ ∀ i m σ H, W i m σ H →
  ((Itl K a).stop i H ∧ D.nx σ H) ∨ ((Itl K a).go i H ∧ ∃ N : L2.St → Hp → Prop, (∀ σ' H', N σ' H' → ∃ m', m' < m ∧ W (i + 1) m' σ' H') ∧ ∀ x H', (Itl K a).yld i H x H' → g x σ H' fun σ2 H2 => tb { D with nx := N, ct := N, bk := D.nx } σ2 H2)
section
variable {K : PySem.W.Frag} {σ : L2.St} {H : Hp} {D : Ends} {g : TG} {tb : TS} {tar : TA} {tl : TE}
theorem w_forR1 (k : tar σ H fun vs H1 => ∃ j : Int, vs = [.int j] ∧ -(2 ^ 62) ≤ j ∧ j < 2 ^ 62 ∧ ForR 0 j.toNat g tb D σ H1) : tFor (iRng1 tar) g tb D σ H := k
theorem w_forR2 (k : tar σ H fun vs H1 => ∃ i j : Int, vs = [.int i, .int j] ∧ (-(2 ^ 62) ≤ i ∧ i < 2 ^ 62 ∧ -(2 ^ 62) ≤ j ∧ j < 2 ^ 62) ∧ ForR i (j - i).toNat g tb D σ H1) : tFor (iRng2 tar) g tb D σ H := k
theorem w_forL (k : tl σ H fun x H1 => ∃ a, x = .ref a ∧ (∃ xs, SqL K H1 a xs) ∧ ForL K a g tb D σ H1) : tFor (iList K tl) g tb D σ H := k
/-- the turns of a range, by what holds between them -/
theorem turnsR {lo : Int} {n : Nat} (Pv : Nat → L2.St → Hp → Prop) (h0 : Pv 0 σ H) (hs : ∀ (i : Nat) σ H, i < n → Pv i σ H → g (.int (lo + i)) σ H fun σ2 H2 => tb { D with nx := Pv (i + 1), ct := Pv (i + 1), bk := D.nx } σ2 H2) (hd : ∀ σ H, Pv n σ H → D.nx σ H) : ForR lo n g tb D σ H := for_range Pv h0 hs hd
theorem turnsL {a : Addr} {xs : List V} (Pv : Nat → L2.St → Hp → Prop) (h0 : Pv 0 σ H) (hl : ∀ i σ H, i ≤ xs.length → Pv i σ H → SqL K H a xs) (hs : ∀ (i : Nat) x σ H, xs[i]? = some x → Pv i σ H → g x σ H fun σ2 H2 => tb { D with nx := Pv (i + 1), ct := Pv (i + 1), bk := D.nx } σ2 H2) (hd : ∀ σ H, Pv xs.length σ H → D.nx σ H) : ForL K a g tb D σ H := for_list Pv h0 hl hs hd
end
/-! ### readings of built-ins by names -/
def rAbs : List V → Hp → VK → Prop := fun xs H Q => ∃ i, xs = [.int i] ∧ Q (.int (if i < 0 then -i else i)) H
def rInt1 : List V → Hp → VK → Prop := fun xs H Q => (∃ i, xs = [.int i] ∧ Q (.int i) H) ∨ ∃ k, xs = [.bl k] ∧ Q (.int (if k then 1 else 0)) H
def rLenQ (K : PySem.W.Frag) : List V → Hp → VK → Prop := fun xs H Q => ∃ p ys, xs = [.ref p] ∧ (SqL K H p ys ∨ SqT K H p ys) ∧ Q (.int ys.length) H
def rLenX : List V → Hp → VK → Prop := fun xs H Q => ∃ z : Str, xs = [.str z] ∧ z.length ≤ sizeLine ∧ Q (.int z.length) H
def rListQ (K : PySem.W.Frag) : List V → Hp → VK → Prop := fun xs H Q => ∃ p ys, xs = [.ref p] ∧ (SqL K H p ys ∨ SqT K H p ys) ∧ ∀ l, H l = none → Q (.ref l) (upd H l (.lst ys))
def rMin2 : List V → Hp → VK → Prop := fun xs H Q => ∃ i j, xs = [.int i, .int j] ∧ Q (.int (if j < i then j else i)) H
def rMax2 : List V → Hp → VK → Prop := fun xs H Q => ∃ i j, xs = [.int i, .int j] ∧ Q (.int (if j > i then j else i)) H
def rIsNo : R2 := fun x y H Q => y = .non ∧ Q (.bl (decide (x = .non))) H
def rNotNo : R2 := fun x y H Q => y = .non ∧ Q (.bl (!decide (x = .non))) H
def rAddStr : R2 := fun x y H Q => ∃ i j : Str, x = .str i ∧ y = .str j ∧ i.length + j.length ≤ sizeLine ∧ Q (.str (i ++ j)) H
def rStrI : List V → Hp → VK → Prop := fun xs H Q => ∃ i : Int, xs = [.int i] ∧ i.natAbs.log2 < 1920 ∧ Q (.str (toString i)) H
def rIntS : List V → Hp → VK → Prop := fun xs H Q => ∃ (a : Str) (n : Int), xs = [.str a] ∧ PySem.intText? a = some n ∧ a.length ≤ 640 ∧ Q (.int n) H
section
variable {X : Cx}
theorem qc_abs : CallR X (.builtin "abs") rAbs := call_abs
theorem qc_int1 : CallR X (.type "int") rInt1 := call_int1
theorem qc_len : CallR X (.builtin "len") (rLenQ X.K) := call_len_seq
theorem qc_lenX : CallR X (.builtin "len") rLenX := call_len_str
theorem qc_list : CallR X (.type "list") (rListQ X.K) := call_list_of
theorem qc_min2 (hc : X.calm = true) : CallR X (.builtin "min") rMin2 := call_min2 hc
theorem qc_max2 (hc : X.calm = true) : CallR X (.builtin "max") rMax2 := call_max2 hc
theorem qo_isN : OpR X (compareOp .Is) rIsNo := op_isN
theorem qo_notN : OpR X (compareOp .IsNot) rNotNo := op_notN
theorem qo_addS : OpR X (binaryOp .Add) rAddStr := op_add_str
theorem qc_strI : CallR X (.type "str") rStrI := call_str_int
theorem qc_intS : CallR X (.type "int") rIntS := call_int_str
end
/-! ### stepping through a reading: one lemma a construct -/
section
variable {K : PySem.W.Frag} {σ σ' : L2.St} {H : Hp} {Q : VK} {D : Ends} {ta tb te tc : TE} {tt tu : TT} {t u : TS} {tar : TA} {v x y : V} {i : Nat} {g : TG} {r r' : R2} {QB : Bool → Hp → Prop} {QA : List V → Hp → Prop} {QS : L2.St → Hp → Prop}
theorem w_var (h : σ[i]? = some (some v)) (k : Q v H) : tVar i σ H Q := ⟨v, h, k⟩
theorem w_c (k : Q v H) : tC v σ H Q := k
theorem w_op (k : ta σ H fun x H1 => tb σ H1 fun y H2 => r x y H2 Q) : tOp r ta tb σ H Q := k
theorem w_un {r1 : V → Hp → VK → Prop} (k : ta σ H fun x H1 => r1 x H1 Q) : tUn r1 ta σ H Q := k
theorem w_U {g : Int → V} {i : Int} (k : Q (g i) H) : rU g (.int i) H Q := ⟨i, rfl, k⟩
theorem w_I0 {g : Int → Int → V} {i j : Int} (k : Q (g i j) H) : rI0 g (.int i) (.int j) H Q := ⟨i, j, rfl, rfl, k⟩
theorem w_I {C : Int → Int → Prop} {g : Int → Int → V} {i j : Int} (c : C i j) (k : Q (g i j) H) : rI C g (.int i) (.int j) H Q := ⟨i, j, rfl, rfl, c, k⟩
theorem w_eq (c : scal x y = true) (k : Q (.bl (decide (x = y))) H) : rEq x y H Q := ⟨c, k⟩
theorem w_ne (c : scal x y = true) (k : Q (.bl (!decide (x = y))) H) : rNe x y H Q := ⟨c, k⟩
theorem w_test (k : te σ H fun z H1 => ∃ b, z = .bl b ∧ QB b H1) : tTest te σ H QB := k
theorem w_tB (k : te σ H fun z H1 => ∃ b, z = .bl b ∧ QB b H1) : tB te σ H QB := k
theorem w_bl {b : Bool} (k : QB b H) : ∃ b', V.bl b = .bl b' ∧ QB b' H := ⟨b, rfl, k⟩
theorem w_blE {b : Bool} {P : Bool → Prop} (k : P b) : ∃ b', V.bl b = .bl b' ∧ P b' := ⟨b, rfl, k⟩
theorem w_and (k : tt σ H fun c H1 => if c = true then tu σ H1 QB else QB false H1) : tAnd tt tu σ H QB := k
theorem w_or (k : tt σ H fun c H1 => if c = true then QB true H1 else tu σ H1 QB) : tOr tt tu σ H QB := k
theorem w_not (k : tt σ H fun c H1 => QB (!c) H1) : tNot tt σ H QB := k
theorem w_andV (k : ta σ H fun x H1 => ∃ c, x = .bl c ∧ if c = true then tb σ H1 Q else Q (.bl false) H1) : tAndV ta tb σ H Q := k
theorem w_orV (k : ta σ H fun x H1 => ∃ c, x = .bl c ∧ if c = true then Q (.bl true) H1 else tb σ H1 Q) : tOrV ta tb σ H Q := k
theorem w_notV (k : ta σ H fun x H1 => ∃ c, x = .bl c ∧ Q (.bl (!c)) H1) : tNotV ta σ H Q := k
theorem w_if (k : tt σ H fun c H1 => if c = true then ta σ H1 Q else tb σ H1 Q) : tIf tt ta tb σ H Q := k
theorem w_nil (k : QA [] H) : tNil σ H QA := k
theorem w_cons (k : ta σ H fun x H1 => tar σ H1 fun xs H2 => QA (x :: xs) H2) : tCons ta tar σ H QA := k
theorem w_tup (k : tar σ H fun xs H1 => xs.length ≤ sizeLine ∧ ∀ p, H1 p = none → Q (.ref p) (upd H1 p (.tup xs))) : tTup tar σ H Q := k
theorem w_lst (k : tar σ H fun xs H1 => xs.length ≤ sizeLine ∧ ∀ p, H1 p = none → Q (.ref p) (upd H1 p (.lst xs))) : tLst tar σ H Q := k
theorem w_cb {r : List V → Hp → VK → Prop} (k : tar σ H fun vs H1 => r vs H1 Q) : tCB r tar σ H Q := k
theorem w_call {sp : Sp} {dvs : List V} {E : XK} (k : tar σ H fun vs H1 => sp (vs ++ dvs) H1 Q E) : tCall sp dvs E tar σ H Q := k
theorem w_callSD {sp : Sp} {dvs : List V} {E : L2.St → XK} (k : tar σ H fun vs H1 => sp (vs ++ dvs) H1 Q (E σ)) : tCallSD sp dvs E tar σ H Q := k
theorem w_callS {sp : Sp} {E : L2.St → XK} (k : tar σ H fun vs H1 => sp vs H1 Q (E σ)) : tCallS sp E tar σ H Q := k
/-- statements -/
theorem w_seq (k : t { D with nx := u D } σ H) : tSeq t u D σ H := k
theorem w_next (k : D.nx σ H) : tNext D σ H := k
theorem w_drop (k : te σ H fun _ H1 => D.nx σ H1) : tDrop te D σ H := k
theorem w_ret (k : te σ H D.rt) : tRet te D σ H := k
theorem w_retN (k : D.rt .non H) : tRetN D σ H := k
theorem w_ifs (k : tt σ H fun b H1 => if b = true then t D σ H1 else u D σ H1) : tIfS tt t u D σ H := k
theorem w_asg (k : te σ H fun x H1 => g x σ H1 D.nx) : tAsg te g D σ H := k
theorem w_gname (e : σ.set i (some v) = σ') (k : QS σ' H) : gName i v σ H QS := by
  subst e
  exact k
theorem w_par {j : Nat} (k : tar σ H fun vs H1 => ∃ v w, vs = [v, w] ∧ D.nx ((σ.set i (some v)).set j (some w)) H1) : tPar i j tar D σ H := k
theorem w_ix {p : Addr} {xs : List V} {i : Int} (h : SqL K H p xs) (e : atI xs i = some v) (k : Q v H) : rIxL K (.ref p) (.int i) H Q := ⟨p, xs, i, v, rfl, rfl, h, e, k⟩
theorem w_ixT {p : Addr} {xs : List V} {i : Int} (h : SqT K H p xs) (e : atI xs i = some v) (k : Q v H) : rIxT K (.ref p) (.int i) H Q := ⟨p, xs, i, v, rfl, rfl, h, e, k⟩
theorem w_gsub {to ti : TE} {s : TSet} (k : to σ H fun o H1 => ti σ H1 fun i H2 => s o i v H2 fun H3 => QS σ H3) : gSub to ti s v σ H QS := k
theorem w_setL {p : Addr} {xs : List V} {k : Int} {j : Nat} {P : Hp → Prop} (h : H p = some (.lst xs)) (e : ixN xs.length k = some j) (q : P (upd H p (.lst (xs.set j v)))) : rSetL (.ref p) (.int k) v H P := ⟨p, xs, k, j, rfl, rfl, h, e, q⟩
theorem w_fld {f : Str} (k : ta σ H fun x H1 => ∃ a C dx fs v, x = .ref a ∧ H1 a = some (.ins C dx fs) ∧ Cls K C ∧ NoAttr K C f ∧ fs.lookup f = some v ∧ Q v H1) : tFld K ta f σ H Q := k
theorem w_sfld {f : Str} (k : tb σ H fun y H1 => ta σ H1 fun x H2 => ∃ a C dx fs, x = .ref a ∧ H2 a = some (.ins C dx fs) ∧ Cls K C ∧ NoAttr K C f ∧ fs.length < 1000 ∧ D.nx σ (upd H2 a (.ins C dx (putF f y fs)))) : sFld K ta tb f D σ H := k
theorem w_sl {r : V → Option Int → Option Int → Hp → VK → Prop} {tl th : TO} (k : te σ H fun x H1 => tl σ H1 fun l H2 => th σ H2 fun u H3 => r x l u H3 Q) : tSl r te tl th σ H Q := k
theorem w_nopart {QO : Option Int → Hp → Prop} (k : QO none H) : tNoPart σ H QO := k
theorem w_part {QO : Option Int → Hp → Prop} (k : te σ H fun x H1 => ∃ i, x = .int i ∧ QO (some i) H1) : tPart te σ H QO := k
theorem w_exI {P : Int → Prop} {i : Int} (k : P i) : ∃ i', V.int i = .int i' ∧ P i' := ⟨i, rfl, k⟩
theorem w_exR {P : Addr → Prop} {p : Addr} (k : P p) : ∃ a, V.ref p = .ref a ∧ P a := ⟨p, rfl, k⟩
theorem w_slL {p : Addr} {xs : List V} {lo hi : Option Int} (h : SqL K H p xs) (k : ∀ q, H q = none → Q (.ref q) (upd H q (.lst (cutV xs lo hi)))) : rSlL K (.ref p) lo hi H Q := ⟨p, xs, rfl, h, k⟩
theorem w_mks {C : Addr} {sp : Sp} {dvs : List V} {E : L2.St → XK} (k : tar σ H fun vs H1 => ∀ z dz, H1 z = none → H1 dz = none → dz ≠ z → sp (.ref z :: (vs ++ dvs)) (upd (upd H1 dz (.own z)) z (.ins C dz [])) (fun v H2 => v = .non ∧ Q (.ref z) H2) (E σ)) : tMkS C sp dvs E tar σ H Q := k
theorem w_abs {i : Int} (k : Q (.int (if i < 0 then -i else i)) H) : rAbs [.int i] H Q := ⟨i, rfl, k⟩
theorem w_int1 {i : Int} (k : Q (.int i) H) : rInt1 [.int i] H Q := .inl ⟨i, rfl, k⟩
theorem w_isi {c : V} {t' u' : Value} {b : Bool} (h1 : ClsV c u') (h2 : TyX K H x t') (h3 : PySem.W.kitOne K t' u' = some b) (k : Q (.bl b) H) : rIsi K [x, c] H Q := ⟨x, c, t', u', b, rfl, h1, h2, h3, k⟩
theorem w_lenS {p : Addr} {xs : List V} (h : SqL K H p xs) (k : Q (.int xs.length) H) : rLenQ K [.ref p] H Q := ⟨p, xs, rfl, .inl h, k⟩
theorem w_lenT {p : Addr} {xs : List V} (h : SqT K H p xs) (k : Q (.int xs.length) H) : rLenQ K [.ref p] H Q := ⟨p, xs, rfl, .inr h, k⟩
theorem w_lenX {z : Str} (h : z.length ≤ sizeLine) (k : Q (.int z.length) H) : rLenX [.str z] H Q := ⟨z, rfl, h, k⟩
theorem w_listS {p : Addr} {xs : List V} (h : SqL K H p xs) (k : ∀ l, H l = none → Q (.ref l) (upd H l (.lst xs))) : rListQ K [.ref p] H Q := ⟨p, xs, rfl, .inl h, k⟩
theorem w_min2 {i j : Int} (k : Q (.int (if j < i then j else i)) H) : rMin2 [.int i, .int j] H Q := ⟨i, j, rfl, k⟩
theorem w_max2 {i j : Int} (k : Q (.int (if j > i then j else i)) H) : rMax2 [.int i, .int j] H Q := ⟨i, j, rfl, k⟩
theorem w_isN (k : Q (.bl (decide (x = .non))) H) : rIsNo x .non H Q := ⟨rfl, k⟩
theorem w_notN (k : Q (.bl (!decide (x = .non))) H) : rNotNo x .non H Q := ⟨rfl, k⟩
theorem w_addS {i j : Str} (h : i.length + j.length ≤ sizeLine) (k : Q (.str (i ++ j)) H) : rAddStr (.str i) (.str j) H Q := ⟨i, j, rfl, rfl, h, k⟩
theorem w_strI {i : Int} (h : i.natAbs.log2 < 1920) (k : Q (.str (toString i)) H) : rStrI [.int i] H Q := ⟨i, rfl, h, k⟩
theorem w_intS {z : Str} {n : Int} (h : PySem.intText? z = some n) (h2 : z.length ≤ 640) (k : Q (.int n) H) : rIntS [.str z] H Q := ⟨z, n, rfl, h, h2, k⟩
end
/-- raise, by a name -/
def tRs (W : WX) (t : L2.St → Hp → XK → Prop) : TS := fun _ σ H => t σ H fun cls d H' => W cls d σ H'
theorem ps_rs {X : Cx} {W : WX} {e : Expr} {t : L2.St → Hp → XK → Prop} {pos : Pos} (hc : X.calm = true) (tk : Takes X W) (he : PMk X e t) : PS X (.Raise (some e) none pos) (tRs W t) := ps_raise hc tk he
section
variable {σ : L2.St} {H : Hp} {D : Ends} {W : WX} {t : L2.St → Hp → XK → Prop} {QX : XK} {ta tb : TE} {C : Addr} {f f2 : Str}
theorem w_rs (k : t σ H fun cls d H' => W cls d σ H') : tRs W t D σ H := k
theorem w_mk1 (k : ta σ H fun x H1 => ∃ v, [x] = [v] ∧ ∀ d, H1 d = none → QX (.ref C) (some d) (upd H1 d (.xd [(f, v)]))) : tMk1 C f (tCons ta tNil) σ H QX := k
theorem w_mk2 (k : ta σ H fun x H1 => tb σ H1 fun y H2 => ∃ v v2, [x, y] = [v, v2] ∧ ∀ d, H2 d = none → QX (.ref C) (some d) (upd H2 d (.xd [(f, v), (f2, v2)]))) : tMk2 C f f2 (tCons ta (tCons tb tNil)) σ H QX := k
theorem w_one {x : V} {P : V → Prop} (k : P x) : ∃ v, [x] = [v] ∧ P v := ⟨x, rfl, k⟩
theorem w_two {x y : V} {P : V → V → Prop} (k : P x y) : ∃ v v2, [x, y] = [v, v2] ∧ P v v2 := ⟨x, y, rfl, k⟩
end
theorem it_pos {c A B : Prop} [Decidable c] (hc : c) (h : A) : if decide c = true then A else B := by
  rw [decide_eq_true hc]
  exact iteT h
theorem it_neg {c A B : Prop} [Decidable c] (hc : ¬ c) (h : B) : if decide c = true then A else B := by
  rw [decide_eq_false hc]
  exact iteF h
theorem it_dec {c A B : Prop} [Decidable c] (h1 : c → A) (h2 : ¬ c → B) : if decide c = true then A else B := by
  by_cases h : c
  · exact it_pos h (h1 h)
  · exact it_neg h (h2 h)
theorem it_npos {c A B : Prop} [Decidable c] (hc : c) (h : B) : if (!decide c) = true then A else B := by
  rw [decide_eq_true hc]
  exact iteF h
theorem it_nneg {c A B : Prop} [Decidable c] (hc : ¬ c) (h : A) : if (!decide c) = true then A else B := by
  rw [decide_eq_false hc]
  exact iteT h
theorem it_ndec {c A B : Prop} [Decidable c] (h1 : c → B) (h2 : ¬ c → A) : if (!decide c) = true then A else B := by
  by_cases h : c
  · exact it_npos h (h1 h)
  · exact it_nneg h (h2 h)
theorem iteNT {A B : Prop} (h : B) : if (!true) = true then A else B := iteF h
theorem iteNF {A B : Prop} (h : A) : if (!false) = true then A else B := iteT h
theorem it_b {b : Bool} {A B : Prop} (h1 : b = true → A) (h2 : b = false → B) : if b = true then A else B := by
  cases b
  · exact iteF (h2 rfl)
  · exact iteT (h1 rfl)
/-- heaps -/
theorem upd_old {H : Hp} {a p : Addr} {o u : HO} (h : H a = some o) (n : H p = none) : upd H p u a = some o := by
  rw [upd_ne (ne_of_none h n)]
  exact h
theorem Same.upd {H H' : Hp} {p : Addr} {o : HO} (s : Same H H') (n : H p = none) : Same H (upd H' p o) := fun b u e => by
  rw [upd_ne (ne_of_none e n)]
  exact s b u e
theorem Same.new {H : Hp} {p : Addr} {o : HO} (n : H p = none) : Same H (L2.upd H p o) := fun b u e => upd_old e n
theorem Same.fld {H H' : Hp} (s : Same H H') {p : Addr} (n : H' p = none) : H p = none := s.free n
/-- promises of defs of one to four parameters -/
def sp1 (f : V → Hp → VK → XK → Prop) : Sp := fun vs H Q E => ∃ x, vs = [x] ∧ f x H Q E
def sp2 (f : V → V → Hp → VK → XK → Prop) : Sp := fun vs H Q E => ∃ x y, vs = [x, y] ∧ f x y H Q E
def sp3 (f : V → V → V → Hp → VK → XK → Prop) : Sp := fun vs H Q E => ∃ x y z, vs = [x, y, z] ∧ f x y z H Q E
def sp4 (f : V → V → V → V → Hp → VK → XK → Prop) : Sp := fun vs H Q E => ∃ x y z w, vs = [x, y, z, w] ∧ f x y z w H Q E
theorem sp1_len {f} {vs H Q E} (h : sp1 f vs H Q E) : vs.length = 1 := by obtain ⟨_, rfl, _⟩ := h; rfl
theorem sp2_len {f} {vs H Q E} (h : sp2 f vs H Q E) : vs.length = 2 := by obtain ⟨_, _, rfl, _⟩ := h; rfl
theorem sp3_len {f} {vs H Q E} (h : sp3 f vs H Q E) : vs.length = 3 := by obtain ⟨_, _, _, rfl, _⟩ := h; rfl
theorem sp4_len {f} {vs H Q E} (h : sp4 f vs H Q E) : vs.length = 4 := by obtain ⟨_, _, _, _, rfl, _⟩ := h; rfl
end FG
namespace FG
open PySem PySem.Spec L2
/-- what a class must say so that isinstance asks its instances -/
structure InsC (K : PySem.W.Frag) (C : Addr) : Prop where
  ha : PySem.W.findIn K (.ref C) "__class__" = some (some (.builtin "object.__class__"))
  hn : PySem.W.specialIn K (.builtin "object.__class__") "__get__" = some (some (.builtin "getset_descriptor.__get__"))
  htk : PySem.W.takesIn K (.builtin "object.__class__") = some true
  hm : PySem.W.mroIn K C (.type "object") = some true
theorem ty_ins {K : PySem.W.Frag} {H : Hp} {a C dx : Addr} {fs : List (Str × V)} (e : H a = some (.ins C dx fs)) (c : Cls K C) (I : InsC K C) : TyX K H (.ref a) (.ref C) := .base (.ins e c I.ha I.hn I.htk I.hm)
theorem kit_self {K : PySem.W.Frag} {C : Addr} : PySem.W.kitOne K (.ref C) (.ref C) = some true := by
  unfold PySem.W.kitOne
  rw [if_pos (by simp)]
/-- the arguments of a def with defaults -/
theorem bindsD {K : PySem.W.Frag} {x qual : Str} {params : Arguments} {body : List Stmt} {scope : Scope} {tp f : Addr} {oc kV doc pm cd ct tc : Value} {an od td : Option Addr} {osl ts : Array (Option Value)} {its ds : List Value} {tn : Nat} {ps : List Str}
    (_l : K.lookup f = some ⟨oc, od, .func (PySem.W.fnOf x qual params body scope (.ref tp) kV doc pm an cd ct), osl⟩) (t : K.lookup tp = some ⟨tc, td, .seq its.toArray tn, ts⟩)
    (h : ∀ us : List Value, us.length + ds.length = ps.length → ∃ k, bindArgs (PySem.W.fnOf x qual params body scope (.ref tp) kV doc pm an cd ct) ⟨us, []⟩ = seqItems? (.ref tp) >>= k ∧ k (some its.toArray) = pure (ps.zip (us ++ ds))) :
    Binds K (PySem.W.fnOf x qual params body scope (.ref tp) kV doc pm an cd ct) ps ds := by
  intro s us X hl
  rw [List.length_append] at hl
  obtain ⟨k, e1, e2⟩ := h us hl
  refine BindsTo.of_looks fun M => ?_
  rw [e1]
  exact looks_items X t rfl (.of_pure e2)
/-- an item at a drawn place -/
theorem atI_mem {α : Type} {xs : List α} {r : Int} (h0 : 0 ≤ r) (h1 : r < xs.length) : ∃ v, atI xs r = some v ∧ v ∈ xs := by
  obtain ⟨j, rfl⟩ := Int.eq_ofNat_of_zero_le h0
  have hj : j < xs.length := Int.ofNat_lt.mp h1
  exact ⟨xs[j], atI_nat (List.getElem?_eq_getElem hj), List.getElem_mem hj⟩
theorem keep_of {H H' : Hp} {b c : Addr} {o : HO} (fr : ∀ c, c ≠ b → H' c = H c) (h : H c = some o) (n : c ≠ b) : H' c = some o := (fr c n).trans h
end FG
namespace FG
open PySem L2
/-! ### the text by places -/
def topS (i : Nat) : Stmt := PySem.Challenge.pw_fontgap_k01_ratio_in_lowest_terms.main.body.getD i (.Pass ⟨0, 0, 0, 0⟩)
abbrev s_is_integer : Stmt := topS 6
theorem sc_is_integer : FnScope (["value"] : List Str) (["value"] : List Str) (defScope s_is_integer) := ⟨rfl, rfl, rfl, by decide +kernel, rfl, by decide +kernel, by decide +kernel⟩
abbrev s_greatest_divisor : Stmt := topS 9
theorem sc_greatest_divisor : FnScope (["left", "right"] : List Str) (["left", "right"] : List Str) (defScope s_greatest_divisor) := ⟨rfl, rfl, rfl, by decide +kernel, rfl, by decide +kernel, by decide +kernel⟩
abbrev s_law_bag : Stmt := topS 13
theorem sc_law_bag : FnScope (["_law_script"] : List Str) (["_law_script"] : List Str) (defScope s_law_bag) := ⟨rfl, rfl, rfl, by decide +kernel, rfl, by decide +kernel, by decide +kernel⟩
abbrev s_law_take : Stmt := topS 14
theorem sc_law_take : FnScope (["_law_bag_here", "_law_size", "_law_digit", "_law_cell"] : List Str) (["_law_bag_here", "_law_size"] : List Str) (defScope s_law_take) := ⟨rfl, rfl, rfl, by decide +kernel, rfl, by decide +kernel, by decide +kernel⟩
abbrev s_Ratio_init : Stmt := inClass (topS 11) 1
theorem sc_Ratio_init : FnScope (["self", "top", "bottom", "shared"] : List Str) (["self", "top", "bottom"] : List Str) (defScope s_Ratio_init) := ⟨rfl, rfl, rfl, by decide +kernel, rfl, by decide +kernel, by decide +kernel⟩
abbrev s_law_int : Stmt := topS 15
theorem sc_law_int : FnScope (["_law_actual"] : List Str) (["_law_actual"] : List Str) (defScope s_law_int) := ⟨rfl, rfl, rfl, by decide +kernel, rfl, by decide +kernel, by decide +kernel⟩
abbrev s_law_is : Stmt := topS 16
theorem sc_law_is : FnScope (["_law_actual", "_law_due"] : List Str) (["_law_actual", "_law_due"] : List Str) (defScope s_law_is) := ⟨rfl, rfl, rfl, by decide +kernel, rfl, by decide +kernel, by decide +kernel⟩
abbrev s_law_lowest : Stmt := topS 17
theorem sc_law_lowest : FnScope (["_law_top", "_law_bottom", "_law_left", "_law_right", "_law_k", "_law_rest"] : List Str) (["_law_top", "_law_bottom"] : List Str) (defScope s_law_lowest) := ⟨rfl, rfl, rfl, by decide +kernel, rfl, by decide +kernel, by decide +kernel⟩
abbrev s_law_refusal : Stmt := topS 18
theorem sc_law_refusal : FnScope (["_law_top", "_law_bottom", "e"] : List Str) (["_law_top", "_law_bottom"] : List Str) (defScope s_law_refusal) := ⟨rfl, rfl, rfl, by decide +kernel, rfl, by decide +kernel, by decide +kernel⟩
abbrev s_law_odd_refused : Stmt := topS 19
theorem sc_law_odd_refused : FnScope (["_law_odd", "_law_told"] : List Str) (["_law_odd"] : List Str) (defScope s_law_odd_refused) := ⟨rfl, rfl, rfl, by decide +kernel, rfl, by decide +kernel, by decide +kernel⟩
abbrev s_law : Stmt := topS 20
theorem sc_law : FnScope (["_law_script", "_law_bag_here", "_law_wide", "_law_top", "_law_bottom", "_law_factor", "_law_odd", "_law_told", "_law_due"] : List Str) (["_law_script"] : List Str) (defScope s_law) := ⟨rfl, rfl, rfl, by decide +kernel, rfl, by decide +kernel, by decide +kernel⟩
abbrev s_InvalidNumber_init : Stmt := inClass (topS 4) 0
/-! ### what the top has left: the places -/
structure Ad where
  f_is_integer : Addr
  d_is_integer : FuncData
  f_greatest_divisor : Addr
  d_greatest_divisor : FuncData
  f_law_bag : Addr
  d_law_bag : FuncData
  f_law_take : Addr
  d_law_take : FuncData
  f_Ratio_init : Addr
  d_Ratio_init : FuncData
  v1_Ratio_init : List Value
  f_law_int : Addr
  d_law_int : FuncData
  f_law_is : Addr
  d_law_is : FuncData
  f_law_lowest : Addr
  d_law_lowest : FuncData
  f_law_refusal : Addr
  d_law_refusal : FuncData
  f_law_odd_refused : Addr
  d_law_odd_refused : FuncData
  f_law : Addr
  d_law : FuncData
  C_Ratio : Addr
  C_FontError : Addr
  C_InvalidGlyph : Addr
  C_InvalidNumber : Addr
  i_InvalidNumber : Addr
  c_InvalidNumber : Addr
  k_InvalidNumber : Addr
/-- .. and what is true of them -/
structure Txt (P : Program) (K : PySem.W.Frag) (mg : Str → Option Value) (a : Ad) : Prop where
  F_is_integer : Fun K "is_integer" "is_integer" s_is_integer a.f_is_integer a.d_is_integer
  B_is_integer : Binds K a.d_is_integer (["value"] : List Str) []
  g_is_integer : mg "is_integer" = some (.ref a.f_is_integer)
  k_is_integer : PySem.W.keepIn K (.ref a.f_is_integer) = true
  F_greatest_divisor : Fun K "greatest_divisor" "greatest_divisor" s_greatest_divisor a.f_greatest_divisor a.d_greatest_divisor
  B_greatest_divisor : Binds K a.d_greatest_divisor (["left", "right"] : List Str) []
  g_greatest_divisor : mg "greatest_divisor" = some (.ref a.f_greatest_divisor)
  k_greatest_divisor : PySem.W.keepIn K (.ref a.f_greatest_divisor) = true
  F_law_bag : Fun K "_law_bag" "_law_bag" s_law_bag a.f_law_bag a.d_law_bag
  B_law_bag : Binds K a.d_law_bag (["_law_script"] : List Str) []
  g_law_bag : mg "_law_bag" = some (.ref a.f_law_bag)
  k_law_bag : PySem.W.keepIn K (.ref a.f_law_bag) = true
  F_law_take : Fun K "_law_take" "_law_take" s_law_take a.f_law_take a.d_law_take
  B_law_take : Binds K a.d_law_take (["_law_bag_here", "_law_size"] : List Str) []
  g_law_take : mg "_law_take" = some (.ref a.f_law_take)
  k_law_take : PySem.W.keepIn K (.ref a.f_law_take) = true
  F_Ratio_init : FunD K "__init__" "Ratio.__init__" (defArgs s_Ratio_init) (defBody s_Ratio_init) (defScope s_Ratio_init) [V.int 1] [] a.f_Ratio_init a.d_Ratio_init
  B_Ratio_init : Binds K a.d_Ratio_init (["self", "top", "bottom"] : List Str) []
  B1_Ratio_init : Binds K a.d_Ratio_init (["self", "top", "bottom"] : List Str) a.v1_Ratio_init
  V1_Ratio_init : Vals [V.int 1] a.v1_Ratio_init
  F_law_int : Fun K "_law_int" "_law_int" s_law_int a.f_law_int a.d_law_int
  B_law_int : Binds K a.d_law_int (["_law_actual"] : List Str) []
  g_law_int : mg "_law_int" = some (.ref a.f_law_int)
  k_law_int : PySem.W.keepIn K (.ref a.f_law_int) = true
  F_law_is : Fun K "_law_is" "_law_is" s_law_is a.f_law_is a.d_law_is
  B_law_is : Binds K a.d_law_is (["_law_actual", "_law_due"] : List Str) []
  g_law_is : mg "_law_is" = some (.ref a.f_law_is)
  k_law_is : PySem.W.keepIn K (.ref a.f_law_is) = true
  F_law_lowest : Fun K "_law_lowest" "_law_lowest" s_law_lowest a.f_law_lowest a.d_law_lowest
  B_law_lowest : Binds K a.d_law_lowest (["_law_top", "_law_bottom"] : List Str) []
  g_law_lowest : mg "_law_lowest" = some (.ref a.f_law_lowest)
  k_law_lowest : PySem.W.keepIn K (.ref a.f_law_lowest) = true
  F_law_refusal : Fun K "_law_refusal" "_law_refusal" s_law_refusal a.f_law_refusal a.d_law_refusal
  B_law_refusal : Binds K a.d_law_refusal (["_law_top", "_law_bottom"] : List Str) []
  g_law_refusal : mg "_law_refusal" = some (.ref a.f_law_refusal)
  k_law_refusal : PySem.W.keepIn K (.ref a.f_law_refusal) = true
  F_law_odd_refused : Fun K "_law_odd_refused" "_law_odd_refused" s_law_odd_refused a.f_law_odd_refused a.d_law_odd_refused
  B_law_odd_refused : Binds K a.d_law_odd_refused (["_law_odd"] : List Str) []
  g_law_odd_refused : mg "_law_odd_refused" = some (.ref a.f_law_odd_refused)
  k_law_odd_refused : PySem.W.keepIn K (.ref a.f_law_odd_refused) = true
  F_law : Fun K "law" "law" s_law a.f_law a.d_law
  B_law : Binds K a.d_law (["_law_script"] : List Str) []
  g_law : mg "law" = some (.ref a.f_law)
  k_law : PySem.W.keepIn K (.ref a.f_law) = true
  g_Ratio : mg "Ratio" = some (.ref a.C_Ratio)
  c_Ratio : Cls K a.C_Ratio
  I_Ratio : InsC K a.C_Ratio
  M_Ratio : Mk K a.C_Ratio a.f_Ratio_init
  g_FontError : mg "FontError" = some (.ref a.C_FontError)
  g_InvalidGlyph : mg "InvalidGlyph" = some (.ref a.C_InvalidGlyph)
  E_InvalidNumber : ErrC P K mg "InvalidNumber" "InvalidNumber.__init__" (defArgs s_InvalidNumber_init) (defBody s_InvalidNumber_init) (defScope s_InvalidNumber_init) a.C_InvalidNumber a.i_InvalidNumber a.c_InvalidNumber a.k_InvalidNumber
  Y_InvalidNumber : Txt1 "InvalidNumber.__init__" "value" "not a valid number" (defArgs s_InvalidNumber_init) (defBody s_InvalidNumber_init) (defScope s_InvalidNumber_init)
  X_InvalidNumber : ExcC K a.C_InvalidNumber
  x_InvalidNumber_value : PySem.W.findIn K (.ref a.C_InvalidNumber) "value" = some none
  n_ValueError : mg "ValueError" = none
  n_abs : mg "abs" = none
  n_bool : mg "bool" = none
  n_int : mg "int" = none
  n_isinstance : mg "isinstance" = none
  n_len : mg "len" = none
  n_list : mg "list" = none
  n_range : mg "range" = none
  na_Ratio_top : NoAttr K a.C_Ratio "top"
  na_Ratio_bottom : NoAttr K a.C_Ratio "bottom"
  xm_IN_FE : PySem.W.exmOne K (.ref a.C_InvalidNumber) (.ref a.C_FontError) = some true
  ki_IN_VE : PySem.W.kitOne K (.ref a.C_InvalidNumber) (.type "ValueError") = some true
  ki_IN_IG : PySem.W.kitOne K (.ref a.C_InvalidNumber) (.ref a.C_InvalidGlyph) = some false
end FG
namespace FG
open PySem PySem.Spec L2
local macro_rules | `(tactic| walk_at "s") => `(tactic| first
  | with_reducible refine w_seq ?_
  | with_reducible refine w_asg ?_
  | with_reducible refine w_ifs ?_
  | with_reducible refine w_ret ?_
  | with_reducible refine w_drop ?_
  | ((with_reducible refine' w_var ?h1 ?_); case h1 => rfl)
  | with_reducible refine w_c ?_
  | with_reducible refine w_op ?_
  | with_reducible refine w_I0 ?_
  | with_reducible refine w_cons ?_
  | with_reducible refine w_nil ?_
  | ((with_reducible refine' w_gname ?h1 ?_); case h1 => dsimp only [List.set])
  | with_reducible refine w_test ?_
  | with_reducible refine w_bl ?_
  | with_reducible refine w_blE ?_
  | with_reducible refine w_cb ?_
  | with_reducible refine w_call ?_
  | with_reducible refine w_callSD ?_
  | with_reducible refine w_andV ?_
  | with_reducible refine w_orV ?_
  | with_reducible refine w_notV ?_
  | with_reducible refine w_and ?_
  | with_reducible refine w_or ?_
  | with_reducible refine w_not ?_
  | with_reducible refine w_if ?_
  | with_reducible refine w_un ?_
  | with_reducible refine w_U ?_
  | with_reducible refine w_next ?_
  | with_reducible refine w_retN ?_
  | with_reducible refine w_tB ?_
  | with_reducible refine w_tup ?_
  | with_reducible refine w_lst ?_
  | with_reducible refine w_abs ?_
  | with_reducible refine w_int1 ?_
  | ((with_reducible refine' w_eq ?h1 ?_); case h1 => rfl)
  | ((with_reducible refine' w_ne ?h1 ?_); case h1 => rfl)
  | with_reducible refine w_gsub ?_
  | with_reducible refine w_sfld ?_
  | with_reducible refine w_par ?_
  | with_reducible refine w_rs ?_
  | with_reducible refine w_forR1 ?_
  | with_reducible refine w_forR2 ?_
  | with_reducible refine w_forL ?_
  | with_reducible refine w_fld ?_
  | with_reducible refine iteT ?_
  | with_reducible refine iteF ?_
  | with_reducible refine iteNT ?_
  | with_reducible refine iteNF ?_
  | with_reducible refine w_mk1 ?_
  | with_reducible refine w_mk2 ?_
  | with_reducible refine w_one ?_
  | with_reducible refine w_two ?_
  | with_reducible refine w_sl ?_
  | with_reducible refine w_nopart ?_
  | with_reducible refine w_part ?_
  | with_reducible refine w_exI ?_
  | with_reducible refine w_mks ?_
  | with_reducible refine w_isN ?_
  | with_reducible refine w_notN ?_
  | with_reducible refine w_min2 ?_
  | with_reducible refine w_max2 ?_
  | ((with_reducible refine' w_ix ?h1 ?h2 ?_); (case h1 => walk_at "q"); (case h2 => rfl))
  | ((with_reducible refine' w_ixT ?h1 ?h2 ?_); (case h1 => walk_at "q"); (case h2 => rfl))
  | ((with_reducible refine' w_setL ?h1 ?h2 ?_); (case h1 => walk_at "h"); (case h2 => rfl))
  | ((with_reducible refine' w_lenS ?h1 ?_); (case h1 => walk_at "q"))
  | ((with_reducible refine' w_lenT ?h1 ?_); (case h1 => walk_at "q"))
  | ((with_reducible refine' w_I ?h1 ?_); (case h1 => first | (show (0 : Int) < _; first | decide | assumption) | exact ⟨by decide, by decide, by decide⟩ | (show CDivX _ _; exact ⟨by decide, by decide +kernel⟩) | (show CDivX _ _; apply_assumption) | (show CMul _ _; first | exact Or.inl ⟨by decide, by decide⟩ | exact Or.inr ⟨by decide, by decide⟩ | exact Or.inl ⟨by omega, by omega⟩ | exact Or.inr ⟨by omega, by omega⟩))))
local macro_rules | `(tactic| walk_at "h") => `(tactic| first | assumption | exact upd_same | (refine upd_old ?_ ?_ <;> assumption) | ((refine (upd_ne ?_).trans ?_) <;> (first | assumption | walk_at "h" | exact Ne.symm (by assumption))))
local macro_rules | `(tactic| walk_at "q") => `(tactic| first | assumption | exact SqL.of (by walk_at "h") | exact SqT.of (by walk_at "h"))
local macro_rules | `(tactic| walk_at "w") => `(tactic| repeat (walk_at "s"))

/-- what isinstance(x, int) and not isinstance(x, bool) gives -/
def IsI (K : PySem.W.Frag) (H : Hp) (x : V) (b : Bool) : Prop := ∃ t b1 b2, TyX K H x t ∧ PySem.W.kitOne K t (.type "int") = some b1 ∧ (b1 = true → PySem.W.kitOne K t (.type "bool") = some b2) ∧ b = (b1 && !b2)
theorem isI_int {K : PySem.W.Frag} {H : Hp} (i : Int) : IsI K H (.int i) true := ⟨_, true, false, .base (.int i), kit_ty (by decide +kernel), fun _ => kit_ty (by decide +kernel), rfl⟩
theorem isI_bl {K : PySem.W.Frag} {H : Hp} (b : Bool) : IsI K H (.bl b) false := ⟨_, true, true, .base (.bl b), kit_ty (by decide +kernel), fun _ => kit_ty (by decide +kernel), rfl⟩
theorem isI_non {K : PySem.W.Frag} {H : Hp} : IsI K H .non false := ⟨_, false, false, .base .non, kit_ty (by decide +kernel), (fun z => by cases z), rfl⟩
theorem isI_str {K : PySem.W.Frag} {H : Hp} (x : Str) : IsI K H (.str x) false := ⟨_, false, false, .base (.str x), kit_ty (by decide +kernel), (fun z => by cases z), rfl⟩
theorem isI_lst {K : PySem.W.Frag} {H : Hp} {a : Addr} {xs : List V} (e : H a = some (.lst xs)) : IsI K H (.ref a) false := ⟨_, false, false, .base (.lst e), kit_ty (by decide +kernel), (fun z => by cases z), rfl⟩
theorem isI_tup {K : PySem.W.Frag} {H : Hp} {a : Addr} {xs : List V} (e : H a = some (.tup xs)) : IsI K H (.ref a) false := ⟨_, false, false, .base (.tup e), kit_ty (by decide +kernel), (fun z => by cases z), rfl⟩
/-- both defs that ask it -/
abbrev sp_isint (K : PySem.W.Frag) : Sp := sp1 fun x H Q _ => ∃ b, IsI K H x b ∧ Q (.bl b) H

abbrev sp_is_integer (K : PySem.W.Frag) (a : Ad) : Sp := sp_isint K
theorem ok_is_integer {P : Program} {w : World} {K : PySem.W.Frag} {mg : Str → Option Value} {base : Heap} {a : Ad} (T : Txt P K mg a) : FnOk P w K mg base CX0 1 a.f_is_integer a.d_is_integer (["value"] : List Str) (sp_is_integer K a) := by
  refine T.F_is_integer.ok sc_is_integer (fun vs H Q E h => sp1_len h) (fun cdv A outer s H vs Q E hr h => ?_)
  have hu := hu_of hr
  refine ⟨_, (pss_one (ps_ret (pe_and (pe_callB call_isi (by rfl) T.n_isinstance (by decide +kernel) (pa_cons (pv 0) (pa_cons (pe_bltn (v := .ty "int") (by rfl) T.n_int (by decide +kernel) rfl) pa_nil))) (pe_one (pe_not (pe_callB call_isi (by rfl) T.n_isinstance (by decide +kernel) (pa_cons (pv 0) (pa_cons (pe_bltn (v := .ty "bool") (by rfl) T.n_bool (by decide +kernel) rfl) pa_nil)))))))), ?_⟩
  try dsimp only [L2.cxOf]
  obtain ⟨x, rfl, b, ⟨t, b1, b2, ty, k1, k2, rfl⟩, k⟩ := h
  rw [show L2.start (["value"] : List Str) [x] = ([some (x)] : L2.St) from rfl]
  walk_at "w"
  refine w_isi (.ty "int") ty k1 ?_
  walk_at "w"
  refine it_b (fun e1 => ?_) (fun e1 => ?_)
  · walk_at "w"
    refine w_isi (.ty "bool") ty (k2 e1) ?_
    walk_at "w"
    subst e1
    exact k
  · subst e1
    exact k

def sp_greatest_divisor (K : PySem.W.Frag) (a : Ad) : Sp := sp2 fun x y H Q _ => ∃ l r : Int, x = .int l ∧ y = .int r ∧ Q (.int (Int.gcd l r : Nat)) H
theorem ok_greatest_divisor {P : Program} {w : World} {K : PySem.W.Frag} {mg : Str → Option Value} {base : Heap} {a : Ad} (T : Txt P K mg a) : FnOk P w K mg base CX0 1 a.f_greatest_divisor a.d_greatest_divisor (["left", "right"] : List Str) (sp_greatest_divisor K a) := by
  refine T.F_greatest_divisor.ok sc_greatest_divisor (fun vs H Q E h => sp2_len h) (fun cdv A outer s H vs Q E hr h => ?_)
  have hu := hu_of hr
  refine ⟨_, (pss_cons (ps_set (i := 0) sc_greatest_divisor.nd rfl (Or.inl rfl) (pe_callB qc_abs (by rfl) T.n_abs (by decide +kernel) (pa_cons (pv 0) pa_nil)))
      (pss_cons (ps_set (i := 1) sc_greatest_divisor.nd rfl (Or.inl rfl) (pe_callB qc_abs (by rfl) T.n_abs (by decide +kernel) (pa_cons (pv 1) pa_nil)))
      (pss_cons (ps_while PassesOwn.never (pt_cmpR op_gt (pv 1) pe_int (nomark _)) (pss_one (ps_par (i := 0) (j := 1) (by rfl) sc_greatest_divisor.nd rfl rfl (by decide) rfl rfl (pa_cons (pv 1) (pa_cons (pe_op op_mod (pv 0) (pv 1)) pa_nil)) (by rfl))))
      (pss_one (ps_ret (pv 0)))))), ?_⟩
  try dsimp only [L2.cxOf]
  obtain ⟨x, y, rfl, l, r, rfl, rfl, k⟩ := h
  rw [show L2.start (["left", "right"] : List Str) [(.int l), (.int r)] = ([some ((.int l)), some ((.int r))] : L2.St) from rfl]
  walk_at "w"
  refine while_by (fun σ' H' => H' = H ∧ ∃ p : Int × Int, σ' = [some (.int p.1), some (.int p.2)] ∧ 0 ≤ p.1 ∧ 0 ≤ p.2 ∧ Int.gcd p.1 p.2 = Int.gcd l r) (fun σ' _ => match σ' with | [_, some (.int z)] => z.toNat | _ => 0) ?_ ?_ ?_
  · have e1 := pabs_eq l
    have e2 := pabs_eq r
    refine ⟨rfl, (pabs l, pabs r), rfl, ?_, ?_, ?_⟩
    · show 0 ≤ pabs l
      omega
    · show 0 ≤ pabs r
      omega
    · show Int.gcd (pabs l) (pabs r) = Int.gcd l r
      rw [e1, e2]
      rfl
  · rintro σ' H' ⟨rfl, p, rfl, h1, h2, h3⟩
    walk_at "w"
    refine it_dec (fun c => ?_) (fun c => ?_)
    · walk_at "w"
      refine ⟨⟨rfl, (p.2, p.1 % p.2), rfl, h2, Int.emod_nonneg _ (by omega), ?_⟩, ?_⟩
      · have e : eStep p = (p.2, p.1 % p.2) := if_pos c
        have q := eStep_gcd (p := p)
        rw [e] at q
        exact q.trans h3
      · show (p.1 % p.2).toNat < p.2.toNat
        have := Int.emod_lt_of_pos p.1 c
        have := Int.emod_nonneg p.1 (show p.2 ≠ 0 by omega)
        omega
    · walk_at "w"
      have z : p.2 = 0 := by omega
      rw [z, Int.gcd_zero_right] at h3
      have e : p.1 = ((Int.gcd l r : Nat) : Int) := by omega
      rw [e]
      exact k
  · intro σ' H' Q1 Q2 m z
    obtain ⟨v, e1, z⟩ := z
    obtain ⟨i, j, e3, e4, b, e5, z⟩ := z
    exact ⟨v, e1, i, j, e3, e4, b, e5, m _ _ z⟩

/-- the law's bag of draws at b -/
def bagL (it : Addr) (p r s c : Int) : List V := [.ref it, .int p, .int r, .int s, .int c]
structure BagAt (H : Hp) (b : Addr) : Prop where
  ex : ∃ (it : Addr) (ns : List Int) (p r s c : Int), H b = some (.lst (bagL it p r s c)) ∧ H it = some (.lst (ns.map V.int)) ∧ b ≠ it ∧ 0 ≤ p ∧ 0 ≤ s ∧ s < 2147483647
theorem BagAt.lst {H : Hp} {b : Addr} (B : BagAt H b) : ∃ xs, H b = some (.lst xs) := by
  obtain ⟨it, ns, p, r, s, c, h, _⟩ := B.ex
  exact ⟨_, h⟩
theorem BagAt.same {H H' : Hp} {b : Addr} (B : BagAt H b) (s : Same H H') : BagAt H' b := by
  obtain ⟨it, ns, p, r, s', c, h1, h2, h3⟩ := B.ex
  exact ⟨it, ns, p, r, s', c, s _ _ h1, s _ _ h2, h3⟩
theorem BagAt.put {H : Hp} {b it : Addr} {ns : List Int} {p r s c : Int} (h2 : H it = some (.lst (ns.map V.int))) (hb : b ≠ it) (hp : 0 ≤ p) (hs : 0 ≤ s) (hs2 : s < 2147483647) : BagAt (upd H b (.lst (bagL it p r s c))) b :=
  ⟨it, ns, p, r, s, c, upd_same, by rw [upd_ne (Ne.symm hb)]; exact h2, hb, hp, hs, hs2⟩

def sp_law_bag (K : PySem.W.Frag) (a : Ad) : Sp := sp1 fun x H Q _ => ∃ (s : Addr) (ns : List Int), x = .ref s ∧ SqL K H s (ns.map V.int) ∧ ∀ b H', H b = none → Same H H' → BagAt H' b → Q (.ref b) H'
theorem ok_law_bag {P : Program} {w : World} {K : PySem.W.Frag} {mg : Str → Option Value} {base : Heap} {a : Ad} (T : Txt P K mg a) : FnOk P w K mg base CX0 1 a.f_law_bag a.d_law_bag (["_law_script"] : List Str) (sp_law_bag K a) := by
  refine T.F_law_bag.ok sc_law_bag (fun vs H Q E h => sp1_len h) (fun cdv A outer s H vs Q E hr h => ?_)
  have hu := hu_of hr
  refine ⟨_, (pss_one (ps_ret (pe_lst (pa_cons (pe_callTy qc_list (by rfl) T.n_list (by decide +kernel) (pa_cons (pe_slice sl_list (pv 0) po_none (po_some pe_int)) pa_nil)) (pa_cons pe_int (pa_cons pe_int (pa_cons pe_int (pa_cons pe_int pa_nil)))))))), ?_⟩
  try dsimp only [L2.cxOf]
  obtain ⟨x, rfl, s0, ns, rfl, hS, k⟩ := h
  rw [show L2.start (["_law_script"] : List Str) [(.ref s0)] = ([some ((.ref s0))] : L2.St) from rfl]
  walk_at "w"
  refine w_slL hS fun p1 n1 => ?_
  walk_at "w"
  refine w_listS (SqL.of upd_same) fun p2 n2 => ?_
  walk_at "w"
  refine ⟨by show 5 ≤ sizeLine; decide, fun b n3 => ?_⟩
  have z1 : H p2 = none := (Same.new (o := .lst (cutV (ns.map V.int) none (some 63))) n1).free n2
  have z2 : (upd H p1 (.lst (cutV (ns.map V.int) none (some 63)))) b = none := (Same.new n2).free n3
  have z3 : H b = none := (Same.new n1).free z2
  have e2 : b ≠ p2 := fun z => by
    rw [z, upd_same] at n3
    cases n3
  refine k b _ z3 (Same.upd (Same.upd (Same.new n1) z1) z3) ?_
  obtain ⟨ms, em⟩ : ∃ ms : List Int, cutV (ns.map V.int) none (some 63) = ms.map V.int := by
    unfold cutV
    rw [← List.map_drop, ← List.map_take]
    exact ⟨_, rfl⟩
  rw [em]
  exact BagAt.put upd_same e2 (by decide) (by decide) (by decide)

def sp_law_take (K : PySem.W.Frag) (a : Ad) : Sp := sp2 fun x y H Q _ => ∃ (b : Addr) (n : Int), x = .ref b ∧ y = .int n ∧ BagAt H b ∧ 0 < n ∧ n.natAbs < 2 ^ 8000 ∧ ∀ r H', 0 ≤ r → r < n → BagAt H' b → (∀ c, c ≠ b → H' c = H c) → Q (.int r) H'
theorem ok_law_take {P : Program} {w : World} {K : PySem.W.Frag} {mg : Str → Option Value} {base : Heap} {a : Ad} (T : Txt P K mg a) : FnOk P w K mg base CX0 1 a.f_law_take a.d_law_take (["_law_bag_here", "_law_size"] : List Str) (sp_law_take K a) := by
  refine T.F_law_take.ok sc_law_take (fun vs H Q E h => sp2_len h) (fun cdv A outer s H vs Q E hr h => ?_)
  have hu := hu_of hr
  refine ⟨_, (pss_cons (ps_if (pt_cmpR op_ge (pe_ix ix_list (pv 0) pe_int (fun _ _ => rfl)) (pe_op op_pow pe_int pe_int) (nomark _)) (pss_cons (ps_set (i := 2) sc_law_take.nd rfl (Or.inl rfl) (pe_op op_mod (pe_callTy qc_int1 (by rfl) T.n_int (by decide +kernel) (pa_cons (pe_ix ix_list (pv 0) pe_int (fun _ _ => rfl)) pa_nil)) (pv 1)))
      (pss_cons (ps_asg (pe_op op_fdivX (pe_ix ix_list (pv 0) pe_int (fun _ _ => rfl)) (pv 1)) (pg_sub (pv 0) pe_int set_list))
      (pss_one (ps_ret (pv 2))))) pss_nil)
      (pss_cons (ps_set (i := 3) sc_law_take.nd rfl (Or.inl rfl) pe_int)
      (Evl.pss_cut (ps_if (pt_cmpR op_lt (pe_ix ix_list (pv 0) pe_int (fun _ _ => rfl)) (pe_callB qc_len (by rfl) T.n_len (by decide +kernel) (pa_cons (pe_ix ix_list (pv 0) pe_int (fun _ _ => rfl)) pa_nil)) (nomark _)) (pss_cons (ps_set (i := 3) sc_law_take.nd rfl (Or.inl rfl) (pe_ix ix_list (pe_ix ix_list (pv 0) pe_int (fun _ _ => rfl)) (pe_ix ix_list (pv 0) pe_int (fun _ _ => rfl)) (fun _ _ => rfl)))
      (pss_one (ps_asg (pe_op op_add (pe_ix ix_list (pv 0) pe_int (fun _ _ => rfl)) pe_int) (pg_sub (pv 0) pe_int set_list)))) pss_nil)
      (pss_cons (ps_if (pt_cmpR op_ge (pv 3) (pe_op op_pow pe_int pe_int) (nomark _)) (pss_cons (ps_asg (pe_op op_fdivX (pv 3) (pv 1)) (pg_sub (pv 0) pe_int set_list))
      (pss_one (ps_ret (pe_op op_mod (pe_callTy qc_int1 (by rfl) T.n_int (by decide +kernel) (pa_cons (pv 3) pa_nil)) (pv 1))))) pss_nil)
      (pss_cons (ps_asg (pe_op op_add (pe_ix ix_list (pv 0) pe_int (fun _ _ => rfl)) pe_int) (pg_sub (pv 0) pe_int set_list))
      (pss_cons (ps_asg (pe_op op_mod (pe_callTy qc_int1 (by rfl) T.n_int (by decide +kernel) (pa_cons (pe_op op_add (pe_op op_add (pe_op op_mul (pe_ix ix_list (pv 0) pe_int (fun _ _ => rfl)) pe_int) (pv 3)) (pe_op op_mul (pe_ix ix_list (pv 0) pe_int (fun _ _ => rfl)) pe_int)) pa_nil)) pe_int) (pg_sub (pv 0) pe_int set_list))
      (pss_one (ps_ret (pe_op op_mod (pe_op op_fdivX (pe_op op_mod (pe_callTy qc_int1 (by rfl) T.n_int (by decide +kernel) (pa_cons (pe_op op_mul (pe_ix ix_list (pv 0) pe_int (fun _ _ => rfl)) (pe_ix ix_list (pv 0) pe_int (fun _ _ => rfl))) pa_nil)) pe_int) pe_int) (pv 1)))))))))), ?_⟩
  try dsimp only [L2.cxOf]
  obtain ⟨x, y, rfl, b, n, rfl, rfl, B, hn, hz, k⟩ := h
  obtain ⟨it, ns, p, r, s0, c, hb, hit, hne, hp, hs, hs2⟩ := B.ex
  have dn : ∀ i, CDivX i n := fun i => divX (by omega) hz (by decide) (by decide)
  have mn : ∀ i : Int, 0 ≤ i % n ∧ i % n < n := fun i => ⟨Int.emod_nonneg _ (by omega), Int.emod_lt_of_pos _ hn⟩
  have fr : ∀ (o : HO) (c : Addr), c ≠ b → upd H b o c = H c := fun o c z => upd_ne z
  rw [show L2.start (["_law_bag_here", "_law_size", "_law_digit", "_law_cell"] : List Str) [(.ref b), (.int n)] = ([some ((.ref b)), some ((.int n)), none, none] : L2.St) from rfl]
  walk_at "w"
  refine it_dec (fun c1 => ?_) (fun c1 => ?_)
  · walk_at "w"
    exact k _ _ (mn r).1 (mn r).2 (BagAt.put hit hne hp hs hs2) (fr _)
  · walk_at "w"
    refine ⟨fun σ' H' => ∃ cell p', σ' = [some (.ref b), some (.int n), none, some (.int cell)] ∧ 0 ≤ p' ∧ H' b = some (.lst (bagL it p' r s0 c)) ∧ ∀ z, z ≠ b → H' z = H z, ?_, ?_⟩
    · walk_at "w"
      refine it_dec (fun c2 => ?_) (fun c2 => ?_)
      · walk_at "w"
        obtain ⟨j, rfl⟩ := Int.eq_ofNat_of_zero_le hp
        rw [List.length_map] at c2
        have hj : j < ns.length := Int.ofNat_lt.mp c2
        refine w_ix (SqL.of hit) (at_of (j := j) rfl (by rw [List.getElem?_map, List.getElem?_eq_getElem hj]; rfl)) ?_
        walk_at "w"
        exact ⟨_, (j : Int) + 1, rfl, by omega, upd_same, fun z hz => upd_ne hz⟩
      · walk_at "w"
        exact ⟨0, p, rfl, hp, hb, fun _ _ => rfl⟩
    · rintro σ' H' ⟨cell, p', rfl, hp', hb', fr'⟩
      have hit' : H' it = some (.lst (ns.map V.int)) := (fr' it (Ne.symm hne)).trans hit
      walk_at "w"
      refine it_dec (fun c3 => ?_) (fun c3 => ?_)
      · walk_at "w"
        exact k _ _ (mn _).1 (mn _).2 (BagAt.put hit' hne hp' hs hs2) fun z hz => (upd_ne hz).trans (fr' z hz)
      · have q0 := Int.emod_nonneg (s0 * 48271 + cell + (c + 1) * 69621) (show (2147483647 : Int) ≠ 0 by decide)
        have q1 := Int.emod_lt_of_pos (s0 * 48271 + cell + (c + 1) * 69621) (show (0 : Int) < 2147483647 by decide)
        walk_at "w"
        refine k _ _ (mn _).1 (mn _).2 ?_ fun z hz => ((upd_ne hz).trans (upd_ne hz)).trans (fr' z hz)
        rw [upd_upd]
        exact BagAt.put hit' hne hp' q0 q1

/-- InvalidNumber(v) is raised -/
abbrev raiseIN (a : Ad) (v : V) (H : Hp) (E : XK) : Prop := ∀ d, H d = none → E (.ref a.C_InvalidNumber) (some d) (upd H d (.xd [("value", v)]))
theorem ratio_put {x y : V} : putF "bottom" y (putF "top" x []) = ([("top", x), ("bottom", y)] : List (Str × V)) := by
  have h : ¬ (("top" : Str) = "bottom") := by decide +kernel
  show (if ("top" : Str) = "bottom" then [(("top" : Str), y)] else (("top" : Str), x) :: putF "bottom" y []) = _
  rw [if_neg h]
  rfl

def sp_Ratio_init (K : PySem.W.Frag) (a : Ad) : Sp := sp3 fun s x y H Q E => ∃ (p dx : Addr) (bt : Bool), s = .ref p ∧ H p = some (.ins a.C_Ratio dx []) ∧ IsI K H x bt ∧ (bt = false → raiseIN a x H E) ∧
  (bt = true → ∃ t : Int, x = .int t ∧ ∃ bb, IsI K H y bb ∧ (bb = false → raiseIN a y H E) ∧ (bb = true → ∃ b : Int, y = .int b ∧ (b = 0 → raiseIN a y H E) ∧
    (b ≠ 0 → b.natAbs < 2 ^ 8000 ∧ Q .non (upd H p (.ins a.C_Ratio dx [("top", .int (lowT t b)), ("bottom", .int (lowB t b))])))))
theorem ok_Ratio_init {P : Program} {w : World} {K : PySem.W.Frag} {mg : Str → Option Value} {base : Heap} {a : Ad} (T : Txt P K mg a) : FnOk P w K mg base (L2.CX P w) 2 a.f_Ratio_init a.d_Ratio_init (["self", "top", "bottom"] : List Str) (sp_Ratio_init K a) := by
  refine T.F_Ratio_init.ok sc_Ratio_init (fun vs H Q E h => sp3_len h) (fun cdv A outer s H vs Q E hr h => ?_)
  have hu := hu_of hr
  refine ⟨_, (pss_cons (ps_if (pt_not (pt_val (pe_call (ok_is_integer T) (hr.mono (by decide)) rfl T.g_is_integer T.k_is_integer T.B_is_integer .nil pass0 (pa_cons (pv 1) pa_nil)))) (pss_one (ps_rs rfl (takes_of rfl rfl rfl rfl) (pmk1 T.E_InvalidNumber T.Y_InvalidNumber T.x_InvalidNumber_value hr (pa_cons (pv 1) pa_nil)))) pss_nil)
      (pss_cons (ps_if (PW.pt (pw_or (pt_not (pt_val (pe_call (ok_is_integer T) (hr.mono (by decide)) rfl T.g_is_integer T.k_is_integer T.B_is_integer .nil pass0 (pa_cons (pv 2) pa_nil)))) (pw_or1 (pt_cmpR op_eq (pv 2) pe_int (nomark _))))) (pss_one (ps_rs rfl (takes_of rfl rfl rfl rfl) (pmk1 T.E_InvalidNumber T.Y_InvalidNumber T.x_InvalidNumber_value hr (pa_cons (pv 2) pa_nil)))) pss_nil)
      (pss_cons (ps_set (i := 3) sc_Ratio_init.nd rfl (Or.inl rfl) (pe_call (ok_greatest_divisor T) (hr.mono (by decide)) rfl T.g_greatest_divisor T.k_greatest_divisor T.B_greatest_divisor .nil pass0 (pa_cons (pv 1) (pa_cons (pv 2) pa_nil))))
      (Evl.pss_cut (ps_if (pt_cmpR op_lt (pv 2) pe_int (nomark _)) (pss_one (ps_set (i := 3) sc_Ratio_init.nd rfl (Or.inl rfl) (pe_un un_neg (pv 3)))) pss_nil)
      (pss_cons (ps_fld (pv 0) (pe_op op_fdivX (pv 1) (pv 3)) rfl)
      (pss_one (ps_fld (pv 0) (pe_op op_fdivX (pv 2) (pv 3)) rfl))))))), ?_⟩
  try dsimp only [L2.cxOf]
  obtain ⟨s0, x, y, rfl, p, dx, bt, rfl, hp, hx, k0, k1⟩ := h
  rw [show L2.start (["self", "top", "bottom", "shared"] : List Str) [(.ref p), x, y] = ([some ((.ref p)), some (x), some (y), none] : L2.St) from rfl]
  walk_at "w"
  refine ⟨x, rfl, bt, hx, ?_⟩
  cases bt with
  | false =>
    walk_at "w"
    exact k0 rfl
  | true =>
    obtain ⟨t, rfl, bb, hy, k2, k3⟩ := k1 rfl
    walk_at "w"
    refine ⟨y, rfl, bb, hy, ?_⟩
    cases bb with
    | false =>
      walk_at "w"
      exact k2 rfl
    | true =>
      obtain ⟨b, rfl, k4, k5⟩ := k3 rfl
      walk_at "w"
      refine it_dec (fun c => ?_) (fun c => ?_)
      · walk_at "w"
        exact k4 (V.int.inj c)
      · walk_at "w"
        have hb : b ≠ 0 := fun z => c (congrArg V.int z)
        obtain ⟨hz, k6⟩ := k5 hb
        refine ⟨.int t, .int b, rfl, t, b, rfl, rfl, ?_⟩
        have g0 := gcd_pos_of (t := t) hb
        have g1 : Int.gcd t b ≤ b.natAbs := Int.gcd_le_natAbs_right t hb
        have dx0 : ∀ i, CDivX i (sgn b (Int.gcd t b)) := fun i => divX (sgn_ne hb) (Nat.lt_of_le_of_lt (by unfold sgn; split <;> omega) hz) (by decide) (by decide)
        walk_at "w"
        refine ⟨fun σ' H' => H' = H ∧ σ' = [some (.ref p), some (.int t), some (.int b), some (.int (sgn b (Int.gcd t b)))], ?_, ?_⟩
        · walk_at "w"
          refine it_dec (fun c => ?_) (fun c => ?_)
          · walk_at "w"
            exact ⟨rfl, by rw [show sgn b (Int.gcd t b) = -((Int.gcd t b : Nat) : Int) from if_pos c]⟩
          · walk_at "w"
            exact ⟨rfl, by rw [show sgn b (Int.gcd t b) = ((Int.gcd t b : Nat) : Int) from if_neg c]⟩
        · rintro σ' H' ⟨rfl, rfl⟩
          walk_at "w"
          refine ⟨p, _, dx, _, rfl, hp, T.c_Ratio, T.na_Ratio_top, by decide, ?_⟩
          walk_at "w"
          refine ⟨p, _, dx, _, rfl, upd_same, T.c_Ratio, T.na_Ratio_bottom, by show 1 < 1000; decide, ?_⟩
          rw [upd_upd, ratio_put]
          exact k6

/-- a ratio t over b stands at p -/
def rfields (t b : Int) : List (Str × V) := [("top", .int t), ("bottom", .int b)]
structure RatioAt (a : Ad) (H : Hp) (p : Addr) (t b : Int) : Prop where
  ex : ∃ dx, H p = some (.ins a.C_Ratio dx (rfields t b))
theorem rl_top (t b : Int) : (rfields t b).lookup ("top" : Str) = some (.int t) := by simp [rfields, List.lookup]
theorem rl_bottom (t b : Int) : (rfields t b).lookup ("bottom" : Str) = some (.int b) := by
  have h : (("bottom" : Str) == "top") = false := by decide +kernel
  simp [rfields, List.lookup, h]
theorem RatioAt.same {a : Ad} {H H' : Hp} {p : Addr} {t b : Int} (R : RatioAt a H p t b) (s : Same H H') : RatioAt a H' p t b := by
  obtain ⟨dx, h⟩ := R.ex
  exact ⟨dx, s _ _ h⟩

abbrev sp_law_int (K : PySem.W.Frag) (a : Ad) : Sp := sp_isint K
theorem ok_law_int {P : Program} {w : World} {K : PySem.W.Frag} {mg : Str → Option Value} {base : Heap} {a : Ad} (T : Txt P K mg a) : FnOk P w K mg base CX0 1 a.f_law_int a.d_law_int (["_law_actual"] : List Str) (sp_law_int K a) := by
  refine T.F_law_int.ok sc_law_int (fun vs H Q E h => sp1_len h) (fun cdv A outer s H vs Q E hr h => ?_)
  have hu := hu_of hr
  refine ⟨_, (pss_one (ps_ret (pe_and (pe_callB call_isi (by rfl) T.n_isinstance (by decide +kernel) (pa_cons (pv 0) (pa_cons (pe_bltn (v := .ty "int") (by rfl) T.n_int (by decide +kernel) rfl) pa_nil))) (pe_one (pe_not (pe_callB call_isi (by rfl) T.n_isinstance (by decide +kernel) (pa_cons (pv 0) (pa_cons (pe_bltn (v := .ty "bool") (by rfl) T.n_bool (by decide +kernel) rfl) pa_nil)))))))), ?_⟩
  try dsimp only [L2.cxOf]
  obtain ⟨x, rfl, b, ⟨t, b1, b2, ty, k1, k2, rfl⟩, k⟩ := h
  rw [show L2.start (["_law_actual"] : List Str) [x] = ([some (x)] : L2.St) from rfl]
  walk_at "w"
  refine w_isi (.ty "int") ty k1 ?_
  walk_at "w"
  refine it_b (fun e1 => ?_) (fun e1 => ?_)
  · walk_at "w"
    refine w_isi (.ty "bool") ty (k2 e1) ?_
    walk_at "w"
    subst e1
    exact k
  · subst e1
    exact k

def sp_law_is (K : PySem.W.Frag) (a : Ad) : Sp := sp2 fun x y H Q _ => ∃ (p d : Addr) (t b : Int), x = .ref p ∧ RatioAt a H p t b ∧ y = .ref d ∧ SqT K H d [.int t, .int b] ∧ Q (.bl true) H
theorem ok_law_is {P : Program} {w : World} {K : PySem.W.Frag} {mg : Str → Option Value} {base : Heap} {a : Ad} (T : Txt P K mg a) : FnOk P w K mg base CX0 2 a.f_law_is a.d_law_is (["_law_actual", "_law_due"] : List Str) (sp_law_is K a) := by
  refine T.F_law_is.ok sc_law_is (fun vs H Q E h => sp2_len h) (fun cdv A outer s H vs Q E hr h => ?_)
  have hu := hu_of hr
  refine ⟨_, (pss_cons (ps_if (PW.pt (pw_or (pt_not (pt_val (pe_callB call_isi (by rfl) T.n_isinstance (by decide +kernel) (pa_cons (pv 0) (pa_cons (pe_glob (v := .ref a.C_Ratio) rfl T.g_Ratio rfl) pa_nil))))) (pw_or (pt_not (pt_val (pe_call (ok_law_int T) (hr.mono (by decide)) rfl T.g_law_int T.k_law_int T.B_law_int .nil pass0 (pa_cons (pe_fld (pv 0) rfl) pa_nil)))) (pw_or1 (pt_not (pt_val (pe_call (ok_law_int T) (hr.mono (by decide)) rfl T.g_law_int T.k_law_int T.B_law_int .nil pass0 (pa_cons (pe_fld (pv 0) rfl) pa_nil)))))))) (pss_one (ps_ret pe_bl)) pss_nil)
      (pss_one (ps_ret (pe_and (pe_cmpR op_eq (pe_fld (pv 0) rfl) (pe_ix ix_tup (pv 1) pe_int (fun _ _ => rfl)) (nomark _)) (pe_one (pe_cmpR op_eq (pe_fld (pv 0) rfl) (pe_ix ix_tup (pv 1) pe_int (fun _ _ => rfl)) (nomark _))))))), ?_⟩
  try dsimp only [L2.cxOf]
  obtain ⟨x, y, rfl, p, d, t, b, rfl, R, rfl, hd, k⟩ := h
  obtain ⟨dx, hp⟩ := R.ex
  rw [show L2.start (["_law_actual", "_law_due"] : List Str) [(.ref p), (.ref d)] = ([some ((.ref p)), some ((.ref d))] : L2.St) from rfl]
  walk_at "w"
  refine w_isi (.own _) (ty_ins hp T.c_Ratio T.I_Ratio) kit_self ?_
  walk_at "w"
  refine ⟨p, _, dx, _, _, rfl, hp, T.c_Ratio, T.na_Ratio_top, rl_top t b, ?_⟩
  walk_at "w"
  refine ⟨_, rfl, true, isI_int t, ?_⟩
  walk_at "w"
  refine ⟨p, _, dx, _, _, rfl, hp, T.c_Ratio, T.na_Ratio_bottom, rl_bottom t b, ?_⟩
  walk_at "w"
  refine ⟨_, rfl, true, isI_int b, ?_⟩
  walk_at "w"
  refine ⟨p, _, dx, _, _, rfl, hp, T.c_Ratio, T.na_Ratio_top, rl_top t b, ?_⟩
  walk_at "w"
  refine it_pos rfl ?_
  walk_at "w"
  refine ⟨p, _, dx, _, _, rfl, hp, T.c_Ratio, T.na_Ratio_bottom, rl_bottom t b, ?_⟩
  walk_at "w"
  rw [decide_eq_true rfl]
  exact k

def sp_law_lowest (K : PySem.W.Frag) (a : Ad) : Sp := sp2 fun x y H Q _ => ∃ t b : Int, x = .int t ∧ y = .int b ∧ b ≠ 0 ∧ b.natAbs < 2 ^ 200 ∧ ∀ p, H p = none → Q (.ref p) (upd H p (.tup [.int (lowT t b), .int (lowB t b)]))
theorem ok_law_lowest {P : Program} {w : World} {K : PySem.W.Frag} {mg : Str → Option Value} {base : Heap} {a : Ad} (T : Txt P K mg a) : FnOk P w K mg base CX0 1 a.f_law_lowest a.d_law_lowest (["_law_top", "_law_bottom"] : List Str) (sp_law_lowest K a) := by
  refine T.F_law_lowest.ok sc_law_lowest (fun vs H Q E h => sp2_len h) (fun cdv A outer s H vs Q E hr h => ?_)
  have hu := hu_of hr
  refine ⟨_, (pss_cons (ps_set (i := 2) sc_law_lowest.nd rfl (Or.inl rfl) (pe_callB qc_abs (by rfl) T.n_abs (by decide +kernel) (pa_cons (pv 0) pa_nil)))
      (pss_cons (ps_set (i := 3) sc_law_lowest.nd rfl (Or.inl rfl) (pe_callB qc_abs (by rfl) T.n_abs (by decide +kernel) (pa_cons (pv 1) pa_nil)))
      (pss_cons (ps_for PassesOwn.never rfl (pi_range1 (by rfl) T.n_range (pa_cons pe_int pa_nil)) (pg_name (i := 4) sc_law_lowest.nd rfl (Or.inl rfl)) (pss_one (ps_if (pt_cmpR op_gt (pv 3) pe_int (nomark _)) (pss_cons (ps_set (i := 5) sc_law_lowest.nd rfl (Or.inl rfl) (pe_op op_mod (pv 2) (pv 3)))
      (pss_cons (ps_set (i := 2) sc_law_lowest.nd rfl (Or.inl rfl) (pv 3))
      (pss_one (ps_set (i := 3) sc_law_lowest.nd rfl (Or.inl rfl) (pv 5))))) pss_nil)))
      (Evl.pss_cut (ps_if (pt_cmpR op_lt (pv 1) pe_int (nomark _)) (pss_one (ps_set (i := 2) sc_law_lowest.nd rfl (Or.inl rfl) (pe_op op_sub pe_int (pv 2)))) pss_nil)
      (pss_one (ps_ret (pe_tup (pa_cons (pe_op op_fdivX (pv 0) (pv 2)) (pa_cons (pe_op op_fdivX (pv 1) (pv 2)) pa_nil))))))))), ?_⟩
  try dsimp only [L2.cxOf]
  obtain ⟨x, y, rfl, t, b, rfl, rfl, hb, hz, k⟩ := h
  have e1 := pabs_eq t
  have e2 := pabs_eq b
  have g1 : Int.gcd t b ≤ b.natAbs := Int.gcd_le_natAbs_right t hb
  have dx0 : ∀ i, CDivX i (sgn b (Int.gcd t b)) := fun i => divX (b := 200) (sgn_ne hb) (Nat.lt_of_le_of_lt (by unfold sgn; split <;> omega) hz) (by decide) (by decide)
  rw [show L2.start (["_law_top", "_law_bottom", "_law_left", "_law_right", "_law_k", "_law_rest"] : List Str) [(.int t), (.int b)] = ([some ((.int t)), some ((.int b)), none, none, none, none] : L2.St) from rfl]
  walk_at "w"
  refine ⟨400, rfl, by decide, by decide, turnsR (fun i σ' H' => H' = H ∧ ∃ z1 z2, σ' = [some (.int t), some (.int b), some (.int (eIter i (pabs t, pabs b)).1), some (.int (eIter i (pabs t, pabs b)).2), z1, z2]) ?_ ?_ ?_⟩
  · exact ⟨rfl, none, none, rfl⟩
  · rintro i σ' H' hi ⟨rfl, z1, z2, rfl⟩
    generalize hp : eIter i (pabs t, pabs b) = p
    have hn : eIter (i + 1) (pabs t, pabs b) = eStep p := by rw [← hp]; rfl
    walk_at "w"
    refine it_dec (fun c => ?_) (fun c => ?_)
    · walk_at "w"
      rw [hn, show eStep p = (p.2, p.1 % p.2) from if_pos c]
      exact ⟨rfl, _, _, rfl⟩
    · walk_at "w"
      rw [hn, show eStep p = p from if_neg c]
      exact ⟨rfl, _, _, rfl⟩
  · rintro σ' H' ⟨rfl, z1, z2, rfl⟩
    have q : eIter 400 (pabs t, pabs b) = (((Int.gcd t b : Nat) : Int), (0 : Int)) := by
      have w := eIter_400 (p := (pabs t, pabs b)) (by show 0 ≤ pabs t; omega) (by show 0 ≤ pabs b; omega) (by show pabs b < 2 ^ 200; omega)
      rw [w]
      show (((Int.gcd (pabs t) (pabs b) : Nat) : Int), (0 : Int)) = _
      rw [e1, e2]
      rfl
    rw [show Int.toNat 400 = 400 from rfl, q]
    refine ⟨fun σ' H2 => H2 = H' ∧ ∃ z1 z2 z3, σ' = [some (.int t), some (.int b), some (.int (sgn b (Int.gcd t b))), z3, z1, z2], ?_, ?_⟩
    · walk_at "w"
      refine it_dec (fun c => ?_) (fun c => ?_)
      · walk_at "w"
        rw [show sgn b (Int.gcd t b) = 0 - ((Int.gcd t b : Nat) : Int) from (if_pos c).trans (by omega)]
        exact ⟨rfl, z1, z2, _, rfl⟩
      · walk_at "w"
        rw [show sgn b (Int.gcd t b) = ((Int.gcd t b : Nat) : Int) from if_neg c]
        exact ⟨rfl, z1, z2, _, rfl⟩
    · rintro σ' H2 ⟨rfl, z1, z2, z3, rfl⟩
      walk_at "w"
      exact ⟨by show 2 ≤ sizeLine; decide, fun p hp => k p hp⟩

/-- Ratio(x, y) is refused for the value v -/
inductive Refused (K : PySem.W.Frag) (H : Hp) : V → V → V → Prop where
  | top {x y : V} (h : IsI K H x false) : Refused K H x y x
  | bottom {t : Int} {y : V} (h : IsI K H y false) : Refused K H (.int t) y y
  | zero {t : Int} : Refused K H (.int t) (.int 0) (.int 0)
theorem isI_same {K : PySem.W.Frag} {H H' : Hp} {x : V} {b : Bool} (s : Same H H') (h : IsI K H x b) : IsI K H' x b := by
  obtain ⟨t, b1, b2, ty, k⟩ := h
  refine ⟨t, b1, b2, ?_, k⟩
  cases ty with
  | base y =>
    refine .base ?_
    cases y with
    | non => exact .non
    | bl x => exact .bl x
    | int i => exact .int i
    | str x => exact .str x
    | flt x => exact .flt x
    | lst e => exact .lst (s _ _ e)
    | frz e => exact .frz (s _ _ e)
    | tup e => exact .tup (s _ _ e)
    | dK e => exact .dK (s _ _ e)
    | dT e => exact .dT (s _ _ e)
    | ins e c h1 h2 h3 h4 => exact .ins (s _ _ e) c h1 h2 h3 h4
  | byt b => exact .byt b
  | set e => exact .set (s _ _ e)
  | kList e c => exact .kList e c
  | kTuple e c => exact .kTuple e c
  | kDict e c => exact .kDict e c
  | fTuple e => exact .fTuple (s _ _ e)
  | fDict e => exact .fDict (s _ _ e)
theorem Refused.same {K : PySem.W.Frag} {H H' : Hp} {x y v : V} (R : Refused K H x y v) (s : Same H H') : Refused K H' x y v := by
  cases R with
  | top h => exact .top (isI_same s h)
  | bottom h => exact .bottom (isI_same s h)
  | zero => exact .zero
theorem init_refused {K : PySem.W.Frag} {a : Ad} {H : Hp} {p dx : Addr} {x y v : V} {Q : VK} {E : XK} (R : Refused K H x y v) (hp : H p = some (.ins a.C_Ratio dx [])) (hE : raiseIN a v H E) : sp_Ratio_init K a [.ref p, x, y] H Q E := by
  cases R with
  | top h => exact ⟨_, _, _, rfl, p, dx, false, rfl, hp, h, fun _ => hE, fun z => by cases z⟩
  | bottom h => exact ⟨_, _, _, rfl, p, dx, true, rfl, hp, isI_int _, (fun z => by cases z), fun _ => ⟨_, rfl, false, h, fun _ => hE, fun z => by cases z⟩⟩
  | zero => exact ⟨_, _, _, rfl, p, dx, true, rfl, hp, isI_int _, (fun z => by cases z), fun _ => ⟨_, rfl, true, isI_int _, (fun z => by cases z), fun _ => ⟨0, rfl, fun _ => hE, fun z => absurd rfl z⟩⟩⟩

def sp_law_refusal (K : PySem.W.Frag) (a : Ad) : Sp := sp2 fun x y H Q _ => ∃ v, Refused K H x y v ∧ ∀ l H', H l = none → Same H H' → H' l = some (.lst [v]) → Q (.ref l) H'
theorem ok_law_refusal {P : Program} {w : World} {K : PySem.W.Frag} {mg : Str → Option Value} {base : Heap} {a : Ad} (T : Txt P K mg a) : FnOk P w K mg base CX0 4 a.f_law_refusal a.d_law_refusal (["_law_top", "_law_bottom"] : List Str) (sp_law_refusal K a) := by
  refine T.F_law_refusal.ok sc_law_refusal (fun vs H Q E h => sp2_len h) (fun cdv A outer s H vs Q E hr h => ?_)
  have hu := hu_of hr
  refine ⟨_, (pss_cons (ps_try_as (i := 2) rfl rfl sc_law_refusal.nd rfl rfl ⟨rfl, by decide, .inl T.g_FontError⟩ takes0 (fun W pn xe tk po => (pss_one (ps_expr (pe_mkS T.M_Ratio (ok_Ratio_init T) (hr.mono (by decide)) rfl T.g_Ratio T.B_Ratio_init .nil (fun σ => passAt tk σ) (pa_cons (pv 0) (pa_cons (pv 1) pa_nil)))))) (fun ae oe cls de pn hz hf => (pss_one (ps_if (PW.pt (pw_and (pt_val (pe_callB (call_isX hz hf) (by rfl) T.n_isinstance (by decide +kernel) (pa_cons (pv 2) (pa_cons (pe_glob (v := .ref a.C_InvalidNumber) rfl T.E_InvalidNumber.gC rfl) pa_nil)))) (pw_and (pt_val (pe_callB (call_isX hz hf) (by rfl) T.n_isinstance (by decide +kernel) (pa_cons (pv 2) (pa_cons (pe_bltn (v := .ty "ValueError") (by rfl) T.n_ValueError (by decide +kernel) rfl) pa_nil)))) (pw_and1 (pt_not (pt_val (pe_callB (call_isX hz hf) (by rfl) T.n_isinstance (by decide +kernel) (pa_cons (pv 2) (pa_cons (pe_glob (v := .ref a.C_InvalidGlyph) rfl T.g_InvalidGlyph rfl) pa_nil))))))))) (pss_one (ps_ret (pe_lst (pa_cons (pe_xf (xfC_of T.E_InvalidNumber) T.x_InvalidNumber_value hz hf (pv 2)) pa_nil)))) pss_nil))))
      (pss_one (ps_ret (pe_lst pa_nil)))), ?_⟩
  try dsimp only [L2.cxOf]
  obtain ⟨x, y, rfl, v, R, k⟩ := h
  rw [show L2.start (["_law_top", "_law_bottom", "e"] : List Str) [x, y] = ([some (x), some (y), none] : L2.St) from rfl]
  walk_at "w"
  intro z dz nz ndz hzd
  have s0 : Same H (upd (upd H dz (.own z)) z (.ins a.C_Ratio dz [])) := Same.upd (Same.new ndz) nz
  refine init_refused (R.same s0) upd_same fun d hd => ?_
  have nd : H d = none := s0.free hd
  refine ⟨true, T.xm_IN_FE, fun _ ae hae => ?_, fun z => by cases z⟩
  walk_at "w"
  refine ⟨_, _, a.C_InvalidNumber, d, _, true, rfl, .own _, rfl, T.X_InvalidNumber, rfl, upd_same, kit_self, ?_⟩
  walk_at "w"
  refine ⟨_, _, a.C_InvalidNumber, d, _, true, rfl, .ty _, rfl, T.X_InvalidNumber, rfl, upd_same, T.ki_IN_VE, ?_⟩
  walk_at "w"
  refine ⟨_, _, a.C_InvalidNumber, d, _, false, rfl, .own _, rfl, T.X_InvalidNumber, rfl, upd_same, T.ki_IN_IG, ?_⟩
  walk_at "w"
  refine ⟨_, rfl, rfl, rfl, d, _, v, rfl, upd_same, by simp [List.lookup], ?_⟩
  walk_at "w"
  refine ⟨by show 1 ≤ sizeLine; decide, fun l hl => ?_⟩
  have n2 := (Same.new hd).free hl
  exact k l _ (s0.free n2) (Same.upd (Same.upd s0 nd) (s0.free n2)) upd_same

/-- the odd values of the law -/
inductive Odd (H : Hp) : V → Prop where
  | bl (b : Bool) : Odd H (.bl b)
  | non : Odd H .non
  | str : Odd H (.str "3")
  | lst {p : Addr} (h : H p = some (.lst [.int 1])) : Odd H (.ref p)
  | tup {p : Addr} (h : H p = some (.tup [.int 1, .int 2])) : Odd H (.ref p)
theorem Odd.same {H H' : Hp} {x : V} (o : Odd H x) (s : Same H H') : Odd H' x := by
  cases o with
  | bl b => exact .bl b
  | non => exact .non
  | str => exact .str
  | lst h => exact .lst (s _ _ h)
  | tup h => exact .tup (s _ _ h)
theorem Odd.isI {K : PySem.W.Frag} {H : Hp} {x : V} (o : Odd H x) : IsI K H x false := by
  cases o with
  | bl b => exact isI_bl b
  | non => exact isI_non
  | str => exact isI_str _
  | lst h => exact isI_lst h
  | tup h => exact isI_tup h
theorem Odd.isB {K : PySem.W.Frag} {H : Hp} {x : V} (o : Odd H x) : ∃ t b, TyX K H x t ∧ PySem.W.kitOne K t (.type "bool") = some b := by
  cases o with
  | bl b => exact ⟨_, true, .base (.bl b), kit_ty (by decide +kernel)⟩
  | non => exact ⟨_, false, .base .non, kit_ty (by decide +kernel)⟩
  | str => exact ⟨_, false, .base (.str _), kit_ty (by decide +kernel)⟩
  | lst h => exact ⟨_, false, .base (.lst h), kit_ty (by decide +kernel)⟩
  | tup h => exact ⟨_, false, .base (.tup h), kit_ty (by decide +kernel)⟩
theorem Odd.dp {K : PySem.W.Frag} {H : Hp} {x : V} (o : Odd H x) : ∃ d, Dp K H x d ∧ SeqAt.shaped d = true ∧ PyData.eqv d d = true := by
  cases o with
  | bl b => exact ⟨_, .bl b, by cases b <;> decide +kernel, by cases b <;> decide +kernel⟩
  | non => exact ⟨_, .non, by decide +kernel, by decide +kernel⟩
  | str => exact ⟨_, .str _, by decide +kernel, by decide +kernel⟩
  | lst h => exact ⟨.list [.int 1], .lst (SqL.of h) (.cons (.int 1) .nil), by decide +kernel, by decide +kernel⟩
  | tup h => exact ⟨.tuple [.int 1, .int 2], .tup (SqT.of h) (.cons (.int 1) (.cons (.int 2) .nil)), by decide +kernel, by decide +kernel⟩

def sp_law_odd_refused (K : PySem.W.Frag) (a : Ad) : Sp := sp1 fun x H Q _ => Odd H x ∧ ∀ H', Same H H' → Q (.bl true) H'
theorem ok_law_odd_refused {P : Program} {w : World} {K : PySem.W.Frag} {mg : Str → Option Value} {base : Heap} {a : Ad} (T : Txt P K mg a) : FnOk P w K mg base CX0 5 a.f_law_odd_refused a.d_law_odd_refused (["_law_odd"] : List Str) (sp_law_odd_refused K a) := by
  refine T.F_law_odd_refused.ok sc_law_odd_refused (fun vs H Q E h => sp1_len h) (fun cdv A outer s H vs Q E hr h => ?_)
  have hu := hu_of hr
  refine ⟨_, (pss_cons (ps_for PassesOwn.never rfl (pi_list (pe_lst (pa_cons (pe_call (ok_law_refusal T) (hr.mono (by decide)) rfl T.g_law_refusal T.k_law_refusal T.B_law_refusal .nil pass0 (pa_cons (pv 0) (pa_cons pe_int pa_nil))) (pa_cons (pe_call (ok_law_refusal T) (hr.mono (by decide)) rfl T.g_law_refusal T.k_law_refusal T.B_law_refusal .nil pass0 (pa_cons pe_int (pa_cons (pv 0) pa_nil))) (pa_cons (pe_call (ok_law_refusal T) (hr.mono (by decide)) rfl T.g_law_refusal T.k_law_refusal T.B_law_refusal .nil pass0 (pa_cons (pv 0) (pa_cons pe_int pa_nil))) pa_nil))))) (pg_name (i := 1) sc_law_odd_refused.nd rfl (Or.inl rfl)) (pss_one (ps_if (PW.pt (pw_or (pt_cmpR op_ne (pe_callB qc_len (by rfl) T.n_len (by decide +kernel) (pa_cons (pv 1) pa_nil)) pe_int (nomark _)) (pw_or (pt_cmpR op_ne (pe_callB call_isi (by rfl) T.n_isinstance (by decide +kernel) (pa_cons (pv 0) (pa_cons (pe_bltn (v := .ty "bool") (by rfl) T.n_bool (by decide +kernel) rfl) pa_nil))) (pe_callB call_isi (by rfl) T.n_isinstance (by decide +kernel) (pa_cons (pe_ix ix_list (pv 1) pe_int (fun _ _ => rfl)) (pa_cons (pe_bltn (v := .ty "bool") (by rfl) T.n_bool (by decide +kernel) rfl) pa_nil))) (nomark _)) (pw_or1 (pt_cmpR (op_neD hr.units) (pe_ix ix_list (pv 1) pe_int (fun _ _ => rfl)) (pv 0) (nomark _)))))) (pss_one (ps_ret pe_bl)) pss_nil)))
      (pss_one (ps_ret pe_bl))), ?_⟩
  try dsimp only [L2.cxOf]
  obtain ⟨x, rfl, o, k⟩ := h
  rw [show L2.start (["_law_odd", "_law_told"] : List Str) [x] = ([some (x), none] : L2.St) from rfl]
  walk_at "w"
  refine ⟨_, _, rfl, _, .top o.isI, fun l1 H1 n1 s1 e1 => ?_⟩
  walk_at "w"
  refine ⟨_, _, rfl, _, .bottom (o.same s1).isI, fun l2 H2 n2 s2 e2 => ?_⟩
  walk_at "w"
  refine ⟨_, _, rfl, _, .top ((o.same s1).same s2).isI, fun l3 H3 n3 s3 e3 => ?_⟩
  walk_at "w"
  refine ⟨by show 3 ≤ sizeLine; decide, fun q nq => ?_⟩
  have s13 : Same H (upd H3 q (.lst [.ref l1, .ref l2, .ref l3])) := ((s1.trans s2).trans s3).trans (Same.new nq)
  have m1 : (upd H3 q (.lst [.ref l1, .ref l2, .ref l3])) l1 = some (.lst [x]) := (Same.new nq) _ _ (s3 _ _ (s2 _ _ e1))
  have m2 : (upd H3 q (.lst [.ref l1, .ref l2, .ref l3])) l2 = some (.lst [x]) := (Same.new nq) _ _ (s3 _ _ e2)
  have m3 : (upd H3 q (.lst [.ref l1, .ref l2, .ref l3])) l3 = some (.lst [x]) := (Same.new nq) _ _ e3
  refine ⟨q, rfl, ⟨_, SqL.of upd_same⟩, turnsL (xs := [.ref l1, .ref l2, .ref l3]) (fun i σ' H' => H' = upd H3 q (.lst [.ref l1, .ref l2, .ref l3]) ∧ ∃ z, σ' = [some x, z]) ⟨rfl, none, rfl⟩ (fun i σ' H' _ ⟨e, _⟩ => by rw [e]; exact SqL.of upd_same) ?_ ?_⟩
  · rintro i y σ' H' hi ⟨rfl, z, rfl⟩
    obtain ⟨l, rfl, hl⟩ : ∃ l, y = .ref l ∧ (upd H3 q (.lst [.ref l1, .ref l2, .ref l3])) l = some (.lst [x]) := by
      match i, hi with
      | 0, hi => exact ⟨l1, (Option.some.inj hi).symm, m1⟩
      | 1, hi => exact ⟨l2, (Option.some.inj hi).symm, m2⟩
      | 2, hi => exact ⟨l3, (Option.some.inj hi).symm, m3⟩
    have o' := o.same s13
    obtain ⟨t, b, ty, kb⟩ := o'.isB (K := K)
    obtain ⟨d, dp, sh, ev⟩ := o'.dp (K := K)
    walk_at "w"
    refine it_npos rfl ?_
    walk_at "w"
    refine w_isi (.ty "bool") ty kb ?_
    walk_at "w"
    refine w_isi (.ty "bool") ty kb ?_
    walk_at "w"
    refine it_npos rfl ?_
    walk_at "w"
    refine ⟨d, d, dp, dp, sh, sh, ?_⟩
    rw [ev]
    walk_at "w"
    exact ⟨rfl, _, rfl⟩
  · rintro σ' H' ⟨rfl, z, rfl⟩
    walk_at "w"
    exact k _ s13

/-- Ratio(t, b) with b not 0 -/
theorem init_ok {K : PySem.W.Frag} {a : Ad} {H : Hp} {p dx : Addr} {t b : Int} {Q : VK} {E : XK} (hp : H p = some (.ins a.C_Ratio dx [])) (hb : b ≠ 0) (hz : b.natAbs < 2 ^ 8000)
    (k : Q .non (upd H p (.ins a.C_Ratio dx (rfields (lowT t b) (lowB t b))))) : sp_Ratio_init K a [.ref p, .int t, .int b] H Q E :=
  ⟨_, _, _, rfl, p, dx, true, rfl, hp, isI_int _, (fun z => by cases z), fun _ => ⟨t, rfl, true, isI_int _, (fun z => by cases z), fun _ => ⟨b, rfl, fun z => absurd z hb, fun _ => ⟨hz, k⟩⟩⟩⟩
/-- the new instance, made whole: nothing else is touched -/
theorem made_same {H : Hp} {z dz C : Addr} {fs gs : List (Str × V)} (nz : H z = none) (nd : H dz = none) : Same H (upd (upd (upd H dz (.own z)) z (.ins C dz fs)) z (.ins C dz gs)) := by
  rw [upd_upd]
  exact Same.upd (Same.new nd) nz
theorem made_at {a : Ad} {H : Hp} {z dz : Addr} {fs : List (Str × V)} {t b : Int} : RatioAt a (upd (upd (upd H dz (.own z)) z (.ins a.C_Ratio dz fs)) z (.ins a.C_Ratio dz (rfields t b))) z t b := ⟨dz, upd_same⟩

def sp_law (K : PySem.W.Frag) : Sp := sp1 fun x H Q _ => ∃ (s : Addr) (ns : List Int), x = .ref s ∧ SqL K H s (ns.map V.int) ∧ ns.length ≤ 63 ∧ ∀ H', Q (.bl true) H'
theorem ok_law {P : Program} {w : World} {K : PySem.W.Frag} {mg : Str → Option Value} {base : Heap} {a : Ad} (T : Txt P K mg a) : FnOk P w K mg base CX0 6 a.f_law a.d_law (["_law_script"] : List Str) (sp_law K) := by
  refine T.F_law.ok sc_law (fun vs H Q E h => sp1_len h) (fun cdv A outer s H vs Q E hr h => ?_)
  have hu := hu_of hr
  refine ⟨_, (pss_cons (ps_set (i := 1) sc_law.nd rfl (Or.inl rfl) (pe_call (ok_law_bag T) (hr.mono (by decide)) rfl T.g_law_bag T.k_law_bag T.B_law_bag .nil pass0 (pa_cons (pv 0) pa_nil)))
      (pss_cons (ps_set (i := 2) sc_law.nd rfl (Or.inl rfl) (pe_ix ix_list (pe_lst (pa_cons pe_int (pa_cons pe_int (pa_cons (pe_op op_pow pe_int pe_int) (pa_cons (pe_op op_pow pe_int pe_int) pa_nil))))) (pe_call (ok_law_take T) (hr.mono (by decide)) rfl T.g_law_take T.k_law_take T.B_law_take .nil pass0 (pa_cons (pv 1) (pa_cons pe_int pa_nil))) (fun _ _ => rfl)))
      (pss_cons (ps_set (i := 3) sc_law.nd rfl (Or.inl rfl) (pe_op op_sub (pe_call (ok_law_take T) (hr.mono (by decide)) rfl T.g_law_take T.k_law_take T.B_law_take .nil pass0 (pa_cons (pv 1) (pa_cons (pe_op op_add (pe_op op_mul pe_int (pv 2)) pe_int) pa_nil))) (pv 2)))
      (pss_cons (ps_set (i := 4) sc_law.nd rfl (Or.inl rfl) (pe_op op_sub (pe_call (ok_law_take T) (hr.mono (by decide)) rfl T.g_law_take T.k_law_take T.B_law_take .nil pass0 (pa_cons (pv 1) (pa_cons (pe_op op_add (pe_op op_mul pe_int (pv 2)) pe_int) pa_nil))) (pv 2)))
      (pss_cons (ps_set (i := 5) sc_law.nd rfl (Or.inl rfl) (pe_op op_add pe_int (pe_call (ok_law_take T) (hr.mono (by decide)) rfl T.g_law_take T.k_law_take T.B_law_take .nil pass0 (pa_cons (pv 1) (pa_cons pe_int pa_nil)))))
      (pss_cons (ps_set (i := 6) sc_law.nd rfl (Or.inl rfl) (pe_ix ix_list (pe_lst (pa_cons pe_bl (pa_cons pe_bl (pa_cons pe_non (pa_cons pe_str (pa_cons (pe_lst (pa_cons pe_int pa_nil)) (pa_cons (pe_tup (pa_cons pe_int (pa_cons pe_int pa_nil))) pa_nil))))))) (pe_call (ok_law_take T) (hr.mono (by decide)) rfl T.g_law_take T.k_law_take T.B_law_take .nil pass0 (pa_cons (pv 1) (pa_cons pe_int pa_nil))) (fun _ _ => rfl)))
      (pss_cons (ps_if (pt_not (pt_val (pe_call (ok_law_odd_refused T) (hr.mono (by decide)) rfl T.g_law_odd_refused T.k_law_odd_refused T.B_law_odd_refused .nil pass0 (pa_cons (pv 6) pa_nil)))) (pss_one (ps_ret pe_bl)) pss_nil)
      (pss_cons (ps_if (PW.pt (pw_or (pt_not (pt_val (pe_call (ok_law_is T) (hr.mono (by decide)) rfl T.g_law_is T.k_law_is T.B_law_is .nil pass0 (pa_cons (pe_mkS T.M_Ratio (ok_Ratio_init T) (hr.mono (by decide)) rfl T.g_Ratio T.B1_Ratio_init T.V1_Ratio_init (fun σ => passAt takes0 σ) (pa_cons (pv 3) pa_nil)) (pa_cons (pe_tup (pa_cons (pv 3) (pa_cons pe_int pa_nil))) pa_nil))))) (pw_or1 (pt_not (pt_val (pe_call (ok_law_is T) (hr.mono (by decide)) rfl T.g_law_is T.k_law_is T.B_law_is .nil pass0 (pa_cons (pe_mkS T.M_Ratio (ok_Ratio_init T) (hr.mono (by decide)) rfl T.g_Ratio T.B_Ratio_init .nil (fun σ => passAt takes0 σ) (pa_cons pe_int (pa_cons (pv 5) pa_nil))) (pa_cons (pe_tup (pa_cons pe_int (pa_cons pe_int pa_nil))) pa_nil)))))))) (pss_one (ps_ret pe_bl)) pss_nil)
      (pss_cons (ps_set (i := 7) sc_law.nd rfl (Or.inl rfl) (pe_call (ok_law_refusal T) (hr.mono (by decide)) rfl T.g_law_refusal T.k_law_refusal T.B_law_refusal .nil pass0 (pa_cons (pv 3) (pa_cons pe_int pa_nil))))
      (pss_cons (ps_if (PW.pt (pw_or (pt_cmpR op_ne (pe_callB qc_len (by rfl) T.n_len (by decide +kernel) (pa_cons (pv 7) pa_nil)) pe_int (nomark _)) (pw_or (pt_not (pt_val (pe_call (ok_law_int T) (hr.mono (by decide)) rfl T.g_law_int T.k_law_int T.B_law_int .nil pass0 (pa_cons (pe_ix ix_list (pv 7) pe_int (fun _ _ => rfl)) pa_nil)))) (pw_or1 (pt_cmpR op_ne (pe_ix ix_list (pv 7) pe_int (fun _ _ => rfl)) pe_int (nomark _)))))) (pss_one (ps_ret pe_bl)) pss_nil)
      (pss_cons (ps_if (pt_cmpR op_eq (pv 4) pe_int (nomark _)) (pss_one (ps_ret pe_bl)) pss_nil)
      (pss_cons (ps_set (i := 8) sc_law.nd rfl (Or.inl rfl) (pe_call (ok_law_lowest T) (hr.mono (by decide)) rfl T.g_law_lowest T.k_law_lowest T.B_law_lowest .nil pass0 (pa_cons (pv 3) (pa_cons (pv 4) pa_nil))))
      (pss_one (ps_ret (pe_and (pe_call (ok_law_is T) (hr.mono (by decide)) rfl T.g_law_is T.k_law_is T.B_law_is .nil pass0 (pa_cons (pe_mkS T.M_Ratio (ok_Ratio_init T) (hr.mono (by decide)) rfl T.g_Ratio T.B_Ratio_init .nil (fun σ => passAt takes0 σ) (pa_cons (pv 3) (pa_cons (pv 4) pa_nil))) (pa_cons (pv 8) pa_nil))) (pe_one (pe_call (ok_law_is T) (hr.mono (by decide)) rfl T.g_law_is T.k_law_is T.B_law_is .nil pass0 (pa_cons (pe_mkS T.M_Ratio (ok_Ratio_init T) (hr.mono (by decide)) rfl T.g_Ratio T.B_Ratio_init .nil (fun σ => passAt takes0 σ) (pa_cons (pe_op op_mul (pv 3) (pv 5)) (pa_cons (pe_op op_mul (pv 4) (pv 5)) pa_nil))) (pa_cons (pv 8) pa_nil))))))))))))))))))), ?_⟩
  try dsimp only [L2.cxOf]
  obtain ⟨x, rfl, s0, ns, rfl, hS, hlen, k⟩ := h
  have p30 : (10 : Int) ^ Int.toNat 30 = 1000000000000000000000000000000 := by decide +kernel
  have p6 : (10 : Int) ^ Int.toNat 6 = 1000000 := by decide +kernel
  have big : (10 : Nat) ^ 40 < 2 ^ 8000 := by decide +kernel
  have big2 : (10 : Nat) ^ 40 < 2 ^ 200 := by decide +kernel
  have e40 : (10 : Nat) ^ 40 = 10000000000000000000000000000000000000000 := by decide +kernel
  rw [e40] at big big2
  rw [show L2.start (["_law_script", "_law_bag_here", "_law_wide", "_law_top", "_law_bottom", "_law_factor", "_law_odd", "_law_told", "_law_due"] : List Str) [(.ref s0)] = ([some ((.ref s0)), none, none, none, none, none, none, none, none] : L2.St) from rfl]
  walk_at "w"
  refine ⟨_, rfl, s0, ns, rfl, hS, fun b H1 nb s1 B1 => ?_⟩
  walk_at "w"
  refine ⟨by show 4 ≤ sizeLine; decide, fun p np => ?_⟩
  walk_at "w"
  refine ⟨_, _, rfl, b, 4, rfl, rfl, B1.same (Same.new np), by decide, by decide +kernel, fun r H2 r0 r1 B2 fr2 => ?_⟩
  have npb : p ≠ b := by
    obtain ⟨_, hb⟩ := B1.lst
    exact Ne.symm (ne_of_none hb np)
  have hp2 : H2 p = some (.lst [.int 4, .int 60, .int ((10 : Int) ^ Int.toNat 6), .int ((10 : Int) ^ Int.toNat 30)]) := keep_of fr2 upd_same npb
  obtain ⟨wd, ew, w1, w2⟩ : ∃ wd : Int, atI [V.int 4, .int 60, .int ((10 : Int) ^ Int.toNat 6), .int ((10 : Int) ^ Int.toNat 30)] r = some (.int wd) ∧ 4 ≤ wd ∧ wd ≤ 1000000000000000000000000000000 := by
    obtain ⟨v, e, m⟩ := atI_mem (xs := [V.int 4, .int 60, .int ((10 : Int) ^ Int.toNat 6), .int ((10 : Int) ^ Int.toNat 30)]) r0 r1
    simp only [List.mem_cons, List.not_mem_nil, or_false] at m
    rcases m with rfl | rfl | rfl | rfl
    · exact ⟨_, e, by decide, by decide⟩
    · exact ⟨_, e, by decide, by decide⟩
    · exact ⟨_, e, by rw [p6]; decide, by rw [p6]; decide⟩
    · exact ⟨_, e, by rw [p30]; decide, by rw [p30]; decide⟩
  refine w_ix (SqL.of hp2) ew ?_
  walk_at "w"
  refine ⟨_, _, rfl, b, _, rfl, rfl, B2, by omega, by omega, fun r3 H3 r30 r31 B3 fr3 => ?_⟩
  walk_at "w"
  refine ⟨_, _, rfl, b, _, rfl, rfl, B3, by omega, by omega, fun r4 H4 r40 r41 B4 fr4 => ?_⟩
  walk_at "w"
  refine ⟨_, _, rfl, b, _, rfl, rfl, B4, by decide, by decide +kernel, fun r5 H5 r50 r51 B5 fr5 => ?_⟩
  walk_at "w"
  refine ⟨by show 1 ≤ sizeLine; decide, fun q1 nq1 => ?_⟩
  walk_at "w"
  refine ⟨by show 2 ≤ sizeLine; decide, fun q2 nq2 => ?_⟩
  walk_at "w"
  refine ⟨by show 6 ≤ sizeLine; decide, fun q3 nq3 => ?_⟩
  walk_at "w"
  have sq : Same H5 (upd (upd (upd H5 q1 (.lst [.int 1])) q2 (.tup [.int 1, .int 2])) q3 (.lst [.bl true, .bl false, .non, .str "3", .ref q1, .ref q2])) := ((Same.new nq1).trans (Same.new nq2)).trans (Same.new nq3)
  obtain ⟨bl5, hb5⟩ := B5.lst
  have nb1 : q1 ≠ b := Ne.symm (ne_of_none hb5 nq1)
  have nb2 : q2 ≠ b := Ne.symm (ne_of_none ((Same.new nq1) _ _ hb5) nq2)
  have nb3 : q3 ≠ b := Ne.symm (ne_of_none (((Same.new nq1).trans (Same.new nq2)) _ _ hb5) nq3)
  refine ⟨_, _, rfl, b, 6, rfl, rfl, B5.same sq, by decide, by decide +kernel, fun r6 H6 r60 r61 B6 fr6 => ?_⟩
  have hq1 : H6 q1 = some (.lst [.int 1]) := keep_of fr6 ((Same.new nq3) _ _ ((Same.new nq2) _ _ upd_same)) nb1
  have hq2 : H6 q2 = some (.tup [.int 1, .int 2]) := keep_of fr6 ((Same.new nq3) _ _ upd_same) nb2
  have hq3 : H6 q3 = some (.lst [.bl true, .bl false, .non, .str "3", .ref q1, .ref q2]) := keep_of fr6 upd_same nb3
  obtain ⟨od, eo, ho⟩ : ∃ od : V, atI [V.bl true, .bl false, .non, .str "3", .ref q1, .ref q2] r6 = some od ∧ Odd H6 od := by
    obtain ⟨v, e, m⟩ := atI_mem (xs := [V.bl true, .bl false, .non, .str "3", .ref q1, .ref q2]) r60 r61
    simp only [List.mem_cons, List.not_mem_nil, or_false] at m
    rcases m with rfl | rfl | rfl | rfl | rfl | rfl
    · exact ⟨_, e, .bl _⟩
    · exact ⟨_, e, .bl _⟩
    · exact ⟨_, e, .non⟩
    · exact ⟨_, e, .str⟩
    · exact ⟨_, e, .lst hq1⟩
    · exact ⟨_, e, .tup hq2⟩
  refine w_ix (SqL.of hq3) eo ?_
  walk_at "w"
  refine ⟨_, rfl, ho, fun H7 s7 => ?_⟩
  walk_at "w"
  -- Ratio(top), (top, 1)
  intro z1 dz1 n1 nd1 ne1
  refine init_ok upd_same (by decide) (by decide +kernel) ⟨rfl, ?_⟩
  walk_at "w"
  refine ⟨by show 2 ≤ sizeLine; decide, fun t1 nt1 => ?_⟩
  walk_at "w"
  refine ⟨_, _, rfl, z1, t1, r3 - wd, 1, rfl, ?_, rfl, SqT.of upd_same, ?_⟩
  · have R := made_at (a := a) (H := H7) (z := z1) (dz := dz1) (fs := []) (t := lowT (r3 - wd) 1) (b := lowB (r3 - wd) 1)
    have R' := R.same (Same.new (o := .tup [.int (r3 - wd), .int 1]) nt1)
    rw [(low_one (r3 - wd)).1, (low_one (r3 - wd)).2] at R'
    rw [(low_one (r3 - wd)).1, (low_one (r3 - wd)).2]
    exact R'
  walk_at "w"
  -- Ratio(0, factor), (0, 1)
  intro z2 dz2 n2 nd2 ne2
  refine init_ok upd_same (by omega) (by omega) ⟨rfl, ?_⟩
  walk_at "w"
  refine ⟨by show 2 ≤ sizeLine; decide, fun t2 nt2 => ?_⟩
  walk_at "w"
  refine ⟨_, _, rfl, z2, t2, 0, 1, rfl, ?_, rfl, SqT.of upd_same, ?_⟩
  · have lz := low_zero (f := 2 + r5) (by omega)
    rw [lz.1, lz.2] at nt2 ⊢
    exact made_at.same (Same.new nt2)
  walk_at "w"
  refine ⟨_, _, rfl, _, .zero, fun l3 H8 n3 s8 e3 => ?_⟩
  walk_at "w"
  refine it_npos rfl ?_
  walk_at "w"
  refine ⟨_, rfl, true, isI_int 0, ?_⟩
  walk_at "w"
  refine it_npos rfl ?_
  walk_at "w"
  refine it_dec (fun c => ?_) (fun c => ?_)
  · walk_at "w"
    exact k _
  walk_at "w"
  have hb : r4 - wd ≠ 0 := fun z => c (congrArg V.int z)
  refine ⟨_, _, rfl, r3 - wd, r4 - wd, rfl, rfl, hb, by omega, fun du ndu => ?_⟩
  walk_at "w"
  intro z4 dz4 n4 nd4 ne4
  refine init_ok upd_same hb (by omega) ⟨rfl, ?_⟩
  walk_at "w"
  have sd := made_same (C := a.C_Ratio) (fs := []) (gs := rfields (lowT (r3 - wd) (r4 - wd)) (lowB (r3 - wd) (r4 - wd))) n4 nd4
  refine ⟨_, _, rfl, z4, du, _, _, rfl, made_at, rfl, SqT.of (sd _ _ upd_same), ?_⟩
  walk_at "w"
  intro z5 dz5 n5 nd5 ne5
  have hf : 0 < 2 + r5 := by omega
  have hb' : (r4 - wd) * (2 + r5) ≠ 0 := Int.mul_ne_zero hb (by omega)
  have lm := low_mul (t := r3 - wd) hb hf
  refine init_ok upd_same hb' ?_ ⟨rfl, ?_⟩
  · rw [Int.natAbs_mul]
    have m1 : (r4 - wd).natAbs ≤ 1000000000000000000000000000000 := by omega
    have m2 : (2 + r5).natAbs ≤ 9 := by omega
    have m3 := Nat.mul_le_mul m1 m2
    omega
  walk_at "w"
  have sd5 := made_same (C := a.C_Ratio) (fs := []) (gs := rfields (lowT (r3 - wd) (r4 - wd)) (lowB (r3 - wd) (r4 - wd))) n5 nd5
  rw [lm.1, lm.2]
  refine ⟨_, _, rfl, z5, du, _, _, rfl, made_at, rfl, SqT.of (sd5 _ _ (sd _ _ upd_same)), ?_⟩
  walk_at "w"
  exact k _

end FG
namespace FG
open PySem L2
theorem y_InvalidNumber : Txt1 "InvalidNumber.__init__" "value" "not a valid number" (defArgs s_InvalidNumber_init) (defBody s_InvalidNumber_init) (defScope s_InvalidNumber_init) where
  ex := ⟨_, _, _, _, _, _, _, _, _, _, _, _, rfl, rfl, rfl, fun L fI cc cda => ⟨by rfl, by rfl, by rfl, _, by rfl⟩⟩
  bind := fun _ _ _ _ _ _ _ _ _ => rfl
  nself := by decide +kernel
  ndbg := by decide +kernel
  ks := by decide +kernel
  kc := by decide +kernel
  k0 := by decide +kernel
  k1 := by decide +kernel
  cells := by decide +kernel
  kind := rfl
  co := rfl
  gen := rfl
theorem all_mk {w : World} {K : PySem.W.Frag} {h : Heap} {mg : Str → Option Value} {fa : Addr} (X : K.In h) (G : h.Ns mainGlobals mg) (hfa : mg "law" = some (.ref fa))
    {C_Ratio : Addr}
    {C_FontError : Addr}
    {C_InvalidGlyph : Addr}
    {f_is_integer : Addr} {oc_is_integer kV_is_integer dc_is_integer pm_is_integer cd_is_integer ct_is_integer : Value} {od_is_integer an_is_integer : Option Addr} {sl_is_integer : Array (Option Value)}
    {f_greatest_divisor : Addr} {oc_greatest_divisor kV_greatest_divisor dc_greatest_divisor pm_greatest_divisor cd_greatest_divisor ct_greatest_divisor : Value} {od_greatest_divisor an_greatest_divisor : Option Addr} {sl_greatest_divisor : Array (Option Value)}
    {f_law_bag : Addr} {oc_law_bag kV_law_bag dc_law_bag pm_law_bag cd_law_bag ct_law_bag : Value} {od_law_bag an_law_bag : Option Addr} {sl_law_bag : Array (Option Value)}
    {f_law_take : Addr} {oc_law_take kV_law_take dc_law_take pm_law_take cd_law_take ct_law_take : Value} {od_law_take an_law_take : Option Addr} {sl_law_take : Array (Option Value)}
    {f_Ratio_init : Addr} {oc_Ratio_init kV_Ratio_init dc_Ratio_init pm_Ratio_init cd_Ratio_init ct_Ratio_init : Value} {od_Ratio_init an_Ratio_init : Option Addr} {sl_Ratio_init : Array (Option Value)}
    {tp_Ratio_init : Addr} {tc_Ratio_init : Value} {td_Ratio_init : Option Addr} {tn_Ratio_init : Nat} {ts_Ratio_init : Array (Option Value)} {tk0_Ratio_init : Tok}
    {f_law_int : Addr} {oc_law_int kV_law_int dc_law_int pm_law_int cd_law_int ct_law_int : Value} {od_law_int an_law_int : Option Addr} {sl_law_int : Array (Option Value)}
    {f_law_is : Addr} {oc_law_is kV_law_is dc_law_is pm_law_is cd_law_is ct_law_is : Value} {od_law_is an_law_is : Option Addr} {sl_law_is : Array (Option Value)}
    {f_law_lowest : Addr} {oc_law_lowest kV_law_lowest dc_law_lowest pm_law_lowest cd_law_lowest ct_law_lowest : Value} {od_law_lowest an_law_lowest : Option Addr} {sl_law_lowest : Array (Option Value)}
    {f_law_refusal : Addr} {oc_law_refusal kV_law_refusal dc_law_refusal pm_law_refusal cd_law_refusal ct_law_refusal : Value} {od_law_refusal an_law_refusal : Option Addr} {sl_law_refusal : Array (Option Value)}
    {f_law_odd_refused : Addr} {oc_law_odd_refused kV_law_odd_refused dc_law_odd_refused pm_law_odd_refused cd_law_odd_refused ct_law_odd_refused : Value} {od_law_odd_refused an_law_odd_refused : Option Addr} {sl_law_odd_refused : Array (Option Value)}
    {f_law : Addr} {oc_law kV_law dc_law pm_law cd_law ct_law : Value} {od_law an_law : Option Addr} {sl_law : Array (Option Value)}
    {C_InvalidNumber i_InvalidNumber c_InvalidNumber k_InvalidNumber N_InvalidNumber : Addr} {n1_InvalidNumber q_InvalidNumber : Str} {bs_InvalidNumber bm_InvalidNumber : List Value} {sn_InvalidNumber : List Str} {su_InvalidNumber : List Value} {ab_InvalidNumber : Bool} {co_InvalidNumber : Option Bool} {dd_InvalidNumber : Option Addr} {m0_InvalidNumber m1_InvalidNumber m2_InvalidNumber m3_InvalidNumber m5_InvalidNumber : Option Value}
    {ec_InvalidNumber ekV_InvalidNumber edc_InvalidNumber epm_InvalidNumber ect_InvalidNumber ecl_InvalidNumber ecl2_InvalidNumber : Value} {ed_InvalidNumber ean_InvalidNumber ecd_InvalidNumber ecd2_InvalidNumber : Option Addr} {esl_InvalidNumber ecs_InvalidNumber ecs2_InvalidNumber : Array (Option Value)} {evs_InvalidNumber : Array Value} {efl_InvalidNumber : Str} {etf_InvalidNumber : Tok}
    (a_Ratio : PySem.W.nsIn K mainGlobals "Ratio" = some (some (.ref C_Ratio)))
    (a_FontError : PySem.W.nsIn K mainGlobals "FontError" = some (some (.ref C_FontError)))
    (a_InvalidGlyph : PySem.W.nsIn K mainGlobals "InvalidGlyph" = some (some (.ref C_InvalidGlyph)))
    (a_is_integer : PySem.W.nsIn K mainGlobals "is_integer" = some (some (.ref f_is_integer)))
    (l_is_integer : K.lookup f_is_integer = some ⟨oc_is_integer, od_is_integer, .func (PySem.W.fnOf "is_integer" "is_integer" (defArgs s_is_integer) (defBody s_is_integer) (defScope s_is_integer) .none kV_is_integer dc_is_integer pm_is_integer an_is_integer cd_is_integer ct_is_integer), sl_is_integer⟩)
    (q_is_integer : PySem.W.codeIn K cd_is_integer "is_integer" = true)
    (k_is_integer : PySem.W.keepIn K (.ref f_is_integer) = true)
    (a_greatest_divisor : PySem.W.nsIn K mainGlobals "greatest_divisor" = some (some (.ref f_greatest_divisor)))
    (l_greatest_divisor : K.lookup f_greatest_divisor = some ⟨oc_greatest_divisor, od_greatest_divisor, .func (PySem.W.fnOf "greatest_divisor" "greatest_divisor" (defArgs s_greatest_divisor) (defBody s_greatest_divisor) (defScope s_greatest_divisor) .none kV_greatest_divisor dc_greatest_divisor pm_greatest_divisor an_greatest_divisor cd_greatest_divisor ct_greatest_divisor), sl_greatest_divisor⟩)
    (q_greatest_divisor : PySem.W.codeIn K cd_greatest_divisor "greatest_divisor" = true)
    (k_greatest_divisor : PySem.W.keepIn K (.ref f_greatest_divisor) = true)
    (a_law_bag : PySem.W.nsIn K mainGlobals "_law_bag" = some (some (.ref f_law_bag)))
    (l_law_bag : K.lookup f_law_bag = some ⟨oc_law_bag, od_law_bag, .func (PySem.W.fnOf "_law_bag" "_law_bag" (defArgs s_law_bag) (defBody s_law_bag) (defScope s_law_bag) .none kV_law_bag dc_law_bag pm_law_bag an_law_bag cd_law_bag ct_law_bag), sl_law_bag⟩)
    (q_law_bag : PySem.W.codeIn K cd_law_bag "_law_bag" = true)
    (k_law_bag : PySem.W.keepIn K (.ref f_law_bag) = true)
    (a_law_take : PySem.W.nsIn K mainGlobals "_law_take" = some (some (.ref f_law_take)))
    (l_law_take : K.lookup f_law_take = some ⟨oc_law_take, od_law_take, .func (PySem.W.fnOf "_law_take" "_law_take" (defArgs s_law_take) (defBody s_law_take) (defScope s_law_take) .none kV_law_take dc_law_take pm_law_take an_law_take cd_law_take ct_law_take), sl_law_take⟩)
    (q_law_take : PySem.W.codeIn K cd_law_take "_law_take" = true)
    (k_law_take : PySem.W.keepIn K (.ref f_law_take) = true)
    (a_Ratio_init : PySem.W.findIn K (.ref C_Ratio) "__init__" = some (some (.ref f_Ratio_init)))
    (i_Ratio_init : PySem.W.isFn K (.ref f_Ratio_init) = true)
    (l_Ratio_init : K.lookup f_Ratio_init = some ⟨oc_Ratio_init, od_Ratio_init, .func (PySem.W.fnOf "__init__" "Ratio.__init__" (defArgs s_Ratio_init) (defBody s_Ratio_init) (defScope s_Ratio_init) (.ref tp_Ratio_init) kV_Ratio_init dc_Ratio_init pm_Ratio_init an_Ratio_init cd_Ratio_init ct_Ratio_init), sl_Ratio_init⟩)
    (q_Ratio_init : PySem.W.codeIn K cd_Ratio_init "Ratio.__init__" = true)
    (k_Ratio_init : PySem.W.keepIn K (.ref f_Ratio_init) = true)
    (t_Ratio_init : K.lookup tp_Ratio_init = some ⟨tc_Ratio_init, td_Ratio_init, .seq ([.int 1 tk0_Ratio_init] : List Value).toArray tn_Ratio_init, ts_Ratio_init⟩)
    (a_law_int : PySem.W.nsIn K mainGlobals "_law_int" = some (some (.ref f_law_int)))
    (l_law_int : K.lookup f_law_int = some ⟨oc_law_int, od_law_int, .func (PySem.W.fnOf "_law_int" "_law_int" (defArgs s_law_int) (defBody s_law_int) (defScope s_law_int) .none kV_law_int dc_law_int pm_law_int an_law_int cd_law_int ct_law_int), sl_law_int⟩)
    (q_law_int : PySem.W.codeIn K cd_law_int "_law_int" = true)
    (k_law_int : PySem.W.keepIn K (.ref f_law_int) = true)
    (a_law_is : PySem.W.nsIn K mainGlobals "_law_is" = some (some (.ref f_law_is)))
    (l_law_is : K.lookup f_law_is = some ⟨oc_law_is, od_law_is, .func (PySem.W.fnOf "_law_is" "_law_is" (defArgs s_law_is) (defBody s_law_is) (defScope s_law_is) .none kV_law_is dc_law_is pm_law_is an_law_is cd_law_is ct_law_is), sl_law_is⟩)
    (q_law_is : PySem.W.codeIn K cd_law_is "_law_is" = true)
    (k_law_is : PySem.W.keepIn K (.ref f_law_is) = true)
    (a_law_lowest : PySem.W.nsIn K mainGlobals "_law_lowest" = some (some (.ref f_law_lowest)))
    (l_law_lowest : K.lookup f_law_lowest = some ⟨oc_law_lowest, od_law_lowest, .func (PySem.W.fnOf "_law_lowest" "_law_lowest" (defArgs s_law_lowest) (defBody s_law_lowest) (defScope s_law_lowest) .none kV_law_lowest dc_law_lowest pm_law_lowest an_law_lowest cd_law_lowest ct_law_lowest), sl_law_lowest⟩)
    (q_law_lowest : PySem.W.codeIn K cd_law_lowest "_law_lowest" = true)
    (k_law_lowest : PySem.W.keepIn K (.ref f_law_lowest) = true)
    (a_law_refusal : PySem.W.nsIn K mainGlobals "_law_refusal" = some (some (.ref f_law_refusal)))
    (l_law_refusal : K.lookup f_law_refusal = some ⟨oc_law_refusal, od_law_refusal, .func (PySem.W.fnOf "_law_refusal" "_law_refusal" (defArgs s_law_refusal) (defBody s_law_refusal) (defScope s_law_refusal) .none kV_law_refusal dc_law_refusal pm_law_refusal an_law_refusal cd_law_refusal ct_law_refusal), sl_law_refusal⟩)
    (q_law_refusal : PySem.W.codeIn K cd_law_refusal "_law_refusal" = true)
    (k_law_refusal : PySem.W.keepIn K (.ref f_law_refusal) = true)
    (a_law_odd_refused : PySem.W.nsIn K mainGlobals "_law_odd_refused" = some (some (.ref f_law_odd_refused)))
    (l_law_odd_refused : K.lookup f_law_odd_refused = some ⟨oc_law_odd_refused, od_law_odd_refused, .func (PySem.W.fnOf "_law_odd_refused" "_law_odd_refused" (defArgs s_law_odd_refused) (defBody s_law_odd_refused) (defScope s_law_odd_refused) .none kV_law_odd_refused dc_law_odd_refused pm_law_odd_refused an_law_odd_refused cd_law_odd_refused ct_law_odd_refused), sl_law_odd_refused⟩)
    (q_law_odd_refused : PySem.W.codeIn K cd_law_odd_refused "_law_odd_refused" = true)
    (k_law_odd_refused : PySem.W.keepIn K (.ref f_law_odd_refused) = true)
    (a_law : PySem.W.nsIn K mainGlobals "law" = some (some (.ref f_law)))
    (l_law : K.lookup f_law = some ⟨oc_law, od_law, .func (PySem.W.fnOf "law" "law" (defArgs s_law) (defBody s_law) (defScope s_law) .none kV_law dc_law pm_law an_law cd_law ct_law), sl_law⟩)
    (q_law : PySem.W.codeIn K cd_law "law" = true)
    (k_law : PySem.W.keepIn K (.ref f_law) = true)
    (pg_Ratio : PySem.W.plainGet K C_Ratio Str.empty = true)
    (hd_Ratio : PySem.W.hasDictIn K C_Ratio = true)
    (po_Ratio : PySem.W.plainOver K C_Ratio = true)
    (sa_Ratio : PySem.W.findIn K (.ref C_Ratio) "__setattr__" = some (some (.builtin "object.__setattr__")))
    (i1_Ratio : PySem.W.findIn K (.ref C_Ratio) "__class__" = some (some (.builtin "object.__class__")))
    (i4_Ratio : PySem.W.mroIn K C_Ratio (.type "object") = some true)
    (mk_Ratio : PySem.W.makesIn K C_Ratio = true)
    (kc_Ratio : PySem.W.keepIn K (.ref C_Ratio) = true)
    (o2 : PySem.W.specialIn K (.builtin "object.__class__") "__get__" = some (some (.builtin "getset_descriptor.__get__")))
    (o3 : PySem.W.takesIn K (.builtin "object.__class__") = some true)
    (oq : PySem.W.nsIn K cStatics "thirdparty.any" = some none)
    (os : PySem.W.nsIn K mainGlobals "super" = some none)
    (a_InvalidNumber : PySem.W.nsIn K mainGlobals "InvalidNumber" = some (some (.ref C_InvalidNumber)))
    (L_InvalidNumber : K.lookup C_InvalidNumber = some (excClassObj n1_InvalidNumber q_InvalidNumber C_InvalidNumber N_InvalidNumber bs_InvalidNumber bm_InvalidNumber true sn_InvalidNumber su_InvalidNumber ab_InvalidNumber co_InvalidNumber dd_InvalidNumber m0_InvalidNumber m1_InvalidNumber m2_InvalidNumber m3_InvalidNumber m5_InvalidNumber "ValueError.__new__"))
    (ve_InvalidNumber : PySem.HandSPX.refsVE bm_InvalidNumber = true)
    (al_InvalidNumber : PySem.W.alongIn K "__init__" bm_InvalidNumber = some (some (.builtin "ValueError.__init__")))
    (sa_InvalidNumber : PySem.W.findIn K (.ref C_InvalidNumber) "__setattr__" = some (some (.builtin "object.__setattr__")))
    (ga_InvalidNumber : PySem.W.findIn K (.ref C_InvalidNumber) "__getattribute__" = some (some (.builtin "BaseException.__getattribute__")))
    (gg_InvalidNumber : PySem.W.findIn K (.ref C_InvalidNumber) "__getattr__" = some none)
    (ii_InvalidNumber : PySem.W.findIn K (.ref C_InvalidNumber) "__init__" = some (some (.ref i_InvalidNumber)))
    (ti_InvalidNumber : PySem.W.typeIn K (.ref i_InvalidNumber) = some (.type "function"))
    (kc_InvalidNumber : PySem.W.keepIn K (.ref C_InvalidNumber) = true)
    (be_InvalidNumber : PySem.W.subIn K (.ref C_InvalidNumber) (.type "BaseException") = some true)
    (ev_InvalidNumber : PySem.W.subIn K (.ref C_InvalidNumber) (.type "ValueError") = some true)
    (ty_InvalidNumber : PySem.W.typeIn K (.ref C_InvalidNumber) = some (.type "type"))
    (hd_InvalidNumber : PySem.W.hasDictIn K C_InvalidNumber = true)
    (me_InvalidNumber : PySem.W.mroIn K C_InvalidNumber (.ref C_InvalidNumber) = some true)
    (l_InvalidNumber : K.lookup i_InvalidNumber = some ⟨ec_InvalidNumber, ed_InvalidNumber, .func (errFd "InvalidNumber.__init__" (defArgs s_InvalidNumber_init) (defBody s_InvalidNumber_init) (defScope s_InvalidNumber_init) c_InvalidNumber ekV_InvalidNumber edc_InvalidNumber epm_InvalidNumber ean_InvalidNumber (.ref k_InvalidNumber) ect_InvalidNumber), esl_InvalidNumber⟩)
    (q_InvalidNumber : PySem.W.codeIn K (.ref k_InvalidNumber) "InvalidNumber.__init__" = true)
    (lk_InvalidNumber : K.lookup k_InvalidNumber = some ⟨ecl_InvalidNumber, ecd_InvalidNumber, .fields evs_InvalidNumber, ecs_InvalidNumber⟩)
    (fl_InvalidNumber : evs_InvalidNumber[2]? = some (.str efl_InvalidNumber etf_InvalidNumber))
    (fi_InvalidNumber : ((PySem.Challenge.rw_fontgap_k01_ratio_in_lowest_terms.prog.main.file : Str) == efl_InvalidNumber) = true)
    (lc_InvalidNumber : K.lookup c_InvalidNumber = some ⟨ecl2_InvalidNumber, ecd2_InvalidNumber, .cell (some (.ref C_InvalidNumber)), ecs2_InvalidNumber⟩)
    (i1_InvalidNumber : PySem.W.findIn K (.ref C_InvalidNumber) "__class__" = some (some (.builtin "object.__class__")))
    (i4_InvalidNumber : PySem.W.mroIn K C_InvalidNumber (.type "object") = some true)
    (x_InvalidNumber_value : PySem.W.findIn K (.ref C_InvalidNumber) "value" = some none)
    (n_ValueError : PySem.W.nsIn K mainGlobals "ValueError" = some none)
    (n_abs : PySem.W.nsIn K mainGlobals "abs" = some none)
    (n_bool : PySem.W.nsIn K mainGlobals "bool" = some none)
    (n_int : PySem.W.nsIn K mainGlobals "int" = some none)
    (n_isinstance : PySem.W.nsIn K mainGlobals "isinstance" = some none)
    (n_len : PySem.W.nsIn K mainGlobals "len" = some none)
    (n_list : PySem.W.nsIn K mainGlobals "list" = some none)
    (n_range : PySem.W.nsIn K mainGlobals "range" = some none)
    (na_Ratio_top : NoAttr K C_Ratio "top")
    (na_Ratio_bottom : NoAttr K C_Ratio "bottom")
    (xm_IN_FE : PySem.W.exmOne K (.ref C_InvalidNumber) (.ref C_FontError) = some true)
    (ki_IN_VE : PySem.W.kitOne K (.ref C_InvalidNumber) (.type "ValueError") = some true)
    (ki_IN_IG : PySem.W.kitOne K (.ref C_InvalidNumber) (.ref C_InvalidGlyph) = some false)
    : ∃ fd : FuncData, (∀ (s : Shared) (v : Value), BindsTo s fd ⟨[v], []⟩ [(("_law_script" : Str), v)]) ∧ ∀ base : Heap, K.In base → base.Ns mainGlobals mg → FnOk PySem.Challenge.rw_fontgap_k01_ratio_in_lowest_terms.prog w K mg base CX0 6 fa fd (["_law_script"] : List Str) (sp_law K) := by
  have e := hfa.symm.trans (PySem.W.mg_of X G a_law)
  cases e
  have T : Txt PySem.Challenge.rw_fontgap_k01_ratio_in_lowest_terms.prog K mg { f_is_integer := f_is_integer, d_is_integer := PySem.W.fnOf "is_integer" "is_integer" (defArgs s_is_integer) (defBody s_is_integer) (defScope s_is_integer) .none kV_is_integer dc_is_integer pm_is_integer an_is_integer cd_is_integer ct_is_integer, f_greatest_divisor := f_greatest_divisor, d_greatest_divisor := PySem.W.fnOf "greatest_divisor" "greatest_divisor" (defArgs s_greatest_divisor) (defBody s_greatest_divisor) (defScope s_greatest_divisor) .none kV_greatest_divisor dc_greatest_divisor pm_greatest_divisor an_greatest_divisor cd_greatest_divisor ct_greatest_divisor, f_law_bag := f_law_bag, d_law_bag := PySem.W.fnOf "_law_bag" "_law_bag" (defArgs s_law_bag) (defBody s_law_bag) (defScope s_law_bag) .none kV_law_bag dc_law_bag pm_law_bag an_law_bag cd_law_bag ct_law_bag, f_law_take := f_law_take, d_law_take := PySem.W.fnOf "_law_take" "_law_take" (defArgs s_law_take) (defBody s_law_take) (defScope s_law_take) .none kV_law_take dc_law_take pm_law_take an_law_take cd_law_take ct_law_take, f_Ratio_init := f_Ratio_init, d_Ratio_init := PySem.W.fnOf "__init__" "Ratio.__init__" (defArgs s_Ratio_init) (defBody s_Ratio_init) (defScope s_Ratio_init) (.ref tp_Ratio_init) kV_Ratio_init dc_Ratio_init pm_Ratio_init an_Ratio_init cd_Ratio_init ct_Ratio_init, v1_Ratio_init := [.int 1 tk0_Ratio_init], f_law_int := f_law_int, d_law_int := PySem.W.fnOf "_law_int" "_law_int" (defArgs s_law_int) (defBody s_law_int) (defScope s_law_int) .none kV_law_int dc_law_int pm_law_int an_law_int cd_law_int ct_law_int, f_law_is := f_law_is, d_law_is := PySem.W.fnOf "_law_is" "_law_is" (defArgs s_law_is) (defBody s_law_is) (defScope s_law_is) .none kV_law_is dc_law_is pm_law_is an_law_is cd_law_is ct_law_is, f_law_lowest := f_law_lowest, d_law_lowest := PySem.W.fnOf "_law_lowest" "_law_lowest" (defArgs s_law_lowest) (defBody s_law_lowest) (defScope s_law_lowest) .none kV_law_lowest dc_law_lowest pm_law_lowest an_law_lowest cd_law_lowest ct_law_lowest, f_law_refusal := f_law_refusal, d_law_refusal := PySem.W.fnOf "_law_refusal" "_law_refusal" (defArgs s_law_refusal) (defBody s_law_refusal) (defScope s_law_refusal) .none kV_law_refusal dc_law_refusal pm_law_refusal an_law_refusal cd_law_refusal ct_law_refusal, f_law_odd_refused := f_law_odd_refused, d_law_odd_refused := PySem.W.fnOf "_law_odd_refused" "_law_odd_refused" (defArgs s_law_odd_refused) (defBody s_law_odd_refused) (defScope s_law_odd_refused) .none kV_law_odd_refused dc_law_odd_refused pm_law_odd_refused an_law_odd_refused cd_law_odd_refused ct_law_odd_refused, f_law := fa, d_law := PySem.W.fnOf "law" "law" (defArgs s_law) (defBody s_law) (defScope s_law) .none kV_law dc_law pm_law an_law cd_law ct_law, C_Ratio := C_Ratio, C_FontError := C_FontError, C_InvalidGlyph := C_InvalidGlyph, C_InvalidNumber := C_InvalidNumber, i_InvalidNumber := i_InvalidNumber, c_InvalidNumber := c_InvalidNumber, k_InvalidNumber := k_InvalidNumber } :=
    { F_is_integer := fun_mk (st := s_is_integer) l_is_integer q_is_integer k_is_integer,
      B_is_integer := (fun_mk (st := s_is_integer) l_is_integer q_is_integer k_is_integer).binds (fun _ _ _ _ _ _ us hl => match us, hl with | [_], _ => rfl),
      g_is_integer := PySem.W.mg_of X G a_is_integer,
      k_is_integer := k_is_integer,
      F_greatest_divisor := fun_mk (st := s_greatest_divisor) l_greatest_divisor q_greatest_divisor k_greatest_divisor,
      B_greatest_divisor := (fun_mk (st := s_greatest_divisor) l_greatest_divisor q_greatest_divisor k_greatest_divisor).binds (fun _ _ _ _ _ _ us hl => match us, hl with | [_, _], _ => rfl),
      g_greatest_divisor := PySem.W.mg_of X G a_greatest_divisor,
      k_greatest_divisor := k_greatest_divisor,
      F_law_bag := fun_mk (st := s_law_bag) l_law_bag q_law_bag k_law_bag,
      B_law_bag := (fun_mk (st := s_law_bag) l_law_bag q_law_bag k_law_bag).binds (fun _ _ _ _ _ _ us hl => match us, hl with | [_], _ => rfl),
      g_law_bag := PySem.W.mg_of X G a_law_bag,
      k_law_bag := k_law_bag,
      F_law_take := fun_mk (st := s_law_take) l_law_take q_law_take k_law_take,
      B_law_take := (fun_mk (st := s_law_take) l_law_take q_law_take k_law_take).binds (fun _ _ _ _ _ _ us hl => match us, hl with | [_, _], _ => rfl),
      g_law_take := PySem.W.mg_of X G a_law_take,
      k_law_take := k_law_take,
      F_Ratio_init := ⟨⟨_, _, _, _, _, _, _, _, _, _, rfl, l_Ratio_init, q_Ratio_init, .inr ⟨by simp, _, _, _, _, rfl, t_Ratio_init, rfl, (.cons ⟨_, rfl⟩ .nil)⟩, .inl rfl⟩, k_Ratio_init⟩,
      B_Ratio_init := FG.bindsD (its := [.int 1 tk0_Ratio_init]) (ds := []) l_Ratio_init t_Ratio_init (fun us hl => match us, hl with | [_, _, _], _ => ⟨_, rfl, rfl⟩),
      B1_Ratio_init := FG.bindsD (its := [.int 1 tk0_Ratio_init]) (ds := [.int 1 tk0_Ratio_init]) l_Ratio_init t_Ratio_init (fun us hl => match us, hl with | [_, _], _ => ⟨_, rfl, rfl⟩),
      V1_Ratio_init := (.cons ⟨_, rfl⟩ .nil),
      F_law_int := fun_mk (st := s_law_int) l_law_int q_law_int k_law_int,
      B_law_int := (fun_mk (st := s_law_int) l_law_int q_law_int k_law_int).binds (fun _ _ _ _ _ _ us hl => match us, hl with | [_], _ => rfl),
      g_law_int := PySem.W.mg_of X G a_law_int,
      k_law_int := k_law_int,
      F_law_is := fun_mk (st := s_law_is) l_law_is q_law_is k_law_is,
      B_law_is := (fun_mk (st := s_law_is) l_law_is q_law_is k_law_is).binds (fun _ _ _ _ _ _ us hl => match us, hl with | [_, _], _ => rfl),
      g_law_is := PySem.W.mg_of X G a_law_is,
      k_law_is := k_law_is,
      F_law_lowest := fun_mk (st := s_law_lowest) l_law_lowest q_law_lowest k_law_lowest,
      B_law_lowest := (fun_mk (st := s_law_lowest) l_law_lowest q_law_lowest k_law_lowest).binds (fun _ _ _ _ _ _ us hl => match us, hl with | [_, _], _ => rfl),
      g_law_lowest := PySem.W.mg_of X G a_law_lowest,
      k_law_lowest := k_law_lowest,
      F_law_refusal := fun_mk (st := s_law_refusal) l_law_refusal q_law_refusal k_law_refusal,
      B_law_refusal := (fun_mk (st := s_law_refusal) l_law_refusal q_law_refusal k_law_refusal).binds (fun _ _ _ _ _ _ us hl => match us, hl with | [_, _], _ => rfl),
      g_law_refusal := PySem.W.mg_of X G a_law_refusal,
      k_law_refusal := k_law_refusal,
      F_law_odd_refused := fun_mk (st := s_law_odd_refused) l_law_odd_refused q_law_odd_refused k_law_odd_refused,
      B_law_odd_refused := (fun_mk (st := s_law_odd_refused) l_law_odd_refused q_law_odd_refused k_law_odd_refused).binds (fun _ _ _ _ _ _ us hl => match us, hl with | [_], _ => rfl),
      g_law_odd_refused := PySem.W.mg_of X G a_law_odd_refused,
      k_law_odd_refused := k_law_odd_refused,
      F_law := fun_mk (st := s_law) l_law q_law k_law,
      B_law := (fun_mk (st := s_law) l_law q_law k_law).binds (fun _ _ _ _ _ _ us hl => match us, hl with | [_], _ => rfl),
      g_law := PySem.W.mg_of X G a_law,
      k_law := k_law,
      g_Ratio := PySem.W.mg_of X G a_Ratio,
      c_Ratio := ⟨pg_Ratio, hd_Ratio, po_Ratio, sa_Ratio⟩,
      I_Ratio := ⟨i1_Ratio, o2, o3, i4_Ratio⟩,
      M_Ratio := ⟨mk_Ratio, a_Ratio_init, i_Ratio_init, kc_Ratio⟩,
      g_FontError := PySem.W.mg_of X G a_FontError,
      g_InvalidGlyph := PySem.W.mg_of X G a_InvalidGlyph,
      E_InvalidNumber := { gC := PySem.W.mg_of X G a_InvalidNumber, cls := ⟨_, _, _, _, _, _, _, _, _, _, _, _, _, _, _, L_InvalidNumber, ve_InvalidNumber, al_InvalidNumber⟩, sa := sa_InvalidNumber, ga := ga_InvalidNumber, gg := gg_InvalidNumber, iC := ii_InvalidNumber, tC := ti_InvalidNumber, kC := kc_InvalidNumber, exC := be_InvalidNumber, veC := ev_InvalidNumber, tyC := ty_InvalidNumber, hdC := hd_InvalidNumber, meC := me_InvalidNumber, fn := ⟨_, _, _, _, _, _, _, _, l_InvalidNumber, q_InvalidNumber⟩, code := ⟨_, _, _, _, _, _, lk_InvalidNumber, fl_InvalidNumber, fi_InvalidNumber⟩, cell := ⟨_, _, _, lc_InvalidNumber⟩, opq := oq, sup := PySem.W.mg_none_of X G os, top := by rfl },
      Y_InvalidNumber := y_InvalidNumber,
      X_InvalidNumber := ⟨ga_InvalidNumber, gg_InvalidNumber, be_InvalidNumber, hd_InvalidNumber, i1_InvalidNumber, o2, o3, i4_InvalidNumber⟩,
      x_InvalidNumber_value := x_InvalidNumber_value,
      n_ValueError := PySem.W.mg_none_of X G n_ValueError,
      n_abs := PySem.W.mg_none_of X G n_abs,
      n_bool := PySem.W.mg_none_of X G n_bool,
      n_int := PySem.W.mg_none_of X G n_int,
      n_isinstance := PySem.W.mg_none_of X G n_isinstance,
      n_len := PySem.W.mg_none_of X G n_len,
      n_list := PySem.W.mg_none_of X G n_list,
      n_range := PySem.W.mg_none_of X G n_range,
      na_Ratio_top := na_Ratio_top,
      na_Ratio_bottom := na_Ratio_bottom,
      xm_IN_FE := xm_IN_FE,
      ki_IN_VE := ki_IN_VE,
      ki_IN_IG := ki_IN_IG }
  exact ⟨_, fun s v => .of_eq rfl, fun base _ _ => ok_law T⟩
theorem walk {q : Program} {loose : List Str} {XP : (Str → Option Value) → Heap → Prop} {YP : World → Heap → Prop} {d : DefRec} {K : Params → PySem.W.Frag} (hn : PySem.Challenge.rw_fontgap_k01_ratio_in_lowest_terms.most = some 63) (hdf : d.params.defaults = [])
    (hY : ∀ (w : World) (h : Heap), YP w h → (K w.params).In h)
    (F : ∀ (w : World) (mg : Str → Option Value) (fa : Addr) (h : Heap), (K w.params).In h → h.Ns mainGlobals mg → mg d.name = some (.ref fa) →
      ∃ fd : FuncData, (∀ (s : Shared) (u : Value), BindsTo s fd ⟨[u], []⟩ [(("_law_script" : Str), u)]) ∧ ∀ base : Heap, (K w.params).In base → base.Ns mainGlobals mg → FnOk PySem.Challenge.rw_fontgap_k01_ratio_in_lowest_terms.prog w (K w.params) mg base CX0 6 fa fd (["_law_script"] : List Str) (sp_law (K w.params))) :
    PySem.W.WalkO q loose XP YP PySem.Challenge.rw_fontgap_k01_ratio_in_lowest_terms.row.toRowW d [] (fun f vs => PySem.call f vs) :=
  L2.walk_of (n := 63) (k := 6) (x := "_law_script") (CX := fun _ => CX0) (sp := fun w => sp_law (K w.params)) hn (by decide) hdf ⟨rfl, by decide, by decide⟩ hY F (fun _ _ a ns hl _ hS => ⟨_, rfl, a, ns, rfl, hS, hl, fun _ => rfl⟩) fun _ _ _ _ _ z => z
end FG
open PySem PySem.W PyProof.Rows
set_option maxRecDepth 100000 in
set_option maxHeartbeats 0 in
theorem PySem.Challenge.cw_fontgap_k01_ratio_in_lowest_terms_holds : PySem.Challenge.rw_fontgap_k01_ratio_in_lowest_terms.Holds := by
  w_on; o_law; k_head; (case hw => w_witness2)
  k_fill
  refine FG.walk rfl rfl (fun w h Y => PySem.W.kIn_of Y) ?F
  case F =>
    intro w mg fa h KX G hmg
    refine' FG.all_mk KX G hmg ?a_Ratio ?a_FontError ?a_InvalidGlyph ?a_is_integer ?l_is_integer ?q_is_integer ?k_is_integer ?a_greatest_divisor ?l_greatest_divisor ?q_greatest_divisor ?k_greatest_divisor ?a_law_bag ?l_law_bag ?q_law_bag ?k_law_bag ?a_law_take ?l_law_take ?q_law_take ?k_law_take ?a_Ratio_init ?i_Ratio_init ?l_Ratio_init ?q_Ratio_init ?k_Ratio_init ?t_Ratio_init ?a_law_int ?l_law_int ?q_law_int ?k_law_int ?a_law_is ?l_law_is ?q_law_is ?k_law_is ?a_law_lowest ?l_law_lowest ?q_law_lowest ?k_law_lowest ?a_law_refusal ?l_law_refusal ?q_law_refusal ?k_law_refusal ?a_law_odd_refused ?l_law_odd_refused ?q_law_odd_refused ?k_law_odd_refused ?a_law ?l_law ?q_law ?k_law ?pg_Ratio ?hd_Ratio ?po_Ratio ?sa_Ratio ?i1_Ratio ?i4_Ratio ?mk_Ratio ?kc_Ratio ?o2 ?o3 ?oq ?os ?a_InvalidNumber ?L_InvalidNumber ?ve_InvalidNumber ?al_InvalidNumber ?sa_InvalidNumber ?ga_InvalidNumber ?gg_InvalidNumber ?ii_InvalidNumber ?ti_InvalidNumber ?kc_InvalidNumber ?be_InvalidNumber ?ev_InvalidNumber ?ty_InvalidNumber ?hd_InvalidNumber ?me_InvalidNumber ?l_InvalidNumber ?q_InvalidNumber ?lk_InvalidNumber ?fl_InvalidNumber ?fi_InvalidNumber ?lc_InvalidNumber ?i1_InvalidNumber ?i4_InvalidNumber ?x_InvalidNumber_value ?n_ValueError ?n_abs ?n_bool ?n_int ?n_isinstance ?n_len ?n_list ?n_range ?na_Ratio_top ?na_Ratio_bottom ?xm_IN_FE ?ki_IN_VE ?ki_IN_IG
    (case a_Ratio => first | k_is | rfl)
    (case a_FontError => first | k_is | rfl)
    (case a_InvalidGlyph => first | k_is | rfl)
    (case a_is_integer => first | k_is | rfl)
    (case l_is_integer => first | k_is | rfl)
    (case q_is_integer => first | k_is | rfl)
    (case k_is_integer => first | k_is | rfl)
    (case a_greatest_divisor => first | k_is | rfl)
    (case l_greatest_divisor => first | k_is | rfl)
    (case q_greatest_divisor => first | k_is | rfl)
    (case k_greatest_divisor => first | k_is | rfl)
    (case a_law_bag => first | k_is | rfl)
    (case l_law_bag => first | k_is | rfl)
    (case q_law_bag => first | k_is | rfl)
    (case k_law_bag => first | k_is | rfl)
    (case a_law_take => first | k_is | rfl)
    (case l_law_take => first | k_is | rfl)
    (case q_law_take => first | k_is | rfl)
    (case k_law_take => first | k_is | rfl)
    (case a_Ratio_init => first | k_is | rfl)
    (case i_Ratio_init => first | k_is | rfl)
    (case l_Ratio_init => first | k_is | rfl)
    (case q_Ratio_init => first | k_is | rfl)
    (case k_Ratio_init => first | k_is | rfl)
    (case t_Ratio_init => first | k_is | rfl)
    (case a_law_int => first | k_is | rfl)
    (case l_law_int => first | k_is | rfl)
    (case q_law_int => first | k_is | rfl)
    (case k_law_int => first | k_is | rfl)
    (case a_law_is => first | k_is | rfl)
    (case l_law_is => first | k_is | rfl)
    (case q_law_is => first | k_is | rfl)
    (case k_law_is => first | k_is | rfl)
    (case a_law_lowest => first | k_is | rfl)
    (case l_law_lowest => first | k_is | rfl)
    (case q_law_lowest => first | k_is | rfl)
    (case k_law_lowest => first | k_is | rfl)
    (case a_law_refusal => first | k_is | rfl)
    (case l_law_refusal => first | k_is | rfl)
    (case q_law_refusal => first | k_is | rfl)
    (case k_law_refusal => first | k_is | rfl)
    (case a_law_odd_refused => first | k_is | rfl)
    (case l_law_odd_refused => first | k_is | rfl)
    (case q_law_odd_refused => first | k_is | rfl)
    (case k_law_odd_refused => first | k_is | rfl)
    (case a_law => first | k_is | rfl)
    (case l_law => first | k_is | rfl)
    (case q_law => first | k_is | rfl)
    (case k_law => first | k_is | rfl)
    (case pg_Ratio => first | k_is | rfl)
    (case hd_Ratio => first | k_is | rfl)
    (case po_Ratio => first | k_is | rfl)
    (case sa_Ratio => first | k_is | rfl)
    (case i1_Ratio => first | k_is | rfl)
    (case i4_Ratio => first | k_is | rfl)
    (case mk_Ratio => first | k_is | rfl)
    (case kc_Ratio => first | k_is | rfl)
    (case o2 => first | k_is | rfl)
    (case o3 => first | k_is | rfl)
    (case oq => first | k_is | rfl)
    (case os => first | k_is | rfl)
    (case a_InvalidNumber => first | k_is | rfl)
    (case L_InvalidNumber => first | k_is | rfl)
    (case ve_InvalidNumber => decide +kernel)
    (case al_InvalidNumber => first | k_is | rfl)
    (case sa_InvalidNumber => first | k_is | rfl)
    (case ga_InvalidNumber => first | k_is | rfl)
    (case gg_InvalidNumber => first | k_is | rfl)
    (case ii_InvalidNumber => first | k_is | rfl)
    (case ti_InvalidNumber => first | k_is | rfl)
    (case kc_InvalidNumber => first | k_is | rfl)
    (case be_InvalidNumber => first | k_is | rfl)
    (case ev_InvalidNumber => first | k_is | rfl)
    (case ty_InvalidNumber => first | k_is | rfl)
    (case hd_InvalidNumber => first | k_is | rfl)
    (case me_InvalidNumber => first | k_is | rfl)
    (case l_InvalidNumber => first | k_is | rfl)
    (case q_InvalidNumber => first | k_is | rfl)
    (case lk_InvalidNumber => first | k_is | rfl)
    (case fl_InvalidNumber => rfl)
    (case fi_InvalidNumber => decide +kernel)
    (case lc_InvalidNumber => first | k_is | rfl)
    (case i1_InvalidNumber => first | k_is | rfl)
    (case i4_InvalidNumber => first | k_is | rfl)
    (case x_InvalidNumber_value => first | k_is | rfl)
    (case n_ValueError => first | k_is | rfl)
    (case n_abs => first | k_is | rfl)
    (case n_bool => first | k_is | rfl)
    (case n_int => first | k_is | rfl)
    (case n_isinstance => first | k_is | rfl)
    (case n_len => first | k_is | rfl)
    (case n_list => first | k_is | rfl)
    (case n_range => first | k_is | rfl)
    (case na_Ratio_top => first | k_is | rfl)
    (case na_Ratio_bottom => first | k_is | rfl)
    (case xm_IN_FE => first | k_is | rfl)
    (case ki_IN_VE => first | k_is | rfl)
    (case ki_IN_IG => first | k_is | rfl)
